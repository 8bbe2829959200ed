import PyProof.Rows.All
import Wide.All
import OpenK.AllK
import Wide.FinOn
import Lean
import PySem.Challenge.RW_pb0547_01
set_option linter.all false
section
open PySem PySem.W PyProof.Rows PySem.Spec PySem.Calls Builtin Builtin.ObjectAttr
set_option Elab.async false
namespace Mine
set_option maxRecDepth 100000
def ownExcIn (K : Frag) (C : Addr) : Bool := match K.lookup C with
  | some ⟨.type "type", _, .cls cd, sl⟩ => (match cd.mro, sl.toList with
    | [.ref C', .ref _, .type t1, .type t2, .type t3], [_, _, _, _, some (.builtin n), _] => C' == C && !cd.hasDel && cd.hasDict && t1 == "Exception" && t2 == "BaseException" && t3 == "object" && n == "Exception.__new__"
    | _, _ => false)
  | _ => false
abbrev excMro : List Value := [.type "Exception", .type "BaseException", .type "object"]
theorem ownExc_cls {K : Frag} {h : Heap} {C : Addr} (X : K.In h) (q : ownExcIn K C = true) : ∃ nm qn N bs A sn sub ab col dd k0 k1 k2 k3 k5,
    h.get? C = some (excClassObj nm qn C N bs (.ref A :: excMro) true sn sub ab col dd k0 k1 k2 k3 k5 "Exception.__new__") := by
  unfold ownExcIn at q
  split at q
  · rename_i dd cd sl ho
    split at q
    · rename_i C' A t1 t2 t3 k0 k1 k2 k3 n k5 hm hs
      simp only [Bool.and_eq_true, beq_iff_eq, Bool.not_eq_true'] at q
      obtain ⟨⟨⟨⟨⟨⟨rfl, hdel⟩, hdict⟩, rfl⟩, rfl⟩, rfl⟩, rfl⟩ := q
      obtain ⟨nm, bs, mro, ns, qn, hd, sn, sub, ab, col, del⟩ := cd
      dsimp only at hm hdel hdict
      subst hm hdel hdict
      have hsl : sl = #[k0, k1, k2, k3, some (.builtin "Exception.__new__"), k5] := by
        obtain ⟨l⟩ := sl
        simp only at hs
        rw [hs]
      subst hsl
      exact ⟨nm, qn, ns, bs, A, sn, sub, ab, col, dd, k0, k1, k2, k3, k5, X _ _ ho⟩
    · cases q
  · cases q
theorem excMro_has {A : Addr} : (Value.ref A :: excMro).contains (.type "Exception") = true ∧ (Value.ref A :: excMro).contains (.type "AttributeError") = false ∧ (Value.ref A :: excMro).contains (.type "NameError") = false ∧ (Value.ref A :: excMro).contains (.type "BaseException") = true := by
  refine ⟨?_, ?_, ?_, ?_⟩ <;> rfl
section
variable {M : Model} {A : Around} {E : Value → Shared → Prop} {h : Heap} {g : Array GenState} {d : Drawn} {t : Nat} {os : OsState}
variable {nm q : Str} {C N : Addr} {bs bm bmB : List Value} {hdct : Bool} {sn : List Str} {sub : List Value} {ab : Bool} {col : Option Bool} {dd : Option Addr} {k0 k1 k2 k3 k5 : Option Value} {B newId initId : String}
theorem oe_check_init (F : ExcBaseFacts B newId initId bmB) (hB : bm.contains (.type B) = true) {nid : String} {e : Addr} {oe : Obj} {rest : List Value} {Q : Unit → Shared → Prop}
    (hC : h.get? C = some (excClassObj nm q C N bs bm hdct sn sub ab col dd k0 k1 k2 k3 k5 nid)) (he : h.get? e = some oe) (hcls : oe.cls = .ref C) (hq : Q () ⟨h, g, d, t, os⟩) :
    wpAny M A (checkBuiltinCall initId ⟨.ref e :: rest, []⟩) Q E ⟨h, g, d, t, os⟩ := by
  have hcB : (Value.ref C :: bm).contains (.type B) = true := by rw [List.contains_cons, hB, Bool.or_true]
  have hshort := F.noStar
  simp only [checkBuiltinCall, F.initKind, F.initSplit, F.initRow]
  repeat (first | (with_reducible refine wpAny_loadPart_at he ?_; rw [hcls]) | with_reducible refine wpAny_loadPart_at hC ?_ | (with_reducible refine wpAny_isSubtype_exc hC ?_; rw [hcB]) | wp_step)
  refine wpAny_onRaise ?_
  rw [show ∀ (a b : String) (n : Nat), Bind.check ⟨.positional, "*", B, .self, [⟨"args", .varPos, false⟩]⟩ a b n (List.map (fun x => x.fst) ({ pos := Value.ref e :: rest } : Args).kw) = pure () from
    fun a b n => check_star_args _ _ _ _ _ _]
  exact wpAny_pure hq
end
section
variable {prog : Program} {w : World} {A : Around} {R : Result → Shared → Prop} {h : Heap} {g : Array GenState} {d : Drawn} {t : Nat} {os : OsState}
variable {nm q : Str} {C N : Addr} {bs bm bmB : List Value} {hdct : Bool} {sn : List Str} {sub : List Value} {ab : Bool} {col : Option Bool} {dd : Option Addr} {k0 k1 k2 k3 k5 : Option Value} {B newId initId sa owner : String}
theorem oe_new (F : ExcBaseFacts B newId initId bmB) (hB : bm.contains (.type B) = true) (hAt : bm.contains (.type "AttributeError") = false) (hNa : bm.contains (.type "NameError") = false) {rest : List Value} (hC : h.get? C = some (excClassObj nm q C N bs bm hdct sn sub ab col dd k0 k1 k2 k3 k5 newId))
    (hq : R (.ok (.ret (.ref (h.objs.size + 1)))) ⟨(h.push { cls := .type "tuple", data := .seq rest.toArray }).push
      { cls := .ref C, data := .fields #[.ref h.objs.size, .none, .none, .none, .bool false, .none] }, g, d, t, os⟩) (hrest : rest.length ≤ sizeLine) :
    codeAny (model prog w) A (.builtin newId ⟨.ref C :: rest, []⟩) R ⟨h, g, d, t, os⟩ := by
  have hends := F.ends
  have hcB : (Value.ref C :: bm).contains (.type B) = true := by rw [List.contains_cons, hB, Bool.or_true]
  have hcA : (Value.ref C :: bm).contains (.type "AttributeError") = false := by rw [List.contains_cons, hAt]; rfl
  have hcN : (Value.ref C :: bm).contains (.type "NameError") = false := by rw [List.contains_cons, hNa]; rfl
  refine codeAny_builtinAt F.entry ?_
  unfold Builtin.«BaseException.__new__»
  refine PySem.wpAt_bind ?_
  show PySem.wpAt _ _ _ (stack >>= _) _ _ _
  refine PySem.wpAt_bind (PySem.wpAt_stack fun p below => PySem.wpAt_of_wpAny ?_)
  wp_walk
  refine PySem.wpAt_of_wpAny ?_
  rw [F.owner]
  repeat (first | with_reducible refine wpAny_madeHere_exc F.canon hC ?_ | with_reducible refine wpAny_loadPart_at hC ?_ | (with_reducible refine wpAny_isSubtype_exc hC ?_; first | rw [hcB] | rw [hcA] | rw [hcN]) | wp_step)
  show R _ _
  rw [Heap.size_push]
  exact hq
/-- the object that BaseException.__new__ lays -/
abbrev excObj (C t : Addr) (dd : Option Addr) : Obj := { cls := .ref C, dict := dd, data := .fields #[.ref t, .none, .none, .none, .bool false, .none] }
theorem oe_make (F : ExcBaseFacts B newId initId bmB) (hB : bm.contains (.type B) = true) (hAt : bm.contains (.type "AttributeError") = false) (hNa : bm.contains (.type "NameError") = false) {rest : List Value} {fI : Addr} (hrest : rest.length ≤ sizeLine)
    (hC : h.get? C = some (excClassObj nm q C N bs bm hdct sn sub ab col dd k0 k1 k2 k3 k5 newId)) (hi : Looks (model prog w) h (typeLookup (.ref C) "__init__") (some (.ref fI))) (hb : ∀ self, Looks (model prog w) h (bindSpecial (.ref fI) self) (.ref fI, [self]))
    (hq : codeAny (model prog w) (A.under (.builtin "type.__call__" ⟨.ref C :: rest, []⟩)) (.call (.ref fI) ⟨.ref (h.objs.size + 1) :: rest, []⟩) (InitBack (h.objs.size + 1) R)
      ⟨(h.push { cls := .type "tuple", data := .seq rest.toArray }).push (excObj C h.objs.size none), g, d, t, os⟩) :
    codeAny (model prog w) A (.call (.ref C) ⟨rest, []⟩) R ⟨h, g, d, t, os⟩ := by
  have f1 := tc_lookup
  have f2 := tc_bind (.ref C)
  have hT : (⟨h, g, d, t, os⟩ : Shared).TypeIs (.ref C) "type" := ⟨_, hC, rfl⟩
  refine codeAny_of_tree ?_
  show wpAny _ _ (callAny (.ref C) _) _ _ _
  repeat (any_goals (first | assumption | with_reducible refine wpAny_loadPart_at hC ?_ | wp_step))
  refine ⟨rfl, ?_⟩
  refine codeAny_call_builtin_at (Code.quiet_builtin _ (by decide +kernel)) entry_typeCall (wpAny_check_type_call_sub hC ?_)
  show wpAny _ (A.under (.builtin "type.__call__" ⟨.ref C :: rest, []⟩)) (Builtin.«type.__call__» ⟨.ref C :: rest, []⟩) _ _ _
  repeat (first | with_reducible refine wpAny_loadPart_at hC ?_ | with_reducible refine wpAny_madeBy_exc hC ?_ | wp_step)
  refine codeAny_call_builtin_code (Code.quiet_builtin _ F.quiet) (wpAny_check_new_subU F hB .base hC ?_)
  refine oe_new F hB hAt hNa hC ?_ hrest
  show wpAny _ _ _ _ _ _
  have k : ∀ b o, h.get? b = some o → ((h.push { cls := .type "tuple", data := .seq rest.toArray }).push (excObj C h.objs.size none)).get? b = some o := fun b o e => Heap.get?_push_of_some _ (Heap.get?_push_of_some _ e)
  have hC₁ := k _ _ hC
  have hget : ((h.push { cls := .type "tuple", data := .seq rest.toArray }).push { cls := .ref C, data := .fields #[.ref h.objs.size, .none, .none, .none, .bool false, .none] }).get? (h.objs.size + 1) = some { cls := .ref C, data := .fields #[.ref h.objs.size, .none, .none, .none, .bool false, .none] } := by heap_get
  have hcC : (Value.ref C :: bm).contains (.ref C) = true := by simp
  have i1 := hi.keeps k
  have b1 := (hb (.ref (h.objs.size + 1))).keeps k
  unfold isInstance
  repeat (first | with_reducible refine wpAny_loadPart_at hget ?_ | (with_reducible refine wpAny_isSubtype_exc hC₁ ?_; rw [hcC]) | wp_step)
  show wpAny _ _ (typeLookup (.ref C) _) _ _ _
  refine i1.at ?_
  refine wpAny_holding (wpAny_bind (b1.at ?_))
  refine wpAny_bind (wpAny_call ?_)
  refine codeAny_mono hq fun r s' z => ?_
  rcases r with e | (v | _ | _ | _) <;> first | exact z | exact z.elim | skip
  obtain ⟨rfl, z⟩ := z
  exact wpAny_pure (wpAny_pure z)
/-- Exception.__init__(e, v) -/
theorem oe_init (F : ExcBaseFacts B newId initId bmB) (hB : bm.contains (.type B) = true) {nid : String} {e tt : Addr} {v : Value} {oc : Option Addr} {E : Value → Shared → Prop} {Q : Value → Shared → Prop}
    (hC : h.get? C = some (excClassObj nm q C N bs bm hdct sn sub ab col dd k0 k1 k2 k3 k5 nid)) (he : h.get? e = some { cls := .ref C, dict := oc, data := .fields #[.ref tt, .none, .none, .none, .bool false, .none] })
    (hq : ∀ h', h' = (h.push { cls := .type "tuple", data := .seq #[v] }).update e (Obj.mapFields (·.setIfInBounds 0 (.ref h.objs.size))) → Q .none ⟨h', g, d, t, os⟩) :
    wpAny (model prog w) A (call (.builtin initId) [.ref e, v]) Q E ⟨h, g, d, t, os⟩ := by
  have he' := Heap.get?_push_of_some { cls := .type "tuple", data := .seq #[v] } he
  refine wpAny_call (codeAny_call_builtin F.init.plain F.initEntry (oe_check_init F hB hC he rfl ?_))
  wp_walk
  exact hq _ rfl
/-- e.name = v where the exception has no dict yet -/
theorem oe_store {A₁ x tt : Addr} {name : Str} {tk : Tok} {v : Value} {Q : Fin → Shared → Prop} {E : Value → Shared → Prop} (SF : StoreFacts B bmB sa owner)
    (hC : h.get? C = some (excClassObj nm q C N bs (.ref A₁ :: bmB) true sn sub ab col dd k0 k1 k2 k3 k5 newId)) (ht : Looks (model prog w) h (typeLookup (.ref C) name) none)
    (hx : h.get? x = some { cls := .ref C, dict := none, data := .fields #[.ref tt, .none, .none, .none, .bool false, .none] })
    (hq : ∀ h' tk', (∀ b o, b ≠ x → h.get? b = some o → h'.get? b = some o) → (∃ d' o', h'.get? x = some { cls := .ref C, dict := some d', data := .fields #[.ref tt, .none, .none, .none, .bool false, .none] } ∧ h.get? d' = none ∧ h'.get? d' = some o') → Q (.done (.ret .none)) ⟨h', g, d, tk', os⟩) :
    wpAny (model prog w) A (Builtin.«object.__setattr__» ⟨[.ref x, .str name tk, v], []⟩) Q E ⟨h, g, d, t, os⟩ := by
  have hpass := SF.passes (.ref x)
  unfold Builtin.«object.__setattr__»
  repeat (first | rw [refuse_eq] | (rw [refuseLoop_ref, refuseLoop_ref, hpass]) | with_reducible refine wpAny_loadPart_at hx ?_ | with_reducible refine wpAny_mroOf_exc hC ?_ | with_reducible refine ht.at ?_ | wp_step)
  have hxs : x ≠ h.objs.size := Nat.ne_of_lt (Heap.lt_size hx)
  have hx₁ := Heap.get?_push_of_some (h := h) { cls := .type "dict", data := .dict #[] } hx
  have hD : ((h.push { cls := .type "dict", data := .dict #[] }).update x fun o => { cls := o.cls, dict := some h.objs.size, data := o.data, slots := o.slots }).get? h.objs.size = some (dictOf [] 0) :=
    (Heap.get?_update_ne _ _ _ _ hxs.symm).trans (Heap.get?_push_at rfl rfl)
  refine wpAny_askSetting (wpAny_pure ?_)
  refine wpAny_bind (wpAny_mkText (wpAny_bind (wpAny_loadPart hD ?_)))
  dsimp only
  rw [aRefKeyMayBeTheName_at]
  rw [if_neg (by simp)]
  refine wpAny_updatePart hD ?_
  refine wpAny_bind (wpAny_lookBehind (Heap.get?_update_self _ hD (by rw [putName_dict]; rfl)) (by rw [putName_dict]; exact pastItsLine_dict (by rw [sizeLine_eq]; show (1 : Nat) ≤ _; omega)) ?_)
  refine wpAny_pure (hq _ _ (fun b o hb e => ?_) ⟨h.objs.size, _, ?_, Heap.get?_none_of_le (Nat.le_refl _), Heap.get?_update_self _ hD (by rw [putName_dict]; rfl)⟩)
  · rw [Heap.get?_update_ne _ _ _ _ (Nat.ne_of_lt (Heap.lt_size e)), Heap.get?_update_ne _ _ _ _ hb]
    exact Heap.get?_push_of_some _ e
  · rw [Heap.get?_update_ne _ _ _ _ hxs]
    exact Heap.get?_update_self _ hx₁ rfl
end
end Mine
end
section
open PySem PySem.W PyProof.Rows PySem.Spec PySem.Calls PyProof.Rows.LCg
set_option Elab.async false
namespace Mine
/-- a plain field of an own class -/
def Field (K : Frag) (C : Addr) (a : Str) : Prop := plainGet K C a = true ∧ hasDictIn K C = true ∧ ∃ attr, findIn K (.ref C) a = some attr ∧ noGet K attr = true
/-- a def that stands at the top -/
def Global (K : Frag) (x : Str) (a : Addr) : Prop := nsIn K mainGlobals x = some (some (.ref a)) ∧ keepIn K (.ref a) = true
/-- a name of the builtins that the text does not bind -/
def BName (K : Frag) (x : Str) (v : Value) : Prop := nsIn K mainGlobals x = some none ∧ bootBuiltins x = some v ∧ x ≠ "__name__"
/-- a method of an own class -/
def Meth (K : Frag) (C : Addr) (a : Str) (g : Addr) : Prop := plainGet K C a = true ∧ findIn K (.ref C) a = some (some (.ref g)) ∧ isFn K (.ref g) = true ∧ keepIn K (.ref g) = true
/-- an own class with an own __init__ -/
def Cls (K : Frag) (C g : Addr) : Prop := makesIn K C = true ∧ findIn K (.ref C) "__init__" = some (some (.ref g)) ∧ isFn K (.ref g) = true
/-- a field that may be set -/
def Sets (K : Frag) (C : Addr) (nm : Str) : Prop := findIn K (.ref C) "__setattr__" = some (some (.builtin "object.__setattr__")) ∧ plainOver K C = true ∧ takerIn K C nm = some none ∧ hasDictIn K C = true
/-- the statements of the row's program -/
def stm (i : Nat) : Stmt := PySem.Challenge.pw_pb0547_01.main.body.getD i (.Pass ⟨0, 0, 0, 0⟩)
def fnB : Stmt → List Stmt
  | .FunctionDef _ _ b _ _ _ _ _ _ _ => b
  | _ => []
def fnS : Stmt → Scope
  | .FunctionDef _ _ _ _ _ _ s _ _ _ => s
  | _ => PySem.Challenge.pw_pb0547_01.main.scope
def clB : Stmt → List Stmt
  | .ClassDef _ _ _ b _ _ _ _ _ _ _ => b
  | _ => []
def mth (i j : Nat) : Stmt := (clB (stm i)).getD j (.Pass ⟨0, 0, 0, 0⟩)
def fnN : Stmt → Str
  | .FunctionDef n _ _ _ _ _ _ _ _ _ => n
  | _ => Str.ofString ""
def fnP : Stmt → Arguments
  | .FunctionDef _ a _ _ _ _ _ _ _ _ => a
  | _ => ⟨[], [], .none, [], [], .none, []⟩
/-- the function that a def of the text has made -/
def FnAt (K : Frag) (g : Addr) (st : Stmt) (q : Str) : Prop := ∃ (doc pm cdv ct oc : Value) (an od : Option Addr) (osl : Array (Option Value)), K.lookup g = some ⟨oc, od, .func (fnOf (fnN st) q (fnP st) (fnB st) (fnS st) .none .none doc pm an cdv ct), osl⟩ ∧ codeIn K cdv q = true
/-- what the walk asks of the head -/
structure Facts (K : Frag) : Prop where
  g_take : Global K (Str.ofString "_law_take") 286
  b_int : BName K (Str.ofString "int") (.type "int")
  b_len : BName K (Str.ofString "len") (.builtin "len")
  fd_89_kind : Field K 89 (Str.ofString "kind")
  fd_89_priority : Field K 89 (Str.ofString "priority")
  fd_89_may_drop : Field K 89 (Str.ofString "may_drop")
  fd_89_vlan : Field K 89 (Str.ofString "vlan")
  fd_123_target : Field K 123 (Str.ofString "target")
  fd_123_source : Field K 123 (Str.ofString "source")
  fd_123_tags : Field K 123 (Str.ofString "tags")
  fd_123_kind : Field K 123 (Str.ofString "kind")
  fd_123_payload : Field K 123 (Str.ofString "payload")
  fd_268_ports : Field K 268 (Str.ofString "ports")
  fd_268_inside : Field K 268 (Str.ofString "inside")
  fd_268_strict : Field K 268 (Str.ofString "strict")
  fd_179_outer : Field K 179 (Str.ofString "outer")
  fd_179_by_inner : Field K 179 (Str.ofString "by_inner")
  me_268_set_customer : Meth K 268 (Str.ofString "set_customer") 204
  me_268_set_inner : Meth K 268 (Str.ofString "set_inner") 211
  me_268_outer_of : Meth K 268 (Str.ofString "outer_of") 218
  me_268_put_on : Meth K 268 (Str.ofString "put_on") 225
  me_268_taken_off : Meth K 268 (Str.ofString "taken_off") 232
  me_268_translate : Meth K 268 (Str.ofString "translate") 239
  me_268_set_strict : Meth K 268 (Str.ofString "set_strict") 246
  me_268_came_in : Meth K 268 (Str.ofString "came_in") 253
  me_268_goes_out : Meth K 268 (Str.ofString "goes_out") 258
  me_268_turned : Meth K 268 (Str.ofString "turned") 265
  me_89_told : Meth K 89 (Str.ofString "told") 86
  me_123_told : Meth K 123 (Str.ofString "told") 112
  gl_with_tags : Global K (Str.ofString "with_tags") 134
  gl_pushed : Global K (Str.ofString "pushed") 141
  gl_outer_tag : Global K (Str.ofString "outer_tag") 148
  gl_popped : Global K (Str.ofString "popped") 155
  gl_with_vlan : Global K (Str.ofString "with_vlan") 162
  gl_law_pool : Global K (Str.ofString "_law_pool") 279
  gl_law_one : Global K (Str.ofString "_law_one") 293
  gl_law_frame : Global K (Str.ofString "_law_frame") 300
  gl_law_built : Global K (Str.ofString "_law_built") 307
  gl_law_outer : Global K (Str.ofString "_law_outer") 314
  gl_law_tunnel_right : Global K (Str.ofString "_law_tunnel_right") 321
  gl_law_taken_right : Global K (Str.ofString "_law_taken_right") 328
  gl_law_translations : Global K (Str.ofString "_law_translations") 335
  gl_law_turned : Global K (Str.ofString "_law_turned") 342
  gl_law_translated_right : Global K (Str.ofString "_law_translated_right") 347
  gl_Tag : Global K (Str.ofString "Tag") 89
  gl_Frame : Global K (Str.ofString "Frame") 123
  gl_TunnelPort : Global K (Str.ofString "TunnelPort") 179
  gl_Tunnels : Global K (Str.ofString "Tunnels") 268
  cl_89 : Cls K 89 79
  cl_123 : Cls K 123 107
  cl_179 : Cls K 179 176
  cl_268 : Cls K 268 197
  se_89_kind : Sets K 89 (Str.ofString "kind")
  se_89_priority : Sets K 89 (Str.ofString "priority")
  se_89_may_drop : Sets K 89 (Str.ofString "may_drop")
  se_89_vlan : Sets K 89 (Str.ofString "vlan")
  se_123_target : Sets K 123 (Str.ofString "target")
  se_123_source : Sets K 123 (Str.ofString "source")
  se_123_tags : Sets K 123 (Str.ofString "tags")
  se_123_kind : Sets K 123 (Str.ofString "kind")
  se_123_payload : Sets K 123 (Str.ofString "payload")
  se_268_ports : Sets K 268 (Str.ofString "ports")
  se_268_inside : Sets K 268 (Str.ofString "inside")
  se_268_strict : Sets K 268 (Str.ofString "strict")
  se_179_outer : Sets K 179 (Str.ofString "outer")
  se_179_by_inner : Sets K 179 (Str.ofString "by_inner")
  b_tuple : BName K (Str.ofString "tuple") (.type "tuple")
  b_bytes : BName K (Str.ofString "bytes") (.type "bytes")
  gv_MOST_TAGS : nsIn K mainGlobals (Str.ofString "MOST_TAGS") = some (some (.int 4 399))
  gv_PROVIDER_KIND : nsIn K mainGlobals (Str.ofString "PROVIDER_KIND") = some (some (.int 34984 397))
  b_range : BName K (Str.ofString "range") (.type "range")
  b_dict : BName K (Str.ofString "dict") (.type "dict")
  b_sorted : BName K (Str.ofString "sorted") (.builtin "sorted")
  ownExc63 : ownExcIn K 63 = true
  init63 : findIn K (.ref 63) "__init__" = some (some (.ref 35))
  fn35 : typeIn K (.ref 35) = some (.type "function")
  sa63 : findIn K (.ref 63) "__setattr__" = some (some (.builtin "object.__setattr__"))
  msg63 : findIn K (.ref 63) "message" = some none
  sub63 : subIn K (.ref 63) (.type "object") = some true
  einit : findCls K (.type "Exception") (.type "type") "__init__" = some (.val (.builtin "Exception.__init__"))
  b_exception : BName K (Str.ofString "Exception") (.type "Exception")
  gl_TableError : Global K (Str.ofString "TableError") 63
  te_name : KtsName K (Str.ofString "TableError") (.ref 63)
  te_one : exmOne K (.ref 63) (.ref 63) = some true
  b_max : BName K (Str.ofString "max") (.builtin "max")
  fn_35 : FnAt K 35 (mth 2 0) (Str.ofString "SwitchError.__init__")
  fn_79 : FnAt K 79 (mth 7 0) (Str.ofString "Tag.__init__")
  fn_86 : FnAt K 86 (mth 7 1) (Str.ofString "Tag.told")
  fn_107 : FnAt K 107 (mth 8 0) (Str.ofString "Frame.__init__")
  fn_112 : FnAt K 112 (mth 8 1) (Str.ofString "Frame.told")
  fn_134 : FnAt K 134 (stm 10) (Str.ofString "with_tags")
  fn_141 : FnAt K 141 (stm 11) (Str.ofString "pushed")
  fn_148 : FnAt K 148 (stm 12) (Str.ofString "outer_tag")
  fn_155 : FnAt K 155 (stm 13) (Str.ofString "popped")
  fn_162 : FnAt K 162 (stm 14) (Str.ofString "with_vlan")
  fn_176 : FnAt K 176 (mth 18 0) (Str.ofString "TunnelPort.__init__")
  fn_197 : FnAt K 197 (mth 19 0) (Str.ofString "Tunnels.__init__")
  fn_204 : FnAt K 204 (mth 19 1) (Str.ofString "Tunnels.set_customer")
  fn_211 : FnAt K 211 (mth 19 2) (Str.ofString "Tunnels.set_inner")
  fn_218 : FnAt K 218 (mth 19 3) (Str.ofString "Tunnels.outer_of")
  fn_225 : FnAt K 225 (mth 19 4) (Str.ofString "Tunnels.put_on")
  fn_232 : FnAt K 232 (mth 19 5) (Str.ofString "Tunnels.taken_off")
  fn_239 : FnAt K 239 (mth 19 6) (Str.ofString "Tunnels.translate")
  fn_246 : FnAt K 246 (mth 19 7) (Str.ofString "Tunnels.set_strict")
  fn_253 : FnAt K 253 (mth 19 8) (Str.ofString "Tunnels.came_in")
  fn_258 : FnAt K 258 (mth 19 9) (Str.ofString "Tunnels.goes_out")
  fn_265 : FnAt K 265 (mth 19 10) (Str.ofString "Tunnels.turned")
  fn_279 : FnAt K 279 (stm 21) (Str.ofString "_law_pool")
  fn_286 : FnAt K 286 (stm 22) (Str.ofString "_law_take")
  fn_293 : FnAt K 293 (stm 23) (Str.ofString "_law_one")
  fn_300 : FnAt K 300 (stm 24) (Str.ofString "_law_frame")
  fn_307 : FnAt K 307 (stm 25) (Str.ofString "_law_built")
  fn_314 : FnAt K 314 (stm 26) (Str.ofString "_law_outer")
  fn_321 : FnAt K 321 (stm 27) (Str.ofString "_law_tunnel_right")
  fn_328 : FnAt K 328 (stm 28) (Str.ofString "_law_taken_right")
  fn_335 : FnAt K 335 (stm 29) (Str.ofString "_law_translations")
  fn_342 : FnAt K 342 (stm 30) (Str.ofString "_law_turned")
  fn_347 : FnAt K 347 (stm 31) (Str.ofString "_law_translated_right")
/-- a world, and the head that the walk stands upon -/
structure Wd extends World where
  K : Frag
  V : Program
  F : Facts K
theorem g_take (w : Wd) : Global w.K (Str.ofString "_law_take") 286 := w.F.g_take
theorem b_int (w : Wd) : BName w.K (Str.ofString "int") (.type "int") := w.F.b_int
theorem b_len (w : Wd) : BName w.K (Str.ofString "len") (.builtin "len") := w.F.b_len
theorem fd_89_kind (w : Wd) : Field w.K 89 (Str.ofString "kind") := w.F.fd_89_kind
theorem fd_89_priority (w : Wd) : Field w.K 89 (Str.ofString "priority") := w.F.fd_89_priority
theorem fd_89_may_drop (w : Wd) : Field w.K 89 (Str.ofString "may_drop") := w.F.fd_89_may_drop
theorem fd_89_vlan (w : Wd) : Field w.K 89 (Str.ofString "vlan") := w.F.fd_89_vlan
theorem fd_123_target (w : Wd) : Field w.K 123 (Str.ofString "target") := w.F.fd_123_target
theorem fd_123_source (w : Wd) : Field w.K 123 (Str.ofString "source") := w.F.fd_123_source
theorem fd_123_tags (w : Wd) : Field w.K 123 (Str.ofString "tags") := w.F.fd_123_tags
theorem fd_123_kind (w : Wd) : Field w.K 123 (Str.ofString "kind") := w.F.fd_123_kind
theorem fd_123_payload (w : Wd) : Field w.K 123 (Str.ofString "payload") := w.F.fd_123_payload
theorem fd_268_ports (w : Wd) : Field w.K 268 (Str.ofString "ports") := w.F.fd_268_ports
theorem fd_268_inside (w : Wd) : Field w.K 268 (Str.ofString "inside") := w.F.fd_268_inside
theorem fd_268_strict (w : Wd) : Field w.K 268 (Str.ofString "strict") := w.F.fd_268_strict
theorem fd_179_outer (w : Wd) : Field w.K 179 (Str.ofString "outer") := w.F.fd_179_outer
theorem fd_179_by_inner (w : Wd) : Field w.K 179 (Str.ofString "by_inner") := w.F.fd_179_by_inner
theorem me_268_set_customer (w : Wd) : Meth w.K 268 (Str.ofString "set_customer") 204 := w.F.me_268_set_customer
theorem me_268_set_inner (w : Wd) : Meth w.K 268 (Str.ofString "set_inner") 211 := w.F.me_268_set_inner
theorem me_268_outer_of (w : Wd) : Meth w.K 268 (Str.ofString "outer_of") 218 := w.F.me_268_outer_of
theorem me_268_put_on (w : Wd) : Meth w.K 268 (Str.ofString "put_on") 225 := w.F.me_268_put_on
theorem me_268_taken_off (w : Wd) : Meth w.K 268 (Str.ofString "taken_off") 232 := w.F.me_268_taken_off
theorem me_268_translate (w : Wd) : Meth w.K 268 (Str.ofString "translate") 239 := w.F.me_268_translate
theorem me_268_set_strict (w : Wd) : Meth w.K 268 (Str.ofString "set_strict") 246 := w.F.me_268_set_strict
theorem me_268_came_in (w : Wd) : Meth w.K 268 (Str.ofString "came_in") 253 := w.F.me_268_came_in
theorem me_268_goes_out (w : Wd) : Meth w.K 268 (Str.ofString "goes_out") 258 := w.F.me_268_goes_out
theorem me_268_turned (w : Wd) : Meth w.K 268 (Str.ofString "turned") 265 := w.F.me_268_turned
theorem me_89_told (w : Wd) : Meth w.K 89 (Str.ofString "told") 86 := w.F.me_89_told
theorem me_123_told (w : Wd) : Meth w.K 123 (Str.ofString "told") 112 := w.F.me_123_told
theorem gl_with_tags (w : Wd) : Global w.K (Str.ofString "with_tags") 134 := w.F.gl_with_tags
theorem gl_pushed (w : Wd) : Global w.K (Str.ofString "pushed") 141 := w.F.gl_pushed
theorem gl_outer_tag (w : Wd) : Global w.K (Str.ofString "outer_tag") 148 := w.F.gl_outer_tag
theorem gl_popped (w : Wd) : Global w.K (Str.ofString "popped") 155 := w.F.gl_popped
theorem gl_with_vlan (w : Wd) : Global w.K (Str.ofString "with_vlan") 162 := w.F.gl_with_vlan
theorem gl_law_pool (w : Wd) : Global w.K (Str.ofString "_law_pool") 279 := w.F.gl_law_pool
theorem gl_law_one (w : Wd) : Global w.K (Str.ofString "_law_one") 293 := w.F.gl_law_one
theorem gl_law_frame (w : Wd) : Global w.K (Str.ofString "_law_frame") 300 := w.F.gl_law_frame
theorem gl_law_built (w : Wd) : Global w.K (Str.ofString "_law_built") 307 := w.F.gl_law_built
theorem gl_law_outer (w : Wd) : Global w.K (Str.ofString "_law_outer") 314 := w.F.gl_law_outer
theorem gl_law_tunnel_right (w : Wd) : Global w.K (Str.ofString "_law_tunnel_right") 321 := w.F.gl_law_tunnel_right
theorem gl_law_taken_right (w : Wd) : Global w.K (Str.ofString "_law_taken_right") 328 := w.F.gl_law_taken_right
theorem gl_law_translations (w : Wd) : Global w.K (Str.ofString "_law_translations") 335 := w.F.gl_law_translations
theorem gl_law_turned (w : Wd) : Global w.K (Str.ofString "_law_turned") 342 := w.F.gl_law_turned
theorem gl_law_translated_right (w : Wd) : Global w.K (Str.ofString "_law_translated_right") 347 := w.F.gl_law_translated_right
theorem gl_Tag (w : Wd) : Global w.K (Str.ofString "Tag") 89 := w.F.gl_Tag
theorem gl_Frame (w : Wd) : Global w.K (Str.ofString "Frame") 123 := w.F.gl_Frame
theorem gl_TunnelPort (w : Wd) : Global w.K (Str.ofString "TunnelPort") 179 := w.F.gl_TunnelPort
theorem gl_Tunnels (w : Wd) : Global w.K (Str.ofString "Tunnels") 268 := w.F.gl_Tunnels
theorem cl_89 (w : Wd) : Cls w.K 89 79 := w.F.cl_89
theorem cl_123 (w : Wd) : Cls w.K 123 107 := w.F.cl_123
theorem cl_179 (w : Wd) : Cls w.K 179 176 := w.F.cl_179
theorem cl_268 (w : Wd) : Cls w.K 268 197 := w.F.cl_268
theorem se_89_kind (w : Wd) : Sets w.K 89 (Str.ofString "kind") := w.F.se_89_kind
theorem se_89_priority (w : Wd) : Sets w.K 89 (Str.ofString "priority") := w.F.se_89_priority
theorem se_89_may_drop (w : Wd) : Sets w.K 89 (Str.ofString "may_drop") := w.F.se_89_may_drop
theorem se_89_vlan (w : Wd) : Sets w.K 89 (Str.ofString "vlan") := w.F.se_89_vlan
theorem se_123_target (w : Wd) : Sets w.K 123 (Str.ofString "target") := w.F.se_123_target
theorem se_123_source (w : Wd) : Sets w.K 123 (Str.ofString "source") := w.F.se_123_source
theorem se_123_tags (w : Wd) : Sets w.K 123 (Str.ofString "tags") := w.F.se_123_tags
theorem se_123_kind (w : Wd) : Sets w.K 123 (Str.ofString "kind") := w.F.se_123_kind
theorem se_123_payload (w : Wd) : Sets w.K 123 (Str.ofString "payload") := w.F.se_123_payload
theorem se_268_ports (w : Wd) : Sets w.K 268 (Str.ofString "ports") := w.F.se_268_ports
theorem se_268_inside (w : Wd) : Sets w.K 268 (Str.ofString "inside") := w.F.se_268_inside
theorem se_268_strict (w : Wd) : Sets w.K 268 (Str.ofString "strict") := w.F.se_268_strict
theorem se_179_outer (w : Wd) : Sets w.K 179 (Str.ofString "outer") := w.F.se_179_outer
theorem se_179_by_inner (w : Wd) : Sets w.K 179 (Str.ofString "by_inner") := w.F.se_179_by_inner
theorem b_tuple (w : Wd) : BName w.K (Str.ofString "tuple") (.type "tuple") := w.F.b_tuple
theorem b_bytes (w : Wd) : BName w.K (Str.ofString "bytes") (.type "bytes") := w.F.b_bytes
theorem gv_MOST_TAGS (w : Wd) : nsIn w.K mainGlobals (Str.ofString "MOST_TAGS") = some (some (.int 4 399)) := w.F.gv_MOST_TAGS
theorem gv_PROVIDER_KIND (w : Wd) : nsIn w.K mainGlobals (Str.ofString "PROVIDER_KIND") = some (some (.int 34984 397)) := w.F.gv_PROVIDER_KIND
theorem b_range (w : Wd) : BName w.K (Str.ofString "range") (.type "range") := w.F.b_range
theorem b_dict (w : Wd) : BName w.K (Str.ofString "dict") (.type "dict") := w.F.b_dict
theorem b_sorted (w : Wd) : BName w.K (Str.ofString "sorted") (.builtin "sorted") := w.F.b_sorted
theorem ownExc63 (w : Wd) : ownExcIn w.K 63 = true := w.F.ownExc63
theorem init63 (w : Wd) : findIn w.K (.ref 63) "__init__" = some (some (.ref 35)) := w.F.init63
theorem fn35 (w : Wd) : typeIn w.K (.ref 35) = some (.type "function") := w.F.fn35
theorem sa63 (w : Wd) : findIn w.K (.ref 63) "__setattr__" = some (some (.builtin "object.__setattr__")) := w.F.sa63
theorem msg63 (w : Wd) : findIn w.K (.ref 63) "message" = some none := w.F.msg63
theorem sub63 (w : Wd) : subIn w.K (.ref 63) (.type "object") = some true := w.F.sub63
theorem einit (w : Wd) : findCls w.K (.type "Exception") (.type "type") "__init__" = some (.val (.builtin "Exception.__init__")) := w.F.einit
theorem b_exception (w : Wd) : BName w.K (Str.ofString "Exception") (.type "Exception") := w.F.b_exception
theorem gl_TableError (w : Wd) : Global w.K (Str.ofString "TableError") 63 := w.F.gl_TableError
theorem te_name (w : Wd) : KtsName w.K (Str.ofString "TableError") (.ref 63) := w.F.te_name
theorem te_one (w : Wd) : exmOne w.K (.ref 63) (.ref 63) = some true := w.F.te_one
theorem b_max (w : Wd) : BName w.K (Str.ofString "max") (.builtin "max") := w.F.b_max
theorem fn_35 (w : Wd) : FnAt w.K 35 (mth 2 0) (Str.ofString "SwitchError.__init__") := w.F.fn_35
theorem fn_79 (w : Wd) : FnAt w.K 79 (mth 7 0) (Str.ofString "Tag.__init__") := w.F.fn_79
theorem fn_86 (w : Wd) : FnAt w.K 86 (mth 7 1) (Str.ofString "Tag.told") := w.F.fn_86
theorem fn_107 (w : Wd) : FnAt w.K 107 (mth 8 0) (Str.ofString "Frame.__init__") := w.F.fn_107
theorem fn_112 (w : Wd) : FnAt w.K 112 (mth 8 1) (Str.ofString "Frame.told") := w.F.fn_112
theorem fn_134 (w : Wd) : FnAt w.K 134 (stm 10) (Str.ofString "with_tags") := w.F.fn_134
theorem fn_141 (w : Wd) : FnAt w.K 141 (stm 11) (Str.ofString "pushed") := w.F.fn_141
theorem fn_148 (w : Wd) : FnAt w.K 148 (stm 12) (Str.ofString "outer_tag") := w.F.fn_148
theorem fn_155 (w : Wd) : FnAt w.K 155 (stm 13) (Str.ofString "popped") := w.F.fn_155
theorem fn_162 (w : Wd) : FnAt w.K 162 (stm 14) (Str.ofString "with_vlan") := w.F.fn_162
theorem fn_176 (w : Wd) : FnAt w.K 176 (mth 18 0) (Str.ofString "TunnelPort.__init__") := w.F.fn_176
theorem fn_197 (w : Wd) : FnAt w.K 197 (mth 19 0) (Str.ofString "Tunnels.__init__") := w.F.fn_197
theorem fn_204 (w : Wd) : FnAt w.K 204 (mth 19 1) (Str.ofString "Tunnels.set_customer") := w.F.fn_204
theorem fn_211 (w : Wd) : FnAt w.K 211 (mth 19 2) (Str.ofString "Tunnels.set_inner") := w.F.fn_211
theorem fn_218 (w : Wd) : FnAt w.K 218 (mth 19 3) (Str.ofString "Tunnels.outer_of") := w.F.fn_218
theorem fn_225 (w : Wd) : FnAt w.K 225 (mth 19 4) (Str.ofString "Tunnels.put_on") := w.F.fn_225
theorem fn_232 (w : Wd) : FnAt w.K 232 (mth 19 5) (Str.ofString "Tunnels.taken_off") := w.F.fn_232
theorem fn_239 (w : Wd) : FnAt w.K 239 (mth 19 6) (Str.ofString "Tunnels.translate") := w.F.fn_239
theorem fn_246 (w : Wd) : FnAt w.K 246 (mth 19 7) (Str.ofString "Tunnels.set_strict") := w.F.fn_246
theorem fn_253 (w : Wd) : FnAt w.K 253 (mth 19 8) (Str.ofString "Tunnels.came_in") := w.F.fn_253
theorem fn_258 (w : Wd) : FnAt w.K 258 (mth 19 9) (Str.ofString "Tunnels.goes_out") := w.F.fn_258
theorem fn_265 (w : Wd) : FnAt w.K 265 (mth 19 10) (Str.ofString "Tunnels.turned") := w.F.fn_265
theorem fn_279 (w : Wd) : FnAt w.K 279 (stm 21) (Str.ofString "_law_pool") := w.F.fn_279
theorem fn_286 (w : Wd) : FnAt w.K 286 (stm 22) (Str.ofString "_law_take") := w.F.fn_286
theorem fn_293 (w : Wd) : FnAt w.K 293 (stm 23) (Str.ofString "_law_one") := w.F.fn_293
theorem fn_300 (w : Wd) : FnAt w.K 300 (stm 24) (Str.ofString "_law_frame") := w.F.fn_300
theorem fn_307 (w : Wd) : FnAt w.K 307 (stm 25) (Str.ofString "_law_built") := w.F.fn_307
theorem fn_314 (w : Wd) : FnAt w.K 314 (stm 26) (Str.ofString "_law_outer") := w.F.fn_314
theorem fn_321 (w : Wd) : FnAt w.K 321 (stm 27) (Str.ofString "_law_tunnel_right") := w.F.fn_321
theorem fn_328 (w : Wd) : FnAt w.K 328 (stm 28) (Str.ofString "_law_taken_right") := w.F.fn_328
theorem fn_335 (w : Wd) : FnAt w.K 335 (stm 29) (Str.ofString "_law_translations") := w.F.fn_335
theorem fn_342 (w : Wd) : FnAt w.K 342 (stm 30) (Str.ofString "_law_turned") := w.F.fn_342
theorem fn_347 (w : Wd) : FnAt w.K 347 (stm 31) (Str.ofString "_law_translated_right") := w.F.fn_347
end Mine
end
section
open PySem PySem.W PyProof.Rows PySem.Spec PySem.Calls PyProof.Rows.LCg
set_option Elab.async false
namespace Mine
set_option maxRecDepth 100000
set_option linter.unusedVariables false
/-- an entry of a written dict under a written key -/
noncomputable abbrev de (P : Params) (k : Str) (t : Nat) (v : Value) : DictEntry := ⟨PyData.keyHash P k, .str k t, v⟩
/-- what the text's top makes, object by object -/
noncomputable def o_43 (P : Params) : Obj := ⟨(.type "tuple"), none, (.seq ⟨[]⟩ 0), ⟨[]⟩⟩
noncomputable def o_44 (P : Params) : Obj := ⟨.none, none, (.fields ⟨[]⟩), ⟨[]⟩⟩
noncomputable def o_45 (P : Params) : Obj := ⟨(.type "code"), none, (.fields ⟨[(.str "<module>" 182), (.str "<module>" 183), (.str "/claim/cut.py" 184), (.int 1 0), (.int 0 0), (.int 0 0), (.int 0 0), (.int 0 0), (.ref 11), (.bool false), (.int 181 0), (.ref 12), .none, .none, .none, .none, (.int 185 0), (.int 1 0), (.str "/claim/cut.py" 186)]⟩), ⟨[]⟩⟩
noncomputable def o_46 (P : Params) : Obj := ⟨(.type "frame"), none, .plain, ⟨[(some (.ref 13)), (some (.ref 3)), (some (.ref 3)), none, (some (.str "__main__" 164)), none, (some (.ref 0))]⟩⟩
noncomputable def o_49 (P : Params) : Obj := ⟨.none, none, (.dict ⟨[de P "type.__subclasses__.Exception.0" 221 (.int 38 0), de P "type.__subclasses__.Exception.n" 222 (.int 1 0)]⟩ 2), ⟨[]⟩⟩
noncomputable def o_50 (P : Params) : Obj := ⟨(.type "dict"), none, (.dict ⟨[de P "__name__" 165 (.str "switchloom.errors" 194), de P "__doc__" 166 .none, de P "__package__" 167 .none, de P "__loader__" 168 (.builtin "__main__.__loader__#opaque"), de P "__spec__" 169 .none, de P "__annotations__" 170 (.ref 6), de P "__builtins__" 171 (.ref 4), de P "__file__" 173 (.str "/claim/cut.py" 172), de P "__cached__" 174 .none, de P "_wall" 193 (.ref 21), de P "SwitchError" 224 (.ref 38)]⟩ 11), ⟨[]⟩⟩
noncomputable def o_51 (P : Params) : Obj := ⟨.none, none, (.fields ⟨[(.int 1 0), (.int 0 0), (.ref 20), (.int 5 0), (.int 0 0), (.ref 27)]⟩), ⟨[]⟩⟩
noncomputable def o_52 (P : Params) : Obj := ⟨(.type "tuple"), none, (.seq ⟨[]⟩ 0), ⟨[]⟩⟩
noncomputable def o_53 (P : Params) : Obj := ⟨.none, none, (.fields ⟨[]⟩), ⟨[]⟩⟩
noncomputable def o_54 (P : Params) : Obj := ⟨(.type "tuple"), none, (.seq ⟨[(.str "k" 190)]⟩ 0), ⟨[]⟩⟩
noncomputable def o_55 (P : Params) : Obj := ⟨(.type "tuple"), none, (.seq ⟨[]⟩ 0), ⟨[]⟩⟩
noncomputable def o_56 (P : Params) : Obj := ⟨.none, none, (.func ⟨"_wall", "_wall", (fnP (stm 0)), (.stmts (fnB (stm 0))), (fnS (stm 0)), 0, [], .none, .none, .none, .none, none, .none, .none, 0⟩), ⟨[]⟩⟩
noncomputable def o_57 (P : Params) : Obj := ⟨(.type "code"), none, (.fields ⟨[(.str "_wall" 187), (.str "_wall" 188), (.str "/claim/cut.py" 189), (.int 1 0), (.int 1 0), (.int 0 0), (.int 0 0), (.int 3 0), (.ref 15), (.bool true), (.int 181 0), (.ref 16), .none, (.ref 17), (.ref 18), (.ref 19), (.int 191 0), (.int 1 0), (.str "/claim/cut.py" 192)]⟩), ⟨[]⟩⟩
noncomputable def o_58 (P : Params) : Obj := ⟨(.type "function"), none, (.func ⟨"_wall", "_wall", (fnP (stm 0)), (.stmts (fnB (stm 0))), (fnS (stm 0)), 3, [], .none, .none, .none, (.str "__main__" 164), none, (.ref 20), .none, 0⟩), ⟨[]⟩⟩
noncomputable def o_59 (P : Params) : Obj := ⟨(.type "tuple"), none, (.seq ⟨[(.type "Exception")]⟩ 0), ⟨[]⟩⟩
noncomputable def o_60 (P : Params) : Obj := ⟨(.type "builtin_function_or_method"), none, (.fields ⟨[(.builtin "type.__prepare__"), (.type "type")]⟩), ⟨[]⟩⟩
noncomputable def o_61 (P : Params) : Obj := ⟨(.type "dict"), none, (.dict ⟨[de P "__module__" 203 (.str "switchloom.errors" 194), de P "__qualname__" 205 (.str "SwitchError" 204), de P "__firstlineno__" 207 (.int 5 206), de P "__init__" 215 (.ref 35), de P "__static_attributes__" 217 (.ref 36)]⟩ 5), ⟨[]⟩⟩
noncomputable def o_62 (P : Params) : Obj := ⟨(.type "tuple"), none, (.seq ⟨[]⟩ 0), ⟨[]⟩⟩
noncomputable def o_63 (P : Params) : Obj := ⟨.none, none, (.fields ⟨[(.int 7 0), (.int 4 0), (.ref 34)]⟩), ⟨[]⟩⟩
noncomputable def o_64 (P : Params) : Obj := ⟨(.type "code"), none, (.fields ⟨[(.str "SwitchError" 198), (.str "SwitchError" 199), (.str "/claim/cut.py" 200), (.int 5 0), (.int 0 0), (.int 0 0), (.int 0 0), (.int 0 0), (.ref 25), (.bool false), (.int 181 0), (.ref 26), .none, .none, .none, .none, (.int 201 0), (.int 5 0), (.str "/claim/cut.py" 202)]⟩), ⟨[]⟩⟩
noncomputable def o_65 (P : Params) : Obj := ⟨(.type "frame"), none, .plain, ⟨[(some (.ref 27)), (some (.ref 3)), (some (.ref 24)), none, (some (.str "switchloom.errors" 194)), none, (some (.ref 0))]⟩⟩
noncomputable def o_66 (P : Params) : Obj := ⟨(.type "tuple"), none, (.seq ⟨[]⟩ 0), ⟨[]⟩⟩
noncomputable def o_67 (P : Params) : Obj := ⟨.none, none, (.fields ⟨[]⟩), ⟨[]⟩⟩
noncomputable def o_68 (P : Params) : Obj := ⟨(.type "tuple"), none, (.seq ⟨[(.str "self" 211), (.str "message" 212)]⟩ 0), ⟨[]⟩⟩
noncomputable def o_69 (P : Params) : Obj := ⟨(.type "tuple"), none, (.seq ⟨[]⟩ 0), ⟨[]⟩⟩
noncomputable def o_70 (P : Params) : Obj := ⟨.none, none, (.func ⟨"__init__", "SwitchError.__init__", (fnP (mth 2 0)), (.stmts (fnB (mth 2 0))), (fnS (mth 2 0)), 0, [], .none, .none, .none, .none, none, .none, .none, 0⟩), ⟨[]⟩⟩
noncomputable def o_71 (P : Params) : Obj := ⟨(.type "code"), none, (.fields ⟨[(.str "__init__" 208), (.str "SwitchError.__init__" 209), (.str "/claim/cut.py" 210), (.int 7 0), (.int 2 0), (.int 0 0), (.int 0 0), (.int 3 0), (.ref 29), (.bool true), (.int 181 0), (.ref 30), .none, (.ref 31), (.ref 32), (.ref 33), (.int 213 0), (.int 7 0), (.str "/claim/cut.py" 214)]⟩), ⟨[]⟩⟩
noncomputable def o_72 (P : Params) : Obj := ⟨(.type "function"), none, (.func ⟨"__init__", "SwitchError.__init__", (fnP (mth 2 0)), (.stmts (fnB (mth 2 0))), (fnS (mth 2 0)), 3, [], .none, .none, .none, (.str "switchloom.errors" 194), none, (.ref 34), .none, 0⟩), ⟨[]⟩⟩
noncomputable def o_73 (P : Params) : Obj := ⟨(.type "tuple"), none, (.seq ⟨[(.str "message" 216)]⟩ 0), ⟨[]⟩⟩
noncomputable def o_74 (P : Params) : Obj := ⟨(.type "dict"), none, (.dict ⟨[de P "__module__" 203 (.str "switchloom.errors" 194), de P "__firstlineno__" 207 (.int 5 206), de P "__init__" 215 (.ref 35), de P "__static_attributes__" 217 (.ref 36), de P "__weakref__" 219 (.ref 39), de P "__doc__" 220 .none]⟩ 3), ⟨[]⟩⟩
noncomputable def o_75 (P : Params) : Obj := ⟨(.type "type"), none, (.cls ⟨"SwitchError", [(.type "Exception")], [(.ref 38), (.type "Exception"), (.type "BaseException"), (.type "object")], 37, "SwitchError", true, [], [], false, none, false⟩), ⟨[(some (.ref 22)), none, (some (.str "SwitchError" 196)), (some (.str "SwitchError" 204)), (some (.builtin "Exception.__new__")), (some (.bool true))]⟩⟩
noncomputable def o_76 (P : Params) : Obj := ⟨(.type "getset_descriptor"), none, (.fields ⟨[(.str "__weakref__" 218), (.ref 38), (.builtin "ExceptionGroup.__weakref__"), .none]⟩), ⟨[]⟩⟩
noncomputable def o_77 (P : Params) : Obj := ⟨(.type "super"), none, (.fields ⟨[(.ref 38), (.ref 38), (.ref 38)]⟩), ⟨[]⟩⟩
noncomputable def o_78 (P : Params) : Obj := ⟨(.type "builtin_function_or_method"), none, (.fields ⟨[(.builtin "object.__init_subclass__"), (.ref 38)]⟩), ⟨[]⟩⟩
noncomputable def o_79 (P : Params) : Obj := ⟨(.type "dict"), none, (.dict ⟨[de P "__name__" 165 (.str "switchloom.errors" 194), de P "__doc__" 166 .none, de P "__package__" 167 .none, de P "__loader__" 168 (.builtin "__main__.__loader__#opaque"), de P "__spec__" 169 .none, de P "__annotations__" 170 (.ref 6), de P "__builtins__" 171 (.ref 4), de P "__file__" 173 (.str "/claim/cut.py" 172), de P "__cached__" 174 .none, de P "_wall" 193 (.ref 21), de P "SwitchError" 224 (.ref 38), de P "FormError" 240 (.ref 51)]⟩ 12), ⟨[]⟩⟩
noncomputable def o_80 (P : Params) : Obj := ⟨.none, none, (.fields ⟨[(.int 1 0), (.int 0 0), (.ref 20), (.int 5 0), (.int 0 0), (.ref 27), (.int 10 0), (.int 0 0), (.ref 47)]⟩), ⟨[]⟩⟩
noncomputable def o_81 (P : Params) : Obj := ⟨(.type "type"), none, (.cls ⟨"SwitchError", [(.type "Exception")], [(.ref 38), (.type "Exception"), (.type "BaseException"), (.type "object")], 37, "SwitchError", true, [], [(.ref 51)], false, none, false⟩), ⟨[(some (.ref 22)), none, (some (.str "SwitchError" 196)), (some (.str "SwitchError" 204)), (some (.builtin "Exception.__new__")), (some (.bool true))]⟩⟩
noncomputable def o_82 (P : Params) : Obj := ⟨(.type "tuple"), none, (.seq ⟨[(.ref 38)]⟩ 0), ⟨[]⟩⟩
noncomputable def o_83 (P : Params) : Obj := ⟨(.type "builtin_function_or_method"), none, (.fields ⟨[(.builtin "type.__prepare__"), (.type "type")]⟩), ⟨[]⟩⟩
noncomputable def o_84 (P : Params) : Obj := ⟨(.type "dict"), none, (.dict ⟨[de P "__module__" 232 (.str "switchloom.errors" 194), de P "__qualname__" 234 (.str "FormError" 233), de P "__firstlineno__" 236 (.int 10 235), de P "__static_attributes__" 237 (.ref 49)]⟩ 4), ⟨[]⟩⟩
noncomputable def o_85 (P : Params) : Obj := ⟨(.type "tuple"), none, (.seq ⟨[]⟩ 0), ⟨[]⟩⟩
noncomputable def o_86 (P : Params) : Obj := ⟨.none, none, (.fields ⟨[]⟩), ⟨[]⟩⟩
noncomputable def o_87 (P : Params) : Obj := ⟨(.type "code"), none, (.fields ⟨[(.str "FormError" 227), (.str "FormError" 228), (.str "/claim/cut.py" 229), (.int 10 0), (.int 0 0), (.int 0 0), (.int 0 0), (.int 0 0), (.ref 45), (.bool false), (.int 181 0), (.ref 46), .none, .none, .none, .none, (.int 230 0), (.int 10 0), (.str "/claim/cut.py" 231)]⟩), ⟨[]⟩⟩
noncomputable def o_88 (P : Params) : Obj := ⟨(.type "frame"), none, .plain, ⟨[(some (.ref 47)), (some (.ref 3)), (some (.ref 44)), none, (some (.str "switchloom.errors" 194)), none, (some (.ref 0))]⟩⟩
noncomputable def o_89 (P : Params) : Obj := ⟨(.type "tuple"), none, (.seq ⟨[]⟩ 0), ⟨[]⟩⟩
noncomputable def o_90 (P : Params) : Obj := ⟨(.type "dict"), none, (.dict ⟨[de P "__module__" 232 (.str "switchloom.errors" 194), de P "__firstlineno__" 236 (.int 10 235), de P "__static_attributes__" 237 (.ref 49), de P "__doc__" 238 .none]⟩ 2), ⟨[]⟩⟩
noncomputable def o_91 (P : Params) : Obj := ⟨(.type "type"), none, (.cls ⟨"FormError", [(.ref 38)], [(.ref 51), (.ref 38), (.type "Exception"), (.type "BaseException"), (.type "object")], 50, "FormError", true, [], [], false, none, false⟩), ⟨[(some (.ref 42)), none, (some (.str "FormError" 225)), (some (.str "FormError" 233)), (some (.builtin "Exception.__new__")), (some (.bool true))]⟩⟩
noncomputable def o_92 (P : Params) : Obj := ⟨(.type "super"), none, (.fields ⟨[(.ref 51), (.ref 51), (.ref 51)]⟩), ⟨[]⟩⟩
noncomputable def o_93 (P : Params) : Obj := ⟨(.type "builtin_function_or_method"), none, (.fields ⟨[(.builtin "object.__init_subclass__"), (.ref 51)]⟩), ⟨[]⟩⟩
noncomputable def o_94 (P : Params) : Obj := ⟨(.type "dict"), none, (.dict ⟨[de P "__name__" 165 (.str "switchloom.frames" 257), de P "__doc__" 166 .none, de P "__package__" 167 .none, de P "__loader__" 168 (.builtin "__main__.__loader__#opaque"), de P "__spec__" 169 .none, de P "__annotations__" 170 (.ref 6), de P "__builtins__" 171 (.ref 4), de P "__file__" 173 (.str "/claim/cut.py" 172), de P "__cached__" 174 .none, de P "_wall" 193 (.ref 21), de P "SwitchError" 224 (.ref 38), de P "FormError" 240 (.ref 51), de P "TableError" 256 (.ref 63), de P "LEAST_SIZE" 260 (.int 60 259)]⟩ 14), ⟨[]⟩⟩
noncomputable def o_95 (P : Params) : Obj := ⟨.none, none, (.fields ⟨[(.int 1 0), (.int 0 0), (.ref 20), (.int 5 0), (.int 0 0), (.ref 27), (.int 10 0), (.int 0 0), (.ref 47), (.int 12 0), (.int 0 0), (.ref 59)]⟩), ⟨[]⟩⟩
noncomputable def o_96 (P : Params) : Obj := ⟨(.type "type"), none, (.cls ⟨"SwitchError", [(.type "Exception")], [(.ref 38), (.type "Exception"), (.type "BaseException"), (.type "object")], 37, "SwitchError", true, [], [(.ref 51), (.ref 63)], false, none, false⟩), ⟨[(some (.ref 22)), none, (some (.str "SwitchError" 196)), (some (.str "SwitchError" 204)), (some (.builtin "Exception.__new__")), (some (.bool true))]⟩⟩
noncomputable def o_97 (P : Params) : Obj := ⟨(.type "tuple"), none, (.seq ⟨[(.ref 38)]⟩ 0), ⟨[]⟩⟩
noncomputable def o_98 (P : Params) : Obj := ⟨(.type "builtin_function_or_method"), none, (.fields ⟨[(.builtin "type.__prepare__"), (.type "type")]⟩), ⟨[]⟩⟩
noncomputable def o_99 (P : Params) : Obj := ⟨(.type "dict"), none, (.dict ⟨[de P "__module__" 248 (.str "switchloom.errors" 194), de P "__qualname__" 250 (.str "TableError" 249), de P "__firstlineno__" 252 (.int 12 251), de P "__static_attributes__" 253 (.ref 61)]⟩ 4), ⟨[]⟩⟩
noncomputable def o_100 (P : Params) : Obj := ⟨(.type "tuple"), none, (.seq ⟨[]⟩ 0), ⟨[]⟩⟩
noncomputable def o_101 (P : Params) : Obj := ⟨.none, none, (.fields ⟨[]⟩), ⟨[]⟩⟩
noncomputable def o_102 (P : Params) : Obj := ⟨(.type "code"), none, (.fields ⟨[(.str "TableError" 243), (.str "TableError" 244), (.str "/claim/cut.py" 245), (.int 12 0), (.int 0 0), (.int 0 0), (.int 0 0), (.int 0 0), (.ref 57), (.bool false), (.int 181 0), (.ref 58), .none, .none, .none, .none, (.int 246 0), (.int 12 0), (.str "/claim/cut.py" 247)]⟩), ⟨[]⟩⟩
noncomputable def o_103 (P : Params) : Obj := ⟨(.type "frame"), none, .plain, ⟨[(some (.ref 59)), (some (.ref 3)), (some (.ref 56)), none, (some (.str "switchloom.errors" 194)), none, (some (.ref 0))]⟩⟩
noncomputable def o_104 (P : Params) : Obj := ⟨(.type "tuple"), none, (.seq ⟨[]⟩ 0), ⟨[]⟩⟩
noncomputable def o_105 (P : Params) : Obj := ⟨(.type "dict"), none, (.dict ⟨[de P "__module__" 248 (.str "switchloom.errors" 194), de P "__firstlineno__" 252 (.int 12 251), de P "__static_attributes__" 253 (.ref 61), de P "__doc__" 254 .none]⟩ 2), ⟨[]⟩⟩
noncomputable def o_106 (P : Params) : Obj := ⟨(.type "type"), none, (.cls ⟨"TableError", [(.ref 38)], [(.ref 63), (.ref 38), (.type "Exception"), (.type "BaseException"), (.type "object")], 62, "TableError", true, [], [], false, none, false⟩), ⟨[(some (.ref 54)), none, (some (.str "TableError" 241)), (some (.str "TableError" 249)), (some (.builtin "Exception.__new__")), (some (.bool true))]⟩⟩
noncomputable def o_107 (P : Params) : Obj := ⟨(.type "super"), none, (.fields ⟨[(.ref 63), (.ref 63), (.ref 63)]⟩), ⟨[]⟩⟩
noncomputable def o_108 (P : Params) : Obj := ⟨(.type "builtin_function_or_method"), none, (.fields ⟨[(.builtin "object.__init_subclass__"), (.ref 63)]⟩), ⟨[]⟩⟩
noncomputable def o_109 (P : Params) : Obj := ⟨(.type "dict"), none, (.dict ⟨[de P "__name__" 165 (.str "switchloom.frames" 257), de P "__doc__" 166 .none, de P "__package__" 167 .none, de P "__loader__" 168 (.builtin "__main__.__loader__#opaque"), de P "__spec__" 169 .none, de P "__annotations__" 170 (.ref 6), de P "__builtins__" 171 (.ref 4), de P "__file__" 173 (.str "/claim/cut.py" 172), de P "__cached__" 174 .none, de P "_wall" 193 (.ref 21), de P "SwitchError" 224 (.ref 38), de P "FormError" 240 (.ref 51), de P "TableError" 256 (.ref 63), de P "LEAST_SIZE" 260 (.int 60 259), de P "Tag" 302 (.ref 89)]⟩ 15), ⟨[]⟩⟩
noncomputable def o_110 (P : Params) : Obj := ⟨.none, none, (.fields ⟨[(.int 1 0), (.int 0 0), (.ref 20), (.int 5 0), (.int 0 0), (.ref 27), (.int 10 0), (.int 0 0), (.ref 47), (.int 12 0), (.int 0 0), (.ref 59), (.int 16 0), (.int 0 0), (.ref 71)]⟩), ⟨[]⟩⟩
noncomputable def o_111 (P : Params) : Obj := ⟨(.type "tuple"), none, (.seq ⟨[]⟩ 0), ⟨[]⟩⟩
noncomputable def o_112 (P : Params) : Obj := ⟨(.type "builtin_function_or_method"), none, (.fields ⟨[(.builtin "type.__prepare__"), (.type "type")]⟩), ⟨[]⟩⟩
noncomputable def o_113 (P : Params) : Obj := ⟨(.type "dict"), none, (.dict ⟨[de P "__module__" 268 (.str "switchloom.frames" 257), de P "__qualname__" 270 (.str "Tag" 269), de P "__firstlineno__" 272 (.int 16 271), de P "__init__" 283 (.ref 79), de P "told" 290 (.ref 86), de P "__static_attributes__" 295 (.ref 87)]⟩ 6), ⟨[]⟩⟩
noncomputable def o_114 (P : Params) : Obj := ⟨(.type "tuple"), none, (.seq ⟨[]⟩ 0), ⟨[]⟩⟩
noncomputable def o_115 (P : Params) : Obj := ⟨.none, none, (.fields ⟨[(.int 18 0), (.int 4 0), (.ref 78), (.int 24 0), (.int 4 0), (.ref 85)]⟩), ⟨[]⟩⟩
noncomputable def o_116 (P : Params) : Obj := ⟨(.type "code"), none, (.fields ⟨[(.str "Tag" 263), (.str "Tag" 264), (.str "/claim/cut.py" 265), (.int 16 0), (.int 0 0), (.int 0 0), (.int 0 0), (.int 0 0), (.ref 69), (.bool false), (.int 181 0), (.ref 70), .none, .none, .none, .none, (.int 266 0), (.int 16 0), (.str "/claim/cut.py" 267)]⟩), ⟨[]⟩⟩
noncomputable def o_117 (P : Params) : Obj := ⟨(.type "frame"), none, .plain, ⟨[(some (.ref 71)), (some (.ref 3)), (some (.ref 68)), none, (some (.str "switchloom.frames" 257)), none, (some (.ref 0))]⟩⟩
noncomputable def o_118 (P : Params) : Obj := ⟨(.type "tuple"), none, (.seq ⟨[]⟩ 0), ⟨[]⟩⟩
noncomputable def o_119 (P : Params) : Obj := ⟨.none, none, (.fields ⟨[]⟩), ⟨[]⟩⟩
noncomputable def o_120 (P : Params) : Obj := ⟨(.type "tuple"), none, (.seq ⟨[(.str "self" 276), (.str "kind" 277), (.str "priority" 278), (.str "may_drop" 279), (.str "vlan" 280)]⟩ 0), ⟨[]⟩⟩
noncomputable def o_121 (P : Params) : Obj := ⟨(.type "tuple"), none, (.seq ⟨[]⟩ 0), ⟨[]⟩⟩
noncomputable def o_122 (P : Params) : Obj := ⟨.none, none, (.func ⟨"__init__", "Tag.__init__", (fnP (mth 7 0)), (.stmts (fnB (mth 7 0))), (fnS (mth 7 0)), 0, [], .none, .none, .none, .none, none, .none, .none, 0⟩), ⟨[]⟩⟩
noncomputable def o_123 (P : Params) : Obj := ⟨(.type "code"), none, (.fields ⟨[(.str "__init__" 273), (.str "Tag.__init__" 274), (.str "/claim/cut.py" 275), (.int 18 0), (.int 5 0), (.int 0 0), (.int 0 0), (.int 3 0), (.ref 73), (.bool true), (.int 181 0), (.ref 74), .none, (.ref 75), (.ref 76), (.ref 77), (.int 281 0), (.int 18 0), (.str "/claim/cut.py" 282)]⟩), ⟨[]⟩⟩
noncomputable def o_124 (P : Params) : Obj := ⟨(.type "function"), none, (.func ⟨"__init__", "Tag.__init__", (fnP (mth 7 0)), (.stmts (fnB (mth 7 0))), (fnS (mth 7 0)), 3, [], .none, .none, .none, (.str "switchloom.frames" 257), none, (.ref 78), .none, 0⟩), ⟨[]⟩⟩
noncomputable def o_125 (P : Params) : Obj := ⟨(.type "tuple"), none, (.seq ⟨[]⟩ 0), ⟨[]⟩⟩
noncomputable def o_126 (P : Params) : Obj := ⟨.none, none, (.fields ⟨[]⟩), ⟨[]⟩⟩
noncomputable def o_127 (P : Params) : Obj := ⟨(.type "tuple"), none, (.seq ⟨[(.str "self" 287)]⟩ 0), ⟨[]⟩⟩
noncomputable def o_128 (P : Params) : Obj := ⟨(.type "tuple"), none, (.seq ⟨[]⟩ 0), ⟨[]⟩⟩
noncomputable def o_129 (P : Params) : Obj := ⟨.none, none, (.func ⟨"told", "Tag.told", (fnP (mth 7 1)), (.stmts (fnB (mth 7 1))), (fnS (mth 19 0)), 0, [], .none, .none, .none, .none, none, .none, .none, 0⟩), ⟨[]⟩⟩
noncomputable def o_130 (P : Params) : Obj := ⟨(.type "code"), none, (.fields ⟨[(.str "told" 284), (.str "Tag.told" 285), (.str "/claim/cut.py" 286), (.int 24 0), (.int 1 0), (.int 0 0), (.int 0 0), (.int 3 0), (.ref 80), (.bool true), (.int 181 0), (.ref 81), .none, (.ref 82), (.ref 83), (.ref 84), (.int 288 0), (.int 24 0), (.str "/claim/cut.py" 289)]⟩), ⟨[]⟩⟩
noncomputable def o_131 (P : Params) : Obj := ⟨(.type "function"), none, (.func ⟨"told", "Tag.told", (fnP (mth 7 1)), (.stmts (fnB (mth 7 1))), (fnS (mth 19 0)), 3, [], .none, .none, .none, (.str "switchloom.frames" 257), none, (.ref 85), .none, 0⟩), ⟨[]⟩⟩
noncomputable def o_132 (P : Params) : Obj := ⟨(.type "tuple"), none, (.seq ⟨[(.str "kind" 291), (.str "may_drop" 292), (.str "priority" 293), (.str "vlan" 294)]⟩ 0), ⟨[]⟩⟩
noncomputable def o_133 (P : Params) : Obj := ⟨(.type "dict"), none, (.dict ⟨[de P "__module__" 268 (.str "switchloom.frames" 257), de P "__firstlineno__" 272 (.int 16 271), de P "__init__" 283 (.ref 79), de P "told" 290 (.ref 86), de P "__static_attributes__" 295 (.ref 87), de P "__dict__" 297 (.ref 90), de P "__weakref__" 299 (.ref 91), de P "__doc__" 300 .none]⟩ 4), ⟨[]⟩⟩
noncomputable def o_134 (P : Params) : Obj := ⟨(.type "type"), none, (.cls ⟨"Tag", [(.type "object")], [(.ref 89), (.type "object")], 88, "Tag", true, [], [], false, none, false⟩), ⟨[none, none, (some (.str "Tag" 261)), (some (.str "Tag" 269)), (some (.builtin "object.__new__")), (some (.bool true))]⟩⟩
noncomputable def o_135 (P : Params) : Obj := ⟨(.type "getset_descriptor"), none, (.fields ⟨[(.str "__dict__" 296), (.ref 89), (.builtin "function.__dict__"), (.builtin "function.__dict__#set")]⟩), ⟨[]⟩⟩
noncomputable def o_136 (P : Params) : Obj := ⟨(.type "getset_descriptor"), none, (.fields ⟨[(.str "__weakref__" 298), (.ref 89), (.builtin "ExceptionGroup.__weakref__"), .none]⟩), ⟨[]⟩⟩
noncomputable def o_137 (P : Params) : Obj := ⟨(.type "super"), none, (.fields ⟨[(.ref 89), (.ref 89), (.ref 89)]⟩), ⟨[]⟩⟩
noncomputable def o_138 (P : Params) : Obj := ⟨(.type "builtin_function_or_method"), none, (.fields ⟨[(.builtin "object.__init_subclass__"), (.ref 89)]⟩), ⟨[]⟩⟩
noncomputable def o_139 (P : Params) : Obj := ⟨(.type "dict"), none, (.dict ⟨[de P "__name__" 165 (.str "switchloom.tags" 354), de P "__doc__" 166 .none, de P "__package__" 167 .none, de P "__loader__" 168 (.builtin "__main__.__loader__#opaque"), de P "__spec__" 169 .none, de P "__annotations__" 170 (.ref 6), de P "__builtins__" 171 (.ref 4), de P "__file__" 173 (.str "/claim/cut.py" 172), de P "__cached__" 174 .none, de P "_wall" 193 (.ref 21), de P "SwitchError" 224 (.ref 38), de P "FormError" 240 (.ref 51), de P "TableError" 256 (.ref 63), de P "LEAST_SIZE" 260 (.int 60 259), de P "Tag" 302 (.ref 89), de P "Frame" 353 (.ref 123), de P "with_tags" 363 (.ref 134), de P "pushed" 371 (.ref 141), de P "outer_tag" 378 (.ref 148)]⟩ 19), ⟨[]⟩⟩
noncomputable def o_140 (P : Params) : Obj := ⟨.none, none, (.fields ⟨[(.int 1 0), (.int 0 0), (.ref 20), (.int 5 0), (.int 0 0), (.ref 27), (.int 10 0), (.int 0 0), (.ref 47), (.int 12 0), (.int 0 0), (.ref 59), (.int 16 0), (.int 0 0), (.ref 71), (.int 26 0), (.int 0 0), (.ref 99), (.int 41 0), (.int 0 0), (.ref 133), (.int 43 0), (.int 0 0), (.ref 140), (.int 45 0), (.int 0 0), (.ref 147)]⟩), ⟨[]⟩⟩
noncomputable def o_141 (P : Params) : Obj := ⟨(.type "tuple"), none, (.seq ⟨[]⟩ 0), ⟨[]⟩⟩
noncomputable def o_142 (P : Params) : Obj := ⟨(.type "builtin_function_or_method"), none, (.fields ⟨[(.builtin "type.__prepare__"), (.type "type")]⟩), ⟨[]⟩⟩
noncomputable def o_143 (P : Params) : Obj := ⟨(.type "dict"), none, (.dict ⟨[de P "__module__" 310 (.str "switchloom.frames" 257), de P "__qualname__" 312 (.str "Frame" 311), de P "__firstlineno__" 314 (.int 26 313), de P "__init__" 326 (.ref 107), de P "told" 332 (.ref 112), de P "size" 340 (.ref 120), de P "__static_attributes__" 346 (.ref 121)]⟩ 7), ⟨[]⟩⟩
noncomputable def o_144 (P : Params) : Obj := ⟨(.type "tuple"), none, (.seq ⟨[]⟩ 0), ⟨[]⟩⟩
noncomputable def o_145 (P : Params) : Obj := ⟨.none, none, (.fields ⟨[(.int 28 0), (.int 4 0), (.ref 106), (.int 35 0), (.int 4 0), (.ref 111), (.int 38 0), (.int 4 0), (.ref 119)]⟩), ⟨[]⟩⟩
noncomputable def o_146 (P : Params) : Obj := ⟨(.type "code"), none, (.fields ⟨[(.str "Frame" 305), (.str "Frame" 306), (.str "/claim/cut.py" 307), (.int 26 0), (.int 0 0), (.int 0 0), (.int 0 0), (.int 0 0), (.ref 97), (.bool false), (.int 181 0), (.ref 98), .none, .none, .none, .none, (.int 308 0), (.int 26 0), (.str "/claim/cut.py" 309)]⟩), ⟨[]⟩⟩
noncomputable def o_147 (P : Params) : Obj := ⟨(.type "frame"), none, .plain, ⟨[(some (.ref 99)), (some (.ref 3)), (some (.ref 96)), none, (some (.str "switchloom.frames" 257)), none, (some (.ref 0))]⟩⟩
noncomputable def o_148 (P : Params) : Obj := ⟨(.type "tuple"), none, (.seq ⟨[]⟩ 0), ⟨[]⟩⟩
noncomputable def o_149 (P : Params) : Obj := ⟨.none, none, (.fields ⟨[]⟩), ⟨[]⟩⟩
noncomputable def o_150 (P : Params) : Obj := ⟨(.type "tuple"), none, (.seq ⟨[(.str "self" 318), (.str "target" 319), (.str "source" 320), (.str "tags" 321), (.str "kind" 322), (.str "payload" 323)]⟩ 0), ⟨[]⟩⟩
noncomputable def o_151 (P : Params) : Obj := ⟨(.type "tuple"), none, (.seq ⟨[]⟩ 0), ⟨[]⟩⟩
noncomputable def o_152 (P : Params) : Obj := ⟨.none, none, (.func ⟨"__init__", "Frame.__init__", (fnP (mth 8 0)), (.stmts (fnB (mth 8 0))), (fnS (mth 8 0)), 0, [], .none, .none, .none, .none, none, .none, .none, 0⟩), ⟨[]⟩⟩
noncomputable def o_153 (P : Params) : Obj := ⟨(.type "code"), none, (.fields ⟨[(.str "__init__" 315), (.str "Frame.__init__" 316), (.str "/claim/cut.py" 317), (.int 28 0), (.int 6 0), (.int 0 0), (.int 0 0), (.int 3 0), (.ref 101), (.bool true), (.int 181 0), (.ref 102), .none, (.ref 103), (.ref 104), (.ref 105), (.int 324 0), (.int 28 0), (.str "/claim/cut.py" 325)]⟩), ⟨[]⟩⟩
noncomputable def o_154 (P : Params) : Obj := ⟨(.type "function"), none, (.func ⟨"__init__", "Frame.__init__", (fnP (mth 8 0)), (.stmts (fnB (mth 8 0))), (fnS (mth 8 0)), 3, [], .none, .none, .none, (.str "switchloom.frames" 257), none, (.ref 106), .none, 0⟩), ⟨[]⟩⟩
noncomputable def o_155 (P : Params) : Obj := ⟨(.type "tuple"), none, (.seq ⟨[]⟩ 0), ⟨[]⟩⟩
noncomputable def o_156 (P : Params) : Obj := ⟨.none, none, (.fields ⟨[]⟩), ⟨[]⟩⟩
noncomputable def o_157 (P : Params) : Obj := ⟨.none, none, (.func ⟨"told", "Frame.told", (fnP (mth 8 1)), (.stmts (fnB (mth 8 1))), (fnS (mth 8 1)), 0, [], .none, .none, .none, .none, none, .none, .none, 0⟩), ⟨[]⟩⟩
noncomputable def o_158 (P : Params) : Obj := ⟨(.type "code"), none, (.fields ⟨[(.str "told" 327), (.str "Frame.told" 328), (.str "/claim/cut.py" 329), (.int 35 0), (.int 1 0), (.int 0 0), (.int 0 0), (.int 3 0), (.ref 108), (.bool true), (.int 181 0), (.ref 109), .none, .none, .none, (.ref 110), (.int 330 0), (.int 35 0), (.str "/claim/cut.py" 331)]⟩), ⟨[]⟩⟩
noncomputable def o_159 (P : Params) : Obj := ⟨(.type "function"), none, (.func ⟨"told", "Frame.told", (fnP (mth 8 1)), (.stmts (fnB (mth 8 1))), (fnS (mth 8 1)), 3, [], .none, .none, .none, (.str "switchloom.frames" 257), none, (.ref 111), .none, 0⟩), ⟨[]⟩⟩
noncomputable def o_160 (P : Params) : Obj := ⟨(.type "tuple"), none, (.seq ⟨[(.int 60 259)]⟩ 0), ⟨[]⟩⟩
noncomputable def o_161 (P : Params) : Obj := ⟨(.type "tuple"), none, (.seq ⟨[]⟩ 0), ⟨[]⟩⟩
noncomputable def o_162 (P : Params) : Obj := ⟨.none, none, (.fields ⟨[]⟩), ⟨[]⟩⟩
noncomputable def o_163 (P : Params) : Obj := ⟨(.type "tuple"), none, (.seq ⟨[(.str "self" 336), (.str "least" 337)]⟩ 0), ⟨[]⟩⟩
noncomputable def o_164 (P : Params) : Obj := ⟨(.type "tuple"), none, (.seq ⟨[]⟩ 0), ⟨[]⟩⟩
noncomputable def o_165 (P : Params) : Obj := ⟨.none, none, (.func ⟨"size", "Frame.size", (fnP (mth 8 2)), (.stmts (fnB (mth 8 2))), (fnS (mth 8 2)), 0, [], .none, .none, .none, .none, none, .none, .none, 0⟩), ⟨[]⟩⟩
noncomputable def o_166 (P : Params) : Obj := ⟨(.type "code"), none, (.fields ⟨[(.str "size" 333), (.str "Frame.size" 334), (.str "/claim/cut.py" 335), (.int 38 0), (.int 2 0), (.int 0 0), (.int 0 0), (.int 3 0), (.ref 114), (.bool true), (.int 181 0), (.ref 115), .none, (.ref 116), (.ref 117), (.ref 118), (.int 338 0), (.int 38 0), (.str "/claim/cut.py" 339)]⟩), ⟨[]⟩⟩
noncomputable def o_167 (P : Params) : Obj := ⟨(.type "function"), none, (.func ⟨"size", "Frame.size", (fnP (mth 8 2)), (.stmts (fnB (mth 8 2))), (fnS (mth 8 2)), 3, [], (.ref 113), .none, .none, (.str "switchloom.frames" 257), none, (.ref 119), .none, 0⟩), ⟨[]⟩⟩
noncomputable def o_168 (P : Params) : Obj := ⟨(.type "tuple"), none, (.seq ⟨[(.str "kind" 341), (.str "payload" 342), (.str "source" 343), (.str "tags" 344), (.str "target" 345)]⟩ 0), ⟨[]⟩⟩
noncomputable def o_169 (P : Params) : Obj := ⟨(.type "dict"), none, (.dict ⟨[de P "__module__" 310 (.str "switchloom.frames" 257), de P "__firstlineno__" 314 (.int 26 313), de P "__init__" 326 (.ref 107), de P "told" 332 (.ref 112), de P "size" 340 (.ref 120), de P "__static_attributes__" 346 (.ref 121), de P "__dict__" 348 (.ref 124), de P "__weakref__" 350 (.ref 125), de P "__doc__" 351 .none]⟩ 4), ⟨[]⟩⟩
noncomputable def o_170 (P : Params) : Obj := ⟨(.type "type"), none, (.cls ⟨"Frame", [(.type "object")], [(.ref 123), (.type "object")], 122, "Frame", true, [], [], false, none, false⟩), ⟨[none, none, (some (.str "Frame" 303)), (some (.str "Frame" 311)), (some (.builtin "object.__new__")), (some (.bool true))]⟩⟩
noncomputable def o_171 (P : Params) : Obj := ⟨(.type "getset_descriptor"), none, (.fields ⟨[(.str "__dict__" 347), (.ref 123), (.builtin "function.__dict__"), (.builtin "function.__dict__#set")]⟩), ⟨[]⟩⟩
noncomputable def o_172 (P : Params) : Obj := ⟨(.type "getset_descriptor"), none, (.fields ⟨[(.str "__weakref__" 349), (.ref 123), (.builtin "ExceptionGroup.__weakref__"), .none]⟩), ⟨[]⟩⟩
noncomputable def o_173 (P : Params) : Obj := ⟨(.type "super"), none, (.fields ⟨[(.ref 123), (.ref 123), (.ref 123)]⟩), ⟨[]⟩⟩
noncomputable def o_174 (P : Params) : Obj := ⟨(.type "builtin_function_or_method"), none, (.fields ⟨[(.builtin "object.__init_subclass__"), (.ref 123)]⟩), ⟨[]⟩⟩
noncomputable def o_175 (P : Params) : Obj := ⟨(.type "tuple"), none, (.seq ⟨[]⟩ 0), ⟨[]⟩⟩
noncomputable def o_176 (P : Params) : Obj := ⟨.none, none, (.fields ⟨[]⟩), ⟨[]⟩⟩
noncomputable def o_177 (P : Params) : Obj := ⟨(.type "tuple"), none, (.seq ⟨[(.str "frame" 359), (.str "tags" 360)]⟩ 0), ⟨[]⟩⟩
noncomputable def o_178 (P : Params) : Obj := ⟨(.type "tuple"), none, (.seq ⟨[]⟩ 0), ⟨[]⟩⟩
noncomputable def o_179 (P : Params) : Obj := ⟨.none, none, (.func ⟨"with_tags", "with_tags", (fnP (stm 10)), (.stmts (fnB (stm 10))), (fnS (stm 10)), 0, [], .none, .none, .none, .none, none, .none, .none, 0⟩), ⟨[]⟩⟩
noncomputable def o_180 (P : Params) : Obj := ⟨(.type "code"), none, (.fields ⟨[(.str "with_tags" 356), (.str "with_tags" 357), (.str "/claim/cut.py" 358), (.int 41 0), (.int 2 0), (.int 0 0), (.int 0 0), (.int 3 0), (.ref 128), (.bool true), (.int 181 0), (.ref 129), .none, (.ref 130), (.ref 131), (.ref 132), (.int 361 0), (.int 41 0), (.str "/claim/cut.py" 362)]⟩), ⟨[]⟩⟩
noncomputable def o_181 (P : Params) : Obj := ⟨(.type "function"), none, (.func ⟨"with_tags", "with_tags", (fnP (stm 10)), (.stmts (fnB (stm 10))), (fnS (stm 10)), 3, [], .none, .none, .none, (.str "switchloom.tags" 354), none, (.ref 133), .none, 0⟩), ⟨[]⟩⟩
noncomputable def o_182 (P : Params) : Obj := ⟨(.type "tuple"), none, (.seq ⟨[]⟩ 0), ⟨[]⟩⟩
noncomputable def o_183 (P : Params) : Obj := ⟨.none, none, (.fields ⟨[]⟩), ⟨[]⟩⟩
noncomputable def o_184 (P : Params) : Obj := ⟨(.type "tuple"), none, (.seq ⟨[(.str "frame" 367), (.str "tag" 368)]⟩ 0), ⟨[]⟩⟩
noncomputable def o_185 (P : Params) : Obj := ⟨(.type "tuple"), none, (.seq ⟨[]⟩ 0), ⟨[]⟩⟩
noncomputable def o_186 (P : Params) : Obj := ⟨.none, none, (.func ⟨"pushed", "pushed", (fnP (stm 11)), (.stmts (fnB (stm 11))), (fnS (stm 11)), 0, [], .none, .none, .none, .none, none, .none, .none, 0⟩), ⟨[]⟩⟩
noncomputable def o_187 (P : Params) : Obj := ⟨(.type "code"), none, (.fields ⟨[(.str "pushed" 364), (.str "pushed" 365), (.str "/claim/cut.py" 366), (.int 43 0), (.int 2 0), (.int 0 0), (.int 0 0), (.int 3 0), (.ref 135), (.bool true), (.int 181 0), (.ref 136), .none, (.ref 137), (.ref 138), (.ref 139), (.int 369 0), (.int 43 0), (.str "/claim/cut.py" 370)]⟩), ⟨[]⟩⟩
noncomputable def o_188 (P : Params) : Obj := ⟨(.type "function"), none, (.func ⟨"pushed", "pushed", (fnP (stm 11)), (.stmts (fnB (stm 11))), (fnS (stm 11)), 3, [], .none, .none, .none, (.str "switchloom.tags" 354), none, (.ref 140), .none, 0⟩), ⟨[]⟩⟩
noncomputable def o_189 (P : Params) : Obj := ⟨(.type "tuple"), none, (.seq ⟨[]⟩ 0), ⟨[]⟩⟩
noncomputable def o_190 (P : Params) : Obj := ⟨.none, none, (.fields ⟨[]⟩), ⟨[]⟩⟩
noncomputable def o_191 (P : Params) : Obj := ⟨(.type "tuple"), none, (.seq ⟨[(.str "frame" 375)]⟩ 0), ⟨[]⟩⟩
noncomputable def o_192 (P : Params) : Obj := ⟨(.type "tuple"), none, (.seq ⟨[]⟩ 0), ⟨[]⟩⟩
noncomputable def o_193 (P : Params) : Obj := ⟨.none, none, (.func ⟨"outer_tag", "outer_tag", (fnP (stm 12)), (.stmts (fnB (stm 12))), (fnS (stm 12)), 0, [], .none, .none, .none, .none, none, .none, .none, 0⟩), ⟨[]⟩⟩
noncomputable def o_194 (P : Params) : Obj := ⟨(.type "code"), none, (.fields ⟨[(.str "outer_tag" 372), (.str "outer_tag" 373), (.str "/claim/cut.py" 374), (.int 45 0), (.int 1 0), (.int 0 0), (.int 0 0), (.int 3 0), (.ref 142), (.bool true), (.int 181 0), (.ref 143), .none, (.ref 144), (.ref 145), (.ref 146), (.int 376 0), (.int 45 0), (.str "/claim/cut.py" 377)]⟩), ⟨[]⟩⟩
noncomputable def o_195 (P : Params) : Obj := ⟨(.type "function"), none, (.func ⟨"outer_tag", "outer_tag", (fnP (stm 12)), (.stmts (fnB (stm 12))), (fnS (stm 12)), 3, [], .none, .none, .none, (.str "switchloom.tags" 354), none, (.ref 147), .none, 0⟩), ⟨[]⟩⟩
noncomputable def o_196 (P : Params) : Obj := ⟨(.type "dict"), none, (.dict ⟨[de P "__name__" 165 (.str "switchloom.tunnels" 395), de P "__doc__" 166 .none, de P "__package__" 167 .none, de P "__loader__" 168 (.builtin "__main__.__loader__#opaque"), de P "__spec__" 169 .none, de P "__annotations__" 170 (.ref 6), de P "__builtins__" 171 (.ref 4), de P "__file__" 173 (.str "/claim/cut.py" 172), de P "__cached__" 174 .none, de P "_wall" 193 (.ref 21), de P "SwitchError" 224 (.ref 38), de P "FormError" 240 (.ref 51), de P "TableError" 256 (.ref 63), de P "LEAST_SIZE" 260 (.int 60 259), de P "Tag" 302 (.ref 89), de P "Frame" 353 (.ref 123), de P "with_tags" 363 (.ref 134), de P "pushed" 371 (.ref 141), de P "outer_tag" 378 (.ref 148), de P "popped" 385 (.ref 155), de P "with_vlan" 394 (.ref 162), de P "PROVIDER_KIND" 398 (.int 34984 397), de P "MOST_TAGS" 400 (.int 4 399), de P "TunnelPort" 430 (.ref 179)]⟩ 24), ⟨[]⟩⟩
noncomputable def o_197 (P : Params) : Obj := ⟨.none, none, (.fields ⟨[(.int 1 0), (.int 0 0), (.ref 20), (.int 5 0), (.int 0 0), (.ref 27), (.int 10 0), (.int 0 0), (.ref 47), (.int 12 0), (.int 0 0), (.ref 59), (.int 16 0), (.int 0 0), (.ref 71), (.int 26 0), (.int 0 0), (.ref 99), (.int 41 0), (.int 0 0), (.ref 133), (.int 43 0), (.int 0 0), (.ref 140), (.int 45 0), (.int 0 0), (.ref 147), (.int 49 0), (.int 0 0), (.ref 154), (.int 52 0), (.int 0 0), (.ref 161), (.int 58 0), (.int 0 0), (.ref 168)]⟩), ⟨[]⟩⟩
noncomputable def o_198 (P : Params) : Obj := ⟨(.type "tuple"), none, (.seq ⟨[]⟩ 0), ⟨[]⟩⟩
noncomputable def o_199 (P : Params) : Obj := ⟨.none, none, (.fields ⟨[]⟩), ⟨[]⟩⟩
noncomputable def o_200 (P : Params) : Obj := ⟨(.type "tuple"), none, (.seq ⟨[(.str "frame" 382)]⟩ 0), ⟨[]⟩⟩
noncomputable def o_201 (P : Params) : Obj := ⟨(.type "tuple"), none, (.seq ⟨[]⟩ 0), ⟨[]⟩⟩
noncomputable def o_202 (P : Params) : Obj := ⟨.none, none, (.func ⟨"popped", "popped", (fnP (stm 13)), (.stmts (fnB (stm 13))), (fnS (stm 13)), 0, [], .none, .none, .none, .none, none, .none, .none, 0⟩), ⟨[]⟩⟩
noncomputable def o_203 (P : Params) : Obj := ⟨(.type "code"), none, (.fields ⟨[(.str "popped" 379), (.str "popped" 380), (.str "/claim/cut.py" 381), (.int 49 0), (.int 1 0), (.int 0 0), (.int 0 0), (.int 3 0), (.ref 149), (.bool true), (.int 181 0), (.ref 150), .none, (.ref 151), (.ref 152), (.ref 153), (.int 383 0), (.int 49 0), (.str "/claim/cut.py" 384)]⟩), ⟨[]⟩⟩
noncomputable def o_204 (P : Params) : Obj := ⟨(.type "function"), none, (.func ⟨"popped", "popped", (fnP (stm 13)), (.stmts (fnB (stm 13))), (fnS (stm 13)), 3, [], .none, .none, .none, (.str "switchloom.tags" 354), none, (.ref 154), .none, 0⟩), ⟨[]⟩⟩
noncomputable def o_205 (P : Params) : Obj := ⟨(.type "tuple"), none, (.seq ⟨[]⟩ 0), ⟨[]⟩⟩
noncomputable def o_206 (P : Params) : Obj := ⟨.none, none, (.fields ⟨[]⟩), ⟨[]⟩⟩
noncomputable def o_207 (P : Params) : Obj := ⟨(.type "tuple"), none, (.seq ⟨[(.str "frame" 389), (.str "vlan" 390), (.str "tag" 391)]⟩ 0), ⟨[]⟩⟩
noncomputable def o_208 (P : Params) : Obj := ⟨(.type "tuple"), none, (.seq ⟨[]⟩ 0), ⟨[]⟩⟩
noncomputable def o_209 (P : Params) : Obj := ⟨.none, none, (.func ⟨"with_vlan", "with_vlan", (fnP (stm 14)), (.stmts (fnB (stm 14))), (fnS (stm 14)), 0, [], .none, .none, .none, .none, none, .none, .none, 0⟩), ⟨[]⟩⟩
noncomputable def o_210 (P : Params) : Obj := ⟨(.type "code"), none, (.fields ⟨[(.str "with_vlan" 386), (.str "with_vlan" 387), (.str "/claim/cut.py" 388), (.int 52 0), (.int 2 0), (.int 0 0), (.int 0 0), (.int 3 0), (.ref 156), (.bool true), (.int 181 0), (.ref 157), .none, (.ref 158), (.ref 159), (.ref 160), (.int 392 0), (.int 52 0), (.str "/claim/cut.py" 393)]⟩), ⟨[]⟩⟩
noncomputable def o_211 (P : Params) : Obj := ⟨(.type "function"), none, (.func ⟨"with_vlan", "with_vlan", (fnP (stm 14)), (.stmts (fnB (stm 14))), (fnS (stm 14)), 3, [], .none, .none, .none, (.str "switchloom.tags" 354), none, (.ref 161), .none, 0⟩), ⟨[]⟩⟩
noncomputable def o_212 (P : Params) : Obj := ⟨(.type "tuple"), none, (.seq ⟨[]⟩ 0), ⟨[]⟩⟩
noncomputable def o_213 (P : Params) : Obj := ⟨(.type "builtin_function_or_method"), none, (.fields ⟨[(.builtin "type.__prepare__"), (.type "type")]⟩), ⟨[]⟩⟩
noncomputable def o_214 (P : Params) : Obj := ⟨(.type "dict"), none, (.dict ⟨[de P "__module__" 408 (.str "switchloom.tunnels" 395), de P "__qualname__" 410 (.str "TunnelPort" 409), de P "__firstlineno__" 412 (.int 58 411), de P "__init__" 420 (.ref 176), de P "__static_attributes__" 423 (.ref 177)]⟩ 5), ⟨[]⟩⟩
noncomputable def o_215 (P : Params) : Obj := ⟨(.type "tuple"), none, (.seq ⟨[]⟩ 0), ⟨[]⟩⟩
noncomputable def o_216 (P : Params) : Obj := ⟨.none, none, (.fields ⟨[(.int 60 0), (.int 4 0), (.ref 175)]⟩), ⟨[]⟩⟩
noncomputable def o_217 (P : Params) : Obj := ⟨(.type "code"), none, (.fields ⟨[(.str "TunnelPort" 403), (.str "TunnelPort" 404), (.str "/claim/cut.py" 405), (.int 58 0), (.int 0 0), (.int 0 0), (.int 0 0), (.int 0 0), (.ref 166), (.bool false), (.int 181 0), (.ref 167), .none, .none, .none, .none, (.int 406 0), (.int 58 0), (.str "/claim/cut.py" 407)]⟩), ⟨[]⟩⟩
noncomputable def o_218 (P : Params) : Obj := ⟨(.type "frame"), none, .plain, ⟨[(some (.ref 168)), (some (.ref 3)), (some (.ref 165)), none, (some (.str "switchloom.tunnels" 395)), none, (some (.ref 0))]⟩⟩
noncomputable def o_219 (P : Params) : Obj := ⟨(.type "tuple"), none, (.seq ⟨[]⟩ 0), ⟨[]⟩⟩
noncomputable def o_220 (P : Params) : Obj := ⟨.none, none, (.fields ⟨[]⟩), ⟨[]⟩⟩
noncomputable def o_221 (P : Params) : Obj := ⟨(.type "tuple"), none, (.seq ⟨[(.str "self" 416), (.str "outer" 417)]⟩ 0), ⟨[]⟩⟩
noncomputable def o_222 (P : Params) : Obj := ⟨(.type "tuple"), none, (.seq ⟨[]⟩ 0), ⟨[]⟩⟩
noncomputable def o_223 (P : Params) : Obj := ⟨.none, none, (.func ⟨"__init__", "TunnelPort.__init__", (fnP (mth 18 0)), (.stmts (fnB (mth 18 0))), (fnS (mth 18 0)), 0, [], .none, .none, .none, .none, none, .none, .none, 0⟩), ⟨[]⟩⟩
noncomputable def o_224 (P : Params) : Obj := ⟨(.type "code"), none, (.fields ⟨[(.str "__init__" 413), (.str "TunnelPort.__init__" 414), (.str "/claim/cut.py" 415), (.int 60 0), (.int 2 0), (.int 0 0), (.int 0 0), (.int 3 0), (.ref 170), (.bool true), (.int 181 0), (.ref 171), .none, (.ref 172), (.ref 173), (.ref 174), (.int 418 0), (.int 60 0), (.str "/claim/cut.py" 419)]⟩), ⟨[]⟩⟩
noncomputable def o_225 (P : Params) : Obj := ⟨(.type "function"), none, (.func ⟨"__init__", "TunnelPort.__init__", (fnP (mth 18 0)), (.stmts (fnB (mth 18 0))), (fnS (mth 18 0)), 3, [], .none, .none, .none, (.str "switchloom.tunnels" 395), none, (.ref 175), .none, 0⟩), ⟨[]⟩⟩
noncomputable def o_226 (P : Params) : Obj := ⟨(.type "tuple"), none, (.seq ⟨[(.str "by_inner" 421), (.str "outer" 422)]⟩ 0), ⟨[]⟩⟩
noncomputable def o_227 (P : Params) : Obj := ⟨(.type "dict"), none, (.dict ⟨[de P "__module__" 408 (.str "switchloom.tunnels" 395), de P "__firstlineno__" 412 (.int 58 411), de P "__init__" 420 (.ref 176), de P "__static_attributes__" 423 (.ref 177), de P "__dict__" 425 (.ref 180), de P "__weakref__" 427 (.ref 181), de P "__doc__" 428 .none]⟩ 4), ⟨[]⟩⟩
noncomputable def o_228 (P : Params) : Obj := ⟨(.type "type"), none, (.cls ⟨"TunnelPort", [(.type "object")], [(.ref 179), (.type "object")], 178, "TunnelPort", true, [], [], false, none, false⟩), ⟨[none, none, (some (.str "TunnelPort" 401)), (some (.str "TunnelPort" 409)), (some (.builtin "object.__new__")), (some (.bool true))]⟩⟩
noncomputable def o_229 (P : Params) : Obj := ⟨(.type "getset_descriptor"), none, (.fields ⟨[(.str "__dict__" 424), (.ref 179), (.builtin "function.__dict__"), (.builtin "function.__dict__#set")]⟩), ⟨[]⟩⟩
noncomputable def o_230 (P : Params) : Obj := ⟨(.type "getset_descriptor"), none, (.fields ⟨[(.str "__weakref__" 426), (.ref 179), (.builtin "ExceptionGroup.__weakref__"), .none]⟩), ⟨[]⟩⟩
noncomputable def o_231 (P : Params) : Obj := ⟨(.type "super"), none, (.fields ⟨[(.ref 179), (.ref 179), (.ref 179)]⟩), ⟨[]⟩⟩
noncomputable def o_232 (P : Params) : Obj := ⟨(.type "builtin_function_or_method"), none, (.fields ⟨[(.builtin "object.__init_subclass__"), (.ref 179)]⟩), ⟨[]⟩⟩
noncomputable def o_233 (P : Params) : Obj := ⟨(.type "dict"), none, (.dict ⟨[de P "__name__" 165 (.str "switchloom.tunnels" 395), de P "__doc__" 166 .none, de P "__package__" 167 .none, de P "__loader__" 168 (.builtin "__main__.__loader__#opaque"), de P "__spec__" 169 .none, de P "__annotations__" 170 (.ref 6), de P "__builtins__" 171 (.ref 4), de P "__file__" 173 (.str "/claim/cut.py" 172), de P "__cached__" 174 .none, de P "_wall" 193 (.ref 21), de P "SwitchError" 224 (.ref 38), de P "FormError" 240 (.ref 51), de P "TableError" 256 (.ref 63), de P "LEAST_SIZE" 260 (.int 60 259), de P "Tag" 302 (.ref 89), de P "Frame" 353 (.ref 123), de P "with_tags" 363 (.ref 134), de P "pushed" 371 (.ref 141), de P "outer_tag" 378 (.ref 148), de P "popped" 385 (.ref 155), de P "with_vlan" 394 (.ref 162), de P "PROVIDER_KIND" 398 (.int 34984 397), de P "MOST_TAGS" 400 (.int 4 399), de P "TunnelPort" 430 (.ref 179), de P "Tunnels" 558 (.ref 268)]⟩ 25), ⟨[]⟩⟩
noncomputable def o_234 (P : Params) : Obj := ⟨.none, none, (.fields ⟨[(.int 1 0), (.int 0 0), (.ref 20), (.int 5 0), (.int 0 0), (.ref 27), (.int 10 0), (.int 0 0), (.ref 47), (.int 12 0), (.int 0 0), (.ref 59), (.int 16 0), (.int 0 0), (.ref 71), (.int 26 0), (.int 0 0), (.ref 99), (.int 41 0), (.int 0 0), (.ref 133), (.int 43 0), (.int 0 0), (.ref 140), (.int 45 0), (.int 0 0), (.ref 147), (.int 49 0), (.int 0 0), (.ref 154), (.int 52 0), (.int 0 0), (.ref 161), (.int 58 0), (.int 0 0), (.ref 168), (.int 63 0), (.int 0 0), (.ref 189)]⟩), ⟨[]⟩⟩
noncomputable def o_235 (P : Params) : Obj := ⟨(.type "tuple"), none, (.seq ⟨[]⟩ 0), ⟨[]⟩⟩
noncomputable def o_236 (P : Params) : Obj := ⟨(.type "builtin_function_or_method"), none, (.fields ⟨[(.builtin "type.__prepare__"), (.type "type")]⟩), ⟨[]⟩⟩
noncomputable def o_237 (P : Params) : Obj := ⟨(.type "dict"), none, (.dict ⟨[de P "__module__" 438 (.str "switchloom.tunnels" 395), de P "__qualname__" 440 (.str "Tunnels" 439), de P "__firstlineno__" 442 (.int 63 441), de P "__init__" 449 (.ref 197), de P "set_customer" 458 (.ref 204), de P "set_inner" 468 (.ref 211), de P "outer_of" 479 (.ref 218), de P "put_on" 491 (.ref 225), de P "taken_off" 501 (.ref 232), de P "translate" 512 (.ref 239), de P "set_strict" 521 (.ref 246), de P "came_in" 530 (.ref 253), de P "goes_out" 536 (.ref 258), de P "turned" 547 (.ref 265), de P "__static_attributes__" 551 (.ref 266)]⟩ 15), ⟨[]⟩⟩
noncomputable def o_238 (P : Params) : Obj := ⟨(.type "tuple"), none, (.seq ⟨[]⟩ 0), ⟨[]⟩⟩
noncomputable def o_239 (P : Params) : Obj := ⟨.none, none, (.fields ⟨[(.int 65 0), (.int 4 0), (.ref 196), (.int 70 0), (.int 4 0), (.ref 203), (.int 73 0), (.int 4 0), (.ref 210), (.int 78 0), (.int 4 0), (.ref 217), (.int 85 0), (.int 4 0), (.ref 224), (.int 95 0), (.int 4 0), (.ref 231), (.int 103 0), (.int 4 0), (.ref 238), (.int 110 0), (.int 4 0), (.ref 245), (.int 113 0), (.int 4 0), (.ref 252), (.int 116 0), (.int 4 0), (.ref 257), (.int 120 0), (.int 4 0), (.ref 264)]⟩), ⟨[]⟩⟩
noncomputable def o_240 (P : Params) : Obj := ⟨(.type "code"), none, (.fields ⟨[(.str "Tunnels" 433), (.str "Tunnels" 434), (.str "/claim/cut.py" 435), (.int 63 0), (.int 0 0), (.int 0 0), (.int 0 0), (.int 0 0), (.ref 187), (.bool false), (.int 181 0), (.ref 188), .none, .none, .none, .none, (.int 436 0), (.int 63 0), (.str "/claim/cut.py" 437)]⟩), ⟨[]⟩⟩
noncomputable def o_241 (P : Params) : Obj := ⟨(.type "frame"), none, .plain, ⟨[(some (.ref 189)), (some (.ref 3)), (some (.ref 186)), none, (some (.str "switchloom.tunnels" 395)), none, (some (.ref 0))]⟩⟩
noncomputable def o_242 (P : Params) : Obj := ⟨(.type "tuple"), none, (.seq ⟨[]⟩ 0), ⟨[]⟩⟩
noncomputable def o_243 (P : Params) : Obj := ⟨.none, none, (.fields ⟨[]⟩), ⟨[]⟩⟩
noncomputable def o_244 (P : Params) : Obj := ⟨(.type "tuple"), none, (.seq ⟨[(.str "self" 446)]⟩ 0), ⟨[]⟩⟩
noncomputable def o_245 (P : Params) : Obj := ⟨(.type "tuple"), none, (.seq ⟨[]⟩ 0), ⟨[]⟩⟩
noncomputable def o_246 (P : Params) : Obj := ⟨.none, none, (.func ⟨"__init__", "Tunnels.__init__", (fnP (mth 19 0)), (.stmts (fnB (mth 19 0))), (fnS (mth 19 0)), 0, [], .none, .none, .none, .none, none, .none, .none, 0⟩), ⟨[]⟩⟩
noncomputable def o_247 (P : Params) : Obj := ⟨(.type "code"), none, (.fields ⟨[(.str "__init__" 443), (.str "Tunnels.__init__" 444), (.str "/claim/cut.py" 445), (.int 65 0), (.int 1 0), (.int 0 0), (.int 0 0), (.int 3 0), (.ref 191), (.bool true), (.int 181 0), (.ref 192), .none, (.ref 193), (.ref 194), (.ref 195), (.int 447 0), (.int 65 0), (.str "/claim/cut.py" 448)]⟩), ⟨[]⟩⟩
noncomputable def o_248 (P : Params) : Obj := ⟨(.type "function"), none, (.func ⟨"__init__", "Tunnels.__init__", (fnP (mth 19 0)), (.stmts (fnB (mth 19 0))), (fnS (mth 19 0)), 3, [], .none, .none, .none, (.str "switchloom.tunnels" 395), none, (.ref 196), .none, 0⟩), ⟨[]⟩⟩
noncomputable def o_249 (P : Params) : Obj := ⟨(.type "tuple"), none, (.seq ⟨[]⟩ 0), ⟨[]⟩⟩
noncomputable def o_250 (P : Params) : Obj := ⟨.none, none, (.fields ⟨[]⟩), ⟨[]⟩⟩
noncomputable def o_251 (P : Params) : Obj := ⟨(.type "tuple"), none, (.seq ⟨[(.str "self" 453), (.str "port" 454), (.str "outer" 455)]⟩ 0), ⟨[]⟩⟩
noncomputable def o_252 (P : Params) : Obj := ⟨(.type "tuple"), none, (.seq ⟨[]⟩ 0), ⟨[]⟩⟩
noncomputable def o_253 (P : Params) : Obj := ⟨.none, none, (.func ⟨"set_customer", "Tunnels.set_customer", (fnP (mth 19 1)), (.stmts (fnB (mth 19 1))), (fnS (mth 19 1)), 0, [], .none, .none, .none, .none, none, .none, .none, 0⟩), ⟨[]⟩⟩
noncomputable def o_254 (P : Params) : Obj := ⟨(.type "code"), none, (.fields ⟨[(.str "set_customer" 450), (.str "Tunnels.set_customer" 451), (.str "/claim/cut.py" 452), (.int 70 0), (.int 3 0), (.int 0 0), (.int 0 0), (.int 3 0), (.ref 198), (.bool true), (.int 181 0), (.ref 199), .none, (.ref 200), (.ref 201), (.ref 202), (.int 456 0), (.int 70 0), (.str "/claim/cut.py" 457)]⟩), ⟨[]⟩⟩
noncomputable def o_255 (P : Params) : Obj := ⟨(.type "function"), none, (.func ⟨"set_customer", "Tunnels.set_customer", (fnP (mth 19 1)), (.stmts (fnB (mth 19 1))), (fnS (mth 19 1)), 3, [], .none, .none, .none, (.str "switchloom.tunnels" 395), none, (.ref 203), .none, 0⟩), ⟨[]⟩⟩
noncomputable def o_256 (P : Params) : Obj := ⟨(.type "tuple"), none, (.seq ⟨[]⟩ 0), ⟨[]⟩⟩
noncomputable def o_257 (P : Params) : Obj := ⟨.none, none, (.fields ⟨[]⟩), ⟨[]⟩⟩
noncomputable def o_258 (P : Params) : Obj := ⟨(.type "tuple"), none, (.seq ⟨[(.str "self" 462), (.str "port" 463), (.str "inner" 464), (.str "outer" 465)]⟩ 0), ⟨[]⟩⟩
noncomputable def o_259 (P : Params) : Obj := ⟨(.type "tuple"), none, (.seq ⟨[]⟩ 0), ⟨[]⟩⟩
noncomputable def o_260 (P : Params) : Obj := ⟨.none, none, (.func ⟨"set_inner", "Tunnels.set_inner", (fnP (mth 19 2)), (.stmts (fnB (mth 19 2))), (fnS (mth 19 2)), 0, [], .none, .none, .none, .none, none, .none, .none, 0⟩), ⟨[]⟩⟩
noncomputable def o_261 (P : Params) : Obj := ⟨(.type "code"), none, (.fields ⟨[(.str "set_inner" 459), (.str "Tunnels.set_inner" 460), (.str "/claim/cut.py" 461), (.int 73 0), (.int 4 0), (.int 0 0), (.int 0 0), (.int 3 0), (.ref 205), (.bool true), (.int 181 0), (.ref 206), .none, (.ref 207), (.ref 208), (.ref 209), (.int 466 0), (.int 73 0), (.str "/claim/cut.py" 467)]⟩), ⟨[]⟩⟩
noncomputable def o_262 (P : Params) : Obj := ⟨(.type "function"), none, (.func ⟨"set_inner", "Tunnels.set_inner", (fnP (mth 19 2)), (.stmts (fnB (mth 19 2))), (fnS (mth 19 2)), 3, [], .none, .none, .none, (.str "switchloom.tunnels" 395), none, (.ref 210), .none, 0⟩), ⟨[]⟩⟩
noncomputable def o_263 (P : Params) : Obj := ⟨(.type "tuple"), none, (.seq ⟨[]⟩ 0), ⟨[]⟩⟩
noncomputable def o_264 (P : Params) : Obj := ⟨.none, none, (.fields ⟨[]⟩), ⟨[]⟩⟩
noncomputable def o_265 (P : Params) : Obj := ⟨(.type "tuple"), none, (.seq ⟨[(.str "self" 472), (.str "port" 473), (.str "frame" 474), (.str "row" 475), (.str "inner" 476)]⟩ 0), ⟨[]⟩⟩
noncomputable def o_266 (P : Params) : Obj := ⟨(.type "tuple"), none, (.seq ⟨[]⟩ 0), ⟨[]⟩⟩
noncomputable def o_267 (P : Params) : Obj := ⟨.none, none, (.func ⟨"outer_of", "Tunnels.outer_of", (fnP (mth 19 3)), (.stmts (fnB (mth 19 3))), (fnS (mth 19 3)), 0, [], .none, .none, .none, .none, none, .none, .none, 0⟩), ⟨[]⟩⟩
noncomputable def o_268 (P : Params) : Obj := ⟨(.type "code"), none, (.fields ⟨[(.str "outer_of" 469), (.str "Tunnels.outer_of" 470), (.str "/claim/cut.py" 471), (.int 78 0), (.int 3 0), (.int 0 0), (.int 0 0), (.int 3 0), (.ref 212), (.bool true), (.int 181 0), (.ref 213), .none, (.ref 214), (.ref 215), (.ref 216), (.int 477 0), (.int 78 0), (.str "/claim/cut.py" 478)]⟩), ⟨[]⟩⟩
noncomputable def o_269 (P : Params) : Obj := ⟨(.type "function"), none, (.func ⟨"outer_of", "Tunnels.outer_of", (fnP (mth 19 3)), (.stmts (fnB (mth 19 3))), (fnS (mth 19 3)), 3, [], .none, .none, .none, (.str "switchloom.tunnels" 395), none, (.ref 217), .none, 0⟩), ⟨[]⟩⟩
noncomputable def o_270 (P : Params) : Obj := ⟨(.type "tuple"), none, (.seq ⟨[]⟩ 0), ⟨[]⟩⟩
noncomputable def o_271 (P : Params) : Obj := ⟨.none, none, (.fields ⟨[]⟩), ⟨[]⟩⟩
noncomputable def o_272 (P : Params) : Obj := ⟨(.type "tuple"), none, (.seq ⟨[(.str "self" 483), (.str "port" 484), (.str "frame" 485), (.str "outer" 486), (.str "priority" 487), (.str "may_drop" 488)]⟩ 0), ⟨[]⟩⟩
noncomputable def o_273 (P : Params) : Obj := ⟨(.type "tuple"), none, (.seq ⟨[]⟩ 0), ⟨[]⟩⟩
noncomputable def o_274 (P : Params) : Obj := ⟨.none, none, (.func ⟨"put_on", "Tunnels.put_on", (fnP (mth 19 4)), (.stmts (fnB (mth 19 4))), (fnS (mth 19 4)), 0, [], .none, .none, .none, .none, none, .none, .none, 0⟩), ⟨[]⟩⟩
noncomputable def o_275 (P : Params) : Obj := ⟨(.type "code"), none, (.fields ⟨[(.str "put_on" 480), (.str "Tunnels.put_on" 481), (.str "/claim/cut.py" 482), (.int 85 0), (.int 3 0), (.int 0 0), (.int 0 0), (.int 3 0), (.ref 219), (.bool true), (.int 181 0), (.ref 220), .none, (.ref 221), (.ref 222), (.ref 223), (.int 489 0), (.int 85 0), (.str "/claim/cut.py" 490)]⟩), ⟨[]⟩⟩
noncomputable def o_276 (P : Params) : Obj := ⟨(.type "function"), none, (.func ⟨"put_on", "Tunnels.put_on", (fnP (mth 19 4)), (.stmts (fnB (mth 19 4))), (fnS (mth 19 4)), 3, [], .none, .none, .none, (.str "switchloom.tunnels" 395), none, (.ref 224), .none, 0⟩), ⟨[]⟩⟩
noncomputable def o_277 (P : Params) : Obj := ⟨(.type "tuple"), none, (.seq ⟨[]⟩ 0), ⟨[]⟩⟩
noncomputable def o_278 (P : Params) : Obj := ⟨.none, none, (.fields ⟨[]⟩), ⟨[]⟩⟩
noncomputable def o_279 (P : Params) : Obj := ⟨(.type "tuple"), none, (.seq ⟨[(.str "self" 495), (.str "port" 496), (.str "frame" 497), (.str "inner" 498)]⟩ 0), ⟨[]⟩⟩
noncomputable def o_280 (P : Params) : Obj := ⟨(.type "tuple"), none, (.seq ⟨[]⟩ 0), ⟨[]⟩⟩
noncomputable def o_281 (P : Params) : Obj := ⟨.none, none, (.func ⟨"taken_off", "Tunnels.taken_off", (fnP (mth 19 5)), (.stmts (fnB (mth 19 5))), (fnS (mth 19 5)), 0, [], .none, .none, .none, .none, none, .none, .none, 0⟩), ⟨[]⟩⟩
noncomputable def o_282 (P : Params) : Obj := ⟨(.type "code"), none, (.fields ⟨[(.str "taken_off" 492), (.str "Tunnels.taken_off" 493), (.str "/claim/cut.py" 494), (.int 95 0), (.int 3 0), (.int 0 0), (.int 0 0), (.int 3 0), (.ref 226), (.bool true), (.int 181 0), (.ref 227), .none, (.ref 228), (.ref 229), (.ref 230), (.int 499 0), (.int 95 0), (.str "/claim/cut.py" 500)]⟩), ⟨[]⟩⟩
noncomputable def o_283 (P : Params) : Obj := ⟨(.type "function"), none, (.func ⟨"taken_off", "Tunnels.taken_off", (fnP (mth 19 5)), (.stmts (fnB (mth 19 5))), (fnS (mth 19 5)), 3, [], .none, .none, .none, (.str "switchloom.tunnels" 395), none, (.ref 231), .none, 0⟩), ⟨[]⟩⟩
noncomputable def o_284 (P : Params) : Obj := ⟨(.type "tuple"), none, (.seq ⟨[]⟩ 0), ⟨[]⟩⟩
noncomputable def o_285 (P : Params) : Obj := ⟨.none, none, (.fields ⟨[]⟩), ⟨[]⟩⟩
noncomputable def o_286 (P : Params) : Obj := ⟨(.type "tuple"), none, (.seq ⟨[(.str "self" 505), (.str "port" 506), (.str "outside" 507), (.str "inside" 508), (.str "rows" 509)]⟩ 0), ⟨[]⟩⟩
noncomputable def o_287 (P : Params) : Obj := ⟨(.type "tuple"), none, (.seq ⟨[]⟩ 0), ⟨[]⟩⟩
noncomputable def o_288 (P : Params) : Obj := ⟨.none, none, (.func ⟨"translate", "Tunnels.translate", (fnP (mth 19 6)), (.stmts (fnB (mth 19 6))), (fnS (mth 19 6)), 0, [], .none, .none, .none, .none, none, .none, .none, 0⟩), ⟨[]⟩⟩
noncomputable def o_289 (P : Params) : Obj := ⟨(.type "code"), none, (.fields ⟨[(.str "translate" 502), (.str "Tunnels.translate" 503), (.str "/claim/cut.py" 504), (.int 103 0), (.int 4 0), (.int 0 0), (.int 0 0), (.int 3 0), (.ref 233), (.bool true), (.int 181 0), (.ref 234), .none, (.ref 235), (.ref 236), (.ref 237), (.int 510 0), (.int 103 0), (.str "/claim/cut.py" 511)]⟩), ⟨[]⟩⟩
noncomputable def o_290 (P : Params) : Obj := ⟨(.type "function"), none, (.func ⟨"translate", "Tunnels.translate", (fnP (mth 19 6)), (.stmts (fnB (mth 19 6))), (fnS (mth 19 6)), 3, [], .none, .none, .none, (.str "switchloom.tunnels" 395), none, (.ref 238), .none, 0⟩), ⟨[]⟩⟩
noncomputable def o_291 (P : Params) : Obj := ⟨(.type "tuple"), none, (.seq ⟨[]⟩ 0), ⟨[]⟩⟩
noncomputable def o_292 (P : Params) : Obj := ⟨.none, none, (.fields ⟨[]⟩), ⟨[]⟩⟩
noncomputable def o_293 (P : Params) : Obj := ⟨(.type "tuple"), none, (.seq ⟨[(.str "self" 516), (.str "port" 517), (.str "is_strict" 518)]⟩ 0), ⟨[]⟩⟩
noncomputable def o_294 (P : Params) : Obj := ⟨(.type "tuple"), none, (.seq ⟨[]⟩ 0), ⟨[]⟩⟩
noncomputable def o_295 (P : Params) : Obj := ⟨.none, none, (.func ⟨"set_strict", "Tunnels.set_strict", (fnP (mth 19 7)), (.stmts (fnB (mth 19 7))), (fnS (mth 19 7)), 0, [], .none, .none, .none, .none, none, .none, .none, 0⟩), ⟨[]⟩⟩
noncomputable def o_296 (P : Params) : Obj := ⟨(.type "code"), none, (.fields ⟨[(.str "set_strict" 513), (.str "Tunnels.set_strict" 514), (.str "/claim/cut.py" 515), (.int 110 0), (.int 3 0), (.int 0 0), (.int 0 0), (.int 3 0), (.ref 240), (.bool true), (.int 181 0), (.ref 241), .none, (.ref 242), (.ref 243), (.ref 244), (.int 519 0), (.int 110 0), (.str "/claim/cut.py" 520)]⟩), ⟨[]⟩⟩
noncomputable def o_297 (P : Params) : Obj := ⟨(.type "function"), none, (.func ⟨"set_strict", "Tunnels.set_strict", (fnP (mth 19 7)), (.stmts (fnB (mth 19 7))), (fnS (mth 19 7)), 3, [], .none, .none, .none, (.str "switchloom.tunnels" 395), none, (.ref 245), .none, 0⟩), ⟨[]⟩⟩
noncomputable def o_298 (P : Params) : Obj := ⟨(.type "tuple"), none, (.seq ⟨[]⟩ 0), ⟨[]⟩⟩
noncomputable def o_299 (P : Params) : Obj := ⟨.none, none, (.fields ⟨[]⟩), ⟨[]⟩⟩
noncomputable def o_300 (P : Params) : Obj := ⟨(.type "tuple"), none, (.seq ⟨[(.str "self" 525), (.str "port" 526), (.str "frame" 527)]⟩ 0), ⟨[]⟩⟩
noncomputable def o_301 (P : Params) : Obj := ⟨(.type "tuple"), none, (.seq ⟨[]⟩ 0), ⟨[]⟩⟩
noncomputable def o_302 (P : Params) : Obj := ⟨.none, none, (.func ⟨"came_in", "Tunnels.came_in", (fnP (mth 19 8)), (.stmts (fnB (mth 19 8))), (fnS (mth 19 8)), 0, [], .none, .none, .none, .none, none, .none, .none, 0⟩), ⟨[]⟩⟩
noncomputable def o_303 (P : Params) : Obj := ⟨(.type "code"), none, (.fields ⟨[(.str "came_in" 522), (.str "Tunnels.came_in" 523), (.str "/claim/cut.py" 524), (.int 113 0), (.int 3 0), (.int 0 0), (.int 0 0), (.int 3 0), (.ref 247), (.bool true), (.int 181 0), (.ref 248), .none, (.ref 249), (.ref 250), (.ref 251), (.int 528 0), (.int 113 0), (.str "/claim/cut.py" 529)]⟩), ⟨[]⟩⟩
noncomputable def o_304 (P : Params) : Obj := ⟨(.type "function"), none, (.func ⟨"came_in", "Tunnels.came_in", (fnP (mth 19 8)), (.stmts (fnB (mth 19 8))), (fnS (mth 19 8)), 3, [], .none, .none, .none, (.str "switchloom.tunnels" 395), none, (.ref 252), .none, 0⟩), ⟨[]⟩⟩
noncomputable def o_305 (P : Params) : Obj := ⟨(.type "tuple"), none, (.seq ⟨[]⟩ 0), ⟨[]⟩⟩
noncomputable def o_306 (P : Params) : Obj := ⟨.none, none, (.fields ⟨[]⟩), ⟨[]⟩⟩
noncomputable def o_307 (P : Params) : Obj := ⟨.none, none, (.func ⟨"goes_out", "Tunnels.goes_out", (fnP (mth 19 9)), (.stmts (fnB (mth 19 9))), (fnS (mth 19 9)), 0, [], .none, .none, .none, .none, none, .none, .none, 0⟩), ⟨[]⟩⟩
noncomputable def o_308 (P : Params) : Obj := ⟨(.type "code"), none, (.fields ⟨[(.str "goes_out" 531), (.str "Tunnels.goes_out" 532), (.str "/claim/cut.py" 533), (.int 116 0), (.int 3 0), (.int 0 0), (.int 0 0), (.int 3 0), (.ref 254), (.bool true), (.int 181 0), (.ref 255), .none, .none, .none, (.ref 256), (.int 534 0), (.int 116 0), (.str "/claim/cut.py" 535)]⟩), ⟨[]⟩⟩
noncomputable def o_309 (P : Params) : Obj := ⟨(.type "function"), none, (.func ⟨"goes_out", "Tunnels.goes_out", (fnP (mth 19 9)), (.stmts (fnB (mth 19 9))), (fnS (mth 19 9)), 3, [], .none, .none, .none, (.str "switchloom.tunnels" 395), none, (.ref 257), .none, 0⟩), ⟨[]⟩⟩
noncomputable def o_310 (P : Params) : Obj := ⟨(.type "tuple"), none, (.seq ⟨[]⟩ 0), ⟨[]⟩⟩
noncomputable def o_311 (P : Params) : Obj := ⟨.none, none, (.fields ⟨[]⟩), ⟨[]⟩⟩
noncomputable def o_312 (P : Params) : Obj := ⟨(.type "tuple"), none, (.seq ⟨[(.str "self" 540), (.str "port" 541), (.str "frame" 542), (.str "rows" 543), (.str "vlan" 544)]⟩ 0), ⟨[]⟩⟩
noncomputable def o_313 (P : Params) : Obj := ⟨(.type "tuple"), none, (.seq ⟨[]⟩ 0), ⟨[]⟩⟩
noncomputable def o_314 (P : Params) : Obj := ⟨.none, none, (.func ⟨"turned", "Tunnels.turned", (fnP (mth 19 10)), (.stmts (fnB (mth 19 10))), (fnS (mth 19 10)), 0, [], .none, .none, .none, .none, none, .none, .none, 0⟩), ⟨[]⟩⟩
noncomputable def o_315 (P : Params) : Obj := ⟨(.type "code"), none, (.fields ⟨[(.str "turned" 537), (.str "Tunnels.turned" 538), (.str "/claim/cut.py" 539), (.int 120 0), (.int 4 0), (.int 0 0), (.int 0 0), (.int 3 0), (.ref 259), (.bool true), (.int 181 0), (.ref 260), .none, (.ref 261), (.ref 262), (.ref 263), (.int 545 0), (.int 120 0), (.str "/claim/cut.py" 546)]⟩), ⟨[]⟩⟩
noncomputable def o_316 (P : Params) : Obj := ⟨(.type "function"), none, (.func ⟨"turned", "Tunnels.turned", (fnP (mth 19 10)), (.stmts (fnB (mth 19 10))), (fnS (mth 19 10)), 3, [], .none, .none, .none, (.str "switchloom.tunnels" 395), none, (.ref 264), .none, 0⟩), ⟨[]⟩⟩
noncomputable def o_317 (P : Params) : Obj := ⟨(.type "tuple"), none, (.seq ⟨[(.str "inside" 548), (.str "ports" 549), (.str "strict" 550)]⟩ 0), ⟨[]⟩⟩
noncomputable def o_318 (P : Params) : Obj := ⟨(.type "dict"), none, (.dict ⟨[de P "__module__" 438 (.str "switchloom.tunnels" 395), de P "__firstlineno__" 442 (.int 63 441), de P "__init__" 449 (.ref 197), de P "set_customer" 458 (.ref 204), de P "set_inner" 468 (.ref 211), de P "outer_of" 479 (.ref 218), de P "put_on" 491 (.ref 225), de P "taken_off" 501 (.ref 232), de P "translate" 512 (.ref 239), de P "set_strict" 521 (.ref 246), de P "came_in" 530 (.ref 253), de P "goes_out" 536 (.ref 258), de P "turned" 547 (.ref 265), de P "__static_attributes__" 551 (.ref 266), de P "__dict__" 553 (.ref 269), de P "__weakref__" 555 (.ref 270), de P "__doc__" 556 .none]⟩ 4), ⟨[]⟩⟩
noncomputable def o_319 (P : Params) : Obj := ⟨(.type "type"), none, (.cls ⟨"Tunnels", [(.type "object")], [(.ref 268), (.type "object")], 267, "Tunnels", true, [], [], false, none, false⟩), ⟨[none, none, (some (.str "Tunnels" 431)), (some (.str "Tunnels" 439)), (some (.builtin "object.__new__")), (some (.bool true))]⟩⟩
noncomputable def o_320 (P : Params) : Obj := ⟨(.type "getset_descriptor"), none, (.fields ⟨[(.str "__dict__" 552), (.ref 268), (.builtin "function.__dict__"), (.builtin "function.__dict__#set")]⟩), ⟨[]⟩⟩
noncomputable def o_321 (P : Params) : Obj := ⟨(.type "getset_descriptor"), none, (.fields ⟨[(.str "__weakref__" 554), (.ref 268), (.builtin "ExceptionGroup.__weakref__"), .none]⟩), ⟨[]⟩⟩
noncomputable def o_322 (P : Params) : Obj := ⟨(.type "super"), none, (.fields ⟨[(.ref 268), (.ref 268), (.ref 268)]⟩), ⟨[]⟩⟩
noncomputable def o_323 (P : Params) : Obj := ⟨(.type "builtin_function_or_method"), none, (.fields ⟨[(.builtin "object.__init_subclass__"), (.ref 268)]⟩), ⟨[]⟩⟩
noncomputable def o_324 (P : Params) : Obj := ⟨(.type "dict"), none, (.dict ⟨[de P "__name__" 165 (.str "law_pb0547_01" 559), de P "__doc__" 166 .none, de P "__package__" 167 .none, de P "__loader__" 168 (.builtin "__main__.__loader__#opaque"), de P "__spec__" 169 .none, de P "__annotations__" 170 (.ref 6), de P "__builtins__" 171 (.ref 4), de P "__file__" 173 (.str "/claim/cut.py" 172), de P "__cached__" 174 .none, de P "_wall" 193 (.ref 21), de P "SwitchError" 224 (.ref 38), de P "FormError" 240 (.ref 51), de P "TableError" 256 (.ref 63), de P "LEAST_SIZE" 260 (.int 60 259), de P "Tag" 302 (.ref 89), de P "Frame" 353 (.ref 123), de P "with_tags" 363 (.ref 134), de P "pushed" 371 (.ref 141), de P "outer_tag" 378 (.ref 148), de P "popped" 385 (.ref 155), de P "with_vlan" 394 (.ref 162), de P "PROVIDER_KIND" 398 (.int 34984 397), de P "MOST_TAGS" 400 (.int 4 399), de P "TunnelPort" 430 (.ref 179), de P "Tunnels" 558 (.ref 268), de P "_law_pool" 571 (.ref 279), de P "_law_take" 580 (.ref 286), de P "_law_one" 588 (.ref 293), de P "_law_frame" 599 (.ref 300), de P "_law_built" 612 (.ref 307), de P "_law_outer" 622 (.ref 314), de P "_law_tunnel_right" 639 (.ref 321), de P "_law_taken_right" 652 (.ref 328), de P "_law_translations" 666 (.ref 335), de P "_law_turned" 676 (.ref 342), de P "_law_translated_right" 682 (.ref 347)]⟩ 36), ⟨[]⟩⟩
noncomputable def o_325 (P : Params) : Obj := ⟨.none, none, (.fields ⟨[(.int 1 0), (.int 0 0), (.ref 20), (.int 5 0), (.int 0 0), (.ref 27), (.int 10 0), (.int 0 0), (.ref 47), (.int 12 0), (.int 0 0), (.ref 59), (.int 16 0), (.int 0 0), (.ref 71), (.int 26 0), (.int 0 0), (.ref 99), (.int 41 0), (.int 0 0), (.ref 133), (.int 43 0), (.int 0 0), (.ref 140), (.int 45 0), (.int 0 0), (.ref 147), (.int 49 0), (.int 0 0), (.ref 154), (.int 52 0), (.int 0 0), (.ref 161), (.int 58 0), (.int 0 0), (.ref 168), (.int 63 0), (.int 0 0), (.ref 189), (.int 128 0), (.int 0 0), (.ref 278), (.int 135 0), (.int 0 0), (.ref 285), (.int 142 0), (.int 0 0), (.ref 292), (.int 144 0), (.int 0 0), (.ref 299), (.int 150 0), (.int 0 0), (.ref 306), (.int 160 0), (.int 0 0), (.ref 313), (.int 163 0), (.int 0 0), (.ref 320), (.int 179 0), (.int 0 0), (.ref 327), (.int 184 0), (.int 0 0), (.ref 334), (.int 199 0), (.int 0 0), (.ref 341), (.int 206 0), (.int 0 0), (.ref 346)]⟩), ⟨[]⟩⟩
noncomputable def o_326 (P : Params) : Obj := ⟨(.type "tuple"), none, (.seq ⟨[]⟩ 0), ⟨[]⟩⟩
noncomputable def o_327 (P : Params) : Obj := ⟨.none, none, (.fields ⟨[]⟩), ⟨[]⟩⟩
noncomputable def o_328 (P : Params) : Obj := ⟨(.type "tuple"), none, (.seq ⟨[(.str "script" 564), (.str "k" 565), (.str "cell" 566), (.str "big" 567), (.str "mixed" 568)]⟩ 0), ⟨[]⟩⟩
noncomputable def o_329 (P : Params) : Obj := ⟨(.type "tuple"), none, (.seq ⟨[]⟩ 0), ⟨[]⟩⟩
noncomputable def o_330 (P : Params) : Obj := ⟨.none, none, (.func ⟨"_law_pool", "_law_pool", (fnP (stm 21)), (.stmts (fnB (stm 21))), (fnS (stm 21)), 0, [], .none, .none, .none, .none, none, .none, .none, 0⟩), ⟨[]⟩⟩
noncomputable def o_331 (P : Params) : Obj := ⟨(.type "code"), none, (.fields ⟨[(.str "_law_pool" 561), (.str "_law_pool" 562), (.str "/claim/cut.py" 563), (.int 128 0), (.int 2 0), (.int 0 0), (.int 0 0), (.int 3 0), (.ref 273), (.bool true), (.int 181 0), (.ref 274), .none, (.ref 275), (.ref 276), (.ref 277), (.int 569 0), (.int 128 0), (.str "/claim/cut.py" 570)]⟩), ⟨[]⟩⟩
noncomputable def o_332 (P : Params) : Obj := ⟨(.type "function"), none, (.func ⟨"_law_pool", "_law_pool", (fnP (stm 21)), (.stmts (fnB (stm 21))), (fnS (stm 21)), 3, [], .none, .none, .none, (.str "law_pb0547_01" 559), none, (.ref 278), .none, 0⟩), ⟨[]⟩⟩
noncomputable def o_333 (P : Params) : Obj := ⟨(.type "tuple"), none, (.seq ⟨[]⟩ 0), ⟨[]⟩⟩
noncomputable def o_334 (P : Params) : Obj := ⟨.none, none, (.fields ⟨[]⟩), ⟨[]⟩⟩
noncomputable def o_335 (P : Params) : Obj := ⟨(.type "tuple"), none, (.seq ⟨[(.str "source" 575), (.str "top" 576), (.str "drawn" 577)]⟩ 0), ⟨[]⟩⟩
noncomputable def o_336 (P : Params) : Obj := ⟨(.type "tuple"), none, (.seq ⟨[]⟩ 0), ⟨[]⟩⟩
noncomputable def o_337 (P : Params) : Obj := ⟨.none, none, (.func ⟨"_law_take", "_law_take", (fnP (stm 22)), (.stmts (fnB (stm 22))), (fnS (stm 22)), 0, [], .none, .none, .none, .none, none, .none, .none, 0⟩), ⟨[]⟩⟩
noncomputable def o_338 (P : Params) : Obj := ⟨(.type "code"), none, (.fields ⟨[(.str "_law_take" 572), (.str "_law_take" 573), (.str "/claim/cut.py" 574), (.int 135 0), (.int 2 0), (.int 0 0), (.int 0 0), (.int 3 0), (.ref 280), (.bool true), (.int 181 0), (.ref 281), .none, (.ref 282), (.ref 283), (.ref 284), (.int 578 0), (.int 135 0), (.str "/claim/cut.py" 579)]⟩), ⟨[]⟩⟩
noncomputable def o_339 (P : Params) : Obj := ⟨(.type "function"), none, (.func ⟨"_law_take", "_law_take", (fnP (stm 22)), (.stmts (fnB (stm 22))), (fnS (stm 22)), 3, [], .none, .none, .none, (.str "law_pb0547_01" 559), none, (.ref 285), .none, 0⟩), ⟨[]⟩⟩
noncomputable def o_340 (P : Params) : Obj := ⟨(.type "tuple"), none, (.seq ⟨[]⟩ 0), ⟨[]⟩⟩
noncomputable def o_341 (P : Params) : Obj := ⟨.none, none, (.fields ⟨[]⟩), ⟨[]⟩⟩
noncomputable def o_342 (P : Params) : Obj := ⟨(.type "tuple"), none, (.seq ⟨[(.str "source" 584), (.str "things" 585)]⟩ 0), ⟨[]⟩⟩
noncomputable def o_343 (P : Params) : Obj := ⟨(.type "tuple"), none, (.seq ⟨[]⟩ 0), ⟨[]⟩⟩
noncomputable def o_344 (P : Params) : Obj := ⟨.none, none, (.func ⟨"_law_one", "_law_one", (fnP (stm 23)), (.stmts (fnB (stm 23))), (fnS (stm 23)), 0, [], .none, .none, .none, .none, none, .none, .none, 0⟩), ⟨[]⟩⟩
noncomputable def o_345 (P : Params) : Obj := ⟨(.type "code"), none, (.fields ⟨[(.str "_law_one" 581), (.str "_law_one" 582), (.str "/claim/cut.py" 583), (.int 142 0), (.int 2 0), (.int 0 0), (.int 0 0), (.int 3 0), (.ref 287), (.bool true), (.int 181 0), (.ref 288), .none, (.ref 289), (.ref 290), (.ref 291), (.int 586 0), (.int 142 0), (.str "/claim/cut.py" 587)]⟩), ⟨[]⟩⟩
noncomputable def o_346 (P : Params) : Obj := ⟨(.type "function"), none, (.func ⟨"_law_one", "_law_one", (fnP (stm 23)), (.stmts (fnB (stm 23))), (fnS (stm 23)), 3, [], .none, .none, .none, (.str "law_pb0547_01" 559), none, (.ref 292), .none, 0⟩), ⟨[]⟩⟩
noncomputable def o_347 (P : Params) : Obj := ⟨(.type "tuple"), none, (.seq ⟨[]⟩ 0), ⟨[]⟩⟩
noncomputable def o_348 (P : Params) : Obj := ⟨.none, none, (.fields ⟨[]⟩), ⟨[]⟩⟩
noncomputable def o_349 (P : Params) : Obj := ⟨(.type "tuple"), none, (.seq ⟨[(.str "source" 592), (.str "tags" 593), (.str "turn" 594), (.str "kind" 595), (.str "vlan" 596)]⟩ 0), ⟨[]⟩⟩
noncomputable def o_350 (P : Params) : Obj := ⟨(.type "tuple"), none, (.seq ⟨[]⟩ 0), ⟨[]⟩⟩
noncomputable def o_351 (P : Params) : Obj := ⟨.none, none, (.func ⟨"_law_frame", "_law_frame", (fnP (stm 24)), (.stmts (fnB (stm 24))), (fnS (stm 24)), 0, [], .none, .none, .none, .none, none, .none, .none, 0⟩), ⟨[]⟩⟩
noncomputable def o_352 (P : Params) : Obj := ⟨(.type "code"), none, (.fields ⟨[(.str "_law_frame" 589), (.str "_law_frame" 590), (.str "/claim/cut.py" 591), (.int 144 0), (.int 1 0), (.int 0 0), (.int 0 0), (.int 3 0), (.ref 294), (.bool true), (.int 181 0), (.ref 295), .none, (.ref 296), (.ref 297), (.ref 298), (.int 597 0), (.int 144 0), (.str "/claim/cut.py" 598)]⟩), ⟨[]⟩⟩
noncomputable def o_353 (P : Params) : Obj := ⟨(.type "function"), none, (.func ⟨"_law_frame", "_law_frame", (fnP (stm 24)), (.stmts (fnB (stm 24))), (fnS (stm 24)), 3, [], .none, .none, .none, (.str "law_pb0547_01" 559), none, (.ref 299), .none, 0⟩), ⟨[]⟩⟩
noncomputable def o_354 (P : Params) : Obj := ⟨(.type "tuple"), none, (.seq ⟨[]⟩ 0), ⟨[]⟩⟩
noncomputable def o_355 (P : Params) : Obj := ⟨.none, none, (.fields ⟨[]⟩), ⟨[]⟩⟩
noncomputable def o_356 (P : Params) : Obj := ⟨(.type "tuple"), none, (.seq ⟨[(.str "source" 603), (.str "tunnels" 604), (.str "own" 605), (.str "port" 606), (.str "turn" 607), (.str "inner" 608), (.str "outer" 609)]⟩ 0), ⟨[]⟩⟩
noncomputable def o_357 (P : Params) : Obj := ⟨(.type "tuple"), none, (.seq ⟨[]⟩ 0), ⟨[]⟩⟩
noncomputable def o_358 (P : Params) : Obj := ⟨.none, none, (.func ⟨"_law_built", "_law_built", (fnP (stm 25)), (.stmts (fnB (stm 25))), (fnS (stm 25)), 0, [], .none, .none, .none, .none, none, .none, .none, 0⟩), ⟨[]⟩⟩
noncomputable def o_359 (P : Params) : Obj := ⟨(.type "code"), none, (.fields ⟨[(.str "_law_built" 600), (.str "_law_built" 601), (.str "/claim/cut.py" 602), (.int 150 0), (.int 1 0), (.int 0 0), (.int 0 0), (.int 3 0), (.ref 301), (.bool true), (.int 181 0), (.ref 302), .none, (.ref 303), (.ref 304), (.ref 305), (.int 610 0), (.int 150 0), (.str "/claim/cut.py" 611)]⟩), ⟨[]⟩⟩
noncomputable def o_360 (P : Params) : Obj := ⟨(.type "function"), none, (.func ⟨"_law_built", "_law_built", (fnP (stm 25)), (.stmts (fnB (stm 25))), (fnS (stm 25)), 3, [], .none, .none, .none, (.str "law_pb0547_01" 559), none, (.ref 306), .none, 0⟩), ⟨[]⟩⟩
noncomputable def o_361 (P : Params) : Obj := ⟨(.type "tuple"), none, (.seq ⟨[]⟩ 0), ⟨[]⟩⟩
noncomputable def o_362 (P : Params) : Obj := ⟨.none, none, (.fields ⟨[]⟩), ⟨[]⟩⟩
noncomputable def o_363 (P : Params) : Obj := ⟨(.type "tuple"), none, (.seq ⟨[(.str "own" 616), (.str "port" 617), (.str "tags" 618), (.str "rows" 619)]⟩ 0), ⟨[]⟩⟩
noncomputable def o_364 (P : Params) : Obj := ⟨(.type "tuple"), none, (.seq ⟨[]⟩ 0), ⟨[]⟩⟩
noncomputable def o_365 (P : Params) : Obj := ⟨.none, none, (.func ⟨"_law_outer", "_law_outer", (fnP (stm 26)), (.stmts (fnB (stm 26))), (fnS (stm 26)), 0, [], .none, .none, .none, .none, none, .none, .none, 0⟩), ⟨[]⟩⟩
noncomputable def o_366 (P : Params) : Obj := ⟨(.type "code"), none, (.fields ⟨[(.str "_law_outer" 613), (.str "_law_outer" 614), (.str "/claim/cut.py" 615), (.int 160 0), (.int 3 0), (.int 0 0), (.int 0 0), (.int 3 0), (.ref 308), (.bool true), (.int 181 0), (.ref 309), .none, (.ref 310), (.ref 311), (.ref 312), (.int 620 0), (.int 160 0), (.str "/claim/cut.py" 621)]⟩), ⟨[]⟩⟩
noncomputable def o_367 (P : Params) : Obj := ⟨(.type "function"), none, (.func ⟨"_law_outer", "_law_outer", (fnP (stm 26)), (.stmts (fnB (stm 26))), (fnS (stm 26)), 3, [], .none, .none, .none, (.str "law_pb0547_01" 559), none, (.ref 313), .none, 0⟩), ⟨[]⟩⟩
noncomputable def o_368 (P : Params) : Obj := ⟨(.type "tuple"), none, (.seq ⟨[]⟩ 0), ⟨[]⟩⟩
noncomputable def o_369 (P : Params) : Obj := ⟨.none, none, (.fields ⟨[]⟩), ⟨[]⟩⟩
noncomputable def o_370 (P : Params) : Obj := ⟨(.type "tuple"), none, (.seq ⟨[(.str "tunnels" 626), (.str "own" 627), (.str "port" 628), (.str "frame" 629), (.str "rows" 630), (.str "told" 631), (.str "outer" 632), (.str "first" 633), (.str "other" 634), (.str "back" 635), (.str "is_right" 636)]⟩ 0), ⟨[]⟩⟩
noncomputable def o_371 (P : Params) : Obj := ⟨(.type "tuple"), none, (.seq ⟨[]⟩ 0), ⟨[]⟩⟩
noncomputable def o_372 (P : Params) : Obj := ⟨.none, none, (.func ⟨"_law_tunnel_right", "_law_tunnel_right", (fnP (stm 27)), (.stmts (fnB (stm 27))), (fnS (stm 27)), 0, [], .none, .none, .none, .none, none, .none, .none, 0⟩), ⟨[]⟩⟩
noncomputable def o_373 (P : Params) : Obj := ⟨(.type "code"), none, (.fields ⟨[(.str "_law_tunnel_right" 623), (.str "_law_tunnel_right" 624), (.str "/claim/cut.py" 625), (.int 163 0), (.int 4 0), (.int 0 0), (.int 0 0), (.int 3 0), (.ref 315), (.bool true), (.int 181 0), (.ref 316), .none, (.ref 317), (.ref 318), (.ref 319), (.int 637 0), (.int 163 0), (.str "/claim/cut.py" 638)]⟩), ⟨[]⟩⟩
noncomputable def o_374 (P : Params) : Obj := ⟨(.type "function"), none, (.func ⟨"_law_tunnel_right", "_law_tunnel_right", (fnP (stm 27)), (.stmts (fnB (stm 27))), (fnS (stm 27)), 3, [], .none, .none, .none, (.str "law_pb0547_01" 559), none, (.ref 320), .none, 0⟩), ⟨[]⟩⟩
noncomputable def o_375 (P : Params) : Obj := ⟨(.type "tuple"), none, (.seq ⟨[]⟩ 0), ⟨[]⟩⟩
noncomputable def o_376 (P : Params) : Obj := ⟨.none, none, (.fields ⟨[]⟩), ⟨[]⟩⟩
noncomputable def o_377 (P : Params) : Obj := ⟨(.type "tuple"), none, (.seq ⟨[(.str "tunnels" 643), (.str "own" 644), (.str "port" 645), (.str "frame" 646), (.str "rows" 647), (.str "is_let" 648), (.str "told" 649)]⟩ 0), ⟨[]⟩⟩
noncomputable def o_378 (P : Params) : Obj := ⟨(.type "tuple"), none, (.seq ⟨[]⟩ 0), ⟨[]⟩⟩
noncomputable def o_379 (P : Params) : Obj := ⟨.none, none, (.func ⟨"_law_taken_right", "_law_taken_right", (fnP (stm 28)), (.stmts (fnB (stm 28))), (fnS (stm 28)), 0, [], .none, .none, .none, .none, none, .none, .none, 0⟩), ⟨[]⟩⟩
noncomputable def o_380 (P : Params) : Obj := ⟨(.type "code"), none, (.fields ⟨[(.str "_law_taken_right" 640), (.str "_law_taken_right" 641), (.str "/claim/cut.py" 642), (.int 179 0), (.int 4 0), (.int 0 0), (.int 0 0), (.int 3 0), (.ref 322), (.bool true), (.int 181 0), (.ref 323), .none, (.ref 324), (.ref 325), (.ref 326), (.int 650 0), (.int 179 0), (.str "/claim/cut.py" 651)]⟩), ⟨[]⟩⟩
noncomputable def o_381 (P : Params) : Obj := ⟨(.type "function"), none, (.func ⟨"_law_taken_right", "_law_taken_right", (fnP (stm 28)), (.stmts (fnB (stm 28))), (fnS (stm 28)), 3, [], .none, .none, .none, (.str "law_pb0547_01" 559), none, (.ref 327), .none, 0⟩), ⟨[]⟩⟩
noncomputable def o_382 (P : Params) : Obj := ⟨(.type "tuple"), none, (.seq ⟨[]⟩ 0), ⟨[]⟩⟩
noncomputable def o_383 (P : Params) : Obj := ⟨.none, none, (.fields ⟨[]⟩), ⟨[]⟩⟩
noncomputable def o_384 (P : Params) : Obj := ⟨(.type "tuple"), none, (.seq ⟨[(.str "source" 656), (.str "tunnels" 657), (.str "found" 658), (.str "turn" 659), (.str "port" 660), (.str "outside" 661), (.str "inside" 662), (.str "is_free" 663)]⟩ 0), ⟨[]⟩⟩
noncomputable def o_385 (P : Params) : Obj := ⟨(.type "tuple"), none, (.seq ⟨[]⟩ 0), ⟨[]⟩⟩
noncomputable def o_386 (P : Params) : Obj := ⟨.none, none, (.func ⟨"_law_translations", "_law_translations", (fnP (stm 29)), (.stmts (fnB (stm 29))), (fnS (stm 29)), 0, [], .none, .none, .none, .none, none, .none, .none, 0⟩), ⟨[]⟩⟩
noncomputable def o_387 (P : Params) : Obj := ⟨(.type "code"), none, (.fields ⟨[(.str "_law_translations" 653), (.str "_law_translations" 654), (.str "/claim/cut.py" 655), (.int 184 0), (.int 2 0), (.int 0 0), (.int 0 0), (.int 3 0), (.ref 329), (.bool true), (.int 181 0), (.ref 330), .none, (.ref 331), (.ref 332), (.ref 333), (.int 664 0), (.int 184 0), (.str "/claim/cut.py" 665)]⟩), ⟨[]⟩⟩
noncomputable def o_388 (P : Params) : Obj := ⟨(.type "function"), none, (.func ⟨"_law_translations", "_law_translations", (fnP (stm 29)), (.stmts (fnB (stm 29))), (fnS (stm 29)), 3, [], .none, .none, .none, (.str "law_pb0547_01" 559), none, (.ref 334), .none, 0⟩), ⟨[]⟩⟩
noncomputable def o_389 (P : Params) : Obj := ⟨(.type "tuple"), none, (.seq ⟨[]⟩ 0), ⟨[]⟩⟩
noncomputable def o_390 (P : Params) : Obj := ⟨.none, none, (.fields ⟨[]⟩), ⟨[]⟩⟩
noncomputable def o_391 (P : Params) : Obj := ⟨(.type "tuple"), none, (.seq ⟨[(.str "rows" 670), (.str "vlans" 671), (.str "is_strict" 672), (.str "first" 673)]⟩ 0), ⟨[]⟩⟩
noncomputable def o_392 (P : Params) : Obj := ⟨(.type "tuple"), none, (.seq ⟨[]⟩ 0), ⟨[]⟩⟩
noncomputable def o_393 (P : Params) : Obj := ⟨.none, none, (.func ⟨"_law_turned", "_law_turned", (fnP (stm 30)), (.stmts (fnB (stm 30))), (fnS (stm 30)), 0, [], .none, .none, .none, .none, none, .none, .none, 0⟩), ⟨[]⟩⟩
noncomputable def o_394 (P : Params) : Obj := ⟨(.type "code"), none, (.fields ⟨[(.str "_law_turned" 667), (.str "_law_turned" 668), (.str "/claim/cut.py" 669), (.int 199 0), (.int 3 0), (.int 0 0), (.int 0 0), (.int 3 0), (.ref 336), (.bool true), (.int 181 0), (.ref 337), .none, (.ref 338), (.ref 339), (.ref 340), (.int 674 0), (.int 199 0), (.str "/claim/cut.py" 675)]⟩), ⟨[]⟩⟩
noncomputable def o_395 (P : Params) : Obj := ⟨(.type "function"), none, (.func ⟨"_law_turned", "_law_turned", (fnP (stm 30)), (.stmts (fnB (stm 30))), (fnS (stm 30)), 3, [], .none, .none, .none, (.str "law_pb0547_01" 559), none, (.ref 341), .none, 0⟩), ⟨[]⟩⟩
noncomputable def o_396 (P : Params) : Obj := ⟨(.type "tuple"), none, (.seq ⟨[]⟩ 0), ⟨[]⟩⟩
noncomputable def o_397 (P : Params) : Obj := ⟨.none, none, (.fields ⟨[]⟩), ⟨[]⟩⟩
noncomputable def o_398 (P : Params) : Obj := ⟨.none, none, (.func ⟨"_law_translated_right", "_law_translated_right", (fnP (stm 31)), (.stmts (fnB (stm 31))), (fnS (stm 31)), 0, [], .none, .none, .none, .none, none, .none, .none, 0⟩), ⟨[]⟩⟩
noncomputable def o_399 (P : Params) : Obj := ⟨(.type "code"), none, (.fields ⟨[(.str "_law_translated_right" 677), (.str "_law_translated_right" 678), (.str "/claim/cut.py" 679), (.int 206 0), (.int 5 0), (.int 0 0), (.int 0 0), (.int 3 0), (.ref 343), (.bool true), (.int 181 0), (.ref 344), .none, .none, .none, (.ref 345), (.int 680 0), (.int 206 0), (.str "/claim/cut.py" 681)]⟩), ⟨[]⟩⟩
noncomputable def o_400 (P : Params) : Obj := ⟨(.type "function"), none, (.func ⟨"_law_translated_right", "_law_translated_right", (fnP (stm 31)), (.stmts (fnB (stm 31))), (fnS (stm 31)), 3, [], .none, .none, .none, (.str "law_pb0547_01" 559), none, (.ref 346), .none, 0⟩), ⟨[]⟩⟩
noncomputable def o_401 (P : Params) : Obj := ⟨(.type "dict"), none, (.dict ⟨[de P "__name__" 165 (.str "law_pb0547_01" 559), de P "__doc__" 166 .none, de P "__package__" 167 .none, de P "__loader__" 168 (.builtin "__main__.__loader__#opaque"), de P "__spec__" 169 .none, de P "__annotations__" 170 (.ref 6), de P "__builtins__" 171 (.ref 4), de P "__file__" 173 (.str "/claim/cut.py" 172), de P "__cached__" 174 .none, de P "_wall" 193 (.ref 21), de P "SwitchError" 224 (.ref 38), de P "FormError" 240 (.ref 51), de P "TableError" 256 (.ref 63), de P "LEAST_SIZE" 260 (.int 60 259), de P "Tag" 302 (.ref 89), de P "Frame" 353 (.ref 123), de P "with_tags" 363 (.ref 134), de P "pushed" 371 (.ref 141), de P "outer_tag" 378 (.ref 148), de P "popped" 385 (.ref 155), de P "with_vlan" 394 (.ref 162), de P "PROVIDER_KIND" 398 (.int 34984 397), de P "MOST_TAGS" 400 (.int 4 399), de P "TunnelPort" 430 (.ref 179), de P "Tunnels" 558 (.ref 268), de P "_law_pool" 571 (.ref 279), de P "_law_take" 580 (.ref 286), de P "_law_one" 588 (.ref 293), de P "_law_frame" 599 (.ref 300), de P "_law_built" 612 (.ref 307), de P "_law_outer" 622 (.ref 314), de P "_law_tunnel_right" 639 (.ref 321), de P "_law_taken_right" 652 (.ref 328), de P "_law_translations" 666 (.ref 335), de P "_law_turned" 676 (.ref 342), de P "_law_translated_right" 682 (.ref 347), de P "law" 698 (.ref 354)]⟩ 37), ⟨[]⟩⟩
noncomputable def o_402 (P : Params) : Obj := ⟨.none, none, (.fields ⟨[(.int 1 0), (.int 0 0), (.ref 20), (.int 5 0), (.int 0 0), (.ref 27), (.int 10 0), (.int 0 0), (.ref 47), (.int 12 0), (.int 0 0), (.ref 59), (.int 16 0), (.int 0 0), (.ref 71), (.int 26 0), (.int 0 0), (.ref 99), (.int 41 0), (.int 0 0), (.ref 133), (.int 43 0), (.int 0 0), (.ref 140), (.int 45 0), (.int 0 0), (.ref 147), (.int 49 0), (.int 0 0), (.ref 154), (.int 52 0), (.int 0 0), (.ref 161), (.int 58 0), (.int 0 0), (.ref 168), (.int 63 0), (.int 0 0), (.ref 189), (.int 128 0), (.int 0 0), (.ref 278), (.int 135 0), (.int 0 0), (.ref 285), (.int 142 0), (.int 0 0), (.ref 292), (.int 144 0), (.int 0 0), (.ref 299), (.int 150 0), (.int 0 0), (.ref 306), (.int 160 0), (.int 0 0), (.ref 313), (.int 163 0), (.int 0 0), (.ref 320), (.int 179 0), (.int 0 0), (.ref 327), (.int 184 0), (.int 0 0), (.ref 334), (.int 199 0), (.int 0 0), (.ref 341), (.int 206 0), (.int 0 0), (.ref 346), (.int 217 0), (.int 0 0), (.ref 353)]⟩), ⟨[]⟩⟩
noncomputable def o_403 (P : Params) : Obj := ⟨(.type "tuple"), none, (.seq ⟨[]⟩ 0), ⟨[]⟩⟩
noncomputable def o_404 (P : Params) : Obj := ⟨.none, none, (.fields ⟨[]⟩), ⟨[]⟩⟩
noncomputable def o_405 (P : Params) : Obj := ⟨(.type "tuple"), none, (.seq ⟨[(.str "script" 686), (.str "fixed" 687), (.str "told" 688), (.str "source" 689), (.str "tunnels" 690), (.str "own" 691), (.str "vlans" 692), (.str "turn" 693), (.str "frame" 694), (.str "port" 695)]⟩ 0), ⟨[]⟩⟩
noncomputable def o_406 (P : Params) : Obj := ⟨(.type "tuple"), none, (.seq ⟨[]⟩ 0), ⟨[]⟩⟩
noncomputable def o_407 (P : Params) : Obj := ⟨.none, none, (.func ⟨"law", "law", (fnP (stm 32)), (.stmts (fnB (stm 32))), (fnS (stm 32)), 0, [], .none, .none, .none, .none, none, .none, .none, 0⟩), ⟨[]⟩⟩
noncomputable def o_408 (P : Params) : Obj := ⟨(.type "code"), none, (.fields ⟨[(.str "law" 683), (.str "law" 684), (.str "/claim/cut.py" 685), (.int 217 0), (.int 1 0), (.int 0 0), (.int 0 0), (.int 3 0), (.ref 348), (.bool true), (.int 181 0), (.ref 349), .none, (.ref 350), (.ref 351), (.ref 352), (.int 696 0), (.int 217 0), (.str "/claim/cut.py" 697)]⟩), ⟨[]⟩⟩
noncomputable def o_409 (P : Params) : Obj := ⟨(.type "function"), none, (.func ⟨"law", "law", (fnP (stm 32)), (.stmts (fnB (stm 32))), (fnS (stm 32)), 3, [], .none, .none, .none, (.str "law_pb0547_01" 559), none, (.ref 353), .none, 0⟩), ⟨[]⟩⟩
noncomputable def t_47 (P : Params) : BT := .node (boot_o_0 P) (.node (boot_o_1 P) (.node (boot_o_3 P) (.node (boot_o_7 P) .nil .nil) (.node (o_43 P) .nil .nil)) (.node (boot_o_5 P) (.node (boot_o_9 P) .nil .nil) (.node (o_45 P) .nil .nil))) (.node (boot_o_2 P) (.node (boot_o_4 P) (.node (boot_o_8 P) .nil .nil) (.node (o_44 P) .nil .nil)) (.node (boot_o_6 P) (.node (boot_o_10 P) .nil .nil) (.node (o_46 P) .nil .nil)))
noncomputable def t_78 (P : Params) : BT := .node (boot_o_0 P) (.node (boot_o_1 P) (.node (o_50 P) (.node (boot_o_7 P) (.node (o_52 P) (.node (o_68 P) .nil .nil) .nil) (.node (o_60 P) (.node (o_76 P) .nil .nil) .nil)) (.node (o_43 P) (.node (o_56 P) (.node (o_72 P) .nil .nil) .nil) (.node (o_64 P) .nil .nil))) (.node (boot_o_5 P) (.node (boot_o_9 P) (.node (o_54 P) (.node (o_70 P) .nil .nil) .nil) (.node (o_62 P) (.node (o_78 P) .nil .nil) .nil)) (.node (o_45 P) (.node (o_58 P) (.node (o_74 P) .nil .nil) .nil) (.node (o_66 P) .nil .nil)))) (.node (o_49 P) (.node (boot_o_4 P) (.node (boot_o_8 P) (.node (o_53 P) (.node (o_69 P) .nil .nil) .nil) (.node (o_61 P) (.node (o_77 P) .nil .nil) .nil)) (.node (o_51 P) (.node (o_57 P) (.node (o_73 P) .nil .nil) .nil) (.node (o_65 P) .nil .nil))) (.node (boot_o_6 P) (.node (boot_o_10 P) (.node (o_55 P) (.node (o_71 P) .nil .nil) .nil) (.node (o_63 P) .nil .nil)) (.node (o_46 P) (.node (o_59 P) (.node (o_75 P) .nil .nil) .nil) (.node (o_67 P) .nil .nil))))
noncomputable def t_93 (P : Params) : BT := .node (boot_o_0 P) (.node (boot_o_1 P) (.node (o_79 P) (.node (boot_o_7 P) (.node (o_52 P) (.node (o_68 P) .nil .nil) (.node (o_87 P) .nil .nil)) (.node (o_60 P) (.node (o_76 P) .nil .nil) .nil)) (.node (o_43 P) (.node (o_56 P) (.node (o_72 P) .nil .nil) (.node (o_91 P) .nil .nil)) (.node (o_64 P) (.node (o_83 P) .nil .nil) .nil))) (.node (boot_o_5 P) (.node (boot_o_9 P) (.node (o_54 P) (.node (o_70 P) .nil .nil) (.node (o_89 P) .nil .nil)) (.node (o_62 P) (.node (o_78 P) .nil .nil) .nil)) (.node (o_45 P) (.node (o_58 P) (.node (o_74 P) .nil .nil) (.node (o_93 P) .nil .nil)) (.node (o_66 P) (.node (o_85 P) .nil .nil) .nil)))) (.node (o_49 P) (.node (boot_o_4 P) (.node (boot_o_8 P) (.node (o_53 P) (.node (o_69 P) .nil .nil) (.node (o_88 P) .nil .nil)) (.node (o_61 P) (.node (o_77 P) .nil .nil) .nil)) (.node (o_80 P) (.node (o_57 P) (.node (o_73 P) .nil .nil) (.node (o_92 P) .nil .nil)) (.node (o_65 P) (.node (o_84 P) .nil .nil) .nil))) (.node (boot_o_6 P) (.node (boot_o_10 P) (.node (o_55 P) (.node (o_71 P) .nil .nil) (.node (o_90 P) .nil .nil)) (.node (o_63 P) (.node (o_82 P) .nil .nil) .nil)) (.node (o_46 P) (.node (o_59 P) (.node (o_81 P) .nil .nil) .nil) (.node (o_67 P) (.node (o_86 P) .nil .nil) .nil))))
noncomputable def t_108 (P : Params) : BT := .node (boot_o_0 P) (.node (boot_o_1 P) (.node (o_94 P) (.node (boot_o_7 P) (.node (o_52 P) (.node (o_68 P) (.node (o_106 P) .nil .nil) .nil) (.node (o_87 P) .nil .nil)) (.node (o_60 P) (.node (o_76 P) .nil .nil) (.node (o_98 P) .nil .nil))) (.node (o_43 P) (.node (o_56 P) (.node (o_72 P) .nil .nil) (.node (o_91 P) .nil .nil)) (.node (o_64 P) (.node (o_83 P) .nil .nil) (.node (o_102 P) .nil .nil)))) (.node (boot_o_5 P) (.node (boot_o_9 P) (.node (o_54 P) (.node (o_70 P) (.node (o_108 P) .nil .nil) .nil) (.node (o_89 P) .nil .nil)) (.node (o_62 P) (.node (o_78 P) .nil .nil) (.node (o_100 P) .nil .nil))) (.node (o_45 P) (.node (o_58 P) (.node (o_74 P) .nil .nil) (.node (o_93 P) .nil .nil)) (.node (o_66 P) (.node (o_85 P) .nil .nil) (.node (o_104 P) .nil .nil))))) (.node (o_49 P) (.node (boot_o_4 P) (.node (boot_o_8 P) (.node (o_53 P) (.node (o_69 P) (.node (o_107 P) .nil .nil) .nil) (.node (o_88 P) .nil .nil)) (.node (o_61 P) (.node (o_77 P) .nil .nil) (.node (o_99 P) .nil .nil))) (.node (o_95 P) (.node (o_57 P) (.node (o_73 P) .nil .nil) (.node (o_92 P) .nil .nil)) (.node (o_65 P) (.node (o_84 P) .nil .nil) (.node (o_103 P) .nil .nil)))) (.node (boot_o_6 P) (.node (boot_o_10 P) (.node (o_55 P) (.node (o_71 P) .nil .nil) (.node (o_90 P) .nil .nil)) (.node (o_63 P) (.node (o_82 P) .nil .nil) (.node (o_101 P) .nil .nil))) (.node (o_46 P) (.node (o_59 P) (.node (o_96 P) .nil .nil) (.node (o_97 P) .nil .nil)) (.node (o_67 P) (.node (o_86 P) .nil .nil) (.node (o_105 P) .nil .nil)))))
noncomputable def t_138 (P : Params) : BT := .node (boot_o_0 P) (.node (boot_o_1 P) (.node (o_109 P) (.node (boot_o_7 P) (.node (o_52 P) (.node (o_68 P) (.node (o_106 P) .nil .nil) .nil) (.node (o_87 P) (.node (o_124 P) .nil .nil) .nil)) (.node (o_60 P) (.node (o_76 P) (.node (o_116 P) .nil .nil) .nil) (.node (o_98 P) (.node (o_132 P) .nil .nil) .nil))) (.node (o_43 P) (.node (o_56 P) (.node (o_72 P) (.node (o_112 P) .nil .nil) .nil) (.node (o_91 P) (.node (o_128 P) .nil .nil) .nil)) (.node (o_64 P) (.node (o_83 P) (.node (o_120 P) .nil .nil) .nil) (.node (o_102 P) (.node (o_136 P) .nil .nil) .nil)))) (.node (boot_o_5 P) (.node (boot_o_9 P) (.node (o_54 P) (.node (o_70 P) (.node (o_108 P) .nil .nil) .nil) (.node (o_89 P) (.node (o_126 P) .nil .nil) .nil)) (.node (o_62 P) (.node (o_78 P) (.node (o_118 P) .nil .nil) .nil) (.node (o_100 P) (.node (o_134 P) .nil .nil) .nil))) (.node (o_45 P) (.node (o_58 P) (.node (o_74 P) (.node (o_114 P) .nil .nil) .nil) (.node (o_93 P) (.node (o_130 P) .nil .nil) .nil)) (.node (o_66 P) (.node (o_85 P) (.node (o_122 P) .nil .nil) .nil) (.node (o_104 P) (.node (o_138 P) .nil .nil) .nil))))) (.node (o_49 P) (.node (boot_o_4 P) (.node (boot_o_8 P) (.node (o_53 P) (.node (o_69 P) (.node (o_107 P) .nil .nil) .nil) (.node (o_88 P) (.node (o_125 P) .nil .nil) .nil)) (.node (o_61 P) (.node (o_77 P) (.node (o_117 P) .nil .nil) .nil) (.node (o_99 P) (.node (o_133 P) .nil .nil) .nil))) (.node (o_110 P) (.node (o_57 P) (.node (o_73 P) (.node (o_113 P) .nil .nil) .nil) (.node (o_92 P) (.node (o_129 P) .nil .nil) .nil)) (.node (o_65 P) (.node (o_84 P) (.node (o_121 P) .nil .nil) .nil) (.node (o_103 P) (.node (o_137 P) .nil .nil) .nil)))) (.node (boot_o_6 P) (.node (boot_o_10 P) (.node (o_55 P) (.node (o_71 P) (.node (o_111 P) .nil .nil) .nil) (.node (o_90 P) (.node (o_127 P) .nil .nil) .nil)) (.node (o_63 P) (.node (o_82 P) (.node (o_119 P) .nil .nil) .nil) (.node (o_101 P) (.node (o_135 P) .nil .nil) .nil))) (.node (o_46 P) (.node (o_59 P) (.node (o_96 P) (.node (o_115 P) .nil .nil) .nil) (.node (o_97 P) (.node (o_131 P) .nil .nil) .nil)) (.node (o_67 P) (.node (o_86 P) (.node (o_123 P) .nil .nil) .nil) (.node (o_105 P) .nil .nil)))))
noncomputable def t_195 (P : Params) : BT := .node (boot_o_0 P) (.node (boot_o_1 P) (.node (o_139 P) (.node (boot_o_7 P) (.node (o_52 P) (.node (o_68 P) (.node (o_106 P) (.node (o_174 P) .nil .nil) .nil) (.node (o_142 P) .nil .nil)) (.node (o_87 P) (.node (o_124 P) (.node (o_190 P) .nil .nil) .nil) (.node (o_158 P) .nil .nil))) (.node (o_60 P) (.node (o_76 P) (.node (o_116 P) (.node (o_182 P) .nil .nil) .nil) (.node (o_150 P) .nil .nil)) (.node (o_98 P) (.node (o_132 P) .nil .nil) (.node (o_166 P) .nil .nil)))) (.node (o_43 P) (.node (o_56 P) (.node (o_72 P) (.node (o_112 P) (.node (o_178 P) .nil .nil) .nil) (.node (o_146 P) .nil .nil)) (.node (o_91 P) (.node (o_128 P) (.node (o_194 P) .nil .nil) .nil) (.node (o_162 P) .nil .nil))) (.node (o_64 P) (.node (o_83 P) (.node (o_120 P) (.node (o_186 P) .nil .nil) .nil) (.node (o_154 P) .nil .nil)) (.node (o_102 P) (.node (o_136 P) .nil .nil) (.node (o_170 P) .nil .nil))))) (.node (boot_o_5 P) (.node (boot_o_9 P) (.node (o_54 P) (.node (o_70 P) (.node (o_108 P) (.node (o_176 P) .nil .nil) .nil) (.node (o_144 P) .nil .nil)) (.node (o_89 P) (.node (o_126 P) (.node (o_192 P) .nil .nil) .nil) (.node (o_160 P) .nil .nil))) (.node (o_62 P) (.node (o_78 P) (.node (o_118 P) (.node (o_184 P) .nil .nil) .nil) (.node (o_152 P) .nil .nil)) (.node (o_100 P) (.node (o_134 P) .nil .nil) (.node (o_168 P) .nil .nil)))) (.node (o_45 P) (.node (o_58 P) (.node (o_74 P) (.node (o_114 P) (.node (o_180 P) .nil .nil) .nil) (.node (o_148 P) .nil .nil)) (.node (o_93 P) (.node (o_130 P) .nil .nil) (.node (o_164 P) .nil .nil))) (.node (o_66 P) (.node (o_85 P) (.node (o_122 P) (.node (o_188 P) .nil .nil) .nil) (.node (o_156 P) .nil .nil)) (.node (o_104 P) (.node (o_138 P) .nil .nil) (.node (o_172 P) .nil .nil)))))) (.node (o_49 P) (.node (boot_o_4 P) (.node (boot_o_8 P) (.node (o_53 P) (.node (o_69 P) (.node (o_107 P) (.node (o_175 P) .nil .nil) .nil) (.node (o_143 P) .nil .nil)) (.node (o_88 P) (.node (o_125 P) (.node (o_191 P) .nil .nil) .nil) (.node (o_159 P) .nil .nil))) (.node (o_61 P) (.node (o_77 P) (.node (o_117 P) (.node (o_183 P) .nil .nil) .nil) (.node (o_151 P) .nil .nil)) (.node (o_99 P) (.node (o_133 P) .nil .nil) (.node (o_167 P) .nil .nil)))) (.node (o_140 P) (.node (o_57 P) (.node (o_73 P) (.node (o_113 P) (.node (o_179 P) .nil .nil) .nil) (.node (o_147 P) .nil .nil)) (.node (o_92 P) (.node (o_129 P) (.node (o_195 P) .nil .nil) .nil) (.node (o_163 P) .nil .nil))) (.node (o_65 P) (.node (o_84 P) (.node (o_121 P) (.node (o_187 P) .nil .nil) .nil) (.node (o_155 P) .nil .nil)) (.node (o_103 P) (.node (o_137 P) .nil .nil) (.node (o_171 P) .nil .nil))))) (.node (boot_o_6 P) (.node (boot_o_10 P) (.node (o_55 P) (.node (o_71 P) (.node (o_111 P) (.node (o_177 P) .nil .nil) .nil) (.node (o_145 P) .nil .nil)) (.node (o_90 P) (.node (o_127 P) (.node (o_193 P) .nil .nil) .nil) (.node (o_161 P) .nil .nil))) (.node (o_63 P) (.node (o_82 P) (.node (o_119 P) (.node (o_185 P) .nil .nil) .nil) (.node (o_153 P) .nil .nil)) (.node (o_101 P) (.node (o_135 P) .nil .nil) (.node (o_169 P) .nil .nil)))) (.node (o_46 P) (.node (o_59 P) (.node (o_96 P) (.node (o_115 P) (.node (o_181 P) .nil .nil) .nil) (.node (o_149 P) .nil .nil)) (.node (o_97 P) (.node (o_131 P) .nil .nil) (.node (o_165 P) .nil .nil))) (.node (o_67 P) (.node (o_86 P) (.node (o_123 P) (.node (o_189 P) .nil .nil) .nil) (.node (o_157 P) .nil .nil)) (.node (o_105 P) (.node (o_141 P) .nil .nil) (.node (o_173 P) .nil .nil))))))
noncomputable def t_232 (P : Params) : BT := .node (boot_o_0 P) (.node (boot_o_1 P) (.node (o_196 P) (.node (boot_o_7 P) (.node (o_52 P) (.node (o_68 P) (.node (o_106 P) (.node (o_174 P) .nil .nil) .nil) (.node (o_142 P) (.node (o_208 P) .nil .nil) .nil)) (.node (o_87 P) (.node (o_124 P) (.node (o_190 P) .nil .nil) .nil) (.node (o_158 P) (.node (o_224 P) .nil .nil) .nil))) (.node (o_60 P) (.node (o_76 P) (.node (o_116 P) (.node (o_182 P) .nil .nil) .nil) (.node (o_150 P) (.node (o_216 P) .nil .nil) .nil)) (.node (o_98 P) (.node (o_132 P) (.node (o_200 P) .nil .nil) .nil) (.node (o_166 P) (.node (o_232 P) .nil .nil) .nil)))) (.node (o_43 P) (.node (o_56 P) (.node (o_72 P) (.node (o_112 P) (.node (o_178 P) .nil .nil) .nil) (.node (o_146 P) (.node (o_212 P) .nil .nil) .nil)) (.node (o_91 P) (.node (o_128 P) (.node (o_194 P) .nil .nil) .nil) (.node (o_162 P) (.node (o_228 P) .nil .nil) .nil))) (.node (o_64 P) (.node (o_83 P) (.node (o_120 P) (.node (o_186 P) .nil .nil) .nil) (.node (o_154 P) (.node (o_220 P) .nil .nil) .nil)) (.node (o_102 P) (.node (o_136 P) (.node (o_204 P) .nil .nil) .nil) (.node (o_170 P) .nil .nil))))) (.node (boot_o_5 P) (.node (boot_o_9 P) (.node (o_54 P) (.node (o_70 P) (.node (o_108 P) (.node (o_176 P) .nil .nil) .nil) (.node (o_144 P) (.node (o_210 P) .nil .nil) .nil)) (.node (o_89 P) (.node (o_126 P) (.node (o_192 P) .nil .nil) .nil) (.node (o_160 P) (.node (o_226 P) .nil .nil) .nil))) (.node (o_62 P) (.node (o_78 P) (.node (o_118 P) (.node (o_184 P) .nil .nil) .nil) (.node (o_152 P) (.node (o_218 P) .nil .nil) .nil)) (.node (o_100 P) (.node (o_134 P) (.node (o_202 P) .nil .nil) .nil) (.node (o_168 P) .nil .nil)))) (.node (o_45 P) (.node (o_58 P) (.node (o_74 P) (.node (o_114 P) (.node (o_180 P) .nil .nil) .nil) (.node (o_148 P) (.node (o_214 P) .nil .nil) .nil)) (.node (o_93 P) (.node (o_130 P) (.node (o_198 P) .nil .nil) .nil) (.node (o_164 P) (.node (o_230 P) .nil .nil) .nil))) (.node (o_66 P) (.node (o_85 P) (.node (o_122 P) (.node (o_188 P) .nil .nil) .nil) (.node (o_156 P) (.node (o_222 P) .nil .nil) .nil)) (.node (o_104 P) (.node (o_138 P) (.node (o_206 P) .nil .nil) .nil) (.node (o_172 P) .nil .nil)))))) (.node (o_49 P) (.node (boot_o_4 P) (.node (boot_o_8 P) (.node (o_53 P) (.node (o_69 P) (.node (o_107 P) (.node (o_175 P) .nil .nil) .nil) (.node (o_143 P) (.node (o_209 P) .nil .nil) .nil)) (.node (o_88 P) (.node (o_125 P) (.node (o_191 P) .nil .nil) .nil) (.node (o_159 P) (.node (o_225 P) .nil .nil) .nil))) (.node (o_61 P) (.node (o_77 P) (.node (o_117 P) (.node (o_183 P) .nil .nil) .nil) (.node (o_151 P) (.node (o_217 P) .nil .nil) .nil)) (.node (o_99 P) (.node (o_133 P) (.node (o_201 P) .nil .nil) .nil) (.node (o_167 P) .nil .nil)))) (.node (o_197 P) (.node (o_57 P) (.node (o_73 P) (.node (o_113 P) (.node (o_179 P) .nil .nil) .nil) (.node (o_147 P) (.node (o_213 P) .nil .nil) .nil)) (.node (o_92 P) (.node (o_129 P) (.node (o_195 P) .nil .nil) .nil) (.node (o_163 P) (.node (o_229 P) .nil .nil) .nil))) (.node (o_65 P) (.node (o_84 P) (.node (o_121 P) (.node (o_187 P) .nil .nil) .nil) (.node (o_155 P) (.node (o_221 P) .nil .nil) .nil)) (.node (o_103 P) (.node (o_137 P) (.node (o_205 P) .nil .nil) .nil) (.node (o_171 P) .nil .nil))))) (.node (boot_o_6 P) (.node (boot_o_10 P) (.node (o_55 P) (.node (o_71 P) (.node (o_111 P) (.node (o_177 P) .nil .nil) .nil) (.node (o_145 P) (.node (o_211 P) .nil .nil) .nil)) (.node (o_90 P) (.node (o_127 P) (.node (o_193 P) .nil .nil) .nil) (.node (o_161 P) (.node (o_227 P) .nil .nil) .nil))) (.node (o_63 P) (.node (o_82 P) (.node (o_119 P) (.node (o_185 P) .nil .nil) .nil) (.node (o_153 P) (.node (o_219 P) .nil .nil) .nil)) (.node (o_101 P) (.node (o_135 P) (.node (o_203 P) .nil .nil) .nil) (.node (o_169 P) .nil .nil)))) (.node (o_46 P) (.node (o_59 P) (.node (o_96 P) (.node (o_115 P) (.node (o_181 P) .nil .nil) .nil) (.node (o_149 P) (.node (o_215 P) .nil .nil) .nil)) (.node (o_97 P) (.node (o_131 P) (.node (o_199 P) .nil .nil) .nil) (.node (o_165 P) (.node (o_231 P) .nil .nil) .nil))) (.node (o_67 P) (.node (o_86 P) (.node (o_123 P) (.node (o_189 P) .nil .nil) .nil) (.node (o_157 P) (.node (o_223 P) .nil .nil) .nil)) (.node (o_105 P) (.node (o_141 P) (.node (o_207 P) .nil .nil) .nil) (.node (o_173 P) .nil .nil))))))
noncomputable def t_323 (P : Params) : BT := .node (boot_o_0 P) (.node (boot_o_1 P) (.node (o_233 P) (.node (boot_o_7 P) (.node (o_52 P) (.node (o_68 P) (.node (o_106 P) (.node (o_174 P) (.node (o_306 P) .nil .nil) .nil) (.node (o_242 P) .nil .nil)) (.node (o_142 P) (.node (o_208 P) .nil .nil) (.node (o_274 P) .nil .nil))) (.node (o_87 P) (.node (o_124 P) (.node (o_190 P) (.node (o_322 P) .nil .nil) .nil) (.node (o_258 P) .nil .nil)) (.node (o_158 P) (.node (o_224 P) .nil .nil) (.node (o_290 P) .nil .nil)))) (.node (o_60 P) (.node (o_76 P) (.node (o_116 P) (.node (o_182 P) (.node (o_314 P) .nil .nil) .nil) (.node (o_250 P) .nil .nil)) (.node (o_150 P) (.node (o_216 P) .nil .nil) (.node (o_282 P) .nil .nil))) (.node (o_98 P) (.node (o_132 P) (.node (o_200 P) .nil .nil) (.node (o_266 P) .nil .nil)) (.node (o_166 P) (.node (o_232 P) .nil .nil) (.node (o_298 P) .nil .nil))))) (.node (o_43 P) (.node (o_56 P) (.node (o_72 P) (.node (o_112 P) (.node (o_178 P) (.node (o_310 P) .nil .nil) .nil) (.node (o_246 P) .nil .nil)) (.node (o_146 P) (.node (o_212 P) .nil .nil) (.node (o_278 P) .nil .nil))) (.node (o_91 P) (.node (o_128 P) (.node (o_194 P) .nil .nil) (.node (o_262 P) .nil .nil)) (.node (o_162 P) (.node (o_228 P) .nil .nil) (.node (o_294 P) .nil .nil)))) (.node (o_64 P) (.node (o_83 P) (.node (o_120 P) (.node (o_186 P) (.node (o_318 P) .nil .nil) .nil) (.node (o_254 P) .nil .nil)) (.node (o_154 P) (.node (o_220 P) .nil .nil) (.node (o_286 P) .nil .nil))) (.node (o_102 P) (.node (o_136 P) (.node (o_204 P) .nil .nil) (.node (o_270 P) .nil .nil)) (.node (o_170 P) (.node (o_238 P) .nil .nil) (.node (o_302 P) .nil .nil)))))) (.node (boot_o_5 P) (.node (boot_o_9 P) (.node (o_54 P) (.node (o_70 P) (.node (o_108 P) (.node (o_176 P) (.node (o_308 P) .nil .nil) .nil) (.node (o_244 P) .nil .nil)) (.node (o_144 P) (.node (o_210 P) .nil .nil) (.node (o_276 P) .nil .nil))) (.node (o_89 P) (.node (o_126 P) (.node (o_192 P) .nil .nil) (.node (o_260 P) .nil .nil)) (.node (o_160 P) (.node (o_226 P) .nil .nil) (.node (o_292 P) .nil .nil)))) (.node (o_62 P) (.node (o_78 P) (.node (o_118 P) (.node (o_184 P) (.node (o_316 P) .nil .nil) .nil) (.node (o_252 P) .nil .nil)) (.node (o_152 P) (.node (o_218 P) .nil .nil) (.node (o_284 P) .nil .nil))) (.node (o_100 P) (.node (o_134 P) (.node (o_202 P) .nil .nil) (.node (o_268 P) .nil .nil)) (.node (o_168 P) (.node (o_236 P) .nil .nil) (.node (o_300 P) .nil .nil))))) (.node (o_45 P) (.node (o_58 P) (.node (o_74 P) (.node (o_114 P) (.node (o_180 P) (.node (o_312 P) .nil .nil) .nil) (.node (o_248 P) .nil .nil)) (.node (o_148 P) (.node (o_214 P) .nil .nil) (.node (o_280 P) .nil .nil))) (.node (o_93 P) (.node (o_130 P) (.node (o_198 P) .nil .nil) (.node (o_264 P) .nil .nil)) (.node (o_164 P) (.node (o_230 P) .nil .nil) (.node (o_296 P) .nil .nil)))) (.node (o_66 P) (.node (o_85 P) (.node (o_122 P) (.node (o_188 P) (.node (o_320 P) .nil .nil) .nil) (.node (o_256 P) .nil .nil)) (.node (o_156 P) (.node (o_222 P) .nil .nil) (.node (o_288 P) .nil .nil))) (.node (o_104 P) (.node (o_138 P) (.node (o_206 P) .nil .nil) (.node (o_272 P) .nil .nil)) (.node (o_172 P) (.node (o_240 P) .nil .nil) (.node (o_304 P) .nil .nil))))))) (.node (o_49 P) (.node (boot_o_4 P) (.node (boot_o_8 P) (.node (o_53 P) (.node (o_69 P) (.node (o_107 P) (.node (o_175 P) (.node (o_307 P) .nil .nil) .nil) (.node (o_243 P) .nil .nil)) (.node (o_143 P) (.node (o_209 P) .nil .nil) (.node (o_275 P) .nil .nil))) (.node (o_88 P) (.node (o_125 P) (.node (o_191 P) (.node (o_323 P) .nil .nil) .nil) (.node (o_259 P) .nil .nil)) (.node (o_159 P) (.node (o_225 P) .nil .nil) (.node (o_291 P) .nil .nil)))) (.node (o_61 P) (.node (o_77 P) (.node (o_117 P) (.node (o_183 P) (.node (o_315 P) .nil .nil) .nil) (.node (o_251 P) .nil .nil)) (.node (o_151 P) (.node (o_217 P) .nil .nil) (.node (o_283 P) .nil .nil))) (.node (o_99 P) (.node (o_133 P) (.node (o_201 P) .nil .nil) (.node (o_267 P) .nil .nil)) (.node (o_167 P) (.node (o_235 P) .nil .nil) (.node (o_299 P) .nil .nil))))) (.node (o_234 P) (.node (o_57 P) (.node (o_73 P) (.node (o_113 P) (.node (o_179 P) (.node (o_311 P) .nil .nil) .nil) (.node (o_247 P) .nil .nil)) (.node (o_147 P) (.node (o_213 P) .nil .nil) (.node (o_279 P) .nil .nil))) (.node (o_92 P) (.node (o_129 P) (.node (o_195 P) .nil .nil) (.node (o_263 P) .nil .nil)) (.node (o_163 P) (.node (o_229 P) .nil .nil) (.node (o_295 P) .nil .nil)))) (.node (o_65 P) (.node (o_84 P) (.node (o_121 P) (.node (o_187 P) (.node (o_319 P) .nil .nil) .nil) (.node (o_255 P) .nil .nil)) (.node (o_155 P) (.node (o_221 P) .nil .nil) (.node (o_287 P) .nil .nil))) (.node (o_103 P) (.node (o_137 P) (.node (o_205 P) .nil .nil) (.node (o_271 P) .nil .nil)) (.node (o_171 P) (.node (o_239 P) .nil .nil) (.node (o_303 P) .nil .nil)))))) (.node (boot_o_6 P) (.node (boot_o_10 P) (.node (o_55 P) (.node (o_71 P) (.node (o_111 P) (.node (o_177 P) (.node (o_309 P) .nil .nil) .nil) (.node (o_245 P) .nil .nil)) (.node (o_145 P) (.node (o_211 P) .nil .nil) (.node (o_277 P) .nil .nil))) (.node (o_90 P) (.node (o_127 P) (.node (o_193 P) .nil .nil) (.node (o_261 P) .nil .nil)) (.node (o_161 P) (.node (o_227 P) .nil .nil) (.node (o_293 P) .nil .nil)))) (.node (o_63 P) (.node (o_82 P) (.node (o_119 P) (.node (o_185 P) (.node (o_317 P) .nil .nil) .nil) (.node (o_253 P) .nil .nil)) (.node (o_153 P) (.node (o_219 P) .nil .nil) (.node (o_285 P) .nil .nil))) (.node (o_101 P) (.node (o_135 P) (.node (o_203 P) .nil .nil) (.node (o_269 P) .nil .nil)) (.node (o_169 P) (.node (o_237 P) .nil .nil) (.node (o_301 P) .nil .nil))))) (.node (o_46 P) (.node (o_59 P) (.node (o_96 P) (.node (o_115 P) (.node (o_181 P) (.node (o_313 P) .nil .nil) .nil) (.node (o_249 P) .nil .nil)) (.node (o_149 P) (.node (o_215 P) .nil .nil) (.node (o_281 P) .nil .nil))) (.node (o_97 P) (.node (o_131 P) (.node (o_199 P) .nil .nil) (.node (o_265 P) .nil .nil)) (.node (o_165 P) (.node (o_231 P) .nil .nil) (.node (o_297 P) .nil .nil)))) (.node (o_67 P) (.node (o_86 P) (.node (o_123 P) (.node (o_189 P) (.node (o_321 P) .nil .nil) .nil) (.node (o_257 P) .nil .nil)) (.node (o_157 P) (.node (o_223 P) .nil .nil) (.node (o_289 P) .nil .nil))) (.node (o_105 P) (.node (o_141 P) (.node (o_207 P) .nil .nil) (.node (o_273 P) .nil .nil)) (.node (o_173 P) (.node (o_241 P) .nil .nil) (.node (o_305 P) .nil .nil)))))))
noncomputable def t_400 (P : Params) : BT := .node (boot_o_0 P) (.node (boot_o_1 P) (.node (o_324 P) (.node (boot_o_7 P) (.node (o_52 P) (.node (o_68 P) (.node (o_106 P) (.node (o_174 P) (.node (o_306 P) .nil .nil) .nil) (.node (o_242 P) (.node (o_372 P) .nil .nil) .nil)) (.node (o_142 P) (.node (o_208 P) (.node (o_340 P) .nil .nil) .nil) (.node (o_274 P) .nil .nil))) (.node (o_87 P) (.node (o_124 P) (.node (o_190 P) (.node (o_322 P) .nil .nil) .nil) (.node (o_258 P) (.node (o_388 P) .nil .nil) .nil)) (.node (o_158 P) (.node (o_224 P) (.node (o_356 P) .nil .nil) .nil) (.node (o_290 P) .nil .nil)))) (.node (o_60 P) (.node (o_76 P) (.node (o_116 P) (.node (o_182 P) (.node (o_314 P) .nil .nil) .nil) (.node (o_250 P) (.node (o_380 P) .nil .nil) .nil)) (.node (o_150 P) (.node (o_216 P) (.node (o_348 P) .nil .nil) .nil) (.node (o_282 P) .nil .nil))) (.node (o_98 P) (.node (o_132 P) (.node (o_200 P) (.node (o_332 P) .nil .nil) .nil) (.node (o_266 P) (.node (o_396 P) .nil .nil) .nil)) (.node (o_166 P) (.node (o_232 P) (.node (o_364 P) .nil .nil) .nil) (.node (o_298 P) .nil .nil))))) (.node (o_43 P) (.node (o_56 P) (.node (o_72 P) (.node (o_112 P) (.node (o_178 P) (.node (o_310 P) .nil .nil) .nil) (.node (o_246 P) (.node (o_376 P) .nil .nil) .nil)) (.node (o_146 P) (.node (o_212 P) (.node (o_344 P) .nil .nil) .nil) (.node (o_278 P) .nil .nil))) (.node (o_91 P) (.node (o_128 P) (.node (o_194 P) (.node (o_328 P) .nil .nil) .nil) (.node (o_262 P) (.node (o_392 P) .nil .nil) .nil)) (.node (o_162 P) (.node (o_228 P) (.node (o_360 P) .nil .nil) .nil) (.node (o_294 P) .nil .nil)))) (.node (o_64 P) (.node (o_83 P) (.node (o_120 P) (.node (o_186 P) (.node (o_318 P) .nil .nil) .nil) (.node (o_254 P) (.node (o_384 P) .nil .nil) .nil)) (.node (o_154 P) (.node (o_220 P) (.node (o_352 P) .nil .nil) .nil) (.node (o_286 P) .nil .nil))) (.node (o_102 P) (.node (o_136 P) (.node (o_204 P) (.node (o_336 P) .nil .nil) .nil) (.node (o_270 P) (.node (o_400 P) .nil .nil) .nil)) (.node (o_170 P) (.node (o_238 P) (.node (o_368 P) .nil .nil) .nil) (.node (o_302 P) .nil .nil)))))) (.node (boot_o_5 P) (.node (boot_o_9 P) (.node (o_54 P) (.node (o_70 P) (.node (o_108 P) (.node (o_176 P) (.node (o_308 P) .nil .nil) .nil) (.node (o_244 P) (.node (o_374 P) .nil .nil) .nil)) (.node (o_144 P) (.node (o_210 P) (.node (o_342 P) .nil .nil) .nil) (.node (o_276 P) .nil .nil))) (.node (o_89 P) (.node (o_126 P) (.node (o_192 P) (.node (o_326 P) .nil .nil) .nil) (.node (o_260 P) (.node (o_390 P) .nil .nil) .nil)) (.node (o_160 P) (.node (o_226 P) (.node (o_358 P) .nil .nil) .nil) (.node (o_292 P) .nil .nil)))) (.node (o_62 P) (.node (o_78 P) (.node (o_118 P) (.node (o_184 P) (.node (o_316 P) .nil .nil) .nil) (.node (o_252 P) (.node (o_382 P) .nil .nil) .nil)) (.node (o_152 P) (.node (o_218 P) (.node (o_350 P) .nil .nil) .nil) (.node (o_284 P) .nil .nil))) (.node (o_100 P) (.node (o_134 P) (.node (o_202 P) (.node (o_334 P) .nil .nil) .nil) (.node (o_268 P) (.node (o_398 P) .nil .nil) .nil)) (.node (o_168 P) (.node (o_236 P) (.node (o_366 P) .nil .nil) .nil) (.node (o_300 P) .nil .nil))))) (.node (o_45 P) (.node (o_58 P) (.node (o_74 P) (.node (o_114 P) (.node (o_180 P) (.node (o_312 P) .nil .nil) .nil) (.node (o_248 P) (.node (o_378 P) .nil .nil) .nil)) (.node (o_148 P) (.node (o_214 P) (.node (o_346 P) .nil .nil) .nil) (.node (o_280 P) .nil .nil))) (.node (o_93 P) (.node (o_130 P) (.node (o_198 P) (.node (o_330 P) .nil .nil) .nil) (.node (o_264 P) (.node (o_394 P) .nil .nil) .nil)) (.node (o_164 P) (.node (o_230 P) (.node (o_362 P) .nil .nil) .nil) (.node (o_296 P) .nil .nil)))) (.node (o_66 P) (.node (o_85 P) (.node (o_122 P) (.node (o_188 P) (.node (o_320 P) .nil .nil) .nil) (.node (o_256 P) (.node (o_386 P) .nil .nil) .nil)) (.node (o_156 P) (.node (o_222 P) (.node (o_354 P) .nil .nil) .nil) (.node (o_288 P) .nil .nil))) (.node (o_104 P) (.node (o_138 P) (.node (o_206 P) (.node (o_338 P) .nil .nil) .nil) (.node (o_272 P) .nil .nil)) (.node (o_172 P) (.node (o_240 P) (.node (o_370 P) .nil .nil) .nil) (.node (o_304 P) .nil .nil))))))) (.node (o_49 P) (.node (boot_o_4 P) (.node (boot_o_8 P) (.node (o_53 P) (.node (o_69 P) (.node (o_107 P) (.node (o_175 P) (.node (o_307 P) .nil .nil) .nil) (.node (o_243 P) (.node (o_373 P) .nil .nil) .nil)) (.node (o_143 P) (.node (o_209 P) (.node (o_341 P) .nil .nil) .nil) (.node (o_275 P) .nil .nil))) (.node (o_88 P) (.node (o_125 P) (.node (o_191 P) (.node (o_323 P) .nil .nil) .nil) (.node (o_259 P) (.node (o_389 P) .nil .nil) .nil)) (.node (o_159 P) (.node (o_225 P) (.node (o_357 P) .nil .nil) .nil) (.node (o_291 P) .nil .nil)))) (.node (o_61 P) (.node (o_77 P) (.node (o_117 P) (.node (o_183 P) (.node (o_315 P) .nil .nil) .nil) (.node (o_251 P) (.node (o_381 P) .nil .nil) .nil)) (.node (o_151 P) (.node (o_217 P) (.node (o_349 P) .nil .nil) .nil) (.node (o_283 P) .nil .nil))) (.node (o_99 P) (.node (o_133 P) (.node (o_201 P) (.node (o_333 P) .nil .nil) .nil) (.node (o_267 P) (.node (o_397 P) .nil .nil) .nil)) (.node (o_167 P) (.node (o_235 P) (.node (o_365 P) .nil .nil) .nil) (.node (o_299 P) .nil .nil))))) (.node (o_325 P) (.node (o_57 P) (.node (o_73 P) (.node (o_113 P) (.node (o_179 P) (.node (o_311 P) .nil .nil) .nil) (.node (o_247 P) (.node (o_377 P) .nil .nil) .nil)) (.node (o_147 P) (.node (o_213 P) (.node (o_345 P) .nil .nil) .nil) (.node (o_279 P) .nil .nil))) (.node (o_92 P) (.node (o_129 P) (.node (o_195 P) (.node (o_329 P) .nil .nil) .nil) (.node (o_263 P) (.node (o_393 P) .nil .nil) .nil)) (.node (o_163 P) (.node (o_229 P) (.node (o_361 P) .nil .nil) .nil) (.node (o_295 P) .nil .nil)))) (.node (o_65 P) (.node (o_84 P) (.node (o_121 P) (.node (o_187 P) (.node (o_319 P) .nil .nil) .nil) (.node (o_255 P) (.node (o_385 P) .nil .nil) .nil)) (.node (o_155 P) (.node (o_221 P) (.node (o_353 P) .nil .nil) .nil) (.node (o_287 P) .nil .nil))) (.node (o_103 P) (.node (o_137 P) (.node (o_205 P) (.node (o_337 P) .nil .nil) .nil) (.node (o_271 P) .nil .nil)) (.node (o_171 P) (.node (o_239 P) (.node (o_369 P) .nil .nil) .nil) (.node (o_303 P) .nil .nil)))))) (.node (boot_o_6 P) (.node (boot_o_10 P) (.node (o_55 P) (.node (o_71 P) (.node (o_111 P) (.node (o_177 P) (.node (o_309 P) .nil .nil) .nil) (.node (o_245 P) (.node (o_375 P) .nil .nil) .nil)) (.node (o_145 P) (.node (o_211 P) (.node (o_343 P) .nil .nil) .nil) (.node (o_277 P) .nil .nil))) (.node (o_90 P) (.node (o_127 P) (.node (o_193 P) (.node (o_327 P) .nil .nil) .nil) (.node (o_261 P) (.node (o_391 P) .nil .nil) .nil)) (.node (o_161 P) (.node (o_227 P) (.node (o_359 P) .nil .nil) .nil) (.node (o_293 P) .nil .nil)))) (.node (o_63 P) (.node (o_82 P) (.node (o_119 P) (.node (o_185 P) (.node (o_317 P) .nil .nil) .nil) (.node (o_253 P) (.node (o_383 P) .nil .nil) .nil)) (.node (o_153 P) (.node (o_219 P) (.node (o_351 P) .nil .nil) .nil) (.node (o_285 P) .nil .nil))) (.node (o_101 P) (.node (o_135 P) (.node (o_203 P) (.node (o_335 P) .nil .nil) .nil) (.node (o_269 P) (.node (o_399 P) .nil .nil) .nil)) (.node (o_169 P) (.node (o_237 P) (.node (o_367 P) .nil .nil) .nil) (.node (o_301 P) .nil .nil))))) (.node (o_46 P) (.node (o_59 P) (.node (o_96 P) (.node (o_115 P) (.node (o_181 P) (.node (o_313 P) .nil .nil) .nil) (.node (o_249 P) (.node (o_379 P) .nil .nil) .nil)) (.node (o_149 P) (.node (o_215 P) (.node (o_347 P) .nil .nil) .nil) (.node (o_281 P) .nil .nil))) (.node (o_97 P) (.node (o_131 P) (.node (o_199 P) (.node (o_331 P) .nil .nil) .nil) (.node (o_265 P) (.node (o_395 P) .nil .nil) .nil)) (.node (o_165 P) (.node (o_231 P) (.node (o_363 P) .nil .nil) .nil) (.node (o_297 P) .nil .nil)))) (.node (o_67 P) (.node (o_86 P) (.node (o_123 P) (.node (o_189 P) (.node (o_321 P) .nil .nil) .nil) (.node (o_257 P) (.node (o_387 P) .nil .nil) .nil)) (.node (o_157 P) (.node (o_223 P) (.node (o_355 P) .nil .nil) .nil) (.node (o_289 P) .nil .nil))) (.node (o_105 P) (.node (o_141 P) (.node (o_207 P) (.node (o_339 P) .nil .nil) .nil) (.node (o_273 P) .nil .nil)) (.node (o_173 P) (.node (o_241 P) (.node (o_371 P) .nil .nil) .nil) (.node (o_305 P) .nil .nil)))))))
noncomputable def t_409 (P : Params) : BT := .node (boot_o_0 P) (.node (boot_o_1 P) (.node (o_401 P) (.node (boot_o_7 P) (.node (o_52 P) (.node (o_68 P) (.node (o_106 P) (.node (o_174 P) (.node (o_306 P) .nil .nil) .nil) (.node (o_242 P) (.node (o_372 P) .nil .nil) .nil)) (.node (o_142 P) (.node (o_208 P) (.node (o_340 P) .nil .nil) .nil) (.node (o_274 P) (.node (o_406 P) .nil .nil) .nil))) (.node (o_87 P) (.node (o_124 P) (.node (o_190 P) (.node (o_322 P) .nil .nil) .nil) (.node (o_258 P) (.node (o_388 P) .nil .nil) .nil)) (.node (o_158 P) (.node (o_224 P) (.node (o_356 P) .nil .nil) .nil) (.node (o_290 P) .nil .nil)))) (.node (o_60 P) (.node (o_76 P) (.node (o_116 P) (.node (o_182 P) (.node (o_314 P) .nil .nil) .nil) (.node (o_250 P) (.node (o_380 P) .nil .nil) .nil)) (.node (o_150 P) (.node (o_216 P) (.node (o_348 P) .nil .nil) .nil) (.node (o_282 P) .nil .nil))) (.node (o_98 P) (.node (o_132 P) (.node (o_200 P) (.node (o_332 P) .nil .nil) .nil) (.node (o_266 P) (.node (o_396 P) .nil .nil) .nil)) (.node (o_166 P) (.node (o_232 P) (.node (o_364 P) .nil .nil) .nil) (.node (o_298 P) .nil .nil))))) (.node (o_43 P) (.node (o_56 P) (.node (o_72 P) (.node (o_112 P) (.node (o_178 P) (.node (o_310 P) .nil .nil) .nil) (.node (o_246 P) (.node (o_376 P) .nil .nil) .nil)) (.node (o_146 P) (.node (o_212 P) (.node (o_344 P) .nil .nil) .nil) (.node (o_278 P) .nil .nil))) (.node (o_91 P) (.node (o_128 P) (.node (o_194 P) (.node (o_328 P) .nil .nil) .nil) (.node (o_262 P) (.node (o_392 P) .nil .nil) .nil)) (.node (o_162 P) (.node (o_228 P) (.node (o_360 P) .nil .nil) .nil) (.node (o_294 P) .nil .nil)))) (.node (o_64 P) (.node (o_83 P) (.node (o_120 P) (.node (o_186 P) (.node (o_318 P) .nil .nil) .nil) (.node (o_254 P) (.node (o_384 P) .nil .nil) .nil)) (.node (o_154 P) (.node (o_220 P) (.node (o_352 P) .nil .nil) .nil) (.node (o_286 P) .nil .nil))) (.node (o_102 P) (.node (o_136 P) (.node (o_204 P) (.node (o_336 P) .nil .nil) .nil) (.node (o_270 P) (.node (o_400 P) .nil .nil) .nil)) (.node (o_170 P) (.node (o_238 P) (.node (o_368 P) .nil .nil) .nil) (.node (o_302 P) .nil .nil)))))) (.node (boot_o_5 P) (.node (boot_o_9 P) (.node (o_54 P) (.node (o_70 P) (.node (o_108 P) (.node (o_176 P) (.node (o_308 P) .nil .nil) .nil) (.node (o_244 P) (.node (o_374 P) .nil .nil) .nil)) (.node (o_144 P) (.node (o_210 P) (.node (o_342 P) .nil .nil) .nil) (.node (o_276 P) (.node (o_408 P) .nil .nil) .nil))) (.node (o_89 P) (.node (o_126 P) (.node (o_192 P) (.node (o_326 P) .nil .nil) .nil) (.node (o_260 P) (.node (o_390 P) .nil .nil) .nil)) (.node (o_160 P) (.node (o_226 P) (.node (o_358 P) .nil .nil) .nil) (.node (o_292 P) .nil .nil)))) (.node (o_62 P) (.node (o_78 P) (.node (o_118 P) (.node (o_184 P) (.node (o_316 P) .nil .nil) .nil) (.node (o_252 P) (.node (o_382 P) .nil .nil) .nil)) (.node (o_152 P) (.node (o_218 P) (.node (o_350 P) .nil .nil) .nil) (.node (o_284 P) .nil .nil))) (.node (o_100 P) (.node (o_134 P) (.node (o_202 P) (.node (o_334 P) .nil .nil) .nil) (.node (o_268 P) (.node (o_398 P) .nil .nil) .nil)) (.node (o_168 P) (.node (o_236 P) (.node (o_366 P) .nil .nil) .nil) (.node (o_300 P) .nil .nil))))) (.node (o_45 P) (.node (o_58 P) (.node (o_74 P) (.node (o_114 P) (.node (o_180 P) (.node (o_312 P) .nil .nil) .nil) (.node (o_248 P) (.node (o_378 P) .nil .nil) .nil)) (.node (o_148 P) (.node (o_214 P) (.node (o_346 P) .nil .nil) .nil) (.node (o_280 P) .nil .nil))) (.node (o_93 P) (.node (o_130 P) (.node (o_198 P) (.node (o_330 P) .nil .nil) .nil) (.node (o_264 P) (.node (o_394 P) .nil .nil) .nil)) (.node (o_164 P) (.node (o_230 P) (.node (o_362 P) .nil .nil) .nil) (.node (o_296 P) .nil .nil)))) (.node (o_66 P) (.node (o_85 P) (.node (o_122 P) (.node (o_188 P) (.node (o_320 P) .nil .nil) .nil) (.node (o_256 P) (.node (o_386 P) .nil .nil) .nil)) (.node (o_156 P) (.node (o_222 P) (.node (o_354 P) .nil .nil) .nil) (.node (o_288 P) .nil .nil))) (.node (o_104 P) (.node (o_138 P) (.node (o_206 P) (.node (o_338 P) .nil .nil) .nil) (.node (o_272 P) (.node (o_404 P) .nil .nil) .nil)) (.node (o_172 P) (.node (o_240 P) (.node (o_370 P) .nil .nil) .nil) (.node (o_304 P) .nil .nil))))))) (.node (o_49 P) (.node (boot_o_4 P) (.node (boot_o_8 P) (.node (o_53 P) (.node (o_69 P) (.node (o_107 P) (.node (o_175 P) (.node (o_307 P) .nil .nil) .nil) (.node (o_243 P) (.node (o_373 P) .nil .nil) .nil)) (.node (o_143 P) (.node (o_209 P) (.node (o_341 P) .nil .nil) .nil) (.node (o_275 P) (.node (o_407 P) .nil .nil) .nil))) (.node (o_88 P) (.node (o_125 P) (.node (o_191 P) (.node (o_323 P) .nil .nil) .nil) (.node (o_259 P) (.node (o_389 P) .nil .nil) .nil)) (.node (o_159 P) (.node (o_225 P) (.node (o_357 P) .nil .nil) .nil) (.node (o_291 P) .nil .nil)))) (.node (o_61 P) (.node (o_77 P) (.node (o_117 P) (.node (o_183 P) (.node (o_315 P) .nil .nil) .nil) (.node (o_251 P) (.node (o_381 P) .nil .nil) .nil)) (.node (o_151 P) (.node (o_217 P) (.node (o_349 P) .nil .nil) .nil) (.node (o_283 P) .nil .nil))) (.node (o_99 P) (.node (o_133 P) (.node (o_201 P) (.node (o_333 P) .nil .nil) .nil) (.node (o_267 P) (.node (o_397 P) .nil .nil) .nil)) (.node (o_167 P) (.node (o_235 P) (.node (o_365 P) .nil .nil) .nil) (.node (o_299 P) .nil .nil))))) (.node (o_402 P) (.node (o_57 P) (.node (o_73 P) (.node (o_113 P) (.node (o_179 P) (.node (o_311 P) .nil .nil) .nil) (.node (o_247 P) (.node (o_377 P) .nil .nil) .nil)) (.node (o_147 P) (.node (o_213 P) (.node (o_345 P) .nil .nil) .nil) (.node (o_279 P) .nil .nil))) (.node (o_92 P) (.node (o_129 P) (.node (o_195 P) (.node (o_329 P) .nil .nil) .nil) (.node (o_263 P) (.node (o_393 P) .nil .nil) .nil)) (.node (o_163 P) (.node (o_229 P) (.node (o_361 P) .nil .nil) .nil) (.node (o_295 P) .nil .nil)))) (.node (o_65 P) (.node (o_84 P) (.node (o_121 P) (.node (o_187 P) (.node (o_319 P) .nil .nil) .nil) (.node (o_255 P) (.node (o_385 P) .nil .nil) .nil)) (.node (o_155 P) (.node (o_221 P) (.node (o_353 P) .nil .nil) .nil) (.node (o_287 P) .nil .nil))) (.node (o_103 P) (.node (o_137 P) (.node (o_205 P) (.node (o_337 P) .nil .nil) .nil) (.node (o_271 P) (.node (o_403 P) .nil .nil) .nil)) (.node (o_171 P) (.node (o_239 P) (.node (o_369 P) .nil .nil) .nil) (.node (o_303 P) .nil .nil)))))) (.node (boot_o_6 P) (.node (boot_o_10 P) (.node (o_55 P) (.node (o_71 P) (.node (o_111 P) (.node (o_177 P) (.node (o_309 P) .nil .nil) .nil) (.node (o_245 P) (.node (o_375 P) .nil .nil) .nil)) (.node (o_145 P) (.node (o_211 P) (.node (o_343 P) .nil .nil) .nil) (.node (o_277 P) (.node (o_409 P) .nil .nil) .nil))) (.node (o_90 P) (.node (o_127 P) (.node (o_193 P) (.node (o_327 P) .nil .nil) .nil) (.node (o_261 P) (.node (o_391 P) .nil .nil) .nil)) (.node (o_161 P) (.node (o_227 P) (.node (o_359 P) .nil .nil) .nil) (.node (o_293 P) .nil .nil)))) (.node (o_63 P) (.node (o_82 P) (.node (o_119 P) (.node (o_185 P) (.node (o_317 P) .nil .nil) .nil) (.node (o_253 P) (.node (o_383 P) .nil .nil) .nil)) (.node (o_153 P) (.node (o_219 P) (.node (o_351 P) .nil .nil) .nil) (.node (o_285 P) .nil .nil))) (.node (o_101 P) (.node (o_135 P) (.node (o_203 P) (.node (o_335 P) .nil .nil) .nil) (.node (o_269 P) (.node (o_399 P) .nil .nil) .nil)) (.node (o_169 P) (.node (o_237 P) (.node (o_367 P) .nil .nil) .nil) (.node (o_301 P) .nil .nil))))) (.node (o_46 P) (.node (o_59 P) (.node (o_96 P) (.node (o_115 P) (.node (o_181 P) (.node (o_313 P) .nil .nil) .nil) (.node (o_249 P) (.node (o_379 P) .nil .nil) .nil)) (.node (o_149 P) (.node (o_215 P) (.node (o_347 P) .nil .nil) .nil) (.node (o_281 P) .nil .nil))) (.node (o_97 P) (.node (o_131 P) (.node (o_199 P) (.node (o_331 P) .nil .nil) .nil) (.node (o_265 P) (.node (o_395 P) .nil .nil) .nil)) (.node (o_165 P) (.node (o_231 P) (.node (o_363 P) .nil .nil) .nil) (.node (o_297 P) .nil .nil)))) (.node (o_67 P) (.node (o_86 P) (.node (o_123 P) (.node (o_189 P) (.node (o_321 P) .nil .nil) .nil) (.node (o_257 P) (.node (o_387 P) .nil .nil) .nil)) (.node (o_157 P) (.node (o_223 P) (.node (o_355 P) .nil .nil) .nil) (.node (o_289 P) .nil .nil))) (.node (o_105 P) (.node (o_141 P) (.node (o_207 P) (.node (o_339 P) .nil .nil) .nil) (.node (o_273 P) (.node (o_405 P) .nil .nil) .nil)) (.node (o_173 P) (.node (o_241 P) (.node (o_371 P) .nil .nil) .nil) (.node (o_305 P) .nil .nil)))))))
noncomputable def hp0 (P : Params) : Heap := ⟨⟨[boot_o_0 P, boot_o_1 P, boot_o_2 P, boot_o_3 P, boot_o_4 P, boot_o_5 P, boot_o_6 P, boot_o_7 P, boot_o_8 P, boot_o_9 P, boot_o_10 P, o_43 P, o_44 P, o_45 P, o_46 P]⟩, {}⟩
noncomputable def hp1 (P : Params) : Heap := ⟨⟨[boot_o_0 P, boot_o_1 P, o_49 P, o_401 P, boot_o_4 P, boot_o_5 P, boot_o_6 P, boot_o_7 P, boot_o_8 P, boot_o_9 P, boot_o_10 P, o_43 P, o_402 P, o_45 P, o_46 P, o_52 P, o_53 P, o_54 P, o_55 P, o_56 P, o_57 P, o_58 P, o_59 P, o_60 P, o_61 P, o_62 P, o_63 P, o_64 P, o_65 P, o_66 P, o_67 P, o_68 P, o_69 P, o_70 P, o_71 P, o_72 P, o_73 P, o_74 P, o_96 P, o_76 P, o_77 P, o_78 P, o_82 P, o_83 P, o_84 P, o_85 P, o_86 P, o_87 P, o_88 P, o_89 P, o_90 P, o_91 P, o_92 P, o_93 P, o_97 P, o_98 P, o_99 P, o_100 P, o_101 P, o_102 P, o_103 P, o_104 P, o_105 P, o_106 P, o_107 P, o_108 P, o_111 P, o_112 P, o_113 P, o_114 P, o_115 P, o_116 P, o_117 P, o_118 P, o_119 P, o_120 P, o_121 P, o_122 P, o_123 P, o_124 P, o_125 P, o_126 P, o_127 P, o_128 P, o_129 P, o_130 P, o_131 P, o_132 P, o_133 P, o_134 P, o_135 P, o_136 P, o_137 P, o_138 P, o_141 P, o_142 P, o_143 P, o_144 P, o_145 P, o_146 P, o_147 P, o_148 P, o_149 P, o_150 P, o_151 P, o_152 P, o_153 P, o_154 P, o_155 P, o_156 P, o_157 P, o_158 P, o_159 P, o_160 P, o_161 P, o_162 P, o_163 P, o_164 P, o_165 P, o_166 P, o_167 P, o_168 P, o_169 P, o_170 P, o_171 P, o_172 P, o_173 P, o_174 P, o_175 P, o_176 P, o_177 P, o_178 P, o_179 P, o_180 P, o_181 P, o_182 P, o_183 P, o_184 P, o_185 P, o_186 P, o_187 P, o_188 P, o_189 P, o_190 P, o_191 P, o_192 P, o_193 P, o_194 P, o_195 P, o_198 P, o_199 P, o_200 P, o_201 P, o_202 P, o_203 P, o_204 P, o_205 P, o_206 P, o_207 P, o_208 P, o_209 P, o_210 P, o_211 P, o_212 P, o_213 P, o_214 P, o_215 P, o_216 P, o_217 P, o_218 P, o_219 P, o_220 P, o_221 P, o_222 P, o_223 P, o_224 P, o_225 P, o_226 P, o_227 P, o_228 P, o_229 P, o_230 P, o_231 P, o_232 P, o_235 P, o_236 P, o_237 P, o_238 P, o_239 P, o_240 P, o_241 P, o_242 P, o_243 P, o_244 P, o_245 P, o_246 P, o_247 P, o_248 P, o_249 P, o_250 P, o_251 P, o_252 P, o_253 P, o_254 P, o_255 P, o_256 P, o_257 P, o_258 P, o_259 P, o_260 P, o_261 P, o_262 P, o_263 P, o_264 P, o_265 P, o_266 P, o_267 P, o_268 P, o_269 P, o_270 P, o_271 P, o_272 P, o_273 P, o_274 P, o_275 P, o_276 P, o_277 P, o_278 P, o_279 P, o_280 P, o_281 P, o_282 P, o_283 P, o_284 P, o_285 P, o_286 P, o_287 P, o_288 P, o_289 P, o_290 P, o_291 P, o_292 P, o_293 P, o_294 P, o_295 P, o_296 P, o_297 P, o_298 P, o_299 P, o_300 P, o_301 P, o_302 P, o_303 P, o_304 P, o_305 P, o_306 P, o_307 P, o_308 P, o_309 P, o_310 P, o_311 P, o_312 P, o_313 P, o_314 P, o_315 P, o_316 P, o_317 P, o_318 P, o_319 P, o_320 P, o_321 P, o_322 P, o_323 P, o_326 P, o_327 P, o_328 P, o_329 P, o_330 P, o_331 P, o_332 P, o_333 P, o_334 P, o_335 P, o_336 P, o_337 P, o_338 P, o_339 P, o_340 P, o_341 P, o_342 P, o_343 P, o_344 P, o_345 P, o_346 P, o_347 P, o_348 P, o_349 P, o_350 P, o_351 P, o_352 P, o_353 P, o_354 P, o_355 P, o_356 P, o_357 P, o_358 P, o_359 P, o_360 P, o_361 P, o_362 P, o_363 P, o_364 P, o_365 P, o_366 P, o_367 P, o_368 P, o_369 P, o_370 P, o_371 P, o_372 P, o_373 P, o_374 P, o_375 P, o_376 P, o_377 P, o_378 P, o_379 P, o_380 P, o_381 P, o_382 P, o_383 P, o_384 P, o_385 P, o_386 P, o_387 P, o_388 P, o_389 P, o_390 P, o_391 P, o_392 P, o_393 P, o_394 P, o_395 P, o_396 P, o_397 P, o_398 P, o_399 P, o_400 P, o_403 P, o_404 P, o_405 P, o_406 P, o_407 P, o_408 P, o_409 P]⟩, {}⟩
/-- the part of it that the walk stands upon -/
noncomputable abbrev KK (P : Params) : Frag := [(2, o_49 P), (3, o_401 P), (15, o_52 P), (17, o_54 P), (18, o_55 P), (20, o_57 P), (21, o_58 P), (22, o_59 P), (29, o_66 P), (31, o_68 P), (32, o_69 P), (34, o_71 P), (35, o_72 P), (36, o_73 P), (37, o_74 P), (38, o_96 P), (39, o_76 P), (42, o_82 P), (49, o_89 P), (50, o_90 P), (51, o_91 P), (54, o_97 P), (61, o_104 P), (62, o_105 P), (63, o_106 P), (73, o_118 P), (75, o_120 P), (76, o_121 P), (78, o_123 P), (79, o_124 P), (80, o_125 P), (82, o_127 P), (83, o_128 P), (85, o_130 P), (86, o_131 P), (87, o_132 P), (88, o_133 P), (89, o_134 P), (90, o_135 P), (91, o_136 P), (101, o_148 P), (103, o_150 P), (104, o_151 P), (106, o_153 P), (107, o_154 P), (108, o_155 P), (111, o_158 P), (112, o_159 P), (113, o_160 P), (114, o_161 P), (116, o_163 P), (117, o_164 P), (119, o_166 P), (120, o_167 P), (121, o_168 P), (122, o_169 P), (123, o_170 P), (124, o_171 P), (125, o_172 P), (128, o_175 P), (130, o_177 P), (131, o_178 P), (133, o_180 P), (134, o_181 P), (135, o_182 P), (137, o_184 P), (138, o_185 P), (140, o_187 P), (141, o_188 P), (142, o_189 P), (144, o_191 P), (145, o_192 P), (147, o_194 P), (148, o_195 P), (149, o_198 P), (151, o_200 P), (152, o_201 P), (154, o_203 P), (155, o_204 P), (156, o_205 P), (158, o_207 P), (159, o_208 P), (161, o_210 P), (162, o_211 P), (170, o_219 P), (172, o_221 P), (173, o_222 P), (175, o_224 P), (176, o_225 P), (177, o_226 P), (178, o_227 P), (179, o_228 P), (180, o_229 P), (181, o_230 P), (191, o_242 P), (193, o_244 P), (194, o_245 P), (196, o_247 P), (197, o_248 P), (198, o_249 P), (200, o_251 P), (201, o_252 P), (203, o_254 P), (204, o_255 P), (205, o_256 P), (207, o_258 P), (208, o_259 P), (210, o_261 P), (211, o_262 P), (212, o_263 P), (214, o_265 P), (215, o_266 P), (217, o_268 P), (218, o_269 P), (219, o_270 P), (221, o_272 P), (222, o_273 P), (224, o_275 P), (225, o_276 P), (226, o_277 P), (228, o_279 P), (229, o_280 P), (231, o_282 P), (232, o_283 P), (233, o_284 P), (235, o_286 P), (236, o_287 P), (238, o_289 P), (239, o_290 P), (240, o_291 P), (242, o_293 P), (243, o_294 P), (245, o_296 P), (246, o_297 P), (247, o_298 P), (249, o_300 P), (250, o_301 P), (252, o_303 P), (253, o_304 P), (254, o_305 P), (257, o_308 P), (258, o_309 P), (259, o_310 P), (261, o_312 P), (262, o_313 P), (264, o_315 P), (265, o_316 P), (266, o_317 P), (267, o_318 P), (268, o_319 P), (269, o_320 P), (270, o_321 P), (273, o_326 P), (275, o_328 P), (276, o_329 P), (278, o_331 P), (279, o_332 P), (280, o_333 P), (282, o_335 P), (283, o_336 P), (285, o_338 P), (286, o_339 P), (287, o_340 P), (289, o_342 P), (290, o_343 P), (292, o_345 P), (293, o_346 P), (294, o_347 P), (296, o_349 P), (297, o_350 P), (299, o_352 P), (300, o_353 P), (301, o_354 P), (303, o_356 P), (304, o_357 P), (306, o_359 P), (307, o_360 P), (308, o_361 P), (310, o_363 P), (311, o_364 P), (313, o_366 P), (314, o_367 P), (315, o_368 P), (317, o_370 P), (318, o_371 P), (320, o_373 P), (321, o_374 P), (322, o_375 P), (324, o_377 P), (325, o_378 P), (327, o_380 P), (328, o_381 P), (329, o_382 P), (331, o_384 P), (332, o_385 P), (334, o_387 P), (335, o_388 P), (336, o_389 P), (338, o_391 P), (339, o_392 P), (341, o_394 P), (342, o_395 P), (343, o_396 P), (346, o_399 P), (347, o_400 P), (348, o_403 P), (350, o_405 P), (351, o_406 P), (353, o_408 P), (354, o_409 P)]
noncomputable abbrev pE : Program := PySem.Challenge.pw_pb0547_01
noncomputable abbrev vw : Program := { pE with main := { pE.main with body := [stm 0, stm 2, stm 3, stm 4, stm 6, stm 7, stm 8, stm 10, stm 11, stm 12, stm 13, stm 14, stm 16, stm 17, stm 18, stm 19, stm 21, stm 22, stm 23, stm 24, stm 25, stm 26, stm 27, stm 28, stm 29, stm 30, stm 31, stm 32] } }
noncomputable abbrev en : Env := { scope := pE.main.scope, locals := mainNs, globals := mainNs, cells := [], code := .ref 13, frame := some 14 }
end Mine
end
section
open PySem PySem.W PyProof.Rows PySem.Spec PySem.Calls PyProof.Rows.LCg
set_option Elab.async false
namespace Mine
set_option maxRecDepth 100000
noncomputable abbrev cE : Code := .body (behindTheImports pE) en
noncomputable abbrev q0 : Pos := ⟨0, 0, 0, 0⟩
noncomputable abbrev tF : List Frame := [topFrame q0]
noncomputable abbrev sT (t : BT) (n k : Nat) (os : OsState) : SharedT := ⟨t, n, {}, ⟨[]⟩, {}, k, os⟩
noncomputable abbrev sH (h : Heap) (k : Nat) (os : OsState) : Shared := ⟨h, ⟨[]⟩, {}, k, os⟩
theorem top_pre (w : World) (os : OsState) : topGo treeTable pE w 11 (some (.ref 6)) 12 ⟨boot_heap w.params, ⟨[]⟩, boot_drawn, boot_toks, os⟩ (topStub pE) = some (sH (hp0 w.params) 187 os, ⟨denote treeTable cE, cE, q0, tF⟩) := by
  first
    | (rw [PySem.W.Fast.te15667345088766844465, PySem.W.Fast.te11892475500146522536, PySem.W.Fast.te14364793385576792824]; kernel_rfl)
    | kernel_rfl
theorem top_block (w : World) (os : OsState) : segRun treeTable pE w 11 (some (.ref 6)) 1 1 (sH (hp0 w.params) 187 os) (blockOf (behindTheImports pE) en cE q0 tF) = some (.next, (sT (t_47 w.params) 15 187 os).abs, cE, q0) := by
  first
    | (rw [PySem.W.Fast.te14374325043358763698, PySem.W.Fast.te14364793385576792824]; kernel_rfl)
    | kernel_rfl
theorem top_1 (w : World) (os : OsState) : segRunT treeTable pE w 11 (some (.ref 6)) 1 267 (sT (t_47 w.params) 15 187 os) (piecesOf [stm 0, stm 1, stm 2] en cE ⟨0, 0, 0, 0⟩ tF) = some (.next, sT (t_78 w.params) 42 225 os, cE, ⟨5, 0, 9, 30⟩) := by
  first
    | (rw [PySem.W.Fast.te10110043849684766642, PySem.W.Fast.te14364793385576792824]; kernel_rfl)
    | kernel_rfl
theorem top_2 (w : World) (os : OsState) : segRunT treeTable pE w 11 (some (.ref 6)) 1 214 (sT (t_78 w.params) 42 225 os) (piecesOf [stm 3] en cE ⟨5, 0, 9, 30⟩ tF) = some (.next, sT (t_93 w.params) 54 241 os, cE, ⟨10, 0, 11, 8⟩) := by
  first
    | (rw [PySem.W.Fast.te10110043849684766642, PySem.W.Fast.te14364793385576792824]; kernel_rfl)
    | kernel_rfl
theorem top_3 (w : World) (os : OsState) : segRunT treeTable pE w 11 (some (.ref 6)) 1 232 (sT (t_93 w.params) 54 241 os) (piecesOf [stm 4, stm 5, stm 6] en cE ⟨10, 0, 11, 8⟩ tF) = some (.next, sT (t_108 w.params) 66 261 os, cE, ⟨15, 0, 15, 10⟩) := by
  first
    | (rw [PySem.W.Fast.te10110043849684766642, PySem.W.Fast.te14364793385576792824]; kernel_rfl)
    | kernel_rfl
theorem top_4 (w : World) (os : OsState) : segRunT treeTable pE w 11 (some (.ref 6)) 1 260 (sT (t_108 w.params) 66 261 os) (piecesOf [stm 7] en cE ⟨15, 0, 15, 10⟩ tF) = some (.next, sT (t_138 w.params) 94 303 os, cE, ⟨16, 0, 25, 67⟩) := by
  first
    | (rw [PySem.W.Fast.te10110043849684766642, PySem.W.Fast.te14364793385576792824]; kernel_rfl)
    | kernel_rfl
theorem top_5 (w : World) (os : OsState) : segRunT treeTable pE w 11 (some (.ref 6)) 1 394 (sT (t_138 w.params) 94 303 os) (piecesOf [stm 8, stm 9, stm 10, stm 11, stm 12] en cE ⟨16, 0, 25, 67⟩ tF) = some (.next, sT (t_195 w.params) 149 379 os, cE, ⟨45, 0, 48, 24⟩) := by
  first
    | (rw [PySem.W.Fast.te10110043849684766642, PySem.W.Fast.te14364793385576792824]; kernel_rfl)
    | kernel_rfl
theorem top_6 (w : World) (os : OsState) : segRunT treeTable pE w 11 (some (.ref 6)) 1 311 (sT (t_195 w.params) 149 379 os) (piecesOf [stm 13, stm 14, stm 15, stm 16, stm 17, stm 18] en cE ⟨45, 0, 48, 24⟩ tF) = some (.next, sT (t_232 w.params) 184 431 os, cE, ⟨58, 0, 62, 26⟩) := by
  first
    | (rw [PySem.W.Fast.te10110043849684766642, PySem.W.Fast.te14364793385576792824]; kernel_rfl)
    | kernel_rfl
theorem top_7 (w : World) (os : OsState) : segRunT treeTable pE w 11 (some (.ref 6)) 1 560 (sT (t_232 w.params) 184 431 os) (piecesOf [stm 19] en cE ⟨58, 0, 62, 26⟩ tF) = some (.next, sT (t_323 w.params) 273 559 os, cE, ⟨63, 0, 126, 87⟩) := by
  first
    | (rw [PySem.W.Fast.te10110043849684766642, PySem.W.Fast.te14364793385576792824]; kernel_rfl)
    | kernel_rfl
theorem top_8 (w : World) (os : OsState) : segRunT treeTable pE w 11 (some (.ref 6)) 1 372 (sT (t_323 w.params) 273 559 os) (piecesOf [stm 20, stm 21, stm 22, stm 23, stm 24, stm 25, stm 26, stm 27, stm 28, stm 29, stm 30, stm 31] en cE ⟨63, 0, 126, 87⟩ tF) = some (.next, sT (t_400 w.params) 348 683 os, cE, ⟨206, 0, 216, 56⟩) := by
  first
    | (rw [PySem.W.Fast.te10110043849684766642, PySem.W.Fast.te14364793385576792824]; kernel_rfl)
    | kernel_rfl
theorem top_9 (w : World) (os : OsState) : segRunT treeTable pE w 11 (some (.ref 6)) 1 39 (sT (t_400 w.params) 348 683 os) (piecesOf [stm 32] en cE ⟨206, 0, 216, 56⟩ tF) = some (.next, sT (t_409 w.params) 355 699 os, cE, ⟨217, 0, 235, 15⟩) := by
  first
    | (rw [PySem.W.Fast.te10110043849684766642, PySem.W.Fast.te14364793385576792824]; kernel_rfl)
    | kernel_rfl
theorem top_fin (w : World) (os : OsState) : topRun treeTable pE w 11 (some (.ref 6)) 2 (sT (t_409 w.params) 355 699 os).abs ⟨doneF .next, cE, ⟨217, 0, 235, 15⟩, tF⟩ = some (sH (hp1 w.params) 699 os) := by
  first
    | (rw [PySem.W.Fast.te14082659384304107361, PySem.W.Fast.te14364793385576792824]; kernel_rfl)
    | kernel_rfl
theorem top_body : behindTheImports pE = [stm 0, stm 1, stm 2] ++ ([stm 3] ++ ([stm 4, stm 5, stm 6] ++ ([stm 7] ++ ([stm 8, stm 9, stm 10, stm 11, stm 12] ++ ([stm 13, stm 14, stm 15, stm 16, stm 17, stm 18] ++ ([stm 19] ++ ([stm 20, stm 21, stm 22, stm 23, stm 24, stm 25, stm 26, stm 27, stm 28, stm 29, stm 30, stm 31] ++ ([stm 32] ++ [])))))))) := by kernel_rfl
theorem top_run (w : World) (os : OsState) : topRun treeTable pE w 11 (some (.ref 6)) (12 + (1 + (267 + (214 + (232 + (260 + (394 + (311 + (560 + (372 + (39 + (2)))))))))))) ⟨boot_heap w.params, ⟨[]⟩, boot_drawn, boot_toks, os⟩ (topStub pE) = some (sH (hp1 w.params) 699 os) := by
  refine go_top (top_pre w os) (piece_block (top_block w os) ?_)
  rw [show restOf (behindTheImports pE) en cE q0 [topFrame q0] = restOf ([stm 0, stm 1, stm 2] ++ ([stm 3] ++ ([stm 4, stm 5, stm 6] ++ ([stm 7] ++ ([stm 8, stm 9, stm 10, stm 11, stm 12] ++ ([stm 13, stm 14, stm 15, stm 16, stm 17, stm 18] ++ ([stm 19] ++ ([stm 20, stm 21, stm 22, stm 23, stm 24, stm 25, stm 26, stm 27, stm 28, stm 29, stm 30, stm 31] ++ ([stm 32] ++ []))))))))) en cE q0 [topFrame q0] from congrArg (fun b => restOf b en cE q0 [topFrame q0]) top_body]
  exact piece_app (segRun_of (top_1 w os)) (piece_app (segRun_of (top_2 w os)) (piece_app (segRun_of (top_3 w os)) (piece_app (segRun_of (top_4 w os)) (piece_app (segRun_of (top_5 w os)) (piece_app (segRun_of (top_6 w os)) (piece_app (segRun_of (top_7 w os)) (piece_app (segRun_of (top_8 w os)) (piece_app (segRun_of (top_9 w os)) (piece_nil (top_fin w os))))))))))
end Mine
end
section
open PySem PySem.W PyProof.Rows PySem.Spec PySem.Calls PyProof.Rows.LCg
set_option Elab.async false
namespace Mine
set_option maxRecDepth 100000
noncomputable abbrev fS (P : Params) (os : OsState) : Shared := sH (hp1 P) 699 os
noncomputable abbrev lo : List Str := [Str.ofString "Frame"]
noncomputable abbrev mo : List Str := importedModules pE.main.body
noncomputable abbrev xt (s : Shared) : Bool := xlAt vw [] s && recOk PySem.Challenge.rw_pb0547_01.row.toRowW.records s
theorem look_0 (w : World) (os : OsState) : (staticsOk mo (boot_heap w.params) (hp1 w.params) && namesBound pE (hp1 w.params) && gensDone (fS w.params os) && laidKept (boot_heap w.params) (hp1 w.params)) = true := by kernel_rfl
theorem look_1 (w : World) (os : OsState) : seen ((recsOf vw).map (·.name)) (ownsOf vw) [] { fS w.params os with gens := #[] } = expectedOf vw := by
  first
    | (rw [PySem.W.Fast.te5160383126252970620, PySem.W.Fast.te3399658132070893891, PySem.W.Fast.te5991557255702980513]; kernel_rfl)
    | kernel_rfl
theorem look_2 (w : World) : (hp1 w.params).bltView = bltViewBooted := by kernel_rfl
theorem look_3 (w : World) : (hp1 w.params).keysOk (looseW vw lo) ((recsOf vw).map (·.name)) ((litsOf vw).map (·.1)) ((clssOf vw (looseW vw lo)).map (·.name)) = true := by
  first
    | (rw [PySem.W.Fast.te10880121769531294198, PySem.W.Fast.te3399658132070893891, PySem.W.Fast.te7409074990110511671, PySem.W.Fast.te13664370479719496447, PySem.W.Fast.te821141287760084731]; kernel_rfl)
    | kernel_rfl
theorem look_4 (w : World) (os : OsState) : ((hp1 w.params).accountedOkI mo && (hp1 w.params).isNs mainGlobals && (hp1 w.params).isNs builtinsNs && tablesOk vw (hp1 w.params) && xt (fS w.params os)) = true := by
  first
    | (rw [PySem.W.Fast.te14722251495701143533, PySem.W.Fast.te10994771534591457954]; kernel_rfl)
    | kernel_rfl
theorem look_5 (w : World) (os : OsState) : tabsOk vw (fS w.params os) = true := by
  first
    | (rw [PySem.W.Fast.te479339242167458305]; kernel_rfl)
    | kernel_rfl
theorem look_6 (w : World) (os : OsState) : pinSeenD vw (drecsOf vw) (fS w.params os) = pinGoodD (drecsOf vw) := by
  first
    | (rw [PySem.W.Fast.te16090120013241838585, PySem.W.Fast.te3247288618530077131]; kernel_rfl)
    | kernel_rfl
theorem look_7 (w : World) (os : OsState) : plainSeenE vw (looseW vw lo) (fS w.params os) = plainGoodE vw (looseW vw lo) := by
  first
    | (rw [PySem.W.Fast.te2386780881361962483, PySem.W.Fast.te821141287760084731]; kernel_rfl)
    | kernel_rfl
theorem look_8 (w : World) (os : OsState) : plainSeenD vw lo (fS w.params os) = plainGoodD vw lo := by
  first
    | (rw [PySem.W.Fast.te11698064438423848299]; kernel_rfl)
    | kernel_rfl
theorem look_9 (w : World) (os : OsState) : wideSeen vw (fS w.params os) = wideGood vw := by
  first
    | (rw [PySem.W.Fast.te7317090234206586261]; kernel_rfl)
    | kernel_rfl
theorem look_10 (w : World) (os : OsState) : clsSeenW vw lo (fS w.params os) = clsGoodW vw lo := by
  first
    | (rw [PySem.W.Fast.te7369524293546568484]; kernel_rfl)
    | kernel_rfl
noncomputable abbrev aS : List Addr := [2, 3, 15, 17, 18, 20, 21, 22, 29, 31, 32, 34, 35, 36, 37, 38, 39, 42, 49, 50, 51, 54, 61, 62, 63, 73, 75, 76, 78, 79, 80, 82, 83, 85, 86, 87, 88, 89, 90, 91, 101, 103, 104, 106, 107, 108, 111, 112, 113, 114, 116, 117, 119, 120, 121, 122, 123, 124, 125, 128, 130, 131, 133, 134, 135, 137, 138, 140, 141, 142, 144, 145, 147, 148, 149, 151, 152, 154, 155, 156, 158, 159, 161, 162, 170, 172, 173, 175, 176, 177, 178, 179, 180, 181, 191, 193, 194, 196, 197, 198, 200, 201, 203, 204, 205, 207, 208, 210, 211, 212, 214, 215, 217, 218, 219, 221, 222, 224, 225, 226, 228, 229, 231, 232, 233, 235, 236, 238, 239, 240, 242, 243, 245, 246, 247, 249, 250, 252, 253, 254, 257, 258, 259, 261, 262, 264, 265, 266, 267, 268, 269, 270, 273, 275, 276, 278, 279, 280, 282, 283, 285, 286, 287, 289, 290, 292, 293, 294, 296, 297, 299, 300, 301, 303, 304, 306, 307, 308, 310, 311, 313, 314, 315, 317, 318, 320, 321, 322, 324, 325, 327, 328, 329, 331, 332, 334, 335, 336, 338, 339, 341, 342, 343, 346, 347, 348, 350, 351, 353, 354]
theorem as_kk (P : Params) : aS = (KK P).map (·.1) := by kernel_rfl
theorem look_11 (w : World) : aS.map (hp1 w.params).get? = (KK w.params).map fun p => some p.2 := by kernel_rfl
theorem top_size (w : World) : ((boot_heap w.params).isNs mainGlobals && (#[] : Array GenState).size == 0, (boot_heap w.params).objs.size, (boot_heap w.params).nsMap mainGlobals "__annotations__") = (true, 11, some (.ref 6)) := by
  first
    | (rw [PySem.W.Fast.te8920871248978507458]; kernel_rfl)
    | kernel_rfl
theorem top_open (w : World) : (fencedOpening treeTable pE w 5406).map (fun s => (s.heap, s.gens, s.drawn, s.toks)) = some (boot_heap w.params, ⟨[]⟩, boot_drawn, boot_toks) := boot_open (by kernel_rfl) (by kernel_rfl) (fun s => by kernel_rfl) w
theorem and_up {a b c d e x g : Bool} (h : a = true) (k : (b && c && d && e && x) = true) (l : g = true) : (a && b && c && d && e && x && g) = true := by
  subst h l
  simpa using k
theorem looks_all (w : World) (os : OsState) : openSeen vw lo mo xt true (fS w.params os) = openGood vw lo :=
  looks_pair (look_1 w os) (looks_pair (look_2 w) (looks_pair (and_up (look_3 w) (look_4 w os) rfl) (looks_pair (look_5 w os) (looks_pair (look_6 w os) (looks_pair (look_7 w os) (looks_pair (look_8 w os) (looks_pair (look_9 w os) (look_10 w os))))))))
theorem top_left : LeftO PySem.Challenge.rw_pb0547_01.row.toRowW.prog vw lo xt (Hook.obs (kHook KK aS as_kk)) (Hook.val (kHook KK aS as_kk)) 5406 :=
  LeftO.of_pieces (p := pE) (H₀ := boot_heap) (H₁ := hp1) top_open top_size top_run (by kernel_rfl) (fun w => funext fun os => looks_pair (look_0 w os) (looks_pair (looks_all w os) (look_11 w)))
end Mine
end
section
open PySem PySem.W PyProof.Rows PySem.Spec PySem.Calls
set_option Elab.async false
namespace Mine
abbrev Led := List (Addr × Obj)
/-- what a call of f upon args does in any frame: R says of the result and the ledger behind it -/
def Does (w : Wd) (f : Addr) (args : List Value) (news : Led) (dep un : Nat) (R : Value → Led → Prop) : Prop :=
  ∀ (mean : ExcName → Option Value) (mg mb : Str → Option Value) (dp u : Nat) (gd : Option (List Code)) (cn : Str) (cs : Scope) (a : Addr) (ccd : Value) (cl : List (Str × Addr)) (outer : List Env) (A₀ : Around) (base h₀ : Heap) (L : Addr) (m : Str → Option Value) (s : Shared)
    (Q E : Value → Shared → Prop),
    Below A₀ base outer h₀ → Fr h₀ L s.heap m → w.K.In h₀ → News h₀ L s.heap news → Top w.V (looseW w.V [Str.ofString "Frame"]) mean mg mb h₀ → cs.kind = .function →
    dp + dep < recursionLimit → u + un < cLine →
    (∀ r news' h' tk', Fr h₀ L h' m → News h₀ L h' news' → R r news' → Q r { s with heap := h', toks := tk' }) →
    wpAny (model PySem.Challenge.rw_pb0547_01.row.prog w.toWorld) (ktrTop dp u gd cn cs L a ccd cl outer) (call (.ref f) args) Q E s
section
variable {w : Wd} {f : Addr} {args : List Value} {news : Led} {dep un : Nat} {R : Value → Led → Prop} {mean : ExcName → Option Value} {mg mb : Str → Option Value} {dp u : Nat} {gd : Option (List Code)} {cn : Str} {cs : Scope} {a : Addr} {ccd : Value} {cl : List (Str × Addr)} {outer : List Env} {A₀ : Around} {base h₀ : Heap} {L : Addr} {m : Str → Option Value} {s : Shared}
    {Q E : Value → Shared → Prop}
theorem Does.use (D : Does w f args news dep un R) (B : Below A₀ base outer h₀) (F : Fr h₀ L s.heap m) (X : w.K.In h₀) (N : News h₀ L s.heap news) (T : Top w.V (looseW w.V [Str.ofString "Frame"]) mean mg mb h₀) (hk : cs.kind = .function)
    (hd : dp + dep < recursionLimit) (hu : u + un < cLine)
    (h : ∀ r news' h' tk', Fr h₀ L h' m → News h₀ L h' news' → R r news' → Q r { s with heap := h', toks := tk' }) :
    wpAny (model PySem.Challenge.rw_pb0547_01.row.prog w.toWorld) (ktrTop dp u gd cn cs L a ccd cl outer) (call (.ref f) args) Q E s :=
  D mean mg mb dp u gd cn cs a ccd cl outer A₀ base h₀ L m s Q E B F X N T hk hd hu h
end
end Mine
end
section
open PySem PySem.W PyProof.Rows PySem.Spec PySem.Calls
set_option Elab.async false
namespace Mine
/-- a map that parts from m₀ at x and at the stored names alone -/
def Like (x : Str) (stored : List Str) (m₀ m : Str → Option Value) : Prop := ∀ z, z ≠ x → stored.contains z = false → m z = m₀ z
theorem Like.fr {x : Str} {stored : List Str} {m₀ m₁ : Str → Option Value} {h₀ h : Heap} {L : Addr} {v : Option Value} (k : Like x stored m₀ m₁) (F : Fr h₀ L h (fun y => if y = x then v else m₁ y)) :
    Fr h₀ L h (fun y => if y = x then v else if stored.contains y then m₁ y else m₀ y) := by
  have e : (fun y => if y = x then v else m₁ y) = (fun y => if y = x then v else if stored.contains y then m₁ y else m₀ y) := by
    funext y
    by_cases hx : y = x
    · simp [hx]
    · cases hs : stored.contains y with
      | true => simp only [hx, if_false, if_true]
      | false => simp only [hx, if_false, Bool.false_eq_true]; exact k y hx hs
  rw [← e]; exact F
theorem Like.frOut {x : Str} {stored : List Str} {m₀ m₁ : Str → Option Value} {h₀ h : Heap} {L : Addr} (k : Like x stored m₀ m₁) (F : Fr h₀ L h m₁) :
    Fr h₀ L h (fun y => if y = x then m₁ x else if stored.contains y then m₁ y else m₀ y) := by
  refine Like.fr k ?_
  have e : (fun y => if y = x then m₁ x else m₁ y) = m₁ := by
    funext y
    by_cases hx : y = x
    · simp [hx]
    · simp [hx]
  rw [e]; exact F
section
variable {prog : Program} {w : World} {A : Around} {E : Value → Shared → Prop} {s : Shared} {env : Env} {h₀ : Heap} {x : Str} {body : List Stmt} {Q : Flow → Shared → Prop}
/-- a for over a range by ones: J of the turn's number and the ledger; the stored names are forgotten -/
theorem loop_range {r : Addr} {a₀ b₀ : Int} {t₀ u₀ v₀ : Tok} {n : Nat} {m₀ : Str → Option Value} {news : Led} (stored : List Str) (J : Nat → Led → Prop)
    (hh : A.handled = none) (hr : IsRange s.heap r a₀ b₀ 1 t₀ u₀ v₀) (hsmall : Builtin.Range.small a₀ b₀ 1 = true) (hsz : Builtin.Range.rangeSize a₀ b₀ 1 = (n : Int)) (F : Fr h₀ env.locals s.heap m₀) (N : News h₀ env.locals s.heap news) (hj : J 0 news)
    (turn : ∀ i t (u : Str → Option Value) nx h tk own, i < n → OwnOff own (nx.map (·.1)) → J i nx → Fr h₀ env.locals h (fun y => if y = x then some (.int (a₀ + (i : Int)) t) else if stored.contains y then u y else m₀ y) → News h₀ env.locals h (nx ++ own) →
      wpAny (model prog w) A (execs body env) (InvPostG h₀ env.locals (fun m' nx' => Like x stored m₀ m' ∧ J (i + 1) nx') own { s with heap := h, toks := tk } Q) E { s with heap := h, toks := tk })
    (done : ∀ (u : Str → Option Value) nx h tk, J n nx → Fr h₀ env.locals h (fun y => if y = x then u y else if stored.contains y then u y else m₀ y) → News h₀ env.locals h nx → Q .next { s with heap := h, toks := tk }) :
    wpAny (model prog w) A (pyIter (.ref r)) (fun it s₂ => LoopAtV prog w A h₀ env x body Q E it s₂) E s := by
  refine wpAny_pyIter_range hr hsmall ?_
  have W : Walks prog w A s.heap.objs.size [s.heap.objs.size] [s.heap.objs.size] n (fun i v => i < n ∧ ∃ t, v = .int (a₀ + i * 1) t)
      (fun i h => IsRangeIter h s.heap.objs.size (a₀ + (i : Nat) * 1) ((n : Int) - (i : Nat)) 1) := (Walks.range hh _ a₀ 1 n).bound
  refine kdr_loop (fun i m nx => Like x stored m₀ m ∧ J i nx) W (fun _ h => h) (fun _ h => h) ?_ ?_ ?_ ?_ (by show IsRangeIter _ _ _ _ _; rw [hsz]; simpa using Heap.get?_push_size _ rfl) (F.push _)
    (fun p hp => ⟨Heap.get?_push_of_some _ (N p hp).1, (N p hp).2⟩) ⟨fun _ _ _ => rfl, hj⟩ ?_ ?_
  · intro i h hi b hb
    rw [List.mem_singleton.mp hb]; exact ⟨_, hi⟩
  · intro hm
    exact absurd F.ns.lt ((List.mem_singleton.mp hm) ▸ Nat.lt_irrefl _)
  · intro b hb
    rw [List.mem_singleton.mp hb]; exact next_is_new F
  · intro p hp hI
    exact absurd (Heap.lt_size (N p hp).1) ((List.mem_singleton.mp hI) ▸ Nat.lt_irrefl _)
  · rintro i v m₁ nx h tk own hi ⟨_, t, rfl⟩ hoff ⟨hl, hj'⟩ F₁ N₁
    rw [Int.mul_one] at F₁
    exact turn i t m₁ nx h tk own hi hoff hj' (hl.fr F₁) N₁
  · rintro m₁ nx h tk ⟨hl, hj'⟩ F₁ N₁
    refine done m₁ nx h tk hj' ?_ N₁
    have F₂ := hl.frOut F₁
    have e : (fun y => if y = x then m₁ x else if stored.contains y then m₁ y else m₀ y) = (fun y => if y = x then m₁ y else if stored.contains y then m₁ y else m₀ y) := by
      funext y; by_cases hx : y = x <;> simp [hx]
    rw [← e]; exact F₂
end
end Mine
end
section
open PySem PySem.W PyProof.Rows PySem.Spec PySem.Calls
set_option Elab.async false
namespace Mine
section
variable {h₀ h : Heap} {L t : Addr} {o : Obj} {p1 p2 p3 p4 p5 : Addr × Obj} {r : Led}
theorem ndrop (N : News h₀ L h (p1 :: r)) : News h₀ L h r := fun p hp => N p (.tail _ hp)
end
end Mine
end
section
open PySem PySem.W PyProof.Rows PySem.Spec PySem.Calls
set_option Elab.async false
namespace Mine
section
variable {prog : Program} {w : World} {A : Around} {E : Value → Shared → Prop} {s : Shared}
theorem look_bytes : typeLookup (.type "bytes") (Str.ofString "__bytes__") = pure (some (.builtin "bytes.__bytes__")) := by rw [typeLookup_type, builtinLookup_eq_fast]; kernel_rfl
theorem bytes_new {b : Array UInt8} {t : Tok} {Q : Value → Shared → Prop} (h : Q (.bytes b t) s) :
    codeAny (model prog w) A (.call (.builtin "bytes.__new__") ⟨[.type "bytes", .bytes b t], []⟩) (wants Q E) s := by
  refine codeAny_of_tree ?_
  show wpAny _ A.in1 (do checkBuiltinCall "bytes.__new__" ⟨[.type "bytes", .bytes b t], []⟩; again (.builtin "bytes.__new__" ⟨[.type "bytes", .bytes b t], []⟩)) _ _ s
  refine wpAny_bind (wpAny_of_eq (F.bm_newCall _) (wpAny_pure ⟨plainId_quiet F.bm_plain _, codeAny_builtin F.bm_entry ?_⟩))
  rw [Around.under_plainId F.bm_plain _]
  have hT : s.TypeIs (.bytes b t) "bytes" := PySem.W.typeIs_bytes _ _ _
  unfold Builtin.«bytes.__new__»
  refine wpAny_bind (wpAny_of_eq (a := true) rfl ?_)
  refine bm_if_false rfl ?_
  refine wpAny_bind (wpAny_of_eq F.bm_sub ?_)
  refine bm_if_false rfl ?_
  refine wpAny_bind (wpAny_of_eq (F.bm_bind _) ?_)
  refine wpAny_bind (wpAny_of_eq (a := ()) rfl ?_)
  refine wpAny_bind (wpAny_of_eq (a := ()) rfl ?_)
  refine bm_if_false rfl ?_
  refine wpAny_bind (wpAny_specialOf hT look_bytes ?_)
  dsimp only
  refine wpAny_bind (wpAny_rule ?_)
  refine wpAny_bind (wpAny_of_eq (a := Value.type "bytes") rfl ?_)
  refine bm_if_true (by decide) ?_
  show wpAny _ _ (if (Value.type "bytes" == Value.type "bytes") = true then _ else _) _ _ _
  refine bm_if_true (by decide) ?_
  exact wpAny_pure h
theorem call_bytes_bytes {b : Array UInt8} {t : Tok} {Q : Value → Shared → Prop} (h : Q (.bytes b t) s) : wpAny (model prog w) A (call (.type "bytes") [.bytes b t]) Q E s := by
  refine callType_codes (Q₁ := fun obj s₁ => s₁.TypeIs obj "bytes" ∧ Q obj s₁) F.bm_called (F.bm_typeCall _) F.entry_object_init
    (bytes_new ⟨PySem.W.typeIs_bytes _ _ _, h⟩) fun obj s₁ h₁ => ?_
  exact ⟨h₁.1, F.args_object_init_2 obj _, object_init_meets F.bm_called.init.lookup F.bm_called.made (by decide) prog w A.in1 _ s₁ ⟨h₁.1, rfl, h₁.2⟩⟩
end
end Mine
end
section
open PySem PySem.W PyProof.Rows PySem.Spec PySem.Calls
set_option Elab.async false
namespace Mine
/-- a tag -/
structure TagD where
  kind : Int
  prio : Int
  drop : Bool
  vlan : Int
abbrev tagDict (w : Wd) (k1 k2 k3 k4 t1 t2 t4 : Tok) (t : TagD) : Obj :=
  dictOf [⟨PyData.keyHash w.params (Str.ofString "kind"), .str (Str.ofString "kind") k1, .int t.kind t1⟩, ⟨PyData.keyHash w.params (Str.ofString "priority"), .str (Str.ofString "priority") k2, .int t.prio t2⟩,
    ⟨PyData.keyHash w.params (Str.ofString "may_drop"), .str (Str.ofString "may_drop") k3, .bool t.drop⟩, ⟨PyData.keyHash w.params (Str.ofString "vlan"), .str (Str.ofString "vlan") k4, .int t.vlan t4⟩] 4
def TagIn (w : Wd) (news : Led) (v : Value) (t : TagD) : Prop :=
  ∃ (a d : Addr) (k1 k2 k3 k4 t1 t2 t4 : Tok), v = .ref a ∧ (a, instObj 89 d) ∈ news ∧ (d, tagDict w k1 k2 k3 k4 t1 t2 t4 t) ∈ news
inductive TagsIn (w : Wd) (news : Led) : List Value → List TagD → Prop
  | nil : TagsIn w news [] []
  | cons {v : Value} {vs : List Value} {t : TagD} {ts : List TagD} : TagIn w news v t → TagsIn w news vs ts → TagsIn w news (v :: vs) (t :: ts)
theorem TagIn.mono {w : Wd} {n₁ n₂ : Led} {v : Value} {t : TagD} (hs : ∀ p ∈ n₁, p ∈ n₂) (h : TagIn w n₁ v t) : TagIn w n₂ v t := by
  obtain ⟨a, d, k1, k2, k3, k4, t1, t2, t4, e, h1, h2⟩ := h
  exact ⟨a, d, k1, k2, k3, k4, t1, t2, t4, e, hs _ h1, hs _ h2⟩
theorem TagsIn.mono {w : Wd} {n₁ n₂ : Led} {vs : List Value} {ts : List TagD} (hs : ∀ p ∈ n₁, p ∈ n₂) (h : TagsIn w n₁ vs ts) : TagsIn w n₂ vs ts := by
  induction h with
  | nil => exact .nil
  | cons h _ ih => exact .cons (h.mono hs) ih
theorem TagsIn.snoc {w : Wd} {news : Led} {vs : List Value} {ts : List TagD} {v : Value} {t : TagD} (h : TagsIn w news vs ts) (k : TagIn w news v t) : TagsIn w news (vs ++ [v]) (ts ++ [t]) := by
  induction h with
  | nil => exact .cons k .nil
  | cons h _ ih => exact .cons h ih
theorem TagsIn.length {w : Wd} {news : Led} {vs : List Value} {ts : List TagD} (h : TagsIn w news vs ts) : vs.length = ts.length := by
  induction h with
  | nil => rfl
  | cons _ _ ih => rw [List.length_cons, List.length_cons, ih]
/-- a frame -/
structure FrameD where
  target : Int
  source : Int
  tags : List TagD
  kind : Int
  payload : Array UInt8
abbrev tupOf (vs : List Value) (n : Nat) : Obj := { cls := .type "tuple", data := .seq vs.toArray n }
abbrev frameDict (w : Wd) (k1 k2 k3 k4 k5 t1 t2 t4 t5 : Tok) (T : Addr) (f : FrameD) : Obj :=
  dictOf [⟨PyData.keyHash w.params (Str.ofString "target"), .str (Str.ofString "target") k1, .int f.target t1⟩, ⟨PyData.keyHash w.params (Str.ofString "source"), .str (Str.ofString "source") k2, .int f.source t2⟩,
    ⟨PyData.keyHash w.params (Str.ofString "tags"), .str (Str.ofString "tags") k3, .ref T⟩, ⟨PyData.keyHash w.params (Str.ofString "kind"), .str (Str.ofString "kind") k4, .int f.kind t4⟩,
    ⟨PyData.keyHash w.params (Str.ofString "payload"), .str (Str.ofString "payload") k5, .bytes f.payload t5⟩] 5
def FrameIn (w : Wd) (news : Led) (v : Value) (f : FrameD) : Prop :=
  ∃ (a d T : Addr) (k1 k2 k3 k4 k5 t1 t2 t4 t5 : Tok) (n : Nat) (vs : List Value), v = .ref a ∧ (a, instObj 123 d) ∈ news ∧ (d, frameDict w k1 k2 k3 k4 k5 t1 t2 t4 t5 T f) ∈ news ∧ (T, tupOf vs n) ∈ news ∧ TagsIn w news vs f.tags
theorem FrameIn.mono {w : Wd} {n₁ n₂ : Led} {v : Value} {f : FrameD} (hs : ∀ p ∈ n₁, p ∈ n₂) (h : FrameIn w n₁ v f) : FrameIn w n₂ v f := by
  obtain ⟨a, d, T, k1, k2, k3, k4, k5, t1, t2, t4, t5, n, vs, e, h1, h2, h3, h4⟩ := h
  exact ⟨a, d, T, k1, k2, k3, k4, k5, t1, t2, t4, t5, n, vs, e, hs _ h1, hs _ h2, hs _ h3, h4.mono hs⟩
/-- the source's list -/
def SrcObj (o : Obj) : Prop := ∃ (a b : Int) (ta tb : Tok) (n : Nat), o = W.listOf #[.int a ta, .int b tb] n ∧ 0 ≤ a ∧ 0 ≤ b ∧ b < 2147483647
end Mine
end
section
open PySem PySem.W PyProof.Rows PySem.Spec PySem.Calls
set_option Elab.async false
namespace Mine
section
variable {prog : Program} {w : World} {A : Around} {E : Value → Shared → Prop} {s : Shared}
/-- the ends of x[:b], b within -/
theorem upto_ends {b n : Nat} (hb : b ≤ n) : Builtin.Slice.sliceAdjust none (some (b : Int)) 1 (n : Int) = ((0 : Int), (b : Int)) ∧ Builtin.Slice.slicePlaces 0 (b : Int) 1 = b := by
  constructor
  · unfold Builtin.Slice.sliceAdjust
    simp only [show ¬ ((1 : Int) < 0) by decide, show ¬ ((b : Int) < 0) by omega, if_false, Prod.mk.injEq, true_and]
    omega
  · unfold Builtin.Slice.slicePlaces
    simp only [show (1 : Int) > 0 by decide, if_true, Int.ediv_one]
    split <;> omega
theorem sl_upto {sl : Addr} {b n : Nat} {u : Tok} {Q : Int × Int × Nat → Shared → Prop} (hs : s.heap.IsSliceOf sl .none (.int b u) .none) (hb : b ≤ n) (h : Q (0, 1, b) s) :
    wpAny (model prog w) A (Builtin.Slice.sliceApplied (.ref sl) (pure (n : Int))) Q E s := by
  obtain ⟨o, ho, -, hd⟩ := id hs
  have ends := upto_ends hb
  have parts : wpAny (model prog w) A (Builtin.Slice.sliceFields (.ref sl)) (fun r s' => r = (.none, .int b u, .none) ∧ s' = s) E s := by
    unfold Builtin.Slice.sliceFields
    exact wpAny_bind (wpAny_field ho hd (x := .none) rfl (wpAny_bind (wpAny_field ho hd (x := .int b u) rfl (wpAny_bind (wpAny_field ho hd (x := .none) rfl (wpAny_pure ⟨rfl, rfl⟩))))))
  unfold Builtin.Slice.sliceApplied
  refine wpAny_bind (wpAny_mono parts (fun r s' ⟨e, e'⟩ => ?_) fun _ _ x => x)
  subst e e'
  refine wpAny_bind (slicePart_none ?_)
  show wpAny _ _ (if ((1 : Int) == 0) = true then _ else _) _ _ _
  rw [if_neg (by decide)]
  refine wpAny_bind (slicePart_none (wpAny_bind (slicePart_int (wpAny_bind (wpAny_pure ?_)))))
  show wpAny _ _ (match Builtin.Slice.sliceAdjust none (some (b : Int)) 1 (n : Int) with | (lo, hi) => pure (lo, (1 : Int), Builtin.Slice.slicePlaces lo hi 1)) _ _ _
  rw [ends.1]
  exact wpAny_pure (ends.2.symm ▸ h)
theorem pick_upto (xs : Array Value) (b : Nat) : ((List.range b).filterMap fun (k : Nat) => xs[((0 : Int) + (k : Int) * 1).toNat]?).toArray = (xs.toList.take b).toArray := by
  congr 1
  have at_ : ∀ k : Nat, ((0 : Int) + (k : Int) * 1).toNat = k := fun k => by omega
  simp only [at_]
  induction b with
  | zero => rfl
  | succ b ih =>
    rw [List.range_succ, List.filterMap_append, ih, List.take_add_one]
    congr 1
    cases h : xs[b]? <;> simp [List.filterMap, h]
theorem getItem_upto {t sl : Addr} {items : Array Value} {b : Nat} {u : Tok} {Q : Value → Shared → Prop} (ht : IsTup s.heap t items) (hs : s.heap.IsSliceOf sl .none (.int b u) .none) (hb : b < items.size)
    (h : Q (.ref s.heap.objs.size) { s with heap := s.heap.push { cls := .type "tuple", data := .seq (items.toList.take b).toArray } }) (hsz : items.size ≤ sizeLine) : wpAny (model prog w) A (getItem (.ref t) (.ref sl)) Q E s := by
  have htake : sizeOk (.seq (items.toList.take b).toArray) := by
    show (items.toList.take b).toArray.size ≤ sizeLine
    rw [List.size_toArray, List.length_take, Array.length_toList]
    omega
  have hTs : s.TypeIs (.ref sl) "slice" := hs.imp fun _ x => ⟨x.1, x.2.1⟩
  unfold getItem
  refine wpAny_holding (wpAny_bind (wpAny_sequenceKey ht.typeIs (by decide) ?_))
  refine wpAny_bind (wpAny_callSpecial?_slot ht.typeIs slot_tuple_getitem (wpAny_call_entry slot_tuple_getitem ht.typeIs entry_tuple_getitem ?_ (args_tuple_getitem _ _)))
  show wpAny _ _ (Builtin.Tuple.tupleItemsOf (.ref t) >>= _) _ _ s
  refine wpAny_bind (tupleItemsOf_ ht ?_)
  refine wpAny_bind (wpAny_typeOf hTs ?_)
  rw [if_pos (by decide)]
  refine wpAny_bind (sl_upto hs (Nat.le_of_lt hb) ?_)
  have hno : ¬ (((0 : Int) == 0 && (1 : Int) == 1 && b == items.size) = true) := by
    have : (b == items.size) = false := by rw [beq_eq_false_iff_ne]; omega
    rw [this]; simp
  show wpAny _ _ (if ((0 : Int) == 0 && (1 : Int) == 1 && b == items.size) = true then _ else _) _ _ s
  rw [if_neg hno, pick_upto items b]
  first
    | exact wpAny_bind (m := Builtin.Tuple.tupleExact _) (wpAny_newObj_type (wpAny_pure ⟨_, rfl, wpAny_pure h⟩) htake)
    | exact wpAny_bind (m := Builtin.Tuple.tupleExact _) (wpAny_newObj_type (wpAny_bind (wpAny_pure (wpAny_pure ⟨_, rfl, wpAny_pure h⟩))) htake)
    | exact wpAny_bind (wpAny_bind (m := Builtin.Tuple.tupleExact _) (wpAny_newObj_type (wpAny_pure (wpAny_pure ⟨_, rfl, wpAny_pure h⟩)) htake))
    | exact wpAny_bind (wpAny_bind (m := Builtin.Tuple.tupleExact _) (wpAny_newObj_type (wpAny_pure ⟨_, rfl, wpAny_pure h⟩) htake))
end
section
variable {prog : Program} {w : World} {A : Around} {E : Value → Shared → Prop} {s : Shared} {h₀ : Heap} {L : Addr} {m : Str → Option Value} {news : Led}
theorem tup_upto {value slice : Expr} {t : Addr} {vs : List Value} {n b : Nat} {u : Tok} {k : Int} {Q : Value → Shared → Prop} (F : Fr h₀ L s.heap m) (N : News h₀ L s.heap news) (hm : (t, tupOf vs n) ∈ news) (hk : k = (b : Int)) (hb : b < vs.length) (hz : vs.length ≤ 1000)
    (h : ∀ D h', Fr h₀ L h' m → News h₀ L h' ((D, tupOf (vs.take b) 0) :: news) → (∀ p ∈ news, p.1 < D) → Q (.ref D) { s with heap := h' })
    (hs : subscripted slice false (.ref t) (.ref s.heap.objs.size) = operate [.ref s.heap.objs.size, .ref t] (getItem (.ref t) (.ref s.heap.objs.size)))
    (hg : ∀ r, letTemporaryGo value (.ref t) r = pure ()) :
    wpAny (model prog w) A (subscriptTail value slice (.ref t) (.ref s.heap.objs.size)) Q E { s with heap := s.heap.push { cls := .type "slice", data := .fields #[.none, .int k u, .none] } } := by
  subst hk
  have ht : IsTup s.heap t vs.toArray := ⟨_, (N _ hm).1, rfl, _, rfl⟩
  have ht' : IsTup (s.heap.push { cls := .type "slice", data := .fields #[.none, .int b u, .none] }) t vs.toArray := ht.keeps fun _ _ e => Heap.get?_push_of_some _ e
  refine subscriptTail_ops (s := { s with heap := s.heap.push { cls := .type "slice", data := .fields #[.none, .int b u, .none] } }) ht'.typeIs slot_tuple_getitem.lookup
    (getItem_upto ht' (Heap.IsSliceOf.new ..) (by simpa using hb) ?_ (by rw [sizeLine_eq]; simp; omega)) hs hg
  have N1 := News.push (F.push { cls := .type "slice", data := .fields #[.none, .int b u, .none] }) (N.grown fun _ _ e => Heap.get?_push_of_some _ e) { cls := .type "tuple", data := .seq (vs.toArray.toList.take b).toArray }
  rw [Heap.size_push] at N1
  show Q (.ref (s.heap.push _).objs.size) _
  rw [Heap.size_push]
  exact h _ _ ((F.push _).push _) N1 fun p hp => Nat.lt_succ_of_lt (Heap.lt_size (N p hp).1)
theorem tup_from {value slice : Expr} {t : Addr} {vs : List Value} {n a : Nat} {u : Tok} {k : Int} {Q : Value → Shared → Prop} (F : Fr h₀ L s.heap m) (N : News h₀ L s.heap news) (hm : (t, tupOf vs n) ∈ news) (hk : k = (a : Int)) (h1 : 1 ≤ a) (ha : a ≤ vs.length) (hz : vs.length ≤ 1000)
    (h : ∀ D h', Fr h₀ L h' m → News h₀ L h' ((D, tupOf (vs.drop a) 0) :: news) → (∀ p ∈ news, p.1 < D) → Q (.ref D) { s with heap := h' })
    (hs : subscripted slice false (.ref t) (.ref s.heap.objs.size) = operate [.ref s.heap.objs.size, .ref t] (getItem (.ref t) (.ref s.heap.objs.size)))
    (hg : ∀ r, letTemporaryGo value (.ref t) r = pure ()) :
    wpAny (model prog w) A (subscriptTail value slice (.ref t) (.ref s.heap.objs.size)) Q E { s with heap := s.heap.push { cls := .type "slice", data := .fields #[.int k u, .none, .none] } } := by
  subst hk
  exact slice_tuple_from (items := vs.toArray) F N ⟨_, (N _ hm).1, rfl, _, rfl⟩ h1 (by simpa using ha) (fun h' F' N' => h _ h' F' N' fun p hp => Nat.lt_succ_of_lt (Heap.lt_size (N p hp).1)) hs hg (by rw [sizeLine_eq]; simp; omega)
end
end Mine
end
section
open PySem PySem.W PyProof.Rows PySem.Spec PySem.Calls PyProof.Rows.LCg
set_option Elab.async false
namespace Mine
/-- a tag, told -/
abbrev tagDat (t : TagD) : Dat := .tuple [.int t.kind, .int t.prio, .bool t.drop, .int t.vlan]
abbrev toldDat (f : FrameD) : Dat := .tuple [.int f.target, .int f.source, .tuple (f.tags.map tagDat), .int f.kind, .bytes f.payload]
section
variable {prog : Program} {w : World} {A : Around} {E : Value → Shared → Prop} {s : Shared} {h₀ : Heap} {L : Addr} {m : Str → Option Value} {env : Env}
/-- the source of a comprehension is a tuple of the ledger -/
def SrcT (prog : Program) (w : World) (A : Around) (h₀ : Heap) (L : Addr) (m : Str → Option Value) (env : Env) (elt : Expr) (x : Str) (scope : Scope) (cl : List (Str × Addr)) (Fin : Shared → List Value → List (Addr × Obj) → Prop) (xv : Value) (s₁ : Shared) : Prop :=
  ∃ (ax : Addr) (its : List Value) (k : Nat) (news : Led), xv = .ref ax ∧ A.handled = none ∧ Fr h₀ L s₁.heap m ∧ News h₀ L s₁.heap news ∧ (ax, tupOf its k) ∈ news ∧ its.length ≤ 1000 ∧
    ∀ s₂ : Shared, (∃ h, s₂ = { s₁ with heap := h }) → CompRest prog w A h₀ L m env elt x scope cl s₂ (fun nw => (ax, tupOf its k) ∈ nw) (fun i v => its[i]? = some v) (Fin s₂) its.length 0 [] news
theorem tup_st {ax I : Addr} {its : List Value} {k : Nat} : ∀ i (h h' : Heap) (o : Obj) (nw : Led), (h.IsTupleIter I ax i ∧ h.IsTuple ax its.toArray) → h.get? I = some o → h'.get? I = some o → (∀ b o, h₀.get? b = some o → h'.get? b = some o) → News h₀ L h' nw → (ax, tupOf its k) ∈ nw → (h'.IsTupleIter I ax i ∧ h'.IsTuple ax its.toArray) :=
  fun i h h' o nw st e e' _ N S => ⟨by obtain ⟨o', q, r⟩ := st.1; rw [e] at q; cases q; exact ⟨o, e', r⟩, ⟨_, (N _ S).1, rfl, _, rfl⟩⟩
/-- the two addresses that a walk over one object speaks of lie in the heap behind the iterator -/
theorem both_lie {h : Heap} {o : Obj} {a b : Addr} (ha : a < h.objs.size) (hb : b ∈ [h.objs.size, a]) : b < (h.push o).objs.size := by
  have q : b = h.objs.size ∨ b = a := by simpa using hb
  have z := Heap.size_push h o
  rw [z]
  exact q.elim (fun e => e ▸ Nat.lt_succ_self _) fun e => e ▸ Nat.lt_succ_of_lt ha
/-- what is off C, with D beside it -/
theorem off_with {C D : Addr} {o : Obj} {l : Led} (e : C ≠ D) (k : ∀ p ∈ l, p.1 ≠ C) : ∀ p ∈ (D, o) :: l, p.1 ≠ C
  | _, .head _ => e.symm
  | p, .tail _ hp => k p hp
theorem ListComp_T {elt iter : Expr} {x : Str} {px : Pos} {scope : Scope} {cl : List (Str × Addr)} {pos : Pos} {Q : Value → Shared → Prop} (_F₀ : Fr h₀ L s.heap m)
    (hclos : closureFor scope env = pure cl) (hcell : ∀ y ∈ scope.names, y.2 ≠ .cell) (hkind : scope.kind = .function)
    (hnames : ∀ y ∈ scope.names, y.2 = .local → scope.names.lookup y.1 = some .local) (hx : scope.names.lookup x = some .local)
    (h : wpAny (model prog w) A (eval iter env) (SrcT prog w A h₀ L m env elt x scope cl (fun s₂ => FinE h₀ L m s₂ Q)) E s)
    (hs : ∀ x, foldedSetIterable iter env x = pure x := by intro _; rfl) :
    wpAny (model prog w) A (eval (.ListComp elt [⟨.Name x px, iter, [], 0⟩] scope pos) env) Q E s := by
  rw [eval_ListComp]
  refine wpAny_comprehension_free (use := none) rfl hs hclos hkind hnames (wpAny_mono h (fun xv s₁ h₁ => ?_) fun _ _ e => e)
  obtain ⟨ax, its, k, news, rfl, hh, F, N, hm, hsz, R⟩ := h₁
  have hl : s₁.heap.IsTuple ax its.toArray := ⟨_, (N _ hm).1, rfl, _, rfl⟩
  have hlt : ax < s₁.heap.objs.size := Heap.lt_size (N _ hm).1
  refine wpAny_pyIter_tuple hl ?_
  have up : ∀ b o, s₁.heap.get? b = some o → (s₁.heap.push { cls := .type "tuple_iterator", data := .fields #[.ref ax, .int 0 0] }).get? b = some o := fun b o e => Heap.get?_push_of_some _ e
  have W := Walks.tuple (prog := prog) (w := w) hh s₁.heap.objs.size ax (Nat.ne_of_lt hlt) its.toArray
  have e1 : its.toArray.size = its.length := by simp
  rw [e1] at W
  have e2 : (fun (i : Nat) v => its.toArray[i]? = some v) = (fun (i : Nat) (v : Value) => its[i]? = some v) := by funext i v; simp
  rw [e2] at W
  refine block_U W (by rw [sizeLine_eq]; omega) (fun i h st => by obtain ⟨o, e, _⟩ := st.1; exact ⟨o, e⟩) tup_st hcell hkind hx ⟨⟨_, Heap.get?_push_size _ rfl, rfl, rfl⟩, ⟨_, up _ _ (N _ hm).1, rfl, _, rfl⟩⟩ (fun b hb => ?_)
    (F.keeps up) (N.grown up) (Nat.ne_of_lt F.ns.lt) (next_is_new F) (fun p hp => Nat.ne_of_lt (Heap.lt_size (N p hp).1)) hm (R _ ⟨_, rfl⟩) ?_
  · exact both_lie hlt hb
  · exact fun D C h tk m' ys news' F' N' o1 hn hC₀ hD₀ hCL hDL hCD offC fin => ⟨m', hn, fun h'' hs'' => fin D h'' tk (F'.change hs'' hCL hC₀) (fun p hp => ⟨hs''.extBut _ _ (off_with hCD offC p hp) (N' p hp).1, (N' p hp).2⟩) o1⟩
/-- a comprehension by what holds of it after each turn -/
theorem comp_ind {elt : Expr} {x : Str} {scope : Scope} {cl : List (Str × Addr)} {S : Led → Prop} {Fin : List Value → Led → Prop} {P : Nat → Value → Prop} {n : Nat} {news₀ : Led} (J : Nat → List Value → Led → Prop) (h0 : J 0 [] news₀)
    (step : ∀ i v ys news I oI C oC D m₂ h tk (E' : Value → Shared → Prop), i < n → P i v → J i ys news → NsObj oC m₂ → m₂ x = some v → Fr h₀ L h m → News h₀ L h ((I, oI) :: (C, oC) :: (D, lst ys) :: news) → Off3 I C D news → ((@Ne Nat I C) ∧ (@Ne Nat I D) ∧ (@Ne Nat C D)) →
      wpAny (model prog w) A (eval elt (compEnvC scope cl C env)) (CompEnd h₀ L m { s with heap := h, toks := tk } I oI C oC D (lst ys) S (fun y news' => J (i + 1) (ys ++ [y]) news')) E' { s with heap := h, toks := tk })
    (fin : ∀ ys news, J n ys news → Fin ys news) : CompRest prog w A h₀ L m env elt x scope cl s S P Fin n 0 [] news₀ := by
  have all : ∀ k i ys news, i + k = n → J i ys news → CompRest prog w A h₀ L m env elt x scope cl s S P Fin k i ys news := by
    intro k
    induction k with
    | zero => intro i ys news e hj; exact fin ys news (by rw [← e]; exact hj)
    | succ k ih =>
      intro i ys news e hj v I oI C oC D m₂ h tk E' hv h1 h2 h3 h4 h5 h6
      refine wpAny_mono (step i v ys news I oI C oC D m₂ h tk E' (by omega) hv hj h1 h2 h3 h4 h5 h6) (fun y s₂ q => ?_) fun _ _ x => x
      obtain ⟨h', tk', news', e', F', N', o', hS, hr⟩ := q
      exact ⟨h', tk', news', e', F', N', o', hS, ih (i + 1) (ys ++ [y]) news' (by omega) hr⟩
  exact all n 0 [] news₀ (Nat.zero_add _) h0
end
end Mine
end
section
open PySem PySem.W PyProof.Rows PySem.Spec PySem.Calls PyProof.Rows.LCg
set_option Elab.async false
namespace Mine
theorem TagsIn.get {w : Wd} {news : Led} {vs : List Value} {ts : List TagD} (h : TagsIn w news vs ts) {i : Nat} {v : Value} (hv : vs[i]? = some v) : ∃ t, ts[i]? = some t ∧ TagIn w news v t := by
  induction h generalizing i with
  | nil => simp at hv
  | cons h _ ih =>
    cases i with
    | zero => simp at hv; subst hv; exact ⟨_, rfl, h⟩
    | succ i => exact ih (by simpa using hv)
def told_J (news : Led) (f : FrameD) (i : Nat) (ys : List Value) (nx : Led) : Prop := ∃ tl, nx = tl ++ news ∧ DatAll tl ys ((f.tags.take i).map tagDat) ∧ (∀ p ∈ tl, ∀ q ∈ news, @LT.lt Nat _ q.1 p.1)
theorem told_J0 (news : Led) (f : FrameD) : told_J news f 0 [] news := ⟨[], rfl, .nil, fun _ h => nomatch h⟩
theorem told_J1 {news tl : Led} {f : FrameD} {i : Nat} {ys : List Value} {t : TagD} {x : Addr} {t1 t2 t4 : Tok} (hys : DatAll tl ys ((f.tags.take i).map tagDat)) (hlt : ∀ p ∈ tl, ∀ q ∈ news, @LT.lt Nat _ q.1 p.1) (ht : f.tags[i]? = some t) (hx : ∀ q ∈ news, @LT.lt Nat _ q.1 x) :
    told_J news f (i + 1) (ys ++ [.ref x]) ((x, tupOf [.int t.kind t1, .int t.prio t2, .bool t.drop, .int t.vlan t4] 0) :: (tl ++ news)) := by
  refine ⟨(x, tupOf [.int t.kind t1, .int t.prio t2, .bool t.drop, .int t.vlan t4] 0) :: tl, rfl, ?_, ?_⟩
  · rw [List.take_add_one, ht, List.map_append]
    exact (hys.mono fun p hp => .tail _ hp).append (.cons (.tuple (.head _) (.cons (.int _ _) (.cons (.int _ _) (.cons (.bool _) (.cons (.int _ _) .nil))))) .nil)
  · intro p hp q hq
    rcases List.mem_cons.mp hp with rfl | hp
    · exact hx q hq
    · exact hlt p hp q hq
theorem told_end {h₀ h' : Heap} {L I C D x T : Addr} {m : Str → Option Value} {s₁ : Shared} {oI oC oD : Obj} {tl news : Led} {f : FrameD} {i n tk : Nat} {vs ys : List Value} {t : TagD} {t1 t2 t4 : Tok} (F : Fr h₀ L h' m) (N : News h₀ L h' ((x, tupOf [.int t.kind t1, .int t.prio t2, .bool t.drop, .int t.vlan t4] 0) :: (I, oI) :: (C, oC) :: (D, oD) :: (tl ++ news)))
    (l1 : @LT.lt Nat _ I x ∧ @LT.lt Nat _ C x ∧ @LT.lt Nat _ D x ∧ AllLt x (tl ++ news)) (hoff : Off3 I C D (tl ++ news)) (h3 : (T, tupOf vs n) ∈ news) (hys : DatAll tl ys ((f.tags.take i).map tagDat)) (hlt : ∀ p ∈ tl, ∀ q ∈ news, @LT.lt Nat _ q.1 p.1) (ht : f.tags[i]? = some t) :
    CompEnd h₀ L m s₁ I oI C oC D oD (fun nw => (T, tupOf vs n) ∈ nw) (fun y nw => told_J news f (i + 1) (ys ++ [y]) nw) (.ref x) { s₁ with heap := h', toks := tk } := by
  obtain ⟨l2, l3, l4, l5⟩ := l1
  refine CompEnd.intro F N ((x, tupOf [.int t.kind t1, .int t.prio t2, .bool t.drop, .int t.vlan t4] 0) :: (tl ++ news)) ?_ ?_ (.tail _ (List.mem_append_right _ h3)) (told_J1 hys hlt ht fun q hq => tb_ltOf l5 q (List.mem_append_right _ hq))
  · intro p hp
    rcases List.mem_cons.mp hp with rfl | hp
    · exact .tail _ (.head _)
    · rcases List.mem_cons.mp hp with rfl | hp
      · exact .tail _ (.tail _ (.head _))
      · rcases List.mem_cons.mp hp with rfl | hp
        · exact .tail _ (.tail _ (.tail _ (.head _)))
        · rcases List.mem_cons.mp hp with rfl | hp
          · exact .head _
          · exact .tail _ (.tail _ (.tail _ (.tail _ hp)))
  · refine Off3.of fun p hp => ?_
    rcases List.mem_cons.mp hp with rfl | hp
    · exact ⟨Nat.ne_of_gt l2, Nat.ne_of_gt l3, Nat.ne_of_gt l4⟩
    · exact hoff.mem p hp
end Mine
end
section
open PySem PySem.W PyProof.Rows PySem.Spec PySem.Calls PySem.SeqAt
set_option Elab.async false
namespace Mine
mutual
noncomputable def dDepth : Dat → Nat
  | .tuple ds => dDepths ds + 1
  | .list ds => dDepths ds + 1
  | _ => 0
noncomputable def dDepths : List Dat → Nat
  | [] => 0
  | d :: ds => max (dDepth d) (dDepths ds)
end
theorem eqAt_bytes {A : Around} {s : Shared} (b : Array UInt8) (t u : Tok) : EqAt A s (.bytes b t) (.bytes b u) true := fun prog w E Q hq => eqBool_bytes (by simpa using hq)
section
variable {news : Led}
mutual
theorem eq_dat : ∀ {v : Value} {d : Dat} {v' : Value} {A : Around} {s : Shared}, DatIn news v d → (∀ p ∈ news, s.heap.get? p.1 = some p.2) → DatIn news v' d → A.units + dDepth d < cLine → EqAt A s v v' true
  | _, _, _, _, _, .none, _, h', _ => by cases h'; exact EqAt.same _
  | _, _, _, _, _, .bool b, _, h', _ => by cases h'; exact EqAt.same _
  | _, _, _, _, _, .int i t, _, h', _ => by
    cases h' with
    | int _ u => have := @EqAt.int_int ‹_› ‹_› i t i u; simpa using this
  | _, _, _, _, _, .str x t, _, h', _ => by
    cases h' with
    | str _ u => have := @EqAt.str_str ‹_› ‹_› x t x u; simpa using this
  | _, _, _, _, _, .bytes b t, _, h', _ => by
    cases h' with
    | bytes _ u => exact eqAt_bytes b t u
  | _, _, _, A, s, .tuple (a := a) (vs := vs) (n := n) (ds := ds) hm r, N, h', hu => by
    cases h' with
    | @tuple a' vs' n' _ hm' r' =>
      by_cases haa : a = a'
      · subst haa; exact EqAt.same _
      · have hl : s.heap.IsTuple a vs.toArray := ⟨_, N _ hm, rfl, _, rfl⟩
        have hl' : s.heap.IsTuple a' vs'.toArray := ⟨_, N _ hm', rfl, _, rfl⟩
        simp only [dDepth] at hu
        have e1 := r.length
        have e2 := r'.length
        have q := RcAt.tuples (A := A) (s := s) (e := fun _ => true) hl hl' (by omega) fun j h1 h2 => by
          have := eq_dats r N r' (A := A.in1) (s := s) (by rw [units_in1]; omega) j (by simpa using h1) (by simpa using h2)
          simpa using this
        have e : ((List.range (min vs.toArray.size vs'.toArray.size)).all (fun _ => true) && vs.toArray.size == vs'.toArray.size) = true := by
          simp; omega
        rw [e] at q
        exact EqAt.of_refs haa q
  | _, _, _, A, s, .list (a := a) (vs := vs) (n := n) (ds := ds) hm r, N, h', hu => by
    cases h' with
    | @list a' vs' n' _ hm' r' =>
      by_cases haa : a = a'
      · subst haa; exact EqAt.same _
      · have hl : s.heap.IsList a vs.toArray := ⟨_, N _ hm, rfl, _, rfl⟩
        have hl' : s.heap.IsList a' vs'.toArray := ⟨_, N _ hm', rfl, _, rfl⟩
        simp only [dDepth] at hu
        have e1 := r.length
        have e2 := r'.length
        have q := RcAt.lists (A := A) (s := s) (e := fun _ => true) hl hl' (by simp; omega) (by omega) fun j h1 h2 => by
          have := eq_dats r N r' (A := A.in1) (s := s) (by rw [units_in1]; omega) j (by simpa using h1) (by simpa using h2)
          simpa using this
        have e : ((List.range vs.toArray.size).all (fun _ => true)) = true := by simp
        rw [e] at q
        exact EqAt.of_refs haa q
theorem eq_dats : ∀ {vs : List Value} {ds : List Dat} {vs' : List Value} {A : Around} {s : Shared}, DatAll news vs ds → (∀ p ∈ news, s.heap.get? p.1 = some p.2) → DatAll news vs' ds → A.units + dDepths ds < cLine → ∀ j (h1 : j < vs.length) (h2 : j < vs'.length), EqAt A s vs[j] vs'[j] true
  | _, _, _, _, _, .nil, _, _, _, j, h1, _ => absurd h1 (Nat.not_lt_zero _)
  | _, _, _, _, _, .cons hd r, N, h', hu, j, h1, h2 => by
    cases h' with
    | cons hd' r' =>
      simp only [dDepths] at hu
      cases j with
      | zero => exact eq_dat hd N hd' (by omega)
      | succ j => exact eq_dats r N r' (by omega) j (Nat.lt_of_succ_lt_succ h1) (Nat.lt_of_succ_lt_succ h2)
end
end
theorem dDepths_tags : ∀ ts : List TagD, dDepths (ts.map tagDat) ≤ 1
  | [] => Nat.zero_le _
  | t :: ts => by
    have := dDepths_tags ts
    simp only [List.map_cons, dDepths, tagDat, dDepth]
    omega
theorem dDepth_told (f : FrameD) : dDepth (toldDat f) ≤ 3 := by
  have := dDepths_tags f.tags
  simp only [toldDat, dDepth, dDepths]
  omega
section
variable {prog : Program} {w : World} {A : Around} {E : Value → Shared → Prop} {s : Shared} {h₀ : Heap} {L a b : Addr} {news : Led} {ds : List Dat} {Q : Value → Shared → Prop}
theorem eq_told (N : News h₀ L s.heap news) (d1 : DatIn news (.ref a) (.tuple ds)) (d2 : DatIn news (.ref b) (.tuple ds)) (hu : A.units + dDepth (.tuple ds) < cLine) :
    RcAt A s (.ref a) (.ref b) true ∧ RcNeAt A s (.ref a) (.ref b) false := by
  have N' : ∀ p ∈ news, s.heap.get? p.1 = some p.2 := fun p hp => (N p hp).1
  cases d1 with
  | @tuple _ vs n _ hm r =>
    cases d2 with
    | @tuple _ vs' n' _ hm' r' =>
      have hl : s.heap.IsTuple a vs.toArray := ⟨_, N' _ hm, rfl, _, rfl⟩
      have hl' : s.heap.IsTuple b vs'.toArray := ⟨_, N' _ hm', rfl, _, rfl⟩
      simp only [dDepth] at hu
      have e1 := r.length
      have e2 := r'.length
      have he : ∀ j (h1 : j < vs.toArray.size) (h2 : j < vs'.toArray.size), EqAt A.in1 s vs.toArray[j] vs'.toArray[j] ((fun _ : Nat => true) j) := fun j h1 h2 => by
        have := eq_dats r N' r' (A := A.in1) (s := s) (by rw [units_in1]; omega) j (by simpa using h1) (by simpa using h2)
        simpa using this
      have q := RcAt.tuples (A := A) (s := s) (e := fun _ => true) hl hl' (by omega) he
      have q' := RcNeAt.tuples (A := A) (s := s) (e := fun _ => true) hl hl' (by omega) he
      have e : ((List.range (min vs.toArray.size vs'.toArray.size)).all (fun _ => true) && vs.toArray.size == vs'.toArray.size) = true := by
        simp; omega
      rw [e] at q q'
      exact ⟨q, q'⟩
theorem cmp_told_eq (N : News h₀ L s.heap news) (d1 : DatIn news (.ref a) (.tuple ds)) (d2 : DatIn news (.ref b) (.tuple ds)) (hu : A.units + dDepth (.tuple ds) < cLine) (h : Q (.bool true) s) : wpAny (model prog w) A (compareOp .Eq (.ref a) (.ref b)) Q E s :=
  (eq_told N d1 d2 hu).1 prog w E Q h
theorem cmp_told_ne (N : News h₀ L s.heap news) (d1 : DatIn news (.ref a) (.tuple ds)) (d2 : DatIn news (.ref b) (.tuple ds)) (hu : A.units + dDepth (.tuple ds) < cLine) (h : Q (.bool false) s) : wpAny (model prog w) A (compareOp .NotEq (.ref a) (.ref b)) Q E s :=
  (eq_told N d1 d2 hu).2 prog w E Q h
/-- a tuple beside the empty tuple -/
theorem cmp_nil_eq {vs : List Value} {n m : Nat} (N : News h₀ L s.heap news) (h1 : (a, tupOf vs n) ∈ news) (h2 : (b, tupOf [] m) ∈ news) (hu : A.units < cLine) (h : Q (.bool vs.isEmpty) s) : wpAny (model prog w) A (compareOp .Eq (.ref a) (.ref b)) Q E s := by
  have hl : s.heap.IsTuple a vs.toArray := ⟨_, (N _ h1).1, rfl, _, rfl⟩
  have hl' : s.heap.IsTuple b (([] : List Value).toArray) := ⟨_, (N _ h2).1, rfl, _, rfl⟩
  have q := RcAt.tuples (A := A) (s := s) (e := fun _ => true) hl hl' hu fun j h1 h2 => absurd h2 (Nat.not_lt_zero _)
  have e : ((List.range (min vs.toArray.size ([] : List Value).toArray.size)).all (fun _ => true) && vs.toArray.size == ([] : List Value).toArray.size) = vs.isEmpty := by
    cases vs <;> simp
  rw [e] at q
  exact q prog w E Q h
theorem cmp_nil_ne {vs : List Value} {n m : Nat} (N : News h₀ L s.heap news) (h1 : (a, tupOf vs n) ∈ news) (h2 : (b, tupOf [] m) ∈ news) (hu : A.units < cLine) (h : Q (.bool (!vs.isEmpty)) s) : wpAny (model prog w) A (compareOp .NotEq (.ref a) (.ref b)) Q E s := by
  have hl : s.heap.IsTuple a vs.toArray := ⟨_, (N _ h1).1, rfl, _, rfl⟩
  have hl' : s.heap.IsTuple b (([] : List Value).toArray) := ⟨_, (N _ h2).1, rfl, _, rfl⟩
  have q := RcNeAt.tuples (A := A) (s := s) (e := fun _ => true) hl hl' hu fun j h1 h2 => absurd h2 (Nat.not_lt_zero _)
  have e : ((List.range (min vs.toArray.size ([] : List Value).toArray.size)).all (fun _ => true) && vs.toArray.size == ([] : List Value).toArray.size) = vs.isEmpty := by
    cases vs <;> simp
  rw [e] at q
  exact q prog w E Q h
theorem item_at {value slice : Expr} {t : Addr} {x : Value} {vs : List Value} {n j : Nat} {k : Int} {u : Tok} (N : News h₀ L s.heap news) (hm : (t, tupOf vs n) ∈ news) (hk : seqIndex? k vs.length = some j) (hx : vs[j]? = some x) (h0 : -(2 ^ 63) ≤ k) (h1 : k < 2 ^ 63) (h : Q x s)
    (hs : subscripted slice false (.ref t) (.int k u) = operate [.ref t, .int k u] (getItem (.ref t) (.int k u)) := by with_unfolding_all rfl) : wpAny (model prog w) A (subscriptTail value slice (.ref t) (.int k u)) Q E s :=
  item_tupleT (l := vs) (j := j) ⟨_, (N _ hm).1, rfl, _, rfl⟩ h0 h1 hk hx h hs
theorem len_tup {t : Addr} {vs : List Value} {n : Nat} (N : News h₀ L s.heap news) (hm : (t, tupOf vs n) ∈ news) (hz : vs.length ≤ 1000) (h : Q (.int (vs.length : Nat) (s.toks + 1)) { s with toks := s.toks + 1 + 1 }) :
    wpAny (model prog w) A (call (.builtin "len") [.ref t]) Q E s :=
  kun_lenT (items := vs.toArray) ⟨_, (N _ hm).1, rfl, _, rfl⟩ (by simp) (by omega) h
/-- two tuples added -/
theorem add_tup {m : Str → Option Value} {u v : Value} {us vs : List Value} {n k : Nat} (F : Fr h₀ L s.heap m) (N : News h₀ L s.heap news) (h1 : (a, tupOf (u :: us) n) ∈ news) (h2 : (b, tupOf (v :: vs) k) ∈ news) (hz : us.length + vs.length ≤ 1000)
    (h : ∀ D h', Fr h₀ L h' m → News h₀ L h' ((D, tupOf (u :: (us ++ v :: vs)) 0) :: news) → (∀ p ∈ news, p.1 < D) → Q (.ref D) { s with heap := h' }) : wpAny (model prog w) A (binaryOp .Add (.ref a) (.ref b)) Q E s :=
  kde_addT (its := (u :: us).toArray) (its2 := (v :: vs).toArray) F N ⟨_, (N _ h1).1, rfl, _, rfl⟩ ⟨_, (N _ h2).1, rfl, _, rfl⟩ (by simp) (by simp) (by simp; omega) rfl h
theorem add_tup1 {m : Str → Option Value} {u : Value} {us : List Value} {n k : Nat} (F : Fr h₀ L s.heap m) (N : News h₀ L s.heap news) (h1 : (a, tupOf (u :: us) n) ∈ news) (h2 : (b, tupOf [] k) ∈ news) (hz : us.length ≤ 1000) (h : Q (.ref a) s) : wpAny (model prog w) A (binaryOp .Add (.ref a) (.ref b)) Q E s :=
  kde_addT1 (its := (u :: us).toArray) (its2 := ([] : List Value).toArray) F N ⟨_, (N _ h1).1, rfl, _, rfl⟩ ⟨_, (N _ h2).1, rfl, _, rfl⟩ (by simp) (by simp) (by simp; omega) h
end
end Mine
end
section
open PySem PySem.W PyProof.Rows PySem.Spec PySem.Calls PySem.SeqAt PyProof.V
set_option Elab.async false
namespace Mine
/-- the first value under a key -/
def look {β : Type} (c : List (Int × β)) (k : Int) : Option β := (c.find? fun p => p.1 = k).map (·.2)
/-- the same keys, the values in a relation -/
inductive KvRel {β : Type} (R : Value → β → Prop) : List (Int × Value) → List (Int × β) → Prop
  | nil : KvRel R [] []
  | cons {k : Int} {v : Value} {b : β} {kvs : List (Int × Value)} {c : List (Int × β)} : R v b → KvRel R kvs c → KvRel R ((k, v) :: kvs) ((k, b) :: c)
theorem KvRel.mono {β : Type} {R R' : Value → β → Prop} (hR : ∀ v b, R v b → R' v b) {kvs : List (Int × Value)} {c : List (Int × β)} (h : KvRel R kvs c) : KvRel R' kvs c := by
  induction h with
  | nil => exact .nil
  | cons a _ ih => exact .cons (hR _ _ a) ih
theorem KvRel.length {β : Type} {R : Value → β → Prop} {kvs : List (Int × Value)} {c : List (Int × β)} (h : KvRel R kvs c) : kvs.length = c.length := by
  induction h with
  | nil => rfl
  | cons _ _ ih => rw [List.length_cons, List.length_cons, ih]
theorem KvRel.keys {β : Type} {R : Value → β → Prop} {kvs : List (Int × Value)} {c : List (Int × β)} (h : KvRel R kvs c) : kvs.map (·.1) = c.map (·.1) := by
  induction h with
  | nil => rfl
  | cons _ _ ih => rw [List.map_cons, List.map_cons, ih]
theorem KvRel.some {β : Type} {R : Value → β → Prop} {kvs : List (Int × Value)} {c : List (Int × β)} (h : KvRel R kvs c) {k : Int} {b : β} (hl : look c k = some b) : ∃ v, valueAt kvs k = some v ∧ R v b := by
  induction h with
  | nil => simp [look] at hl
  | @cons k' v b' kvs c a _ ih =>
    by_cases e : k' = k
    · simp [look, e] at hl
      subst hl
      exact ⟨v, by simp [valueAt, e], a⟩
    · have hl' : look c k = Option.some b := by simpa [look, e] using hl
      obtain ⟨v', h1, h2⟩ := ih hl'
      exact ⟨v', by simpa [valueAt, e] using h1, h2⟩
theorem KvRel.none {β : Type} {R : Value → β → Prop} {kvs : List (Int × Value)} {c : List (Int × β)} (h : KvRel R kvs c) {k : Int} (hl : look c k = none) : valueAt kvs k = none := by
  induction h with
  | nil => rfl
  | @cons k' v b' kvs c a _ ih =>
    by_cases e : k' = k
    · simp [look, e] at hl
    · have hl' : look c k = Option.none := by simpa [look, e] using hl
      simpa [valueAt, e] using ih hl'
/-- what a store does to the data -/
def putK {β : Type} (c : List (Int × β)) (k : Int) (b : β) : List (Int × β) := if c.any (fun p => p.1 = k) then c.map (fun p => if p.1 = k then (p.1, b) else p) else c ++ [(k, b)]
theorem KvRel.any {β : Type} {R : Value → β → Prop} {kvs : List (Int × Value)} {c : List (Int × β)} (h : KvRel R kvs c) (k : Int) : kvs.any (fun p => p.1 = k) = c.any (fun p => p.1 = k) := by
  induction h with
  | nil => rfl
  | cons _ _ ih => simp only [List.any_cons, ih]
theorem KvRel.append {β : Type} {R : Value → β → Prop} {kvs : List (Int × Value)} {c : List (Int × β)} (h : KvRel R kvs c) {k : Int} {v : Value} {b : β} (hv : R v b) : KvRel R (kvs ++ [(k, v)]) (c ++ [(k, b)]) := by
  induction h with
  | nil => exact .cons hv .nil
  | cons a _ ih => exact .cons a ih
theorem KvRel.over {β : Type} {R : Value → β → Prop} {kvs : List (Int × Value)} {c : List (Int × β)} (h : KvRel R kvs c) {k : Int} {v : Value} {b : β} (hv : R v b) : KvRel R (kvs.map (fun p => if p.1 = k then (p.1, v) else p)) (c.map (fun p => if p.1 = k then (p.1, b) else p)) := by
  induction h with
  | nil => exact .nil
  | @cons k' v' b' kvs c a _ ih =>
    by_cases e : k' = k
    · simp only [List.map_cons, e, if_true]; exact .cons hv (by simpa using ih)
    · simp only [List.map_cons, e, if_false]; exact .cons a (by simpa using ih)
theorem KvRel.put {β : Type} {R : Value → β → Prop} {kvs : List (Int × Value)} {c : List (Int × β)} (h : KvRel R kvs c) {k : Int} {v : Value} {b : β} (hv : R v b) : KvRel R (stored kvs k v) (putK c k b) := by
  unfold stored putK
  rw [h.any k]
  split
  · exact h.over hv
  · exact h.append hv
theorem find_if {β : Type} (c : List (Int × β)) (k : Int) (b : β) (j : Int) : look (c.map (fun p => if p.1 = k then (p.1, b) else p)) j = if j = k then (look c j).map (fun _ => b) else look c j := by
  induction c with
  | nil => simp [look]
  | cons p c ih =>
    obtain ⟨a, x⟩ := p
    by_cases e : a = j
    · by_cases e2 : a = k
      · have : j = k := e ▸ e2
        simp [look, e, this]
      · have : ¬ j = k := fun q => e2 (e.trans q)
        simp [look, e, this]
    · have h1 : look ((a, x) :: c) j = look c j := by simp [look, e]
      rw [h1, ← ih]
      by_cases e2 : a = k
      · have : ¬ k = j := fun q => e (e2.trans q)
        simp [look, e2, this]
      · simp [look, e2, e]
theorem look_put {β : Type} (c : List (Int × β)) (k : Int) (b : β) (j : Int) : look (putK c k b) j = if j = k then some b else look c j := by
  unfold putK
  split
  · rename_i h
    rw [find_if]
    by_cases e : j = k
    · subst e
      simp only [if_true]
      have : (look c j).isSome := by
        simp only [look, Option.isSome_map, List.find?_isSome]
        obtain ⟨p, hp, hq⟩ := List.any_eq_true.mp h
        exact ⟨p, hp, by simpa using hq⟩
      obtain ⟨x, hx⟩ := Option.isSome_iff_exists.mp this
      rw [hx]; rfl
    · simp [e]
  · rename_i h
    have hn : ∀ p ∈ c, p.1 ≠ k := fun p hp e => h (List.any_eq_true.mpr ⟨p, hp, by simp [e]⟩)
    simp only [look, List.find?_append]
    by_cases e : j = k
    · subst e
      have : c.find? (fun p => decide (p.1 = j)) = none := List.find?_eq_none.mpr fun p hp => by simpa using hn p hp
      simp [this]
    · have hk : ¬ k = j := fun q => e q.symm
      simp [e, hk]
abbrev IK (w : Wd) := PySem.intKind PySem.Challenge.rw_pb0547_01.row.prog w.toWorld
def IsInt (v : Value) (x : Int) : Prop := ∃ t : Tok, v = .int x t
/-- a dict of ints under ints, of the ledger -/
def IntDict (w : Wd) (news : Led) (v : Value) (c : List (Int × Int)) : Prop :=
  ∃ (d : Addr) (o : Obj) (kvs : List (Int × Value)), v = .ref d ∧ (d, o) ∈ news ∧ o.IsDictOf (IK w) kvs ∧ (d == sysModules) = false ∧ KvRel IsInt kvs c
theorem IntDict.mono {w : Wd} {n₁ n₂ : Led} (hs : ∀ p ∈ n₁, p ∈ n₂) {v : Value} {c : List (Int × Int)} (h : IntDict w n₁ v c) : IntDict w n₂ v c := by
  obtain ⟨d, o, kvs, h1, h2, h3⟩ := h
  exact ⟨d, o, kvs, h1, hs _ h2, h3⟩
abbrev PortD := Int × List (Int × Int)
abbrev portDict (w : Wd) (k1 k2 t1 : Tok) (o : Int) (B : Addr) : Obj :=
  dictOf [⟨PyData.keyHash w.params (Str.ofString "outer"), .str (Str.ofString "outer") k1, .int o t1⟩, ⟨PyData.keyHash w.params (Str.ofString "by_inner"), .str (Str.ofString "by_inner") k2, .ref B⟩] 2
def PortIn (w : Wd) (news : Led) (v : Value) (p : PortD) : Prop :=
  ∃ (a d B : Addr) (k1 k2 t1 : Tok), v = .ref a ∧ (a, instObj 179 d) ∈ news ∧ (d, portDict w k1 k2 t1 p.1 B) ∈ news ∧ IntDict w news (.ref B) p.2
theorem PortIn.mono {w : Wd} {n₁ n₂ : Led} (hs : ∀ p ∈ n₁, p ∈ n₂) {v : Value} {c : PortD} (h : PortIn w n₁ v c) : PortIn w n₂ v c := by
  obtain ⟨a, d, B, k1, k2, t1, h1, h2, h3, h4⟩ := h
  exact ⟨a, d, B, k1, k2, t1, h1, hs _ h2, hs _ h3, h4.mono hs⟩
def OwnRow (w : Wd) (news : Led) (v : Value) (p : PortD) : Prop :=
  ∃ (a : Addr) (n : Nat) (t : Tok) (D : Value), v = .ref a ∧ (a, tupOf [.int p.1 t, D] n) ∈ news ∧ IntDict w news D p.2
theorem OwnRow.mono {w : Wd} {n₁ n₂ : Led} (hs : ∀ p ∈ n₁, p ∈ n₂) {v : Value} {c : PortD} (h : OwnRow w n₁ v c) : OwnRow w n₂ v c := by
  obtain ⟨a, n, t, D, h1, h2, h3⟩ := h
  exact ⟨a, n, t, D, h1, hs _ h2, h3.mono hs⟩
/-- a dict of any values under ints, of the ledger -/
def DictIn {β : Type} (w : Wd) (R : Led → Value → β → Prop) (news : Led) (v : Value) (c : List (Int × β)) : Prop :=
  ∃ (d : Addr) (o : Obj) (kvs : List (Int × Value)), v = .ref d ∧ (d, o) ∈ news ∧ o.IsDictOf (IK w) kvs ∧ (d == sysModules) = false ∧ KvRel (R news) kvs c
theorem DictIn.mono {β : Type} {w : Wd} {R : Led → Value → β → Prop} {n₁ n₂ : Led} (hR : ∀ v b, R n₁ v b → R n₂ v b) (hs : ∀ p ∈ n₁, p ∈ n₂) {v : Value} {c : List (Int × β)} (h : DictIn w R n₁ v c) : DictIn w R n₂ v c := by
  obtain ⟨d, o, kvs, h1, h2, h3, h4, h5⟩ := h
  exact ⟨d, o, kvs, h1, hs _ h2, h3, h4, h5.mono hR⟩
abbrev tunDict (w : Wd) (k1 k2 k3 : Tok) (P I S : Addr) : Obj :=
  dictOf [⟨PyData.keyHash w.params (Str.ofString "ports"), .str (Str.ofString "ports") k1, .ref P⟩, ⟨PyData.keyHash w.params (Str.ofString "inside"), .str (Str.ofString "inside") k2, .ref I⟩,
    ⟨PyData.keyHash w.params (Str.ofString "strict"), .str (Str.ofString "strict") k3, .ref S⟩] 3
/-- the tunnels' object, its dicts' addresses told -/
def TunAt (w : Wd) (news : Led) (t : Addr) (P I S : Addr) : Prop := ∃ (d : Addr) (k1 k2 k3 : Tok), (t, instObj 268 d) ∈ news ∧ (d, tunDict w k1 k2 k3 P I S) ∈ news
theorem TunAt.mono {w : Wd} {n₁ n₂ : Led} (hs : ∀ p ∈ n₁, p ∈ n₂) {t P I S : Addr} (h : TunAt w n₁ t P I S) : TunAt w n₂ t P I S := by
  obtain ⟨d, k1, k2, k3, h1, h2⟩ := h
  exact ⟨d, k1, k2, k3, hs _ h1, hs _ h2⟩
def IsBool (v : Value) (x : Bool) : Prop := v = .bool x
theorem entry_ci : entryFor table "proto.contains_iter" = some Builtin.«proto.contains_iter» := by first | exact entryFor_of_fast (by kernel_rfl) | exact entryFor_of_tree (by kernel_rfl)
theorem plain_ci : plainId "proto.contains_iter" = true := by decide +kernel
theorem no_contains_values : typeLookup (.type "dict_values") (Str.ofString "__contains__") = pure none := by rw [typeLookup_type, builtinLookup_eq_fast]; kernel_rfl
section
variable {prog : Program} {w : World} {A : Around} {E : Value → Shared → Prop}
theorem ci_loop {I : Addr} {fp : List Addr} {n : Nat} {P : Nat → Value → Prop} {St : Nat → Heap → Prop} (W : Walks prog w A.in1 I fp [I] n P St) (ns : List Int) (hn : ns.length = n) (hP : ∀ i v, i < n → P i v → ∃ x t, ns[i]? = some x ∧ v = .int x t) (x : Int) (t : Tok) {R : Result → Shared → Prop} :
    ∀ k i (s : Shared), i + k = n → St i s.heap → (∀ h' tk, (∀ b o, b ≠ I → s.heap.get? b = some o → h'.get? b = some o) → R (.ok (.ret (.bool ((ns.drop i).contains x)))) { s with heap := h', toks := tk }) →
      codeAny (model prog w) A (.builtin "proto.contains_iter" ⟨[.ref I, .int x t], []⟩) R s := by
  intro k
  induction k with
  | zero =>
    intro i s e st hR
    refine codeAny_builtin entry_ci ?_
    rw [Around.under_plainId plain_ci _]
    show wpAny _ A.in1 (pyNext (.ref I) >>= _) _ _ s
    have e' : i = n := by omega
    subst e'
    refine wpAny_bind (W.done s _ _ st fun h' tk hk => ?_)
    refine wpAny_bind (wpAny_rule ?_)
    have hd : ns.drop i = [] := by simp; omega
    have := hR h' tk fun b o hb e => hk b o (by simpa using hb) e
    rw [hd] at this
    exact wpAny_pure this
  | succ k ih =>
    intro i s e st hR
    have hi : i < n := by omega
    refine codeAny_builtin entry_ci ?_
    rw [Around.under_plainId plain_ci _]
    show wpAny _ A.in1 (pyNext (.ref I) >>= _) _ _ s
    refine wpAny_bind (W.item i s _ _ hi st fun v h' tk hv st' hk => ?_)
    obtain ⟨y, ty, hy, rfl⟩ := hP i v hi hv
    have hd : ns.drop i = y :: ns.drop (i + 1) := by
      have h1 : i < ns.length := by omega
      rw [List.drop_eq_getElem_cons h1]
      congr 1
      rw [List.getElem?_eq_getElem h1] at hy
      exact Option.some.inj hy
    refine wpAny_bind (EqAt.int_int y ty x t prog w _ _ ?_)
    by_cases hyx : y = x
    · subst hyx
      have hb : (y == y) = true := by simp
      rw [hb]
      refine bm_if_true rfl ?_
      refine wpAny_bind (wpAny_rule ?_)
      have := hR h' tk fun b o hb e => hk b o (by simpa using hb) e
      rw [hd] at this
      have e2 : (y :: ns.drop (i + 1)).contains y = true := by simp
      rw [e2] at this
      exact wpAny_pure this
    · have hb : (y == x) = false := by simpa using hyx
      rw [hb]
      refine bm_if_false rfl ?_
      refine wpAny_pure ⟨plainId_quiet plain_ci _, ih (i + 1) { s with heap := h', toks := tk } (by omega) st' fun h'' tk' hk' => ?_⟩
      have := hR h'' tk' fun b o hb e => hk' b o hb (hk b o (by simpa using hb) e)
      rw [hd] at this
      have e2 : (y :: ns.drop (i + 1)).contains x = (ns.drop (i + 1)).contains x := by
        have hxy : ¬ x = y := fun q => hyx q.symm
        rw [List.contains_cons]
        simp [hxy]
      rw [e2] at this
      exact this
abbrev viewOf (d : Addr) : Obj := { cls := .type "dict_values", data := .fields #[.ref d] }
theorem contains_values {s : Shared} {v d : Addr} {kvs : List (Int × Value)} {ep : Nat} {c : List (Int × Int)} {x : Int} {t : Tok} {Q : Bool → Shared → Prop} (hh : A.handled = none) (hv : s.heap.IsValuesView v d) (hm : s.heap.DictAt (PySem.intKind prog w) d kvs ep) (hc : KvRel IsInt kvs c)
    (h : ∀ h' tk, (∀ b o, s.heap.get? b = some o → h'.get? b = some o) → Q ((c.map (·.2)).contains x) { s with heap := h', toks := tk }) : wpAny (model prog w) A (contains (.ref v) (.int x t)) Q E s := by
  have hT := hv.typeIs
  unfold contains
  refine wpAny_holding ?_
  show wpAny _ _ (specialOf (.ref v) (Str.ofString "__contains__") >>= _) _ _ s
  refine wpAny_bind (wpAny_specialOf hT no_contains_values ?_)
  refine bm_if_false (by decide) ?_
  unfold callSpecialUnlessNone?
  refine wpAny_bind (wpAny_bind (wpAny_specialOf hT no_contains_values (wpAny_pure ?_)))
  dsimp only
  refine wpAny_bind (wpAny_rule ?_)
  refine wpAny_bind (wpAny_tryCatch (wpAny_pyIter_values hv hm ?_))
  have hlt : d < s.heap.objs.size := hm.lt_size
  have W := Walks.dictValues (prog := prog) (w := w) (A := A.in1) (knd := PySem.intKind prog w) hh s.heap.objs.size d (Nat.ne_of_lt hlt) kvs ep
  have hlen : (c.map (·.2)).length = kvs.length := by rw [List.length_map, hc.length]
  have up : ∀ o b ob, s.heap.get? b = some ob → (s.heap.push o).get? b = some ob := fun o b ob e => Heap.get?_push_of_some _ e
  refine wpAny_bind (wpAny_runValue (ci_loop W (c.map (·.2)) hlen ?_ x t kvs.length 0 _ (Nat.zero_add _) ⟨⟨_, Heap.get?_push_size _ rfl, rfl, rfl⟩, hm.push _⟩ fun h' tk hk => ?_))
  · rintro i v hi ⟨k, hk⟩
    have hI : ∀ {kvs : List (Int × Value)} {c : List (Int × Int)} (i : Nat) (k : Int) (v : Value), KvRel IsInt kvs c → kvs[i]? = some (k, v) → ∃ x t, (c.map (·.2))[i]? = some x ∧ v = .int x t := by
      intro kvs c i k v h
      induction h generalizing i with
      | nil => intro e; simp at e
      | @cons k' v' b' _ _ a _ ih =>
        intro e
        cases i with
        | zero =>
          simp only [List.getElem?_cons_zero, Option.some.injEq, Prod.mk.injEq] at e
          obtain ⟨rfl, rfl⟩ := e
          obtain ⟨t, rfl⟩ := a
          exact ⟨b', t, rfl, rfl⟩
        | succ i => exact ih i (by simpa using e)
    exact hI i k v hc hk
  · dsimp only
    refine wpAny_pure ?_
    have := h h' tk fun b o e => hk b o (Nat.ne_of_lt (Heap.lt_size e)) (up _ _ _ e)
    exact this
end
section
variable {w : Wd} {A : Around} {E : Value → Shared → Prop} {s : Shared} {h₀ : Heap} {L : Addr} {m : Str → Option Value} {news : Led}
theorem in_values {v d : Addr} {o : Obj} {kvs : List (Int × Value)} {c : List (Int × Int)} {x : Int} {t : Tok} {Q : Value → Shared → Prop} (hh : A.handled = none) (F : Fr h₀ L s.heap m) (N : News h₀ L s.heap news) (hv : (v, viewOf d) ∈ news) (hp : (d, o) ∈ news) (hd : o.IsDictOf (IK w) kvs) (hc : KvRel IsInt kvs c)
    (h : ∀ h' tk, Fr h₀ L h' m → News h₀ L h' news → Q (.bool ((c.map (·.2)).contains x)) { s with heap := h', toks := tk }) : wpAny (model PySem.Challenge.rw_pb0547_01.row.prog w.toWorld) A (compareOp .In (.int x t) (.ref v)) Q E s := by
  obtain ⟨ep, ha⟩ := KdkAt.of hd
  refine wpAny_bind (m := contains (.ref v) (.int x t)) (contains_values hh ⟨_, (N _ hv).1, rfl, rfl⟩ (ha.dictAt (N _ hp).1) hc fun h' tk hk => ?_)
  exact wpAny_pure (h h' tk (F.keeps hk) (N.grown hk))
end
end Mine
end
section
open PySem PySem.W PyProof.Rows PySem.Spec PySem.Calls PyProof.Rows.LCg
set_option Elab.async false
namespace Mine
theorem exc_meta : typeOf (.type "Exception") = pure (.type "type") := by rfl
section
variable {w : Wd} {A : Around} {E : Value → Shared → Prop} {s : Shared} {h₀ : Heap} {L e t : Addr} {m : Str → Option Value} {rest : Led} {prog : Program}
/-- Exception.__init__(e, v) upon the ledger -/
theorem init_led {v : Value} {Q : Value → Shared → Prop} (X : w.K.In h₀) (F : Fr h₀ L s.heap m) (N : News h₀ L s.heap ((e, excObj 63 t none) :: rest)) (hr : ∀ p ∈ rest, p.1 ≠ e)
    (h : ∀ h' t', Fr h₀ L h' m → News h₀ L h' ((e, excObj 63 t' none) :: rest) → Q .none { s with heap := h' }) :
    wpAny (model prog w.toWorld) A (call (.builtin "Exception.__init__") [.ref e, v]) Q E s := by
  obtain ⟨hh, gg, dd, tk, os⟩ := s
  obtain ⟨nm, qn, Ns, bs, A₁, sn, sub, ab, col, d1, k0, k1, k2, k3, k5, hC⟩ := ownExc_cls (X.keeps F.keep) (ownExc63 w)
  have he := N _ (.head _)
  have hel : e < hh.objs.size := Heap.lt_size he.1
  have hLl : L < hh.objs.size := by obtain ⟨o, es, ep, x, _⟩ := F.ns; exact Heap.lt_size x
  have hob : ∀ b, h₀.get? b ≠ none → b ≠ e := fun b hb q => hb (by rw [q]; exact he.2.2)
  refine oe_init PySem.F.excBase_Exception excMro_has.1 hC he.1 fun h' e' => ?_
  have hs : ∀ b o, b ≠ e → hh.get? b = some o → h'.get? b = some o := fun b o hb ho => by
    rw [e', Heap.get?_update_ne _ _ _ _ hb]; exact Heap.get?_push_of_some _ ho
  have hse : h'.get? e = some (excObj 63 hh.objs.size none) := by
    rw [e', Heap.get?_update_self _ (Heap.get?_push_of_some _ he.1) rfl]; rfl
  refine h h' hh.objs.size ⟨?_, fun b o ho => hs b o (hob b (by rw [ho]; simp)) (F.keep b o ho), F.above⟩ fun p hp => ?_
  · exact F.ns.at' fun o ho => hs L o he.2.1.symm ho
  · rcases List.mem_cons.mp hp with rfl | hp
    · exact ⟨hse, he.2⟩
    · have z := N p (.tail _ hp)
      exact ⟨hs _ _ (hr p hp) z.1, z.2⟩
/-- e.message = v upon the ledger -/
theorem message_led {v : Value} {Q : Unit → Shared → Prop} (X : w.K.In h₀) (F : Fr h₀ L s.heap m) (N : News h₀ L s.heap ((e, excObj 63 t none) :: rest)) (hr : ∀ p ∈ rest, p.1 ≠ e)
    (h : ∀ h' tk' d', Fr h₀ L h' m → News h₀ L h' ((e, excObj 63 t (some d')) :: rest) → Q () { s with heap := h', toks := tk' }) :
    wpAny (model prog w.toWorld) A (setAttr (.ref e) (Str.ofString "message") v) Q E s := by
  obtain ⟨hh, gg, dd, tk, os⟩ := s
  have X' := X.keeps F.keep
  obtain ⟨nm, qn, Ns, bs, A₁, sn, sub, ab, col, d1, k0, k1, k2, k3, k5, hC⟩ := ownExc_cls X' (ownExc63 w)
  have he := N _ (.head _)
  have hob : ∀ b, h₀.get? b ≠ none → b ≠ e := fun b hb q => hb (by rw [q]; exact he.2.2)
  have I : InstAt hh e (excObj 63 t none) 63 none := ⟨he.1, rfl, rfl, trivial⟩
  have SF := PySem.F.store_Exception
  have sub : Looks (model prog w.toWorld) hh (isInstance (.ref e) (.type "object")) true := I.type.andThen (looks_subIn X' (sub63 w))
  refine set_plain X' I (sa63 w) (codeAny_call_builtin SF.slot.plain SF.entry (@check_slot (model prog w.toWorld) _ _ _ "object.__setattr__" "object" "__setattr__" (.ref e) _ [] _ SF.kind SF.split sub (SF.args (.ref e) _ v) ?_))
  refine oe_store SF hC (looks_findIn X' (msg63 w)) he.1 fun h' tk' hs ⟨d', o', hx, hn, hd'⟩ => ?_
  refine h h' tk' d' ⟨?_, fun b o ho => hs b o (hob b (by rw [ho]; simp)) (F.keep b o ho), F.above⟩ fun p hp => ?_
  · exact F.ns.at' fun o ho => hs L o he.2.1.symm ho
  · rcases List.mem_cons.mp hp with rfl | hp
    · exact ⟨hx, he.2⟩
    · have z := N p (.tail _ hp)
      exact ⟨hs _ _ (hr p hp) z.1, z.2⟩
end
end Mine
end
section
open PySem PySem.W PyProof.Rows PySem.Spec PySem.Calls PyProof.Rows.LCg
set_option Elab.async false
namespace Mine
abbrev Cfg := List (Int × PortD)
def innerVlan : List TagD → Int
  | [] => 0
  | t :: _ => t.vlan
/-- the outer VLAN that a port gives a frame -/
def outerOf (cfg : Cfg) (port : Int) (ts : List TagD) : Int := match look cfg port with
  | none => 0
  | some p => (look p.2 (innerVlan ts)).getD p.1
/-- what put_on makes of a frame -/
def prioOf : List TagD → Int
  | [] => 0
  | t :: _ => t.prio
def dropOf : List TagD → Bool
  | [] => false
  | t :: _ => t.drop
def putOn (cfg : Cfg) (port : Int) (f : FrameD) : Option FrameD := match look cfg port with
  | none => some f
  | some _ => if outerOf cfg port f.tags = 0 ∨ 4 ≤ f.tags.length then none else some { f with tags := ⟨34984, prioOf f.tags, dropOf f.tags, outerOf cfg port f.tags⟩ :: f.tags }
/-- a frame or None -/
def MaybeFrame (w : Wd) (news : Led) (r : Value) : Option FrameD → Prop
  | none => r = .none
  | some f => FrameIn w news r f
/-- what taken_off makes of a frame -/
def takenOff (cfg : Cfg) (port : Int) (f : FrameD) : Option FrameD := match look cfg port with
  | none => some f
  | some _ => match f.tags with
    | [] => none
    | t :: ts => if t.kind = 34984 then (if outerOf cfg port ts = t.vlan then some { f with tags := ts } else none) else none
/-- what turned makes of a frame -/
def turnedF (st : List (Int × Bool)) (port : Int) (c : List (Int × Int)) (f : FrameD) : Option FrameD := match f.tags with
  | [] => some f
  | t :: ts => match look c t.vlan with
    | some v => some { f with tags := { t with vlan := v } :: ts }
    | none => if (look st port).getD false = true ∨ (c.map (·.2)).contains t.vlan = true then none else some f
abbrev BoolDict (w : Wd) (news : Led) (v : Value) (c : List (Int × Bool)) : Prop := DictIn w (fun _ => IsBool) news v c
/-- the rows by which a port's VLANs are translated -/
def rowsOf (ins : List (Int × List (Int × Int))) (port : Int) : List (Int × Int) := (look ins port).getD []
/-- what turned makes of a frame, the strictness told -/
def turnedB (b : Bool) (c : List (Int × Int)) (f : FrameD) : Option FrameD := match f.tags with
  | [] => some f
  | t :: ts => match look c t.vlan with
    | some v => some { f with tags := { t with vlan := v } :: ts }
    | none => if b = true ∨ (c.map (·.2)).contains t.vlan = true then none else some f
/-- none, or data -/
def MaybeDat (news : Led) (r : Value) : Option Dat → Prop
  | none => r = .none
  | some D => DatIn news r D
/-- no value under two keys -/
def Inj (c : List (Int × Int)) : Prop := ∀ k k' v, look c k = some v → look c k' = some v → k = k'
end Mine
end
section
open PySem PySem.W PyProof.Rows PySem.Spec PySem.Calls PyProof.Rows.LCg
set_option Elab.async false
namespace Mine
abbrev Loc := List (Str × Value)
/-- what stands fixed in a frame -/
structure Ctx where
  w : Wd
  mean : ExcName → Option Value
  mg : Str → Option Value
  mb : Str → Option Value
  dp : Nat
  u : Nat
  gd : Option (List Code)
  L : Addr
  cl : List (Str × Addr)
  outer : List Env
  A₀ : Around
  base : Heap
  h₀ : Heap
/-- the function whose frame it is -/
structure Fn where
  cn : Str
  cs : Scope
  ca : Addr
  ccd : Value
abbrev Ctx.A (c : Ctx) (f : Fn) : Around := ktrTop c.dp c.u c.gd f.cn f.cs c.L f.ca f.ccd c.cl c.outer
abbrev Ctx.env (c : Ctx) (f : Fn) : Env := envX f.cn f.cs c.L f.ca f.ccd c.cl
abbrev Ctx.M (c : Ctx) : Model := model PySem.Challenge.rw_pb0547_01.row.prog c.w.toWorld
def lk (l : Loc) : Str → Option Value := fun y => l.lookup y
structure Ctx.Ok (c : Ctx) (d v : Nat) : Prop where
  B : Below c.A₀ c.base c.outer c.h₀
  X : c.w.K.In c.h₀
  T : Top c.w.V (looseW c.w.V [Str.ofString "Frame"]) c.mean c.mg c.mb c.h₀
  hd : c.dp + d < recursionLimit
  hu : c.u + v < cLine
/-- the posts for exceptions: an exception passes through the frame -/
def EOk (c : Ctx) (f : Fn) : Type := { E : Value → Shared → Prop // PassesOwn c.M (c.A f) (c.env f) E }
/-- the walk at the ledger's level: state, heap, tokens and both posts are hidden -/
def LW {α : Type} (c : Ctx) (f : Fn) (l : Loc) (n : Led) (e : Sem α) (R : α → Loc → Led → Prop) : Prop :=
  ∀ (s : Shared) (Q : α → Shared → Prop) (E : EOk c f), Fr c.h₀ c.L s.heap (lk l) → News c.h₀ c.L s.heap n →
    (∀ v h' tk l' n', Fr c.h₀ c.L h' (lk l') → News c.h₀ c.L h' n' → R v l' n' → Q v { s with heap := h', toks := tk }) → wpAny c.M (c.A f) e Q E.1 s
/-- a statement's post: on to the next statement, or out -/
def Fl (next : Loc → Led → Prop) (R : Flow → Loc → Led → Prop) (fl : Flow) (l : Loc) (n : Led) : Prop := match fl with | .next => next l n | fl => R fl l n
/-- a body's post -/
def Out (R : Value → Led → Prop) (fl : Flow) (_ : Loc) (n : Led) : Prop := R (match fl with | .ret v => v | _ => .none) n
section
variable {c : Ctx} {f : Fn} {l : Loc} {n : Led} {x : Str} {v : Value} {pos pos' : Pos} {k : Nat}
theorem lk_cons (x : Str) (v : Value) (l : Loc) : lk ((x, v) :: l) = fun y => if y = x then some v else lk l y := by
  funext y
  simp only [lk, List.lookup]
  by_cases h : y = x
  · subst h; simp
  · have e : (y == x) = false := by simp [h]
    simp [h, e]
theorem LW.mono {α : Type} {e : Sem α} {R R' : α → Loc → Led → Prop} (h : LW c f l n e R) (k : ∀ v l' n', R v l' n' → R' v l' n') : LW c f l n e R' :=
  fun s Q E F N q => h s Q E F N fun v h' tk l' n' F' N' r => q v h' tk l' n' F' N' (k v l' n' r)
theorem LW.name {R : Value → Loc → Led → Prop} (hv : l.lookup x = some v) (h : R v l n)
    (hk : f.cs.kind = .function := by rfl) (hx : (c.env f).kindOf x = some .local := by rfl) (hd : (x == ("__debug__" : Str)) = false := by decide) :
    LW c f l n (eval (.Name x pos) (c.env f)) R := fun s Q E F N q => nameX_L F hv (q v s.heap s.toks l n F N h) hk hx hd
theorem LW.int {R : Value → Loc → Led → Prop} {i : Int} (h : ∀ t, R (.int i t) l n) : LW c f l n (eval (.Constant (.int i) k pos) (c.env f)) R :=
  fun s Q E F N q => wpAny_Constant_int (q _ s.heap _ l n F N (h _))
theorem LW.bool {R : Value → Loc → Led → Prop} {b : Bool} (h : R (.bool b) l n) : LW c f l n (eval (.Constant (.bool b) k pos) (c.env f)) R :=
  fun s Q E F N q => wpAny_Constant_bool (q _ s.heap s.toks l n F N h)
theorem LW.none {R : Value → Loc → Led → Prop} (h : R .none l n) : LW c f l n (eval (.Constant .none k pos) (c.env f)) R :=
  fun s Q E F N q => wpAny_Constant_none (q _ s.heap s.toks l n F N h)
theorem LW.nil {R : Flow → Loc → Led → Prop} (h : R .next l n) : LW c f l n (execs [] (c.env f)) R := fun s Q E F N q => wpAny_execs_nil (q _ s.heap s.toks l n F N h)
theorem LW.cons {R : Flow → Loc → Led → Prop} {st : Stmt} {rest : List Stmt} (h : LW c f l n (exec st (c.env f)) (Fl (fun l' n' => LW c f l' n' (execs rest (c.env f)) R) R)) :
    LW c f l n (execs (st :: rest) (c.env f)) R := fun s Q E F N q => wpAny_execs_cons (h s _ E F N fun fl h' tk l' n' F' N' r => by
  cases fl with
  | next => exact r { s with heap := h', toks := tk } Q E F' N' fun v h'' tk' l'' n'' F'' N'' r' => q v h'' tk' l'' n'' F'' N'' r'
  | ret v => exact q _ h' tk l' n' F' N' r
  | brk => exact q _ h' tk l' n' F' N' r
  | cont => exact q _ h' tk l' n' F' N' r)
theorem LW.ret {R : Flow → Loc → Led → Prop} {e : PySem.Expr} (h : LW c f l n (eval e (c.env f)) (fun v l' n' => R (.ret v) l' n')) : LW c f l n (exec (.Return (some e) pos) (c.env f)) R :=
  fun s Q E F N q => wpAny_Return_some (h s _ E F N fun v h' tk l' n' F' N' r => q (.ret v) h' tk l' n' F' N' r)
theorem LW.assign {R : Flow → Loc → Led → Prop} {e : PySem.Expr} (h : LW c f l n (eval e (c.env f)) (fun v l' n' => R .next ((x, v) :: l') n'))
    (hk : f.cs.kind = .function := by rfl) (hx : (c.env f).kindOf x = some .local := by rfl) (hs : swapsWith e (some (.Name x pos')) pos.line (c.env f) = pure false := by rfl) :
    LW c f l n (exec (.Assign [.Name x pos'] e pos) (c.env f)) R :=
  fun s Q E F N q => wpAny_Assign_Name (h s _ E F N fun v h' tk l' n' F' N' r => storeX_L F' N' (fun h'' F'' N'' => q .next h'' _ ((x, v) :: l') n' (lk_cons x v l' ▸ F'') N'' r) hk hx) hs
theorem LW.if_ {R : Flow → Loc → Led → Prop} {e : PySem.Expr} {b1 b2 : List Stmt} (h : LW c f l n (isTrue e (c.env f) (eval e (c.env f))) (fun b l' n' => if b then LW c f l' n' (execs b1 (c.env f)) R else LW c f l' n' (execs b2 (c.env f)) R)) :
    LW c f l n (exec (.If e b1 b2 pos) (c.env f)) R := fun s Q E F N q => wpAny_If (h s _ E F N fun b h' tk l' n' F' N' r => by
  cases b with
  | true => exact r { s with heap := h', toks := tk } Q E F' N' q
  | false => exact r { s with heap := h', toks := tk } Q E F' N' q)
theorem LW.compare {R : Value → Loc → Led → Prop} {a b : PySem.Expr} {op : CmpOp} (h : LW c f l n (eval a (c.env f)) (fun x l' n' => LW c f l' n' (eval b (c.env f)) (fun y l'' n'' => LW c f l'' n'' (compareOp op x y) R)))
    (hm : behindInMarks op b = false := by with_unfolding_all rfl) : LW c f l n (eval (.Compare a [op] [b] pos) (c.env f)) R :=
  fun s Q E F N q => wpAny_Compare1 (h s _ E F N fun x h' tk l' n' F' N' r => r _ _ E F' N' fun y h2 tk2 l2 n2 F2 N2 r2 => r2 _ _ E F2 N2 fun v h3 tk3 l3 n3 F3 N3 r3 => q v h3 tk3 l3 n3 F3 N3 r3) hm
theorem LW.isTrue_compare {R : Bool → Loc → Led → Prop} {a b : PySem.Expr} {op : CmpOp} {whole : Sem Value} (h : LW c f l n (eval a (c.env f)) (fun x l' n' => LW c f l' n' (eval b (c.env f)) (fun y l'' n'' => LW c f l'' n'' (compareOp op x y) (fun z l3 n3 => LW c f l3 n3 (truthy z) R))))
    (hm : behindInMarks op b = false := by with_unfolding_all rfl) : LW c f l n (isTrue (.Compare a [op] [b] pos) (c.env f) whole) R :=
  fun s Q E F N q => wpAny_isTrue_Compare1 (h s _ E F N fun x h' tk l' n' F' N' r => r _ _ E F' N' fun y h2 tk2 l2 n2 F2 N2 r2 => r2 _ _ E F2 N2 fun v h3 tk3 l3 n3 F3 N3 r3 => r3 _ _ E F3 N3 fun b h4 tk4 l4 n4 F4 N4 r4 => q b h4 tk4 l4 n4 F4 N4 r4) hm
theorem LW.truthy_bool {R : Bool → Loc → Led → Prop} {b : Bool} (h : R b l n) : LW c f l n (truthy (.bool b)) R := fun s Q E F N q => wpAny_truthy_bool (q b s.heap s.toks l n F N h)
theorem LW.call {R : Value → Loc → Led → Prop} {g : Addr} {args : List Value} {dep un d u : Nat} {P : Value → Led → Prop} (O : c.Ok d u) (D : Does c.w g args n dep un P) (h : ∀ r n', P r n' → R r l n')
    (hk : f.cs.kind = .function := by rfl) (hd : Nat.ble dep d = true := by rfl) (hu : Nat.ble un u = true := by rfl) : LW c f l n (call (.ref g) args) R :=
  fun s Q E F N q => Does.use D O.B F O.X N O.T hk (Nat.lt_of_le_of_lt (Nat.add_le_add_left (Nat.le_of_ble_eq_true hd) _) O.hd) (Nat.lt_of_le_of_lt (Nat.add_le_add_left (Nat.le_of_ble_eq_true hu) _) O.hu)
    fun r n' h' tk' F' N' p => q r h' tk' l n' F' N' (h r n' p)
end
/-- a contract from the body's walk -/
theorem Does.enter {w : Wd} {g : Addr} {args : List Value} {news : Led} {dep un : Nat} {R : Value → Led → Prop} {name qual : Str} {params : Arguments} {body : List Stmt} {scope : Scope} {dV kV doc pm cdv ct oc : Value} {an od : Option Addr} {osl : Array (Option Value)} {binds : List (Str × Value)}
    (ho : w.K.lookup g = some ⟨oc, od, .func (fnOf name qual params body scope dV kV doc pm an cdv ct), osl⟩) (hcd : codeIn w.K cdv qual = true)
    (hbind : bindArgs (fnOf name qual params body scope dV kV doc pm an cdv ct) ⟨args, []⟩ = pure binds) (hloc : ∀ y ∈ binds, scope.names.lookup y.1 = some .local)
    (hco : scope.isCoroutine = false) (hgen : scope.isGenerator = false) (hk : scope.kind = .function) (hcell : ∀ x ∈ scope.names, x.2 ≠ .cell)
    (H : ∀ c : Ctx, c.w = w → c.cl = [] → c.Ok dep un → LW c ⟨qual, scope, g, cdv⟩ binds.reverse news (execs body (c.env ⟨qual, scope, g, cdv⟩)) (Out R)) :
    Does w g args news (dep + 1) (un + 3) R := by
  intro mean mg mb dp u gd cn cs ca ccd cl outer A₀ base h₀ L m s Q E B F X N T hk' hd hu hret
  refine wpAny_call (code_def B F X N T rfl rfl hk' ho hcd (by show dp < _; omega) (BindsTo.of_eq hbind) hloc (fun g' L' h₁ FG F' N' B' X' T' => ?_) hco hgen hk hcell)
  exact H ⟨w, mean, mg, mb, dp + 1, u + 3, gd, L', [], _, _, base, g'⟩ rfl rfl ⟨B', X', T', by show dp + 1 + dep < _; omega, by show u + 3 + un < _; omega⟩ _ _ ⟨_, by passes_own⟩ F' N'
    fun fl h' tk l' n' F'' N'' r => leaveK_ F'' N'' fun F3 N3 => hret _ n' h' tk F3 N3 r
/-- a contract from the body's walk, the function's record by the head's fact -/
theorem Does.enterF {w : Wd} {g : Addr} {args : List Value} {news : Led} {dep un : Nat} {R : Value → Led → Prop} {st : Stmt} {q : Str} {binds : List (Str × Value)} (hf : FnAt w.K g st q)
    (hbind : ∀ doc pm an cdv ct, bindArgs (fnOf (fnN st) q (fnP st) (fnB st) (fnS st) .none .none doc pm an cdv ct) ⟨args, []⟩ = pure binds) (hloc : ∀ y ∈ binds, (fnS st).names.lookup y.1 = some .local)
    (hco : (fnS st).isCoroutine = false) (hgen : (fnS st).isGenerator = false) (hk : (fnS st).kind = .function) (hcell : ∀ x ∈ (fnS st).names, x.2 ≠ .cell)
    (H : ∀ (c : Ctx) (cdv : Value), c.w = w → c.cl = [] → c.Ok dep un → LW c ⟨q, fnS st, g, cdv⟩ binds.reverse news (execs (fnB st) (c.env ⟨q, fnS st, g, cdv⟩)) (Out R)) : Does w g args news (dep + 1) (un + 3) R := by
  obtain ⟨doc, pm, cdv, ct, oc, an, od, osl, ho, hcd⟩ := hf
  exact Does.enter ho hcd (hbind doc pm an cdv ct) hloc hco hgen hk hcell fun c => H c cdv

end Mine
end
section
open PySem PySem.W PyProof.Rows PySem.Spec PySem.Calls PyProof.Rows.LCg
set_option Elab.async false
namespace Mine
section
variable {c : Ctx} {f : Fn} {l : Loc} {n : Led} {x : Str} {v : Value} {pos pos' : Pos} {k : Nat}
/-- a tree followed by another -/
theorem LW.then {α β : Type} {e : Sem α} {e' : α → Sem β} {t : Sem β} {R : β → Loc → Led → Prop} (h : LW c f l n e (fun a l' n' => LW c f l' n' (e' a) R))
    (r : ∀ (s : Shared) (Q : β → Shared → Prop) (E : Value → Shared → Prop), wpAny c.M (c.A f) e (fun a s' => wpAny c.M (c.A f) (e' a) Q E s') E s → wpAny c.M (c.A f) t Q E s) : LW c f l n t R :=
  fun s Q E F N q => r s Q E.1 (h s _ E F N fun _ h' tk _ _ F' N' p => p { s with heap := h', toks := tk } Q E F' N' q)
theorem LW.same {α : Type} {t : Sem α} {a : α} {R : α → Loc → Led → Prop} (h : R a l n)
    (r : ∀ (s : Shared) (Q : α → Shared → Prop) (E : Value → Shared → Prop), (∀ tk, Q a { s with toks := tk }) → wpAny c.M (c.A f) t Q E s) : LW c f l n t R :=
  fun s Q E F N q => r s Q E.1 fun tk => q a s.heap tk l n F N h
theorem LW.binop {R : Value → Loc → Led → Prop} {a b : PySem.Expr} {op : Operator} (h : LW c f l n (eval a (c.env f)) (fun x l' n' => LW c f l' n' (eval b (c.env f)) (fun y l'' n'' => LW c f l'' n'' (binaryOp op x y) R))) :
    LW c f l n (eval (.BinOp a op b pos) (c.env f)) R :=
  fun s Q E F N q => wpAny_BinOp (h s _ E F N fun _ h' tk _ _ F' N' p => p { s with heap := h', toks := tk } _ E F' N' fun _ h2 tk2 _ _ F2 N2 p2 => p2 { s with heap := h2, toks := tk2 } Q E F2 N2 q)
theorem LW.sub {R : Value → Loc → Led → Prop} {a b : PySem.Expr} (h : LW c f l n (eval a (c.env f)) (fun x l' n' => LW c f l' n' (eval b (c.env f)) (fun y l'' n'' => LW c f l'' n'' (subscriptTail a b x y) R))) :
    LW c f l n (eval (.Subscript a b pos) (c.env f)) R :=
  fun s Q E F N q => Subscript_ (h s _ E F N fun _ h' tk _ _ F' N' p => p { s with heap := h', toks := tk } _ E F' N' fun _ h2 tk2 _ _ F2 N2 p2 => p2 { s with heap := h2, toks := tk2 } Q E F2 N2 q)
theorem LW.tuple {R : Value → Loc → Led → Prop} {es : List PySem.Expr} (h : LW c f l n (spliced (backTo pos (starEach es (c.env f)))) (fun vs l' n' => LW c f l' n' (newTuple vs) R)) :
    LW c f l n (eval (.Tuple es k pos) (c.env f)) R := LW.then h fun _ _ _ h => Tuple_ h
theorem LW.list {R : Value → Loc → Led → Prop} {es : List PySem.Expr} (h : LW c f l n (spliced (backTo pos (starEach es (c.env f)))) (fun vs l' n' => LW c f l' n' (newList vs) R)) :
    LW c f l n (eval (.List es pos) (c.env f)) R := LW.then h fun _ _ _ h => List_ h
theorem LW.args_nil {R : List Value → Loc → Led → Prop} (h : R [] l n) : LW c f l n (spliced (backTo pos (starEach [] (c.env f)))) R :=
  LW.same h fun s _ _ q => PyProof.Rows.args_nil (q s.toks)
theorem LW.args_cons {R : List Value → Loc → Led → Prop} {e : PySem.Expr} {es : List PySem.Expr} (h : LW c f l n (eval e (c.env f)) (fun v l' n' => LW c f l' n' (spliced (backTo pos (starEach es (c.env f)))) (fun vs l'' n'' => R (v :: vs) l'' n'')))
    (he : starEach (e :: es) (c.env f) = (false, eval e (c.env f)) :: starEach es (c.env f) := by rfl) : LW c f l n (spliced (backTo pos (starEach (e :: es) (c.env f)))) R :=
  fun s Q E F N q => PyProof.Rows.args_cons (h s _ E F N fun v h' tk _ _ F' N' p => p { s with heap := h', toks := tk } _ E F' N' fun vs h2 tk2 l2 n2 F2 N2 p2 => q (v :: vs) h2 tk2 l2 n2 F2 N2 p2) he
theorem LW.newList {R : Value → Loc → Led → Prop} {vs : List Value} (h : ∀ a : Addr, (∀ p ∈ n, @LT.lt Nat _ p.1 a) → R (.ref a) l ((a, W.listOf vs.toArray 0) :: n)) (hs : vs.length ≤ sizeLine := by decide) : LW c f l n (PySem.newList vs) R :=
  fun s _ _ F N q => newList_K F N (fun a h' F' N' l1 => q _ h' s.toks _ _ F' N' (h a l1)) hs
theorem LW.isTrue_and {R : Bool → Loc → Led → Prop} {e : PySem.Expr} {rest : List PySem.Expr} {whole : Sem Value} (h : LW c f l n (isTrue e (c.env f) (eval e (c.env f))) (fun b l' n' => if b then LW c f l' n' (isTrue (.BoolOp .And rest pos) (c.env f) whole) R else R false l' n')) :
    LW c f l n (isTrue (.BoolOp .And (e :: rest) pos) (c.env f) whole) R := fun s Q E F N q => _root_.PyProof.Rows.isTrue_and (h s _ E F N fun b h' tk l' n' F' N' p => by
  cases b with
  | true => exact p { s with heap := h', toks := tk } Q E F' N' q
  | false => exact q false h' tk l' n' F' N' p)
theorem LW.isTrue_or {R : Bool → Loc → Led → Prop} {e : PySem.Expr} {rest : List PySem.Expr} {whole : Sem Value} (h : LW c f l n (isTrue e (c.env f) (eval e (c.env f))) (fun b l' n' => if b then R true l' n' else LW c f l' n' (isTrue (.BoolOp .Or rest pos) (c.env f) whole) R)) :
    LW c f l n (isTrue (.BoolOp .Or (e :: rest) pos) (c.env f) whole) R := fun s Q E F N q => _root_.PyProof.Rows.isTrue_or (h s _ E F N fun b h' tk l' n' F' N' p => by
  cases b with
  | true => exact q true h' tk l' n' F' N' p
  | false => exact p { s with heap := h', toks := tk } Q E F' N' q)
theorem LW.isTrue_and_nil {R : Bool → Loc → Led → Prop} {whole : Sem Value} (h : R true l n) : LW c f l n (isTrue (.BoolOp .And [] pos) (c.env f) whole) R := LW.same h fun s _ _ q => _root_.PyProof.Rows.isTrue_and_nil (q s.toks)
theorem LW.isTrue_or_nil {R : Bool → Loc → Led → Prop} {whole : Sem Value} (h : R false l n) : LW c f l n (isTrue (.BoolOp .Or [] pos) (c.env f) whole) R := LW.same h fun s _ _ q => _root_.PyProof.Rows.isTrue_or_nil (q s.toks)
theorem LW.isTrue_not {R : Bool → Loc → Led → Prop} {e : PySem.Expr} {whole : Sem Value} (h : LW c f l n (isTrue e (c.env f) (eval e (c.env f))) (fun b l' n' => R (!b) l' n')) : LW c f l n (isTrue (.UnaryOp .Not e pos) (c.env f) whole) R :=
  fun s Q E F N q => _root_.PyProof.Rows.isTrue_not (h s _ E F N fun b h' tk l' n' F' N' p => q (!b) h' tk l' n' F' N' p)
theorem LW.ifexp {R : Value → Loc → Led → Prop} {e a b : PySem.Expr} (h : LW c f l n (isTrue e (c.env f) (eval e (c.env f))) (fun t l' n' => if t then LW c f l' n' (eval a (c.env f)) R else LW c f l' n' (eval b (c.env f)) R)) :
    LW c f l n (eval (.IfExp e a b pos) (c.env f)) R := fun s Q E F N q => IfExp_ (h s _ E F N fun b h' tk l' n' F' N' p => by
  cases b with
  | true => exact p { s with heap := h', toks := tk } Q E F' N' q
  | false => exact p { s with heap := h', toks := tk } Q E F' N' q)
end
end Mine
end
section
open PySem PySem.W PyProof.Rows PySem.Spec PySem.Calls PyProof.Rows.LCg
set_option Elab.async false
namespace Mine
section
variable {c : Ctx} {f : Fn} {l : Loc} {n : Led} {x : Str} {v : Value} {pos pos' : Pos} {k d u : Nat}
theorem LW.field {R : Value → Loc → Led → Prop} {a C dx : Addr} {name : Str} {es : List DictEntry} (O : c.Ok d u) (I : Field c.w.K C name) (h1 : (a, instObj C dx) ∈ n) (h2 : (dx, dictOf es k) ∈ n) (hl : getL name es = some (some v)) (hv : handedIn v = true) (h : R v l n) {b : Bool} :
    LW c f l n (getAttr (.ref a) name b) R := fun s _ _ F N q =>
  let ⟨h3, h4, _, h5, h6⟩ := I
  get_own F O.X (InstAt.of_news N h1 h2) h3 h4 h5 h6 hl hv (q v s.heap _ l n F N h)
theorem LW.callG {R : Value → Loc → Led → Prop} {a : Addr} {e : PySem.Expr} {es : List PySem.Expr} (O : c.Ok d u) (I : Global c.w.K x a) (h : LW c f l n (spliced (backTo pos (starEach (e :: es) (c.env f)))) (fun vs l' n' => LW c f l' n' (PySem.call (.ref a) vs) R))
    (hk : f.cs.kind = .function := by rfl) (hx : (c.env f).kindOf x = some .globalImplicit := by rfl) (hd : (x == ("__debug__" : Str)) = false := by decide)
    (he : eval (.Call (.Name x pos') (e :: es) [] pos) (c.env f) = (do callWith pos (← eval (.Name x pos') (c.env f)) [] (backTo pos (starEach (e :: es) (c.env f))) (backToKw pos (keywordEach [] (c.env f)))) := by rfl)
    (h1 : starEach (e :: es) (c.env f) = (false, eval e (c.env f)) :: starEach es (c.env f) := by rfl) (h2 : ((backTo pos (starEach es (c.env f))).any fun x => x.fst) = false := by rfl) :
    LW c f l n (eval (.Call (.Name x pos') (e :: es) [] pos) (c.env f)) R := fun s Q E F N q =>
  Call_ (nameX_K F O.X (topRead_of O.T) I.1 (callWith_K O.X I.2 (h s _ E F N fun vs h' tk l' n' F' N' p => ⟨O.X.keeps F'.keep, p { s with heap := h', toks := tk } Q E F' N' q⟩) h1 h2) hk hx hd) he
end
end Mine
end
section
open PySem PySem.W PyProof.Rows PySem.Spec PySem.Calls PyProof.Rows.LCg
set_option Elab.async false
namespace Mine
section
variable {c : Ctx} {f : Fn} {l : Loc} {n : Led} {x : Str} {v : Value} {pos pos' : Pos} {k d u : Nat} {a b : Int} {ta tb : Tok}
theorem LW.add {R : Value → Loc → Led → Prop} (h : ∀ t, R (.int (a + b) t) l n) : LW c f l n (binaryOp .Add (.int a ta) (.int b tb)) R := fun s _ _ F N q => add_int (q _ s.heap _ l n F N (h _))
theorem LW.sub_int {R : Value → Loc → Led → Prop} (h : ∀ t, R (.int (a - b) t) l n) : LW c f l n (binaryOp .Sub (.int a ta) (.int b tb)) R := fun s _ _ F N q => PyProof.Rows.sub_int (q _ s.heap _ l n F N (h _))
theorem LW.eq {R : Value → Loc → Led → Prop} (h : R (.bool (a == b)) l n) : LW c f l n (compareOp .Eq (.int a ta) (.int b tb)) R := fun s _ _ F N q => eq_int (q _ s.heap s.toks l n F N h)
theorem LW.mul {R : Value → Loc → Led → Prop} (h : ∀ t, R (.int (a * b) t) l n) (hm : IntMulOk a b := by mul_fits) : LW c f l n (binaryOp .Mult (.int a ta) (.int b tb)) R := fun s _ _ F N q => mul_int (q _ s.heap _ l n F N (h _)) hm
theorem LW.mod {R : Value → Loc → Led → Prop} (hb : b ≠ 0) (h : ∀ t, R (.int (a.fmod b) t) l n) : LW c f l n (binaryOp .Mod (.int a ta) (.int b tb)) R := fun s _ _ F N q => mod_int' hb (q _ s.heap _ l n F N (h _))
theorem LW.fdiv {R : Value → Loc → Led → Prop} (hb : b ≠ 0) (h : ∀ t, R (.int (a.fdiv b) t) l n) (hp : Builtin.divisionGoesByPylong a b = false) : LW c f l n (binaryOp .FloorDiv (.int a ta) (.int b tb)) R := fun s _ _ F N q => floordiv_int hb (q _ s.heap _ l n F N (h _)) (.inl hp)
theorem LW.gt {R : Value → Loc → Led → Prop} (h : R (.bool (decide (b < a))) l n) : LW c f l n (compareOp .Gt (.int a ta) (.int b tb)) R := fun s _ _ F N q => gt_int (q _ s.heap s.toks l n F N h)
theorem LW.ge {R : Value → Loc → Led → Prop} (h : R (.bool (decide (b ≤ a))) l n) : LW c f l n (compareOp .GtE (.int a ta) (.int b tb)) R := fun s _ _ F N q => ge_int (q _ s.heap s.toks l n F N h)
theorem LW.lt {R : Value → Loc → Led → Prop} (h : R (.bool (decide (a < b))) l n) : LW c f l n (compareOp .Lt (.int a ta) (.int b tb)) R := fun s _ _ F N q => lt_int (q _ s.heap s.toks l n F N h)
theorem LW.ne {R : Value → Loc → Led → Prop} (h : R (.bool (a != b)) l n) : LW c f l n (compareOp .NotEq (.int a ta) (.int b tb)) R := fun s _ _ F N q => ne_int (q _ s.heap s.toks l n F N h)
theorem LW.int_int {R : Value → Loc → Led → Prop} (h : R (.int a ta) l n) : LW c f l n (PySem.call (.type "int") [.int a ta]) R := fun s _ _ F N q => call_int_int (q _ s.heap s.toks l n F N h)
theorem LW.item_ints {R : Value → Loc → Led → Prop} {e e' : PySem.Expr} {p : Addr} {vs : List Value} {ns : List Int} {m : Nat} (hm : (p, W.listOf vs.toArray m) ∈ n) (hI : IntsAre vs ns) (h0 : 0 ≤ a) (h1 : a < (ns.length : Nat)) (h2 : a < 2 ^ 63) (h : ∀ t, R (.int (ns.getD a.toNat 0) t) l n)
    (h3 : subscripted e' false (.ref p) (.int a ta) = operate [.ref p, .int a ta] (getItem (.ref p) (.int a ta)) := by with_unfolding_all rfl) (h4 : ∀ r, letTemporaryGo e (.ref p) r = pure () := by intro _; with_unfolding_all rfl) :
    LW c f l n (subscriptTail e e' (.ref p) (.int a ta)) R := fun s _ _ F N q => item_list_ints (News.isList N hm) hI h0 h1 h2 (fun t => q _ s.heap s.toks l n F N (h t)) h3 h4
theorem LW.assign_sub {R : Flow → Loc → Led → Prop} {o i e : PySem.Expr} (h : LW c f l n (eval e (c.env f)) (fun v l' n' => LW c f l' n' (eval o (c.env f)) (fun ov l2 n2 => LW c f l2 n2 (eval i (c.env f)) (fun iv l3 n3 => LW c f l3 n3 (setItem ov iv v) (fun _ l4 n4 => R .next l4 n4)))))
    (hs : swapsWith e (some (o.Subscript i pos')) pos.line (c.env f) = pure false := by rfl) : LW c f l n (exec (.Assign [.Subscript o i pos'] e pos) (c.env f)) R :=
  fun s Q E F N q => wpAny_Assign_Subscript (h s _ E F N fun _ h' tk _ _ F' N' p => p { s with heap := h', toks := tk } _ E F' N' fun _ h2 tk2 _ _ F2 N2 p2 => p2 { s with heap := h2, toks := tk2 } _ E F2 N2 fun _ h3 tk3 _ _ F3 N3 p3 => p3 { s with heap := h3, toks := tk3 } _ E F3 N3 fun _ h4 tk4 l4 n4 F4 N4 p4 => q .next h4 tk4 l4 n4 F4 N4 p4) hs
theorem LW.assign_attr {R : Flow → Loc → Led → Prop} {o e : PySem.Expr} {nm : Str} (h : LW c f l n (eval e (c.env f)) (fun v l' n' => LW c f l' n' (eval o (c.env f)) (fun ov l2 n2 => LW c f l2 n2 (setAttr ov nm v) (fun _ l4 n4 => R .next l4 n4))))
    (hs : swapsWith e (some (o.Attribute nm pos')) pos.line (c.env f) = pure false := by rfl) : LW c f l n (exec (.Assign [.Attribute o nm pos'] e pos) (c.env f)) R :=
  fun s Q E F N q => plainObj_wpAny_Assign_Attribute (h s _ E F N fun _ h' tk _ _ F' N' p => p { s with heap := h', toks := tk } _ E F' N' fun _ h2 tk2 _ _ F2 N2 p2 => p2 { s with heap := h2, toks := tk2 } _ E F2 N2 fun _ h4 tk4 l4 n4 F4 N4 p4 => q .next h4 tk4 l4 n4 F4 N4 p4) hs
theorem LW.set_list {R : Unit → Loc → Led → Prop} {D : Addr} {its : Array Value} {q : List Value} {m : Nat} {n' : Led} (h0 : 0 ≤ a) (h1 : a < 2 ^ 63) (e : ki_setL its.toList a.toNat v = some q) (U : Upd D (W.listOf its m) (W.listOf q.toArray m) n n') (h : R () l n') :
    LW c f l n (setItem (.ref D) (.int a ta) v) R := fun s _ _ F N k => ki_set F N h0 h1 e U fun h' F' N' => k () h' s.toks l n' F' N' h
theorem LW.callT {R : Value → Loc → Led → Prop} {T : String} {e : PySem.Expr} {es : List PySem.Expr} (O : c.Ok d u) (I : BName c.w.K x (.type T)) (h : LW c f l n (spliced (backTo pos (starEach (e :: es) (c.env f)))) (fun vs l' n' => LW c f l' n' (PySem.call (.type T) vs) R))
    (hk : f.cs.kind = .function := by rfl) (hx : (c.env f).kindOf x = some .globalImplicit := by rfl) (hd : (x == ("__debug__" : Str)) = false := by decide)
    (he : eval (.Call (.Name x pos') (e :: es) [] pos) (c.env f) = (do callWith pos (← eval (.Name x pos') (c.env f)) [] (backTo pos (starEach (e :: es) (c.env f))) (backToKw pos (keywordEach [] (c.env f)))) := by rfl)
    (h1 : starEach (e :: es) (c.env f) = (false, eval e (c.env f)) :: starEach es (c.env f) := by rfl) (h2 : ((backTo pos (starEach es (c.env f))).any fun x => x.fst) = false := by rfl) :
    LW c f l n (eval (.Call (.Name x pos') (e :: es) [] pos) (c.env f)) R := fun s Q E F N q =>
  Call_ (nameX_B F O.X (topRead_of O.T) I.1 I.2.1 I.2.2 (PyProof.Rows.callWith_type1 (h s _ E F N fun vs h' tk l' n' F' N' p => p { s with heap := h', toks := tk } Q E F' N' q) h1 h2) hk hx hd) he
end
end Mine
end
section
open PySem PySem.W PyProof.Rows PySem.Spec PySem.Calls PyProof.Rows.LCg
set_option Elab.async false
namespace Mine
section
variable {l : Loc} {n : Led}
theorem if_b {b : Bool} {A B : Prop} (h : b = true → A) (k : b = false → B) : (if b = true then A else B) := by cases b <;> simp_all
end
end Mine
end
section
open PySem PySem.W PyProof.Rows PySem.Spec PySem.Calls PyProof.Rows.LCg
set_option Elab.async false
namespace Mine
/-- an expression that changes nothing and gives a value in V -/
def Ev (c : Ctx) (f : Fn) (l : Loc) (n : Led) (e : PySem.Expr) (V : Value → Prop) : Prop := LW c f l n (eval e (c.env f)) (fun v l' n' => V v ∧ l' = l ∧ n' = n)
/-- a test -/
def Tr (c : Ctx) (f : Fn) (l : Loc) (n : Led) (e : PySem.Expr) (b : Bool) : Prop := LW c f l n (isTrue e (c.env f) (eval e (c.env f))) (fun v l' n' => v = b ∧ l' = l ∧ n' = n)
/-- a comparison -/
def Cp (c : Ctx) (f : Fn) (l : Loc) (n : Led) (a : PySem.Expr) (op : CmpOp) (b : PySem.Expr) (t : Bool) : Prop :=
  LW c f l n (eval a (c.env f)) (fun x l' n' => LW c f l' n' (eval b (c.env f)) (fun y l'' n'' => LW c f l'' n'' (compareOp op x y) (fun z l3 n3 => z = .bool t ∧ l3 = l ∧ n3 = n)))
def Is (v : Value) (x : Value) : Prop := x = v
def IsI (i : Int) (v : Value) : Prop := ∃ t : Tok, v = .int i t
section
variable {c : Ctx} {f : Fn} {l : Loc} {n : Led} {x : Str} {v : Value} {pos pos' : Pos} {k d u : Nat} {V W : Value → Prop} {e e1 e2 e3 : PySem.Expr} {R : Flow → Loc → Led → Prop} {rest b1 b2 : List Stmt} {b b' : Bool} {i j : Int}
theorem Ev.go {R : Value → Loc → Led → Prop} (h : Ev c f l n e V) (k : ∀ v, V v → R v l n) : LW c f l n (eval e (c.env f)) R :=
  LW.mono h (fun v l' n' ⟨hv, q1, q2⟩ => by subst q1; subst q2; exact k v hv)
theorem Tr.go {R : Bool → Loc → Led → Prop} (h : Tr c f l n e b) (k : R b l n) : LW c f l n (isTrue e (c.env f) (eval e (c.env f))) R :=
  LW.mono h (fun v l' n' ⟨hv, q1, q2⟩ => by subst hv; subst q1; subst q2; exact k)
theorem Ev.weak (h : Ev c f l n e V) (k : ∀ v, V v → W v) : Ev c f l n e W := Ev.go h fun v h => ⟨k v h, rfl, rfl⟩
theorem Ev.name (hv : l.lookup x = some v) (h : V v) (hk : f.cs.kind = .function := by rfl) (hx : (c.env f).kindOf x = some .local := by rfl) (hd : (x == ("__debug__" : Str)) = false := by decide) : Ev c f l n (.Name x pos) V :=
  LW.name hv ⟨h, rfl, rfl⟩ hk hx hd
theorem Ev.glob (O : c.Ok d u) (I : nsIn c.w.K mainGlobals x = some (some v)) (h : V v) (hk : f.cs.kind = .function := by rfl) (hx : (c.env f).kindOf x = some .globalImplicit := by rfl) (hd : (x == ("__debug__" : Str)) = false := by decide) : Ev c f l n (.Name x pos) V :=
  fun s Q _ F N q => nameX_K F O.X (topRead_of O.T) I (q v s.heap s.toks l n F N ⟨h, rfl, rfl⟩) hk hx hd
theorem Ev.int : Ev c f l n (.Constant (.int i) k pos) (IsI i) := LW.int fun t => ⟨⟨t, rfl⟩, rfl, rfl⟩
theorem Ev.bool : Ev c f l n (.Constant (.bool b) k pos) (Is (.bool b)) := LW.bool ⟨rfl, rfl, rfl⟩
theorem Ev.none : Ev c f l n (.Constant .none k pos) (Is .none) := LW.none ⟨rfl, rfl, rfl⟩
theorem Ev.add (h1 : Ev c f l n e1 (IsI i)) (h2 : Ev c f l n e2 (IsI j)) : Ev c f l n (.BinOp e1 .Add e2 pos) (IsI (i + j)) :=
  LW.binop (Ev.go h1 fun _ ⟨_, e1⟩ => Ev.go h2 fun _ ⟨_, e2⟩ => by subst e1; subst e2; exact LW.add fun t => ⟨⟨t, rfl⟩, rfl, rfl⟩)
theorem Ev.subI (h1 : Ev c f l n e1 (IsI i)) (h2 : Ev c f l n e2 (IsI j)) : Ev c f l n (.BinOp e1 .Sub e2 pos) (IsI (i - j)) :=
  LW.binop (Ev.go h1 fun _ ⟨_, e1⟩ => Ev.go h2 fun _ ⟨_, e2⟩ => by subst e1; subst e2; exact LW.sub_int fun t => ⟨⟨t, rfl⟩, rfl, rfl⟩)
theorem Ev.mul (h1 : Ev c f l n e1 (IsI i)) (h2 : Ev c f l n e2 (IsI j)) (hm : IntMulOk i j) : Ev c f l n (.BinOp e1 .Mult e2 pos) (IsI (i * j)) :=
  LW.binop (Ev.go h1 fun _ ⟨_, e1⟩ => Ev.go h2 fun _ ⟨_, e2⟩ => by subst e1; subst e2; exact LW.mul (fun t => ⟨⟨t, rfl⟩, rfl, rfl⟩) hm)
theorem Ev.mod (h1 : Ev c f l n e1 (IsI i)) (h2 : Ev c f l n e2 (IsI j)) (hm : j ≠ 0) : Ev c f l n (.BinOp e1 .Mod e2 pos) (IsI (i.fmod j)) :=
  LW.binop (Ev.go h1 fun _ ⟨_, e1⟩ => Ev.go h2 fun _ ⟨_, e2⟩ => by subst e1; subst e2; exact LW.mod hm (fun t => ⟨⟨t, rfl⟩, rfl, rfl⟩))
theorem Ev.fdiv (h1 : Ev c f l n e1 (IsI i)) (h2 : Ev c f l n e2 (IsI j)) (hm : j ≠ 0) (hp : Builtin.divisionGoesByPylong i j = false) : Ev c f l n (.BinOp e1 .FloorDiv e2 pos) (IsI (i.fdiv j)) :=
  LW.binop (Ev.go h1 fun _ ⟨_, e1⟩ => Ev.go h2 fun _ ⟨_, e2⟩ => by subst e1; subst e2; exact LW.fdiv hm (fun t => ⟨⟨t, rfl⟩, rfl, rfl⟩) hp)
theorem Ev.ifexp (h : Tr c f l n e1 b) (h1 : b = true → Ev c f l n e2 V) (h2 : b = false → Ev c f l n e3 V) : Ev c f l n (.IfExp e1 e2 e3 pos) V :=
  LW.ifexp (Tr.go h (by cases b with | true => exact h1 rfl | false => exact h2 rfl))
theorem Ev.attr {nm : Str} (h : Ev c f l n e V) (k : ∀ v, V v → LW c f l n (getAttr v nm true) (fun v l' n' => W v ∧ l' = l ∧ n' = n))
    (he : eval (.Attribute e nm pos) (c.env f) = (do
      let o ← eval e (c.env f)
      standAt pos.atName
      let r ← holding [o] (getAttr o nm true)
      letTemporaryGo e o r
      pure r) := by with_unfolding_all rfl) : Ev c f l n (.Attribute e nm pos) W := fun s Q E F N q =>
  Attribute_any_ (Ev.go (R := fun v l' n' => LW c f l' n' (getAttr v nm true) (fun v l' n' => W v ∧ l' = l ∧ n' = n)) h k s _ E F N fun _ h' tk _ _ F' N' p => p { s with heap := h', toks := tk } Q E F' N' q) he
theorem Ev.sub (h1 : Ev c f l n e1 V) (h2 : Ev c f l n e2 W) {U : Value → Prop} (k : ∀ v w, V v → W w → LW c f l n (subscriptTail e1 e2 v w) (fun v l' n' => U v ∧ l' = l ∧ n' = n)) : Ev c f l n (.Subscript e1 e2 pos) U :=
  LW.sub (Ev.go h1 fun v hv => Ev.go h2 fun w hw => k v w hv hw)
theorem Ev.cp {op : CmpOp} (h : Cp c f l n e1 op e2 b) (hm : behindInMarks op e2 = false := by with_unfolding_all rfl) : Ev c f l n (.Compare e1 [op] [e2] pos) (Is (.bool b)) := LW.compare h hm
theorem Tr.cp {op : CmpOp} (h : Cp c f l n e1 op e2 b) (hm : behindInMarks op e2 = false := by with_unfolding_all rfl) : Tr c f l n (.Compare e1 [op] [e2] pos) b :=
  LW.isTrue_compare (LW.mono h fun _ _ _ h => LW.mono h fun _ _ _ h => LW.mono h fun z l3 n3 ⟨e1, e2, e3⟩ => by subst e1; subst e2; subst e3; exact LW.truthy_bool ⟨rfl, rfl, rfl⟩) hm
theorem Tr.not (h : Tr c f l n e b) : Tr c f l n (.UnaryOp .Not e pos) (!b) := LW.isTrue_not (Tr.go h ⟨rfl, rfl, rfl⟩)
theorem Tr.and_nil : Tr c f l n (.BoolOp .And [] pos) true := LW.isTrue_and_nil ⟨rfl, rfl, rfl⟩
theorem Tr.or_nil : Tr c f l n (.BoolOp .Or [] pos) false := LW.isTrue_or_nil ⟨rfl, rfl, rfl⟩
theorem Tr.and_ {es : List PySem.Expr} (h1 : Tr c f l n e b) (h2 : b = true → LW c f l n (isTrue (.BoolOp .And es pos) (c.env f) (eval (.BoolOp .And (e :: es) pos) (c.env f))) (fun v l' n' => v = b' ∧ l' = l ∧ n' = n)) : Tr c f l n (.BoolOp .And (e :: es) pos) (b && b') :=
  LW.isTrue_and (Tr.go h1 (by cases b with | true => exact h2 rfl | false => exact ⟨rfl, rfl, rfl⟩))
theorem isTrue_and_whole {w1 w2 : Sem Value} {env : Env} {es : List PySem.Expr} {op : BoolOp} : isTrue (.BoolOp op es pos) env w1 = isTrue (.BoolOp op es pos) env w2 := by rw [arm_isTrue_BoolOp, arm_isTrue_BoolOp]
theorem Tr.and {es : List PySem.Expr} (h1 : Tr c f l n e b) (h2 : b = true → Tr c f l n (.BoolOp .And es pos) b') : Tr c f l n (.BoolOp .And (e :: es) pos) (b && b') :=
  Tr.and_ h1 fun h => by rw [isTrue_and_whole (w2 := eval (.BoolOp .And es pos) (c.env f))]; exact h2 h
theorem Tr.or {es : List PySem.Expr} (h1 : Tr c f l n e b) (h2 : b = false → Tr c f l n (.BoolOp .Or es pos) b') : Tr c f l n (.BoolOp .Or (e :: es) pos) (b || b') :=
  LW.isTrue_or (Tr.go h1 (by
    cases b with
    | true => exact ⟨rfl, rfl, rfl⟩
    | false => 
      have h := h2 rfl
      show LW c f l n (isTrue (.BoolOp .Or es pos) (c.env f) _) _
      rw [isTrue_and_whole (w2 := eval (.BoolOp .Or es pos) (c.env f))]; exact h))
theorem Tr.and2 (h1 : Tr c f l n e1 b) (h2 : b = true → Tr c f l n e2 b') : Tr c f l n (.BoolOp .And [e1, e2] pos) (b && b') := by
  have := Tr.and (pos := pos) h1 fun h => Tr.and (h2 h) fun _ => Tr.and_nil
  simpa only [Bool.and_true] using this
theorem Tr.or2 (h1 : Tr c f l n e1 b) (h2 : b = false → Tr c f l n e2 b') : Tr c f l n (.BoolOp .Or [e1, e2] pos) (b || b') := by
  have := Tr.or (pos := pos) h1 fun h => Tr.or (h2 h) fun _ => Tr.or_nil
  simpa only [Bool.or_false] using this
theorem Tr.bool (h : Ev c f l n e (Is (.bool b))) (he : isTrue e (c.env f) (eval e (c.env f)) = (do let v ← eval e (c.env f); standAt e.pos; holding [v] (truthy v)) := by rfl) : Tr c f l n e b :=
  LW.then (e := eval e (c.env f)) (e' := truthy) (Ev.go h fun v e => by cases e; exact LW.truthy_bool ⟨rfl, rfl, rfl⟩) fun _ _ _ h => wpAny_isTrue_value h he
theorem Ev.and2 (h1 : Ev c f l n e1 (Is (.bool b))) (h2 : b = true → Ev c f l n e2 (Is (.bool b'))) : Ev c f l n (.BoolOp .And [e1, e2] pos) (Is (.bool (b && b'))) := fun s Q E F N q =>
  BoolOp_and (h1 s _ E F N fun v h' tk l' n' F' N' ⟨hv, e2, e3⟩ => by
    subst e2; subst e3; cases hv
    refine wpAny_truthy_bool ?_
    cases b with
    | true => exact BoolOp_one (h2 rfl { s with heap := h', toks := tk } Q E F' N' (by simpa only [Bool.true_and] using q))
    | false => exact q _ h' tk _ _ F' N' ⟨rfl, rfl, rfl⟩)
/- statements -/
theorem St.asg (h : Ev c f l n e V) (k : ∀ v, V v → LW c f ((x, v) :: l) n (execs rest (c.env f)) R)
    (hk : f.cs.kind = .function := by rfl) (hx : (c.env f).kindOf x = some .local := by rfl) (hs : swapsWith e (some (.Name x pos')) pos.line (c.env f) = pure false := by rfl) :
    LW c f l n (execs (.Assign [.Name x pos'] e pos :: rest) (c.env f)) R := LW.cons (LW.assign (Ev.go h k) hk hx hs)
theorem St.ret (h : Ev c f l n e V) (k : ∀ v, V v → R (.ret v) l n) : LW c f l n (execs (.Return (some e) pos :: rest) (c.env f)) R := LW.cons (LW.ret (Ev.go h k))
theorem St.if_ (h : Tr c f l n e b) (h1 : b = true → LW c f l n (execs b1 (c.env f)) (Fl (fun l' n' => LW c f l' n' (execs rest (c.env f)) R) R)) (h2 : b = false → LW c f l n (execs b2 (c.env f)) (Fl (fun l' n' => LW c f l' n' (execs rest (c.env f)) R) R)) :
    LW c f l n (execs (.If e b1 b2 pos :: rest) (c.env f)) R := LW.cons (LW.if_ (Tr.go h (by cases b with | true => exact h1 rfl | false => exact h2 rfl)))
theorem St.if0 (h : Tr c f l n e b) (h1 : b = true → LW c f l n (execs b1 (c.env f)) (Fl (fun l' n' => LW c f l' n' (execs rest (c.env f)) R) R)) (h2 : b = false → LW c f l n (execs rest (c.env f)) R) :
    LW c f l n (execs (.If e b1 [] pos :: rest) (c.env f)) R := St.if_ h h1 fun h => LW.nil (h2 h)
/-- the branch ends the body -/
theorem St.ifr {P : Value → Led → Prop} (h : Tr c f l n e b) (h1 : b = true → LW c f l n (execs b1 (c.env f)) (fun fl _ n => match fl with | .ret v => P v n | _ => False)) (h2 : b = false → LW c f l n (execs rest (c.env f)) (Out P)) :
    LW c f l n (execs (.If e b1 [] pos :: rest) (c.env f)) (Out P) := St.if0 h (fun h => LW.mono (h1 h) fun fl l' n' r => by cases fl with | ret v => exact r | next => exact r.elim | brk => exact r.elim | cont => exact r.elim) h2
end
end Mine
end
section
open PySem PySem.W PyProof.Rows PySem.Spec PySem.Calls PyProof.Rows.LCg
set_option Elab.async false
namespace Mine
/-- the ledger has grown by new objects above -/
def Grew (n n' : Led) : Prop := ∃ tl : Led, (∀ p ∈ tl, ∀ q ∈ n, @LT.lt Nat _ q.1 p.1) ∧ n' = tl ++ n
theorem Grew.refl (n : Led) : Grew n n := ⟨[], (fun _ h => nomatch h), rfl⟩
theorem Grew.trans {a b c : Led} (h : Grew a b) (k : Grew b c) : Grew a c := by
  obtain ⟨t1, h1, rfl⟩ := h
  obtain ⟨t2, h2, rfl⟩ := k
  refine ⟨t2 ++ t1, fun p hp q hq => ?_, by rw [List.append_assoc]⟩
  rcases List.mem_append.mp hp with hp | hp
  · exact h2 p hp q (List.mem_append_right _ hq)
  · exact h1 p hp q hq
theorem Grew.cons {n : Led} {a : Addr} {o : Obj} (h : ∀ p ∈ n, @LT.lt Nat _ p.1 a) : Grew n ((a, o) :: n) := ⟨[(a, o)], fun p hp q hq => by cases List.mem_singleton.mp hp; exact h q hq, rfl⟩
theorem Grew.sub {a b : Led} (h : Grew a b) : ∀ p ∈ a, p ∈ b := by
  obtain ⟨t, _, rfl⟩ := h
  exact fun p hp => List.mem_append_right _ hp
/-- a tuple of tags -/
def TupIn (w : Wd) (n : Led) (ts : List TagD) (v : Value) : Prop := ∃ (T : Addr) (k : Nat) (vs : List Value), v = .ref T ∧ (T, tupOf vs k) ∈ n ∧ TagsIn w n vs ts
section
variable {c : Ctx} {f : Fn} {l : Loc} {n : Led} {x : Str} {v : Value} {pos pos' : Pos} {k d u : Nat} {V W : Value → Prop} {e e1 e2 e3 : PySem.Expr} {b b' : Bool} {i j : Int} {fr : FrameD} {t : TagD} {ts : List TagD}
theorem LW.newTuple {R : Value → Loc → Led → Prop} {vs : List Value} (h : ∀ a : Addr, (∀ p ∈ n, @LT.lt Nat _ p.1 a) → R (.ref a) l ((a, tupOf vs 0) :: n)) (hs : vs.length ≤ sizeLine := by decide) : LW c f l n (PySem.newTuple vs) R :=
  fun s _ _ F N q => kup_newTuple F N (fun a h' F' N' l1 => q _ h' s.toks _ _ F' N' (h a l1)) hs
theorem units (O : c.Ok d u) : (c.A f).units < cLine := Nat.lt_of_le_of_lt (Nat.le_add_right _ _) O.hu
theorem Ev.fieldOf (O : c.Ok d u) {nm : Str} (h : Ev c f l n e V) (k : ∀ v, V v → ∃ (a C dx : Addr) (es : List DictEntry) (m : Nat) (y : Value), v = .ref a ∧ Field c.w.K C nm ∧ (a, instObj C dx) ∈ n ∧ (dx, dictOf es m) ∈ n ∧ getL nm es = some (some y) ∧ handedIn y = true ∧ W y)
    (he : eval (.Attribute e nm pos) (c.env f) = (do
      let o ← eval e (c.env f)
      standAt pos.atName
      let r ← holding [o] (getAttr o nm true)
      letTemporaryGo e o r
      pure r) := by with_unfolding_all rfl) : Ev c f l n (.Attribute e nm pos) W :=
  Ev.attr h (fun v hv => by
    obtain ⟨a, C, dx, es, m, y, rfl, I, h1, h2, hl, hh, hw⟩ := k v hv
    exact LW.field O I h1 h2 hl hh ⟨hw, rfl, rfl⟩) he
theorem Ev.tag_kind (O : c.Ok d u) (h : Ev c f l n e (fun v => TagIn c.w n v t)) (he : eval (.Attribute e (Str.ofString "kind") pos) (c.env f) = (do
      let o ← eval e (c.env f)
      standAt pos.atName
      let r ← holding [o] (getAttr o (Str.ofString "kind") true)
      letTemporaryGo e o r
      pure r) := by with_unfolding_all rfl) : Ev c f l n (.Attribute e (Str.ofString "kind") pos) (IsI t.kind) :=
  Ev.fieldOf O h (fun v hv => by
    obtain ⟨a, d, k1, k2, k3, k4, t1, t2, t4, rfl, h1, h2⟩ := hv
    exact ⟨a, 89, d, _, _, _, rfl, fd_89_kind _, h1, h2, rfl, rfl, ⟨_, rfl⟩⟩) he
theorem Ev.tag_prio (O : c.Ok d u) (h : Ev c f l n e (fun v => TagIn c.w n v t)) (he : eval (.Attribute e (Str.ofString "priority") pos) (c.env f) = (do
      let o ← eval e (c.env f)
      standAt pos.atName
      let r ← holding [o] (getAttr o (Str.ofString "priority") true)
      letTemporaryGo e o r
      pure r) := by with_unfolding_all rfl) : Ev c f l n (.Attribute e (Str.ofString "priority") pos) (IsI t.prio) :=
  Ev.fieldOf O h (fun v hv => by
    obtain ⟨a, d, k1, k2, k3, k4, t1, t2, t4, rfl, h1, h2⟩ := hv
    exact ⟨a, 89, d, _, _, _, rfl, fd_89_priority _, h1, h2, rfl, rfl, ⟨_, rfl⟩⟩) he
theorem Ev.tag_drop (O : c.Ok d u) (h : Ev c f l n e (fun v => TagIn c.w n v t)) (he : eval (.Attribute e (Str.ofString "may_drop") pos) (c.env f) = (do
      let o ← eval e (c.env f)
      standAt pos.atName
      let r ← holding [o] (getAttr o (Str.ofString "may_drop") true)
      letTemporaryGo e o r
      pure r) := by with_unfolding_all rfl) : Ev c f l n (.Attribute e (Str.ofString "may_drop") pos) (Is (.bool t.drop)) :=
  Ev.fieldOf O h (fun v hv => by
    obtain ⟨a, d, k1, k2, k3, k4, t1, t2, t4, rfl, h1, h2⟩ := hv
    exact ⟨a, 89, d, _, _, _, rfl, fd_89_may_drop _, h1, h2, rfl, rfl, rfl⟩) he
theorem Ev.tag_vlan (O : c.Ok d u) (h : Ev c f l n e (fun v => TagIn c.w n v t)) (he : eval (.Attribute e (Str.ofString "vlan") pos) (c.env f) = (do
      let o ← eval e (c.env f)
      standAt pos.atName
      let r ← holding [o] (getAttr o (Str.ofString "vlan") true)
      letTemporaryGo e o r
      pure r) := by with_unfolding_all rfl) : Ev c f l n (.Attribute e (Str.ofString "vlan") pos) (IsI t.vlan) :=
  Ev.fieldOf O h (fun v hv => by
    obtain ⟨a, d, k1, k2, k3, k4, t1, t2, t4, rfl, h1, h2⟩ := hv
    exact ⟨a, 89, d, _, _, _, rfl, fd_89_vlan _, h1, h2, rfl, rfl, ⟨_, rfl⟩⟩) he
theorem Ev.fr_target (O : c.Ok d u) (h : Ev c f l n e (fun v => FrameIn c.w n v fr)) (he : eval (.Attribute e (Str.ofString "target") pos) (c.env f) = (do
      let o ← eval e (c.env f)
      standAt pos.atName
      let r ← holding [o] (getAttr o (Str.ofString "target") true)
      letTemporaryGo e o r
      pure r) := by with_unfolding_all rfl) : Ev c f l n (.Attribute e (Str.ofString "target") pos) (IsI fr.target) :=
  Ev.fieldOf O h (fun v hv => by
    obtain ⟨a, d, T, k1, k2, k3, k4, k5, t1, t2, t4, t5, n, vs, rfl, h1, h2, h3, h4⟩ := hv
    exact ⟨a, 123, d, _, _, _, rfl, fd_123_target _, h1, h2, rfl, rfl, ⟨_, rfl⟩⟩) he
theorem Ev.fr_source (O : c.Ok d u) (h : Ev c f l n e (fun v => FrameIn c.w n v fr)) (he : eval (.Attribute e (Str.ofString "source") pos) (c.env f) = (do
      let o ← eval e (c.env f)
      standAt pos.atName
      let r ← holding [o] (getAttr o (Str.ofString "source") true)
      letTemporaryGo e o r
      pure r) := by with_unfolding_all rfl) : Ev c f l n (.Attribute e (Str.ofString "source") pos) (IsI fr.source) :=
  Ev.fieldOf O h (fun v hv => by
    obtain ⟨a, d, T, k1, k2, k3, k4, k5, t1, t2, t4, t5, n, vs, rfl, h1, h2, h3, h4⟩ := hv
    exact ⟨a, 123, d, _, _, _, rfl, fd_123_source _, h1, h2, rfl, rfl, ⟨_, rfl⟩⟩) he
theorem Ev.fr_tags (O : c.Ok d u) (h : Ev c f l n e (fun v => FrameIn c.w n v fr)) (he : eval (.Attribute e (Str.ofString "tags") pos) (c.env f) = (do
      let o ← eval e (c.env f)
      standAt pos.atName
      let r ← holding [o] (getAttr o (Str.ofString "tags") true)
      letTemporaryGo e o r
      pure r) := by with_unfolding_all rfl) : Ev c f l n (.Attribute e (Str.ofString "tags") pos) (TupIn c.w n fr.tags) :=
  Ev.fieldOf O h (fun v hv => by
    obtain ⟨a, d, T, k1, k2, k3, k4, k5, t1, t2, t4, t5, n, vs, rfl, h1, h2, h3, h4⟩ := hv
    exact ⟨a, 123, d, _, _, _, rfl, fd_123_tags _, h1, h2, rfl, rfl, ⟨T, n, vs, rfl, h3, h4⟩⟩) he
theorem Ev.fr_kind (O : c.Ok d u) (h : Ev c f l n e (fun v => FrameIn c.w n v fr)) (he : eval (.Attribute e (Str.ofString "kind") pos) (c.env f) = (do
      let o ← eval e (c.env f)
      standAt pos.atName
      let r ← holding [o] (getAttr o (Str.ofString "kind") true)
      letTemporaryGo e o r
      pure r) := by with_unfolding_all rfl) : Ev c f l n (.Attribute e (Str.ofString "kind") pos) (IsI fr.kind) :=
  Ev.fieldOf O h (fun v hv => by
    obtain ⟨a, d, T, k1, k2, k3, k4, k5, t1, t2, t4, t5, n, vs, rfl, h1, h2, h3, h4⟩ := hv
    exact ⟨a, 123, d, _, _, _, rfl, fd_123_kind _, h1, h2, rfl, rfl, ⟨_, rfl⟩⟩) he
theorem Ev.fr_payload (O : c.Ok d u) (h : Ev c f l n e (fun v => FrameIn c.w n v fr)) (he : eval (.Attribute e (Str.ofString "payload") pos) (c.env f) = (do
      let o ← eval e (c.env f)
      standAt pos.atName
      let r ← holding [o] (getAttr o (Str.ofString "payload") true)
      letTemporaryGo e o r
      pure r) := by with_unfolding_all rfl) : Ev c f l n (.Attribute e (Str.ofString "payload") pos) (fun v => ∃ t, v = .bytes fr.payload t) :=
  Ev.fieldOf O h (fun v hv => by
    obtain ⟨a, d, T, k1, k2, k3, k4, k5, t1, t2, t4, t5, n, vs, rfl, h1, h2, h3, h4⟩ := hv
    exact ⟨a, 123, d, _, _, _, rfl, fd_123_payload _, h1, h2, rfl, rfl, ⟨_, rfl⟩⟩) he
theorem Ev.tun_ports {t P I S : Addr} (O : c.Ok d u) (hT : TunAt c.w n t P I S) (h : Ev c f l n e (Is (.ref t))) (hV : W (.ref P)) (he : eval (.Attribute e (Str.ofString "ports") pos) (c.env f) = (do
      let o ← eval e (c.env f)
      standAt pos.atName
      let r ← holding [o] (getAttr o (Str.ofString "ports") true)
      letTemporaryGo e o r
      pure r) := by with_unfolding_all rfl) : Ev c f l n (.Attribute e (Str.ofString "ports") pos) W :=
  Ev.fieldOf O h (fun v hv => by
    cases hv
    obtain ⟨d, k1, k2, k3, h1, h2⟩ := hT
    exact ⟨t, 268, d, _, _, _, rfl, fd_268_ports _, h1, h2, rfl, rfl, hV⟩) he
theorem Ev.tun_inside {t P I S : Addr} (O : c.Ok d u) (hT : TunAt c.w n t P I S) (h : Ev c f l n e (Is (.ref t))) (hV : W (.ref I)) (he : eval (.Attribute e (Str.ofString "inside") pos) (c.env f) = (do
      let o ← eval e (c.env f)
      standAt pos.atName
      let r ← holding [o] (getAttr o (Str.ofString "inside") true)
      letTemporaryGo e o r
      pure r) := by with_unfolding_all rfl) : Ev c f l n (.Attribute e (Str.ofString "inside") pos) W :=
  Ev.fieldOf O h (fun v hv => by
    cases hv
    obtain ⟨d, k1, k2, k3, h1, h2⟩ := hT
    exact ⟨t, 268, d, _, _, _, rfl, fd_268_inside _, h1, h2, rfl, rfl, hV⟩) he
theorem Ev.tun_strict {t P I S : Addr} (O : c.Ok d u) (hT : TunAt c.w n t P I S) (h : Ev c f l n e (Is (.ref t))) (hV : W (.ref S)) (he : eval (.Attribute e (Str.ofString "strict") pos) (c.env f) = (do
      let o ← eval e (c.env f)
      standAt pos.atName
      let r ← holding [o] (getAttr o (Str.ofString "strict") true)
      letTemporaryGo e o r
      pure r) := by with_unfolding_all rfl) : Ev c f l n (.Attribute e (Str.ofString "strict") pos) W :=
  Ev.fieldOf O h (fun v hv => by
    cases hv
    obtain ⟨d, k1, k2, k3, h1, h2⟩ := hT
    exact ⟨t, 268, d, _, _, _, rfl, fd_268_strict _, h1, h2, rfl, rfl, hV⟩) he
theorem Ev.port_outer {p : PortD} (O : c.Ok d u) (h : Ev c f l n e (fun v => PortIn c.w n v p)) (he : eval (.Attribute e (Str.ofString "outer") pos) (c.env f) = (do
      let o ← eval e (c.env f)
      standAt pos.atName
      let r ← holding [o] (getAttr o (Str.ofString "outer") true)
      letTemporaryGo e o r
      pure r) := by with_unfolding_all rfl) : Ev c f l n (.Attribute e (Str.ofString "outer") pos) (IsI p.1) :=
  Ev.fieldOf O h (fun v hv => by
    obtain ⟨a, d, B, k1, k2, t1, rfl, h1, h2, h3⟩ := hv
    exact ⟨a, 179, d, _, _, _, rfl, fd_179_outer _, h1, h2, rfl, rfl, ⟨_, rfl⟩⟩) he
theorem Ev.port_by_inner {p : PortD} (O : c.Ok d u) (h : Ev c f l n e (fun v => PortIn c.w n v p)) (he : eval (.Attribute e (Str.ofString "by_inner") pos) (c.env f) = (do
      let o ← eval e (c.env f)
      standAt pos.atName
      let r ← holding [o] (getAttr o (Str.ofString "by_inner") true)
      letTemporaryGo e o r
      pure r) := by with_unfolding_all rfl) : Ev c f l n (.Attribute e (Str.ofString "by_inner") pos) (fun v => DictIn c.w (fun _ => IsInt) n v p.2) :=
  Ev.fieldOf O h (fun v hv => by
    obtain ⟨a, d, B, k1, k2, t1, rfl, h1, h2, h3⟩ := hv
    exact ⟨a, 179, d, _, _, _, rfl, fd_179_by_inner _, h1, h2, rfl, rfl, h3⟩) he
/- the first tag -/
theorem Ev.tag0 (h : Ev c f l n e (TupIn c.w n (t :: ts))) (hs : ∀ (a : Addr) (y : Tok), subscripted (.Constant (.int 0) k pos') false (.ref a) (.int 0 y) = operate [.ref a, .int 0 y] (getItem (.ref a) (.int 0 y)) := by intro _ _; with_unfolding_all rfl) : Ev c f l n (.Subscript e (.Constant (.int 0) k pos') pos) (fun v => TagIn c.w n v t) :=
  Ev.sub h Ev.int fun v w hv hw => by
    obtain ⟨T, m, vs, rfl, h1, h2⟩ := hv
    obtain ⟨y, rfl⟩ := hw
    cases h2 with
    | cons h3 h4 => exact fun s Q E F N q => item_tupleT (j := 0) ⟨_, (N _ h1).1, rfl, _, rfl⟩ (by decide) (by decide) (by simp [seqIndex?]) rfl (q _ s.heap s.toks l n F N ⟨h3, rfl, rfl⟩) (hs _ _)
theorem Cp.nil_eq (O : c.Ok d u) (h : Ev c f l n e (TupIn c.w n ts)) : Cp c f l n e .Eq (.Tuple [] k pos) ts.isEmpty :=
  Ev.go h fun v ⟨T, m, vs, e1, h1, h2⟩ => by
    subst e1
    refine LW.tuple (LW.args_nil (LW.newTuple fun a _ => ?_))
    exact fun s Q E F N q => cmp_nil_eq N (.tail _ h1) (.head _) (units O) (q _ s.heap s.toks l n F (ndrop N) ⟨by cases h2 <;> rfl, rfl, rfl⟩)
theorem Cp.nil_ne (O : c.Ok d u) (h : Ev c f l n e (TupIn c.w n ts)) : Cp c f l n e .NotEq (.Tuple [] k pos) (!ts.isEmpty) :=
  Ev.go h fun v ⟨T, m, vs, e1, h1, h2⟩ => by
    subst e1
    refine LW.tuple (LW.args_nil (LW.newTuple fun a _ => ?_))
    exact fun s Q E F N q => cmp_nil_ne N (.tail _ h1) (.head _) (units O) (q _ s.heap s.toks l n F (ndrop N) ⟨by cases h2 <;> rfl, rfl, rfl⟩)
/- ints -/
theorem Cp.eqI (h1 : Ev c f l n e1 (IsI i)) (h2 : Ev c f l n e2 (IsI j)) : Cp c f l n e1 .Eq e2 (i == j) := Ev.go h1 fun _ ⟨_, q1⟩ => Ev.go h2 fun _ ⟨_, q2⟩ => by subst q1; subst q2; exact LW.eq ⟨rfl, rfl, rfl⟩
theorem Cp.neI (h1 : Ev c f l n e1 (IsI i)) (h2 : Ev c f l n e2 (IsI j)) : Cp c f l n e1 .NotEq e2 (i != j) := Ev.go h1 fun _ ⟨_, q1⟩ => Ev.go h2 fun _ ⟨_, q2⟩ => by subst q1; subst q2; exact LW.ne ⟨rfl, rfl, rfl⟩
theorem Cp.geI (h1 : Ev c f l n e1 (IsI i)) (h2 : Ev c f l n e2 (IsI j)) : Cp c f l n e1 .GtE e2 (decide (j ≤ i)) := Ev.go h1 fun _ ⟨_, q1⟩ => Ev.go h2 fun _ ⟨_, q2⟩ => by subst q1; subst q2; exact LW.ge ⟨rfl, rfl, rfl⟩
theorem Cp.gtI (h1 : Ev c f l n e1 (IsI i)) (h2 : Ev c f l n e2 (IsI j)) : Cp c f l n e1 .Gt e2 (decide (j < i)) := Ev.go h1 fun _ ⟨_, q1⟩ => Ev.go h2 fun _ ⟨_, q2⟩ => by subst q1; subst q2; exact LW.gt ⟨rfl, rfl, rfl⟩
theorem Cp.ltI (h1 : Ev c f l n e1 (IsI i)) (h2 : Ev c f l n e2 (IsI j)) : Cp c f l n e1 .Lt e2 (decide (i < j)) := Ev.go h1 fun _ ⟨_, q1⟩ => Ev.go h2 fun _ ⟨_, q2⟩ => by subst q1; subst q2; exact LW.lt ⟨rfl, rfl, rfl⟩
theorem Cp.isNone (h1 : Ev c f l n e1 (Is v)) : Cp c f l n e1 .Is (.Constant .none k pos) (v == .none) := Ev.go h1 fun _ q1 => by cases q1; exact LW.none fun s Q E F N q => is_none_gen (q _ s.heap s.toks l n F N ⟨rfl, rfl, rfl⟩)
theorem Cp.isNot (h1 : Ev c f l n e1 (Is v)) : Cp c f l n e1 .IsNot (.Constant .none k pos) (!(v == .none)) := Ev.go h1 fun _ q1 => by cases q1; exact LW.none fun s Q E F N q => isnot_none_gen (q _ s.heap s.toks l n F N ⟨rfl, rfl, rfl⟩)
/- dicts -/
section
variable {β : Type} {RR : Led → Value → β → Prop} {cfg : List (Int × β)}
theorem KvRel.isSome {R : Value → β → Prop} {kvs : List (Int × Value)} (h : KvRel R kvs cfg) (i : Int) : (valueAt kvs i).isSome = (look cfg i).isSome := by
  cases hl : look cfg i with
  | none => rw [h.none hl]; rfl
  | some b => obtain ⟨v, hv, _⟩ := h.some hl; rw [hv]; rfl
theorem Cp.notIn (h1 : Ev c f l n e1 (IsI i)) (h2 : Ev c f l n e2 (fun v => DictIn c.w RR n v cfg)) : Cp c f l n e1 .NotIn e2 (!(look cfg i).isSome) := Ev.go h1 fun _ ⟨t1, q1⟩ => Ev.go h2 fun _ ⟨D, o, kvs, q2, m1, m2, m3, m4⟩ => by
  subst q1; subst q2
  exact fun s Q E F N q => kdg_notin (knd := PySem.intKind _ _) N m1 m2 m3 (intKind_is _ _ _ _) _ (m4.isSome i) (q _ s.heap _ l n F N ⟨rfl, rfl, rfl⟩)
theorem Cp.in_ (h1 : Ev c f l n e1 (IsI i)) (h2 : Ev c f l n e2 (fun v => DictIn c.w RR n v cfg)) : Cp c f l n e1 .In e2 (look cfg i).isSome := Ev.go h1 fun _ ⟨t1, q1⟩ => Ev.go h2 fun _ ⟨D, o, kvs, q2, m1, m2, m3, m4⟩ => by
  subst q1; subst q2
  exact fun s Q E F N q => kda_in (knd := PySem.intKind _ _) N m1 m2 m3 (intKind_is _ _ _ _) _ (m4.isSome i) (q _ s.heap _ l n F N ⟨rfl, rfl, rfl⟩)
theorem Ev.dget {bv : β} (h1 : Ev c f l n e1 (fun v => DictIn c.w RR n v cfg)) (h2 : Ev c f l n e2 (IsI i)) (hl : look cfg i = some bv) (hs : ∀ (a : Addr) (y : Tok), subscripted e2 false (.ref a) (.int i y) = operate [.ref a, .int i y] (getItem (.ref a) (.int i y)) := by intro _ _; with_unfolding_all rfl) : Ev c f l n (.Subscript e1 e2 pos) (fun v => RR n v bv) :=
  Ev.sub h1 h2 fun _ _ ⟨D, o, kvs, q2, m1, m2, m3, m4⟩ ⟨t1, q1⟩ => by
    subst q1; subst q2
    obtain ⟨y, hy, hr⟩ := m4.some hl
    exact fun s Q E F N q => kba_turn (value' := PySem.Expr.Name (PySem.Str.ofString "_") ⟨0, 0, 0, 0⟩) (fun _ => rfl) (kda_item (knd := PySem.intKind _ _) N m1 m2 (intKind_is _ _ _ _) hy (q _ s.heap _ l n F N ⟨hr, rfl, rfl⟩) (hs _ _) (fun _ => rfl))
theorem Ev.lenTags (O : c.Ok d u) (h : Ev c f l n e (TupIn c.w n ts)) (hz : ts.length ≤ 1000) (hk : f.cs.kind = .function := by rfl) (hx : (c.env f).kindOf (Str.ofString "len") = some .globalImplicit := by rfl)
    (he : eval (.Call (.Name (Str.ofString "len") pos') [e] [] pos) (c.env f) = (do callWith pos (← eval (.Name (Str.ofString "len") pos') (c.env f)) [] (backTo pos (starEach [e] (c.env f))) (backToKw pos (keywordEach [] (c.env f)))) := by rfl)
    (h1 : starEach [e] (c.env f) = (false, eval e (c.env f)) :: starEach [] (c.env f) := by rfl) : Ev c f l n (.Call (.Name (Str.ofString "len") pos') [e] [] pos) (IsI (ts.length : Nat)) := by
  have key : LW c f l n (spliced (backTo pos (starEach [e] (c.env f)))) (fun vs l' n' => LW c f l' n' (PySem.call (.builtin "len") vs) (fun v l' n' => IsI (ts.length : Nat) v ∧ l' = l ∧ n' = n)) :=
    LW.args_cons (Ev.go h fun v hv => LW.args_nil (by
      obtain ⟨T, m, vs, rfl, m1, m2⟩ := hv
      have hl := m2.length
      exact fun s Q E F N q => len_tup N m1 (by omega) (q _ s.heap _ l n F N ⟨⟨_, by rw [hl]⟩, rfl, rfl⟩))) h1
  exact fun s Q E F N q => Call_ (nameX_B F O.X (topRead_of O.T) (b_len c.w).1 (b_len c.w).2.1 (b_len c.w).2.2 (callWith_builtin1 (key s _ E F N fun vs h' tk l' n' F' N' p => p { s with heap := h', toks := tk } Q E F' N' q) h1 rfl) hk hx (by decide)) he
end
end
end Mine
end
section
open PySem PySem.W PyProof.Rows PySem.Spec PySem.Calls PyProof.Rows.LCg
set_option Elab.async false
namespace Mine
/-- a contract of a call that changes nothing -/
def DoesV (w : Wd) (g : Addr) (args : List Value) (n : Led) (dep un : Nat) (V : Value → Prop) : Prop := Does w g args n dep un (fun r n' => V r ∧ n' = n)
/-- a contract of a call that adds to the ledger -/
def DoesG (w : Wd) (g : Addr) (args : List Value) (n : Led) (dep un : Nat) (T : Led → Value → Prop) : Prop := Does w g args n dep un (fun r n' => T n' r ∧ Grew n n')
section
variable {c : Ctx} {f : Fn} {l : Loc} {n : Led} {x : Str} {v : Value} {pos pos' : Pos} {k d u dep un : Nat} {V V1 V2 V3 V4 V5 W : Value → Prop} {e e1 e2 e3 e4 e5 : PySem.Expr} {b b' : Bool} {i j : Int} {g : Addr}
theorem LW.callV {R : Value → Loc → Led → Prop} {args : List Value} (O : c.Ok d u) (D : DoesV c.w g args n dep un V) (h : ∀ r, V r → R r l n) (hk : f.cs.kind = .function := by rfl) (hd : Nat.ble dep d = true := by rfl) (hu : Nat.ble un u = true := by rfl) : LW c f l n (PySem.call (.ref g) args) R :=
  LW.call O D (fun r n' ⟨h1, h2⟩ => by subst h2; exact h r h1) hk hd hu
theorem LW.callGr {T : Led → Value → Prop} {R : Value → Loc → Led → Prop} {args : List Value} (O : c.Ok d u) (D : DoesG c.w g args n dep un T) (h : ∀ r n', T n' r → Grew n n' → R r l n') (hk : f.cs.kind = .function := by rfl) (hd : Nat.ble dep d = true := by rfl) (hu : Nat.ble un u = true := by rfl) : LW c f l n (PySem.call (.ref g) args) R :=
  LW.call O D (fun r n' ⟨h1, h2⟩ => h r n' h1 h2) hk hd hu
theorem LW.meth {pl : Sem Bool} {R : Value → Loc → Led → Prop} {nm : Str} {C y dx : Addr} {o e : PySem.Expr} {es : List PySem.Expr} {ens : List DictEntry} (O : c.Ok d u) (M : Meth c.w.K C nm g) (h : Ev c f l n o (Is (.ref y))) (h1 : (y, instObj C dx) ∈ n) (h2 : (dx, dictOf ens k) ∈ n) (hl : getL nm ens = some .none)
    (ha : LW c f l n (spliced (backTo pos (starEach (e :: es) (c.env f)))) (fun vs l' n' => LW c f l' n' (PySem.call (.ref g) (.ref y :: vs)) R))
    (he : eval (.Call (.Attribute o nm pos') (e :: es) [] pos) (c.env f) = (do
      let ov ← eval o (c.env f)
      standAt pos'.atName
      let (f', first) ← holding [ov] (getMethod ov nm pl)
      callWith pos f' first (backTo pos (starEach (e :: es) (c.env f))) []) := by rfl)
    (h3 : starEach (e :: es) (c.env f) = (false, eval e (c.env f)) :: starEach es (c.env f) := by rfl) (h4 : ((backTo pos (starEach es (c.env f))).any fun x => x.fst) = false := by rfl) :
    LW c f l n (eval (.Call (.Attribute o nm pos') (e :: es) [] pos) (c.env f)) R := fun s Q E F N q =>
  MethodCall_ (pl := pl) (h s _ E F N fun ov h' tk l' n' F' N' ⟨q1, q2, q3⟩ => by
    subst q2; subst q3; cases q1
    exact method_inst F' O.X (InstAt.of_news N' h1 h2) M.1 M.2.1 M.2.2.1 hl (callWith_K O.X M.2.2.2 (ha { s with heap := h', toks := tk } _ E F' N' fun vs h2 tk2 l2 n2 F2 N2 p => ⟨O.X.keeps F2.keep, p { s with heap := h2, toks := tk2 } Q E F2 N2 q⟩) h3 h4)) he
theorem LW.args1 {R : List Value → Loc → Led → Prop} (h1 : Ev c f l n e1 V1) (k : ∀ v1, V1 v1 → R [v1] l n) (s0 : starEach [e1] (c.env f) = (false, eval e1 (c.env f)) :: starEach [] (c.env f) := by rfl) : LW c f l n (spliced (backTo pos (starEach [e1] (c.env f)))) R :=
  LW.args_cons (Ev.go h1 fun v1 w1 => LW.args_nil (k v1 w1)) s0
theorem Ev.gcall1 (O : c.Ok d u) (I : Global c.w.K x g) (h1 : Ev c f l n e1 V1) (D : ∀ v1, V1 v1 → DoesV c.w g [v1] n dep un V) (hk : f.cs.kind = .function := by rfl) (hd : Nat.ble dep d = true := by rfl) (hu : Nat.ble un u = true := by rfl) (hx : (c.env f).kindOf x = some .globalImplicit := by rfl) (hdb : (x == ("__debug__" : Str)) = false := by decide) (he : eval (.Call (.Name x pos') [e1] [] pos) (c.env f) = (do callWith pos (← eval (.Name x pos') (c.env f)) [] (backTo pos (starEach [e1] (c.env f))) (backToKw pos (keywordEach [] (c.env f)))) := by rfl) (s0 : starEach [e1] (c.env f) = (false, eval e1 (c.env f)) :: starEach [] (c.env f) := by rfl) (sa : ((backTo pos (starEach [] (c.env f))).any fun x => x.fst) = false := by rfl) : Ev c f l n (.Call (.Name x pos') [e1] [] pos) V :=
  LW.callG O I (LW.args1 h1 (fun v1 w1 => LW.callV O (D v1 w1) (fun r h => ⟨h, rfl, rfl⟩) hk hd hu) s0) hk hx hdb he s0 sa
theorem LW.gcall1 {T : Led → Value → Prop} {R : Value → Loc → Led → Prop} (O : c.Ok d u) (I : Global c.w.K x g) (h1 : Ev c f l n e1 V1) (D : ∀ v1, V1 v1 → DoesG c.w g [v1] n dep un T) (k : ∀ r n', T n' r → Grew n n' → R r l n') (hk : f.cs.kind = .function := by rfl) (hd : Nat.ble dep d = true := by rfl) (hu : Nat.ble un u = true := by rfl) (hx : (c.env f).kindOf x = some .globalImplicit := by rfl) (hdb : (x == ("__debug__" : Str)) = false := by decide) (he : eval (.Call (.Name x pos') [e1] [] pos) (c.env f) = (do callWith pos (← eval (.Name x pos') (c.env f)) [] (backTo pos (starEach [e1] (c.env f))) (backToKw pos (keywordEach [] (c.env f)))) := by rfl) (s0 : starEach [e1] (c.env f) = (false, eval e1 (c.env f)) :: starEach [] (c.env f) := by rfl) (sa : ((backTo pos (starEach [] (c.env f))).any fun x => x.fst) = false := by rfl) : LW c f l n (eval (.Call (.Name x pos') [e1] [] pos) (c.env f)) R :=
  LW.callG O I (LW.args1 h1 (fun v1 w1 => LW.callGr O (D v1 w1) k hk hd hu) s0) hk hx hdb he s0 sa
theorem LW.args2 {R : List Value → Loc → Led → Prop} (h1 : Ev c f l n e1 V1) (h2 : Ev c f l n e2 V2) (k : ∀ v1 v2, V1 v1 → V2 v2 → R [v1, v2] l n) (s0 : starEach [e1, e2] (c.env f) = (false, eval e1 (c.env f)) :: starEach [e2] (c.env f) := by rfl) (s1 : starEach [e2] (c.env f) = (false, eval e2 (c.env f)) :: starEach [] (c.env f) := by rfl) : LW c f l n (spliced (backTo pos (starEach [e1, e2] (c.env f)))) R :=
  LW.args_cons (Ev.go h1 fun v1 w1 => LW.args_cons (Ev.go h2 fun v2 w2 => LW.args_nil (k v1 v2 w1 w2)) s1) s0
theorem LW.gcall2 {T : Led → Value → Prop} {R : Value → Loc → Led → Prop} (O : c.Ok d u) (I : Global c.w.K x g) (h1 : Ev c f l n e1 V1) (h2 : Ev c f l n e2 V2) (D : ∀ v1 v2, V1 v1 → V2 v2 → DoesG c.w g [v1, v2] n dep un T) (k : ∀ r n', T n' r → Grew n n' → R r l n') (hk : f.cs.kind = .function := by rfl) (hd : Nat.ble dep d = true := by rfl) (hu : Nat.ble un u = true := by rfl) (hx : (c.env f).kindOf x = some .globalImplicit := by rfl) (hdb : (x == ("__debug__" : Str)) = false := by decide) (he : eval (.Call (.Name x pos') [e1, e2] [] pos) (c.env f) = (do callWith pos (← eval (.Name x pos') (c.env f)) [] (backTo pos (starEach [e1, e2] (c.env f))) (backToKw pos (keywordEach [] (c.env f)))) := by rfl) (s0 : starEach [e1, e2] (c.env f) = (false, eval e1 (c.env f)) :: starEach [e2] (c.env f) := by rfl) (s1 : starEach [e2] (c.env f) = (false, eval e2 (c.env f)) :: starEach [] (c.env f) := by rfl) (sa : ((backTo pos (starEach [e2] (c.env f))).any fun x => x.fst) = false := by rfl) : LW c f l n (eval (.Call (.Name x pos') [e1, e2] [] pos) (c.env f)) R :=
  LW.callG O I (LW.args2 h1 h2 (fun v1 v2 w1 w2 => LW.callGr O (D v1 v2 w1 w2) k hk hd hu) s0 s1) hk hx hdb he s0 sa
theorem Ev.tcall2 {pl : Sem Bool} {nm : Str} {t P I S : Addr} (O : c.Ok d u) (hT : TunAt c.w n t P I S) (M : Meth c.w.K 268 nm g) (h0 : Ev c f l n e (Is (.ref t)))  (h1 : Ev c f l n e1 V1) (h2 : Ev c f l n e2 V2) (D : ∀ v1 v2, V1 v1 → V2 v2 → DoesV c.w g [.ref t, v1, v2] n dep un V) (hk : f.cs.kind = .function := by rfl) (hd : Nat.ble dep d = true := by rfl) (hu : Nat.ble un u = true := by rfl) (hn : ∀ k1 k2 k3, getL nm [⟨PyData.keyHash c.w.params (Str.ofString "ports"), .str (Str.ofString "ports") k1, .ref P⟩, ⟨PyData.keyHash c.w.params (Str.ofString "inside"), .str (Str.ofString "inside") k2, .ref I⟩, ⟨PyData.keyHash c.w.params (Str.ofString "strict"), .str (Str.ofString "strict") k3, .ref S⟩] = some .none := by intro _ _ _; rfl) (he : eval (.Call (.Attribute e nm pos') [e1, e2] [] pos) (c.env f) = (do
      let ov ← eval e (c.env f)
      standAt pos'.atName
      let (f', first) ← holding [ov] (getMethod ov nm pl)
      callWith pos f' first (backTo pos (starEach [e1, e2] (c.env f))) []) := by rfl) (s0 : starEach [e1, e2] (c.env f) = (false, eval e1 (c.env f)) :: starEach [e2] (c.env f) := by rfl) (s1 : starEach [e2] (c.env f) = (false, eval e2 (c.env f)) :: starEach [] (c.env f) := by rfl) (sa : ((backTo pos (starEach [e2] (c.env f))).any fun x => x.fst) = false := by rfl) : Ev c f l n (.Call (.Attribute e nm pos') [e1, e2] [] pos) V := by
  obtain ⟨d1, k1, k2, k3, m1, m2⟩ := hT
  exact LW.meth O M h0 m1 m2 (hn _ _ _) (LW.args2 h1 h2 (fun v1 v2 w1 w2 => LW.callV O (D v1 v2 w1 w2) (fun r h => ⟨h, rfl, rfl⟩) hk hd hu) s0 s1) he s0 sa
theorem LW.tcall2 {T : Led → Value → Prop} {R : Value → Loc → Led → Prop} {pl : Sem Bool} {nm : Str} {t P I S : Addr} (O : c.Ok d u) (hT : TunAt c.w n t P I S) (M : Meth c.w.K 268 nm g) (h0 : Ev c f l n e (Is (.ref t)))  (h1 : Ev c f l n e1 V1) (h2 : Ev c f l n e2 V2) (D : ∀ v1 v2, V1 v1 → V2 v2 → DoesG c.w g [.ref t, v1, v2] n dep un T) (k : ∀ r n', T n' r → Grew n n' → R r l n') (hk : f.cs.kind = .function := by rfl) (hd : Nat.ble dep d = true := by rfl) (hu : Nat.ble un u = true := by rfl) (hn : ∀ k1 k2 k3, getL nm [⟨PyData.keyHash c.w.params (Str.ofString "ports"), .str (Str.ofString "ports") k1, .ref P⟩, ⟨PyData.keyHash c.w.params (Str.ofString "inside"), .str (Str.ofString "inside") k2, .ref I⟩, ⟨PyData.keyHash c.w.params (Str.ofString "strict"), .str (Str.ofString "strict") k3, .ref S⟩] = some .none := by intro _ _ _; rfl) (he : eval (.Call (.Attribute e nm pos') [e1, e2] [] pos) (c.env f) = (do
      let ov ← eval e (c.env f)
      standAt pos'.atName
      let (f', first) ← holding [ov] (getMethod ov nm pl)
      callWith pos f' first (backTo pos (starEach [e1, e2] (c.env f))) []) := by rfl) (s0 : starEach [e1, e2] (c.env f) = (false, eval e1 (c.env f)) :: starEach [e2] (c.env f) := by rfl) (s1 : starEach [e2] (c.env f) = (false, eval e2 (c.env f)) :: starEach [] (c.env f) := by rfl) (sa : ((backTo pos (starEach [e2] (c.env f))).any fun x => x.fst) = false := by rfl) : LW c f l n (eval (.Call (.Attribute e nm pos') [e1, e2] [] pos) (c.env f)) R := by
  obtain ⟨d1, k1, k2, k3, m1, m2⟩ := hT
  exact LW.meth O M h0 m1 m2 (hn _ _ _) (LW.args2 h1 h2 (fun v1 v2 w1 w2 => LW.callGr O (D v1 v2 w1 w2) k hk hd hu) s0 s1) he s0 sa
theorem LW.args3 {R : List Value → Loc → Led → Prop} (h1 : Ev c f l n e1 V1) (h2 : Ev c f l n e2 V2) (h3 : Ev c f l n e3 V3) (k : ∀ v1 v2 v3, V1 v1 → V2 v2 → V3 v3 → R [v1, v2, v3] l n) (s0 : starEach [e1, e2, e3] (c.env f) = (false, eval e1 (c.env f)) :: starEach [e2, e3] (c.env f) := by rfl) (s1 : starEach [e2, e3] (c.env f) = (false, eval e2 (c.env f)) :: starEach [e3] (c.env f) := by rfl) (s2 : starEach [e3] (c.env f) = (false, eval e3 (c.env f)) :: starEach [] (c.env f) := by rfl) : LW c f l n (spliced (backTo pos (starEach [e1, e2, e3] (c.env f)))) R :=
  LW.args_cons (Ev.go h1 fun v1 w1 => LW.args_cons (Ev.go h2 fun v2 w2 => LW.args_cons (Ev.go h3 fun v3 w3 => LW.args_nil (k v1 v2 v3 w1 w2 w3)) s2) s1) s0
theorem Ev.gcall3 (O : c.Ok d u) (I : Global c.w.K x g) (h1 : Ev c f l n e1 V1) (h2 : Ev c f l n e2 V2) (h3 : Ev c f l n e3 V3) (D : ∀ v1 v2 v3, V1 v1 → V2 v2 → V3 v3 → DoesV c.w g [v1, v2, v3] n dep un V) (hk : f.cs.kind = .function := by rfl) (hd : Nat.ble dep d = true := by rfl) (hu : Nat.ble un u = true := by rfl) (hx : (c.env f).kindOf x = some .globalImplicit := by rfl) (hdb : (x == ("__debug__" : Str)) = false := by decide) (he : eval (.Call (.Name x pos') [e1, e2, e3] [] pos) (c.env f) = (do callWith pos (← eval (.Name x pos') (c.env f)) [] (backTo pos (starEach [e1, e2, e3] (c.env f))) (backToKw pos (keywordEach [] (c.env f)))) := by rfl) (s0 : starEach [e1, e2, e3] (c.env f) = (false, eval e1 (c.env f)) :: starEach [e2, e3] (c.env f) := by rfl) (s1 : starEach [e2, e3] (c.env f) = (false, eval e2 (c.env f)) :: starEach [e3] (c.env f) := by rfl) (s2 : starEach [e3] (c.env f) = (false, eval e3 (c.env f)) :: starEach [] (c.env f) := by rfl) (sa : ((backTo pos (starEach [e2, e3] (c.env f))).any fun x => x.fst) = false := by rfl) : Ev c f l n (.Call (.Name x pos') [e1, e2, e3] [] pos) V :=
  LW.callG O I (LW.args3 h1 h2 h3 (fun v1 v2 v3 w1 w2 w3 => LW.callV O (D v1 v2 v3 w1 w2 w3) (fun r h => ⟨h, rfl, rfl⟩) hk hd hu) s0 s1 s2) hk hx hdb he s0 sa
theorem LW.gcall3 {T : Led → Value → Prop} {R : Value → Loc → Led → Prop} (O : c.Ok d u) (I : Global c.w.K x g) (h1 : Ev c f l n e1 V1) (h2 : Ev c f l n e2 V2) (h3 : Ev c f l n e3 V3) (D : ∀ v1 v2 v3, V1 v1 → V2 v2 → V3 v3 → DoesG c.w g [v1, v2, v3] n dep un T) (k : ∀ r n', T n' r → Grew n n' → R r l n') (hk : f.cs.kind = .function := by rfl) (hd : Nat.ble dep d = true := by rfl) (hu : Nat.ble un u = true := by rfl) (hx : (c.env f).kindOf x = some .globalImplicit := by rfl) (hdb : (x == ("__debug__" : Str)) = false := by decide) (he : eval (.Call (.Name x pos') [e1, e2, e3] [] pos) (c.env f) = (do callWith pos (← eval (.Name x pos') (c.env f)) [] (backTo pos (starEach [e1, e2, e3] (c.env f))) (backToKw pos (keywordEach [] (c.env f)))) := by rfl) (s0 : starEach [e1, e2, e3] (c.env f) = (false, eval e1 (c.env f)) :: starEach [e2, e3] (c.env f) := by rfl) (s1 : starEach [e2, e3] (c.env f) = (false, eval e2 (c.env f)) :: starEach [e3] (c.env f) := by rfl) (s2 : starEach [e3] (c.env f) = (false, eval e3 (c.env f)) :: starEach [] (c.env f) := by rfl) (sa : ((backTo pos (starEach [e2, e3] (c.env f))).any fun x => x.fst) = false := by rfl) : LW c f l n (eval (.Call (.Name x pos') [e1, e2, e3] [] pos) (c.env f)) R :=
  LW.callG O I (LW.args3 h1 h2 h3 (fun v1 v2 v3 w1 w2 w3 => LW.callGr O (D v1 v2 v3 w1 w2 w3) k hk hd hu) s0 s1 s2) hk hx hdb he s0 sa
theorem LW.args4 {R : List Value → Loc → Led → Prop} (h1 : Ev c f l n e1 V1) (h2 : Ev c f l n e2 V2) (h3 : Ev c f l n e3 V3) (h4 : Ev c f l n e4 V4) (k : ∀ v1 v2 v3 v4, V1 v1 → V2 v2 → V3 v3 → V4 v4 → R [v1, v2, v3, v4] l n) (s0 : starEach [e1, e2, e3, e4] (c.env f) = (false, eval e1 (c.env f)) :: starEach [e2, e3, e4] (c.env f) := by rfl) (s1 : starEach [e2, e3, e4] (c.env f) = (false, eval e2 (c.env f)) :: starEach [e3, e4] (c.env f) := by rfl) (s2 : starEach [e3, e4] (c.env f) = (false, eval e3 (c.env f)) :: starEach [e4] (c.env f) := by rfl) (s3 : starEach [e4] (c.env f) = (false, eval e4 (c.env f)) :: starEach [] (c.env f) := by rfl) : LW c f l n (spliced (backTo pos (starEach [e1, e2, e3, e4] (c.env f)))) R :=
  LW.args_cons (Ev.go h1 fun v1 w1 => LW.args_cons (Ev.go h2 fun v2 w2 => LW.args_cons (Ev.go h3 fun v3 w3 => LW.args_cons (Ev.go h4 fun v4 w4 => LW.args_nil (k v1 v2 v3 v4 w1 w2 w3 w4)) s3) s2) s1) s0
theorem Ev.gcall4 (O : c.Ok d u) (I : Global c.w.K x g) (h1 : Ev c f l n e1 V1) (h2 : Ev c f l n e2 V2) (h3 : Ev c f l n e3 V3) (h4 : Ev c f l n e4 V4) (D : ∀ v1 v2 v3 v4, V1 v1 → V2 v2 → V3 v3 → V4 v4 → DoesV c.w g [v1, v2, v3, v4] n dep un V) (hk : f.cs.kind = .function := by rfl) (hd : Nat.ble dep d = true := by rfl) (hu : Nat.ble un u = true := by rfl) (hx : (c.env f).kindOf x = some .globalImplicit := by rfl) (hdb : (x == ("__debug__" : Str)) = false := by decide) (he : eval (.Call (.Name x pos') [e1, e2, e3, e4] [] pos) (c.env f) = (do callWith pos (← eval (.Name x pos') (c.env f)) [] (backTo pos (starEach [e1, e2, e3, e4] (c.env f))) (backToKw pos (keywordEach [] (c.env f)))) := by rfl) (s0 : starEach [e1, e2, e3, e4] (c.env f) = (false, eval e1 (c.env f)) :: starEach [e2, e3, e4] (c.env f) := by rfl) (s1 : starEach [e2, e3, e4] (c.env f) = (false, eval e2 (c.env f)) :: starEach [e3, e4] (c.env f) := by rfl) (s2 : starEach [e3, e4] (c.env f) = (false, eval e3 (c.env f)) :: starEach [e4] (c.env f) := by rfl) (s3 : starEach [e4] (c.env f) = (false, eval e4 (c.env f)) :: starEach [] (c.env f) := by rfl) (sa : ((backTo pos (starEach [e2, e3, e4] (c.env f))).any fun x => x.fst) = false := by rfl) : Ev c f l n (.Call (.Name x pos') [e1, e2, e3, e4] [] pos) V :=
  LW.callG O I (LW.args4 h1 h2 h3 h4 (fun v1 v2 v3 v4 w1 w2 w3 w4 => LW.callV O (D v1 v2 v3 v4 w1 w2 w3 w4) (fun r h => ⟨h, rfl, rfl⟩) hk hd hu) s0 s1 s2 s3) hk hx hdb he s0 sa
theorem LW.args5 {R : List Value → Loc → Led → Prop} (h1 : Ev c f l n e1 V1) (h2 : Ev c f l n e2 V2) (h3 : Ev c f l n e3 V3) (h4 : Ev c f l n e4 V4) (h5 : Ev c f l n e5 V5) (k : ∀ v1 v2 v3 v4 v5, V1 v1 → V2 v2 → V3 v3 → V4 v4 → V5 v5 → R [v1, v2, v3, v4, v5] l n) (s0 : starEach [e1, e2, e3, e4, e5] (c.env f) = (false, eval e1 (c.env f)) :: starEach [e2, e3, e4, e5] (c.env f) := by rfl) (s1 : starEach [e2, e3, e4, e5] (c.env f) = (false, eval e2 (c.env f)) :: starEach [e3, e4, e5] (c.env f) := by rfl) (s2 : starEach [e3, e4, e5] (c.env f) = (false, eval e3 (c.env f)) :: starEach [e4, e5] (c.env f) := by rfl) (s3 : starEach [e4, e5] (c.env f) = (false, eval e4 (c.env f)) :: starEach [e5] (c.env f) := by rfl) (s4 : starEach [e5] (c.env f) = (false, eval e5 (c.env f)) :: starEach [] (c.env f) := by rfl) : LW c f l n (spliced (backTo pos (starEach [e1, e2, e3, e4, e5] (c.env f)))) R :=
  LW.args_cons (Ev.go h1 fun v1 w1 => LW.args_cons (Ev.go h2 fun v2 w2 => LW.args_cons (Ev.go h3 fun v3 w3 => LW.args_cons (Ev.go h4 fun v4 w4 => LW.args_cons (Ev.go h5 fun v5 w5 => LW.args_nil (k v1 v2 v3 v4 v5 w1 w2 w3 w4 w5)) s4) s3) s2) s1) s0
end
end Mine
end
section
open PySem PySem.W PyProof.Rows PySem.Spec PySem.Calls PyProof.Rows.LCg
set_option Elab.async false
namespace Mine
section
variable {c : Ctx} {f : Fn} {l : Loc} {n : Led} {x : Str} {v : Value} {pos pos' : Pos} {k d u dep un : Nat} {V V1 V2 V3 V4 V5 W : Value → Prop} {e e1 e2 e3 e4 e5 : PySem.Expr} {b b' : Bool} {i j : Int} {g : Addr} {β : Type} {RR : Led → Value → β → Prop} {cfg : List (Int × β)}
def OrElse (RR : Led → Value → β → Prop) (n : Led) (cfg : List (Int × β)) (i : Int) (W : Value → Prop) (v : Value) : Prop := (∀ b, look cfg i = some b → RR n v b) ∧ (look cfg i = none → W v)
theorem Ev.get {pl : Sem Bool} (h0 : Ev c f l n e (fun v => DictIn c.w RR n v cfg)) (h1 : Ev c f l n e1 (IsI i)) (h2 : Ev c f l n e2 W)
    (he : eval (.Call (.Attribute e (Str.ofString "get") pos') [e1, e2] [] pos) (c.env f) = (do
      let ov ← eval e (c.env f)
      standAt pos'.atName
      let (f', first) ← holding [ov] (getMethod ov (Str.ofString "get") pl)
      callWith pos f' first (backTo pos (starEach [e1, e2] (c.env f))) []) := by rfl)
    (s0 : starEach [e1, e2] (c.env f) = (false, eval e1 (c.env f)) :: starEach [e2] (c.env f) := by rfl) (s1 : starEach [e2] (c.env f) = (false, eval e2 (c.env f)) :: starEach [] (c.env f) := by rfl) (sa : ((backTo pos (starEach [e2] (c.env f))).any fun x => x.fst) = false := by rfl) :
    Ev c f l n (.Call (.Attribute e (Str.ofString "get") pos') [e1, e2] [] pos) (OrElse RR n cfg i W) := fun s Q E F N q =>
  MethodCall_ (pl := pl) (h0 s _ E F N fun ov h' tk l' n' F' N' ⟨⟨D, o, kvs, q1, m1, m2, m3, m4⟩, q2, q3⟩ => by
    subst q1; subst q2; subst q3
    refine kdg_method (knd := PySem.intKind _ _) N' m1 m2 ?_
    have key : LW c f l' n' (spliced (backTo pos (starEach [e1, e2] (c.env f)))) (fun vs l3 n3 => LW c f l3 n3 (PySem.call (.builtin "dict.get") (.ref D :: vs)) (fun v l4 n4 => OrElse RR n' cfg i W v ∧ l4 = l' ∧ n4 = n')) := 
      LW.args2 h1 h2 (fun v1 v2 ⟨t, w1⟩ w2 => by
        subst w1
        refine fun s Q E F N q => kdg_get2 (knd := PySem.intKind _ _) N m1 m2 m3 (intKind_is _ _ _ _) (valueAt kvs i) rfl (q _ s.heap _ l' n' F N ⟨⟨fun b hb => ?_, fun hb => ?_⟩, rfl, rfl⟩)
        · obtain ⟨y, hy, hr⟩ := m4.some hb
          rw [hy]; exact hr
        · rw [m4.none hb]; exact w2) s0 s1
    exact callWith_method1 (key { s with heap := h', toks := tk } _ E F' N' fun vs h' tk l' n' F' N' p => p { s with heap := h', toks := tk } Q E F' N' q) s0 sa) he
theorem orElse_int {cfg : List (Int × Int)} (h : OrElse (fun _ => IsInt) n cfg i (IsI j) v) : IsI ((look cfg i).getD j) v := by
  cases hl : look cfg i with
  | none => exact h.2 hl
  | some b => exact h.1 b hl
theorem orElse_bool {cfg : List (Int × Bool)} (h : OrElse (fun _ => IsBool) n cfg i (Is (.bool b)) v) : Is (.bool ((look cfg i).getD b)) v := by
  cases hl : look cfg i with
  | none => exact h.2 hl
  | some b => exact h.1 b hl
theorem Ev.getI {pl : Sem Bool} {cfg : List (Int × Int)} (h0 : Ev c f l n e (fun v => DictIn c.w (fun _ => IsInt) n v cfg)) (h1 : Ev c f l n e1 (IsI i)) (h2 : Ev c f l n e2 (IsI j))
    (he : eval (.Call (.Attribute e (Str.ofString "get") pos') [e1, e2] [] pos) (c.env f) = (do
      let ov ← eval e (c.env f)
      standAt pos'.atName
      let (f', first) ← holding [ov] (getMethod ov (Str.ofString "get") pl)
      callWith pos f' first (backTo pos (starEach [e1, e2] (c.env f))) []) := by rfl)
    (s0 : starEach [e1, e2] (c.env f) = (false, eval e1 (c.env f)) :: starEach [e2] (c.env f) := by rfl) (s1 : starEach [e2] (c.env f) = (false, eval e2 (c.env f)) :: starEach [] (c.env f) := by rfl) (sa : ((backTo pos (starEach [e2] (c.env f))).any fun x => x.fst) = false := by rfl) :
    Ev c f l n (.Call (.Attribute e (Str.ofString "get") pos') [e1, e2] [] pos) (IsI ((look cfg i).getD j)) := Ev.weak (Ev.get h0 h1 h2 he s0 s1 sa) fun _ h => orElse_int h
end
end Mine
end
section
open PySem PySem.W PyProof.Rows PySem.Spec PySem.Calls PyProof.Rows.LCg
set_option Elab.async false
namespace Mine
section
variable {c : Ctx} {f : Fn} {l : Loc} {n : Led} {x : Str} {v : Value} {pos pos' : Pos} {k d u dep un : Nat} {V V1 V2 V3 V4 V5 W : Value → Prop} {e e1 e2 e3 e4 e5 : PySem.Expr} {b b' : Bool} {i j : Int} {g : Addr}
/-- a new instance: the walk of __init__ -/
theorem LW.new {R : Value → Loc → Led → Prop} {C fI : Addr} {args : List Value} {name qual : Str} {params : Arguments} {body : List Stmt} {scope : Scope} {dV kV doc pm cdv ct oc : Value} {an od : Option Addr} {osl : Array (Option Value)} {binds : Addr → List (Str × Value)}
    (O : c.Ok d u) (I : Cls c.w.K C fI)
    (ho : c.w.K.lookup fI = some ⟨oc, od, .func (fnOf name qual params body scope dV kV doc pm an cdv ct), osl⟩) (hcd : codeIn c.w.K cdv qual = true)
    (hbind : ∀ y, bindArgs (fnOf name qual params body scope dV kV doc pm an cdv ct) ⟨.ref y :: args, []⟩ = pure (binds y)) (hloc : ∀ a, ∀ y ∈ binds a, scope.names.lookup y.1 = some .local)
    (hco : scope.isCoroutine = false) (hgen : scope.isGenerator = false) (hks : scope.kind = .function) (hcell : ∀ x ∈ scope.names, x.2 ≠ .cell)
    (H : ∀ (c' : Ctx) (y dy : Addr), c'.w = c.w → c'.cl = [] → c'.Ok dep un → (∀ p ∈ n, @LT.lt Nat _ p.1 dy) → @LT.lt Nat _ dy y → LW c' ⟨qual, scope, fI, cdv⟩ (binds y).reverse ((y, instObj C dy) :: (dy, dictOf [] 0) :: n) (execs body (c'.env ⟨qual, scope, fI, cdv⟩)) (Out fun r n' => r = .none ∧ R (.ref y) l n'))
    (hk : f.cs.kind = .function := by rfl) (hd : Nat.ble (dep + 2) d = true := by rfl) (hu : Nat.ble (un + 4) u = true := by rfl) : LW c f l n (PySem.call (.ref C) args) R := fun s Q E F N q => by
  have h1 := Nat.le_of_ble_eq_true hd
  have h2 := Nat.le_of_ble_eq_true hu
  have h3 := O.hd
  have h4 := O.hu
  refine call_cls F O.X N I.1 I.2.1 I.2.2 fun y dy h' F' N' l1 l2 => ?_
  refine code_def (A := ktrTop (c.dp+1) (c.u+1) c.gd f.cn f.cs c.L f.ca f.ccd c.cl c.outer) O.B F' O.X N' O.T rfl rfl hk ho hcd (by show c.dp + 1 < _; omega) (BindsTo.of_eq (hbind y)) (hloc y) (fun g' L' h₁ FG F2 N2 B' X' T' => ?_) hco hgen hks hcell
  exact H ⟨c.w, c.mean, c.mg, c.mb, c.dp + 2, c.u + 4, c.gd, L', [], _, _, c.base, g'⟩ y dy rfl rfl ⟨B', X', T', by show c.dp + 2 + dep < _; omega, by show c.u + 4 + un < _; omega⟩ l1 l2 _ _ ⟨_, by passes_own⟩ F2 N2
    fun fl h3 tk l3 n3 F3 N3 r => leaveK_ F3 N3 fun F4 N4 => ⟨r.1, q _ h3 tk l n3 F4 N4 r.2⟩
/-- self.nm = e within __init__ -/
theorem St.init {R : Flow → Loc → Led → Prop} {C y dy : Addr} {nm : Str} {es : List DictEntry} {o : PySem.Expr} {rest : List Stmt} (O : c.Ok d u) (I : Sets c.w.K C nm) (l1 : ∀ p ∈ n, @LT.lt Nat _ p.1 dy) (l2 : @LT.lt Nat _ dy y)
    (h : Ev c f l ((y, instObj C dy) :: (dy, dictOf es k) :: n) e V) (h0 : Ev c f l ((y, instObj C dy) :: (dy, dictOf es k) :: n) o (Is (.ref y)))
    (r : ∀ v t, V v → LW c f l ((y, instObj C dy) :: (dy, dictOf (putL nm (PyData.keyHash c.w.params nm) (.str nm t) v es) (putN nm es k)) :: n) (execs rest (c.env f)) R)
    (hl : (getL nm es).isSome = true := by rfl) (hz : ∀ v t, Nat.ble (putL nm (PyData.keyHash c.w.params nm) (.str nm t) v es).length 1000 = true := by intro _ _; rfl) (hs : swapsWith e (some (o.Attribute nm pos')) pos.line (c.env f) = pure false := by rfl) :
    LW c f l ((y, instObj C dy) :: (dy, dictOf es k) :: n) (execs (.Assign [.Attribute o nm pos'] e pos :: rest) (c.env f)) R :=
  LW.cons (LW.assign_attr (Ev.go h fun v hv => Ev.go h0 fun _ q0 => by
    cases q0
    have e1 : (⟨.ref C, some dy, .plain, #[]⟩ : Obj) = instObj C dy := rfl
    exact fun s Q E F N q => set_dict F O.X N (InstAt.of_news N (.head _) (.tail _ (.head _))) rfl I.1 I.2.1 I.2.2.1 I.2.2.2 hl rfl (.tail (Nat.ne_of_gt l2) (.head fun p hp => Nat.ne_of_lt (l1 p hp))) (Nat.le_of_ble_eq_true (hz v _))
      fun h' F' N' => q () h' _ l _ F' N' (r v _ hv)) hs)
end
theorem LW.newF {c : Ctx} {f : Fn} {l : Loc} {n : Led} {dep un d u : Nat} {R : Value → Loc → Led → Prop} {C fI : Addr} {args : List Value} {st : Stmt} {q : Str} {binds : Addr → List (Str × Value)}
    (O : c.Ok d u) (I : Cls c.w.K C fI) (hf : FnAt c.w.K fI st q)
    (hbind : ∀ y doc pm an cdv ct, bindArgs (fnOf (fnN st) q (fnP st) (fnB st) (fnS st) .none .none doc pm an cdv ct) ⟨.ref y :: args, []⟩ = pure (binds y)) (hloc : ∀ a, ∀ y ∈ binds a, (fnS st).names.lookup y.1 = some .local)
    (hco : (fnS st).isCoroutine = false) (hgen : (fnS st).isGenerator = false) (hks : (fnS st).kind = .function) (hcell : ∀ x ∈ (fnS st).names, x.2 ≠ .cell)
    (H : ∀ (c' : Ctx) (cdv : Value) (y dy : Addr), c'.w = c.w → c'.cl = [] → c'.Ok dep un → (∀ p ∈ n, @LT.lt Nat _ p.1 dy) → @LT.lt Nat _ dy y → LW c' ⟨q, fnS st, fI, cdv⟩ (binds y).reverse ((y, instObj C dy) :: (dy, dictOf [] 0) :: n) (execs (fnB st) (c'.env ⟨q, fnS st, fI, cdv⟩)) (Out fun r n' => r = .none ∧ R (.ref y) l n'))
    (hk : f.cs.kind = .function := by rfl) (hd : Nat.ble (dep + 2) d = true := by rfl) (hu : Nat.ble (un + 4) u = true := by rfl) : LW c f l n (PySem.call (.ref C) args) R := by
  obtain ⟨doc, pm, cdv, ct, oc, an, od, osl, ho, hcd⟩ := hf
  exact LW.new O I ho hcd (fun y => hbind y doc pm an cdv ct) hloc hco hgen hks hcell (fun c' => H c' cdv) hk hd hu

end Mine
end
section
open PySem PySem.W PyProof.Rows PySem.Spec PySem.Calls PyProof.Rows.LCg
set_option Elab.async false
namespace Mine
section
variable {c : Ctx} {f : Fn} {l : Loc} {n : Led} {x : Str} {v : Value} {pos pos' : Pos} {k d u dep un : Nat} {V V1 V2 V3 V4 V5 W : Value → Prop} {e e1 e2 e3 e4 e5 : PySem.Expr} {b b' : Bool} {i j : Int} {g : Addr} {ts : List TagD}
theorem Ev.nameF {fr : FrameD} (hv : l.lookup x = some v) (h : FrameIn c.w n v fr) (hk : f.cs.kind = .function := by rfl) (hx : (c.env f).kindOf x = some .local := by rfl) (hd : (x == ("__debug__" : Str)) = false := by decide) : Ev c f l n (.Name x pos) (fun v => FrameIn c.w n v fr) := Ev.name hv h hk hx hd
theorem Ev.nameT {t : TagD} (hv : l.lookup x = some v) (h : TagIn c.w n v t) (hk : f.cs.kind = .function := by rfl) (hx : (c.env f).kindOf x = some .local := by rfl) (hd : (x == ("__debug__" : Str)) = false := by decide) : Ev c f l n (.Name x pos) (fun v => TagIn c.w n v t) := Ev.name hv h hk hx hd
theorem Ev.tags {fr : FrameD} (O : c.Ok d u) (ht : fr.tags = ts) (h : Ev c f l n e (fun v => FrameIn c.w n v fr))
    (he : eval (.Attribute e (Str.ofString "tags") pos) (c.env f) = (do
      let o ← eval e (c.env f)
      standAt pos.atName
      let r ← holding [o] (getAttr o (Str.ofString "tags") true)
      letTemporaryGo e o r
      pure r) := by with_unfolding_all rfl) : Ev c f l n (.Attribute e (Str.ofString "tags") pos) (TupIn c.w n ts) := ht ▸ Ev.fr_tags O h he
/-- an expression that may add to the ledger -/
def Ex (c : Ctx) (f : Fn) (l : Loc) (n : Led) (e : PySem.Expr) (T : Led → Value → Prop) : Prop := LW c f l n (eval e (c.env f)) (fun v l' n' => T n' v ∧ Grew n n' ∧ l' = l)
theorem Ex.go {R : Value → Loc → Led → Prop} {T : Led → Value → Prop} (h : Ex c f l n e T) (r : ∀ v n', T n' v → Grew n n' → R v l n') : LW c f l n (eval e (c.env f)) R :=
  LW.mono h (fun v l' n' ⟨h1, h2, h3⟩ => by subst h3; exact r v n' h1 h2)
theorem Ex.ev {T : Led → Value → Prop} (h : Ev c f l n e (T n)) : Ex c f l n e T := Ev.go h fun v hv => ⟨hv, Grew.refl _, rfl⟩
theorem St.ret_ {R : Flow → Loc → Led → Prop} {rest : List Stmt} (h : LW c f l n (eval e (c.env f)) (fun v l' n' => R (.ret v) l' n')) : LW c f l n (execs (.Return (some e) pos :: rest) (c.env f)) R := LW.cons (LW.ret h)
theorem St.asg_ {R : Flow → Loc → Led → Prop} {rest : List Stmt} (h : LW c f l n (eval e (c.env f)) (fun v l' n' => LW c f ((x, v) :: l') n' (execs rest (c.env f)) R))
    (hk : f.cs.kind = .function := by rfl) (hx : (c.env f).kindOf x = some .local := by rfl) (hs : swapsWith e (some (.Name x pos')) pos.line (c.env f) = pure false := by rfl) :
    LW c f l n (execs (.Assign [.Name x pos'] e pos :: rest) (c.env f)) R := LW.cons (LW.assign h hk hx hs)
theorem St.expr_ {R : Flow → Loc → Led → Prop} {rest : List Stmt} (h : LW c f l n (eval e (c.env f)) (fun _ l' n' => LW c f l' n' (execs rest (c.env f)) R))
    (hi : interactive (c.env f) = false := by rfl) (hs : swapsWith e .none pos.line (c.env f) = pure false := by rfl) : LW c f l n (execs (.Expr e pos :: rest) (c.env f)) R :=
  LW.cons (fun s Q E F N q => wpAny_Expr_any (h s _ E F N fun v h' tk l' n' F' N' p => q .next h' tk l' n' F' N' p) hi hs)
theorem St.expr {R : Flow → Loc → Led → Prop} {rest : List Stmt} (h : Ev c f l n e V) (k : LW c f l n (execs rest (c.env f)) R)
    (hi : interactive (c.env f) = false := by rfl) (hs : swapsWith e .none pos.line (c.env f) = pure false := by rfl) : LW c f l n (execs (.Expr e pos :: rest) (c.env f)) R := St.expr_ (Ev.go h fun _ _ => k) hi hs
theorem Ev.tupleSame {T : Addr} {vs : List Value} {m : Nat} (O : c.Ok d u) (m1 : (T, tupOf vs m) ∈ n) (h : Ev c f l n e (Is (.ref T))) 
    (hk : f.cs.kind = .function := by rfl) (hx : (c.env f).kindOf (Str.ofString "tuple") = some .globalImplicit := by rfl)
    (he : eval (.Call (.Name (Str.ofString "tuple") pos') [e] [] pos) (c.env f) = (do callWith pos (← eval (.Name (Str.ofString "tuple") pos') (c.env f)) [] (backTo pos (starEach [e] (c.env f))) (backToKw pos (keywordEach [] (c.env f)))) := by rfl)
    (h1 : starEach [e] (c.env f) = (false, eval e (c.env f)) :: starEach [] (c.env f) := by rfl) :
    Ev c f l n (.Call (.Name (Str.ofString "tuple") pos') [e] [] pos) (Is (.ref T)) :=
  LW.callT O (b_tuple _) (LW.args1 h (fun v q => by
    cases q
    exact fun s Q E F N q => call_tuple_tup (News.isTup N m1) (q _ s.heap s.toks l n F N ⟨rfl, rfl, rfl⟩)) h1) hk hx (by decide) he h1 rfl
theorem Ev.bytesOf {B : Array UInt8} (O : c.Ok d u) (h : Ev c f l n e (fun v => ∃ t, v = .bytes B t)) 
    (hk : f.cs.kind = .function := by rfl) (hx : (c.env f).kindOf (Str.ofString "bytes") = some .globalImplicit := by rfl)
    (he : eval (.Call (.Name (Str.ofString "bytes") pos') [e] [] pos) (c.env f) = (do callWith pos (← eval (.Name (Str.ofString "bytes") pos') (c.env f)) [] (backTo pos (starEach [e] (c.env f))) (backToKw pos (keywordEach [] (c.env f)))) := by rfl)
    (h1 : starEach [e] (c.env f) = (false, eval e (c.env f)) :: starEach [] (c.env f) := by rfl) :
    Ev c f l n (.Call (.Name (Str.ofString "bytes") pos') [e] [] pos) (fun v => ∃ t, v = .bytes B t) :=
  LW.callT O (b_bytes _) (LW.args1 h (fun v ⟨t, q⟩ => by
    subst q
    exact fun s Q E F N q => call_bytes_bytes (q _ s.heap s.toks l n F N ⟨⟨t, rfl⟩, rfl, rfl⟩)) h1) hk hx (by decide) he h1 rfl
set_option maxRecDepth 100000 in
set_option maxHeartbeats 8000000 in
theorem LW.newTag' {R : Value → Loc → Led → Prop} {kd pr vl : Int} {dr : Bool} {t1 t2 t4 : Tok} (O : c.Ok d u) (k : ∀ r p q, TagIn c.w [p, q] r ⟨kd, pr, dr, vl⟩ → (∀ x ∈ n, @LT.lt Nat _ x.1 q.1) → @LT.lt Nat _ q.1 p.1 → R r l (p :: q :: n))
    (hk : f.cs.kind = .function := by rfl) (hd : Nat.ble 3 d = true := by rfl) (hu : Nat.ble 9 u = true := by rfl) : LW c f l n (PySem.call (.ref 89) [.int kd t1, .int pr t2, .bool dr, .int vl t4]) R := by
  refine LW.newF (dep := 1) (un := 5) (binds := fun y => [(Str.ofString "self", .ref y), (Str.ofString "kind", .int kd t1), (Str.ofString "priority", .int pr t2), (Str.ofString "may_drop", .bool dr), (Str.ofString "vlan", .int vl t4)]) O (cl_89 _) (fn_79 _) (fun _ _ _ _ _ _ => rfl) (fun _ => locs rfl) rfl rfl rfl (by decide) ?_ hk hd hu
  intro c' cdv y dy hw hcl O' l1 l2
  rw [← hw] at k
  refine St.init O' (se_89_kind _) l1 l2 (Ev.name rfl rfl) (Ev.name rfl rfl) fun v q1 e1 => ?_
  refine St.init O' (se_89_priority _) l1 l2 (Ev.name rfl rfl) (Ev.name rfl rfl) fun v q2 e2 => ?_
  refine St.init O' (se_89_may_drop _) l1 l2 (Ev.name rfl rfl) (Ev.name rfl rfl) fun v q3 e3 => ?_
  refine St.init O' (se_89_vlan _) l1 l2 (Ev.name rfl rfl) (Ev.name rfl rfl) fun v q4 e4 => ?_
  cases e1; cases e2; cases e3; cases e4
  exact LW.nil ⟨rfl, k _ _ _ ⟨y, dy, _, _, _, _, _, _, _, rfl, .head _, .tail _ (.head _)⟩ l1 l2⟩
theorem LW.newTag {R : Value → Loc → Led → Prop} {kd pr vl : Int} {dr : Bool} {t1 t2 t4 : Tok} (O : c.Ok d u) (k : ∀ r n', TagIn c.w n' r ⟨kd, pr, dr, vl⟩ → Grew n n' → R r l n')
    (hk : f.cs.kind = .function := by rfl) (hd : Nat.ble 3 d = true := by rfl) (hu : Nat.ble 9 u = true := by rfl) : LW c f l n (PySem.call (.ref 89) [.int kd t1, .int pr t2, .bool dr, .int vl t4]) R :=
  LW.newTag' O (fun r p q h l1 l2 => k r _ (h.mono fun x hx => by
    rcases List.mem_cons.mp hx with rfl | hx
    · exact .head _
    · cases List.mem_singleton.mp hx; exact .tail _ (.head _)) ((Grew.cons (a := q.1) (o := q.2) l1).trans (Grew.cons (a := p.1) (o := p.2) (fun x hx => by
    rcases List.mem_cons.mp hx with rfl | hx
    · exact l2
    · exact Nat.lt_trans (l1 x hx) l2)))) hk hd hu
set_option maxRecDepth 100000 in
set_option maxHeartbeats 8000000 in
theorem LW.newFrame' {R : Value → Loc → Led → Prop} {v1 v2 v3 v4 v5 : Value} {fr : FrameD} {n0 : Led} (hs : ∀ p ∈ n0, p ∈ n) (O : c.Ok d u) (h1 : IsI fr.target v1) (h2 : IsI fr.source v2) (h3 : TupIn c.w n0 fr.tags v3) (h4 : IsI fr.kind v4) (h5 : ∃ t, v5 = .bytes fr.payload t) (k : ∀ r p q, FrameIn c.w (p :: q :: n0) r fr → (∀ x ∈ n, @LT.lt Nat _ x.1 q.1) → @LT.lt Nat _ q.1 p.1 → R r l (p :: q :: n))
    (hk : f.cs.kind = .function := by rfl) (hd : Nat.ble 8 d = true := by rfl) (hu : Nat.ble 29 u = true := by rfl) : LW c f l n (PySem.call (.ref 123) [v1, v2, v3, v4, v5]) R := by
  refine LW.newF (dep := 6) (un := 25) (binds := fun y => [(Str.ofString "self", .ref y), (Str.ofString "target", v1), (Str.ofString "source", v2), (Str.ofString "tags", v3), (Str.ofString "kind", v4), (Str.ofString "payload", v5)]) O (cl_123 _) (fn_107 _) (fun _ _ _ _ _ _ => rfl) (fun _ => locs rfl) rfl rfl rfl (by decide) ?_ hk hd hu
  intro c' cdv y dy hw hcl O' l1 l2
  rw [← hw] at k h3
  obtain ⟨T, m, vs, rfl, m1, m2⟩ := h3
  refine St.init O' (se_123_target _) l1 l2 (Ev.name rfl h1) (Ev.name rfl rfl) fun v q1 e1 => ?_
  refine St.init O' (se_123_source _) l1 l2 (Ev.name rfl h2) (Ev.name rfl rfl) fun v q2 e2 => ?_
  refine St.init O' (se_123_tags _) l1 l2 (Ev.tupleSame O' (.tail _ (.tail _ (hs _ m1))) (Ev.name rfl rfl)) (Ev.name rfl rfl) fun v q3 e3 => ?_
  refine St.init O' (se_123_kind _) l1 l2 (Ev.name rfl h4) (Ev.name rfl rfl) fun v q4 e4 => ?_
  refine St.init O' (se_123_payload _) l1 l2 (Ev.bytesOf O' (Ev.name rfl h5)) (Ev.name rfl rfl) fun v q5 e5 => ?_
  obtain ⟨t1, rfl⟩ := e1; obtain ⟨t2, rfl⟩ := e2; obtain ⟨t4, rfl⟩ := e4; obtain ⟨t5, rfl⟩ := e5
  cases e3
  exact LW.nil ⟨rfl, k _ _ _ ⟨y, dy, T, _, _, _, _, _, _, _, _, _, m, vs, rfl, .head _, .tail _ (.head _), .tail _ (.tail _ m1), m2.mono fun p hp => .tail _ (.tail _ hp)⟩ l1 l2⟩
theorem LW.newFrame {R : Value → Loc → Led → Prop} {v1 v2 v3 v4 v5 : Value} {fr : FrameD} (O : c.Ok d u) (h1 : IsI fr.target v1) (h2 : IsI fr.source v2) (h3 : TupIn c.w n fr.tags v3) (h4 : IsI fr.kind v4) (h5 : ∃ t, v5 = .bytes fr.payload t) (k : ∀ r n', FrameIn c.w n' r fr → Grew n n' → R r l n')
    (hk : f.cs.kind = .function := by rfl) (hd : Nat.ble 8 d = true := by rfl) (hu : Nat.ble 29 u = true := by rfl) : LW c f l n (PySem.call (.ref 123) [v1, v2, v3, v4, v5]) R :=
  LW.newFrame' (fun _ h => h) O h1 h2 h3 h4 h5 (fun r p q hF lq lp => k r _ hF ((Grew.cons (a := q.1) (o := q.2) lq).trans (Grew.cons (a := p.1) (o := p.2) fun x hx => by
    rcases List.mem_cons.mp hx with rfl | hx
    · exact lp
    · exact Nat.lt_trans (lq x hx) lp))) hk hd hu
/-- (tag,) + tags -/
theorem Ex.consTup {t : TagD} (h1 : Ex c f l n e1 (fun n' v => TagIn c.w n' v t)) (h2 : ∀ n', Grew n n' → Ex c f l n' e2 (fun n' v => TupIn c.w n' ts v)) (hz : ts.length ≤ 900)
    (s0 : starEach [e1] (c.env f) = (false, eval e1 (c.env f)) :: starEach [] (c.env f) := by rfl) : Ex c f l n (.BinOp (.Tuple [e1] k pos') .Add e2 pos) (fun n' v => TupIn c.w n' (t :: ts) v) :=
  LW.binop (LW.tuple (LW.args_cons (Ex.go h1 fun v n1 hv g0 => LW.args_nil (LW.newTuple (fun a l1 => (h2 _ (g0.trans (Grew.cons l1))).go fun w n2 ⟨T, m, vs, q, m1, m2⟩ g2 => by
    subst q
    have hl := m2.length
    have ha : (a, tupOf [v] 0) ∈ n2 := g2.sub _ (.head _)
    have hs : ∀ p ∈ n1, p ∈ n2 := fun p hp => g2.sub _ (.tail _ hp)
    have gg := (g0.trans (Grew.cons l1)).trans g2
    cases m2 with
    | nil => exact fun s Q E F N q => add_tup1 F N ha m1 (by simp) (q _ s.heap s.toks l _ F N ⟨⟨a, 0, [v], rfl, ha, .cons (hv.mono hs) .nil⟩, gg, rfl⟩)
    | cons g1 g2 => exact fun s Q E F N q => add_tup F N ha m1 (by simp at hl hz ⊢; omega) fun D h' F' N' l2 => q _ h' s.toks l _ F' N' ⟨⟨D, 0, _, rfl, .head _, .cons (hv.mono fun p hp => .tail _ (hs p hp)) ((TagsIn.cons g1 g2).mono fun p hp => .tail _ hp)⟩, gg.trans (Grew.cons l2), rfl⟩) (show 1 ≤ sizeLine by decide))) s0))
/-- tags[1:] -/
theorem Ex.tail1 {t : TagD} {ps : Pos} (h : Ev c f l n e (TupIn c.w n (t :: ts))) (hz : ts.length ≤ 900)
    (hs : ∀ a b : Addr, subscripted (.Slice (some (.Constant (.int 1) k pos')) .none .none ps) false (.ref a) (.ref b) = operate [.ref b, .ref a] (getItem (.ref a) (.ref b)) := by intro _ _; with_unfolding_all rfl) :
    Ex c f l n (.Subscript e (.Slice (some (.Constant (.int 1) k pos')) .none .none ps) pos) (fun n' v => TupIn c.w n' ts v) := fun s Q E F N q =>
  Subscript_ (h s _ E F N fun v h' tk l' n' F' N' ⟨⟨T, m, vs, q1, m1, m2⟩, q2, q3⟩ => by
    subst q1; subst q2; subst q3
    have hl := m2.length
    refine wpAny_Slice (wpAny_evalPart_some (wpAny_Constant_int (wpAny_evalPart_none (wpAny_evalPart_none ?_))))
    cases m2 with
    | cons g1 g2 => exact kba_turn (value' := PySem.Expr.Name (PySem.Str.ofString "_") ⟨0, 0, 0, 0⟩) (fun _ => rfl) (tup_from (s := { s with heap := h', toks := tk + 1 }) (a := 1) F' N' m1 rfl (by decide) (by simp) (by simp at hl hz ⊢; omega) (fun D h2 F2 N2 l2 => q _ h2 _ l' _ F2 N2 ⟨⟨D, 0, _, rfl, .head _, g2.mono fun p hp => .tail _ hp⟩, Grew.cons l2, rfl⟩) (hs _ _) (fun _ => rfl)))
theorem Ex.newTag {kd pr vl : Int} {dr : Bool} (O : c.Ok d u) (h1 : Ev c f l n e1 (IsI kd)) (h2 : Ev c f l n e2 (IsI pr)) (h3 : Ev c f l n e3 (Is (.bool dr))) (h4 : Ev c f l n e4 (IsI vl))
    (hk : f.cs.kind = .function := by rfl) (hd : Nat.ble 3 d = true := by rfl) (hu : Nat.ble 9 u = true := by rfl)
    (hx : (c.env f).kindOf (Str.ofString "Tag") = some .globalImplicit := by rfl)
    (he : eval (.Call (.Name (Str.ofString "Tag") pos') [e1, e2, e3, e4] [] pos) (c.env f) = (do callWith pos (← eval (.Name (Str.ofString "Tag") pos') (c.env f)) [] (backTo pos (starEach [e1, e2, e3, e4] (c.env f))) (backToKw pos (keywordEach [] (c.env f)))) := by rfl)
    (s0 : starEach [e1, e2, e3, e4] (c.env f) = (false, eval e1 (c.env f)) :: starEach [e2, e3, e4] (c.env f) := by rfl) (s1 : starEach [e2, e3, e4] (c.env f) = (false, eval e2 (c.env f)) :: starEach [e3, e4] (c.env f) := by rfl) (s2 : starEach [e3, e4] (c.env f) = (false, eval e3 (c.env f)) :: starEach [e4] (c.env f) := by rfl) (s3 : starEach [e4] (c.env f) = (false, eval e4 (c.env f)) :: starEach [] (c.env f) := by rfl)
    (sa : ((backTo pos (starEach [e2, e3, e4] (c.env f))).any fun x => x.fst) = false := by rfl) : Ex c f l n (.Call (.Name (Str.ofString "Tag") pos') [e1, e2, e3, e4] [] pos) (fun n' v => TagIn c.w n' v ⟨kd, pr, dr, vl⟩) :=
  LW.callG O (gl_Tag _) (LW.args4 h1 h2 h3 h4 (fun w1 w2 w3 w4 ⟨t1, h1⟩ ⟨t2, h2⟩ h3 ⟨t4, h4⟩ => by
    cases h1; cases h2; cases h3; cases h4
    exact LW.newTag O (fun r n2 hr g2 => ⟨hr, g2, rfl⟩) hk hd hu) s0 s1 s2 s3) hk hx (by decide) he s0 sa
end
end Mine
end
section
open PySem PySem.W PyProof.Rows PySem.Spec PySem.Calls PyProof.Rows.LCg
set_option Elab.async false
namespace Mine
set_option maxRecDepth 100000 in
set_option maxHeartbeats 8000000 in
theorem with_tags_ok {w : Wd} {fr : FrameD} {fv tv : Value} {ts : List TagD} {n : Led} (hf : FrameIn w n fv fr) (ht : TupIn w n ts tv) : DoesG w 134 [fv, tv] n 12 60 (fun n' r => FrameIn w n' r { fr with tags := ts }) := by
  refine Does.enterF (dep := 11) (un := 57) (binds := [(Str.ofString "frame", fv), (Str.ofString "tags", tv)]) (fn_134 _) (fun _ _ _ _ _ => rfl) (locs rfl) rfl rfl rfl (by decide) ?_
  intro c cdv hw hcl O
  subst hw
  exact St.ret_ (LW.callG O (gl_Frame _) (LW.args5 (Ev.fr_target O (Ev.name rfl hf)) (Ev.fr_source O (Ev.name rfl hf)) (Ev.name rfl ht) (Ev.fr_kind O (Ev.name rfl hf)) (Ev.fr_payload O (Ev.name rfl hf)) fun v1 v2 v3 v4 v5 h1 h2 h3 h4 h5 =>
    LW.newFrame (fr := { fr with tags := ts }) O h1 h2 h3 h4 h5 fun r n' h g => ⟨h, g⟩))
set_option maxRecDepth 100000 in
set_option maxHeartbeats 8000000 in
theorem pushed_ok {w : Wd} {fr : FrameD} {fv tv : Value} {t : TagD} {n : Led} (hf : FrameIn w n fv fr) (ht : TagIn w n tv t) (hz : fr.tags.length ≤ 900) : DoesG w 141 [fv, tv] n 14 80 (fun n' r => FrameIn w n' r { fr with tags := t :: fr.tags }) := by
  refine Does.enterF (dep := 13) (un := 77) (binds := [(Str.ofString "frame", fv), (Str.ofString "tag", tv)]) (fn_141 _) (fun _ _ _ _ _ => rfl) (locs rfl) rfl rfl rfl (by decide) ?_
  intro c cdv hw hcl O
  subst hw
  exact St.ret_ (LW.callG O (gl_with_tags _) (LW.args_cons (LW.name rfl (LW.args_cons (Ex.go (Ex.consTup (Ex.ev (Ev.name rfl ht)) (fun n' g => Ex.ev (Ev.fr_tags O (Ev.name rfl (hf.mono g.sub)))) hz) fun v2 n2 h2 g2 =>
    LW.args_nil (LW.callGr O (with_tags_ok (hf.mono g2.sub) h2) fun r n3 h3 g3 => ⟨h3, g2.trans g3⟩))))))
set_option maxRecDepth 100000 in
set_option maxHeartbeats 8000000 in
theorem outer_tag_ok {w : Wd} {fr : FrameD} {fv : Value} {t : TagD} {ts : List TagD} {n : Led} (hf : FrameIn w n fv fr) (ht : fr.tags = t :: ts) : DoesV w 148 [fv] n 12 60 (fun v => TagIn w n v t) := by
  refine Does.enterF (dep := 11) (un := 57) (binds := [(Str.ofString "frame", fv)]) (fn_148 _) (fun _ _ _ _ _ => rfl) (locs rfl) rfl rfl rfl (by decide) ?_
  intro c cdv hw hcl O
  subst hw
  refine St.ifr (b := false) (Tr.cp (Cp.nil_eq O (Ev.tags O ht (Ev.nameF rfl hf)))) (fun hb => nomatch hb) fun _ => ?_
  exact St.ret (Ev.tag0 (Ev.tags O ht (Ev.nameF rfl hf))) fun v hv => ⟨hv, rfl⟩
set_option maxRecDepth 100000 in
set_option maxHeartbeats 8000000 in
theorem popped_ok {w : Wd} {fr : FrameD} {fv : Value} {t : TagD} {ts : List TagD} {n : Led} (hf : FrameIn w n fv fr) (ht : fr.tags = t :: ts) (hz : ts.length ≤ 900) : DoesG w 155 [fv] n 14 80 (fun n' r => FrameIn w n' r { fr with tags := ts }) := by
  refine Does.enterF (dep := 13) (un := 77) (binds := [(Str.ofString "frame", fv)]) (fn_155 _) (fun _ _ _ _ _ => rfl) (locs rfl) rfl rfl rfl (by decide) ?_
  intro c cdv hw hcl O
  subst hw
  refine St.expr (Ev.gcall1 O (gl_outer_tag _) (Ev.nameF rfl hf) fun v hv => outer_tag_ok hv ht) ?_
  exact St.ret_ (LW.callG O (gl_with_tags _) (LW.args_cons (LW.name rfl (LW.args_cons (Ex.go (Ex.tail1 (Ev.tags O ht (Ev.nameF rfl hf)) hz) fun v2 n2 h2 g2 =>
    LW.args_nil (LW.callGr O (with_tags_ok (hf.mono g2.sub) h2) fun r n3 h3 g3 => ⟨h3, g2.trans g3⟩))))))
set_option maxRecDepth 100000 in
set_option maxHeartbeats 8000000 in
theorem with_vlan_ok {w : Wd} {fr : FrameD} {fv : Value} {t : TagD} {ts : List TagD} {n : Led} {vl : Int} {tk : Tok} (hf : FrameIn w n fv fr) (ht : fr.tags = t :: ts) (hz : ts.length ≤ 800) : DoesG w 162 [fv, .int vl tk] n 16 100 (fun n' r => FrameIn w n' r { fr with tags := { t with vlan := vl } :: ts }) := by
  refine Does.enterF (dep := 15) (un := 97) (binds := [(Str.ofString "frame", fv), (Str.ofString "vlan", .int vl tk)]) (fn_162 _) (fun _ _ _ _ _ => rfl) (locs rfl) rfl rfl rfl (by decide) ?_
  intro c cdv hw hcl O
  subst hw
  refine St.asg (Ev.gcall1 O (gl_outer_tag _) (Ev.nameF rfl hf) fun v hv => outer_tag_ok hv ht) fun tv htv => ?_
  exact St.ret_ (LW.callG O (gl_with_tags _) (LW.args_cons (LW.name rfl (LW.args_cons (Ex.go (Ex.consTup (Ex.newTag O (Ev.tag_kind O (Ev.name rfl htv)) (Ev.tag_prio O (Ev.name rfl htv)) (Ev.tag_drop O (Ev.name rfl htv)) (Ev.name rfl ⟨_, rfl⟩))
    (fun n' g => Ex.tail1 (t := t) (Ev.tags O ht (Ev.nameF rfl (hf.mono g.sub))) (by omega)) (by omega)) fun v2 n2 h2 g2 => LW.args_nil (LW.callGr O (with_tags_ok (hf.mono g2.sub) h2) fun r n3 h3 g3 => ⟨h3, g2.trans g3⟩))))))
end Mine
end
section
open PySem PySem.W PyProof.Rows PySem.Spec PySem.Calls PyProof.Rows.LCg
set_option Elab.async false
namespace Mine
section
variable {c : Ctx} {f : Fn} {l : Loc} {rest : Led} {pos p1 p2 p3 : Pos} {d u : Nat} {e t : Addr} {e1 e2 : PySem.Expr} {V : Value → Prop} {pl : Sem Bool}
set_option maxRecDepth 100000 in
set_option maxHeartbeats 8000000 in
/-- Exception.__init__(self, message) -/
theorem LW.excInit {R : Value → Loc → Led → Prop} (O : c.Ok d u) (hr : ∀ p ∈ rest, p.1 ≠ e) (h1 : Ev c f l ((e, excObj 63 t Option.none) :: rest) e1 (Is (.ref e))) (h2 : Ev c f l ((e, excObj 63 t Option.none) :: rest) e2 V) (r : ∀ t', R .none l ((e, excObj 63 t' Option.none) :: rest))
    (hk : f.cs.kind = .function := by rfl) (hx : (c.env f).kindOf (Str.ofString "Exception") = some .globalImplicit := by rfl)
    (he : eval (.Call (.Attribute (.Name (Str.ofString "Exception") p1) (Str.ofString "__init__") p2) [e1, e2] [] pos) (c.env f) = (do
      let ov ← eval (.Name (Str.ofString "Exception") p1) (c.env f)
      standAt p2.atName
      let (f', first) ← holding [ov] (getMethod ov (Str.ofString "__init__") pl)
      callWith pos f' first (backTo pos (starEach [e1, e2] (c.env f))) []) := by rfl)
    (s0 : starEach [e1, e2] (c.env f) = (false, eval e1 (c.env f)) :: starEach [e2] (c.env f) := by rfl) (s1 : starEach [e2] (c.env f) = (false, eval e2 (c.env f)) :: starEach [] (c.env f) := by rfl) (sa : ((backTo pos (starEach [e2] (c.env f))).any fun x => x.fst) = false := by rfl) :
    LW c f l ((e, excObj 63 t Option.none) :: rest) (eval (.Call (.Attribute (.Name (Str.ofString "Exception") p1) (Str.ofString "__init__") p2) [e1, e2] [] pos) (c.env f)) R := fun s Q E F N q =>
  MethodCall_ (pl := pl) (nameX_B F O.X (topRead_of O.T) (b_exception c.w).1 (b_exception c.w).2.1 (b_exception c.w).2.2 (method_type F O.X exc_meta (by decide +kernel) (einit c.w) rfl (by
    have key : LW c f l ((e, excObj 63 t Option.none) :: rest) (spliced (backTo pos (starEach [e1, e2] (c.env f)))) (fun ws l2 n2 => LW c f l2 n2 (PySem.call (.builtin "Exception.__init__") ([] ++ ws)) R) :=
      LW.args2 h1 h2 (fun v1 v2 q1 q2 => by
        cases q1
        exact fun s Q E F N q => init_led O.X F N hr fun h' t' F' N' => q _ h' s.toks l _ F' N' (r t')) s0 s1
    exact callWith_method1 (key { s with toks := s.toks + 1 } _ E F N fun vs h' tk l' n' F' N' p => p { s with heap := h', toks := tk } Q E F' N' q) s0 sa)) hk hx (by decide)) he
end
theorem LW.run {c : Ctx} {f : Fn} {l : Loc} {n : Led} {α : Type} {e : Sem α} {R : α → Loc → Led → Prop} {s : Shared} {Q : α → Shared → Prop} {E : Value → Shared → Prop} (h : LW c f l n e R) (hE : PassesOwn c.M (c.A f) (c.env f) E) (F : Fr c.h₀ c.L s.heap (lk l)) (N : News c.h₀ c.L s.heap n)
    (q : ∀ v h' tk l' n', Fr c.h₀ c.L h' (lk l') → News c.h₀ c.L h' n' → R v l' n' → Q v { s with heap := h', toks := tk }) : wpAny c.M (c.A f) e Q E s := h s Q ⟨E, hE⟩ F N q
set_option maxRecDepth 100000 in
set_option maxHeartbeats 8000000 in
theorem table_error {w : Wd} {x : Str} {tx : Tok} {news : Led} : Does w 63 [.str x tx] news 20 200 (fun r news' => ∃ (e t d : Addr), r = .ref e ∧ (∀ q ∈ news, @LT.lt Nat _ q.1 e) ∧ news' = (e, excObj 63 t (some d)) :: news) := by
  unfold Does
  intro mean mg mb dp u gd cn cs ca ccd cl outer A₀ base h₀ L m s Q E B F X N T hk hd hu hret
  refine wpAny_call ?_
  obtain ⟨hh, gg, dd, tt, os⟩ := s
  obtain ⟨nm, qn, Ns, bs, A₁, sn, sub, ab, col, d1, k0, k1, k2, k3, k5, hC⟩ := ownExc_cls (X.keeps F.keep) (ownExc63 w)
  refine oe_make PySem.F.excBase_Exception excMro_has.1 excMro_has.2.1 excMro_has.2.2.1 (by rw [sizeLine_eq]; exact Nat.le_of_ble_eq_true rfl) hC (looks_findIn (X.keeps F.keep) (init63 w)) (fun self => bind_fn (X.keeps F.keep) self (fn35 w)) ?_
  have F' : Fr h₀ L ((hh.push { cls := .type "tuple", data := .seq ([.str x tx] : List Value).toArray }).push (excObj 63 hh.objs.size none)) m := (F.push _).push _
  have N' := (N.push F { cls := .type "tuple", data := .seq ([.str x tx] : List Value).toArray }).push (F.push _) (excObj 63 hh.objs.size none)
  rw [Heap.size_push] at N'
  have N2 : News h₀ L _ ((hh.objs.size + 1, excObj 63 hh.objs.size none) :: news) := fun p hp => N' p (by rcases List.mem_cons.mp hp with rfl | hp; exact .head _; exact .tail _ (.tail _ hp))
  have hlt : ∀ p ∈ news, @LT.lt Nat _ p.1 (hh.objs.size + 1) := fun p hp => Nat.lt_succ_of_lt (Heap.lt_size (N p hp).1)
  have hr : ∀ p ∈ news, p.1 ≠ hh.objs.size + 1 := fun p hp => Nat.ne_of_lt (hlt p hp)
  have hd2 : dp + 2 + 10 < recursionLimit := by omega
  have hu2 : u + 4 + 100 < cLine := by omega
  obtain ⟨doc, pm, cdv, ct, oc, an, od, osl, ho, hcd9⟩ := fn_35 w
  refine code_def (A := ktrTop (dp + 1) (u + 1) gd cn cs L ca ccd cl outer) (binds := [(Str.ofString "self", .ref (hh.objs.size + 1)), (Str.ofString "message", .str x tx)]) B F' X N2 T rfl rfl hk ho hcd9 (by show dp + 1 < _; omega) (BindsTo.of_eq rfl) (locs rfl) (fun g' L' h₁ FG F3 N3 B' X' T' => ?_) rfl rfl rfl (by decide)
  refine LW.run (c := ⟨w, mean, mg, mb, dp + 2, u + 4, gd, L', [], envX cn cs L ca ccd cl :: outer, ktrTop (dp + 1) (u + 1) gd cn cs L ca ccd cl outer, base, g'⟩) (f := ⟨_, _, 35, _⟩) (l := [(Str.ofString "message", .str x tx), (Str.ofString "self", .ref (hh.objs.size + 1))]) (R := Out fun r n' => r = .none ∧ ∃ t' d', n' = (hh.objs.size + 1, excObj 63 t' (some d')) :: news) ?_ (by passes_own) F3 N3 fun fl h3 tk l3 n3 F4 N4 r => leaveK_ F4 N4 fun F5 N5 => ⟨r.1, ?_⟩
  · have O : Ctx.Ok ⟨w, mean, mg, mb, dp + 2, u + 4, gd, L', [], envX cn cs L ca ccd cl :: outer, ktrTop (dp + 1) (u + 1) gd cn cs L ca ccd cl outer, base, g'⟩ 10 100 := ⟨B', X', T', hd2, hu2⟩
    refine St.expr_ (LW.excInit O hr (Ev.name rfl rfl) (Ev.name (V := Is (.str x tx)) rfl rfl) fun t' => ?_)
    exact LW.cons (LW.assign_attr (LW.name rfl (LW.name rfl fun s Q E F N q => message_led O.X F N hr fun h' tk' d' F' N' => q () h' tk' _ _ F' N' (LW.nil ⟨rfl, t', d', rfl⟩))))
  · obtain ⟨_, t', d', e2⟩ := r
    subst e2
    exact hret _ _ _ _ F5 N5 ⟨_, _, _, rfl, hlt, rfl⟩
end Mine
end
section
open PySem PySem.W PyProof.Rows PySem.Spec PySem.Calls PyProof.Rows.LCg
set_option Elab.async false
namespace Mine
section
variable {M : Model} {A : Around} {E : Value → Shared → Prop} {env : Env}
variable {nm q : Str} {C N : Addr} {bs bm : List Value} {hdct : Bool} {sn : List Str} {sub : List Value} {ab : Bool} {col : Option Bool} {dd : Option Addr} {k0 k1 k2 k3 k5 : Option Value} {newId : String}
theorem oe_raise {s : Shared} {x : Sem Value} {Q : Flow → Shared → Prop} (hbase : bm.contains (.type "BaseException") = true) (hh : A.handled = none)
    (h : wpAny M A x (fun v s₁ => ∃ e t dx, v = .ref e ∧ s₁.heap.get? C = some (excClassObj nm q C N bs bm hdct sn sub ab col dd k0 k1 k2 k3 k5 newId) ∧
      s₁.heap.get? e = some { cls := .ref C, dict := dx, data := .fields #[.ref t, .none, .none, .none, .bool false, .none] } ∧ E (.ref e) s₁) E s) :
    wpAny M A (raiseStmt env (some x) none) Q E s := by
  have hcB : (Value.ref C :: bm).contains (.type "BaseException") = true := by rw [List.contains_cons, hbase, Bool.or_true]
  unfold raiseStmt
  refine wpAny_bind (wpAny_mono h (fun v s₁ h₁ => ?_) fun _ _ x => x)
  obtain ⟨e, t, dx, rfl, hC, he, hE⟩ := h₁
  obtain ⟨hp, g, d, tk, os⟩ := s₁
  repeat (first | with_reducible refine wpAny_loadPart_at he ?_ | with_reducible refine wpAny_loadPart_at hC ?_ | (with_reducible refine wpAny_isSubtype_exc hC ?_; rw [hcB]) | wp_step)
  exact wpAny_raiseNew_none hh hE
end
/-- what stands behind the making of an exception of class 63 -/
def RaiseLed (h₀ : Heap) (L : Addr) (E : Value → Shared → Prop) (v : Value) (s₁ : Shared) : Prop :=
  ∃ (m : Str → Option Value) (e t : Addr) (dx : Option Addr) (news : Led), v = .ref e ∧ Fr h₀ L s₁.heap m ∧ News h₀ L s₁.heap ((e, excObj 63 t dx) :: news) ∧ E (.ref e) s₁
section
variable {w : Wd} {A : Around} {E : Value → Shared → Prop} {s : Shared} {h₀ : Heap} {L : Addr} {m : Str → Option Value} {prog : Program} {env : Env}
theorem raise_led {exc : Expr} {pos : Pos} {Q : Flow → Shared → Prop} (X : w.K.In h₀) (_F : Fr h₀ L s.heap m) (hh : A.handled = none)
    (h : wpAny (model prog w.toWorld) A (eval exc env) (RaiseLed h₀ L E) E s) : wpAny (model prog w.toWorld) A (exec (.Raise (some exc) none pos) env) Q E s := by
  rw [arm_exec_Raise]
  obtain ⟨nm, qn, Ns, bs, A₁, sn, sub, ab, col, d1, k0, k1, k2, k3, k5, hC⟩ := ownExc_cls X (ownExc63 w)
  first
    | refine wpAny_bind (wpAny_standAt (oe_raise (C := 63) (bm := .ref A₁ :: excMro) (nm := nm) (q := qn) (N := Ns) (bs := bs) (hdct := true) (sn := sn) (sub := sub) (ab := ab) (col := col) (dd := d1) (k0 := k0) (k1 := k1) (k2 := k2) (k3 := k3) (k5 := k5) (newId := "Exception.__new__") excMro_has.2.2.2 hh (wpAny_bind (wpAny_mono h (fun v s₁ h₁ => wpAny_bind (wpAny_standAt (wpAny_pure ?_))) fun _ _ x => x))))
    | (simp only [evalOpt, Option.map]; refine wpAny_bind (wpAny_standAt (oe_raise (C := 63) (bm := .ref A₁ :: excMro) (nm := nm) (q := qn) (N := Ns) (bs := bs) (hdct := true) (sn := sn) (sub := sub) (ab := ab) (col := col) (dd := d1) (k0 := k0) (k1 := k1) (k2 := k2) (k3 := k3) (k5 := k5) (newId := "Exception.__new__") excMro_has.2.2.2 hh (wpAny_bind (wpAny_mono h (fun v s₁ h₁ => wpAny_bind (wpAny_standAt (wpAny_pure ?_))) fun _ _ x => x)))))
  obtain ⟨m', e, t, dx, news, rfl, F', N', hE⟩ := h₁
  exact ⟨e, t, dx, rfl, F'.keep _ _ hC, (N' _ (.head _)).1, hE⟩
end
section
variable {M : Model} {A : Around} {E : Value → Shared → Prop} {s' : Shared} {base g : Heap} {outer : List Env} {L a e t C : Addr} {dx : Option Addr} {m : Str → Option Value} {name : Str} {scope : Scope} {cd : Value} {Q : Unit → Shared → Prop} {news : Led}
/-- an exception of an own class, made in the frame, leaves it -/
theorem leave_own (K : Below A base outer g) (F : Fr g L s'.heap m) (N : News g L s'.heap ((e, excObj C t dx) :: news)) (hlt : ∀ q ∈ news, @LT.lt Nat _ q.1 e)
    (hQ : ∀ h', RaisedSN base g outer e (.ref C) news h' → g.UpToSlots h' → Q () { s' with heap := h' }) (hk : scope.kind = .function := by rfl) :
    wpAny M (A.deeper (envOf name scope L a cd)) (leaving (envOf name scope L a cd) (.ref e)) Q E s' := by
  have hne : ∀ q ∈ news, q.1 ≠ e := fun q hq => Nat.ne_of_lt (hlt q hq)
  have K' := K.push (name := name) (a := a) (cd := cd) F hk
  have he := N _ (.head _)
  have heb : base.get? e = none := fresh_of_stays K.stays he.2.2
  have hin : ∀ env ∈ (envOf name scope L a cd :: outer), ∀ b, env.frame = some b → b ∈ e :: (envOf name scope L a cd :: outer).filterMap (·.frame) := fun env he b hb => .tail _ (List.mem_filterMap.mpr ⟨env, he, hb⟩)
  have st : base.StaysIn (hideAll s'.heap (e :: (envOf name scope L a cd :: outer).filterMap (·.frame))) := fun b o q => hideAll_get _ (K'.stays b o q) fun hm => by
    rcases List.mem_cons.mp hm with rfl | hm
    · rw [heb] at q; cases q
    · rw [(K'.frames.mem hm).1] at q; cases q
  have sg : ∀ b o, g.get? b = some o → b ∉ outer.filterMap (·.frame) → (hideAll s'.heap (e :: (envOf name scope L a cd :: outer).filterMap (·.frame))).get? b = some o := fun b o q nm => hideAll_get _ (F.keep b o q) fun hm => by
    rcases List.mem_cons.mp hm with rfl | hm
    · rw [he.2.2] at q; cases q
    · rcases kts_mem hm with z | z
      · rw [z, kts_self F] at q
        cases q
      · exact nm z
  have hl : ∀ q ∈ news, (hideAll s'.heap (e :: (envOf name scope L a cd :: outer).filterMap (·.frame))).get? q.1 = some q.2 ∧ g.get? q.1 = none ∧ base.get? q.1 = none := fun q hq => by
    have z := N _ (.tail _ hq)
    refine ⟨hideAll_get _ z.1 fun hm => ?_, z.2.2, fresh_of_stays K.stays z.2.2⟩
    rcases List.mem_cons.mp hm with h | hm
    · exact hne q hq h
    · obtain ⟨env, he, hf⟩ := List.mem_filterMap.mp hm
      rcases List.mem_cons.mp he with rfl | he
      · exact z.2.1 (Option.some.inj hf).symm
      · obtain ⟨o, ho, _⟩ := (K.frames.mem (List.mem_filterMap.mpr ⟨env, he, hf⟩)).2
        rw [z.2.2] at ho; cases ho
  have hen : (hideAll s'.heap (e :: (envOf name scope L a cd :: outer).filterMap (·.frame))).get? e = none := hideAll_none _ (.head _)
  refine wpAny_leaving_firstW (a0 := .ref t) K'.stack ((funFrames_hide K'.frames hin).of_keeps fun b o hb _ => ⟨o, hb, rfl⟩) rfl he.1 (fun b o hb => of_hideAll _ hb) hen rfl rfl rfl fun h' hL => ?_
  obtain ⟨k1, ⟨_, _, k2⟩, k3, k4⟩ := hL
  exact hQ h' ⟨_, .ref t, st, sg, hl, k1, hen, k2, k3⟩ ((Heap.UpToSlots.of_keeps F.keep).trans k4)
end
/-- a call of f upon args raises, in any frame, an exception of the class C; the ledger stands -/
def Raises (w : Wd) (f : Addr) (args : List Value) (news : Led) (C : Addr) (dep un : Nat) : Prop :=
  ∀ (mean : ExcName → Option Value) (mg mb : Str → Option Value) (dp u : Nat) (gd : Option (List Code)) (cn : Str) (cs : Scope) (a : Addr) (ccd : Value) (outer : List Env) (A₀ : Around) (base h₀ : Heap) (L : Addr) (m : Str → Option Value) (s : Shared)
    (Q E : Value → Shared → Prop),
    Below A₀ base outer h₀ → Fr h₀ L s.heap m → w.K.In h₀ → News h₀ L s.heap news → Top w.V (looseW w.V [Str.ofString "Frame"]) mean mg mb h₀ → cs.kind = .function →
    dp + dep < recursionLimit → u + un < cLine →
    (∀ g e h' tk', Fr h₀ L g m → RaisedSN base g (envOf cn cs L a ccd :: outer) e (.ref C) news h' → g.UpToSlots h' → E (.ref e) { s with heap := h', toks := tk' }) →
    wpAny (model PySem.Challenge.rw_pb0547_01.row.prog w.toWorld) (ktrTop dp u gd cn cs L a ccd [] outer) (call (.ref f) args) Q E s
end Mine
end
section
open PySem PySem.W PyProof.Rows PySem.Spec PySem.Calls PySem.SeqAt PyProof.V
set_option Elab.async false
namespace Mine
theorem stored_length_le (acc : List (Int × Value)) (k : Int) (v : Value) : (stored acc k v).length ≤ acc.length + 1 := by
  unfold stored
  split <;> simp
section
variable {prog : Program} {w : World} {A : Around} {E : Value → Shared → Prop}
theorem keys_miss : typeLookup (.type "list") "keys" = pure none := am_miss_of_fast (by kernel_rfl)
theorem no_keys_list {s : Shared} {a : Addr} {xs : Array Value} {k : Nat} {sl : Array (Option Value)} {Q : Option Value → Shared → Prop}
    (hx : s.heap.get? a = some { cls := .type "list", dict := none, data := .seq xs k, slots := sl }) (hA : A.handled = none)
    (h : ∀ h' tk, (∀ b o, s.heap.get? b = some o → h'.get? b = some o) → Q none { s with heap := h', toks := tk }) :
    wpAny (model prog w) A (getAttr? (.ref a) "keys") Q E s := by
  obtain ⟨hp, g, d, tk, os⟩ := s
  have hT : ∀ tk', (⟨hp, g, d, tk', os⟩ : Shared).TypeIs (.ref a) "list" := fun _ => ⟨_, hx, rfl⟩
  have f1 := sub_AttributeError
  have f3 := F.slot_list_getattribute.lookup
  have f4 := F.slot_list_getattribute.bind (.ref a)
  have f5 := am_list_getattr_none
  unfold getAttr? getAttrBy? getAttrBy
  repeat (any_goals (first | assumption | exact hT _ | ((with_reducible show wpAny _ _ (call (Value.builtin "list.__getattribute__") _ _) _ _ _); refine call_meets F.slot_list_getattribute (hT _) am_entry_list_getattribute (F.args_list_getattribute_2 _ _) (meets_getattribute_miss_list a xs k sl _ _ keys_miss (by decide +kernel)) ⟨hx, hA, fun h' tk' e hx' => ?_⟩) | wp_step))
  obtain ⟨t', u', he⟩ := hx'.there
  show wpAny _ _ (getattributeRaised _ _ _ _ _ _ _) _ _ _
  unfold getattributeRaised
  repeat (any_goals (first | assumption | wp_step))
  exact h h' tk' hx'.keeps
theorem entry_dul : entryFor table "dict.update.loop" = some Builtin.«dict.update.loop» := by first | exact entryFor_of_fast (by kernel_rfl) | exact entryFor_of_tree (by kernel_rfl)
theorem plain_dul : plainId "dict.update.loop" = true := by decide +kernel
theorem pair_items {s : Shared} {a : Addr} {vs : List Value} {n : Nat} {Q : List Value → Shared → Prop} (hx : s.heap.get? a = some (tupOf vs n)) (h : Q vs s) : wpAny (model prog w) A (Builtin.Dict.pairItems (.ref a)) Q E s := by
  have hT : s.TypeIs (.ref a) "tuple" := ⟨_, hx, rfl⟩
  unfold Builtin.Dict.pairItems
  repeat (any_goals (first | assumption | wp_step))
theorem pairs_loop {D I l : Addr} (hI : l ≠ I) (hDI : D ≠ I) (hDl : D ≠ l) (hh : A.handled = none) (vs : List Value) (ps : List (Int × Value)) (hlen : vs.length = ps.length) (hsz : ps.length ≤ 1000) {R : Result → Shared → Prop} :
    ∀ (k i : Nat) (t : Tok) (acc : List (Int × Value)) (s : Shared), i + k = vs.length → (s.heap.IsListIter I l i ∧ s.heap.IsList l vs.toArray) → s.heap.DictOf (PySem.intKind prog w) D acc → acc.length ≤ i →
      (∀ (j : Nat) (v : Value), vs[j]? = some v → ∃ (a : Addr) (key : Int) (t : Tok) (x : Value) (n : Nat), v = Value.ref a ∧ s.heap.get? a = some (tupOf [.int key t, x] n) ∧ ps[j]? = some (key, x) ∧ a ≠ D ∧ a ≠ I) →
      (∀ h' tk, h'.DictOf (PySem.intKind prog w) D ((ps.drop i).foldl (fun c p => stored c p.1 p.2) acc) → (∀ b o, b ≠ I → b ≠ D → s.heap.get? b = some o → h'.get? b = some o) → R (.ok (.ret .none)) { s with heap := h', toks := tk }) →
      codeAny (model prog w) A (.builtin "dict.update.loop" ⟨[.ref D, .ref I, .int i t, .none], []⟩) R s := by
  intro k
  induction k with
  | zero =>
    intro i t acc s e st hD ha hv hR
    refine codeAny_builtin entry_dul ?_
    rw [Around.under_plainId plain_dul _]
    show wpAny _ A.in1 (pyNext (.ref I) >>= _) _ _ s
    have e' : i = vs.toArray.size := by simp; omega
    have W := Walks.list (prog := prog) (w := w) (A := A.in1) hh I l hI vs.toArray
    subst e'
    refine wpAny_bind (W.done s _ _ st fun h' tk hk => ?_)
    have hd : ps.drop vs.toArray.size = [] := by simp; omega
    rw [hd] at hR
    show wpAny _ _ (Builtin.Dict.addKeywords D [] >>= _) _ _ _
    refine wpAny_bind (wpAny_pure (wpAny_pure ?_))
    refine hR h' tk ?_ fun b o hb _ e => hk b o (by simpa using hb) e
    obtain ⟨o, ho, q⟩ := Heap.dictOf_iff.mp hD
    exact Heap.dictOf_iff.mpr ⟨o, hk D o (by simpa using hDI) ho, q⟩
  | succ k ih =>
    intro i t acc s e st hD ha hv hR
    have hi : i < vs.length := by omega
    refine codeAny_builtin entry_dul ?_
    rw [Around.under_plainId plain_dul _]
    show wpAny _ A.in1 (pyNext (.ref I) >>= _) _ _ s
    have W := Walks.list (prog := prog) (w := w) (A := A.in1) hh I l hI vs.toArray
    refine wpAny_bind (W.item i s _ _ (by simpa using hi) st fun v h' tk hv' st' hk => ?_)
    have hv1 : vs[i]? = some v := by simpa using hv'
    obtain ⟨a, key, tt, x, n, rfl, hx, hp, haD, haI⟩ := hv i v hv1
    have hx' : h'.get? a = some (tupOf [.int key tt, x] n) := hk a _ (by simpa using haI) hx
    dsimp only
    refine wpAny_bind (wpAny_holding ?_)
    refine wpAny_bind (wpAny_tryCatch (pair_items hx' ?_))
    dsimp only
    refine wpAny_holding ?_
    have hD' : h'.DictOf (PySem.intKind prog w) D acc := by
      obtain ⟨o, ho, q⟩ := Heap.dictOf_iff.mp hD
      exact Heap.dictOf_iff.mpr ⟨o, hk D o (by simpa using hDI) ho, q⟩
    refine wpAny_dictSet_pairs (knd := PySem.intKind prog w) (s := { s with heap := h', toks := tk }) (intKind_is _ _ _ _) hD' (fun h'' hD'' hs => ?_) (by rw [sizeLine_eq]; omega)
    refine wpAny_pure ⟨plainId_quiet plain_dul _, ih (i + 1) _ _ _ (by omega) ?_ hD'' ?_ ?_ ?_⟩
    · exact ⟨st'.1.at fun o e => (hs.2 I (Ne.symm hDI)).trans e, st'.2.at fun o e => (hs.2 l (Ne.symm hDl)).trans e⟩
    · have := stored_length_le acc key x
      omega
    · intro j v hj
      obtain ⟨a, key, t, x, n, e1, e2, e3, e4, e5⟩ := hv j v hj
      exact ⟨a, key, t, x, n, e1, (hs.2 a e4).trans (hk a _ (by simpa using e5) e2), e3, e4, e5⟩
    · intro h3 tk3 hD3 hk3
      have hd : ps.drop i = (key, x) :: ps.drop (i + 1) := by
        have h1 : i < ps.length := by omega
        rw [List.drop_eq_getElem_cons h1]
        congr 1
        rw [List.getElem?_eq_getElem h1] at hp
        exact Option.some.inj hp
      rw [hd] at hR
      exact hR h3 tk3 hD3 fun b o b1 b2 e => hk3 b o b1 b2 ((hs.2 b b2).trans (hk b o (by simpa using b1) e))
end
/-- pairs: tuples of two of the ledger -/
inductive PairsIn (news : Led) : List Value → List (Int × Value) → Prop
  | nil : PairsIn news [] []
  | cons {a : Addr} {n : Nat} {k : Int} {t : Tok} {v : Value} {vs : List Value} {ps : List (Int × Value)} : (a, tupOf [.int k t, v] n) ∈ news → PairsIn news vs ps → PairsIn news (.ref a :: vs) ((k, v) :: ps)
theorem PairsIn.length {news : Led} {vs : List Value} {ps : List (Int × Value)} (h : PairsIn news vs ps) : vs.length = ps.length := by
  induction h with
  | nil => rfl
  | cons _ _ ih => rw [List.length_cons, List.length_cons, ih]
theorem PairsIn.at {news : Led} {vs : List Value} {ps : List (Int × Value)} (h : PairsIn news vs ps) {j : Nat} {v : Value} (e : vs[j]? = some v) : ∃ (a : Addr) (key : Int) (t : Tok) (x : Value) (n : Nat), v = Value.ref a ∧ (a, tupOf [.int key t, x] n) ∈ news ∧ ps[j]? = some (key, x) := by
  induction h generalizing j with
  | nil => simp at e
  | cons m _ ih =>
    cases j with
    | zero =>
      simp only [List.getElem?_cons_zero, Option.some.injEq] at e
      exact ⟨_, _, _, _, _, e.symm, m, rfl⟩
    | succ j => exact ih (by simpa using e)
section
variable {w : Wd} {A : Around} {E : Value → Shared → Prop} {s : Shared} {h₀ : Heap} {L : Addr} {m : Str → Option Value} {news : Led}
theorem dict_pairs {l : Addr} {vs : List Value} {n : Nat} {ps : List (Int × Value)} {Q : Value → Shared → Prop} (hh : A.handled = none) (F : Fr h₀ L s.heap m) (N : News h₀ L s.heap news) (hbig : h₀.NoLimit) (hl : (l, listOf vs.toArray n) ∈ news) (hp : PairsIn news vs ps) (hsz : ps.length ≤ 1000)
    (h : ∀ d h' o tk, Fr h₀ L h' m → News h₀ L h' ((d, o) :: news) → (∀ p ∈ news, @LT.lt Nat _ p.1 d) → (d == sysModules) = false → o.IsDictOf (IK w) (ps.foldl (fun c p => stored c p.1 p.2) []) → Q (.ref d) { s with heap := h', toks := tk }) :
    wpAny (model PySem.Challenge.rw_pb0547_01.row.prog w.toWorld) A (call (.type "dict") [.ref l]) Q E s := by
  have hbig := modules_low hbig
  have hol : s.heap.get? l = some (listOf vs.toArray n) := (N _ hl).1
  refine callType_codes (Q₁ := fun obj s₁ => obj = .ref s.heap.objs.size ∧ s₁ = { s with heap := s.heap.push { cls := .type "dict", data := .dict #[] } }) PySem.F.kt_called_dict (PySem.F.kt_typeCall_dict_1 _) PySem.F.entry_dict_init (kt_code_dict_new _ ⟨rfl, rfl⟩) ?_
  rintro obj s₁ ⟨rfl, rfl⟩
  have hnew : (s.heap.push { cls := .type "dict", data := .dict #[] }).DictOf (IK w) s.heap.objs.size [] := Heap.DictOf.new s.heap
  have F1 := F.push ({ cls := .type "dict", data := .dict #[] } : Obj)
  have N1 := News.push F N ({ cls := .type "dict", data := .dict #[] } : Obj)
  refine ⟨hnew.typeIs, PySem.F.args_dict_init_2 _ _, ?_⟩
  unfold Builtin.«dict.__init__»
  refine wpAny_bind ?_
  unfold Builtin.Dict.selfAndRest
  refine wpAny_bind (wpAny_notOrdered_dict hnew.typeIs ?_)
  show wpAny _ _ (pure (s.heap.objs.size, [Value.ref l])) _ _ _
  refine wpAny_pure ?_
  show wpAny _ _ (Builtin.Dict.updateFrom "dict.__init__" s.heap.objs.size (.ref l) [] .none) _ _ _
  unfold Builtin.Dict.updateFrom
  have hol1 : (s.heap.push { cls := .type "dict", data := .dict #[] }).get? l = some (listOf vs.toArray n) := Heap.get?_push_of_some _ hol
  have hT : ({ s with heap := s.heap.push { cls := .type "dict", data := .dict #[] } } : Shared).TypeIs (.ref l) "list" := ⟨_, hol1, rfl⟩
  refine wpAny_bind (wpAny_typeOf hT ?_)
  rw [if_pos (by decide)]
  refine wpAny_bind (no_keys_list hol1 hh fun h1 tk1 hk1 => ?_)
  rw [if_pos (by decide)]
  have F2 := F1.keeps hk1
  have N2 : News h₀ L h1 ((s.heap.objs.size, ({ cls := .type "dict", data := .dict #[] } : Obj)) :: news) := N1.grown hk1
  have hl2 : h1.IsList l vs.toArray := ⟨_, hk1 _ _ hol1, rfl, _, rfl⟩
  have hD2 : h1.DictOf (IK w) s.heap.objs.size [] := by
    obtain ⟨o, ho, q⟩ := Heap.dictOf_iff.mp hnew
    exact Heap.dictOf_iff.mpr ⟨o, hk1 _ _ ho, q⟩
  have hsz1 : s.heap.objs.size < h1.objs.size := Heap.lt_size (N2 _ (.head _)).1
  have hlt : l < s.heap.objs.size := Heap.lt_size hol
  refine wpAny_bind (wpAny_rule ?_)
  refine wpAny_bind (wpAny_pyIter_list hl2 ?_)
  have up : ∀ b o, h1.get? b = some o → (h1.push { cls := .type "list_iterator", data := .fields #[.ref l, .int 0 0] }).get? b = some o := fun b o e => Heap.get?_push_of_some _ e
  refine wpAny_pure ⟨plainId_quiet plain_dul _, ?_⟩
  refine pairs_loop (prog := PySem.Challenge.rw_pb0547_01.row.prog) (w := w.toWorld) (A := A.in1) (D := s.heap.objs.size) (I := h1.objs.size) (l := l) (Nat.ne_of_lt (Nat.lt_trans hlt hsz1)) (Nat.ne_of_lt hsz1) (Nat.ne_of_gt hlt) hh vs ps hp.length hsz vs.length 0 _ [] _ (Nat.zero_add _) ?_ ?_ (Nat.le_refl _) ?_ ?_
  · exact ⟨⟨_, Heap.get?_push_size _ rfl, rfl, rfl⟩, ⟨_, up _ _ (hk1 _ _ hol1), rfl, _, rfl⟩⟩
  · exact hD2.push _
  · intro j v hj
    obtain ⟨a, key, t, x, n', e1, e2, e3⟩ := hp.at hj
    have hla : a < s.heap.objs.size := Heap.lt_size (N _ e2).1
    exact ⟨a, key, t, x, n', e1, up _ _ (N2 _ (.tail _ e2)).1, e3, Nat.ne_of_lt hla, Nat.ne_of_lt (Nat.lt_trans hla hsz1)⟩
  · intro h' tk hD' hk'
    obtain ⟨o, ho, q⟩ := Heap.dictOf_iff.mp hD'
    refine ⟨rfl, ?_⟩
    have hLD : s.heap.objs.size ≠ L := fun e => (N2 _ (.head _)).2.1 e
    have hnI : ∀ b o, h1.get? b = some o → b ≠ h1.objs.size := fun b o e => Nat.ne_of_lt (Heap.lt_size e)
    have hnD : ∀ b o, s.heap.get? b = some o → b ≠ s.heap.objs.size := fun b o e => Nat.ne_of_lt (Heap.lt_size e)
    have hk3 : ∀ b o, s.heap.get? b = some o → h'.get? b = some o := fun b o e => hk' b o (hnI b o (hk1 _ _ (Heap.get?_push_of_some _ e))) (hnD b o e) (up _ _ (hk1 _ _ (Heap.get?_push_of_some _ e)))
    refine h _ h' o tk (F.keeps hk3) ?_ (fun p hp => Heap.lt_size (N p hp).1) (F.notModules hbig) q
    intro p hp
    rcases List.mem_cons.mp hp with rfl | hp
    · exact ⟨ho, (N2 _ (.head _)).2⟩
    · exact ⟨hk3 _ _ (N p hp).1, (N p hp).2⟩
end
end Mine
end
section
open PySem PySem.W PyProof.Rows PySem.Spec PySem.Calls PySem.SeqAt PyProof.V PyProof.Rows.LCg
set_option Elab.async false
namespace Mine
section
variable {w : Wd} {A : Around} {E : Value → Shared → Prop} {s : Shared} {h₀ : Heap} {L : Addr} {m : Str → Option Value} {news : Led}
theorem ints_keys (kvs : List (Int × Value)) : ∀ vs : List Value, vs.length = kvs.length → (∀ (j : Nat) (v : Value), vs[j]? = some v → ∃ k x, kvs[j]? = some (k, x) ∧ ∃ t, v = .int k t) → IntsAre vs (kvs.map (·.1)) := by
  induction kvs with
  | nil => intro vs hl _; cases vs with | nil => exact .nil | cons _ _ => simp at hl
  | cons p kvs ih =>
    intro vs hl hv
    cases vs with
    | nil => simp at hl
    | cons v vs =>
      obtain ⟨k, x, e, t, rfl⟩ := hv 0 v rfl
      simp only [List.getElem?_cons_zero, Option.some.injEq] at e
      subst e
      exact .cons k t (ih vs (by simpa using hl) fun j v hj => hv (j + 1) v (by simpa using hj))
theorem sorted_dict {d : Addr} {o : Obj} {kvs : List (Int × Value)} {Q : Value → Shared → Prop} (hh : A.handled = none) (F : Fr h₀ L s.heap m) (N : News h₀ L s.heap news) (hp : (d, o) ∈ news) (hd : o.IsDictOf (IK w) kvs) (lo : (d == sysModules) = false) (hsz : kvs.length < 64)
    (h : ∀ B vs ns c h' tk, Fr h₀ L h' m → News h₀ L h' ((B, listOf vs.toArray c) :: news) → (∀ q ∈ news, @LT.lt Nat _ q.1 B) → IntsAre vs ns → ns.Perm (kvs.map (·.1)) → Q (.ref B) { s with heap := h', toks := tk }) :
    wpAny (model PySem.Challenge.rw_pb0547_01.row.prog w.toWorld) A (call (.builtin "sorted") [.ref d]) Q E s := by
  obtain ⟨ep, ha⟩ := KdkAt.of hd
  refine kdu_sorted (kdl_dict (knd := IK w) (kvs := kvs) (ep := ep) lo) hh F N (ha.dictAt (N _ hp).1) (by rw [sizeLine_eq]; omega) fun B h' tk vs F' N' l1 hl hv => ?_
  have hI : IntsAre vs (kvs.map (·.1)) := ints_keys kvs vs hl fun j v hj => by
    obtain ⟨k, x, e1, e2⟩ := hv j v hj
    exact ⟨k, x, e1, PySem.Value.isInt_shape e2⟩
  have z := N' _ (.head _)
  refine wpAny_call_entry PyProof.Rows.slot_list_sort ⟨_, z.1, rfl⟩ PyProof.Rows.entry_list_sort (list_sort_tree (n := 0) (vs := vs) z.1 hI (by omega) fun out ns' hO hP hS => ⟨.none, rfl, ?_⟩) (PyProof.Rows.args_list_sort _)
  have F1 : Fr h₀ L (h'.update B (Obj.mapSeq fun _ => (#[] : Array Value))) m := F'.change (Heap.SameBut.update ..) z.2.1 z.2.2
  have b : ∀ p ∈ news, p.1 ≠ B := fun p hp => Nat.ne_of_lt (l1 p hp)
  have N1 := ki_turn (pre := []) (fun _ => (#[] : Array Value)) (its' := #[]) N' (fun _ h => nomatch h) b rfl rfl
  have N2 := News.grown N1 fun _ _ e => Heap.get?_push_of_some (seqObj "tuple" vs.toArray 0) e
  have N3 := News.grown N2 fun _ _ e => Heap.get?_push_of_some (seqObj "list" #[] 0) e
  have N4 := ki_turn (pre := []) (fun _ => out) (its' := out) N3 (fun _ h => nomatch h) b rfl rfl
  have F4 : Fr h₀ L ((((h'.update B (Obj.mapSeq fun _ => (#[] : Array Value))).push (seqObj "tuple" vs.toArray 0)).push (seqObj "list" #[] 0)).update B (Obj.mapSeq fun _ => out)) m :=
    ((F1.push (seqObj "tuple" vs.toArray 0)).push (seqObj "list" #[] 0)).change (Heap.SameBut.update ..) z.2.1 z.2.2
  have N5 := N4
  have eo : out = out.toList.toArray := by simp
  rw [eo] at N5
  exact h B out.toList ns' _ _ _ F4 N5 l1 hO hP
end
/-- the table that leads back, in the order of ns -/
def revOf (c : List (Int × Int)) (ns : List Int) : List (Int × Int) := (ns.map fun k => ((look c k).getD 0, k)).foldl (fun c p => putK c p.1 p.2) []
theorem KvRel.fold {R : Value → Int → Prop} {ps : List (Int × Value)} {cs : List (Int × Int)} (h : KvRel R ps cs) : ∀ {acc : List (Int × Value)} {ac : List (Int × Int)}, KvRel R acc ac → KvRel R (ps.foldl (fun c p => stored c p.1 p.2) acc) (cs.foldl (fun c p => putK c p.1 p.2) ac) := by
  induction h with
  | nil => intro _ _ h; exact h
  | cons a _ ih => intro acc ac h; exact ih (h.put a)
theorem KvRel.snoc {R : Value → Int → Prop} {ps : List (Int × Value)} {cs : List (Int × Int)} (h : KvRel R ps cs) {k : Int} {v : Value} {b : Int} (hv : R v b) : KvRel R (ps ++ [(k, v)]) (cs ++ [(k, b)]) := h.append hv
theorem PairsIn.mono {n₁ n₂ : Led} (hs : ∀ p ∈ n₁, p ∈ n₂) {vs : List Value} {ps : List (Int × Value)} (h : PairsIn n₁ vs ps) : PairsIn n₂ vs ps := by
  induction h with
  | nil => exact .nil
  | cons a _ ih => exact .cons (hs _ a) ih
theorem PairsIn.snoc {news : Led} {vs : List Value} {ps : List (Int × Value)} (h : PairsIn news vs ps) {a : Addr} {n : Nat} {k : Int} {t : Tok} {v : Value} (hm : (a, tupOf [.int k t, v] n) ∈ news) : PairsIn news (vs ++ [.ref a]) (ps ++ [(k, v)]) := by
  induction h with
  | nil => exact .cons hm .nil
  | cons a _ ih => exact .cons a ih
/-- what the comprehension has after i turns -/
def rev_J (base : Led) (c : List (Int × Int)) (ns : List Int) (i : Nat) (ys : List Value) (nw : Led) : Prop :=
  ∃ (tl : Led) (ps : List (Int × Value)), nw = tl ++ base ∧ PairsIn nw ys ps ∧ KvRel IsInt ps ((ns.take i).map fun k => ((look c k).getD 0, k)) ∧ (∀ p ∈ tl, ∀ q ∈ base, @LT.lt Nat _ q.1 p.1)
theorem rev_J0 (base : Led) (c : List (Int × Int)) (ns : List Int) : rev_J base c ns 0 [] base := ⟨[], [], rfl, .nil, by simpa using KvRel.nil, fun p hp => nomatch hp⟩
theorem rev_end {h₀ h' : Heap} {L I C D x : Addr} {m : Str → Option Value} {s₁ : Shared} {oI oC oD : Obj} {tl base : Led} {c : List (Int × Int)} {ns : List Int} {i n tk : Nat} {ys : List Value} {ps : List (Int × Value)} {S : Led → Prop} {k y : Int} {t1 t2 : Tok}
    (F : Fr h₀ L h' m) (N : News h₀ L h' ((x, tupOf [.int y t1, .int k t2] n) :: (I, oI) :: (C, oC) :: (D, oD) :: (tl ++ base)))
    (l1 : @LT.lt Nat _ I x ∧ @LT.lt Nat _ C x ∧ @LT.lt Nat _ D x ∧ AllLt x (tl ++ base)) (hoff : Off3 I C D (tl ++ base)) (hS : S ((x, tupOf [.int y t1, .int k t2] n) :: (tl ++ base)))
    (hps : PairsIn (tl ++ base) ys ps) (hkv : KvRel IsInt ps ((ns.take i).map fun k => ((look c k).getD 0, k))) (hlt : ∀ p ∈ tl, ∀ q ∈ base, @LT.lt Nat _ q.1 p.1) (hk : ns[i]? = some k) (hy : look c k = some y) :
    CompEnd h₀ L m s₁ I oI C oC D oD S (fun y nw => rev_J base c ns (i + 1) (ys ++ [y]) nw) (.ref x) { s₁ with heap := h', toks := tk } := by
  obtain ⟨l2, l3, l4, l5⟩ := l1
  refine CompEnd.intro F N ((x, tupOf [.int y t1, .int k t2] n) :: (tl ++ base)) ?_ ?_ hS ⟨(x, tupOf [.int y t1, .int k t2] n) :: tl, ps ++ [(y, .int k t2)], rfl, (hps.mono fun p hp => .tail _ hp).snoc (.head _), ?_, ?_⟩
  · intro p hp
    rcases List.mem_cons.mp hp with rfl | hp
    · exact .tail _ (.head _)
    · rcases List.mem_cons.mp hp with rfl | hp
      · exact .tail _ (.tail _ (.head _))
      · rcases List.mem_cons.mp hp with rfl | hp
        · exact .tail _ (.tail _ (.tail _ (.head _)))
        · rcases List.mem_cons.mp hp with rfl | hp
          · exact .head _
          · exact .tail _ (.tail _ (.tail _ (.tail _ hp)))
  · refine Off3.of fun p hp => ?_
    rcases List.mem_cons.mp hp with rfl | hp
    · exact ⟨Nat.ne_of_gt l2, Nat.ne_of_gt l3, Nat.ne_of_gt l4⟩
    · exact hoff.mem p hp
  · rw [List.take_add_one, hk]
    simp only [Option.toList, List.map_append, List.map_cons, List.map_nil, hy, Option.getD_some]
    exact hkv.snoc ⟨_, rfl⟩
  · intro p hp q hq
    rcases List.mem_cons.mp hp with rfl | hp
    · exact tb_ltOf l5 q (List.mem_append_right _ hq)
    · exact hlt p hp q hq
theorem KvRel.look_key {β : Type} {R : Value → β → Prop} {kvs : List (Int × Value)} {c : List (Int × β)} (h : KvRel R kvs c) {k : Int} (hk : k ∈ kvs.map (·.1)) : ∃ b, look c k = Option.some b := by
  induction h with
  | nil => simp at hk
  | @cons k' v b kvs c a _ ih =>
    by_cases e : k' = k
    · exact ⟨b, by simp [look, e]⟩
    · obtain ⟨b', hb⟩ := ih (by
        rcases List.mem_cons.mp (by simpa using hk : k ∈ k' :: kvs.map (·.1)) with h | h
        · exact absurd h.symm e
        · exact h)
      exact ⟨b', by simpa [look, e] using hb⟩
section
variable {prog : Program} {w : World} {A : Around} {s : Shared} {h₀ : Heap} {L : Addr} {m : Str → Option Value} {env : Env}
theorem comp_rev {elt : Expr} {x : Str} {scope : Scope} {cl : List (Str × Addr)} {S : Led → Prop} {Fin : List Value → Led → Prop} {base : Led} {c : List (Int × Int)} {vs : List Value} {ns : List Int} (hI : IntsAre vs ns) (hk : ∀ k ∈ ns, ∃ y, look c k = some y)
    (step : ∀ i k t y ys tl ps I oI C oC D m₂ h tk (E' : Value → Shared → Prop), ns[i]? = some k → look c k = some y → PairsIn (tl ++ base) ys ps → KvRel IsInt ps ((ns.take i).map fun k => ((look c k).getD 0, k)) → (∀ p ∈ tl, ∀ q ∈ base, @LT.lt Nat _ q.1 p.1) →
      NsObj oC m₂ → m₂ x = some (.int k t) → Fr h₀ L h m → News h₀ L h ((I, oI) :: (C, oC) :: (D, lst ys) :: (tl ++ base)) → Off3 I C D (tl ++ base) → ((@Ne Nat I C) ∧ (@Ne Nat I D) ∧ (@Ne Nat C D)) →
      wpAny (model prog w) A (eval elt (compEnvC scope cl C env)) (CompEnd h₀ L m { s with heap := h, toks := tk } I oI C oC D (lst ys) S (fun y nw => rev_J base c ns (i + 1) (ys ++ [y]) nw)) E' { s with heap := h, toks := tk })
    (fin : ∀ ys tl ps, PairsIn (tl ++ base) ys ps → KvRel IsInt (ps.foldl (fun c p => stored c p.1 p.2) []) (revOf c ns) → ps.length = ns.length → (∀ p ∈ tl, ∀ q ∈ base, @LT.lt Nat _ q.1 p.1) → Fin ys (tl ++ base)) :
    CompRest prog w A h₀ L m env elt x scope cl s S (fun i v => vs.toArray[i]? = some v) Fin vs.toArray.size 0 [] base := by
  refine comp_ind (rev_J base c ns) (rev_J0 base c ns) ?_ ?_
  · rintro i v ys nx I oI C oC D m₂ h tk E' hi hv ⟨tl, ps, rfl, hps, hkv, hlt⟩ hC hx F₁ N₁ hoff hne
    obtain ⟨k, t, rfl, hk'⟩ := IntsAre.at hI i v (by simpa using hv)
    obtain ⟨y, hy⟩ := hk k (List.mem_of_getElem? hk')
    exact step i k t y ys tl ps I oI C oC D m₂ h tk E' hk' hy hps hkv hlt hC hx F₁ N₁ hoff hne
  · rintro ys nx ⟨tl, ps, rfl, hps, hkv, hlt⟩
    have e : ns.take vs.toArray.size = ns := by
      have := hI.length
      rw [List.take_of_length_le]
      simp only [List.size_toArray]; omega
    rw [e] at hkv
    refine fin ys tl ps hps (hkv.fold .nil) ?_ hlt
    have := hkv.length
    rw [List.length_map] at this
    exact this
end
end Mine
end
section
open PySem PySem.W PyProof.Rows PySem.Spec PySem.Calls
set_option Elab.async false
namespace Mine
/-- a loop's iterator is the newest object -/
theorem it_frame {h₀ h : Heap} {L a : Addr} {o : Obj} {m : Str → Option Value} {news : Led} (F : Fr h₀ L h m) (N : News h₀ L h news) (hm : (a, o) ∈ news) : L ∉ [h.objs.size, a] := fun q => by
  have q' : L = h.objs.size ∨ L = a := by simpa using q
  exact q'.elim (fun e => Nat.lt_irrefl _ (e ▸ F.ns.lt)) fun e => (N _ hm).2.1 e.symm
theorem it_new {h₀ h : Heap} {L : Addr} {m : Str → Option Value} (F : Fr h₀ L h m) : ∀ b ∈ [h.objs.size], h₀.get? b = none := by
  simpa using next_is_new F
theorem it_off {h₀ h : Heap} {L : Addr} {news : Led} (N : News h₀ L h news) : ∀ p ∈ news, p.1 ∉ [h.objs.size] := fun p hp q => by
  have e : p.1 = h.objs.size := by simpa using q
  exact Nat.lt_irrefl _ (e ▸ Heap.lt_size (N p hp).1)
/-- the part of a turn's own objects that the loop holds: its iterator -/
abbrev itOf (it : Addr) (own : Led) : Led := own.filter fun p => decide (p.1 = it)
theorem mem_itOf {it : Addr} {own : Led} {p : Addr × Obj} (hp : p ∈ own) (e : p.1 = it) : p ∈ itOf it own := List.mem_filter.mpr ⟨hp, decide_eq_true e⟩
theorem itOf_off {it : Addr} {own news : Led} (k : ∀ q ∈ news, q.1 ∉ [it]) : OwnOff (itOf it own) (news.map (·.1)) := by
  rintro ⟨a, o⟩ hp b hb rfl
  have e : a = it := of_decide_eq_true (List.mem_filter.mp hp).2
  obtain ⟨q, hq, z⟩ := List.exists_of_mem_map hb
  exact k q hq (by rw [z, e]; exact List.mem_singleton_self _)
theorem itOf_news {h₀ h : Heap} {L it : Addr} {own news : Led} (N : News h₀ L h (own ++ news)) : News h₀ L h (news ++ itOf it own) := fun p hp => by
  obtain h | h := List.mem_append.mp hp
  · exact N p (List.mem_append_right _ h)
  · exact N p (List.mem_append_left _ (List.mem_filter.mp h).1)
/-- behind a turn of a loop over one object (a, oa) of the ledger -/
theorem it_end {h₀ : Heap} {L it a : Addr} {oI oa : Obj} {own : Led} {P : (Str → Option Value) → Led → Prop} {s₁ s₂ : Shared} (hI : (it, oI) ∈ own) (hown : ∀ p ∈ own, p.1 ∈ [it, a]) (hget : ∀ p ∈ own, s₁.heap.get? p.1 = some p.2) (ha : s₁.heap.get? a = some oa)
    (keep : ∀ m nx, P m nx → (a, oa) ∈ nx) (q : InvEndG h₀ L P (itOf it own) s₁ s₂) : LoopStepU h₀ L [it] own P s₁ .next s₂ := by
  obtain ⟨h', tk, m', news', nx, e, F', N', grown, kept, apart, hP⟩ := q
  have only : ∀ p ∈ own, p.1 = it ∨ p = (a, oa) := by
    rintro ⟨b, o⟩ hp
    have z : b = it ∨ b = a := by simpa using hown _ hp
    refine z.imp id ?_
    rintro rfl
    have g : some o = some oa := (hget _ hp).symm.trans ha
    cases g
    rfl
  refine ⟨rfl, h', tk, m', nx, e, F', fun p hp => N' p ?_, fun p hp hq => apart _ (mem_itOf hI rfl) p.1 (List.mem_map_of_mem hp) (List.mem_singleton.mp hq).symm, hP⟩
  obtain h | h := List.mem_append.mp hp
  · obtain hi | rfl := only p h
    · exact kept p (mem_itOf h hi)
    · exact grown _ (keep _ _ hP)
  · exact grown p h
section
variable {prog : Program} {w : World} {A : Around} {E : Value → Shared → Prop} {s : Shared} {env : Env} {h₀ : Heap} {x : Str} {body : List Stmt} {Q : Flow → Shared → Prop}
/-- a for over the keys of a dict of the ledger -/
theorem loop_dict {d : Addr} {o : Obj} {kvs : List (Int × Value)} {m₀ : Str → Option Value} {news : Led} (stored : List Str) (J : Nat → Led → Prop)
    (hh : A.handled = none) (hm : (d, o) ∈ news) (hd : o.IsDictOf (PySem.intKind prog w) kvs) (lo : (d == sysModules) = false) (F : Fr h₀ env.locals s.heap m₀) (N : News h₀ env.locals s.heap news) (hj : J 0 news)
    (turn : ∀ (i : Nat) (k : Int) (y : Value) t (u : Str → Option Value) nx h tk own, kvs[i]? = some (k, y) → OwnOff own (nx.map (·.1)) → (d, o) ∈ nx → J i nx → Fr h₀ env.locals h (fun y => if y = x then some (.int k t) else if stored.contains y then u y else m₀ y) → News h₀ env.locals h (nx ++ own) →
      wpAny (model prog w) A (execs body env) (InvPostG h₀ env.locals (fun m' nx' => Like x stored m₀ m' ∧ (d, o) ∈ nx' ∧ J (i + 1) nx') own { s with heap := h, toks := tk } Q) E { s with heap := h, toks := tk })
    (done : ∀ (u : Str → Option Value) nx h tk, J kvs.length nx → Fr h₀ env.locals h (fun y => if y = x then u y else if stored.contains y then u y else m₀ y) → News h₀ env.locals h nx → Q .next { s with heap := h, toks := tk }) :
    wpAny (model prog w) A (pyIter (.ref d)) (fun it s₂ => LoopAtV prog w A h₀ env x body Q E it s₂) E s := by
  have hod : s.heap.get? d = some o := (N _ hm).1
  have hne : d ≠ s.heap.objs.size := Nat.ne_of_lt (Heap.lt_size hod)
  obtain ⟨ep, ha⟩ := KdkAt.of hd
  have hat : s.heap.DictAt (PySem.intKind prog w) d kvs ep := ha.dictAt hod
  refine wpAny_pyIter_dict lo hat ?_
  have W := Walks.dictKeys (prog := prog) (w := w) (knd := PySem.intKind prog w) hh s.heap.objs.size d hne kvs ep
  refine ⟨_, _, _, kvs.length, _, _, m₀, news, (fun i m nx => Like x stored m₀ m ∧ (d, o) ∈ nx ∧ J i nx), rfl, W, ?_, ?_, ?_, ⟨⟨_, Heap.get?_push_size _ rfl, rfl, rfl⟩, hat.push _⟩, F.push _, (fun p hp => ⟨Heap.get?_push_of_some _ (N p hp).1, (N p hp).2⟩), ⟨fun _ _ _ => rfl, hm, hj⟩, ?_, ?_⟩
  · exact it_frame F N hm
  · exact it_new F
  · exact it_off N
  · rintro i v m₁ news₁ s₁ own ⟨hh', tk', rfl⟩ hin hP ⟨hl, hd₁, hJ⟩ hoff hown hget hfp hst F₁ N₁
    obtain ⟨k, y, hk, hv⟩ := hP
    obtain ⟨t, rfl⟩ := PySem.Value.isInt_shape hv
    obtain ⟨⟨oI, hoI, _⟩, _⟩ := id hst
    have hIn : (s.heap.objs.size, oI) ∈ own := hfp _ (List.mem_cons_self ..) (next_is_new F) _ hoI
    refine wpAny_mono (turn i k y t m₁ news₁ hh' tk' _ hk (itOf_off hoff) hd₁ hJ (hl.fr F₁) (itOf_news N₁)) (fun f s₂ p => ?_) fun _ _ e => e
    have fin := it_end (h₀ := h₀) (L := env.locals) (s₁ := { s with heap := hh', toks := tk' }) (s₂ := s₂) (P := fun m nx => Like x stored m₀ m ∧ (d, o) ∈ nx ∧ J (i + 1) nx) hIn hown hget (N₁ _ (List.mem_append_right _ hd₁)).1 fun _ _ z => z.2.1
    cases f with
    | ret v => exact .ret p
    | brk => exact .brk p
    | next => exact .next (fin p)
    | cont => exact .cont (fin p)
  · rintro h' tk m' news' F' N' _ ⟨hl, _, hJ⟩
    refine done m' news' h' tk hJ ?_ N'
    have F₂ := hl.frOut F'
    have e : (fun y => if y = x then m' x else if stored.contains y then m' y else m₀ y) = (fun y => if y = x then m' y else if stored.contains y then m' y else m₀ y) := by
      funext y; by_cases hx : y = x <;> simp [hx]
    rw [← e]; exact F₂
/-- the same, the ledger as it was at each turn's end -/
theorem loop_dict0 {d : Addr} {o : Obj} {kvs : List (Int × Value)} {m₀ : Str → Option Value} {news : Led} (stored : List Str)
    (hh : A.handled = none) (hm : (d, o) ∈ news) (hd : o.IsDictOf (PySem.intKind prog w) kvs) (lo : (d == sysModules) = false) (F : Fr h₀ env.locals s.heap m₀) (N : News h₀ env.locals s.heap news)
    (turn : ∀ (i : Nat) (k : Int) (y : Value) t (u : Str → Option Value) h tk own, kvs[i]? = some (k, y) → OwnOff own (news.map (·.1)) → Fr h₀ env.locals h (fun y => if y = x then some (.int k t) else if stored.contains y then u y else m₀ y) → News h₀ env.locals h (news ++ own) →
      wpAny (model prog w) A (execs body env) (InvPostG h₀ env.locals (fun m' nx' => Like x stored m₀ m' ∧ nx' = news) own { s with heap := h, toks := tk } Q) E { s with heap := h, toks := tk })
    (done : ∀ (u : Str → Option Value) h tk, Fr h₀ env.locals h (fun y => if y = x then u y else if stored.contains y then u y else m₀ y) → News h₀ env.locals h news → Q .next { s with heap := h, toks := tk }) :
    wpAny (model prog w) A (pyIter (.ref d)) (fun it s₂ => LoopAtV prog w A h₀ env x body Q E it s₂) E s := by
  refine loop_dict stored (fun _ nx => nx = news) hh hm hd lo F N rfl ?_ ?_
  · rintro i k y t u nx h tk own hk hoff _ rfl F₁ N₁
    refine wpAny_mono (turn i k y t u h tk own hk hoff F₁ N₁) (fun f s₂ p => ?_) fun _ _ e => e
    have fin : InvEndG h₀ env.locals (fun m' nx' => Like x stored m₀ m' ∧ nx' = nx) own { s with heap := h, toks := tk } s₂ → InvEndG h₀ env.locals (fun m' nx' => Like x stored m₀ m' ∧ (d, o) ∈ nx' ∧ nx' = nx) own { s with heap := h, toks := tk } s₂ := by
      rintro ⟨h', tk', m', news', nx', e, F', N', hn, ho, ha, hl, rfl⟩
      exact ⟨h', tk', m', news', nx', e, F', N', hn, ho, ha, hl, hm, rfl⟩
    cases f with
    | ret v => exact p
    | brk => exact p
    | next => exact fin p
    | cont => exact fin p
  · rintro u nx h tk rfl F₁ N₁
    exact done u h tk F₁ N₁
theorem same_end {stored : List Str} {m₀ m' : Str → Option Value} {L : Addr} {news own news' : Led} {s₁ : Shared} {h' : Heap} {tk : Nat} (F : Fr h₀ L h' m') (N : News h₀ L h' news') (hl : Like x stored m₀ m') (hs : ∀ p ∈ news ++ own, p ∈ news') (hoff : OwnOff own (news.map (·.1))) :
    InvEndG h₀ L (fun m' nx' => Like x stored m₀ m' ∧ nx' = news) own s₁ { s₁ with heap := h', toks := tk } :=
  InvEndG.intro F N ⟨hl, rfl⟩ hoff (fun p hp => hs p (List.mem_append_left _ hp)) fun p hp => hs p (List.mem_append_right _ hp)
end
theorem KvRel.look_at {β : Type} {R : Value → β → Prop} {kvs : List (Int × Value)} {c : List (Int × β)} (h : KvRel R kvs c) {i : Nat} {k : Int} {y : Value} (hk : kvs[i]? = Option.some (k, y)) : ∃ b, look c k = Option.some b := by
  induction h generalizing i with
  | nil => simp at hk
  | @cons k' v b kvs c a _ ih =>
    by_cases e : k' = k
    · exact ⟨b, by simp [look, e]⟩
    · cases i with
      | zero => simp at hk; exact absurd hk.1 e
      | succ i =>
        obtain ⟨b', hb⟩ := ih (by simpa using hk)
        exact ⟨b', by simpa [look, e] using hb⟩
end Mine
end
section
open PySem PySem.W PyProof.Rows PySem.Spec PySem.Calls PySem.SeqAt PyProof.V PyProof.Rows.LCg
set_option Elab.async false
namespace Mine
section
variable {prog : Program} {w : World} {A : Around} {E : Value → Shared → Prop} {s : Shared} {h₀ : Heap} {L : Addr} {m : Str → Option Value} {env : Env}
/-- the source of a comprehension is a dict of the ledger -/
def SrcD (prog : Program) (w : World) (A : Around) (h₀ : Heap) (L : Addr) (m : Str → Option Value) (env : Env) (elt : Expr) (x : Str) (scope : Scope) (cl : List (Str × Addr)) (Fin : Shared → List Value → List (Addr × Obj) → Prop) (xv : Value) (s₁ : Shared) : Prop :=
  ∃ (d : Addr) (o : Obj) (kvs : List (Int × Value)) (news : Led), xv = .ref d ∧ A.handled = none ∧ Fr h₀ L s₁.heap m ∧ News h₀ L s₁.heap news ∧ (d, o) ∈ news ∧ o.IsDictOf (PySem.intKind prog w) kvs ∧ (d == sysModules) = false ∧ kvs.length ≤ 1000 ∧
    ∀ s₂ : Shared, (∃ h, s₂ = { s₁ with heap := h }) → CompRest prog w A h₀ L m env elt x scope cl s₂ (fun nw => (d, o) ∈ nw) (fun i v => ∃ k y, kvs[i]? = some (k, y) ∧ (PySem.intKind prog w).is k v = true) (Fin s₂) kvs.length 0 [] news
theorem ListComp_D {elt iter : Expr} {x : Str} {px : Pos} {scope : Scope} {cl : List (Str × Addr)} {pos : Pos} {Q : Value → Shared → Prop} (_F₀ : Fr h₀ L s.heap m)
    (hclos : closureFor scope env = pure cl) (hcell : ∀ y ∈ scope.names, y.2 ≠ .cell) (hkind : scope.kind = .function)
    (hnames : ∀ y ∈ scope.names, y.2 = .local → scope.names.lookup y.1 = some .local) (hx : scope.names.lookup x = some .local)
    (h : wpAny (model prog w) A (eval iter env) (SrcD prog w A h₀ L m env elt x scope cl (fun s₂ => FinE h₀ L m s₂ Q)) E s)
    (hs : ∀ x, foldedSetIterable iter env x = pure x := by intro _; rfl) :
    wpAny (model prog w) A (eval (.ListComp elt [⟨.Name x px, iter, [], 0⟩] scope pos) env) Q E s := by
  rw [eval_ListComp]
  refine wpAny_comprehension_free (use := none) rfl hs hclos hkind hnames (wpAny_mono h (fun xv s₁ h₁ => ?_) fun _ _ e => e)
  obtain ⟨d, o, kvs, news, rfl, hh, F, N, hm, hd, lo, hsz, R⟩ := h₁
  obtain ⟨ep, ha⟩ := KdkAt.of hd
  have hat : s₁.heap.DictAt (PySem.intKind prog w) d kvs ep := ha.dictAt (N _ hm).1
  have hlt : d < s₁.heap.objs.size := Heap.lt_size (N _ hm).1
  refine wpAny_pyIter_dict lo hat ?_
  have up : ∀ oo b ob, s₁.heap.get? b = some ob → (s₁.heap.push oo).get? b = some ob := fun oo b ob e => Heap.get?_push_of_some _ e
  have W := Walks.dictKeys (prog := prog) (w := w) (knd := PySem.intKind prog w) hh s₁.heap.objs.size d (Nat.ne_of_lt hlt) kvs ep
  refine block_U W (by rw [sizeLine_eq]; omega) (fun i h st => by obtain ⟨o, e, _⟩ := st.1; exact ⟨o, e⟩)
    (fun i h h' oi nw st e e' _ N' S => ⟨by obtain ⟨o', q, r⟩ := st.1; rw [e] at q; cases q; exact ⟨_, e', r⟩, ha.dictAt (N' _ S).1⟩) hcell hkind hx ⟨⟨_, Heap.get?_push_size _ rfl, rfl, rfl⟩, hat.push _⟩ (fun b hb => ?_)
    (F.keeps (up _)) (N.grown (up _)) (Nat.ne_of_lt F.ns.lt) (next_is_new F) (fun p hp => Nat.ne_of_lt (Heap.lt_size (N p hp).1)) hm (R _ ⟨_, rfl⟩) ?_
  · exact both_lie hlt hb
  · exact fun D C h tk m' ys news' F' N' o1 hn hC₀ hD₀ hCL hDL hCD offC fin => ⟨m', hn, fun h'' hs'' => fin D h'' tk (F'.change hs'' hCL hC₀) (fun p hp => ⟨hs''.extBut _ _ (off_with hCD offC p hp) (N' p hp).1, (N' p hp).2⟩) o1⟩
/-- the reversal of a dict of the ledger, in its own order -/
theorem comp_revD {elt : Expr} {x : Str} {scope : Scope} {cl : List (Str × Addr)} {S : Led → Prop} {Fin : List Value → Led → Prop} {base : Led} {c : List (Int × Int)} {kvs : List (Int × Value)} (hkv : KvRel IsInt kvs c)
    (step : ∀ i k t y ys tl ps I oI C oC D m₂ h tk (E' : Value → Shared → Prop), (kvs.map (·.1))[i]? = some k → look c k = some y → PairsIn (tl ++ base) ys ps → KvRel IsInt ps (((kvs.map (·.1)).take i).map fun k => ((look c k).getD 0, k)) → (∀ p ∈ tl, ∀ q ∈ base, @LT.lt Nat _ q.1 p.1) →
      NsObj oC m₂ → m₂ x = some (.int k t) → Fr h₀ L h m → News h₀ L h ((I, oI) :: (C, oC) :: (D, lst ys) :: (tl ++ base)) → Off3 I C D (tl ++ base) → ((@Ne Nat I C) ∧ (@Ne Nat I D) ∧ (@Ne Nat C D)) →
      wpAny (model prog w) A (eval elt (compEnvC scope cl C env)) (CompEnd h₀ L m { s with heap := h, toks := tk } I oI C oC D (lst ys) S (fun y nw => rev_J base c (kvs.map (·.1)) (i + 1) (ys ++ [y]) nw)) E' { s with heap := h, toks := tk })
    (fin : ∀ ys tl ps, PairsIn (tl ++ base) ys ps → KvRel IsInt (ps.foldl (fun c p => stored c p.1 p.2) []) (revOf c (kvs.map (·.1))) → ps.length = kvs.length → (∀ p ∈ tl, ∀ q ∈ base, @LT.lt Nat _ q.1 p.1) → Fin ys (tl ++ base)) :
    CompRest prog w A h₀ L m env elt x scope cl s S (fun i v => ∃ k y, kvs[i]? = some (k, y) ∧ (PySem.intKind prog w).is k v = true) Fin kvs.length 0 [] base := by
  refine comp_ind (rev_J base c (kvs.map (·.1))) (rev_J0 base c _) ?_ ?_
  · rintro i v ys nx I oI C oC D m₂ h tk E' hi ⟨k, x0, hk, hv⟩ ⟨tl, ps, rfl, hps, hkv', hlt⟩ hC hx F₁ N₁ hoff hne
    obtain ⟨t, rfl⟩ := PySem.Value.isInt_shape hv
    obtain ⟨y, hy⟩ := hkv.look_at hk
    exact step i k t y ys tl ps I oI C oC D m₂ h tk E' (by rw [List.getElem?_map, hk]; rfl) hy hps hkv' hlt hC hx F₁ N₁ hoff hne
  · rintro ys nx ⟨tl, ps, rfl, hps, hkv', hlt⟩
    rw [List.take_of_length_le (by rw [List.length_map]; exact Nat.le_refl _)] at hkv'
    refine fin ys tl ps hps (hkv'.fold .nil) ?_ hlt
    have := hkv'.length
    rw [List.length_map, List.length_map] at this
    exact this
end
end Mine
end
section
open PySem PySem.W PyProof.Rows PySem.Spec PySem.Calls PyProof.Rows.LCg
set_option Elab.async false
namespace Mine
set_option maxRecDepth 100000 in
set_option maxHeartbeats 8000000 in
theorem outer_of_v {w : Wd} {t P I S : Addr} {cfg : Cfg} {fr : FrameD} {fv : Value} {port : Int} {tp : Tok} {n : Led} (hT : TunAt w n t P I S) (hP : DictIn w (PortIn w) n (.ref P) cfg) (hf : FrameIn w n fv fr) :
  DoesV w 218 [.ref t, .int port tp, fv] n 20 200 (IsI (outerOf cfg port fr.tags)) := by
  refine Does.enterF (dep := 19) (un := 197) (binds := [(Str.ofString "self", .ref t), (Str.ofString "port", .int port tp), (Str.ofString "frame", fv)]) (fn_218 _) (fun _ _ _ _ _ => rfl) (locs rfl) rfl rfl rfl (by decide) ?_
  intro c cdv hw hcl O
  subst hw
  refine St.ifr (Tr.cp (Cp.notIn (Ev.name rfl ⟨_, rfl⟩) (Ev.tun_ports O hT (Ev.name rfl rfl) hP))) (fun hb => ?_) (fun hb => ?_)
  · have hl : look cfg port = none := by simpa using hb
    exact St.ret Ev.int fun v hv => ⟨by simpa only [outerOf, hl] using hv, rfl⟩
  · obtain ⟨p, hl⟩ : ∃ p, look cfg port = some p := by simpa [Option.isSome_iff_exists] using hb
    refine St.asg (Ev.dget (Ev.tun_ports O hT (Ev.name rfl rfl) hP) (Ev.name rfl ⟨_, rfl⟩) hl) fun row hrow => ?_
    refine St.asg (V := IsI (innerVlan fr.tags)) (Ev.ifexp (Tr.cp (Cp.nil_ne O (Ev.fr_tags O (Ev.name rfl hf)))) (fun hb => ?_) (fun hb => ?_)) fun inner hin => ?_
    · obtain ⟨t1, ts, hts⟩ : ∃ t1 ts, fr.tags = t1 :: ts := by cases h : fr.tags with | nil => rw [h] at hb; cases hb | cons a b => exact ⟨a, b, rfl⟩
      rw [hts]
      exact Ev.tag_vlan O (Ev.tag0 (hts ▸ Ev.fr_tags O (Ev.name rfl hf)))
    · have hts : fr.tags = [] := by cases h : fr.tags with | nil => rfl | cons a b => rw [h] at hb; cases hb
      rw [hts]
      exact Ev.int
    · exact St.ret (Ev.getI (Ev.port_by_inner O (Ev.name rfl hrow)) (Ev.name rfl hin) (Ev.port_outer O (Ev.name rfl hrow))) fun v hv => ⟨by simpa only [outerOf, hl] using hv, rfl⟩
end Mine
end
section
open PySem PySem.W PyProof.Rows PySem.Spec PySem.Calls PyProof.Rows.LCg
set_option Elab.async false
namespace Mine
theorem none_of {β : Type} {o : Option β} (h : (!o.isSome) = true) : o = none := by simpa using h
theorem some_of {β : Type} {o : Option β} (h : (!o.isSome) = false) : ∃ b, o = some b := by simpa [Option.isSome_iff_exists] using h
theorem nil_of {ts : List TagD} (h : ts.isEmpty = true) : ts = [] := by simpa using h
theorem cons_of {ts : List TagD} (h : ts.isEmpty = false) : ∃ a b, ts = a :: b := by cases ts with | nil => cases h | cons a b => exact ⟨a, b, rfl⟩
section
variable {c : Ctx} {f : Fn} {l : Loc} {n : Led} {v : Value} {pos pos1 pos2 pos3 pos4 pos5 : Pos} {k k2 d u : Nat} {fr : FrameD} {x : Str} {V : Value → Prop}
/-- what hangs on the first tag -/
theorem Ev.first {e1 e2 : PySem.Expr} {g : List TagD → Value → Prop} (O : c.Ok d u) (hv : l.lookup x = some v) (hf : FrameIn c.w n v fr) (h1 : ∀ t ts, fr.tags = t :: ts → Ev c f l n e1 (g (t :: ts))) (h2 : fr.tags = [] → Ev c f l n e2 (g []))
    (hk : f.cs.kind = .function := by rfl) (hx : (c.env f).kindOf x = some .local := by rfl) (hd : (x == ("__debug__" : Str)) = false := by decide) :
    Ev c f l n (.IfExp (.Compare (.Attribute (.Name x pos1) (Str.ofString "tags") pos2) [.NotEq] [.Tuple [] k pos3] pos4) e1 e2 pos5) (g fr.tags) :=
  Ev.ifexp (Tr.cp (Cp.nil_ne O (Ev.fr_tags O (Ev.nameF hv hf hk hx hd)))) (fun hb => by
    obtain ⟨t, ts, h⟩ := cons_of (by simpa using hb)
    rw [h]; exact h1 t ts h) (fun hb => by
    have h := nil_of (by simpa using hb)
    rw [h]; exact h2 h)
end
set_option maxRecDepth 100000 in
set_option maxHeartbeats 8000000 in
theorem put_on_g {w : Wd} {t P I S : Addr} {cfg : Cfg} {fr : FrameD} {fv : Value} {port : Int} {tp : Tok} {n : Led} (hT : TunAt w n t P I S) (hP : DictIn w (PortIn w) n (.ref P) cfg) (hf : FrameIn w n fv fr) (hz : fr.tags.length ≤ 890) : DoesG w 225 [.ref t, .int port tp, fv] n 40 400 (fun n' r => MaybeFrame w n' r (putOn cfg port fr)) := by
  refine Does.enterF (dep := 39) (un := 397) (binds := [(Str.ofString "self", .ref t), (Str.ofString "port", .int port tp), (Str.ofString "frame", fv)]) (fn_225 _) (fun _ _ _ _ _ => rfl) (locs rfl) rfl rfl rfl (by decide) ?_
  intro c cdv hw hcl O
  subst hw
  refine St.ifr (Tr.cp (Cp.notIn (Ev.name rfl ⟨_, rfl⟩) (Ev.tun_ports O hT (Ev.name rfl rfl) hP))) (fun hb => ?_) (fun hb => ?_)
  · have hl := none_of hb
    exact St.ret (Ev.nameF rfl hf) fun v hv => ⟨by simpa only [putOn, hl, MaybeFrame] using hv, Grew.refl _⟩
  · obtain ⟨p, hl⟩ := some_of hb
    refine St.asg (Ev.tcall2 O hT (me_268_outer_of _) (Ev.name rfl rfl) (Ev.name (V := Is (.int port tp)) rfl rfl) (Ev.nameF rfl hf) fun v1 v2 h1 h2 => by cases h1; exact outer_of_v hT hP h2) fun o ho => ?_
    refine St.ifr (Tr.or2 (Tr.cp (Cp.eqI (Ev.name rfl ho) Ev.int)) fun _ => Tr.cp (Cp.geI (Ev.lenTags O (Ev.fr_tags O (Ev.nameF rfl hf)) (by omega)) (Ev.glob (V := IsI 4) O (gv_MOST_TAGS _) ⟨_, rfl⟩))) (fun hb => ?_) (fun hb => ?_)
    · exact St.ret Ev.none fun v hv => ⟨by
        simp only [putOn, hl]
        rw [if_pos (by simp at hb; omega)]
        exact hv, Grew.refl _⟩
    · refine St.asg (Ev.first (g := fun ts => IsI (prioOf ts)) O rfl hf (fun t ts ht => Ev.tag_prio O (Ev.tag0 (Ev.tags O ht (Ev.nameF rfl hf)))) (fun _ => Ev.int)) fun pr hpr => ?_
      refine St.asg (V := Is (.bool (dropOf fr.tags))) (Ev.weak (Ev.and2 (b' := dropOf fr.tags) (Ev.cp (Cp.nil_ne O (Ev.fr_tags O (Ev.nameF rfl hf)))) fun hb => ?_) fun v hv => ?_) fun md hmd => ?_
      · obtain ⟨t, ts, h⟩ := cons_of (by simpa using hb)
        rw [h]; exact Ev.tag_drop O (Ev.tag0 (Ev.tags O h (Ev.nameF rfl hf)))
      · rw [show dropOf fr.tags = (!fr.tags.isEmpty && dropOf fr.tags) by cases fr.tags <;> rfl]; exact hv
      · exact St.ret_ (LW.callG O (gl_pushed _) (LW.args_cons (LW.name rfl (LW.args_cons (Ex.go (Ex.newTag O (Ev.glob (V := IsI 34984) O (gv_PROVIDER_KIND _) ⟨_, rfl⟩) (Ev.name rfl hpr) (Ev.name rfl hmd) (Ev.name rfl ho)) fun v2 n2 h2 g2 =>
          LW.args_nil (LW.callGr O (pushed_ok (hf.mono g2.sub) h2 (by omega)) fun r n3 h3 g3 => ⟨by
            simp only [putOn, hl]
            rw [if_neg (by simp at hb; omega)]
            exact h3, g2.trans g3⟩))))))
set_option maxRecDepth 100000 in
set_option maxHeartbeats 8000000 in
theorem taken_off_g {w : Wd} {t P I S : Addr} {cfg : Cfg} {fr : FrameD} {fv : Value} {port : Int} {tp : Tok} {n : Led} (hT : TunAt w n t P I S) (hP : DictIn w (PortIn w) n (.ref P) cfg) (hf : FrameIn w n fv fr) (hz : fr.tags.length ≤ 890) : DoesG w 232 [.ref t, .int port tp, fv] n 40 400 (fun n' r => MaybeFrame w n' r (takenOff cfg port fr)) := by
  refine Does.enterF (dep := 39) (un := 397) (binds := [(Str.ofString "self", .ref t), (Str.ofString "port", .int port tp), (Str.ofString "frame", fv)]) (fn_232 _) (fun _ _ _ _ _ => rfl) (locs rfl) rfl rfl rfl (by decide) ?_
  intro c cdv hw hcl O
  subst hw
  refine St.ifr (Tr.cp (Cp.notIn (Ev.name rfl ⟨_, rfl⟩) (Ev.tun_ports O hT (Ev.name rfl rfl) hP))) (fun hb => ?_) (fun hb => ?_)
  · have hl := none_of hb
    exact St.ret (Ev.nameF rfl hf) fun v hv => ⟨by simpa only [takenOff, hl, MaybeFrame] using hv, Grew.refl _⟩
  · obtain ⟨p, hl⟩ := some_of hb
    cases hts : fr.tags with
    | nil =>
      refine St.ifr (b := true) (Tr.or2 (b := true) (b' := true) (Tr.cp (Cp.nil_eq O (Ev.tags O hts (Ev.nameF rfl hf)))) fun h => nomatch h) (fun hb => ?_) (fun hb => nomatch hb)
      exact St.ret Ev.none fun v hv => ⟨by simp only [takenOff, hl, hts]; exact hv, Grew.refl _⟩
    | cons th tr =>
      have hz' : tr.length ≤ 889 := by rw [hts] at hz; simpa using hz
      refine St.ifr (Tr.or2 (Tr.cp (Cp.nil_eq O (Ev.tags O hts (Ev.nameF rfl hf)))) fun h => Tr.cp (Cp.neI (Ev.tag_kind O (Ev.tag0 (Ev.tags O hts (Ev.nameF rfl hf)))) (Ev.glob (V := IsI 34984) O (gv_PROVIDER_KIND _) ⟨_, rfl⟩))) (fun hb => ?_) (fun hb => ?_)
      · exact St.ret Ev.none fun v hv => ⟨by simp only [takenOff, hl, hts]; rw [if_neg (by simpa using hb)]; exact hv, Grew.refl _⟩
      · have hk : th.kind = 34984 := by simpa using hb
        refine St.asg_ (LW.gcall1 O (gl_popped _) (Ev.nameF rfl hf) (fun v hv => popped_ok hv hts (by omega)) fun fv2 n2 h2 g2 => ?_)
        refine St.ret_ (LW.ifexp (Tr.go (Tr.cp (Cp.eqI (Ev.tcall2 O (hT.mono g2.sub) (me_268_outer_of _) (Ev.name rfl rfl) (Ev.name (V := Is (.int port tp)) rfl rfl) (Ev.nameF rfl h2) fun v1 v2 h1 h3 => by cases h1; exact outer_of_v (hT.mono g2.sub) (DictIn.mono (fun _ _ h => h.mono g2.sub) g2.sub hP) h3)
          (Ev.tag_vlan O (Ev.tag0 (Ev.tags O hts (Ev.nameF rfl (hf.mono g2.sub))))))) ?_))
        refine if_b ?_ ?_ <;> intro hc
        · exact Ev.go (Ev.nameF rfl h2) fun v hv => ⟨by simp only [takenOff, hl, hts]; rw [if_pos hk, if_pos (by simpa using hc)]; exact hv, g2⟩
        · exact Ev.go Ev.none fun v hv => ⟨by simp only [takenOff, hl, hts]; rw [if_pos hk, if_neg (by simpa using hc)]; exact hv, g2⟩
end Mine
end
section
open PySem PySem.W PyProof.Rows PySem.Spec PySem.Calls PyProof.Rows.LCg
set_option Elab.async false
namespace Mine
theorem IntDict.dict {w : Wd} {a b : Led} {v : Value} {cc : List (Int × List (Int × Int))} (g : Grew a b) (h : DictIn w (IntDict w) a v cc) : DictIn w (IntDict w) b v cc := DictIn.mono (fun _ _ h => h.mono g.sub) g.sub h
theorem BoolDict.up {w : Wd} {a b : Led} {v : Value} {cc : List (Int × Bool)} (g : Grew a b) (h : BoolDict w a v cc) : BoolDict w b v cc := DictIn.mono (R := fun _ => IsBool) (fun _ _ h => h) g.sub h
section
variable {c : Ctx} {f : Fn} {l : Loc} {n : Led} {v : Value} {pos pos' pos1 pos2 pos3 pos4 pos5 : Pos} {k k2 d u : Nat} {fr : FrameD} {x : Str} {V : Value → Prop} {e e1 e2 : PySem.Expr} {cc : List (Int × Int)} {i : Int} {pl : Sem Bool}
theorem LW.values {R : Value → Loc → Led → Prop} (h2 : Ev c f l n e (fun v => DictIn c.w (fun _ => IsInt) n v cc)) (r : ∀ (D D' : Addr) (o : Obj) (kvs : List (Int × Value)), (D, o) ∈ n → o.IsDictOf (IK c.w) kvs → KvRel IsInt kvs cc → R (.ref D') l ((D', viewOf D) :: n))
    (he : eval (.Call (.Attribute e (Str.ofString "values") pos') [] [] pos) (c.env f) = (do
      let ov ← eval e (c.env f)
      standAt pos'.atName
      let (f', first) ← holding [ov] (getMethod ov (Str.ofString "values") pl)
      callWith pos f' first (backTo pos (starEach [] (c.env f))) []) := by rfl) : LW c f l n (eval (.Call (.Attribute e (Str.ofString "values") pos') [] [] pos) (c.env f)) R := fun s Q E F N q =>
  MethodCall_ (pl := pl) (h2 s _ E F N fun ov h' tk l' n' F' N' ⟨⟨D, o, kvs, q1, m1, m2, m3, m4⟩, q2, q3⟩ => by
    subst q1; subst q2; subst q3
    exact kdl_method (knd := PySem.intKind _ _) PySem.F.slot_dict_values PySem.F.type_dict_values N' m1 m2 (callWith_method0 (kdl_view_values (s := { s with heap := h', toks := tk }) F' N' m1 m2 m3 fun D' h2 F2 N2 l1 => q _ h2 _ _ _ F2 N2 (r D D' o kvs m1 m2 m4)))) he
theorem Cp.inVals (h1 : Ev c f l n e1 (IsI i)) (h2 : Ev c f l n e (fun v => DictIn c.w (fun _ => IsInt) n v cc))
    (he : eval (.Call (.Attribute e (Str.ofString "values") pos') [] [] pos) (c.env f) = (do
      let ov ← eval e (c.env f)
      standAt pos'.atName
      let (f', first) ← holding [ov] (getMethod ov (Str.ofString "values") pl)
      callWith pos f' first (backTo pos (starEach [] (c.env f))) []) := by rfl) : Cp c f l n e1 .In (.Call (.Attribute e (Str.ofString "values") pos') [] [] pos) ((cc.map (·.2)).contains i) :=
  Ev.go h1 fun _ ⟨t, q⟩ => LW.values h2 (fun D D' o kvs m1 m2 m4 => by
    subst q
    exact fun s Q E F N q => in_values rfl F N (.head _) (.tail _ m1) m2 m4 fun h' tk F' N' => q _ h' tk l n F' (ndrop N') ⟨rfl, rfl, rfl⟩) he
theorem Cp.notInVals (h1 : Ev c f l n e1 (IsI i)) (h2 : Ev c f l n e (fun v => DictIn c.w (fun _ => IsInt) n v cc))
    (he : eval (.Call (.Attribute e (Str.ofString "values") pos') [] [] pos) (c.env f) = (do
      let ov ← eval e (c.env f)
      standAt pos'.atName
      let (f', first) ← holding [ov] (getMethod ov (Str.ofString "values") pl)
      callWith pos f' first (backTo pos (starEach [] (c.env f))) []) := by rfl) : Cp c f l n e1 .NotIn (.Call (.Attribute e (Str.ofString "values") pos') [] [] pos) (!(cc.map (·.2)).contains i) :=
  Ev.go h1 fun _ ⟨t, q⟩ => LW.values h2 (fun D D' o kvs m1 m2 m4 => by
    subst q
    refine fun s Q E F N q => ?_
    obtain ⟨ep, ha⟩ := KdkAt.of m2
    refine wpAny_bind (m := contains (.ref D') (.int i t)) (contains_values rfl ⟨_, (N _ (.head _)).1, rfl, rfl⟩ (ha.dictAt (N _ (.tail _ m1)).1) m4 fun h' tk hk => ?_)
    exact wpAny_pure (q _ h' tk l n (F.keeps hk) (ndrop (N.grown hk)) ⟨rfl, rfl, rfl⟩)) he
theorem LW.newDict {R : Value → Loc → Led → Prop} (O : c.Ok d u) (h : ∀ (a : Addr) (o : Obj), (∀ p ∈ n, @LT.lt Nat _ p.1 a) → (a == sysModules) = false → o.IsDictOf (IK c.w) [] → R (.ref a) l ((a, o) :: n)) : LW c f l n (eval (.Dict [] [] pos) (c.env f)) R :=
  fun s Q E F N q => newDict_K F N O.T.nolimit fun a h' o F' N' l1 lo _ _ hd _ => q _ h' _ l _ F' N' (h a o l1 lo hd)
/-- d.get(k, {}) -/
theorem Ex.getNew {ins : List (Int × List (Int × Int))} (O : c.Ok d u) (h0 : Ev c f l n e (fun v => DictIn c.w (IntDict c.w) n v ins)) (h1 : Ev c f l n e1 (IsI i))
    (he : eval (.Call (.Attribute e (Str.ofString "get") pos') [e1, .Dict [] [] pos1] [] pos) (c.env f) = (do
      let ov ← eval e (c.env f)
      standAt pos'.atName
      let (f', first) ← holding [ov] (getMethod ov (Str.ofString "get") pl)
      callWith pos f' first (backTo pos (starEach [e1, .Dict [] [] pos1] (c.env f))) []) := by rfl)
    (s0 : starEach [e1, .Dict [] [] pos1] (c.env f) = (false, eval e1 (c.env f)) :: starEach [.Dict [] [] pos1] (c.env f) := by rfl) (s1 : starEach [.Dict [] [] pos1] (c.env f) = (false, eval (.Dict [] [] pos1) (c.env f)) :: starEach [] (c.env f) := by rfl) (sa : ((backTo pos (starEach [.Dict [] [] pos1] (c.env f))).any fun x => x.fst) = false := by rfl) :
    Ex c f l n (.Call (.Attribute e (Str.ofString "get") pos') [e1, .Dict [] [] pos1] [] pos) (fun n' v => IntDict c.w n' v (rowsOf ins i)) := fun s Q E F N q =>
  MethodCall_ (pl := pl) (h0 s _ E F N fun ov h' tk l' n' F' N' ⟨⟨D, o, kvs, q1, m1, m2, m3, m4⟩, q2, q3⟩ => by
    subst q1; subst q2; subst q3
    refine kdg_method (knd := PySem.intKind _ _) N' m1 m2 ?_
    have key : LW c f l' n' (spliced (backTo pos (starEach [e1, .Dict [] [] pos1] (c.env f)))) (fun vs l3 n3 => LW c f l3 n3 (PySem.call (.builtin "dict.get") (.ref D :: vs)) (fun v l4 n4 => IntDict c.w n4 v (rowsOf ins i) ∧ Grew n' n4 ∧ l4 = l')) := 
      LW.args_cons (Ev.go h1 fun v1 ⟨t, w1⟩ => LW.args_cons (LW.newDict O fun a o' l1 lo hd => LW.args_nil (by
        subst w1
        refine fun s Q E F N q => kdg_get2 (knd := PySem.intKind _ _) N (.tail _ m1) m2 m3 (intKind_is _ _ _ _) (valueAt kvs i) rfl (q _ s.heap _ l' _ F N ⟨?_, Grew.cons l1, rfl⟩)
        cases hl : look ins i with
        | none => rw [m4.none hl]; simp only [rowsOf, hl]; exact ⟨a, o', [], rfl, .head _, hd, lo, .nil⟩
        | some b =>
          obtain ⟨y, hy, hr⟩ := m4.some hl
          rw [hy]; simp only [rowsOf, hl]; exact hr.mono fun p hp => .tail _ hp)) s1) s0
    exact callWith_method1 (key { s with heap := h', toks := tk } _ E F' N' fun vs h' tk l' n' F' N' p => p { s with heap := h', toks := tk } Q E F' N' q) s0 sa) he
end
set_option maxRecDepth 100000 in
set_option maxHeartbeats 8000000 in
theorem turned_g {w : Wd} {t P I S : Addr} {st : List (Int × Bool)} {cc : List (Int × Int)} {fr : FrameD} {fv rv : Value} {port : Int} {tp : Tok} {n : Led} (hT : TunAt w n t P I S) (hS : BoolDict w n (.ref S) st) (hR : IntDict w n rv cc) (hf : FrameIn w n fv fr) (hz : fr.tags.length ≤ 800) : DoesG w 265 [.ref t, .int port tp, fv, rv] n 60 600 (fun n' r => MaybeFrame w n' r (turnedF st port cc fr)) := by
  refine Does.enterF (dep := 59) (un := 597) (binds := [(Str.ofString "self", .ref t), (Str.ofString "port", .int port tp), (Str.ofString "frame", fv), (Str.ofString "rows", rv)]) (fn_265 _) (fun _ _ _ _ _ => rfl) (locs rfl) rfl rfl rfl (by decide) ?_
  intro c cdv hw hcl O
  subst hw
  cases hts : fr.tags with
  | nil =>
    refine St.ifr (b := true) (Tr.cp (Cp.nil_eq O (Ev.tags O hts (Ev.nameF rfl hf)))) (fun hb => ?_) (fun hb => nomatch hb)
    exact St.ret (Ev.nameF rfl hf) fun v hv => ⟨by simpa only [turnedF, hts, MaybeFrame] using hv, Grew.refl _⟩
  | cons th tr =>
    have hz' : tr.length ≤ 799 := by rw [hts] at hz; simpa using hz
    refine St.ifr (b := false) (Tr.cp (Cp.nil_eq O (Ev.tags O hts (Ev.nameF rfl hf)))) (fun hb => nomatch hb) (fun hb => ?_)
    refine St.asg (Ev.tag_vlan O (Ev.tag0 (Ev.tags O hts (Ev.nameF rfl hf)))) fun vl hvl => ?_
    have hR' : DictIn c.w (fun _ => IsInt) n rv cc := hR
    refine St.ifr (Tr.cp (Cp.in_ (Ev.name rfl hvl) (Ev.name rfl hR'))) (fun hb => ?_) (fun hb => ?_)
    · obtain ⟨b, hl⟩ : ∃ b, look cc th.vlan = some b := by simpa [Option.isSome_iff_exists] using hb
      exact St.ret_ (LW.gcall2 O (gl_with_vlan _) (Ev.nameF rfl hf) (Ev.dget (RR := fun _ => IsInt) (Ev.name rfl hR') (Ev.name rfl hvl) hl) (fun v1 v2 h1 ⟨t2, h2⟩ => by subst h2; exact with_vlan_ok h1 hts (by omega)) fun r n' h g => ⟨by simp only [turnedF, hts, hl]; exact h, g⟩)
    · have hl : look cc th.vlan = none := by simpa using hb
      refine St.ret_ (LW.ifexp (Tr.go (Tr.or2 (Tr.bool (Ev.weak (Ev.get (Ev.tun_strict O hT (Ev.name rfl rfl) hS) (Ev.name rfl ⟨_, rfl⟩) Ev.bool) fun v hv => orElse_bool hv)) fun _ => Tr.cp (Cp.inVals (Ev.name rfl hvl) (Ev.name rfl hR'))) ?_))
      refine if_b ?_ ?_ <;> intro hc
      · exact Ev.go Ev.none fun v hv => ⟨by simp only [turnedF, hts, hl]; rw [if_pos (by simpa using hc)]; exact hv, Grew.refl _⟩
      · exact Ev.go (Ev.nameF rfl hf) fun v hv => ⟨by simp only [turnedF, hts, hl]; rw [if_neg (by simpa using hc)]; exact hv, Grew.refl _⟩
set_option maxRecDepth 100000 in
set_option maxHeartbeats 8000000 in
theorem came_in_g {w : Wd} {t P I S : Addr} {st : List (Int × Bool)} {ins : List (Int × List (Int × Int))} {fr : FrameD} {fv : Value} {port : Int} {tp : Tok} {n : Led} (hT : TunAt w n t P I S) (hS : BoolDict w n (.ref S) st) (hI : DictIn w (IntDict w) n (.ref I) ins) (hf : FrameIn w n fv fr) (hz : fr.tags.length ≤ 800) : DoesG w 253 [.ref t, .int port tp, fv] n 80 800 (fun n' r => MaybeFrame w n' r (turnedF st port (rowsOf ins port) fr)) := by
  refine Does.enterF (dep := 79) (un := 797) (binds := [(Str.ofString "self", .ref t), (Str.ofString "port", .int port tp), (Str.ofString "frame", fv)]) (fn_253 _) (fun _ _ _ _ _ => rfl) (locs rfl) rfl rfl rfl (by decide) ?_
  intro c cdv hw hcl O
  subst hw
  obtain ⟨d1, k1, k2, k3, m1, m2⟩ := id hT
  refine St.ret_ (LW.meth O (me_268_turned _) (Ev.name rfl rfl) m1 m2 rfl (LW.args_cons (LW.name rfl (LW.args_cons (LW.name rfl (LW.args_cons (Ex.go (Ex.getNew O (Ev.tun_inside O hT (Ev.name rfl rfl) hI) (Ev.name rfl ⟨_, rfl⟩)) fun v3 n3 h3 g3 =>
    LW.args_nil (LW.callGr O (turned_g (hT.mono g3.sub) (hS.up g3) h3 (hf.mono g3.sub) hz) fun r n4 h4 g4 => ⟨h4, g3.trans g4⟩))))))))
end Mine
end
section
open PySem PySem.W PyProof.Rows PySem.Spec PySem.Calls PyProof.Rows.LCg
set_option Elab.async false
namespace Mine
def drop_ (xs : List Str) (l : Loc) : Loc := l.filter (fun p => !xs.contains p.1)
def some_ (xs : List Str) (u : Str → Option Value) : Loc := xs.filterMap fun y => (u y).map fun v => (y, v)
theorem lookup_drop (xs : List Str) (y : Str) : ∀ l : Loc, (drop_ xs l).lookup y = if xs.contains y then none else l.lookup y
  | [] => by simp [drop_]
  | (z, v) :: l => by
    have ih := lookup_drop xs y l
    unfold drop_ at ih ⊢
    rw [List.filter_cons]
    by_cases hz : y = z
    · subst hz
      by_cases hc : xs.contains y = true
      · simp only [hc, Bool.not_true, Bool.false_eq_true, if_false, if_true] at ih ⊢; exact ih
      · simp only [hc, Bool.not_eq_true] at ih ⊢; simp [hc]
    · have hb : (y == z) = false := by simpa using hz
      split
      · simp only [List.lookup_cons, hb]; exact ih
      · simp only [List.lookup_cons, hb]; exact ih
theorem lookup_some (u : Str → Option Value) (y : Str) : ∀ xs : List Str, (some_ xs u).lookup y = if xs.contains y then u y else none
  | [] => by simp [some_]
  | z :: xs => by
    have ih := lookup_some u y xs
    unfold some_ at ih ⊢
    rw [List.filterMap_cons]
    by_cases hz : y = z
    · subst hz
      cases hu : u y with
      | none => 
        simp only [Option.map_none, List.contains_cons, beq_self_eq_true, Bool.true_or, if_true]
        rw [ih, hu]; split <;> rfl
      | some v => simp [hu]
    · have hb : (y == z) = false := by simpa using hz
      cases hu : u z with
      | none => simp only [Option.map_none, List.contains_cons, hb, Bool.false_or]; exact ih
      | some v => simp only [Option.map_some, List.lookup_cons, hb, List.contains_cons, Bool.false_or]; exact ih
theorem lookup_app (y : Str) : ∀ l l' : Loc, (l ++ l').lookup y = (l.lookup y).or (l'.lookup y)
  | [], l' => by simp
  | (z, v) :: l, l' => by
    have ih := lookup_app y l l'
    by_cases hz : (y == z) = true
    · simp [List.lookup_cons, hz]
    · simp only [Bool.not_eq_true] at hz
      simp only [List.cons_append, List.lookup_cons, hz]; exact ih
theorem lk_turn (x : Str) (v : Value) (st : List Str) (l : Loc) (u : Str → Option Value) : lk ((x, v) :: (drop_ (x :: st) l ++ some_ st u)) = fun y => if y = x then some v else if st.contains y then u y else lk l y := by
  rw [lk_cons]
  funext y
  by_cases hx : y = x
  · simp [hx]
  · have hb : (y == x) = false := by simpa using hx
    simp only [hx, if_false, lk]
    rw [lookup_app, lookup_drop, lookup_some]
    by_cases hc : st.contains y = true
    · simp only [List.contains_cons, hb, hc, Bool.or_true, if_true]; rfl
    · simp only [Bool.not_eq_true] at hc
      simp only [List.contains_cons, hb, hc, Bool.or_false, Bool.false_eq_true, if_false]
      cases l.lookup y <;> rfl
theorem lk_done (x : Str) (st : List Str) (l : Loc) (u : Str → Option Value) : lk (drop_ (x :: st) l ++ some_ (x :: st) u) = fun y => if y = x then u y else if st.contains y then u y else lk l y := by
  funext y
  simp only [lk]
  rw [lookup_app, lookup_drop, lookup_some]
  by_cases hx : y = x
  · subst hx; simp
  · have hb : (y == x) = false := by simpa using hx
    simp only [List.contains_cons, hb, Bool.false_or, hx, if_false]
    by_cases hc : st.contains y = true
    · simp only [hc, if_true]; rfl
    · simp only [Bool.not_eq_true] at hc
      simp only [hc, Bool.false_eq_true, if_false]
      cases l.lookup y <;> rfl
/-- the end of a loop's turn -/
def Turn (R : Flow → Loc → Led → Prop) (lt : Loc) (st : List Str) (K : Led → Prop) (fl : Flow) (l' : Loc) (n' : Led) : Prop := match fl with
  | .ret v => R (.ret v) l' n'
  | .brk => False
  | _ => (∃ pre, l' = pre ++ lt ∧ (pre.all fun p => st.contains p.1) = true) ∧ K n'
theorem like_of {x : Str} {v : Value} {st : List Str} {l pre : Loc} {u : Str → Option Value} (h : (pre.all fun p => st.contains p.1) = true) : Like x st (lk l) (lk (pre ++ (x, v) :: (drop_ (x :: st) l ++ some_ st u))) := by
  intro z hz hs
  simp only [lk]
  rw [lookup_app]
  have e : pre.lookup z = none := by
    induction pre with
    | nil => rfl
    | cons p r ih =>
      obtain ⟨a, b⟩ := p
      simp only [List.all_cons, Bool.and_eq_true] at h
      have hn : (z == a) = false := by
        cases hza : (z == a) with
        | false => rfl
        | true => have := eq_of_beq hza; subst this; rw [h.1] at hs; cases hs
      simp only [List.lookup_cons, hn]; exact ih h.2
  rw [e]
  have := congrFun (lk_turn x v st l u) z
  simp only [lk, hz, hs, if_false, Bool.false_eq_true] at this
  simpa using this
section
variable {c : Ctx} {f : Fn} {l : Loc} {n : Led} {v : Value} {pos pos' px : Pos} {k k2 d u : Nat} {x : Str} {V : Value → Prop} {e e1 e2 : PySem.Expr} {i : Int} {R : Flow → Loc → Led → Prop} {body rest : List Stmt}
theorem St.forDict {β : Type} {RR : Led → Value → β → Prop} {cfg : List (Int × β)} (stored : List Str) (h : Ev c f l n e (fun v => DictIn c.w RR n v cfg))
    (turn : ∀ k t b (us : Loc) own, look cfg k = some b → LW c f ((x, .int k t) :: (drop_ (x :: stored) l ++ us)) (n ++ own) (execs body (c.env f)) (Turn R ((x, .int k t) :: (drop_ (x :: stored) l ++ us)) stored (fun n' => ∀ p ∈ n ++ own, p ∈ n')))
    (done : ∀ us : Loc, LW c f (drop_ (x :: stored) l ++ us) n (execs rest (c.env f)) R)
    (hx : (c.env f).kindOf x = some .local := by rfl) (hp : ((c.env f).scope.kind == .class || ((c.env f).scope.kind == .module && (c.env f).locals != (c.env f).globals)) = false := by rfl) (hs : ∀ x, foldedSetIterable e (c.env f) x = pure x := by intro _; rfl) :
    LW c f l n (execs (.For (.Name x px) e body [] pos :: rest) (c.env f)) R := fun s Q E F N q => by
  refine wpAny_execs_cons (For_invVF (x := x) (env := c.env f) (h₀ := c.h₀) F hx hp (h s _ E F N fun v h' tk l' n' F' N' ⟨⟨D, o, kvs, q1, m1, m2, m3, m4⟩, q2, q3⟩ => ?_) hs E.2)
  subst q1; subst q2; subst q3
  refine loop_dict0 (env := c.env f) stored rfl m1 m2 m3 F' N' ?_ ?_
  · intro i k y t u h tk own hk hoff F₁ N₁
    obtain ⟨b, hb⟩ := m4.look_at hk
    refine turn k t b (some_ stored u) own hb _ _ E (by rw [lk_turn]; exact F₁) N₁ fun fl h2 tk2 l2 n2 F2 N2 p => ?_
    cases fl with
    | ret v => exact q _ h2 tk2 l2 n2 F2 N2 p
    | brk => exact p.elim
    | next =>
      obtain ⟨⟨pre, e1, e2⟩, e3⟩ := p
      subst e1
      exact same_end F2 N2 (like_of e2) e3 hoff
    | cont =>
      obtain ⟨⟨pre, e1, e2⟩, e3⟩ := p
      subst e1
      exact same_end F2 N2 (like_of e2) e3 hoff
  · intro u h tk F₁ N₁
    exact done (some_ (x :: stored) u) _ Q E (by rw [lk_done]; exact F₁) N₁ q
end
end Mine
end
section
open PySem PySem.W PyProof.Rows PySem.Spec PySem.Calls PyProof.Rows.LCg
set_option Elab.async false
namespace Mine
section
variable {c : Ctx} {f : Fn} {l : Loc} {n : Led} {v : Value} {pos pos' ps p1 p2 : Pos} {k d u : Nat} {fr : FrameD} {x x1 x2 x3 : Str} {V W : Value → Prop} {e e1 e2 e3 : PySem.Expr} {es : List PySem.Expr} {i : Int} {pl : Sem Bool} {R : Flow → Loc → Led → Prop} {rest : List Stmt} {T T1 T2 : Led → Value → Prop} {dd d1 d2 : Dat} {ds ds2 : List Dat}
theorem dat_up {a b : Led} (h : DatIn a v dd) (g : Grew a b) : DatIn b v dd := h.mono g.sub
/-- data beside the same data -/
theorem Cp.datEq (O : c.Ok d u) (h1 : Ex c f l n e1 (fun n' v => DatIn n' v (.tuple ds))) (h2 : ∀ n', Grew n n' → Ex c f l n' e2 (fun n' v => DatIn n' v (.tuple ds))) (hz : dDepth (.tuple ds) ≤ 3) (hu : Nat.ble 3 u = true := by rfl) : Cp c f l n e1 .Eq e2 true :=
  Ex.go h1 fun v n1 a1 g1 => Ex.go (h2 n1 g1) fun w n2 a2 g2 => by
    have hU : (c.A f).units + dDepth (.tuple ds) < cLine := Nat.lt_of_le_of_lt (Nat.add_le_add_left (Nat.le_trans hz (Nat.le_of_ble_eq_true hu)) _) O.hu
    have b1 := dat_up a1 g2
    refine fun s Q E F N q => ?_
    cases b1 with | tuple m1 x1 => cases a2 with | tuple m2 x2 => exact cmp_told_eq N (.tuple m1 x1) (.tuple m2 x2) hU (q _ s.heap s.toks l n F (fun p hp => N p (g2.sub p (g1.sub p hp))) ⟨rfl, rfl, rfl⟩)
theorem Cp.datNe (O : c.Ok d u) (h1 : Ex c f l n e1 (fun n' v => DatIn n' v (.tuple ds))) (h2 : ∀ n', Grew n n' → Ex c f l n' e2 (fun n' v => DatIn n' v (.tuple ds))) (hz : dDepth (.tuple ds) ≤ 3) (hu : Nat.ble 3 u = true := by rfl) : Cp c f l n e1 .NotEq e2 false :=
  Ex.go h1 fun v n1 a1 g1 => Ex.go (h2 n1 g1) fun w n2 a2 g2 => by
    have hU : (c.A f).units + dDepth (.tuple ds) < cLine := Nat.lt_of_le_of_lt (Nat.add_le_add_left (Nat.le_trans hz (Nat.le_of_ble_eq_true hu)) _) O.hu
    have b1 := dat_up a1 g2
    refine fun s Q E F N q => ?_
    cases b1 with | tuple m1 x1 => cases a2 with | tuple m2 x2 => exact cmp_told_ne N (.tuple m1 x1) (.tuple m2 x2) hU (q _ s.heap s.toks l n F (fun p hp => N p (g2.sub p (g1.sub p hp))) ⟨rfl, rfl, rfl⟩)
theorem dat_at : ∀ {vs : List Value} {ds : List Dat} {j : Nat}, DatAll n vs ds → ds[j]? = some dd → ∃ v, vs[j]? = some v ∧ DatIn n v dd
  | [], ds, j, h, hj => by cases h; simp at hj
  | v :: vs, ds, j, h, hj => by
    cases h with
    | cons a r =>
      cases j with
      | zero => simp at hj; subst hj; exact ⟨_, rfl, a⟩
      | succ j =>
        have := dat_at (j := j) r (by simpa using hj)
        simpa using this
theorem dat_take : ∀ {vs : List Value} {ds : List Dat} (j : Nat), DatAll n vs ds → DatAll n (vs.take j) (ds.take j)
  | [], ds, j, h => by cases h; simpa using DatAll.nil
  | v :: vs, ds, j, h => by
    cases h with
    | cons a r =>
      cases j with
      | zero => exact .nil
      | succ j => exact .cons a (dat_take j r)
theorem dat_drop : ∀ {vs : List Value} {ds : List Dat} (j : Nat), DatAll n vs ds → DatAll n (vs.drop j) (ds.drop j)
  | [], ds, j, h => by cases h; simpa using DatAll.nil
  | v :: vs, ds, j, h => by
    cases h with
    | cons a r =>
      cases j with
      | zero => exact .cons a r
      | succ j => exact dat_drop j r
theorem seqIdx {j n : Nat} (h : j < n) : seqIndex? (j : Int) n = some j := by
  unfold seqIndex?
  simp
  omega
/-- an item -/
theorem Ev.dat {j : Nat} (h : Ev c f l n e (fun v => DatIn n v (.tuple ds))) (hj : ds[j]? = some dd) (hz : j ≤ 1000 := by decide) (hs : ∀ (a : Addr) (y : Tok), subscripted (.Constant (.int (j : Nat)) k pos') false (.ref a) (.int (j : Nat) y) = operate [.ref a, .int (j : Nat) y] (getItem (.ref a) (.int (j : Nat) y)) := by intro _ _; with_unfolding_all rfl) : Ev c f l n (.Subscript e (.Constant (.int (j : Nat)) k pos') pos) (fun v => DatIn n v dd) :=
  Ev.sub h Ev.int fun v w hv hw => by
    obtain ⟨y, rfl⟩ := hw
    cases hv with
    | tuple m1 h2 =>
      obtain ⟨z, hz1, hz2⟩ := dat_at h2 hj
      have hl := (List.getElem?_eq_some_iff.mp hz1).1
      exact fun s Q E F N q => item_at N m1 (j := j) (seqIdx hl) hz1 (by omega) (by omega) (q _ s.heap s.toks l n F N ⟨hz2, rfl, rfl⟩) (hs _ _)
theorem dat_int {j : Int} (h : DatIn n v (.int j)) : IsI j v := by cases h; exact ⟨_, rfl⟩
/- beside the empty tuple -/
theorem Cp.datNil (O : c.Ok d u) (h : Ev c f l n e (fun v => DatIn n v (.tuple ds))) : Cp c f l n e .Eq (.Tuple [] k pos) ds.isEmpty :=
  Ev.go h fun v hv => LW.tuple (LW.args_nil (LW.newTuple fun a _ => by
    cases hv with
    | tuple m1 h2 => exact fun s Q E F N q => cmp_nil_eq N (.tail _ m1) (.head _) (units O) (q _ s.heap s.toks l n F (ndrop N) ⟨by cases h2 <;> rfl, rfl, rfl⟩)))
theorem Cp.datNotNil (O : c.Ok d u) (h : Ev c f l n e (fun v => DatIn n v (.tuple ds))) : Cp c f l n e .NotEq (.Tuple [] k pos) (!ds.isEmpty) :=
  Ev.go h fun v hv => LW.tuple (LW.args_nil (LW.newTuple fun a _ => by
    cases hv with
    | tuple m1 h2 => exact fun s Q E F N q => cmp_nil_ne N (.tail _ m1) (.head _) (units O) (q _ s.heap s.toks l n F (ndrop N) ⟨by cases h2 <;> rfl, rfl, rfl⟩)))
theorem Ev.lenDat (O : c.Ok d u) (h : Ev c f l n e (fun v => DatIn n v (.tuple ds))) (hz : ds.length ≤ 1000) (hk : f.cs.kind = .function := by rfl) (hx : (c.env f).kindOf (Str.ofString "len") = some .globalImplicit := by rfl)
    (he : eval (.Call (.Name (Str.ofString "len") pos') [e] [] pos) (c.env f) = (do callWith pos (← eval (.Name (Str.ofString "len") pos') (c.env f)) [] (backTo pos (starEach [e] (c.env f))) (backToKw pos (keywordEach [] (c.env f)))) := by rfl)
    (h1 : starEach [e] (c.env f) = (false, eval e (c.env f)) :: starEach [] (c.env f) := by rfl) : Ev c f l n (.Call (.Name (Str.ofString "len") pos') [e] [] pos) (IsI (ds.length : Nat)) := by
  have key : LW c f l n (spliced (backTo pos (starEach [e] (c.env f)))) (fun vs l' n' => LW c f l' n' (PySem.call (.builtin "len") vs) (fun v l' n' => IsI (ds.length : Nat) v ∧ l' = l ∧ n' = n)) :=
    LW.args_cons (Ev.go h fun v hv => LW.args_nil (by
      cases hv with
      | tuple m1 h2 =>
        have hl := h2.length
        exact fun s Q E F N q => len_tup N m1 (by omega) (q _ s.heap _ l n F N ⟨⟨_, by rw [hl]⟩, rfl, rfl⟩))) h1
  exact fun s Q E F N q => Call_ (nameX_B F O.X (topRead_of O.T) (b_len c.w).1 (b_len c.w).2.1 (b_len c.w).2.2 (callWith_builtin1 (key s _ E F N fun vs h' tk l' n' F' N' p => p { s with heap := h', toks := tk } Q E F' N' q) h1 rfl) hk hx (by decide)) he
/- tuples of data -/
def Ax (c : Ctx) (f : Fn) (l : Loc) (n : Led) (pos : Pos) (es : List PySem.Expr) (ds : List Dat) : Prop := LW c f l n (spliced (backTo pos (starEach es (c.env f)))) (fun vs l' n' => DatAll n' vs ds ∧ Grew n n' ∧ l' = l)
theorem Ax.nil : Ax c f l n pos [] [] := LW.args_nil ⟨.nil, Grew.refl _, rfl⟩
theorem Ax.cons (h : Ex c f l n e (fun n' v => DatIn n' v dd)) (hs : ∀ n', Grew n n' → Ax c f l n' pos es ds) (he : starEach (e :: es) (c.env f) = (false, eval e (c.env f)) :: starEach es (c.env f) := by rfl) : Ax c f l n pos (e :: es) (dd :: ds) :=
  LW.args_cons (Ex.go h fun v n1 h1 g1 => LW.mono (hs n1 g1) fun vs l2 n2 ⟨h2, g2, q⟩ => ⟨.cons (dat_up h1 g2) h2, g1.trans g2, q⟩) he
theorem Ex.tupDat (h : Ax c f l n pos es ds) (hz : Nat.ble ds.length 1000 = true := by rfl) : Ex c f l n (.Tuple es k pos) (fun n' v => DatIn n' v (.tuple ds)) :=
  LW.tuple (LW.mono h fun vs l1 n1 ⟨h1, g1, q⟩ => LW.newTuple (fun a l2 => ⟨.tuple (.head _) (DatAll.mono (fun p hp => .tail _ hp) h1), g1.trans (Grew.cons l2), q⟩) (by rw [h1.length, sizeLine_eq]; have := Nat.le_of_ble_eq_true hz; omega))
theorem Ex.addDat (h1 : Ex c f l n e1 (fun n' v => DatIn n' v (.tuple ds))) (h2 : ∀ n', Grew n n' → Ex c f l n' e2 (fun n' v => DatIn n' v (.tuple ds2))) (hn : ds ≠ []) (hz : ds.length + ds2.length ≤ 1000) : Ex c f l n (.BinOp e1 .Add e2 pos) (fun n' v => DatIn n' v (.tuple (ds ++ ds2))) :=
  LW.binop (Ex.go h1 fun v n1 a1 g1 => Ex.go (h2 n1 g1) fun w n2 a2 g2 => by
    have b1 := dat_up a1 g2
    have gg := g1.trans g2
    cases b1 with
    | tuple m1 y1 =>
      have hl1 := y1.length
      cases a2 with
      | tuple m2 y2 =>
        have hl2 := y2.length
        cases y1 with
        | nil => exact absurd rfl hn
        | cons z1 r1 =>
          cases y2 with
          | nil => exact fun s Q E F N q => add_tup1 F N m1 m2 (by simp at hl1 hz ⊢; omega) (q _ s.heap s.toks l n2 F N ⟨by rw [List.append_nil]; exact .tuple m1 (.cons z1 r1), gg, rfl⟩)
          | cons z2 r2 => exact fun s Q E F N q => add_tup F N m1 m2 (by simp at hl1 hl2 hz ⊢; omega) fun D h' F' N' l2 => q _ h' s.toks l _ F' N' ⟨.tuple (.head _) (DatAll.mono (fun p hp => .tail _ hp) (DatAll.append (.cons z1 r1) (.cons z2 r2))), gg.trans (Grew.cons l2), rfl⟩)
theorem Ex.datFrom {j : Nat} (h : Ev c f l n e (fun v => DatIn n v (.tuple ds))) (h1 : 1 ≤ j) (hj : j ≤ ds.length) (hz : ds.length ≤ 1000)
    (hs : ∀ a b : Addr, subscripted (.Slice (some (.Constant (.int (j : Nat)) k pos')) .none .none ps) false (.ref a) (.ref b) = operate [.ref b, .ref a] (getItem (.ref a) (.ref b)) := by intro _ _; with_unfolding_all rfl) :
    Ex c f l n (.Subscript e (.Slice (some (.Constant (.int (j : Nat)) k pos')) .none .none ps) pos) (fun n' v => DatIn n' v (.tuple (ds.drop j))) := fun s Q E F N q =>
  Subscript_ (h s _ E F N fun v h' tk l' n' F' N' ⟨q1, q2, q3⟩ => by
    subst q2; subst q3
    cases q1 with
    | tuple m1 m2 =>
      have hl := m2.length
      refine wpAny_Slice (wpAny_evalPart_some (wpAny_Constant_int (wpAny_evalPart_none (wpAny_evalPart_none ?_))))
      exact kba_turn (value' := PySem.Expr.Name (PySem.Str.ofString "_") ⟨0, 0, 0, 0⟩) (fun _ => rfl) (tup_from (s := { s with heap := h', toks := tk + 1 }) (a := j) F' N' m1 rfl h1 (by omega) (by omega) (fun D h2 F2 N2 l2 => q _ h2 _ l' _ F2 N2 ⟨.tuple (.head _) (DatAll.mono (fun p hp => .tail _ hp) (dat_drop j m2)), Grew.cons l2, rfl⟩) (hs _ _) (fun _ => rfl)))
theorem Ex.datTo {j : Nat} (h : Ev c f l n e (fun v => DatIn n v (.tuple ds))) (hj : j < ds.length) (hz : ds.length ≤ 1000)
    (hs : ∀ a b : Addr, subscripted (.Slice .none (some (.Constant (.int (j : Nat)) k pos')) .none ps) false (.ref a) (.ref b) = operate [.ref b, .ref a] (getItem (.ref a) (.ref b)) := by intro _ _; with_unfolding_all rfl) :
    Ex c f l n (.Subscript e (.Slice .none (some (.Constant (.int (j : Nat)) k pos')) .none ps) pos) (fun n' v => DatIn n' v (.tuple (ds.take j))) := fun s Q E F N q =>
  Subscript_ (h s _ E F N fun v h' tk l' n' F' N' ⟨q1, q2, q3⟩ => by
    subst q2; subst q3
    cases q1 with
    | tuple m1 m2 =>
      have hl := m2.length
      refine wpAny_Slice (wpAny_evalPart_none (wpAny_evalPart_some (wpAny_Constant_int (wpAny_evalPart_none ?_))))
      exact kba_turn (value' := PySem.Expr.Name (PySem.Str.ofString "_") ⟨0, 0, 0, 0⟩) (fun _ => rfl) (tup_upto (s := { s with heap := h', toks := tk + 1 }) (b := j) F' N' m1 rfl (by omega) (by omega) (fun D h2 F2 N2 l2 => q _ h2 _ l' _ F2 N2 ⟨.tuple (.head _) (DatAll.mono (fun p hp => .tail _ hp) (dat_take j m2)), Grew.cons l2, rfl⟩) (hs _ _) (fun _ => rfl)))
theorem Ex.ifexp {b : Bool} (h : Tr c f l n e1 b) (h1 : b = true → Ex c f l n e2 T) (h2 : b = false → Ex c f l n e3 T) : Ex c f l n (.IfExp e1 e2 e3 pos) T :=
  LW.ifexp (Tr.go h (by cases b with | true => exact h1 rfl | false => exact h2 rfl))
/-- x1, x2 = e1, e2 -/
theorem St.pair (h : LW c f l n (eval e1 (c.env f)) (fun v1 l1 n1 => LW c f l1 n1 (eval e2 (c.env f)) (fun v2 l2 n2 => LW c f ((x1, v1) :: (x2, v2) :: l2) n2 (execs rest (c.env f)) R)))
    (hk : f.cs.kind = .function := by rfl) (hx1 : (c.env f).kindOf x1 = some .local := by rfl) (hx2 : (c.env f).kindOf x2 = some .local := by rfl)
    (hs : swapsWithSole [.Tuple [.Name x1 p1, .Name x2 p2] k ps] (.Tuple [e1, e2] d pos') pos.line (c.env f) = pure false := by rfl) (hw : swappedStores [.Tuple [.Name x1 p1, .Name x2 p2] k ps] (.Tuple [e1, e2] d pos') (c.env f) = pure (some [x1, x2]) := by rfl)
    (s0 : starEach [e1, e2] (c.env f) = (false, eval e1 (c.env f)) :: starEach [e2] (c.env f) := by rfl) (s1 : starEach [e2] (c.env f) = (false, eval e2 (c.env f)) :: starEach [] (c.env f) := by rfl) :
    LW c f l n (execs (.Assign [.Tuple [.Name x1 p1, .Name x2 p2] k ps] (.Tuple [e1, e2] d pos') pos :: rest) (c.env f)) R :=
  LW.cons fun s Q E F N q => by
  have key : LW c f l n (eval (.Tuple [e1, e2] d pos') (c.env f)) (fun v l' n' => LW c f l' n' (unpackItems v [x1, x2].length .none) (fun items l'' n'' => LW c f l'' n'' (assignInOrder ([x1, x2].reverse.map fun n => bindName (c.env f) n) items.reverse) (fun _ l3 n3 => LW c f l3 n3 (execs rest (c.env f)) R))) :=
    LW.tuple (LW.args_cons (LW.mono h fun v1 l1 n1 h => LW.args_cons (LW.mono h fun v2 l2 n2 h => LW.args_nil (LW.newTuple (fun a l3 => fun s Q E F N q => unpackItemsN_ F N ⟨_, (N _ (.head _)).1, rfl, _, rfl⟩ rfl rfl fun h' F' N' => q _ h' s.toks l2 n2 F' (ndrop N')
      fun s Q E F N q => assignInOrder_cons (bindName_ (storeX_L F N (fun h2 F2 N2 => assignInOrder_cons (bindName_ (storeX_L F2 N2 (fun h3 F3 N3 => assignInOrder_nil (q () h3 _ ((x1, v1) :: (x2, v2) :: l2) n2 (by rw [lk_cons, lk_cons]; exact F3) N3 h)) hk hx1))) hk hx2))) (show 2 ≤ sizeLine by decide))) s1) s0)
  exact Assign_Tuple_swapped (key s _ E F N fun v h' tk l' n' F' N' p => p { s with heap := h', toks := tk } _ E F' N' fun items h2 tk2 l2 n2 F2 N2 p2 => p2 { s with heap := h2, toks := tk2 } _ E F2 N2 fun _ h3 tk3 l3 n3 F3 N3 p3 => q .next h3 tk3 l3 n3 F3 N3 p3) hs hw
end
end Mine
end
section
open PySem PySem.W PyProof.Rows PySem.Spec PySem.Calls PyProof.Rows.LCg
set_option Elab.async false
namespace Mine
set_option maxRecDepth 100000 in
set_option maxHeartbeats 8000000 in
theorem tagtold_g {w : Wd} {v : Value} {t : TagD} {n : Led} (ht : TagIn w n v t) : Does w 86 [v] n 10 100 (fun r n' => ∃ (x : Addr) (t1 t2 t4 : Tok), r = .ref x ∧ (∀ q ∈ n, @LT.lt Nat _ q.1 x) ∧ n' = (x, tupOf [.int t.kind t1, .int t.prio t2, .bool t.drop, .int t.vlan t4] 0) :: n) := by
  refine Does.enterF (dep := 9) (un := 97) (binds := [(Str.ofString "self", v)]) (fn_86 _) (fun _ _ _ _ _ => rfl) (locs rfl) rfl rfl rfl (by decide) ?_
  intro c cdv hw hcl O
  subst hw
  refine St.ret_ (LW.tuple (LW.args_cons (Ev.go (Ev.tag_kind O (Ev.nameT rfl ht)) fun v1 q1 => LW.args_cons (Ev.go (Ev.tag_prio O (Ev.nameT rfl ht)) fun v2 q2 => LW.args_cons (Ev.go (Ev.tag_drop O (Ev.nameT rfl ht)) fun v3 q3 => LW.args_cons (Ev.go (Ev.tag_vlan O (Ev.nameT rfl ht)) fun v4 q4 => LW.args_nil (LW.newTuple (fun a l => ?_) (show 4 ≤ sizeLine by decide))))))))
  obtain ⟨t1, rfl⟩ := q1
  obtain ⟨t2, rfl⟩ := q2
  obtain ⟨t4, rfl⟩ := q4
  cases q3
  exact ⟨a, t1, t2, t4, rfl, l, rfl⟩
section
variable {c : Ctx} {f : Fn} {l : Loc} {n : Led} {v : Value} {pos pos' ps p1 p2 : Pos} {k d u : Nat} {fr : FrameD} {x x1 x2 x3 : Str} {V W : Value → Prop} {e e1 e2 e3 : PySem.Expr} {es : List PySem.Expr} {i : Int} {pl : Sem Bool} {R : Flow → Loc → Led → Prop} {rest : List Stmt} {T T1 T2 : Led → Value → Prop} {dd d1 d2 : Dat} {ds ds2 : List Dat}
theorem sub_one {a b : Addr × Obj} {r : Led} {p : Addr × Obj} (h : p ∈ a :: r) : p ∈ a :: b :: r := (List.mem_cons.mp h).elim (fun e => e ▸ .head _) fun h => .tail _ (.tail _ h)
/-- tuple([x.told() for x in iter]) of the tags -/
theorem Ex.toldTags {iter : PySem.Expr} {scope : Scope} {cl : List (Str × Addr)} {px p3 p4 p5 : Pos} {pk : Addr → Sem Bool} (O : c.Ok d u) (hR : Ev c f l n iter (TupIn c.w n fr.tags)) (hz : fr.tags.length ≤ 1000)
    (he : ∀ C, eval (.Call (.Attribute (.Name x p1) (Str.ofString "told") p2) [] [] p3) (compEnvC scope cl C (c.env f)) = (do
      let ov ← eval (.Name x p1) (compEnvC scope cl C (c.env f))
      standAt p2.atName
      let (f', first) ← holding [ov] (getMethod ov (Str.ofString "told") (pk C))
      callWith p3 f' first (backTo p3 (starEach [] (compEnvC scope cl C (c.env f)))) []) := by intro _; rfl)
    (hkf : ∀ C, (compEnvC scope cl C (c.env f)).scope.kind = .function := by intro _; rfl) (hkx : ∀ C, (compEnvC scope cl C (c.env f)).kindOf x = some .local := by intro _; rfl) (hdx : (x == ("__debug__" : Str)) = false := by decide)
    (hclos : closureFor scope (c.env f) = pure cl := by rfl) (hcell : ∀ y ∈ scope.names, y.2 ≠ .cell := by decide) (hks : scope.kind = .function := by rfl) (hnames : ∀ y ∈ scope.names, y.2 = .local → scope.names.lookup y.1 = some .local := by decide) (hx : scope.names.lookup x = some .local := by rfl)
    (hs : ∀ y, foldedSetIterable iter (c.env f) y = pure y := by intro _; rfl)
    (hk : f.cs.kind = .function := by rfl) (hxt : (c.env f).kindOf (Str.ofString "tuple") = some .globalImplicit := by rfl)
    (hc : eval (.Call (.Name (Str.ofString "tuple") p4) [.ListComp (.Call (.Attribute (.Name x p1) (Str.ofString "told") p2) [] [] p3) [⟨.Name x px, iter, [], 0⟩] scope pos] [] p5) (c.env f) = (do callWith p5 (← eval (.Name (Str.ofString "tuple") p4) (c.env f)) [] (backTo p5 (starEach [.ListComp (.Call (.Attribute (.Name x p1) (Str.ofString "told") p2) [] [] p3) [⟨.Name x px, iter, [], 0⟩] scope pos] (c.env f))) (backToKw p5 (keywordEach [] (c.env f)))) := by rfl)
    (h1 : starEach [.ListComp (.Call (.Attribute (.Name x p1) (Str.ofString "told") p2) [] [] p3) [⟨.Name x px, iter, [], 0⟩] scope pos] (c.env f) = (false, eval (.ListComp (.Call (.Attribute (.Name x p1) (Str.ofString "told") p2) [] [] p3) [⟨.Name x px, iter, [], 0⟩] scope pos) (c.env f)) :: starEach [] (c.env f) := by rfl)
    (hd : Nat.ble 10 d = true := by rfl) (hu : Nat.ble 100 u = true := by rfl) :
    Ex c f l n (.Call (.Name (Str.ofString "tuple") p4) [.ListComp (.Call (.Attribute (.Name x p1) (Str.ofString "told") p2) [] [] p3) [⟨.Name x px, iter, [], 0⟩] scope pos] [] p5) (fun n' v => DatIn n' v (.tuple (fr.tags.map tagDat))) := by
  refine LW.callT O (b_tuple _) (LW.args_cons (R := fun vs l' n' => LW c f l' n' (PySem.call (.type "tuple") vs) (fun v l' n' => DatIn n' v (.tuple (fr.tags.map tagDat)) ∧ Grew n n' ∧ l' = l)) ?_ h1) hk hxt (by decide) hc h1 rfl
  refine fun s Q E F N q => ListComp_T F hclos hcell hks hnames hx (hR s _ E F N fun v h' tk l' n' F' N' ⟨⟨T, kk, vs, e1, m1, m2⟩, e3, e4⟩ => ?_) hs
  subst e1; subst e3; subst e4
  have hvl := m2.length
  refine ⟨T, vs, kk, n', rfl, rfl, F', N', m1, by omega, ?_⟩
  rintro s₂ ⟨g, rfl⟩
  refine comp_ind (told_J n' fr) (told_J0 n' fr) ?_ ?_
  · rintro i v ys nx I oI C oC D m₂ h tk E' hi hv ⟨tl, rfl, hys, hlt⟩ hC hx2 F₁ N₁ hoff hne
    obtain ⟨tg, hti, ht⟩ := m2.get hv
    have ht2 : TagIn c.w ((I, oI) :: (C, oC) :: (D, LCg.lst ys) :: (tl ++ n')) v tg := ht.mono fun p hp => .tail _ (.tail _ (.tail _ (List.mem_append_right _ hp)))
    obtain ⟨ta, td, _, _, _, _, _, _, _, ev, hm1, hm2⟩ := id ht2
    subst ev
    refine MethodCall_ (pl := pk C) (LCgL.ld_own N₁ (.tail _ (.head _)) hC hx2 ?_ (hkf C) (hkx C) hdx) (he C)
    exact method_inst F₁ O.X (InstAt.of_news N₁ hm1 hm2) (me_89_told _).1 (me_89_told _).2.1 (me_89_told _).2.2.1 rfl (callWith_K0 (O.X.keeps F₁.keep) (me_89_told _).2.2.2
      (Does.use (tagtold_g ht2) O.B F₁ O.X N₁ O.T hk (Nat.lt_of_le_of_lt (Nat.add_le_add_left (Nat.le_of_ble_eq_true hd) _) O.hd) (Nat.lt_of_le_of_lt (Nat.add_le_add_left (Nat.le_of_ble_eq_true hu) _) O.hu) fun r n9 h9 tk9 F9 N9 ⟨a, t1, t2, t4, e1, lt, e2⟩ => by
        subst e1; subst e2
        exact told_end F9 N9 ⟨lt _ (.head _), lt _ (.tail _ (.head _)), lt _ (.tail _ (.tail _ (.head _))), allLt_of fun p hp => lt p (.tail _ (.tail _ (.tail _ hp)))⟩ hoff m1 hys hlt hti))
  · rintro ys nx ⟨tl, rfl, hys, hlt⟩ D' h3 tk3 F3 N3 _
    rw [hvl, List.take_length] at hys
    have hyl := hys.length
    rw [List.length_map] at hyl
    refine q (.ref D') h3 tk3 l' _ F3 N3 (LW.args_nil fun s Q E F N q => ?_)
    exact kde_tupleOf (zs := ys) F N (News.isList N (.head _)) (by simp only [List.size_toArray]; omega) rfl fun B h' F' N' l1 => q _ h' s.toks l' ((B, tupOf ys 0) :: (tl ++ n')) F' (fun p hp => N' p (sub_one hp))
      ⟨.tuple (.head _) (hys.mono fun p hp => .tail _ (List.mem_append_left _ hp)), ⟨(B, tupOf ys 0) :: tl, fun p hp q hq => (List.mem_cons.mp hp).elim (fun e => e ▸ l1 _ (.tail _ (List.mem_append_right _ hq))) fun hp => hlt p hp q hq, rfl⟩, rfl⟩
end
set_option maxRecDepth 100000 in
set_option maxHeartbeats 8000000 in
theorem told_g {w : Wd} {v : Value} {fr : FrameD} {n : Led} (hf : FrameIn w n v fr) (hl : fr.tags.length ≤ 1000) : DoesG w 112 [v] n 20 200 (fun n' r => DatIn n' r (toldDat fr)) := by
  refine Does.enterF (dep := 19) (un := 197) (binds := [(Str.ofString "self", v)]) (fn_112 _) (fun _ _ _ _ _ => rfl) (locs rfl) rfl rfl rfl (by decide) ?_
  intro c cdv hw hcl O
  subst hw
  refine St.ret_ ?_
  have up : ∀ n', Grew n n' → FrameIn c.w n' v fr := fun n' g => hf.mono g.sub
  refine LW.mono (Ex.tupDat (ds := [.int fr.target, .int fr.source, .tuple (fr.tags.map tagDat), .int fr.kind, .bytes fr.payload]) (Ax.cons (Ex.ev (Ev.weak (Ev.fr_target O (Ev.nameF rfl hf)) fun v ⟨_, h⟩ => h ▸ .int _ _)) fun n1 g1 => Ax.cons (Ex.ev (Ev.weak (Ev.fr_source O (Ev.nameF rfl (up n1 g1))) fun v ⟨_, h⟩ => h ▸ .int _ _)) fun n2 g2 => Ax.cons (Ex.toldTags O (Ev.fr_tags O (Ev.nameF rfl (up n2 (g1.trans g2)))) hl) fun n3 g3 =>
    Ax.cons (Ex.ev (Ev.weak (Ev.fr_kind O (Ev.nameF rfl (up n3 (g1.trans (g2.trans g3))))) fun v ⟨_, h⟩ => h ▸ .int _ _)) fun n4 g4 => Ax.cons (Ex.ev (Ev.weak (Ev.fr_payload O (Ev.nameF rfl (up n4 (g1.trans (g2.trans (g3.trans g4)))))) fun v ⟨_, h⟩ => h ▸ .bytes _ _)) fun n5 g5 => Ax.nil)) fun v l' n' ⟨h1, h2, h3⟩ => ⟨h1, h2⟩
section
variable {c : Ctx} {f : Fn} {l : Loc} {n : Led} {v : Value} {pos pos' ps p1 p2 : Pos} {k d u : Nat} {fr : FrameD} {x x1 x2 x3 : Str} {V W : Value → Prop} {e e1 e2 e3 : PySem.Expr} {es : List PySem.Expr} {i : Int} {pl : Sem Bool} {R : Flow → Loc → Led → Prop} {rest : List Stmt} {T T1 T2 : Led → Value → Prop} {dd d1 d2 : Dat} {ds ds2 : List Dat}
/-- e.told() of a frame -/
theorem Ex.told (O : c.Ok d u) (h : Ex c f l n e (fun n' v => FrameIn c.w n' v fr)) (hz : fr.tags.length ≤ 1000) (hk : f.cs.kind = .function := by rfl) (hd : Nat.ble 20 d = true := by rfl) (hu : Nat.ble 200 u = true := by rfl)
    (he : eval (.Call (.Attribute e (Str.ofString "told") pos') [] [] pos) (c.env f) = (do
      let ov ← eval e (c.env f)
      standAt pos'.atName
      let (f', first) ← holding [ov] (getMethod ov (Str.ofString "told") pl)
      callWith pos f' first (backTo pos (starEach [] (c.env f))) []) := by rfl) : Ex c f l n (.Call (.Attribute e (Str.ofString "told") pos') [] [] pos) (fun n' v => DatIn n' v (toldDat fr)) := fun s Q E F N q =>
  MethodCall_ (pl := pl) (h s _ E F N fun ov h' tk l' n' F' N' ⟨q1, q2, q3⟩ => by
    subst q3
    obtain ⟨a, dx, _, _, _, _, _, _, _, _, _, _, _, _, q5, m1, m2, _⟩ := id q1
    subst q5
    exact method_inst F' O.X (InstAt.of_news N' m1 m2) (me_123_told _).1 (me_123_told _).2.1 (me_123_told _).2.2.1 rfl (callWith_K0 (O.X.keeps F'.keep) (me_123_told _).2.2.2
      (LW.callGr (R := fun v l4 n4 => DatIn n4 v (toldDat fr) ∧ Grew n n4 ∧ l4 = l') O (told_g q1 hz) (fun r n2 h2 g2 => ⟨h2, q2.trans g2, rfl⟩) hk hd hu { s with heap := h', toks := tk } Q E F' N' q))) he
end
end Mine
end
section
open PySem PySem.W PyProof.Rows PySem.Spec PySem.Calls PyProof.Rows.LCg
set_option Elab.async false
namespace Mine
/-- the first tag's data, or the law's stand-in -/
def kindOf0 : List TagD → Int
  | [] => 0
  | t :: _ => t.kind
abbrev firstDat (ts : List TagD) : Dat := .tuple [.int (kindOf0 ts), .int (prioOf ts), .bool (dropOf ts), .int (innerVlan ts)]
section
variable {c : Ctx} {f : Fn} {l : Loc} {n n2 : Led} {v : Value} {pos pos' ps p1 p2 : Pos} {k d u : Nat} {V W : Value → Prop} {e e1 e2 e3 : PySem.Expr} {R : Flow → Loc → Led → Prop} {rest : List Stmt} {p : PortD}
theorem St.retD (h : Ev c f l n2 e V) (g : ∀ p ∈ n, p ∈ n2) (r : ∀ v, V v → R (.ret v) l n) : LW c f l n2 (execs (.Return (some e) pos :: rest) (c.env f)) R :=
  LW.cons (LW.ret (fun s Q E F N q => h s Q E F N fun v h' tk l' n' F' N' ⟨hv, q1, q2⟩ => by subst q1; subst q2; exact q v h' tk l' n F' (fun p hp => N' p (g p hp)) (r v hv)))
theorem LW.drop {α : Type} {e : Sem α} {R : α → Loc → Led → Prop} (g : ∀ p ∈ n, p ∈ n2) (h : LW c f l n e R) : LW c f l n2 e R := fun s Q E F N q => h s Q E F (fun p hp => N p (g p hp)) q
theorem Ev.own0 (h : Ev c f l n e (fun v => OwnRow c.w n v p)) (hs : ∀ (a : Addr) (y : Tok), subscripted (.Constant (.int 0) k pos') false (.ref a) (.int 0 y) = operate [.ref a, .int 0 y] (getItem (.ref a) (.int 0 y)) := by intro _ _; with_unfolding_all rfl) : Ev c f l n (.Subscript e (.Constant (.int 0) k pos') pos) (IsI p.1) :=
  Ev.sub h Ev.int fun v w ⟨a, m, t, D, q, m1, m2⟩ ⟨y, q2⟩ => by
    subst q; subst q2
    exact fun s Q E F N q => item_at N m1 (j := 0) rfl rfl (by decide) (by decide) (q _ s.heap s.toks l n F N ⟨⟨_, rfl⟩, rfl, rfl⟩) (hs _ _)
theorem Ev.own1 (h : Ev c f l n e (fun v => OwnRow c.w n v p)) (hs : ∀ (a : Addr) (y : Tok), subscripted (.Constant (.int 1) k pos') false (.ref a) (.int 1 y) = operate [.ref a, .int 1 y] (getItem (.ref a) (.int 1 y)) := by intro _ _; with_unfolding_all rfl) : Ev c f l n (.Subscript e (.Constant (.int 1) k pos') pos) (fun v => DictIn c.w (fun _ => IsInt) n v p.2) :=
  Ev.sub h Ev.int fun v w ⟨a, m, t, D, q, m1, m2⟩ ⟨y, q2⟩ => by
    subst q; subst q2
    exact fun s Q E F N q => item_at N m1 (j := 1) rfl rfl (by decide) (by decide) (q _ s.heap s.toks l n F N ⟨m2, rfl, rfl⟩) (hs _ _)
end
theorem Ev.tags2 {c : Ctx} {f : Fn} {l : Loc} {n : Led} {v : Value} {pos pos' ps : Pos} {k : Nat} {x : Str} {fr : FrameD} (hv : l.lookup x = some v) (hr : DatIn n v (toldDat fr)) (hk : f.cs.kind = .function := by rfl) (hx : (c.env f).kindOf x = some .local := by rfl) (hd : (x == ("__debug__" : Str)) = false := by decide)
    (hs : ∀ (a : Addr) (y : Tok), subscripted (.Constant (.int (2 : Nat)) k pos') false (.ref a) (.int (2 : Nat) y) = operate [.ref a, .int (2 : Nat) y] (getItem (.ref a) (.int (2 : Nat) y)) := by intro _ _; with_unfolding_all rfl) :
    Ev c f l n (.Subscript (.Name x pos) (.Constant (.int (2 : Nat)) k pos') ps) (fun v => DatIn n v (.tuple (fr.tags.map tagDat))) := Ev.dat (j := 2) (Ev.name hv hr hk hx hd) rfl (by decide) hs
theorem Ex.toldAs {c : Ctx} {f : Fn} {l : Loc} {n : Led} {pos pos' : Pos} {d u : Nat} {e : PySem.Expr} {fr : FrameD} {pl : Sem Bool} {dd : Dat} (O : c.Ok d u) (hD : toldDat fr = dd) (h : Ex c f l n e (fun n' v => FrameIn c.w n' v fr)) (hz : fr.tags.length ≤ 1000) (hk : f.cs.kind = .function := by rfl) (hd : Nat.ble 20 d = true := by rfl) (hu : Nat.ble 200 u = true := by rfl)
    (he : eval (.Call (.Attribute e (Str.ofString "told") pos') [] [] pos) (c.env f) = (do
      let ov ← eval e (c.env f)
      standAt pos'.atName
      let (f', first) ← holding [ov] (getMethod ov (Str.ofString "told") pl)
      callWith pos f' first (backTo pos (starEach [] (c.env f))) []) := by rfl) : Ex c f l n (.Call (.Attribute e (Str.ofString "told") pos') [] [] pos) (fun n' v => DatIn n' v dd) := hD ▸ Ex.told O h hz hk hd hu he
theorem OwnRow.dict {w : Wd} {a b : Led} {v : Value} {cfg : Cfg} (g : ∀ p ∈ a, p ∈ b) (h : DictIn w (OwnRow w) a v cfg) : DictIn w (OwnRow w) b v cfg := DictIn.mono (fun _ _ h => h.mono g) g h
theorem Port.dict {w : Wd} {a b : Led} {v : Value} {cfg : Cfg} (g : ∀ p ∈ a, p ∈ b) (h : DictIn w (PortIn w) a v cfg) : DictIn w (PortIn w) b v cfg := DictIn.mono (fun _ _ h => h.mono g) g h
set_option maxRecDepth 100000 in
set_option maxHeartbeats 8000000 in
theorem law_outer_v {w : Wd} {cfg : Cfg} {ts : List TagD} {ov tv : Value} {port : Int} {p : PortD} {tp : Tok} {n : Led} (hO : DictIn w (OwnRow w) n ov cfg) (hT : DatIn n tv (.tuple (ts.map tagDat))) (hl : look cfg port = some p) :
  DoesV w 314 [ov, .int port tp, tv] n 20 200 (IsI (outerOf cfg port ts)) := by
  refine Does.enterF (dep := 19) (un := 197) (binds := [(Str.ofString "own", ov), (Str.ofString "port", .int port tp), (Str.ofString "tags", tv)]) (fn_314 _) (fun _ _ _ _ _ => rfl) (locs rfl) rfl rfl rfl (by decide) ?_
  intro c cdv hw hcl O
  subst hw
  refine St.asg (Ev.dget (Ev.name rfl hO) (Ev.name rfl ⟨_, rfl⟩) hl) fun row hrow => ?_
  refine St.ret (Ev.getI (j := p.1) (i := innerVlan ts) (Ev.own1 (Ev.name rfl hrow)) (Ev.ifexp (Tr.cp (Cp.datNotNil O (Ev.name rfl hT))) (fun hb => ?_) (fun hb => ?_)) (Ev.own0 (Ev.name rfl hrow))) fun v hv => ⟨by simpa only [outerOf, hl] using hv, rfl⟩
  · cases ts with
    | nil => cases hb
    | cons t ts => exact Ev.weak (Ev.dat (j := 3) (Ev.dat (j := 0) (Ev.name rfl hT) rfl) rfl) fun v hv => dat_int hv
  · cases ts with
    | nil => exact Ev.int
    | cons t ts => cases hb
set_option maxRecDepth 100000 in
set_option maxHeartbeats 8000000 in
theorem tunnel_right_v {w : Wd} {t P I S : Addr} {cfg : Cfg} {fr : FrameD} {fv ov : Value} {port : Int} {tp : Tok} {n : Led} (hT : TunAt w n t P I S) (hP : DictIn w (PortIn w) n (.ref P) cfg) (hO : DictIn w (OwnRow w) n ov cfg) (hf : FrameIn w n fv fr) (hz : fr.tags.length ≤ 800) :
  DoesV w 321 [.ref t, ov, .int port tp, fv] n 80 1000 (Is (.bool true)) := by
  refine Does.enterF (dep := 79) (un := 997) (binds := [(Str.ofString "tunnels", .ref t), (Str.ofString "own", ov), (Str.ofString "port", .int port tp), (Str.ofString "frame", fv)]) (fn_321 _) (fun _ _ _ _ _ => rfl) (locs rfl) rfl rfl rfl (by decide) ?_
  intro c cdv hw hcl O
  subst hw
  refine St.asg_ (Ex.go (Ex.told O (Ex.ev (Ev.nameF rfl hf)) (by omega)) fun rv n1 hr g1 => ?_)
  refine St.asg_ (LW.tcall2 O (hT.mono g1.sub) (me_268_put_on _) (Ev.name rfl rfl) (Ev.name (V := Is (.int port tp)) rfl rfl) (Ev.nameF rfl (hf.mono g1.sub)) (fun v1 v2 h1 h2 => by cases h1; exact put_on_g (hT.mono g1.sub) (Port.dict g1.sub hP) h2 (by omega)) fun tv n2 ht g2 => ?_)
  have g := g1.trans g2
  replace hT := hT.mono g.sub
  replace hP := Port.dict g.sub hP
  replace hO := OwnRow.dict g.sub hO
  replace hf := hf.mono g.sub
  replace hr := dat_up hr g2
  have gs := g.sub
  clear g1 g2 g
  refine St.ifr (Tr.cp (Cp.notIn (Ev.name rfl ⟨_, rfl⟩) (Ev.name rfl hO))) (fun hb => ?_) (fun hb => ?_)
  · have hl := none_of hb
    simp only [putOn, hl, MaybeFrame] at ht
    refine St.retD (Ev.and2 (Ev.cp (Cp.datEq O (Ex.told O (Ex.ev (Ev.nameF rfl ht)) (by omega)) (fun n' g => Ex.ev (Ev.name rfl (dat_up hr g))) (dDepth_told fr))) fun _ => Ev.cp (Cp.datEq O (Ex.told O (LW.tcall2 O hT (me_268_taken_off _) (Ev.name rfl rfl) (Ev.name (V := Is (.int port tp)) rfl rfl) (Ev.nameF rfl hf) (fun v1 v2 h1 h2 => by cases h1; exact taken_off_g hT hP h2 (by omega)) fun r n3 h3 g3 => ⟨by simpa only [takenOff, hl, MaybeFrame] using h3, g3, rfl⟩) (by omega)) (fun n' g => Ex.ev (Ev.name rfl (dat_up hr g))) (dDepth_told fr))) gs fun v hv => ⟨hv, rfl⟩
  · obtain ⟨p, hl⟩ := some_of hb
    refine St.pair (Ev.go (Ev.gcall3 O (gl_law_outer _) (Ev.name (V := Is ov) rfl rfl) (Ev.name (V := Is (.int port tp)) rfl rfl) (Ev.tags2 rfl hr) fun v1 v2 v3 h1 h2 h3 => by cases h1; cases h2; exact law_outer_v hO h3 hl) fun outv hout => Ex.go (T := fun n' v => DatIn n' v (firstDat fr.tags)) (Ex.ifexp (Tr.cp (Cp.datNotNil O (Ev.tags2 rfl hr))) (fun hb => ?_) (fun hb => ?_)) fun firstv n3 hfirst g3 => ?_)
    · obtain ⟨t1, ts, hts⟩ := cons_of (ts := fr.tags) (by cases h : fr.tags with | nil => rw [h] at hb; cases hb | cons a b => rfl)
      exact Ex.ev (Ev.dat (j := 0) (Ev.tags2 rfl hr) (by rw [hts]; rfl))
    · have hts : fr.tags = [] := by cases h : fr.tags with | nil => rfl | cons a b => rw [h] at hb; cases hb
      rw [hts]
      exact Ex.tupDat (Ax.cons (Ex.ev (Ev.weak Ev.int fun v ⟨t, q⟩ => q ▸ .int _ _)) fun _ _ => Ax.cons (Ex.ev (Ev.weak Ev.int fun v ⟨t, q⟩ => q ▸ .int _ _)) fun _ _ => Ax.cons (Ex.ev (Ev.weak Ev.bool fun v q => q ▸ .bool _)) fun _ _ => Ax.cons (Ex.ev (Ev.weak Ev.int fun v ⟨t, q⟩ => q ▸ .int _ _)) fun _ _ => Ax.nil)
    · replace hT := hT.mono g3.sub
      replace hP := Port.dict g3.sub hP
      replace hO := OwnRow.dict g3.sub hO
      replace hf := hf.mono g3.sub
      replace hr := dat_up hr g3
      have ht3 : MaybeFrame c.w n3 tv (putOn cfg port fr) := by
        revert ht
        cases putOn cfg port fr with
        | none => exact id
        | some f' => exact fun h => h.mono g3.sub
      replace gs : ∀ p ∈ n, p ∈ n3 := fun p hp => g3.sub p (gs p hp)
      clear ht g3
      refine St.ifr (Tr.or2 (Tr.cp (Cp.eqI (Ev.name rfl hout) Ev.int)) fun _ => Tr.cp (Cp.gtI (Ev.lenDat O (Ev.tags2 rfl hr) (by simp; omega)) Ev.int)) (fun hb => ?_) (fun hb => ?_)
      · have e1 : putOn cfg port fr = none := by simp only [putOn, hl]; rw [if_pos (by simp at hb; omega)]
        rw [e1] at ht3
        cases ht3
        exact St.retD (Ev.cp (Cp.isNone (Ev.name rfl rfl))) gs fun v hv => ⟨hv, rfl⟩
      · have e1 : putOn cfg port fr = some { fr with tags := ⟨34984, prioOf fr.tags, dropOf fr.tags, outerOf cfg port fr.tags⟩ :: fr.tags } := by simp only [putOn, hl]; rw [if_neg (by simp at hb; omega)]
        rw [e1] at ht3
        generalize hf' : ({ fr with tags := ⟨34984, prioOf fr.tags, dropOf fr.tags, outerOf cfg port fr.tags⟩ :: fr.tags } : FrameD) = fr' at ht3
        have hz' : fr'.tags.length ≤ 801 := by rw [← hf']; simp; omega
        have hD : toldDat fr' = .tuple ([.int fr.target, .int fr.source] ++ [.tuple ([.tuple [.int 34984, .int (prioOf fr.tags), .bool (dropOf fr.tags), .int (outerOf cfg port fr.tags)]] ++ fr.tags.map tagDat)] ++ [.int fr.kind, .bytes fr.payload]) := by rw [← hf']; rfl
        refine St.ifr (b := false) (Tr.cp (Cp.datNe O (Ex.toldAs O hD (Ex.ev (Ev.nameF rfl ht3)) (by omega)) (fun n' g => Ex.addDat (Ex.addDat (Ex.datTo (j := 2) (Ev.name rfl (dat_up hr g)) (by simp) (by simp)) (fun n'' g2 => Ex.tupDat (Ax.cons (Ex.addDat (Ex.tupDat (Ax.cons (Ex.tupDat (Ax.cons (Ex.ev (Ev.weak Ev.int fun v ⟨t, q⟩ => q ▸ .int _ _)) fun _ g3 => Ax.cons (Ex.ev (Ev.dat (j := 1) (Ev.name rfl (dat_up hfirst ((g.trans g2).trans g3))) rfl)) fun _ g4 => Ax.cons (Ex.ev (Ev.dat (j := 2) (Ev.name rfl (dat_up hfirst (((g.trans g2).trans g3).trans g4))) rfl)) fun _ _ => Ax.cons (Ex.ev (Ev.name rfl (by obtain ⟨t, q⟩ := hout; subst q; exact .int _ _))) fun _ _ => Ax.nil)) fun _ _ => Ax.nil))
            (fun n3' g3 => Ex.ev (Ev.tags2 rfl (hr.mono fun p hp => g3.sub p (g2.sub p (g.sub p hp))))) (by simp) (by simp; omega)) fun _ _ => Ax.nil)) (by simp) (by simp)) (fun n'' g2 => Ex.datFrom (j := 3) (Ev.name rfl (dat_up (dat_up hr g) g2)) (by decide) (by simp) (by simp)) (by simp) (by simp)) (hD ▸ dDepth_told fr'))) (fun hb => nomatch hb) (fun _ => ?_)
        refine St.forDict [Str.ofString "back", Str.ofString "is_right"] (Ev.name rfl hO) (fun k tk b us own hk => ?_) (fun us => St.retD Ev.bool gs fun v hv => ⟨hv, rfl⟩)
        have go : ∀ p ∈ n3, p ∈ n3 ++ own := fun p hp => List.mem_append_left _ hp
        refine St.asg_ (LW.tcall2 O (hT.mono go) (me_268_taken_off _) (Ev.name rfl rfl) (Ev.name (V := Is (.int k tk)) rfl rfl) (Ev.nameF rfl (ht3.mono go)) (fun v1 v2 h1 h2 => by cases h1; exact taken_off_g (hT.mono go) (Port.dict go hP) h2 (by omega)) fun bv n4 hb4 g4 => ?_)
        have go4 : ∀ p ∈ n3, p ∈ n4 := fun p hp => g4.sub p (go p hp)
        refine St.asg (V := Is (.bool true)) (Ev.ifexp (Tr.cp (Cp.eqI (Ev.gcall3 O (gl_law_outer _) (Ev.name (V := Is ov) rfl rfl) (Ev.name (V := Is (.int k tk)) rfl rfl) (Ev.tags2 rfl (hr.mono go4)) fun v1 v2 v3 h1 h2 h3 => by cases h1; cases h2; exact law_outer_v (OwnRow.dict go4 hO) h3 hk) (Ev.name rfl hout))) (fun hq => ?_) (fun hq => ?_)) fun ir hir => ?_
        · have hq' : outerOf cfg k fr.tags = outerOf cfg port fr.tags := by simpa using hq
          have e3 : takenOff cfg k fr' = some fr := by rw [← hf']; simp only [takenOff, hk]; rw [if_pos trivial, if_pos hq']
          rw [e3] at hb4
          exact Ev.and2 (b := true) (b' := true) (Ev.weak (Ev.cp (Cp.isNot (v := bv) (Ev.name rfl rfl))) fun v hv => by obtain ⟨a, _, _, _, _, _, _, _, _, _, _, _, _, _, q, _⟩ := hb4; subst q; exact hv) fun _ => Ev.cp (Cp.datEq O (Ex.told O (Ex.ev (Ev.nameF rfl hb4)) (by omega)) (fun n' g => Ex.ev (Ev.name rfl ((hr.mono go4).mono g.sub))) (dDepth_told fr))
        · have hq' : outerOf cfg k fr.tags ≠ outerOf cfg port fr.tags := by simpa using hq
          have e3 : takenOff cfg k fr' = none := by rw [← hf']; simp only [takenOff, hk]; rw [if_pos trivial, if_neg hq']
          rw [e3] at hb4
          cases hb4
          exact Ev.weak (Ev.cp (Cp.isNone (Ev.name rfl rfl))) fun v hv => hv
        · exact St.if0 (b := !true) (Tr.not (Tr.bool (Ev.name rfl hir))) (fun hb => nomatch hb) fun _ => LW.nil ⟨⟨[_, _], rfl, rfl⟩, g4.sub⟩
end Mine
end
section
open PySem PySem.W PyProof.Rows PySem.Spec PySem.Calls PyProof.Rows.LCg
set_option Elab.async false
namespace Mine
section
variable {c : Ctx} {f : Fn} {l : Loc} {n n2 : Led} {v : Value} {pos pos' ps p1 p2 : Pos} {k d u : Nat} {V W : Value → Prop} {e e1 e2 e3 : PySem.Expr} {R : Flow → Loc → Led → Prop} {rest : List Stmt} {p : PortD} {b b' : Bool} {i j : Int} {x : Str}
theorem Cp.eqIx (h1 : Ex c f l n e1 (fun _ v => IsI i v)) (h2 : ∀ n', Grew n n' → Ev c f l n' e2 (IsI j)) : Cp c f l n e1 .Eq e2 (i == j) :=
  Ex.go h1 fun _ n1 ⟨_, q1⟩ g => Ev.go (h2 n1 g) fun _ ⟨_, q2⟩ => by subst q1; subst q2; exact LW.drop g.sub (LW.eq ⟨rfl, rfl, rfl⟩)
theorem Ev.and_ {es : List PySem.Expr} (h1 : Ev c f l n e1 (Is (.bool b))) (h2 : b = true → Ev c f l n (.BoolOp .And (e2 :: es) pos) (Is (.bool b'))) : Ev c f l n (.BoolOp .And (e1 :: e2 :: es) pos) (Is (.bool (b && b'))) := fun s Q E F N q =>
  BoolOp_and (h1 s _ E F N fun v h' tk l' n' F' N' ⟨hv, e2, e3⟩ => by
    subst e2; subst e3; cases hv
    refine wpAny_truthy_bool ?_
    cases b with
    | true => exact h2 rfl { s with heap := h', toks := tk } Q E F' N' (by simpa only [Bool.true_and] using q)
    | false => exact q _ h' tk _ _ F' N' ⟨rfl, rfl, rfl⟩)
theorem Ev.and1 (h : Ev c f l n e V) : Ev c f l n (.BoolOp .And [e] pos) V := fun s Q E F N q => BoolOp_one (h s Q E F N q)
/-- d[k] = v -/
theorem LW.set_dict {R : Unit → Loc → Led → Prop} {D : Addr} {o : Obj} {g : Obj → Led} {kvs : List (Int × Value)} {t : Tok} (U : UpdF D o n g) (hd : o.IsDictOf (IK c.w) kvs) (hz : kvs.length ≤ 1000) (h : ∀ o', o'.IsDictOf (IK c.w) (stored kvs i v) → R () l (g o')) : LW c f l n (setItem (.ref D) (.int i t) v) R :=
  fun s Q E F N q => kda_set (knd := PySem.intKind _ _) F N U hd (intKind_is _ _ _ _) (by rw [sizeLine_eq]; omega) fun h' o' F' N' hd' => q () h' _ l _ F' N' (h o' hd')
end
theorem takenOff_let (cfg : Cfg) (port : Int) (fr : FrameD) (p : PortD) (hl : look cfg port = some p) : takenOff cfg port fr = if (!fr.tags.isEmpty && (kindOf0 fr.tags == 34984 && (outerOf cfg port (fr.tags.drop 1) == innerVlan fr.tags))) = true then some { fr with tags := fr.tags.drop 1 } else none := by
  simp only [takenOff, hl]
  cases fr.tags with
  | nil => rfl
  | cons t ts =>
    simp only [List.isEmpty_cons, Bool.not_false, Bool.true_and, kindOf0, innerVlan, List.drop_succ_cons, List.drop_zero, Bool.and_eq_true, beq_iff_eq]
    by_cases h1 : t.kind = 34984
    · by_cases h2 : outerOf cfg port ts = t.vlan
      · simp [h1, h2]
      · simp [h1, h2]
    · simp [h1]
set_option maxRecDepth 100000 in
set_option maxHeartbeats 8000000 in
theorem taken_right_v {w : Wd} {t P I S : Addr} {cfg : Cfg} {fr : FrameD} {fv ov : Value} {port : Int} {tp : Tok} {n : Led} {p : PortD} (hT : TunAt w n t P I S) (hP : DictIn w (PortIn w) n (.ref P) cfg) (hO : DictIn w (OwnRow w) n ov cfg) (hf : FrameIn w n fv fr) (hz : fr.tags.length ≤ 800) (hl : look cfg port = some p) :
  DoesV w 328 [.ref t, ov, .int port tp, fv] n 80 1000 (Is (.bool true)) := by
  refine Does.enterF (dep := 79) (un := 997) (binds := [(Str.ofString "tunnels", .ref t), (Str.ofString "own", ov), (Str.ofString "port", .int port tp), (Str.ofString "frame", fv)]) (fn_328 _) (fun _ _ _ _ _ => rfl) (locs rfl) rfl rfl rfl (by decide) ?_
  intro c cdv hw hcl O
  subst hw
  refine St.asg_ (Ex.go (Ex.told O (Ex.ev (Ev.nameF rfl hf)) (by omega)) fun rv n1 hr g1 => ?_)
  have gs := g1.sub
  replace hT := hT.mono gs
  replace hP := Port.dict gs hP
  replace hO := OwnRow.dict gs hO
  replace hf := hf.mono gs
  clear g1
  refine St.asg (V := Is (.bool (!fr.tags.isEmpty && (kindOf0 fr.tags == 34984 && (outerOf cfg port (fr.tags.drop 1) == innerVlan fr.tags))))) (Ev.and_ (Ev.weak (Ev.cp (Cp.datNotNil O (Ev.tags2 rfl hr))) fun v hv => by rw [show fr.tags.isEmpty = (fr.tags.map tagDat).isEmpty by cases fr.tags <;> rfl]; exact hv) fun hb => Ev.and_ (Ev.cp (Cp.eqI (Ev.weak (Ev.dat (j := 0) (dd := .int (kindOf0 fr.tags)) (Ev.dat (j := 0) (dd := firstDat fr.tags) (Ev.tags2 rfl hr) ?_) rfl) fun v hv => dat_int hv) Ev.int)) fun _ =>
    Ev.and1 (Ev.cp (Cp.eqIx (LW.callG O (gl_law_outer _) (LW.args_cons (LW.name rfl (LW.args_cons (LW.name rfl (LW.args_cons (Ex.go (Ex.datFrom (j := 1) (Ev.tags2 rfl hr) (by decide) ?_ (by simp; omega)) fun v3 n3 h3 g3 => LW.args_nil (LW.callV O (law_outer_v (ts := fr.tags.drop 1) (OwnRow.dict g3.sub hO) (by rw [List.map_drop]; exact h3) hl) fun r hr => ⟨hr, g3, rfl⟩))))))))
      fun n' g => Ev.weak (Ev.dat (j := 3) (dd := .int (innerVlan fr.tags)) (Ev.dat (j := 0) (dd := firstDat fr.tags) (Ev.tags2 rfl (dat_up hr g)) ?_) rfl) fun v hv => dat_int hv))) fun lv hlv => ?_
  · cases h : fr.tags with
    | nil => rw [h] at hb; cases hb
    | cons a b => rfl
  · cases h : fr.tags with
    | nil => rw [h] at hb; cases hb
    | cons a b => simp
  · cases h : fr.tags with
    | nil => rw [h] at hb; cases hb
    | cons a b => rfl
  · refine St.asg_ (LW.tcall2 O hT (me_268_taken_off _) (Ev.name rfl rfl) (Ev.name (V := Is (.int port tp)) rfl rfl) (Ev.nameF rfl hf) (fun v1 v2 h1 h2 => by cases h1; exact taken_off_g hT hP h2 (by omega)) fun tv n2 ht g2 => ?_)
    rw [takenOff_let cfg port fr p hl] at ht
    refine St.retD (V := Is (.bool true)) (Ev.ifexp (Tr.bool (Ev.name rfl hlv)) (fun hb => ?_) (fun hb => ?_)) (fun p hp => g2.sub p (gs p hp)) fun v hv => ⟨hv, rfl⟩
    · rw [if_pos hb] at ht
      have hts : ∃ a b, fr.tags = a :: b := by cases h : fr.tags with | nil => rw [h] at hb; cases hb | cons a b => exact ⟨a, b, rfl⟩
      generalize hf' : ({ fr with tags := fr.tags.drop 1 } : FrameD) = fr' at ht
      have hz' : fr'.tags.length ≤ 800 := by rw [← hf']; simp; omega
      have hD : toldDat fr' = .tuple ([.int fr.target, .int fr.source] ++ [.tuple ((fr.tags.map tagDat).drop 1)] ++ [.int fr.kind, .bytes fr.payload]) := by rw [← hf', ← List.map_drop]; rfl
      refine Ev.and2 (b := true) (b' := true) (Ev.weak (Ev.cp (Cp.isNot (v := tv) (Ev.name rfl rfl))) fun v hv => by obtain ⟨a, _, _, _, _, _, _, _, _, _, _, _, _, _, q, _⟩ := ht; subst q; exact hv) fun _ => Ev.cp (Cp.datEq O (Ex.toldAs O hD (Ex.ev (Ev.nameF rfl ht)) (by omega))
        (fun n' g => Ex.addDat (Ex.addDat (Ex.datTo (j := 2) (Ev.name rfl (dat_up (dat_up hr g2) g)) (by simp) (by simp)) (fun n'' g2' => Ex.tupDat (Ax.cons (Ex.datFrom (j := 1) (Ev.tags2 rfl (dat_up (dat_up (dat_up hr g2) g) g2')) (by decide) (by obtain ⟨a, b, h⟩ := hts; rw [h]; simp) (by simp; omega)) fun _ _ => Ax.nil)) (by simp) (by simp)) (fun n'' g2' => Ex.datFrom (j := 3) (Ev.name rfl (dat_up (dat_up (dat_up hr g2) g) g2')) (by decide) (by simp) (by simp)) (by simp) (by simp)) (hD ▸ dDepth_told fr'))
    · rw [if_neg (by rw [hb]; decide)] at ht
      cases ht
      exact Ev.weak (Ev.cp (Cp.isNone (Ev.name rfl rfl))) fun v hv => hv
set_option maxRecDepth 100000 in
set_option maxHeartbeats 8000000 in
theorem set_strict_g {w : Wd} {t P I S : Addr} {oS : Obj} {ks : List (Int × Value)} {port : Int} {tp : Tok} {b : Bool} {n : Led} {g : Obj → Led} (U : UpdF S oS n g) (hT : TunAt w n t P I S) (hd : oS.IsDictOf (IK w) ks) (hl : ks.length ≤ 1000) :
  Does w 246 [.ref t, .int port tp, .bool b] n 20 200 (fun r n' => ∃ o', (r = .none ∧ o'.IsDictOf (IK w) (stored ks port (.bool b))) ∧ n' = g o') := by
  refine Does.enterF (dep := 19) (un := 197) (binds := [(Str.ofString "self", .ref t), (Str.ofString "port", .int port tp), (Str.ofString "is_strict", .bool b)]) (fn_246 _) (fun _ _ _ _ _ => rfl) (locs rfl) rfl rfl rfl (by decide) ?_
  intro c cdv hw hcl O
  subst hw
  exact LW.cons (LW.assign_sub (LW.name rfl (Ev.go (Ev.tun_strict (W := Is (.ref S)) O hT (Ev.name rfl rfl) rfl) fun v hv => by cases hv; exact LW.name rfl (LW.set_dict U hd hl fun o' ho' => LW.nil ⟨o', ⟨rfl, ho'⟩, rfl⟩))))
set_option maxRecDepth 100000 in
set_option maxHeartbeats 8000000 in
theorem law_turned_g {w : Wd} {cc : List (Int × Int)} {fr : FrameD} {rv vl : Value} {b : Bool} {n : Led} (hr : DatIn n rv (toldDat fr)) (hR : IntDict w n vl cc) (hz : fr.tags.length ≤ 800) :
  DoesG w 342 [rv, vl, .bool b] n 40 400 (fun n' r => MaybeDat n' r ((turnedB b cc fr).map toldDat)) := by
  refine Does.enterF (dep := 39) (un := 397) (binds := [(Str.ofString "rows", rv), (Str.ofString "vlans", vl), (Str.ofString "is_strict", .bool b)]) (fn_342 _) (fun _ _ _ _ _ => rfl) (locs rfl) rfl rfl rfl (by decide) ?_
  intro c cdv hw hcl O
  subst hw
  have hR' : DictIn c.w (fun _ => IsInt) n vl cc := hR
  cases hts : fr.tags with
  | nil =>
    refine St.ifr (b := true) (Tr.cp (Cp.datNil (ds := []) O (Ev.weak (Ev.tags2 rfl hr) fun v hv => by rw [hts] at hv; exact hv))) (fun hb => ?_) (fun hb => nomatch hb)
    exact St.ret (V := fun v => DatIn n v (toldDat fr)) (Ev.name rfl hr) fun v hv => ⟨by simp only [turnedB, hts]; exact hv, Grew.refl _⟩
  | cons th tr =>
    have hz' : tr.length ≤ 799 := by rw [hts] at hz; simpa using hz
    have hts' : fr.tags.map tagDat = tagDat th :: tr.map tagDat := by rw [hts]; rfl
    refine St.ifr (b := false) (Tr.cp (Cp.datNil (ds := tagDat th :: tr.map tagDat) O (Ev.weak (Ev.tags2 rfl hr) fun v hv => hts' ▸ hv))) (fun hb => nomatch hb) (fun hb => ?_)
    refine St.asg (Ev.dat (j := 0) (dd := tagDat th) (Ev.tags2 rfl hr) (by rw [hts']; rfl)) fun fv hfv => ?_
    have hR2 : ∀ n', (∀ p ∈ n, p ∈ n') → DictIn c.w (fun _ => IsInt) n' vl cc := fun n' g => DictIn.mono (R := fun _ => IsInt) (fun _ _ h => h) g hR'
    have first3 : ∀ n', (∀ p ∈ n, p ∈ n') → DatIn n' fv (tagDat th) := fun n' g => hfv.mono g
    refine St.ifr (Tr.cp (Cp.notIn (i := th.vlan) (Ev.weak (Ev.dat (j := 3) (dd := .int th.vlan) (Ev.name rfl hfv) rfl) fun v hv => dat_int hv) (Ev.name rfl hR'))) (fun hb => ?_) (fun hb => ?_)
    · have hl := none_of hb
      refine St.ret_ (LW.ifexp (Tr.go (Tr.or2 (Tr.bool (Ev.name rfl rfl)) fun _ => Tr.cp (Cp.inVals (i := th.vlan) (Ev.weak (Ev.dat (j := 3) (dd := .int th.vlan) (Ev.name rfl hfv) rfl) fun v hv => dat_int hv) (Ev.name rfl hR'))) ?_))
      refine if_b ?_ ?_ <;> intro hc
      · exact Ev.go Ev.none fun v hv => ⟨by simp only [turnedB, hts, hl]; rw [if_pos (by simpa using hc)]; exact hv, Grew.refl _⟩
      · exact Ev.go (V := fun v => DatIn n v (toldDat fr)) (Ev.name rfl hr) fun v hv => ⟨by simp only [turnedB, hts, hl]; rw [if_neg (by simpa using hc)]; exact hv, Grew.refl _⟩
    · obtain ⟨x, hl⟩ := some_of hb
      have hE : toldDat { fr with tags := { th with vlan := x } :: tr } = .tuple ([.int fr.target, .int fr.source] ++ [.tuple ([.tuple ([.int th.kind, .int th.prio, .bool th.drop] ++ [.int x])] ++ tr.map tagDat)] ++ [.int fr.kind, .bytes fr.payload]) := rfl
      refine St.ret_ (Ex.go (T := fun n' v => DatIn n' v (toldDat { fr with tags := { th with vlan := x } :: tr })) (hE ▸ Ex.addDat (Ex.addDat (Ex.datTo (j := 2) (Ev.name rfl hr) (by simp) (by simp)) (fun n1 g1 => Ex.tupDat (Ax.cons (Ex.addDat (Ex.tupDat (Ax.cons (Ex.addDat (Ex.datTo (j := 3) (Ev.name rfl (first3 n1 g1.sub)) (by simp) (by simp))
        (fun n2 g2 => Ex.tupDat (Ax.cons (Ex.ev (Ev.weak (Ev.dget (RR := fun _ => IsInt) (Ev.name rfl (hR2 n2 fun p hp => g2.sub p (g1.sub p hp))) (Ev.weak (Ev.dat (j := 3) (dd := .int th.vlan) (Ev.name rfl (first3 n2 fun p hp => g2.sub p (g1.sub p hp))) rfl) fun v hv => dat_int hv) hl) fun v ⟨t, q⟩ => q ▸ .int _ _)) fun _ _ => Ax.nil)) (by simp) (by simp)) fun _ _ => Ax.nil))
        (fun n2 g2 => Ex.datFrom (j := 1) (Ev.weak (Ev.tags2 rfl (dat_up (dat_up hr g1) g2)) fun v hv => hts' ▸ hv) (by decide) (by simp) (by simp; omega)) (by simp) (by simp; omega)) fun _ _ => Ax.nil)) (by simp) (by simp)) (fun n1 g1 => Ex.datFrom (j := 3) (Ev.name rfl (dat_up hr g1)) (by decide) (by simp) (by simp)) (by simp) (by simp)) fun v n' h g => ⟨by simp only [turnedB, hts, hl]; exact h, g⟩)
end Mine
end
section
open PySem PySem.W PyProof.Rows PySem.Spec PySem.Calls PyProof.Rows.LCg
set_option Elab.async false
namespace Mine
/-- the locals but the stored ones are kept -/
def KeepsL (x : Str) (st : List Str) (lt l' : Loc) : Prop := (∃ pre, l' = pre ++ lt ∧ (pre.all fun p => st.contains p.1) = true) ∨ (∀ z, z ≠ x → st.contains z = false → l'.lookup z = lt.lookup z)
theorem KeepsL.like {x : Str} {v : Value} {st : List Str} {l l' : Loc} {u : Str → Option Value} (h : KeepsL x st ((x, v) :: (drop_ (x :: st) l ++ some_ st u)) l') : Like x st (lk l) (lk l') := by
  rcases h with ⟨pre, rfl, e⟩ | h
  · exact like_of e
  · intro z hz hs
    have := congrFun (lk_turn x v st l u) z
    simp only [lk, hz, hs, if_false, Bool.false_eq_true] at this
    show l'.lookup z = l.lookup z
    rw [h z hz hs]; exact this
theorem KeepsL.drop {x : Str} {st xs : List Str} {lt us : Loc} (h : (xs.all fun y => (x :: st).contains y) = true) (hus : ∀ z, xs.contains z = false → us.lookup z = none) : KeepsL x st lt (drop_ xs lt ++ us) := .inr fun z hz hs => by
  rw [lookup_app, lookup_drop]
  have e : xs.contains z = false := by
    cases hc : xs.contains z with
    | false => rfl
    | true =>
      have := List.all_eq_true.mp h z (by simpa using hc)
      simp only [List.contains_cons, hs, Bool.or_false, beq_iff_eq] at this
      exact absurd this hz
  rw [e, hus z e]
  cases lt.lookup z <;> rfl
theorem some_none (xs : List Str) (u : Str → Option Value) (z : Str) (h : xs.contains z = false) : (some_ xs u).lookup z = none := by rw [lookup_some, h]; rfl
/-- the end of a turn that keeps J -/
def TurnJ (R : Flow → Loc → Led → Prop) (x : Str) (lt : Loc) (st : List Str) (own : Led) (J : Led → Prop) (fl : Flow) (l' : Loc) (n' : Led) : Prop := match fl with
  | .ret v => R (.ret v) l' n'
  | .brk => False
  | _ => KeepsL x st lt l' ∧ ∃ nx, (∀ p ∈ nx, p ∈ n') ∧ (∀ p ∈ own, p ∈ n') ∧ OwnOff own (nx.map (·.1)) ∧ J nx
/-- what stands to be shown of a loop over a range from a on, m turns -/
def Rg (c : Ctx) (f : Fn) (l : Loc) (x : Str) (body rest : List Stmt) (R : Flow → Loc → Led → Prop) (st : List Str) (a : Int) (m : Nat) (n : Led) : Prop :=
  ∃ J : Nat → Led → Prop, J 0 n ∧ (∀ i t (us : Loc) nx own, i < m → OwnOff own (nx.map (·.1)) → J i nx →
      LW c f ((x, .int (a + (i : Int)) t) :: (drop_ (x :: st) l ++ us)) (nx ++ own) (execs body (c.env f)) (TurnJ R x ((x, .int (a + (i : Int)) t) :: (drop_ (x :: st) l ++ us)) st own (J (i + 1)))) ∧
    ∀ (us : Loc) nx, (∀ z, (x :: st).contains z = false → us.lookup z = none) → J m nx → LW c f (drop_ (x :: st) l ++ us) nx (execs rest (c.env f)) R
section
variable {c : Ctx} {f : Fn} {l : Loc} {n : Led} {v : Value} {pos pos' px p1 p2 : Pos} {k k2 d u : Nat} {x : Str} {V : Value → Prop} {e e1 e2 : PySem.Expr} {i : Int} {R : Flow → Loc → Led → Prop} {body rest : List Stmt}
theorem rg_go {s : Shared} {Q : Flow → Shared → Prop} {E : EOk c f} {r : Addr} {a b : Int} {t0 t1 t2 : Tok} {m : Nat} (st : List Str) (g : Rg c f l x body rest R st a m n) (hR : IsRange s.heap r a b 1 t0 t1 t2) (hm : (b - a).toNat = m) (h1 : -(2 ^ 62) ≤ a) (h2 : a < 2 ^ 62) (h3 : -(2 ^ 62) ≤ b) (h4 : b < 2 ^ 62)
    (F : Fr c.h₀ c.L s.heap (lk l)) (N : News c.h₀ c.L s.heap n) (q : ∀ v h' tk l' n', Fr c.h₀ c.L h' (lk l') → News c.h₀ c.L h' n' → R v l' n' → Q v { s with heap := h', toks := tk }) :
    wpAny c.M (c.A f) (pyIter (.ref r)) (fun it s₂ => LoopAtV PySem.Challenge.rw_pb0547_01.row.prog c.w.toWorld (c.A f) c.h₀ (c.env f) x body (fun fl s' => match fl with
      | .next => wpAny c.M (c.A f) (execs rest (c.env f)) Q E.1 s'
      | fl => Q fl s') E.1 it s₂) E.1 s := by
  obtain ⟨J, j0, turn, done⟩ := g
  refine loop_range (env := c.env f) (n := m) st J rfl hR (small_one h1 h2 h3 h4) (by rw [rangeSize_nat, hm]) F N j0 ?_ ?_
  · intro i t u nx h tk own hi hoff hj F₁ N₁
    refine turn i t (some_ st u) nx own hi hoff hj _ _ E (by rw [lk_turn]; exact F₁) N₁ fun fl h2 tk2 l2 n2 F2 N2 p => ?_
    cases fl with
    | ret v => exact q _ h2 tk2 l2 n2 F2 N2 p
    | brk => exact p.elim
    | next =>
      obtain ⟨hk, nx', e3, e4, e5, e6⟩ := p
      exact InvEndG.intro F2 N2 ⟨hk.like, e6⟩ e5 e3 e4
    | cont =>
      obtain ⟨hk, nx', e3, e4, e5, e6⟩ := p
      exact InvEndG.intro F2 N2 ⟨hk.like, e6⟩ e5 e3 e4
  · intro u nx h tk hj F₁ N₁
    exact done (some_ (x :: st) u) nx (some_none _ _) hj _ Q E (by rw [lk_done]; exact F₁) N₁ q
theorem St.forRange (st : List Str) (h : LW c f l n (eval e1 (c.env f)) (fun v l' n' => l' = l ∧ ∃ m : Nat, IsI (m : Nat) v ∧ m ≤ 1000 ∧ Rg c f l x body rest R st 0 m n'))
    (hk : f.cs.kind = .function := by rfl) (hx : (c.env f).kindOf x = some .local := by rfl) (hp : ((c.env f).scope.kind == .class || ((c.env f).scope.kind == .module && (c.env f).locals != (c.env f).globals)) = false := by rfl) 
    (O : c.Ok d u) (hg : (c.env f).kindOf (Str.ofString "range") = some .globalImplicit := by rfl) 
    (he : eval (.Call (.Name (Str.ofString "range") p1) [e1] [] p2) (c.env f) = (do callWith p2 (← eval (.Name (Str.ofString "range") p1) (c.env f)) [] (backTo p2 (starEach [e1] (c.env f))) (backToKw p2 (keywordEach [] (c.env f)))) := by rfl)
    (s0 : starEach [e1] (c.env f) = (false, eval e1 (c.env f)) :: starEach [] (c.env f) := by rfl) (hs : ∀ x, foldedSetIterable (.Call (.Name (Str.ofString "range") p1) [e1] [] p2) (c.env f) x = pure x := by intro _; rfl) :
    LW c f l n (execs (.For (.Name x px) (.Call (.Name (Str.ofString "range") p1) [e1] [] p2) body [] pos :: rest) (c.env f)) R := fun s Q E F N q => by
  refine wpAny_execs_cons (For_invVF (x := x) (env := c.env f) (h₀ := c.h₀) F hx hp ?_ hs E.2)
  refine Call_ (nameX_B F O.X (topRead_of O.T) (b_range c.w).1 (b_range c.w).2.1 (b_range c.w).2.2 (callWith_type1 ?_ s0 rfl) hk hg (by decide)) he
  have key : LW c f l n (spliced (backTo p2 (starEach [e1] (c.env f)))) (fun vs l' n' => l' = l ∧ ∃ (m : Nat) (t : Tok), vs = [.int (m : Nat) t] ∧ m ≤ 1000 ∧ Rg c f l x body rest R st 0 m n') :=
    LW.args_cons (LW.mono h fun v l' n' ⟨q1, m, ⟨t, q2⟩, q3, q4⟩ => LW.args_nil ⟨q1, m, t, by rw [q2], q3, q4⟩) s0
  refine key s _ E F N fun vs h' tk l' n' F' N' ⟨q1, m, t, q2, q3, q4⟩ => ?_
  subst q1; subst q2
  refine range1_rows (s := { s with heap := h', toks := tk }) F' N' fun h2 t2 r t3 t4 hR F2 N2 _ => ?_
  exact rg_go st q4 hR (by omega) (by omega) (by omega) (by omega) (by omega) F2 N2 q
theorem St.forRange2 (st : List Str) (h : LW c f l n (eval e2 (c.env f)) (fun v l' n' => l' = l ∧ ∃ m : Nat, IsI (1 + (m : Nat)) v ∧ m ≤ 1000 ∧ Rg c f l x body rest R st 1 m n'))
    (hk : f.cs.kind = .function := by rfl) (hx : (c.env f).kindOf x = some .local := by rfl) (hp : ((c.env f).scope.kind == .class || ((c.env f).scope.kind == .module && (c.env f).locals != (c.env f).globals)) = false := by rfl) 
    (O : c.Ok d u) (hg : (c.env f).kindOf (Str.ofString "range") = some .globalImplicit := by rfl) 
    (he : eval (.Call (.Name (Str.ofString "range") p1) [.Constant (.int 1) k pos', e2] [] p2) (c.env f) = (do callWith p2 (← eval (.Name (Str.ofString "range") p1) (c.env f)) [] (backTo p2 (starEach [.Constant (.int 1) k pos', e2] (c.env f))) (backToKw p2 (keywordEach [] (c.env f)))) := by rfl)
    (s0 : starEach [.Constant (.int 1) k pos', e2] (c.env f) = (false, eval (.Constant (.int 1) k pos') (c.env f)) :: starEach [e2] (c.env f) := by rfl) (s1 : starEach [e2] (c.env f) = (false, eval e2 (c.env f)) :: starEach [] (c.env f) := by rfl) (sa : ((backTo p2 (starEach [e2] (c.env f))).any fun x => x.fst) = false := by rfl) (hs : ∀ x, foldedSetIterable (.Call (.Name (Str.ofString "range") p1) [.Constant (.int 1) k pos', e2] [] p2) (c.env f) x = pure x := by intro _; rfl) :
    LW c f l n (execs (.For (.Name x px) (.Call (.Name (Str.ofString "range") p1) [.Constant (.int 1) k pos', e2] [] p2) body [] pos :: rest) (c.env f)) R := fun s Q E F N q => by
  refine wpAny_execs_cons (For_invVF (x := x) (env := c.env f) (h₀ := c.h₀) F hx hp ?_ hs E.2)
  refine Call_ (nameX_B F O.X (topRead_of O.T) (b_range c.w).1 (b_range c.w).2.1 (b_range c.w).2.2 (callWith_type1 ?_ s0 sa) hk hg (by decide)) he
  have key : LW c f l n (spliced (backTo p2 (starEach [.Constant (.int 1) k pos', e2] (c.env f)))) (fun vs l' n' => l' = l ∧ ∃ (m : Nat) (t t' : Tok), vs = [.int 1 t', .int (1 + (m : Nat)) t] ∧ m ≤ 1000 ∧ Rg c f l x body rest R st 1 m n') :=
    LW.args_cons (LW.int fun t' => LW.args_cons (LW.mono h fun v l' n' ⟨q1, m, ⟨t, q2⟩, q3, q4⟩ => LW.args_nil ⟨q1, m, t, t', by rw [q2], q3, q4⟩) s1) s0
  refine key s _ E F N fun vs h' tk l' n' F' N' ⟨q1, m, t, t', q2, q3, q4⟩ => ?_
  subst q1; subst q2
  refine range2_rows (s := { s with heap := h', toks := tk }) F' N' fun h2 t2 r t3 t4 hR F2 N2 _ => ?_
  exact rg_go st q4 hR (by omega) (by omega) (by omega) (by omega) (by omega) F2 N2 q
end
end Mine
end
section
open PySem PySem.W PyProof.Rows PySem.Spec PySem.Calls PyProof.Rows.LCg
set_option Elab.async false
namespace Mine
theorem two_ints (a b : Int) (ta tb : Tok) : IntsAre [.int a ta, .int b tb] [a, b] := by l_ints
theorem getD_mem' {ns : List Int} {k : Int} (h0 : 0 ≤ k) (h : k < (ns.length : Int)) : ns.getD k.toNat 0 ∈ ns := by
  have h' : k.toNat < ns.length := by omega
  rw [List.getD_eq_getElem?_getD, List.getElem?_eq_getElem h']
  exact List.getElem_mem h'
def Off (a : Addr) (r : Led) : Prop := ∀ p ∈ r, p.1 ≠ a
section
variable {c : Ctx} {f : Fn} {l : Loc} {n : Led} {x : Str} {v : Value} {pos pos' : Pos} {k d u : Nat} {e e' : PySem.Expr} {p : Addr} {a b : Int} {ta tb t : Tok} {m : Nat}
theorem Ev.src0 (hm : (p, W.listOf #[.int a ta, .int b tb] m) ∈ n) (h : Ev c f l n e (Is (.ref p)))
    (h3 : ∀ t, subscripted (.Constant (.int 0) k pos') false (.ref p) (.int 0 t) = operate [.ref p, .int 0 t] (getItem (.ref p) (.int 0 t)) := by intro _; with_unfolding_all rfl) (h4 : ∀ r, letTemporaryGo e (.ref p) r = pure () := by intro _; with_unfolding_all rfl) :
    Ev c f l n (.Subscript e (.Constant (.int 0) k pos') pos) (IsI a) := Ev.sub h Ev.int fun _ _ q1 ⟨t, q2⟩ => by cases q1; subst q2; exact LW.item_ints hm (two_ints _ _ _ _) (by decide) (by simp) (by decide) (fun t => ⟨⟨t, rfl⟩, rfl, rfl⟩) (h3 _) h4
theorem Ev.src1 (hm : (p, W.listOf #[.int a ta, .int b tb] m) ∈ n) (h : Ev c f l n e (Is (.ref p)))
    (h3 : ∀ t, subscripted (.Constant (.int 1) k pos') false (.ref p) (.int 1 t) = operate [.ref p, .int 1 t] (getItem (.ref p) (.int 1 t)) := by intro _; with_unfolding_all rfl) (h4 : ∀ r, letTemporaryGo e (.ref p) r = pure () := by intro _; with_unfolding_all rfl) :
    Ev c f l n (.Subscript e (.Constant (.int 1) k pos') pos) (IsI b) := Ev.sub h Ev.int fun _ _ q1 ⟨t, q2⟩ => by cases q1; subst q2; exact LW.item_ints hm (two_ints _ _ _ _) (by decide) (by simp) (by decide) (fun t => ⟨⟨t, rfl⟩, rfl, rfl⟩) (h3 _) h4
/-- int(e) -/
theorem Ev.intOf {i : Int} (O : c.Ok d u) (h : Ev c f l n e (IsI i)) (hk : f.cs.kind = .function := by rfl) (hx : (c.env f).kindOf (Str.ofString "int") = some .globalImplicit := by rfl) 
    (he : eval (.Call (.Name (Str.ofString "int") pos') [e] [] pos) (c.env f) = (do callWith pos (← eval (.Name (Str.ofString "int") pos') (c.env f)) [] (backTo pos (starEach [e] (c.env f))) (backToKw pos (keywordEach [] (c.env f)))) := by rfl)
    (h1 : starEach [e] (c.env f) = (false, eval e (c.env f)) :: starEach [] (c.env f) := by rfl) : Ev c f l n (.Call (.Name (Str.ofString "int") pos') [e] [] pos) (IsI i) :=
  LW.callT O (b_int _) (LW.args1 h (fun _ ⟨t, q⟩ => by subst q; exact LW.int_int ⟨⟨t, rfl⟩, rfl, rfl⟩) h1) hk hx (by decide) he h1 rfl
end
set_option maxRecDepth 100000 in
set_option maxHeartbeats 8000000 in
theorem take_g {w : Wd} {src : Addr} {o : Obj} {top : Int} {tt : Tok} {r : Led} (hr : Off src r) (ho : SrcObj o) (ht : 1 ≤ top) (ht' : top ≤ 64) :
  Does w 286 [.ref src, .int top tt] ((src, o) :: r) 3 40 (fun v n' => ∃ k o', (IsI k v ∧ 0 ≤ k ∧ k < top ∧ SrcObj o') ∧ n' = (src, o') :: r) := by
  obtain ⟨a, b, ta, tb, n, rfl, ha, hb, hb'⟩ := ho
  refine Does.enterF (dep := 2) (un := 37) (binds := [(Str.ofString "source", .ref src), (Str.ofString "top", .int top tt)]) (fn_286 _) (fun _ _ _ _ _ => rfl) (locs rfl) rfl rfl rfl (by decide) ?_
  intro c cdv hw hcl O
  subst hw
  have hne : top ≠ 0 := by omega
  refine St.if0 (Tr.cp (Cp.gtI (Ev.src0 (.head _) (Ev.name rfl rfl)) Ev.int)) (fun hb => ?_) (fun hb => ?_)
  · refine St.asg (Ev.mod (Ev.intOf O (Ev.src0 (.head _) (Ev.name rfl rfl))) (Ev.name rfl ⟨_, rfl⟩) hne) fun dv hd => ?_
    refine LW.cons (LW.assign_sub (Ev.go (Ev.fdiv (Ev.src0 (.head _) (Ev.name rfl rfl)) (Ev.name rfl ⟨_, rfl⟩) hne (PyProof.noPylong_small (by omega))) fun v ⟨t, q⟩ => LW.name rfl (LW.int fun t2 => LW.set_list (by decide) (by decide) rfl (.head hr) ?_)))
    subst q
    exact St.ret (Ev.name rfl hd) fun v hv => ⟨_, _, ⟨hv, Int.fmod_nonneg_of_pos _ (by omega), Int.fmod_lt_of_pos _ (by omega), ⟨_, _, _, _, _, rfl, Int.fdiv_nonneg ha (by omega), ‹_›, hb'⟩⟩, rfl⟩
  · refine LW.cons (LW.assign_sub (Ev.go (Ev.mod (Ev.intOf O (Ev.add (Ev.mul (Ev.src1 (.head _) (Ev.name rfl rfl)) Ev.int (by mul_fits)) Ev.int)) Ev.int (by decide)) fun v ⟨t, q⟩ => LW.name rfl (LW.int fun t2 => LW.set_list (by decide) (by decide) rfl (.head hr) ?_)))
    subst q
    have h1 := fmod_lo (b * 39373 + 7) (n := 2147483647) (by decide)
    have h2 := fmod_hi (b * 39373 + 7) (n := 2147483647) (by decide)
    generalize (b * 39373 + 7).fmod 2147483647 = x at *
    exact St.ret (Ev.mod (Ev.intOf O (Ev.fdiv (Ev.mod (Ev.intOf O (Ev.mul (Ev.src1 (.head _) (Ev.name rfl rfl)) (Ev.src1 (.head _) (Ev.name rfl rfl)) (by mul_fits))) Ev.int (by decide)) Ev.int (by decide) (PyProof.noPylong_small (by omega)))) (Ev.name rfl ⟨_, rfl⟩) hne)
      fun v hv => ⟨_, _, ⟨hv, Int.fmod_nonneg_of_pos _ (by omega), Int.fmod_lt_of_pos _ (by omega), ⟨_, _, _, _, _, rfl, ha, h1, h2⟩⟩, rfl⟩
section
variable {c : Ctx} {f : Fn} {l : Loc} {n : Led} {x : Str} {v : Value} {pos pos' ps : Pos} {k d u : Nat} {e e1 e2 : PySem.Expr} {es : List PySem.Expr} {ns : List Int} {i : Int} {L src : Addr} {vs : List Value} {m : Nat} {o : Obj} {r : Led}
def Ix (c : Ctx) (f : Fn) (l : Loc) (n : Led) (pos : Pos) (es : List PySem.Expr) (ns : List Int) : Prop := LW c f l n (spliced (backTo pos (starEach es (c.env f)))) (fun vs l' n' => IntsAre vs ns ∧ l' = l ∧ n' = n)
theorem Ix.nil : Ix c f l n pos [] [] := LW.args_nil ⟨.nil, rfl, rfl⟩
theorem Ix.cons (h : Ev c f l n e (IsI i)) (hs : Ix c f l n pos es ns) (he : starEach (e :: es) (c.env f) = (false, eval e (c.env f)) :: starEach es (c.env f) := by rfl) : Ix c f l n pos (e :: es) (i :: ns) :=
  LW.args_cons (Ev.go h fun v ⟨t, q⟩ => LW.mono hs fun vs l2 n2 ⟨h2, q1, q2⟩ => ⟨by rw [q]; exact .cons _ _ h2, q1, q2⟩) he
theorem Ev.lenInts (O : c.Ok d u) (hm : (L, W.listOf vs.toArray m) ∈ n) (hi : IntsAre vs ns) (h : Ev c f l n e (Is (.ref L))) (hz : ns.length ≤ 1000) (hk : f.cs.kind = .function := by rfl) (hx : (c.env f).kindOf (Str.ofString "len") = some .globalImplicit := by rfl)
    (he : eval (.Call (.Name (Str.ofString "len") pos') [e] [] pos) (c.env f) = (do callWith pos (← eval (.Name (Str.ofString "len") pos') (c.env f)) [] (backTo pos (starEach [e] (c.env f))) (backToKw pos (keywordEach [] (c.env f)))) := by rfl)
    (h1 : starEach [e] (c.env f) = (false, eval e (c.env f)) :: starEach [] (c.env f) := by rfl) : Ev c f l n (.Call (.Name (Str.ofString "len") pos') [e] [] pos) (IsI (ns.length : Nat)) := by
  have key : LW c f l n (spliced (backTo pos (starEach [e] (c.env f)))) (fun vs l' n' => LW c f l' n' (PySem.call (.builtin "len") vs) (fun v l' n' => IsI (ns.length : Nat) v ∧ l' = l ∧ n' = n)) :=
    LW.args_cons (Ev.go h fun v hv => LW.args_nil (by
      cases hv
      have hl := hi.length
      exact fun s Q E F N q => len_list (News.isList N hm) (by simp only [List.size_toArray]; omega) (q _ s.heap _ l n F N ⟨⟨_, by rw [List.size_toArray, hl]⟩, rfl, rfl⟩))) h1
  exact fun s Q E F N q => Call_ (nameX_B F O.X (topRead_of O.T) (b_len c.w).1 (b_len c.w).2.1 (b_len c.w).2.2 (callWith_builtin1 (key s _ E F N fun vs h' tk l' n' F' N' p => p { s with heap := h', toks := tk } Q E F' N' q) h1 rfl) hk hx (by decide)) he
end
set_option maxRecDepth 100000 in
set_option maxHeartbeats 8000000 in
theorem one_g {w : Wd} {src L : Addr} {o : Obj} {r : Led} {vs : List Value} {ns : List Int} {m : Nat} (hr : Off src r) (ho : SrcObj o) (hm : (L, W.listOf vs.toArray m) ∈ r) (hi : IntsAre vs ns) (ht : 1 ≤ ns.length) (ht' : ns.length ≤ 64) :
  Does w 293 [.ref src, .ref L] ((src, o) :: r) 6 80 (fun v n' => ∃ k o', (IsI k v ∧ k ∈ ns ∧ SrcObj o') ∧ n' = (src, o') :: r) := by
  refine Does.enterF (dep := 5) (un := 77) (binds := [(Str.ofString "source", .ref src), (Str.ofString "things", .ref L)]) (fn_293 _) (fun _ _ _ _ _ => rfl) (locs rfl) rfl rfl rfl (by decide) ?_
  intro c cdv hw hcl O
  subst hw
  exact St.ret_ (LW.sub (LW.name rfl (LW.callG O (g_take _) (LW.args_cons (LW.name rfl (LW.args_cons (Ev.go (Ev.lenInts O (.tail _ hm) hi (Ev.name rfl rfl) (by omega)) fun v ⟨t, q⟩ => LW.args_nil (by
    subst q
    exact LW.call O (take_g hr ho (by omega) (by omega)) fun v n' ⟨k, o', ⟨⟨t, q1⟩, q2, q3, q4⟩, q5⟩ => by
      subst q1; subst q5
      exact LW.item_ints (.tail _ hm) hi q2 q3 (by omega) fun t => ⟨_, _, ⟨⟨t, rfl⟩, getD_mem' q2 q3, q4⟩, rfl⟩))))))))
section
variable {c : Ctx} {f : Fn} {l : Loc} {n : Led} {x : Str} {v : Value} {pos pos' ps : Pos} {k d u : Nat} {e e1 e2 : PySem.Expr} {es : List PySem.Expr} {ns : List Int} {i top : Int} {L src : Addr} {vs : List Value} {m : Nat} {o : Obj} {r : Led} {R : Value → Loc → Led → Prop}
theorem LW.less {α : Type} {e : Sem α} {R : α → Loc → Led → Prop} (h : LW c f l n e (fun v l' n' => ∃ n2 : Led, (∀ p ∈ n2, p ∈ n') ∧ R v l' n2)) : LW c f l n e R :=
  fun s Q E F N q => h s Q E F N fun v h' tk l' n' F' N' ⟨n2, g, r⟩ => q v h' tk l' n2 F' (fun p hp => N' p (g p hp)) r
/-- a draw -/
theorem LW.take (O : c.Ok d u) (hr : Off src r) (ho : SrcObj o) (h1 : Ev c f l ((src, o) :: r) e1 (Is (.ref src))) (h2 : Ev c f l ((src, o) :: r) e2 (IsI top)) (k : ∀ k v o', IsI k v → 0 ≤ k → k < top → SrcObj o' → R v l ((src, o') :: r)) (ht : 1 ≤ top := by decide) (ht' : top ≤ 64 := by decide)
    (hk : f.cs.kind = .function := by rfl) (hx : (c.env f).kindOf (Str.ofString "_law_take") = some .globalImplicit := by rfl)
    (he : eval (.Call (.Name (Str.ofString "_law_take") pos') [e1, e2] [] pos) (c.env f) = (do callWith pos (← eval (.Name (Str.ofString "_law_take") pos') (c.env f)) [] (backTo pos (starEach [e1, e2] (c.env f))) (backToKw pos (keywordEach [] (c.env f)))) := by rfl)
    (s0 : starEach [e1, e2] (c.env f) = (false, eval e1 (c.env f)) :: starEach [e2] (c.env f) := by rfl) (s1 : starEach [e2] (c.env f) = (false, eval e2 (c.env f)) :: starEach [] (c.env f) := by rfl) (sa : ((backTo pos (starEach [e2] (c.env f))).any fun x => x.fst) = false := by rfl)
    (hd : Nat.ble 3 d = true := by rfl) (hu : Nat.ble 40 u = true := by rfl) : LW c f l ((src, o) :: r) (eval (.Call (.Name (Str.ofString "_law_take") pos') [e1, e2] [] pos) (c.env f)) R :=
  LW.callG O (g_take _) (LW.args2 h1 h2 (fun v1 v2 q1 ⟨t, q2⟩ => by
    cases q1; subst q2
    exact LW.call O (take_g hr ho ht ht') (fun v n' ⟨k', o', ⟨q1, q2, q3, q4⟩, q5⟩ => by subst q5; exact k k' v o' q1 q2 q3 q4) hk hd hu) s0 s1) hk hx (by decide) he s0 sa
/-- one of the ints -/
theorem LW.one (O : c.Ok d u) (hr : Off src r) (ho : SrcObj o) (h1 : Ev c f l ((src, o) :: r) e1 (Is (.ref src))) (h2 : Ix c f l ((src, o) :: r) ps es ns) (k : ∀ k v o', IsI k v → k ∈ ns → SrcObj o' → R v l ((src, o') :: r)) (ht : 1 ≤ ns.length := by decide) (ht' : ns.length ≤ 64 := by decide)
    (hk : f.cs.kind = .function := by rfl) (hx : (c.env f).kindOf (Str.ofString "_law_one") = some .globalImplicit := by rfl)
    (he : eval (.Call (.Name (Str.ofString "_law_one") pos') [e1, .List es ps] [] pos) (c.env f) = (do callWith pos (← eval (.Name (Str.ofString "_law_one") pos') (c.env f)) [] (backTo pos (starEach [e1, .List es ps] (c.env f))) (backToKw pos (keywordEach [] (c.env f)))) := by rfl)
    (s0 : starEach [e1, .List es ps] (c.env f) = (false, eval e1 (c.env f)) :: starEach [.List es ps] (c.env f) := by rfl) (s1 : starEach [.List es ps] (c.env f) = (false, eval (.List es ps) (c.env f)) :: starEach [] (c.env f) := by rfl) (sa : ((backTo pos (starEach [.List es ps] (c.env f))).any fun x => x.fst) = false := by rfl)
    (hd : Nat.ble 6 d = true := by rfl) (hu : Nat.ble 80 u = true := by rfl) : LW c f l ((src, o) :: r) (eval (.Call (.Name (Str.ofString "_law_one") pos') [e1, .List es ps] [] pos) (c.env f)) R :=
  LW.callG O (gl_law_one _) (LW.args_cons (Ev.go h1 fun v1 q1 => LW.args_cons (LW.list (LW.mono h2 fun vs l2 n2 ⟨hI, q2, q3⟩ => LW.newList (fun L l1 => LW.args_nil (by
    cases q1; subst q2; subst q3
    refine LW.drop (n := (src, o) :: (L, W.listOf vs.toArray 0) :: r) (fun p hp => ?_) (LW.less (LW.call O (one_g (fun p hp => ?_) ho (.head _) hI ht ht') (fun v n' ⟨k', o', ⟨q1, q2, q4⟩, q5⟩ => by
      subst q5
      exact ⟨(src, o') :: r, fun p hp => (List.mem_cons.mp hp).elim (fun e => e ▸ .head _) fun e => .tail _ (.tail _ e), k k' v o' q1 q2 q4⟩) hk hd hu))
    · rcases List.mem_cons.mp hp with rfl | hp
      · exact .tail _ (.head _)
      · rcases List.mem_cons.mp hp with rfl | hp
        · exact .head _
        · exact .tail _ (.tail _ hp)
    · rcases List.mem_cons.mp hp with rfl | hp
      · exact Nat.ne_of_gt (l1 _ (.head _))
      · exact hr p hp)) (by rw [hI.length, sizeLine_eq]; omega))) s1) s0) hk hx (by decide) he s0 sa
end
end Mine
end
section
open PySem PySem.W PyProof.Rows PySem.Spec PySem.Calls PyProof.Rows.LCg
set_option Elab.async false
namespace Mine
section
variable {c : Ctx} {f : Fn} {l : Loc} {n n' : Led} {x : Str} {v : Value} {pos pos' ps : Pos} {k d u : Nat} {e e1 e2 : PySem.Expr} {es : List PySem.Expr} {tg : Addr} {vs : List Value} {m : Nat} {pl : Sem Bool} {R : Value → Loc → Led → Prop} {B : List UInt8} {Rs : Flow → Loc → Led → Prop} {rest : List Stmt}
theorem wpAny_Constant_bytes' {M : Model} {A : Around} {E : Value → Shared → Prop} {s : Shared} {env : Env} {Q : Value → Shared → Prop} (h : Q (.bytes B.toArray s.toks) { s with toks := s.toks + 1 }) : wpAny M A (eval (.Constant (.bytes B) k pos) env) Q E s := fun _ _ _ => h
theorem Ev.bytes : Ev c f l n (.Constant (.bytes B) k pos) (fun v => ∃ t, v = .bytes B.toArray t) := fun s Q E F N q => wpAny_Constant_bytes' (q _ s.heap _ l n F N ⟨⟨_, rfl⟩, rfl, rfl⟩)
/-- l.append(e), of the head -/
theorem LW.append (h0 : l.lookup x = some (.ref tg)) (hm : (tg, W.listOf vs.toArray m) ∈ n) (h : LW c f l n (eval e (c.env f)) (fun v l' n' => ∃ r, (∀ p ∈ (tg, W.listOf vs.toArray m) :: r, p ∈ n') ∧ Off tg r ∧ R .none l' ((tg, W.listOf (vs ++ [v]).toArray (m + 1)) :: r))) (hz : vs.length ≤ 1000)
    (hk : f.cs.kind = .function := by rfl) (hx : (c.env f).kindOf x = some .local := by rfl) (hd : (x == ("__debug__" : Str)) = false := by decide)
    (he : eval (.Call (.Attribute (.Name x ps) (Str.ofString "append") pos') [e] [] pos) (c.env f) = (do
      let ov ← eval (.Name x ps) (c.env f)
      standAt pos'.atName
      let (f', first) ← holding [ov] (getMethod ov (Str.ofString "append") pl)
      callWith pos f' first (backTo pos (starEach [e] (c.env f))) []) := by rfl)
    (s0 : starEach [e] (c.env f) = (false, eval e (c.env f)) :: starEach [] (c.env f) := by rfl) : LW c f l n (eval (.Call (.Attribute (.Name x ps) (Str.ofString "append") pos') [e] [] pos) (c.env f)) R := fun s Q E F N q =>
  MethodCall_ (pl := pl) (nameX_L F h0 (listMethod_K N hm PySem.F.slot_list_append PySem.F.type_list_append (by
    have key : LW c f l n (spliced (backTo pos (starEach [e] (c.env f)))) (fun ws l2 n2 => LW c f l2 n2 (PySem.call (.builtin "list.append") (.ref tg :: ws)) R) :=
      LW.args_cons (LW.mono h fun v l' n' ⟨r, g, ho, hr⟩ => LW.args_nil fun s Q E F N q => append_K F (fun p hp => N p (g p hp)) (.head ho) (fun h' F' N' => q _ h' s.toks l' _ F' N' (by rw [List.push_toArray]; exact hr)) (by simp only [List.size_toArray]; rw [sizeLine_eq]; omega)) s0
    exact callWith_method1 (key s _ E F N fun vs h' tk l' n' F' N' p => p { s with heap := h', toks := tk } Q E F' N' q) s0 rfl)) hk hx hd) he
/-- tuple(l) of a list -/
theorem LW.tupleList (O : c.Ok d u) (hm : (tg, W.listOf vs.toArray m) ∈ n) (h : Ev c f l n e (Is (.ref tg))) (hz : vs.length ≤ 1000) (r : ∀ D : Addr, (∀ p ∈ n, @LT.lt Nat _ p.1 D) → R (.ref D) l ((D, tupOf vs 0) :: n))
    (hk : f.cs.kind = .function := by rfl) (hx : (c.env f).kindOf (Str.ofString "tuple") = some .globalImplicit := by rfl)
    (he : eval (.Call (.Name (Str.ofString "tuple") pos') [e] [] pos) (c.env f) = (do callWith pos (← eval (.Name (Str.ofString "tuple") pos') (c.env f)) [] (backTo pos (starEach [e] (c.env f))) (backToKw pos (keywordEach [] (c.env f)))) := by rfl)
    (h1 : starEach [e] (c.env f) = (false, eval e (c.env f)) :: starEach [] (c.env f) := by rfl) :
    LW c f l n (eval (.Call (.Name (Str.ofString "tuple") pos') [e] [] pos) (c.env f)) R :=
  LW.callT O (b_tuple _) (LW.args1 h (fun v q => by
    cases q
    exact fun s Q E F N q => kde_tupleOf (zs := vs) F N (News.isList N hm) (by simp only [List.size_toArray]; omega) rfl fun D h' F' N' l1 => q _ h' s.toks l _ F' N' (r D l1)) h1) hk hx (by decide) he h1 rfl
end
/-- what the loop of the tags keeps -/
def TagJ (w : Wd) (src tg : Addr) (r : Led) (i : Nat) (nx : Led) : Prop :=
  ∃ (o : Obj) (m : Nat) (vs : List Value) (ts : List TagD) (tl : Led), nx = (src, o) :: (tg, W.listOf vs.toArray m) :: (tl ++ r) ∧ SrcObj o ∧ TagsIn w tl vs ts ∧ ts.length = i ∧ (∀ p ∈ tl, @LT.lt Nat _ tg p.1)
theorem off_app {a : Addr} {r r' : Led} (h : Off a r) (k : Off a r') : Off a (r ++ r') := fun p hp => (List.mem_append.mp hp).elim (h p) (k p)
theorem off_cons' {a b : Addr} {o : Obj} {r : Led} (h : b ≠ a) (k : Off a r) : Off a ((b, o) :: r) := fun p hp => (List.mem_cons.mp hp).elim (fun e => e ▸ h) (k p)
theorem tagJ_next {w : Wd} {src tg : Addr} {r own : Led} {i m : Nat} {vs : List Value} {ts : List TagD} {tl : Led} {o : Obj} {p q : Addr × Obj} {t : TagD} {v : Value} (hst : @LT.lt Nat _ src tg) (ho : SrcObj o) (hT : TagsIn w tl vs ts) (hi : ts.length = i) (htl : ∀ p ∈ tl, @LT.lt Nat _ tg p.1)
    (hoff : OwnOff own (((src, o) :: (tg, W.listOf vs.toArray m) :: (tl ++ r)).map (·.1))) (ht : TagIn w [p, q] v t) (l1 : ∀ x ∈ (src, o) :: (tg, W.listOf vs.toArray m) :: ((tl ++ r) ++ own), @LT.lt Nat _ x.1 q.1) (l2 : @LT.lt Nat _ q.1 p.1) :
    ∃ nx : Led, (∀ x ∈ nx, x ∈ (tg, W.listOf (vs ++ [v]).toArray (m + 1)) :: (src, o) :: p :: q :: ((tl ++ r) ++ own)) ∧ (∀ x ∈ own, x ∈ (tg, W.listOf (vs ++ [v]).toArray (m + 1)) :: (src, o) :: p :: q :: ((tl ++ r) ++ own)) ∧ OwnOff own (nx.map (·.1)) ∧ TagJ w src tg r (i + 1) nx := by
  have lo : ∀ x ∈ own, @LT.lt Nat _ x.1 q.1 := fun x hx => l1 x (.tail _ (.tail _ (List.mem_append_right _ hx)))
  refine ⟨(src, o) :: (tg, W.listOf (vs ++ [v]).toArray (m + 1)) :: ((p :: q :: tl) ++ r), fun x hx => ?_, fun x hx => .tail _ (.tail _ (.tail _ (.tail _ (List.mem_append_right _ hx)))), fun x hx b hb => ?_, ⟨o, m + 1, vs ++ [v], ts ++ [t], p :: q :: tl, rfl, ho, TagsIn.snoc (hT.mono fun x hx => .tail _ (.tail _ hx)) (ht.mono fun x hx => ?_), by rw [List.length_append, hi]; rfl, fun x hx => ?_⟩⟩
  · rcases List.mem_cons.mp hx with rfl | hx
    · exact .tail _ (.head _)
    · rcases List.mem_cons.mp hx with rfl | hx
      · exact .head _
      · rcases List.mem_cons.mp hx with rfl | hx
        · exact .tail _ (.tail _ (.head _))
        · rcases List.mem_cons.mp hx with rfl | hx
          · exact .tail _ (.tail _ (.tail _ (.head _)))
          · exact .tail _ (.tail _ (.tail _ (.tail _ (List.mem_append_left _ hx))))
  · simp only [List.map_cons, List.cons_append, List.mem_cons] at hb
    rcases hb with rfl | rfl | rfl | rfl | hb
    · exact hoff x hx _ (.head _)
    · exact hoff x hx _ (.tail _ (.head _))
    · exact Nat.ne_of_lt (Nat.lt_trans (lo x hx) l2)
    · exact Nat.ne_of_lt (lo x hx)
    · exact hoff x hx b (.tail _ (.tail _ hb))
  · rcases List.mem_cons.mp hx with rfl | hx
    · exact .head _
    · cases List.mem_singleton.mp hx; exact .tail _ (.head _)
  · have h0 := l1 (tg, W.listOf vs.toArray m) (.tail _ (.head _))
    rcases List.mem_cons.mp hx with rfl | hx
    · exact Nat.lt_trans h0 l2
    · rcases List.mem_cons.mp hx with rfl | hx
      · exact h0
      · exact htl x hx
/-- a frame drawn -/
def FrameOf (w : Wd) (src : Addr) (r : Led) (v : Value) (n' : Led) : Prop := ∃ (o' : Obj) (ts : List TagD) (tl : Led), SrcObj o' ∧ ts.length ≤ 5 ∧ FrameIn w tl v ⟨1, 2, ts, 2048, #[97, 98, 99]⟩ ∧ (∀ p ∈ tl, @LT.lt Nat _ src p.1 ∧ ∀ q ∈ r, @LT.lt Nat _ q.1 p.1) ∧ n' = (src, o') :: (tl ++ r)
theorem one8 {k : Int} (h : k ∈ [(0 : Int), 0, 1, 1, 2, 3, 4, 5]) : ∃ m : Nat, k = (m : Nat) ∧ m ≤ 5 := by
  simp only [List.mem_cons, List.not_mem_nil, or_false] at h
  exact ⟨k.toNat, by omega, by omega⟩
set_option maxRecDepth 100000 in
set_option maxHeartbeats 8000000 in
theorem frame_g {w : Wd} {src : Addr} {o : Obj} {r : Led} (hr : Off src r) (ho : SrcObj o) : Does w 300 [.ref src] ((src, o) :: r) 20 200 (FrameOf w src r) := by
  refine Does.enterF (dep := 19) (un := 197) (binds := [(Str.ofString "source", .ref src)]) (fn_300 _) (fun _ _ _ _ _ => rfl) (locs rfl) rfl rfl rfl (by decide) ?_
  intro c cdv hw hcl O
  subst hw
  refine St.asg_ (LW.list (LW.args_nil (LW.newList fun tg l1 => ?_)))
  have hst : @LT.lt Nat _ src tg := l1 _ (.head _)
  have htr : ∀ p ∈ r, @LT.lt Nat _ p.1 tg := fun p hp => l1 p (.tail _ hp)
  clear l1
  refine LW.drop (n := (src, o) :: (tg, W.listOf ([] : List Value).toArray 0) :: r) (fun p hp => ?_) ?_
  · rcases List.mem_cons.mp hp with rfl | hp
    · exact .tail _ (.head _)
    · rcases List.mem_cons.mp hp with rfl | hp
      · exact .head _
      · exact .tail _ (.tail _ hp)
  refine St.forRange [Str.ofString "kind", Str.ofString "vlan"] (O := O) (LW.one O (off_cons' (Nat.ne_of_gt hst) hr) ho (Ev.name rfl rfl) (Ix.cons Ev.int (Ix.cons Ev.int (Ix.cons Ev.int (Ix.cons Ev.int (Ix.cons Ev.int (Ix.cons Ev.int (Ix.cons Ev.int (Ix.cons Ev.int (Ix.nil))))))))) fun k v o0 hv hk ho0 => ?_)
  obtain ⟨m8, rfl, hm8⟩ := one8 hk
  refine ⟨rfl, m8, hv, by omega, TagJ c.w src tg r, ⟨o0, 0, [], [], [], rfl, ho0, .nil, rfl, fun _ h => nomatch h⟩, ?_, ?_⟩
  · rintro i t us nx own hi hoff ⟨o1, m, vs, ts, tl, rfl, ho1, hT, hlen, htl⟩
    have hoS : Off src ((tl ++ r) ++ own) := off_app (off_app (fun p hp => Nat.ne_of_gt (Nat.lt_trans hst (htl p hp))) hr) fun p hp => hoff p hp _ (.head _)
    have hoT : Off tg ((tl ++ r) ++ own) := off_app (off_app (fun p hp => Nat.ne_of_gt (htl p hp)) fun p hp => Nat.ne_of_lt (htr p hp)) fun p hp => hoff p hp _ (.tail _ (.head _))
    have hoS' := off_cons' (o := W.listOf vs.toArray m) (Nat.ne_of_gt hst) hoS
    have hvl := hT.length
    show LW _ _ _ ((src, o1) :: (tg, W.listOf vs.toArray m) :: ((tl ++ r) ++ own)) _ _
    refine St.pair (LW.one O hoS' ho1 (Ev.name rfl rfl) (Ix.cons Ev.int (Ix.cons Ev.int (Ix.cons Ev.int (Ix.nil)))) fun kd v1 o2 hv1 _ ho2 => LW.one O hoS' ho2 (Ev.name rfl rfl) (Ix.cons Ev.int (Ix.cons Ev.int (Ix.cons Ev.int (Ix.cons Ev.int (Ix.cons Ev.int (Ix.nil)))))) fun vl v2 o3 hv2 _ ho3 => ?_)
    refine St.expr_ (LW.append rfl (.tail _ (.head _)) (LW.callG O (gl_Tag _) (LW.args_cons (LW.name rfl (LW.args_cons (LW.take O hoS' ho3 (Ev.name rfl rfl) Ev.int fun pr v3 o4 hv3 _ _ ho4 => LW.args_cons (LW.compare (LW.take O hoS' ho4 (Ev.name rfl rfl) Ev.int fun dr v4 o5 hv4 _ _ ho5 => LW.int fun t0 => ?_))))))) (by omega))
    obtain ⟨t4, rfl⟩ := hv4
    refine LW.eq (LW.args_cons (LW.name rfl (LW.args_nil ?_)))
    obtain ⟨t1, rfl⟩ := hv1
    obtain ⟨t2, rfl⟩ := hv2
    obtain ⟨t3, rfl⟩ := hv3
    refine LW.newTag' O fun rv p q ht l1 l2 => ⟨(src, o5) :: p :: q :: ((tl ++ r) ++ own), fun x hx => ?_, off_cons' (Nat.ne_of_lt hst) (off_cons' (b := p.1) (o := p.2) (Nat.ne_of_gt (Nat.lt_trans (l1 (tg, _) (.tail _ (.head _))) l2)) (off_cons' (b := q.1) (o := q.2) (Nat.ne_of_gt (l1 (tg, _) (.tail _ (.head _)))) hoT)), ?_⟩
    · rcases List.mem_cons.mp hx with rfl | hx
      · exact .tail _ (.tail _ (.tail _ (.head _)))
      · rcases List.mem_cons.mp hx with rfl | hx
        · exact .tail _ (.tail _ (.head _))
        · rcases List.mem_cons.mp hx with rfl | hx
          · exact .head _
          · rcases List.mem_cons.mp hx with rfl | hx
            · exact .tail _ (.head _)
            · exact .tail _ (.tail _ (.tail _ (.tail _ hx)))
    · exact LW.nil ⟨.inl ⟨[_, _], rfl, rfl⟩, tagJ_next hst ho5 hT hlen htl hoff ht l1 l2⟩
  · rintro us nx _ ⟨o1, m, vs, ts, tl, rfl, ho1, hT, hlen, htl⟩
    have hvl := hT.length
    refine St.ret_ (LW.less (LW.callG O (gl_Frame _) (LW.args_cons (LW.int fun t1 => LW.args_cons (LW.int fun t2 => LW.args_cons (LW.tupleList O (.tail _ (.head _)) (Ev.name rfl rfl) (by omega) fun D lD => LW.args_cons (LW.int fun t4 => LW.args_cons (Ev.go Ev.bytes fun v5 h5 => LW.args_nil ?_))))))))
    have h3 : TupIn c.w ((D, tupOf vs 0) :: tl) ts (.ref D) := ⟨D, 0, vs, rfl, .head _, hT.mono fun p hp => .tail _ hp⟩
    have hsD : @LT.lt Nat _ src D := lD _ (.head _)
    have hrD : ∀ q ∈ r, @LT.lt Nat _ q.1 D := fun q hq => lD q (.tail _ (.tail _ (List.mem_append_right _ hq)))
    refine LW.newFrame' (fr := ⟨1, 2, ts, 2048, #[97, 98, 99]⟩) (n0 := (D, tupOf vs 0) :: tl) (fun p hp => ?_) O ⟨_, rfl⟩ ⟨_, rfl⟩ h3 ⟨_, rfl⟩ h5 fun rv p q h4 lq lp => ?_
    · rcases List.mem_cons.mp hp with rfl | hp
      · exact .head _
      · exact .tail _ (.tail _ (.tail _ (List.mem_append_left _ hp)))
    have hDq := lq _ (.head _)
    have hDp := Nat.lt_trans hDq lp
    refine ⟨(src, o1) :: ((p :: q :: (D, tupOf vs 0) :: tl) ++ r), fun x hx => ?_, o1, ts, p :: q :: (D, tupOf vs 0) :: tl, ho1, by omega, h4, List.forall_mem_cons.mpr ⟨?_, List.forall_mem_cons.mpr ⟨?_, List.forall_mem_cons.mpr ⟨⟨hsD, hrD⟩, fun x hx => ⟨Nat.lt_trans hst (htl x hx), fun q hq => Nat.lt_trans (htr q hq) (htl x hx)⟩⟩⟩⟩, rfl⟩
    · rcases List.mem_cons.mp hx with rfl | hx
      · exact .tail _ (.tail _ (.tail _ (.head _)))
      · rcases List.mem_cons.mp hx with rfl | hx
        · exact .head _
        · rcases List.mem_cons.mp hx with rfl | hx
          · exact .tail _ (.head _)
          · rcases List.mem_cons.mp hx with rfl | hx
            · exact .tail _ (.tail _ (.head _))
            · exact .tail _ (.tail _ (.tail _ (.tail _ (.tail _ hx))))
    · exact ⟨Nat.lt_trans hsD hDp, fun q hq => Nat.lt_trans (hrD q hq) hDp⟩
    · exact ⟨Nat.lt_trans hsD hDq, fun q hq => Nat.lt_trans (hrD q hq) hDq⟩
end Mine
end
section
open PySem PySem.W PyProof.Rows PySem.Spec PySem.Calls PyProof.Rows.LCg
set_option Elab.async false
namespace Mine
theorem sub_refl (R : Led) : ∀ p ∈ R, p ∈ R := fun _ h => h
theorem sub_cons {a : Addr × Obj} {R n : Led} (h : a ∈ n) (k : ∀ p ∈ R, p ∈ n) : ∀ p ∈ a :: R, p ∈ n := fun p hp => (List.mem_cons.mp hp).elim (fun e => e ▸ h) (k p)
theorem sub_tail {a : Addr × Obj} {R n : Led} (k : ∀ p ∈ R, p ∈ n) : ∀ p ∈ R, p ∈ a :: n := fun p hp => .tail _ (k p hp)
theorem upd_pre {dy y : Addr} {o o' i : Obj} {n : Led} : ∀ {pre : Led}, (∀ p ∈ pre, p.1 ≠ dy) → y ≠ dy → (∀ p ∈ n, p.1 ≠ dy) → Upd dy o o' (pre ++ (y, i) :: (dy, o) :: n) (pre ++ (y, i) :: (dy, o') :: n)
  | [], _, h1, h2 => .tail h1 (.head h2)
  | p :: pre, h, h1, h2 => .tail (h p (.head _)) (upd_pre (fun q hq => h q (.tail _ hq)) h1 h2)
section
variable {c : Ctx} {f : Fn} {l : Loc} {n pre r : Led} {x : Str} {v : Value} {pos pos' ps : Pos} {k d u : Nat} {e e1 e2 : PySem.Expr} {V : Value → Prop}
/-- self.nm = {} within __init__ -/
theorem St.initDict {R : Flow → Loc → Led → Prop} {C y dy : Addr} {nm : Str} {es : List DictEntry} {o : PySem.Expr} {rest : List Stmt} (O : c.Ok d u) (I : Sets c.w.K C nm) (l1 : ∀ p ∈ n, @LT.lt Nat _ p.1 dy) (l2 : @LT.lt Nat _ dy y) (l3 : ∀ p ∈ pre, @LT.lt Nat _ y p.1)
    (h0 : ∀ n, Ev c f l n o (Is (.ref y)))
    (r : ∀ (B : Addr) (oB : Obj) t, (∀ p ∈ pre ++ (y, instObj C dy) :: (dy, dictOf es k) :: n, @LT.lt Nat _ p.1 B) → (B == sysModules) = false → oB.IsDictOf (IK c.w) [] → LW c f l ((B, oB) :: pre ++ (y, instObj C dy) :: (dy, dictOf (putL nm (PyData.keyHash c.w.params nm) (.str nm t) (.ref B) es) (putN nm es k)) :: n) (execs rest (c.env f)) R)
    (hl : (getL nm es).isSome = true := by rfl) (hz : ∀ v t, Nat.ble (putL nm (PyData.keyHash c.w.params nm) (.str nm t) v es).length 1000 = true := by intro _ _; rfl) (hs : swapsWith (.Dict [] [] ps) (some (o.Attribute nm pos')) pos.line (c.env f) = pure false := by rfl) :
    LW c f l (pre ++ (y, instObj C dy) :: (dy, dictOf es k) :: n) (execs (.Assign [.Attribute o nm pos'] (.Dict [] [] ps) pos :: rest) (c.env f)) R :=
  LW.cons (LW.assign_attr (LW.newDict O fun B oB lB lo hd => Ev.go (h0 _) fun _ q0 => by
    cases q0
    have hy : ∀ p ∈ (B, oB) :: pre, @LT.lt Nat _ y p.1 := fun p hp => (List.mem_cons.mp hp).elim (fun e => e ▸ lB _ (List.mem_append_right _ (.head _))) (l3 p)
    have m : ∀ p ∈ (y, instObj C dy) :: (dy, dictOf es k) :: n, p ∈ (B, oB) :: pre ++ (y, instObj C dy) :: (dy, dictOf es k) :: n := fun p hp => List.mem_append_right _ hp
    exact fun s Q E F N q => PySem.W.set_dict F O.X N (InstAt.of_news N (m _ (.head _)) (m _ (.tail _ (.head _)))) rfl I.1 I.2.1 I.2.2.1 I.2.2.2 hl rfl (upd_pre (pre := (B, oB) :: pre) (fun p hp => Nat.ne_of_gt (Nat.lt_trans l2 (hy p hp))) (Nat.ne_of_gt l2) fun p hp => Nat.ne_of_lt (l1 p hp)) (Nat.le_of_ble_eq_true (hz _ _))
      fun h' F' N' => q () h' _ l _ F' N' (r B oB _ lB lo hd)) hs)
set_option maxRecDepth 100000 in
set_option maxHeartbeats 8000000 in
theorem LW.newPort {R : Value → Loc → Led → Prop} {o : Int} {to : Tok} (O : c.Ok d u) (k : ∀ (B a dd : Addr) (oB : Obj) (k1 k2 t1 : Tok), (∀ p ∈ n, @LT.lt Nat _ p.1 dd) → @LT.lt Nat _ dd a → @LT.lt Nat _ a B → (B == sysModules) = false → oB.IsDictOf (IK c.w) [] → R (.ref a) l ((B, oB) :: (a, instObj 179 dd) :: (dd, portDict c.w k1 k2 t1 o B) :: n))
    (hk : f.cs.kind = .function := by rfl) (hd : Nat.ble 3 d = true := by rfl) (hu : Nat.ble 9 u = true := by rfl) : LW c f l n (PySem.call (.ref 179) [.int o to]) R := by
  refine LW.newF (dep := 1) (un := 5) (binds := fun y => [(Str.ofString "self", .ref y), (Str.ofString "outer", .int o to)]) O (cl_179 _) (fn_176 _) (fun _ _ _ _ _ _ => rfl) (fun _ => locs rfl) rfl rfl rfl (by decide) ?_ hk hd hu
  intro c' cdv y dy hw hcl O' l1 l2
  rw [← hw] at k
  refine St.init O' (se_179_outer _) l1 l2 (Ev.name rfl rfl) (Ev.name rfl rfl) fun v q1 e1 => ?_
  cases e1
  refine St.initDict (pre := []) O' (se_179_by_inner _) l1 l2 (fun _ h => nomatch h) (fun _ => Ev.name rfl rfl) fun B oB t lB lo hd => ?_
  exact LW.nil ⟨rfl, k B y dy oB _ _ _ l1 l2 (lB _ (.head _)) lo hd⟩
set_option maxRecDepth 100000 in
set_option maxHeartbeats 8000000 in
theorem LW.newTun {R : Value → Loc → Led → Prop} (O : c.Ok d u) (k : ∀ (S I P t td : Addr) (oS oI oP : Obj) (k1 k2 k3 : Tok), (∀ p ∈ n, @LT.lt Nat _ p.1 td) → @LT.lt Nat _ td t → @LT.lt Nat _ t P → @LT.lt Nat _ P I → @LT.lt Nat _ I S → (P == sysModules) = false → (I == sysModules) = false → (S == sysModules) = false →
      oP.IsDictOf (IK c.w) [] → oI.IsDictOf (IK c.w) [] → oS.IsDictOf (IK c.w) [] → R (.ref t) l ((S, oS) :: (I, oI) :: (P, oP) :: (t, instObj 268 td) :: (td, tunDict c.w k1 k2 k3 P I S) :: n))
    (hk : f.cs.kind = .function := by rfl) (hd : Nat.ble 3 d = true := by rfl) (hu : Nat.ble 9 u = true := by rfl) : LW c f l n (PySem.call (.ref 268) []) R := by
  refine LW.newF (dep := 1) (un := 5) (binds := fun y => [(Str.ofString "self", .ref y)]) O (cl_268 _) (fn_197 _) (fun _ _ _ _ _ _ => rfl) (fun _ => locs rfl) rfl rfl rfl (by decide) ?_ hk hd hu
  intro c' cdv y dy hw hcl O' l1 l2
  rw [← hw] at k
  refine St.initDict (pre := []) O' (se_268_ports _) l1 l2 (fun _ h => nomatch h) (fun _ => Ev.name rfl rfl) fun P oP t1 lP loP hP => ?_
  have q1 := lP _ (.head _)
  refine St.initDict (pre := [(P, oP)]) O' (se_268_inside _) l1 l2 (fun p hp => by cases List.mem_singleton.mp hp; exact q1) (fun _ => Ev.name rfl rfl) fun I oI t2 lI loI hI => ?_
  have q2 := lI _ (.head _)
  refine St.initDict (pre := [(I, oI), (P, oP)]) O' (se_268_strict _) l1 l2 (fun p hp => by
    rcases List.mem_cons.mp hp with rfl | hp
    · exact Nat.lt_trans q1 q2
    · cases List.mem_singleton.mp hp; exact q1) (fun _ => Ev.name rfl rfl) fun S oS t3 lS loS hS => ?_
  exact LW.nil ⟨rfl, k S I P y dy oS oI oP _ _ _ l1 l2 q1 q2 (lS _ (.head _)) loP loI loS hP hI hS⟩
end
set_option maxRecDepth 100000 in
set_option maxHeartbeats 8000000 in
theorem set_customer_g {w : Wd} {t P I S : Addr} {oP : Obj} {kP : List (Int × Value)} {port o : Int} {tp to : Tok} {r : Led} (hr : Off P r) (hT : TunAt w ((P, oP) :: r) t P I S) (hd : oP.IsDictOf (IK w) kP) (hl : kP.length ≤ 1000) :
  Does w 204 [.ref t, .int port tp, .int o to] ((P, oP) :: r) 20 200 (fun v n' => ∃ (oP' oB : Obj) (B a dd : Addr) (k1 k2 t1 : Tok), v = .none ∧ oP'.IsDictOf (IK w) (stored kP port (.ref a)) ∧ oB.IsDictOf (IK w) [] ∧ (B == sysModules) = false ∧ (∀ p ∈ (P, oP) :: r, @LT.lt Nat _ p.1 dd) ∧ @LT.lt Nat _ dd a ∧ @LT.lt Nat _ a B ∧
    n' = (P, oP') :: (B, oB) :: (a, instObj 179 dd) :: (dd, portDict w k1 k2 t1 o B) :: r) := by
  refine Does.enterF (dep := 19) (un := 197) (binds := [(Str.ofString "self", .ref t), (Str.ofString "port", .int port tp), (Str.ofString "outer", .int o to)]) (fn_204 _) (fun _ _ _ _ _ => rfl) (locs rfl) rfl rfl rfl (by decide) ?_
  intro c cdv hw hcl O
  subst hw
  refine LW.cons (LW.assign_sub (LW.callG O (gl_TunnelPort _) (LW.args_cons (LW.name rfl (LW.args_nil (LW.newPort O fun B a dd oB k1 k2 t1 l1 l2 l3 lo hB => ?_))))))
  have g : ∀ p ∈ (P, oP) :: r, p ∈ (B, oB) :: (a, instObj 179 dd) :: (dd, portDict c.w k1 k2 t1 o B) :: (P, oP) :: r := fun p hp => .tail _ (.tail _ (.tail _ hp))
  have h1 := l1 (P, oP) (.head _)
  refine Ev.go (Ev.tun_ports (W := Is (.ref P)) O (hT.mono g) (Ev.name rfl rfl) rfl) fun _ q => ?_
  cases q
  refine LW.name rfl (LW.drop (n := (P, oP) :: (B, oB) :: (a, instObj 179 dd) :: (dd, portDict c.w k1 k2 t1 o B) :: r) (by repeat' (first | exact List.Mem.head _ | exact sub_refl _ | refine sub_cons ?_ ?_ | refine sub_tail ?_ | refine List.Mem.tail _ ?_)) (LW.set_dict (.head (off_cons' (Nat.ne_of_gt (Nat.lt_trans h1 (Nat.lt_trans l2 l3))) (off_cons' (Nat.ne_of_gt (Nat.lt_trans h1 l2)) (off_cons' (Nat.ne_of_gt h1) hr)))) hd hl fun oP' hP' => LW.nil ?_))
  exact ⟨oP', oB, B, a, dd, k1, k2, t1, rfl, hP', hB, lo, l1, l2, l3, rfl⟩
set_option maxRecDepth 100000 in
set_option maxHeartbeats 8000000 in
theorem set_inner_g {w : Wd} {t P I S : Addr} {oP oB : Obj} {kP kB : List (Int × Value)} {port inner outer o : Int} {tp ti to k1 k2 t1 : Tok} {a dd B : Addr} {r : Led} (hr : Off B r) (hT : TunAt w r t P I S) (hP : (P, oP) ∈ r) (hdP : oP.IsDictOf (IK w) kP) (loP : (P == sysModules) = false)
  (hv : valueAt kP port = some (.ref a)) (hm1 : (a, instObj 179 dd) ∈ r) (hm2 : (dd, portDict w k1 k2 t1 o B) ∈ r) (hB : oB.IsDictOf (IK w) kB) (hl : kB.length ≤ 1000) :
  Does w 211 [.ref t, .int port tp, .int inner ti, .int outer to] ((B, oB) :: r) 20 200 (fun v n' => ∃ o', (v = .none ∧ o'.IsDictOf (IK w) (stored kB inner (.int outer to))) ∧ n' = (B, o') :: r) := by
  refine Does.enterF (dep := 19) (un := 197) (binds := [(Str.ofString "self", .ref t), (Str.ofString "port", .int port tp), (Str.ofString "inner", .int inner ti), (Str.ofString "outer", .int outer to)]) (fn_211 _) (fun _ _ _ _ _ => rfl) (locs rfl) rfl rfl rfl (by decide) ?_
  intro c cdv hw hcl O
  subst hw
  have hT' := hT.mono (sub_tail (a := (B, oB)) (sub_refl r))
  refine St.if0 (b := false) (Tr.cp (op := .NotIn) (Ev.go (V := Is (.int port tp)) (Ev.name rfl rfl) fun _ q => Ev.go (Ev.tun_ports (W := Is (.ref P)) O hT' (Ev.name rfl rfl) rfl) fun _ q' => by
    cases q; cases q'
    exact fun s Q E F N q => kdg_notin (knd := PySem.intKind _ _) N (.tail _ hP) hdP loP (intKind_is _ _ _ _) true (by rw [hv]; rfl) (q _ s.heap _ _ _ F N ⟨rfl, rfl, rfl⟩))) (fun hb => nomatch hb) fun _ => ?_
  refine LW.cons (LW.assign_sub (LW.name rfl ?_))
  refine Ev.go (V := Is (.ref B)) (Ev.fieldOf (V := Is (.ref a)) O (Ev.sub (V := Is (.ref P)) (W := Is (.int port tp)) (Ev.tun_ports O hT' (Ev.name rfl rfl) rfl) (Ev.name rfl rfl) fun _ _ q q' => by
      cases q; cases q'
      exact fun s Q E F N q => kba_turn (value' := PySem.Expr.Name (PySem.Str.ofString "_") ⟨0, 0, 0, 0⟩) (fun _ => rfl) (kda_item (knd := PySem.intKind _ _) N (.tail _ hP) hdP (intKind_is _ _ _ _) hv (q _ s.heap _ _ _ F N ⟨rfl, rfl, rfl⟩) (by with_unfolding_all rfl) (fun _ => rfl)))
    fun v hv => by cases hv; exact ⟨a, 179, dd, _, _, _, rfl, fd_179_by_inner _, .tail _ hm1, .tail _ hm2, rfl, rfl, rfl⟩) fun _ q => ?_
  cases q
  exact LW.name rfl (LW.set_dict (.head hr) hB hl fun o' ho' => LW.nil ⟨o', ⟨rfl, ho'⟩, rfl⟩)
end Mine
end
section
open PySem PySem.W PyProof.Rows PySem.Spec PySem.Calls PyProof.Rows.LCg
set_option Elab.async false
namespace Mine
theorem putK_length {β : Type} (c : List (Int × β)) (k : Int) (b : β) : (putK c k b).length ≤ c.length + 1 := by
  unfold putK
  split <;> simp
theorem valueAt_stored (kvs : List (Int × Value)) (k : Int) (v : Value) : valueAt (stored kvs k v) k = some v := by
  have here : ∀ (j : Int) (x : Value) (r : List (Int × Value)), j = k → valueAt ((j, x) :: r) k = some x := fun j x r e => by subst e; unfold valueAt; rw [List.find?_cons_of_pos (by simp)]; rfl
  have on : ∀ (j : Int) (x : Value) (r : List (Int × Value)), ¬ j = k → valueAt ((j, x) :: r) k = valueAt r k := fun j x r e => by unfold valueAt; rw [List.find?_cons_of_neg (by simpa using e)]
  have key : ∀ kvs : List (Int × Value), kvs.any (fun kv => kv.1 = k) = true → valueAt (kvs.map (fun kv => if kv.1 = k then (kv.1, v) else kv)) k = some v := by
    intro kvs
    induction kvs with
    | nil => intro h; cases h
    | cons p kvs ih =>
      intro h
      obtain ⟨j, x⟩ := p
      rw [List.map_cons]
      by_cases e : j = k
      · rw [if_pos e]; exact here _ _ _ e
      · rw [if_neg e, on _ _ _ e]
        exact ih (by simpa [e] using h)
  by_cases h : kvs.any (fun kv => kv.1 = k) = true
  · rw [show stored kvs k v = kvs.map (fun kv => if kv.1 = k then (kv.1, v) else kv) from if_pos h]
    exact key kvs h
  · rw [show stored kvs k v = kvs ++ [(k, v)] from if_neg h]
    have hn : ∀ p ∈ kvs, p.1 ≠ k := fun p hp e => h (List.any_eq_true.mpr ⟨p, hp, by simp [e]⟩)
    clear h
    induction kvs with
    | nil => exact here _ _ _ rfl
    | cons p kvs ih =>
      obtain ⟨j, x⟩ := p
      rw [List.cons_append, on _ _ _ (hn (j, x) (.head _))]
      exact ih fun q hq => hn q (.tail _ hq)
def BuiltJ (w : Wd) (src P O : Addr) (fix : Led) (i : Nat) (nx : Led) : Prop :=
  ∃ (o oP oO : Obj) (kP kO : List (Int × Value)) (cfg : Cfg) (tl : Led), nx = (src, o) :: (P, oP) :: (O, oO) :: (tl ++ fix) ∧ SrcObj o ∧ oP.IsDictOf (IK w) kP ∧ oO.IsDictOf (IK w) kO ∧ KvRel (PortIn w tl) kP cfg ∧ KvRel (OwnRow w tl) kO cfg ∧ cfg.length ≤ i ∧ (∀ p ∈ tl, @LT.lt Nat _ O p.1)
def InnerJ (w : Wd) (src B D : Addr) (fx : Led) (i : Nat) (nx : Led) : Prop :=
  ∃ (o oB oD : Obj) (kB kD : List (Int × Value)) (cc : List (Int × Int)), nx = (src, o) :: (B, oB) :: (D, oD) :: fx ∧ SrcObj o ∧ oB.IsDictOf (IK w) kB ∧ oD.IsDictOf (IK w) kD ∧ KvRel IsInt kB cc ∧ KvRel IsInt kD cc ∧ cc.length ≤ i
/-- what the law's builder gives -/
def BuiltG (w : Wd) (src : Addr) (r : Led) (v : Value) (n' : Led) : Prop :=
  ∃ (o oI oS : Obj) (m : Nat) (T t P I S O : Addr) (cfg : Cfg) (r' : Led), v = .ref T ∧ SrcObj o ∧ (T, tupOf [.ref t, .ref O] m) ∈ r' ∧ TunAt w r' t P I S ∧ DictIn w (PortIn w) r' (.ref P) cfg ∧ DictIn w (OwnRow w) r' (.ref O) cfg ∧
    oI.IsDictOf (IK w) [] ∧ (I == sysModules) = false ∧ oS.IsDictOf (IK w) [] ∧ (S == sysModules) = false ∧ @LT.lt Nat _ src I ∧ @LT.lt Nat _ I S ∧ (∀ p ∈ r, p ∈ r') ∧ (∀ p ∈ r', p.1 ≠ src ∧ p.1 ≠ I ∧ p.1 ≠ S) ∧ n' = (src, o) :: (S, oS) :: (I, oI) :: r'
theorem built_next {w : Wd} {src P O B D T a dd : Addr} {fix own tl : Led} {o oP oO oB oD : Obj} {i m2 : Nat} {kP kO kB kD : List (Int × Value)} {cfg : Cfg} {cc : List (Int × Int)} {k1 k2 t1 to : Tok} {port x : Int}
    (ho : SrcObj o) (hP : oP.IsDictOf (IK w) (stored kP port (.ref a))) (hO : oO.IsDictOf (IK w) (stored kO port (.ref T))) (hB : oB.IsDictOf (IK w) kB) (hD : oD.IsDictOf (IK w) kD) (hcB : KvRel IsInt kB cc) (hcD : KvRel IsInt kD cc) (loB : (B == sysModules) = false) (loD : (D == sysModules) = false)
    (hcP : KvRel (PortIn w tl) kP cfg) (hcO : KvRel (OwnRow w tl) kO cfg) (hlen : cfg.length ≤ i) (htl : ∀ p ∈ tl, @LT.lt Nat _ O p.1) (hoff : ∀ p ∈ own, ∀ b ∈ src :: P :: O :: (tl ++ fix).map (·.1), p.1 ≠ b)
    (hD0 : ∀ p ∈ (tl ++ fix) ++ own, @LT.lt Nat _ p.1 D) (hOD : @LT.lt Nat _ O D) (hDT : @LT.lt Nat _ D T) (hTd : @LT.lt Nat _ T dd) (hda : @LT.lt Nat _ dd a) (haB : @LT.lt Nat _ a B) :
    ∃ nx : Led, (∀ p ∈ nx, p ∈ (src, o) :: (B, oB) :: (D, oD) :: (a, instObj 179 dd) :: (dd, portDict w k1 k2 t1 x B) :: (T, tupOf [.int x to, .ref D] m2) :: (P, oP) :: (O, oO) :: ((tl ++ fix) ++ own)) ∧
      (∀ p ∈ own, p ∈ (src, o) :: (B, oB) :: (D, oD) :: (a, instObj 179 dd) :: (dd, portDict w k1 k2 t1 x B) :: (T, tupOf [.int x to, .ref D] m2) :: (P, oP) :: (O, oO) :: ((tl ++ fix) ++ own)) ∧ OwnOff own (nx.map (·.1)) ∧ BuiltJ w src P O fix (i + 1) nx := by
  have lo : ∀ p ∈ own, @LT.lt Nat _ p.1 D := fun p hp => hD0 p (List.mem_append_right _ hp)
  have hT := Nat.lt_trans hDT hTd
  have hsub : ∀ p ∈ tl, p ∈ (a, instObj 179 dd) :: (dd, portDict w k1 k2 t1 x B) :: (B, oB) :: (T, tupOf [.int x to, .ref D] m2) :: (D, oD) :: tl := fun p hp => .tail _ (.tail _ (.tail _ (.tail _ (.tail _ hp))))
  refine ⟨(src, o) :: (P, oP) :: (O, oO) :: (((a, instObj 179 dd) :: (dd, portDict w k1 k2 t1 x B) :: (B, oB) :: (T, tupOf [.int x to, .ref D] m2) :: (D, oD) :: tl) ++ fix), ?_, fun p hp => .tail _ (.tail _ (.tail _ (.tail _ (.tail _ (.tail _ (.tail _ (.tail _ (List.mem_append_right _ hp)))))))), ?_,
    o, oP, oO, _, _, putK cfg port (x, cc), _, rfl, ho, hP, hO, (hcP.mono fun v b h => PortIn.mono hsub h).put ⟨a, dd, B, _, _, _, rfl, .head _, .tail _ (.head _), B, oB, kB, rfl, .tail _ (.tail _ (.head _)), hB, loB, hcB⟩,
      (hcO.mono fun v b h => OwnRow.mono hsub h).put ⟨T, m2, to, .ref D, rfl, .tail _ (.tail _ (.tail _ (.head _))), D, oD, kD, rfl, .tail _ (.tail _ (.tail _ (.tail _ (.head _)))), hD, loD, hcD⟩, Nat.le_trans (putK_length _ _ _) (Nat.succ_le_succ hlen), ?_⟩
  · show ∀ p ∈ (src, o) :: (P, oP) :: (O, oO) :: (a, instObj 179 dd) :: (dd, portDict w k1 k2 t1 x B) :: (B, oB) :: (T, tupOf [.int x to, .ref D] m2) :: (D, oD) :: (tl ++ fix), _
    refine sub_cons ?_ (sub_cons ?_ (sub_cons ?_ (sub_cons ?_ (sub_cons ?_ (sub_cons ?_ (sub_cons ?_ (sub_cons ?_ fun p hp => .tail _ (.tail _ (.tail _ (.tail _ (.tail _ (.tail _ (.tail _ (.tail _ (List.mem_append_left _ hp))))))))))))))) <;> repeat' (first | exact List.Mem.head _ | exact sub_refl _ | refine sub_cons ?_ ?_ | refine sub_tail ?_ | refine List.Mem.tail _ ?_)
  · intro p hp b hb
    have l0 := lo p hp
    simp only [List.map_cons, List.cons_append, List.mem_cons] at hb
    rcases hb with rfl | rfl | rfl | rfl | rfl | rfl | rfl | rfl | hb
    · exact hoff p hp _ (.head _)
    · exact hoff p hp _ (.tail _ (.head _))
    · exact hoff p hp _ (.tail _ (.tail _ (.head _)))
    · exact Nat.ne_of_lt (by omega)
    · exact Nat.ne_of_lt (by omega)
    · exact Nat.ne_of_lt (by omega)
    · exact Nat.ne_of_lt (by omega)
    · exact Nat.ne_of_lt l0
    · exact hoff p hp b (.tail _ (.tail _ (.tail _ hb)))
  · refine List.forall_mem_cons.mpr ⟨?_, List.forall_mem_cons.mpr ⟨?_, List.forall_mem_cons.mpr ⟨?_, List.forall_mem_cons.mpr ⟨?_, List.forall_mem_cons.mpr ⟨hOD, htl⟩⟩⟩⟩⟩ <;> (show @LT.lt Nat _ O _; omega)
section
variable {c : Ctx} {f : Fn} {l : Loc} {n : Led} {x : Str} {v : Value} {pos pos' : Pos} {d u : Nat} {a : Addr} {R : Value → Loc → Led → Prop}
theorem LW.callG0 (O : c.Ok d u) (I : Global c.w.K x a) (h : LW c f l n (PySem.call (.ref a) []) R)
    (hk : f.cs.kind = .function := by rfl) (hx : (c.env f).kindOf x = some .globalImplicit := by rfl) (hd : (x == ("__debug__" : Str)) = false := by decide)
    (he : eval (.Call (.Name x pos') [] [] pos) (c.env f) = (do callWith pos (← eval (.Name x pos') (c.env f)) [] (backTo pos (starEach [] (c.env f))) (backToKw pos (keywordEach [] (c.env f)))) := by rfl) :
    LW c f l n (eval (.Call (.Name x pos') [] [] pos) (c.env f)) R := fun s Q E F N q =>
  Call_ (nameX_K F O.X (topRead_of O.T) I.1 (callWith_K0 (O.X.keeps F.keep) I.2 (h s Q E F N q)) hk hx hd) he
end
set_option maxRecDepth 100000 in
set_option maxHeartbeats 8000000 in
theorem built_g {w : Wd} {src : Addr} {o : Obj} {r : Led} (hr : Off src r) (ho : SrcObj o) : Does w 307 [.ref src] ((src, o) :: r) 40 400 (BuiltG w src r) := by
  refine Does.enterF (dep := 39) (un := 397) (binds := [(Str.ofString "source", .ref src)]) (fn_307 _) (fun _ _ _ _ _ => rfl) (locs rfl) rfl rfl rfl (by decide) ?_
  intro c cdv hw hcl O
  subst hw
  refine St.pair (LW.callG0 O (gl_Tunnels _) (LW.newTun O fun S I P t td oS oI oP k1 k2 k3 l1 l2 l3 l4 l5 loP loI loS hP hI hS => LW.newDict O fun O' oO lO loO hO => ?_))
  have hsd : @LT.lt Nat _ src td := l1 _ (.head _)
  have hrd : ∀ p ∈ r, @LT.lt Nat _ p.1 td := fun p hp => l1 p (.tail _ hp)
  have hSO : @LT.lt Nat _ S O' := lO _ (.head _)
  clear l1 lO
  have hsP : @LT.lt Nat _ src P := by omega
  have hsO : @LT.lt Nat _ src O' := by omega
  have hPO : @LT.lt Nat _ P O' := by omega
  generalize hfix : (S, oS) :: (I, oI) :: (t, instObj 268 td) :: (td, tunDict c.w k1 k2 k3 P I S) :: r = fix
  have hT0 : TunAt c.w fix t P I S := by subst hfix; exact ⟨td, k1, k2, k3, .tail _ (.tail _ (.head _)), .tail _ (.tail _ (.tail _ (.head _)))⟩
  have hfO : ∀ p ∈ fix, @LT.lt Nat _ p.1 O' := by
    subst hfix
    refine List.forall_mem_cons.mpr ⟨hSO, List.forall_mem_cons.mpr ⟨?_, List.forall_mem_cons.mpr ⟨?_, List.forall_mem_cons.mpr ⟨?_, fun p hp => ?_⟩⟩⟩⟩
    · show @LT.lt Nat _ I O'; omega
    · show @LT.lt Nat _ t O'; omega
    · show @LT.lt Nat _ td O'; omega
    · have := hrd p hp; omega
  have hfs : Off src fix := by
    subst hfix
    exact off_cons' (Nat.ne_of_gt (by omega)) (off_cons' (Nat.ne_of_gt (by omega)) (off_cons' (Nat.ne_of_gt (by omega)) (off_cons' (Nat.ne_of_gt hsd) hr)))
  have hfP : Off P fix := by
    subst hfix
    exact off_cons' (Nat.ne_of_gt (by omega)) (off_cons' (Nat.ne_of_gt (by omega)) (off_cons' (Nat.ne_of_lt (by omega)) (off_cons' (Nat.ne_of_lt (by omega)) fun p hp => Nat.ne_of_lt (by have := hrd p hp; omega))))
  refine LW.drop (n := (src, o) :: (P, oP) :: (O', oO) :: fix) (by subst hfix; exact (by repeat' (first | exact List.Mem.head _ | exact sub_refl _ | refine sub_cons ?_ ?_ | refine sub_tail ?_ | refine List.Mem.tail _ ?_))) ?_
  refine St.forRange2 [Str.ofString "turn", Str.ofString "inner", Str.ofString "outer"] (O := O) (LW.binop (LW.int fun t0 => LW.take O (off_cons' (Nat.ne_of_gt hsP) (off_cons' (Nat.ne_of_gt hsO) hfs)) ho (Ev.name rfl rfl) Ev.int fun k v o0 hv hk0 hk4 ho0 => ?_))
  obtain ⟨tk0, rfl⟩ := hv
  refine LW.add fun tk1 => ⟨rfl, k.toNat, ⟨tk1, by congr 1; omega⟩, by omega, BuiltJ c.w src P O' fix, ⟨o0, oP, oO, [], [], [], [], rfl, ho0, hP, hO, .nil, .nil, Nat.le_refl _, fun _ h => nomatch h⟩, ?_, ?_⟩
  · clear hP hO hrd
    rintro i tt us nx own hi hoff ⟨o1, oP, oO, kP, kO, cfg, tl, rfl, ho1, hP, hO, hcP, hcO, hlen, htl⟩
    have hoS : Off src ((tl ++ fix) ++ own) := off_app (off_app (fun p hp => Nat.ne_of_gt (Nat.lt_trans hsO (htl p hp))) hfs) fun p hp => hoff p hp _ (.head _)
    have hoP : Off P ((tl ++ fix) ++ own) := off_app (off_app (fun p hp => Nat.ne_of_gt (Nat.lt_trans hPO (htl p hp))) hfP) fun p hp => hoff p hp _ (.tail _ (.head _))
    have hoO : Off O' ((tl ++ fix) ++ own) := off_app (off_app (fun p hp => Nat.ne_of_gt (htl p hp)) fun p hp => Nat.ne_of_lt (hfO p hp)) fun p hp => hoff p hp _ (.tail _ (.tail _ (.head _)))
    have hTR : TunAt c.w ((tl ++ fix) ++ own) t P I S := hT0.mono fun p hp => List.mem_append_left _ (List.mem_append_right _ hp)
    have hoff' : ∀ p ∈ own, ∀ b ∈ src :: P :: O' :: (tl ++ fix).map (·.1), p.1 ≠ b := hoff
    have hkP := hcP.length
    have hkO := hcO.length
    show LW _ _ _ ((src, o1) :: (P, oP) :: (O', oO) :: ((tl ++ fix) ++ own)) _ _
    generalize hR : (tl ++ fix) ++ own = R0 at hoS hoP hoO hTR
    refine LW.cons (LW.assign_sub (LW.tuple (LW.args_cons (LW.one O (off_cons' (Nat.ne_of_gt hsP) (off_cons' (Nat.ne_of_gt hsO) hoS)) ho1 (Ev.name rfl rfl) (Ix.cons Ev.int (Ix.cons Ev.int (Ix.cons Ev.int (Ix.cons Ev.int (Ix.nil))))) fun x v1 o2 hv1 _ ho2 => LW.args_cons (LW.newDict O fun D oD lD loD hD => LW.args_nil (LW.newTuple (fun T lT => ?_) (show 2 ≤ sizeLine by decide)))))))
    obtain ⟨tx, rfl⟩ := hv1
    have hDs : @LT.lt Nat _ src D := lD _ (.head _)
    have hDP : @LT.lt Nat _ P D := lD _ (.tail _ (.head _))
    have hDO : @LT.lt Nat _ O' D := lD _ (.tail _ (.tail _ (.head _)))
    have hDR : ∀ p ∈ R0, @LT.lt Nat _ p.1 D := fun p hp => lD p (.tail _ (.tail _ (.tail _ hp)))
    have hTD : @LT.lt Nat _ D T := lT _ (.head _)
    clear lD lT
    refine LW.name rfl (LW.name rfl (LW.drop (n := (O', oO) :: (T, tupOf [.int x tx, .ref D] 0) :: (D, oD) :: (src, o2) :: (P, oP) :: R0) (by repeat' (first | exact List.Mem.head _ | exact sub_refl _ | refine sub_cons ?_ ?_ | refine sub_tail ?_ | refine List.Mem.tail _ ?_)) (LW.set_dict (.head (off_cons' (Nat.ne_of_gt (Nat.lt_trans hDO hTD)) (off_cons' (Nat.ne_of_gt hDO) (off_cons' (Nat.ne_of_lt hsO) (off_cons' (Nat.ne_of_lt hPO) hoO))))) hO (by omega) fun oO' hO' => ?_)))
    obtain ⟨td', q1, q2, q3, mT1, mT2⟩ := id hTR
    refine St.expr_ (LW.meth O (me_268_set_customer _) (Ev.name rfl rfl) (.tail _ (.tail _ (.tail _ (.tail _ (.tail _ mT1))))) (.tail _ (.tail _ (.tail _ (.tail _ (.tail _ mT2))))) rfl (LW.args_cons (LW.name rfl (LW.args_cons (Ev.go (V := IsI x) (Ev.sub (V := Is (.ref T)) (Ev.sub (V := Is (.ref O')) (W := Is (.int (1 + (i : Int)) tt)) (Ev.name rfl rfl) (Ev.name rfl rfl) fun _ _ e1 e2 => by
        cases e1; cases e2
        exact fun s Q E F N q => kda_item (knd := PySem.intKind _ _) N (.head _) hO' (intKind_is _ _ _ _) (valueAt_stored _ _ _) (q _ s.heap _ _ _ F N ⟨rfl, rfl, rfl⟩)) Ev.int fun _ _ e1 ⟨y, e2⟩ => by
        cases e1; subst e2
        exact fun s Q E F N q => kba_turn (value' := PySem.Expr.Name (PySem.Str.ofString "_") ⟨0, 0, 0, 0⟩) (fun _ => rfl) (item_at N (.tail _ (.head _)) (j := 0) rfl rfl (by decide) (by decide) (q _ s.heap s.toks _ _ F N ⟨⟨_, rfl⟩, rfl, rfl⟩))) fun xv hx => LW.args_nil ?_)))))
    obtain ⟨tx2, rfl⟩ := hx
    refine LW.drop (n := (P, oP) :: (O', oO') :: (T, tupOf [.int x tx, .ref D] 0) :: (D, oD) :: (src, o2) :: R0) (by repeat' (first | exact List.Mem.head _ | exact sub_refl _ | refine sub_cons ?_ ?_ | refine sub_tail ?_ | refine List.Mem.tail _ ?_)) (LW.call O (set_customer_g (off_cons' (Nat.ne_of_gt hPO) (off_cons' (Nat.ne_of_gt (Nat.lt_trans hDP hTD)) (off_cons' (Nat.ne_of_gt hDP) (off_cons' (Nat.ne_of_lt hsP) hoP)))) (hTR.mono fun p hp => .tail _ (.tail _ (.tail _ (.tail _ (.tail _ hp))))) hP (by omega)) fun v n' ⟨oP', oB, B, a, dd, j1, j2, j3, e1, hP', hB, loB, ld, lda, laB, e2⟩ => ?_)
    subst e1; subst e2
    have hTd : @LT.lt Nat _ T dd := ld _ (.tail _ (.tail _ (.head _)))
    clear ld
    have b1 := Nat.lt_trans hTd (Nat.lt_trans lda laB)
    have b2 := Nat.lt_trans hDs hTD
    refine LW.drop (n := (src, o2) :: (B, oB) :: (D, oD) :: (a, instObj 179 dd) :: (dd, portDict c.w j1 j2 j3 x B) :: (T, tupOf [.int x tx, .ref D] 0) :: (P, oP') :: (O', oO') :: R0) (by repeat' (first | exact List.Mem.head _ | exact sub_refl _ | refine sub_cons ?_ ?_ | refine sub_tail ?_ | refine List.Mem.tail _ ?_)) ?_
    generalize hfx : (a, instObj 179 dd) :: (dd, portDict c.w j1 j2 j3 x B) :: (T, tupOf [.int x tx, .ref D] 0) :: (P, oP') :: (O', oO') :: R0 = fx
    have fxS : Off src fx := by subst hfx; exact off_cons' (Nat.ne_of_gt (by omega)) (off_cons' (Nat.ne_of_gt (by omega)) (off_cons' (Nat.ne_of_gt b2) (off_cons' (Nat.ne_of_gt hsP) (off_cons' (Nat.ne_of_gt hsO) hoS))))
    have fxB : Off B fx := by subst hfx; exact off_cons' (Nat.ne_of_lt laB) (off_cons' (Nat.ne_of_lt (by omega)) (off_cons' (Nat.ne_of_lt b1) (off_cons' (Nat.ne_of_lt (by omega)) (off_cons' (Nat.ne_of_lt (by omega)) fun p hp => Nat.ne_of_lt (by have := hDR p hp; omega)))))
    have fxD : Off D fx := by subst hfx; exact off_cons' (Nat.ne_of_gt (by omega)) (off_cons' (Nat.ne_of_gt (by omega)) (off_cons' (Nat.ne_of_gt hTD) (off_cons' (Nat.ne_of_lt hDP) (off_cons' (Nat.ne_of_lt hDO) fun p hp => Nat.ne_of_lt (hDR p hp)))))
    have mO : (O', oO') ∈ fx := by subst hfx; exact .tail _ (.tail _ (.tail _ (.tail _ (.head _))))
    have mP : (P, oP') ∈ fx := by subst hfx; exact .tail _ (.tail _ (.tail _ (.head _)))
    have mT : (T, tupOf [.int x tx, .ref D] 0) ∈ fx := by subst hfx; exact .tail _ (.tail _ (.head _))
    have ma : (a, instObj 179 dd) ∈ fx := by subst hfx; exact .head _
    have md : (dd, portDict c.w j1 j2 j3 x B) ∈ fx := by subst hfx; exact .tail _ (.head _)
    have hTf : TunAt c.w fx t P I S := by subst hfx; exact hTR.mono fun p hp => .tail _ (.tail _ (.tail _ (.tail _ (.tail _ hp))))
    have hsB : @LT.lt Nat _ src B := by omega
    have hBD : @LT.lt Nat _ D B := by omega
    refine St.forRange [Str.ofString "inner", Str.ofString "outer"] (O := O) (LW.take O (off_cons' (Nat.ne_of_gt hsB) (off_cons' (Nat.ne_of_gt hDs) fxS)) ho2 (Ev.name rfl rfl) Ev.int fun k' v' o3 hv' hk0' hk3' ho3 => ?_)
    refine ⟨rfl, k'.toNat, by rw [show ((k'.toNat : Nat) : Int) = k' by omega]; exact hv', by omega, InnerJ c.w src B D fx, ⟨o3, oB, oD, [], [], [], rfl, ho3, hB, hD, .nil, .nil, Nat.le_refl _⟩, ?_, ?_⟩
    · clear hB hD hP hO hcP hcO
      rintro i2 tt2 us2 nx2 own2 hi2 hoff2 ⟨o4, oB, oD, kB, kD, cc, rfl, ho4, hB, hD, hcB, hcD, hlen2⟩
      have hoff2' : ∀ p ∈ own2, ∀ b ∈ src :: B :: D :: fx.map (·.1), p.1 ≠ b := hoff2
      have f2S : Off src (fx ++ own2) := off_app fxS fun p hp => hoff2' p hp _ (.head _)
      have f2B : Off B (fx ++ own2) := off_app fxB fun p hp => hoff2' p hp _ (.tail _ (.head _))
      have f2D : Off D (fx ++ own2) := off_app fxD fun p hp => hoff2' p hp _ (.tail _ (.tail _ (.head _)))
      have g : ∀ p ∈ fx, p ∈ fx ++ own2 := fun p hp => List.mem_append_left _ hp
      have hkB := hcB.length
      have hkD := hcD.length
      show LW _ _ _ ((src, o4) :: (B, oB) :: (D, oD) :: (fx ++ own2)) _ _
      have oS2 := off_cons' (o := oB) (Nat.ne_of_gt hsB) (off_cons' (o := oD) (Nat.ne_of_gt hDs) f2S)
      refine St.pair (LW.one O oS2 ho4 (Ev.name rfl rfl) (Ix.cons Ev.int (Ix.cons Ev.int (Ix.cons Ev.int (Ix.nil)))) fun y1 w1 o5 hw1 _ ho5 => LW.one O oS2 ho5 (Ev.name rfl rfl) (Ix.cons Ev.int (Ix.cons Ev.int (Ix.nil))) fun y2 w2 o6 hw2 _ ho6 => ?_)
      obtain ⟨s1, rfl⟩ := hw1
      obtain ⟨s2, rfl⟩ := hw2
      refine LW.cons (LW.assign_sub (LW.name rfl (Ev.go (V := Is (.ref D)) (Ev.sub (V := Is (.ref T)) (Ev.sub (V := Is (.ref O')) (W := Is (.int (1 + (i : Int)) tt)) (Ev.name rfl rfl) (Ev.name rfl rfl) fun _ _ e1 e2 => by
          cases e1; cases e2
          exact fun s Q E F N q => kda_item (knd := PySem.intKind _ _) N (.tail _ (.tail _ (.tail _ (g _ mO)))) hO' (intKind_is _ _ _ _) (valueAt_stored _ _ _) (q _ s.heap _ _ _ F N ⟨rfl, rfl, rfl⟩)) Ev.int fun _ _ e1 ⟨y, e2⟩ => by
          cases e1; subst e2
          exact fun s Q E F N q => kba_turn (value' := PySem.Expr.Name (PySem.Str.ofString "_") ⟨0, 0, 0, 0⟩) (fun _ => rfl) (item_at N (.tail _ (.tail _ (.tail _ (g _ mT)))) (j := 1) rfl rfl (by decide) (by decide) (q _ s.heap s.toks _ _ F N ⟨rfl, rfl, rfl⟩))) fun _ e => ?_)))
      cases e
      refine LW.name rfl (LW.drop (n := (D, oD) :: (src, o6) :: (B, oB) :: (fx ++ own2)) (by repeat' (first | exact List.Mem.head _ | exact sub_refl _ | refine sub_cons ?_ ?_ | refine sub_tail ?_ | refine List.Mem.tail _ ?_)) (LW.set_dict (.head (off_cons' (Nat.ne_of_lt hDs) (off_cons' (Nat.ne_of_gt hBD) f2D))) hD (by omega) fun oD' hD' => ?_))
      obtain ⟨td2, r1, r2, r3, nT1, nT2⟩ := id hTf
      refine St.expr_ (LW.meth O (me_268_set_inner _) (Ev.name rfl rfl) (.tail _ (.tail _ (.tail _ (g _ nT1)))) (.tail _ (.tail _ (.tail _ (g _ nT2)))) rfl (LW.args_cons (LW.name rfl (LW.args_cons (LW.name rfl (LW.args_cons (LW.name rfl (LW.args_nil ?_))))))))
      have up : ∀ p ∈ fx, p ∈ (D, oD') :: (src, o6) :: (fx ++ own2) := fun p hp => .tail _ (.tail _ (g p hp))
      refine LW.drop (n := (B, oB) :: (D, oD') :: (src, o6) :: (fx ++ own2)) (by repeat' (first | exact List.Mem.head _ | exact sub_refl _ | refine sub_cons ?_ ?_ | refine sub_tail ?_ | refine List.Mem.tail _ ?_)) (LW.call O (set_inner_g (off_cons' (Nat.ne_of_lt hBD) (off_cons' (Nat.ne_of_lt hsB) f2B)) (hTf.mono up) (up _ mP) hP' loP (valueAt_stored _ _ _) (up _ ma) (up _ md) hB (by omega)) fun v n' ⟨oB', ⟨e1, hB'⟩, e2⟩ => ?_)
      subst e1; subst e2
      exact LW.nil ⟨.inl ⟨[_, _], rfl, rfl⟩, (src, o6) :: (B, oB') :: (D, oD') :: fx, sub_cons (.tail _ (.tail _ (.head _))) (sub_cons (.head _) (sub_cons (.tail _ (.head _)) fun p hp => .tail _ (.tail _ (.tail _ (g p hp))))), fun p hp => .tail _ (.tail _ (.tail _ (List.mem_append_right _ hp))), hoff2',
        o6, oB', oD', _, _, putK cc y1 y2, rfl, ho6, hB', hD', hcB.put ⟨_, rfl⟩, hcD.put ⟨_, rfl⟩, Nat.le_trans (putK_length _ _ _) (Nat.succ_le_succ hlen2)⟩
    · rintro us2 nx2 hus2 ⟨o4, oB2, oD2, kB, kD, cc, rfl, ho4, hB2, hD2, hcB, hcD, hlen2⟩
      subst hfx; subst hR
      exact LW.nil ⟨.drop rfl hus2, built_next ho4 hP' hO' hB2 hD2 hcB hcD loB loD hcP hcO hlen htl hoff' hDR hDO hTD hTd lda laB⟩
  · clear hP hO
    rintro us nx _ ⟨o1, oP, oO, kP, kO, cfg, tl, rfl, ho1, hP, hO, hcP, hcO, hlen, htl⟩
    refine St.ret_ (LW.less (LW.tuple (LW.args_cons (LW.name rfl (LW.args_cons (LW.name rfl (LW.args_nil (LW.newTuple (fun T lT => ?_) (show 2 ≤ sizeLine by decide)))))))))
    have lO := lT _ (.tail _ (.tail _ (.head _)))
    have lTO : @LT.lt Nat _ O' T := lO
    clear lT lO
    subst hfix
    have hsub : ∀ p ∈ tl, p ∈ (T, tupOf [.ref t, .ref O'] 0) :: (P, oP) :: (O', oO) :: (t, instObj 268 td) :: (td, tunDict c.w k1 k2 k3 P I S) :: (tl ++ r) := fun p hp => .tail _ (.tail _ (.tail _ (.tail _ (.tail _ (List.mem_append_left _ hp)))))
    refine ⟨(src, o1) :: (S, oS) :: (I, oI) :: (T, tupOf [.ref t, .ref O'] 0) :: (P, oP) :: (O', oO) :: (t, instObj 268 td) :: (td, tunDict c.w k1 k2 k3 P I S) :: (tl ++ r), ?_, o1, oI, oS, 0, T, t, P, I, S, O', cfg, (T, tupOf [.ref t, .ref O'] 0) :: (P, oP) :: (O', oO) :: (t, instObj 268 td) :: (td, tunDict c.w k1 k2 k3 P I S) :: (tl ++ r), rfl, ho1, .head _,
      ⟨td, k1, k2, k3, .tail _ (.tail _ (.tail _ (.head _))), .tail _ (.tail _ (.tail _ (.tail _ (.head _))))⟩, ⟨P, oP, kP, rfl, .tail _ (.head _), hP, loP, hcP.mono fun v b h => PortIn.mono hsub h⟩, ⟨O', oO, kO, rfl, .tail _ (.tail _ (.head _)), hO, loO, hcO.mono fun v b h => OwnRow.mono hsub h⟩, hI, loI, hS, loS, by omega, l5, fun p hp => .tail _ (.tail _ (.tail _ (.tail _ (.tail _ (List.mem_append_right _ hp))))), ?_, rfl⟩
    · have m : ∀ p ∈ (S, oS) :: (I, oI) :: (t, instObj 268 td) :: (td, tunDict c.w k1 k2 k3 P I S) :: r, p ∈ (T, tupOf [.ref t, .ref O'] 0) :: (src, o1) :: (P, oP) :: (O', oO) :: (tl ++ (S, oS) :: (I, oI) :: (t, instObj 268 td) :: (td, tunDict c.w k1 k2 k3 P I S) :: r) := fun p hp => .tail _ (.tail _ (.tail _ (.tail _ (List.mem_append_right _ hp))))
      refine sub_cons (.tail _ (.head _)) (sub_cons (m _ (.head _)) (sub_cons (m _ (.tail _ (.head _))) (sub_cons (.head _) (sub_cons (.tail _ (.tail _ (.head _))) (sub_cons (.tail _ (.tail _ (.tail _ (.head _)))) (sub_cons (m _ (.tail _ (.tail _ (.head _)))) (sub_cons (m _ (.tail _ (.tail _ (.tail _ (.head _))))) fun p hp => ?_)))))))
      rcases List.mem_append.mp hp with hp | hp
      · exact .tail _ (.tail _ (.tail _ (.tail _ (List.mem_append_left _ hp))))
      · exact m p (.tail _ (.tail _ (.tail _ (.tail _ hp))))
    · refine List.forall_mem_cons.mpr ⟨?_, List.forall_mem_cons.mpr ⟨?_, List.forall_mem_cons.mpr ⟨?_, List.forall_mem_cons.mpr ⟨?_, List.forall_mem_cons.mpr ⟨?_, fun p hp => ?_⟩⟩⟩⟩⟩
      · exact ⟨Nat.ne_of_gt (by omega), Nat.ne_of_gt (by omega), Nat.ne_of_gt (by omega)⟩
      · exact ⟨Nat.ne_of_gt (by omega), Nat.ne_of_lt (by omega), Nat.ne_of_lt (by omega)⟩
      · exact ⟨Nat.ne_of_gt (by omega), Nat.ne_of_gt (by omega), Nat.ne_of_gt (by omega)⟩
      · exact ⟨Nat.ne_of_gt (by omega), Nat.ne_of_lt (by omega), Nat.ne_of_lt (by omega)⟩
      · exact ⟨Nat.ne_of_gt (by omega), Nat.ne_of_lt (by omega), Nat.ne_of_lt (by omega)⟩
      · rcases List.mem_append.mp hp with hp | hp
        · have : @LT.lt Nat _ O' p.1 := htl p hp
          exact ⟨Nat.ne_of_gt (by omega), Nat.ne_of_gt (by omega), Nat.ne_of_gt (by omega)⟩
        · have := hrd p hp
          exact ⟨hr p hp, Nat.ne_of_lt (by omega), Nat.ne_of_lt (by omega)⟩
end Mine
end
section
open PySem PySem.W PyProof.Rows PySem.Spec PySem.Calls PyProof.Rows.LCg
set_option Elab.async false
namespace Mine
section
variable {c : Ctx} {f : Fn} {l : Loc} {n r : Led} {x : Str} {v : Value} {pos pos' px p1 p2 p3 : Pos} {k k2 d u : Nat} {e e1 e2 : PySem.Expr} {V : Value → Prop} {CR : Addr} {o : Obj} {T : Led → Value → Prop}
/-- a name that a block within closes over -/
theorem Ev.cell (hc : c.cl.lookup x = some CR) (hm : (CR, o) ∈ n) (hd : o.data = .cell (some v)) (h : V v) (hk : f.cs.kind = .function := by rfl) (hx : (c.env f).kindOf x = some .cell := by rfl) (hb : (x == ("__debug__" : Str)) = false := by decide) : Ev c f l n (.Name x pos) V :=
  fun s Q E F N q => nameX_C N hc hm hd (q v s.heap s.toks l n F N ⟨h, rfl, rfl⟩) hk hx hb
theorem St.asgC {R : Flow → Loc → Led → Prop} {rest : List Stmt} {v₀ : Option Value} (hc : c.cl.lookup x = some CR) (ho : Off CR r) (hd : o.data = .cell v₀)
    (h : LW c f l ((CR, o) :: r) (eval e (c.env f)) (fun v l' n' => ∃ r', n' = r' ++ (CR, o) :: r ∧ (∀ p ∈ r', p.1 ≠ CR) ∧ ∀ o', o'.data = .cell (some v) → LW c f l' ((CR, o') :: (r' ++ r)) (execs rest (c.env f)) R))
    (hk : f.cs.kind = .function := by rfl) (hx : (c.env f).kindOf x = some .cell := by rfl) (hs : swapsWith e (some (.Name x pos')) pos.line (c.env f) = pure false := by rfl) :
    LW c f l ((CR, o) :: r) (execs (.Assign [.Name x pos'] e pos :: rest) (c.env f)) R :=
  LW.cons (fun s Q E F N q => wpAny_Assign_Name (h s _ E F N fun v h' tk l' n' F' N' ⟨r', e1, e2, e3⟩ => by
    subst e1
    exact storeX_C F' (fun p hp => N' p ((List.mem_cons.mp hp).elim (fun e => e ▸ List.mem_append_right _ (.head _)) fun hp => (List.mem_append.mp hp).elim (fun hp => List.mem_append_left _ hp) fun hp => List.mem_append_right _ (.tail _ hp))) hc (.head (off_app e2 ho)) hd (fun h2 o' F2 N2 d2 => q .next h2 _ l' _ F2 N2 (e3 o' d2)) hk hx) hs)
theorem LW.dictOf (O : c.Ok d u) {R : Value → Loc → Led → Prop} {D : Addr} {ys : List Value} {m : Nat} {ps : List (Int × Value)} (hl : (D, W.listOf ys.toArray m) ∈ n) (hp : PairsIn n ys ps) (hz : ps.length ≤ 1000)
    (h : ∀ d o, (∀ p ∈ n, @LT.lt Nat _ p.1 d) → (d == sysModules) = false → o.IsDictOf (IK c.w) (ps.foldl (fun c p => stored c p.1 p.2) []) → R (.ref d) l ((d, o) :: n)) : LW c f l n (PySem.call (.type "dict") [.ref D]) R :=
  fun s Q E F N q => dict_pairs rfl F N O.T.nolimit hl hp hz fun d h' o tk F' N' l1 lo hd => q _ h' tk l _ F' N' (h d o l1 lo hd)
end
section
variable {w : Wd} {A : Around} {s : Shared} {h₀ : Heap} {L : Addr} {m m₂ : Str → Option Value} {env : Env} {scope : Scope} {cl : List (Str × Addr)} {C I D : Addr} {oI oC : Obj} {ys : List Value} {tl base : Led} {e1 : PySem.Expr} {x : Str} {p1 pos : Pos} {k y : Int} {t : Tok} {kk i : Nat} {ps : List (Int × Value)} {cc : List (Int × Int)} {ns : List Int} {S : Led → Prop}
/-- an element of a reversal -/
theorem elt_rev {E' : Value → Shared → Prop} {h : Heap} {tk : Nat} 
    (he1 : ∀ (s : Shared) (Q : Value → Shared → Prop), News h₀ L s.heap ((I, oI) :: (C, oC) :: (D, LCg.lst ys) :: (tl ++ base)) → (∀ t tk, Q (.int y t) { s with toks := tk }) → wpAny (model PySem.Challenge.rw_pb0547_01.row.prog w.toWorld) A (eval e1 (compEnvC scope cl C env)) Q E' s)
    (hS : ∀ p nw, S nw → S (p :: nw)) (hSb : S (tl ++ base)) (hk : ns[i]? = some k) (hy : look cc k = some y) (hps : PairsIn (tl ++ base) ys ps) (hkv : KvRel IsInt ps ((ns.take i).map fun k => ((look cc k).getD 0, k))) (hlt : ∀ p ∈ tl, ∀ q ∈ base, @LT.lt Nat _ q.1 p.1)
    (hC : LCg.NsObj oC m₂) (hx : m₂ x = some (.int k t)) (F₁ : Fr h₀ L h m) (N₁ : News h₀ L h ((I, oI) :: (C, oC) :: (D, LCg.lst ys) :: (tl ++ base))) (hoff : LCg.Off3 I C D (tl ++ base))
    (s0 : starEach [e1, .Name x p1] (compEnvC scope cl C env) = (false, eval e1 (compEnvC scope cl C env)) :: starEach [.Name x p1] (compEnvC scope cl C env)) (s1 : starEach [.Name x p1] (compEnvC scope cl C env) = (false, eval (.Name x p1) (compEnvC scope cl C env)) :: starEach [] (compEnvC scope cl C env))
    (hkf : (compEnvC scope cl C env).scope.kind = .function) (hkx : (compEnvC scope cl C env).kindOf x = some .local) (hdx : (x == ("__debug__" : Str)) = false) :
    wpAny (model PySem.Challenge.rw_pb0547_01.row.prog w.toWorld) A (eval (.Tuple [e1, .Name x p1] kk pos) (compEnvC scope cl C env)) (LCg.CompEnd h₀ L m { s with heap := h, toks := tk } I oI C oC D (LCg.lst ys) S (fun y nw => rev_J base cc ns (i + 1) (ys ++ [y]) nw)) E' { s with heap := h, toks := tk } := by
  refine Tuple_ (PyProof.Rows.args_cons (he1 _ _ N₁ fun t1 tk1 => PyProof.Rows.args_cons (LCgL.ld_own N₁ (.tail _ (.head _)) hC hx (PyProof.Rows.args_nil ?_) hkf hkx hdx) s1) s0)
  refine kup_newTuple (s := { s with heap := h, toks := tk1 }) F₁ N₁ (fun D' h' F' N' l1 => ?_) (show 2 ≤ sizeLine by decide)
  exact rev_end F' N' ⟨l1 _ (.head _), l1 _ (.tail _ (.head _)), l1 _ (.tail _ (.tail _ (.head _))), allLt_of fun p hp => l1 p (.tail _ (.tail _ (.tail _ hp)))⟩ hoff (hS _ _ hSb) hps hkv hlt hk hy
end
/-- the reversal of a dict, by some order of its keys -/
def RevIn (w : Wd) (cc : List (Int × Int)) (n : Led) (v : Value) : Prop := ∃ ns : List Int, ns.Perm (cc.map (·.1)) ∧ IntDict w n v (revOf cc ns)
section
variable {c : Ctx} {f : Fn} {l : Loc} {n : Led} {x : Str} {pos pos' px p1 p2 p3 pa pb pc pd pe : Pos} {kk d u : Nat} {e1 iter : PySem.Expr} {cc : List (Int × Int)} {scope : Scope} {cl : List (Str × Addr)}
/-- dict([(e1, x) for x in sorted(rows)]) -/
theorem Ex.revSorted {rows : PySem.Expr} (O : c.Ok d u) (hR : Ev c f l n rows (fun v => IntDict c.w n v cc)) (hz : cc.length ≤ 10)
    (he1 : ∀ (C : Addr) (k y : Int) (t : Tok) (oC : Obj) (m₂ : Str → Option Value) (nw : Led) (s : Shared) (Q E : Value → Shared → Prop), (∀ p ∈ n, p ∈ nw) → look cc k = some y → LCg.NsObj oC m₂ → m₂ x = some (.int k t) → News c.h₀ c.L s.heap ((C, oC) :: nw) → (∀ t tk, Q (.int y t) { s with toks := tk }) → wpAny c.M (c.A f) (eval e1 (compEnvC scope cl C (c.env f))) Q E s)
    (s0 : ∀ C, starEach [e1, .Name x p1] (compEnvC scope cl C (c.env f)) = (false, eval e1 (compEnvC scope cl C (c.env f))) :: starEach [.Name x p1] (compEnvC scope cl C (c.env f)) := by intro _; rfl) (s1 : ∀ C, starEach [.Name x p1] (compEnvC scope cl C (c.env f)) = (false, eval (.Name x p1) (compEnvC scope cl C (c.env f))) :: starEach [] (compEnvC scope cl C (c.env f)) := by intro _; rfl)
    (hkf : ∀ C, (compEnvC scope cl C (c.env f)).scope.kind = .function := by intro _; rfl) (hkx : ∀ C, (compEnvC scope cl C (c.env f)).kindOf x = some .local := by intro _; rfl) (hdx : (x == ("__debug__" : Str)) = false := by decide)
    (hclos : closureFor scope (c.env f) = pure cl) (hcell : ∀ y ∈ scope.names, y.2 ≠ .cell := by decide) (hks : scope.kind = .function := by rfl) (hnames : ∀ y ∈ scope.names, y.2 = .local → scope.names.lookup y.1 = some .local := by decide) (hx : scope.names.lookup x = some .local := by rfl)
    (hs : ∀ y, foldedSetIterable (.Call (.Name (Str.ofString "sorted") pa) [rows] [] pb) (c.env f) y = pure y := by intro _; rfl)
    (hk : f.cs.kind = .function := by rfl) (hxd : (c.env f).kindOf (Str.ofString "dict") = some .globalImplicit := by rfl) (hxs : (c.env f).kindOf (Str.ofString "sorted") = some .globalImplicit := by rfl)
    (he : eval (.Call (.Name (Str.ofString "dict") pc) [.ListComp (.Tuple [e1, .Name x p1] kk p2) [⟨.Name x px, .Call (.Name (Str.ofString "sorted") pa) [rows] [] pb, [], 0⟩] scope p3] [] pd) (c.env f) = (do callWith pd (← eval (.Name (Str.ofString "dict") pc) (c.env f)) [] (backTo pd (starEach [.ListComp (.Tuple [e1, .Name x p1] kk p2) [⟨.Name x px, .Call (.Name (Str.ofString "sorted") pa) [rows] [] pb, [], 0⟩] scope p3] (c.env f))) (backToKw pd (keywordEach [] (c.env f)))) := by rfl)
    (hes : eval (.Call (.Name (Str.ofString "sorted") pa) [rows] [] pb) (c.env f) = (do callWith pb (← eval (.Name (Str.ofString "sorted") pa) (c.env f)) [] (backTo pb (starEach [rows] (c.env f))) (backToKw pb (keywordEach [] (c.env f)))) := by rfl)
    (h1 : starEach [.ListComp (.Tuple [e1, .Name x p1] kk p2) [⟨.Name x px, .Call (.Name (Str.ofString "sorted") pa) [rows] [] pb, [], 0⟩] scope p3] (c.env f) = (false, eval (.ListComp (.Tuple [e1, .Name x p1] kk p2) [⟨.Name x px, .Call (.Name (Str.ofString "sorted") pa) [rows] [] pb, [], 0⟩] scope p3) (c.env f)) :: starEach [] (c.env f) := by rfl)
    (h2 : starEach [rows] (c.env f) = (false, eval rows (c.env f)) :: starEach [] (c.env f) := by rfl) :
    Ex c f l n (.Call (.Name (Str.ofString "dict") pc) [.ListComp (.Tuple [e1, .Name x p1] kk p2) [⟨.Name x px, .Call (.Name (Str.ofString "sorted") pa) [rows] [] pb, [], 0⟩] scope p3] [] pd) (fun n' v => RevIn c.w cc n' v) := by
  refine LW.callT O (b_dict _) (LW.args_cons (R := fun vs l' n' => LW c f l' n' (PySem.call (.type "dict") vs) (fun v l' n' => RevIn c.w cc n' v ∧ Grew n n' ∧ l' = l)) ?_ h1) hk hxd (by decide) he h1 rfl
  refine fun s Q E F N q => LCg.ListComp_U F hclos hcell hks hnames hx ?_ hs
  have key : LW c f l n (spliced (backTo pb (starEach [rows] (c.env f)))) (fun vs l' n' => (∃ v, vs = [v] ∧ IntDict c.w n v cc) ∧ l' = l ∧ n' = n) := LW.args_cons (Ev.go hR fun v hv => LW.args_nil ⟨⟨v, rfl, hv⟩, rfl, rfl⟩) h2
  refine Call_ (nameX_B F O.X (topRead_of O.T) (b_sorted c.w).1 (b_sorted c.w).2.1 (b_sorted c.w).2.2 (callWith_builtin1 (key s _ E F N fun vs h' tk l' n' F' N' ⟨⟨v, e1, D, o, kvs, e2, m1, m2, m3, m4⟩, e3, e4⟩ => ?_) h2 rfl) hk hxs (by decide)) hes
  subst e1; subst e2; subst e3; subst e4
  have hlen := m4.length
  refine sorted_dict (s := { s with heap := h', toks := tk }) rfl F' N' m1 m2 m3 (by omega) fun B vs ns c' h2 tk2 F2 N2 lB hI hP => ?_
  rw [m4.keys] at hP
  have hnl : ns.length = cc.length := by have := hP.length_eq; simpa using this
  refine LCg.CompSrc.ledger rfl F2 N2 (.head _) (by have := hI.length; rw [sizeLine_eq]; simp only [List.size_toArray]; omega) fun g => ?_
  refine comp_rev (c := cc) hI (fun k hk => m4.look_key (by rw [m4.keys]; exact hP.mem_iff.mp hk)) ?_ ?_
  · intro i k t y ys tl ps I oI C oC D' m₂ h tk E' hk hy hps hkv hlt hC hx F₁ N₁ hoff _
    exact elt_rev (fun s Q N q => he1 C k y t oC m₂ (tl ++ (B, _) :: n') s Q E' (fun p hp => List.mem_append_right _ (.tail _ hp)) hy hC hx (fun p hp => N p ((List.mem_cons.mp hp).elim (fun e => e ▸ .tail _ (.head _)) fun hp => .tail _ (.tail _ (.tail _ hp)))) q) (fun p nw h => h.elim .inl fun ⟨b, h⟩ => .inr ⟨b, .tail _ h.1, h.2⟩) (.inr ⟨_, List.mem_append_right _ (.head _), rfl, _, rfl⟩) hk hy hps hkv hlt hC hx F₁ N₁ hoff (s0 C) (s1 C) (hkf C) (hkx C) hdx
  · intro ys tl ps hps hkv hpl hlt
    intro D' h3 tk3 F3 N3 _
    refine q (.ref D') h3 tk3 l' _ F3 N3 (LW.args_nil (LW.less (LW.dictOf O (m := _) (.head _) (hps.mono fun p hp => .tail _ hp) (by omega) fun d o ld lo hd => ?_)))
    exact ⟨(d, o) :: n', sub_cons (.head _) fun p hp => .tail _ (.tail _ (List.mem_append_right _ (.tail _ hp))), ⟨ns, hP, d, o, _, rfl, .head _, hd, lo, hkv⟩, Grew.cons fun p hp => ld p (.tail _ (List.mem_append_right _ (.tail _ hp))), rfl⟩
/-- dict([(e1, x) for x in rows]) -/
theorem Ex.revOwn {rows : PySem.Expr} (O : c.Ok d u) (hR : Ev c f l n rows (fun v => IntDict c.w n v cc)) (hz : cc.length ≤ 10)
    (he1 : ∀ (C : Addr) (k y : Int) (t : Tok) (oC : Obj) (m₂ : Str → Option Value) (nw : Led) (s : Shared) (Q E : Value → Shared → Prop), (∀ p ∈ n, p ∈ nw) → look cc k = some y → LCg.NsObj oC m₂ → m₂ x = some (.int k t) → News c.h₀ c.L s.heap ((C, oC) :: nw) → (∀ t tk, Q (.int y t) { s with toks := tk }) → wpAny c.M (c.A f) (eval e1 (compEnvC scope cl C (c.env f))) Q E s)
    (s0 : ∀ C, starEach [e1, .Name x p1] (compEnvC scope cl C (c.env f)) = (false, eval e1 (compEnvC scope cl C (c.env f))) :: starEach [.Name x p1] (compEnvC scope cl C (c.env f)) := by intro _; rfl) (s1 : ∀ C, starEach [.Name x p1] (compEnvC scope cl C (c.env f)) = (false, eval (.Name x p1) (compEnvC scope cl C (c.env f))) :: starEach [] (compEnvC scope cl C (c.env f)) := by intro _; rfl)
    (hkf : ∀ C, (compEnvC scope cl C (c.env f)).scope.kind = .function := by intro _; rfl) (hkx : ∀ C, (compEnvC scope cl C (c.env f)).kindOf x = some .local := by intro _; rfl) (hdx : (x == ("__debug__" : Str)) = false := by decide)
    (hclos : closureFor scope (c.env f) = pure cl) (hcell : ∀ y ∈ scope.names, y.2 ≠ .cell := by decide) (hks : scope.kind = .function := by rfl) (hnames : ∀ y ∈ scope.names, y.2 = .local → scope.names.lookup y.1 = some .local := by decide) (hx : scope.names.lookup x = some .local := by rfl)
    (hs : ∀ y, foldedSetIterable rows (c.env f) y = pure y := by intro _; rfl)
    (hk : f.cs.kind = .function := by rfl) (hxd : (c.env f).kindOf (Str.ofString "dict") = some .globalImplicit := by rfl)
    (he : eval (.Call (.Name (Str.ofString "dict") pc) [.ListComp (.Tuple [e1, .Name x p1] kk p2) [⟨.Name x px, rows, [], 0⟩] scope p3] [] pd) (c.env f) = (do callWith pd (← eval (.Name (Str.ofString "dict") pc) (c.env f)) [] (backTo pd (starEach [.ListComp (.Tuple [e1, .Name x p1] kk p2) [⟨.Name x px, rows, [], 0⟩] scope p3] (c.env f))) (backToKw pd (keywordEach [] (c.env f)))) := by rfl)
    (h1 : starEach [.ListComp (.Tuple [e1, .Name x p1] kk p2) [⟨.Name x px, rows, [], 0⟩] scope p3] (c.env f) = (false, eval (.ListComp (.Tuple [e1, .Name x p1] kk p2) [⟨.Name x px, rows, [], 0⟩] scope p3) (c.env f)) :: starEach [] (c.env f) := by rfl) :
    Ex c f l n (.Call (.Name (Str.ofString "dict") pc) [.ListComp (.Tuple [e1, .Name x p1] kk p2) [⟨.Name x px, rows, [], 0⟩] scope p3] [] pd) (fun n' v => RevIn c.w cc n' v) := by
  refine LW.callT O (b_dict _) (LW.args_cons (R := fun vs l' n' => LW c f l' n' (PySem.call (.type "dict") vs) (fun v l' n' => RevIn c.w cc n' v ∧ Grew n n' ∧ l' = l)) ?_ h1) hk hxd (by decide) he h1 rfl
  refine fun s Q E F N q => ListComp_D F hclos hcell hks hnames hx (hR s _ E F N fun v h' tk l' n' F' N' ⟨⟨D, o, kvs, e2, m1, m2, m3, m4⟩, e3, e4⟩ => ?_) hs
  subst e2; subst e3; subst e4
  have hlen := m4.length
  refine ⟨D, o, kvs, n', rfl, rfl, F', N', m1, m2, m3, by omega, ?_⟩
  rintro s₂ ⟨g, rfl⟩
  refine comp_revD (c := cc) m4 ?_ ?_
  · intro i k t y ys tl ps I oI C oC D' m₂ h tk E' hk hy hps hkv hlt hC hx F₁ N₁ hoff _
    exact elt_rev (fun s Q N q => he1 C k y t oC m₂ (tl ++ n') s Q E' (fun p hp => List.mem_append_right _ hp) hy hC hx (fun p hp => N p ((List.mem_cons.mp hp).elim (fun e => e ▸ .tail _ (.head _)) fun hp => .tail _ (.tail _ (.tail _ hp)))) q) (fun p nw h => .tail _ h) (List.mem_append_right _ m1) hk hy hps hkv hlt hC hx F₁ N₁ hoff (s0 C) (s1 C) (hkf C) (hkx C) hdx
  · intro ys tl ps hps hkv hpl hlt
    rw [m4.keys] at hkv
    intro D' h3 tk3 F3 N3 _
    refine q (.ref D') h3 tk3 l' _ F3 N3 (LW.args_nil (LW.less (LW.dictOf O (m := _) (.head _) (hps.mono fun p hp => .tail _ hp) (by omega) fun d o ld lo hd => ?_)))
    exact ⟨(d, o) :: n', sub_cons (.head _) fun p hp => .tail _ (.tail _ (List.mem_append_right _ hp)), ⟨_, List.Perm.refl _, d, o, _, rfl, .head _, hd, lo, hkv⟩, Grew.cons fun p hp => ld p (.tail _ (List.mem_append_right _ hp)), rfl⟩
end
end Mine
end
section
open PySem PySem.W PyProof.Rows PySem.Spec PySem.Calls PyProof.Rows.LCg
set_option Elab.async false
namespace Mine
/-- a contract from the walk of a body that has cells -/
theorem Does.enterC {w : Wd} {g : Addr} {args : List Value} {news : Led} {dep un : Nat} {R : Value → Led → Prop} {name qual : Str} {params : Arguments} {body : List Stmt} {scope : Scope} {dV kV doc pm cdv ct oc : Value} {an od : Option Addr} {osl : Array (Option Value)} {binds : List (Str × Value)} {l : Loc}
    (ho : w.K.lookup g = some ⟨oc, od, .func (fnOf name qual params body scope dV kV doc pm an cdv ct), osl⟩) (hcd : codeIn w.K cdv qual = true)
    (hbind : bindArgs (fnOf name qual params body scope dV kV doc pm an cdv ct) ⟨args, []⟩ = pure binds) (hkind : (binds.all fun y => scope.names.lookup y.1 == some .local || scope.names.lookup y.1 == some .cell) = true)
    (hnd : ((cellsFrom 0 scope.names []).map (·.1)).Nodup) (hl : bindL (fun y => scope.names.lookup y) binds (fun _ => none) = lk l)
    (hco : scope.isCoroutine = false) (hgen : scope.isGenerator = false) (hk : scope.kind = .function)
    (H : ∀ (c : Ctx) (cells : Led), c.w = w → c.cl = cellsFrom (c.L + 1) scope.names [] → c.Ok dep un → CellsAre (bindC (fun y => scope.names.lookup y) binds fun _ => none) (cellsFrom (c.L + 1) scope.names []) cells → (∀ p ∈ news, @LT.lt Nat _ p.1 c.L) → LW c ⟨qual, scope, g, cdv⟩ l (cells ++ news) (execs body (c.env ⟨qual, scope, g, cdv⟩)) (Out R)) :
    Does w g args news (dep + 1) (un + 3) R := by
  intro mean mg mb dp u gd cn cs ca ccd cl outer A₀ base h₀ L m s Q E B F X N T hk' hd hu hret
  refine wpAny_call (code_defC B F X N T rfl rfl hk' ho hcd (by show dp < _; omega) (BindsTo.of_eq hbind) hkind hnd (fun g' L' h₁ tk cells FG F' N' Y' B' X' T' l1 => ?_) hco hgen hk)
  exact H ⟨w, mean, mg, mb, dp + 1, u + 3, gd, L', cellsFrom (L' + 1) scope.names [], _, _, base, g'⟩ cells rfl rfl ⟨B', X', T', by show dp + 1 + dep < _; omega, by show u + 3 + un < _; omega⟩ Y' l1 _ _ ⟨_, by passes_own⟩ (hl ▸ F') N'
    fun fl h' tk l' n' F'' N'' r => leaveK_ F'' N'' fun F3 N3 => hret _ n' h' tk F3 N3 r
theorem Does.enterCF {w : Wd} {g : Addr} {args : List Value} {news : Led} {dep un : Nat} {R : Value → Led → Prop} {st : Stmt} {q : Str} {binds : List (Str × Value)} {l : Loc} (hf : FnAt w.K g st q)
    (hbind : ∀ doc pm an cdv ct, bindArgs (fnOf (fnN st) q (fnP st) (fnB st) (fnS st) .none .none doc pm an cdv ct) ⟨args, []⟩ = pure binds) (hkind : (binds.all fun y => (fnS st).names.lookup y.1 == some .local || (fnS st).names.lookup y.1 == some .cell) = true)
    (hnd : ((cellsFrom 0 (fnS st).names []).map (·.1)).Nodup) (hl : bindL (fun y => (fnS st).names.lookup y) binds (fun _ => none) = lk l)
    (hco : (fnS st).isCoroutine = false) (hgen : (fnS st).isGenerator = false) (hk : (fnS st).kind = .function)
    (H : ∀ (c : Ctx) (cdv : Value) (cells : Led), c.w = w → c.cl = cellsFrom (c.L + 1) (fnS st).names [] → c.Ok dep un → CellsAre (bindC (fun y => (fnS st).names.lookup y) binds fun _ => none) (cellsFrom (c.L + 1) (fnS st).names []) cells → (∀ p ∈ news, @LT.lt Nat _ p.1 c.L) → LW c ⟨q, fnS st, g, cdv⟩ l (cells ++ news) (execs (fnB st) (c.env ⟨q, fnS st, g, cdv⟩)) (Out R)) :
    Does w g args news (dep + 1) (un + 3) R := by
  obtain ⟨doc, pm, cdv, ct, oc, an, od, osl, ho, hcd⟩ := hf
  exact Does.enterC ho hcd (hbind doc pm an cdv ct) hkind hnd hl hco hgen hk fun c => H c cdv
theorem IntDict.off {w : Wd} {C : Addr} {o : Obj} {x : Option Value} {n r : Led} {v : Value} {cc : List (Int × Int)} (hd : o.data = .cell x) (hs : ∀ p ∈ n, p ∈ (C, o) :: r) (h : IntDict w n v cc) : IntDict w r v cc := by
  obtain ⟨d, o', kvs, e, m, h1, h2⟩ := h
  refine ⟨d, o', kvs, e, ?_, h1, h2⟩
  rcases List.mem_cons.mp (hs _ m) with q | q
  · obtain ⟨_, e2⟩ := Prod.mk.inj q
    subst e2
    obtain ⟨es, ep, _, he, _⟩ := h1
    rw [hd] at he; cases he
  · exact q
set_option maxRecDepth 100000 in
set_option maxHeartbeats 8000000 in
theorem goes_out_g {w : Wd} {t P I S : Addr} {st : List (Int × Bool)} {ins : List (Int × List (Int × Int))} {fr : FrameD} {fv : Value} {port : Int} {tp : Tok} {n : Led} (hT : TunAt w n t P I S) (hS : BoolDict w n (.ref S) st) (hI : DictIn w (IntDict w) n (.ref I) ins) (hf : FrameIn w n fv fr) (hz : fr.tags.length ≤ 800) (hsh : (rowsOf ins port).length ≤ 10) :
  DoesG w 258 [.ref t, .int port tp, fv] n 90 900 (fun n' r => ∃ ns : List Int, ns.Perm ((rowsOf ins port).map (·.1)) ∧ MaybeFrame w n' r (turnedF st port (revOf (rowsOf ins port) ns) fr)) := by
  refine Does.enterCF (dep := 89) (un := 897) (binds := [(Str.ofString "self", .ref t), (Str.ofString "port", .int port tp), (Str.ofString "frame", fv)]) (l := [(Str.ofString "frame", fv), (Str.ofString "port", .int port tp), (Str.ofString "self", .ref t)]) (fn_258 _) (fun _ _ _ _ _ => rfl) rfl (by decide +kernel) (by rw [lk_cons, lk_cons, lk_cons]; rfl) rfl rfl rfl ?_
  intro c cdv cells hw hcl O hY l1
  subst hw
  obtain ⟨o, e, hd⟩ := CellsAre.one (n := Str.ofString "rows") (c := c.L + 1) hY
  subst e
  have hd' : o.data = .cell none := hd
  have hcl' : c.cl = [(Str.ofString "rows", c.L + 1)] := hcl
  have hlk : c.cl.lookup (Str.ofString "rows") = some (c.L + 1) := by rw [hcl']; rfl
  have hoC : Off (c.L + 1) n := fun p hp => Nat.ne_of_lt (Nat.lt_succ_of_lt (l1 p hp))
  have gC : Grew n ((c.L + 1, o) :: n) := Grew.cons fun p hp => Nat.lt_succ_of_lt (l1 p hp)
  refine St.asgC (r := n) hlk hoC hd' (Ex.go (Ex.getNew O (Ev.tun_inside O (hT.mono gC.sub) (Ev.name rfl rfl) (hI.mono (fun _ _ h => h.mono gC.sub) gC.sub)) (Ev.name rfl ⟨_, rfl⟩)) fun rv n1 hr g1 => ?_)
  obtain ⟨tl, hlt, rfl⟩ := g1
  refine ⟨tl, rfl, fun p hp => Nat.ne_of_gt (hlt p hp _ (.head _)), fun o' hd2 => ?_⟩
  have hr' : IntDict c.w (tl ++ n) rv (rowsOf ins port) := IntDict.off (C := c.L + 1) (r := tl ++ n) hd' (fun p hp => (List.mem_append.mp hp).elim (fun hp => .tail _ (List.mem_append_left _ hp)) fun hp => (List.mem_cons.mp hp).elim (fun e => e ▸ .head _) fun hp => .tail _ (List.mem_append_right _ hp)) hr
  have gN : ∀ p ∈ n, p ∈ (c.L + 1, o') :: (tl ++ n) := fun p hp => .tail _ (List.mem_append_right _ hp)
  have hr2 : IntDict c.w ((c.L + 1, o') :: (tl ++ n)) rv (rowsOf ins port) := hr'.mono fun p hp => .tail _ hp
  have g0 : Grew n ((c.L + 1, o') :: (tl ++ n)) := ⟨(c.L + 1, o') :: tl, fun p hp q hq => (List.mem_cons.mp hp).elim (fun e => e ▸ Nat.lt_succ_of_lt (l1 q hq)) fun hp => hlt p hp q (.tail _ hq), rfl⟩
  obtain ⟨d1, k1, k2, k3, m1, m2⟩ := id (hT.mono gN)
  refine St.ret_ (LW.meth O (me_268_turned _) (Ev.name rfl rfl) m1 m2 rfl (LW.args_cons (LW.name rfl (LW.args_cons (LW.name rfl (LW.args_cons (Ex.go (Ex.revSorted (cl := [(Str.ofString "rows", c.L + 1)]) O (Ev.cell hlk (.head _) hd2 hr2) hsh (fun C k y t oC m₂ nw s Q E hs hy hC hx N q => ?_) (hclos := ?_)) fun v3 n3 ⟨ns, hP, hD⟩ g3 =>
    LW.args_nil (LW.callGr O (turned_g (hT.mono fun p hp => g3.sub p (gN p hp)) (BoolDict.up (g0.trans g3) hS) hD (hf.mono fun p hp => g3.sub p (gN p hp)) hz) fun r n4 h4 g4 => ⟨⟨ns, hP, h4⟩, (g0.trans g3).trans g4⟩))))))))
  · obtain ⟨D, oD, kvs, e2, q1, q2, q3, q4⟩ := hr2
    obtain ⟨_, hv, ty, rfl⟩ := q4.some hy
    subst e2
    refine Subscript_ (lcf_cell N (by rfl) (.tail _ (hs _ (.head _))) hd2 (LCgL.ld_own N (.head _) hC hx ?_) rfl rfl)
    exact kda_item (knd := PySem.intKind _ _) N (.tail _ (hs _ q1)) q2 (intKind_is _ _ _ _) hv (q _ _)
  · obtain ⟨cw, mean, mg, mb, dp, u, gd, L, cl, outer, A₀, base, h₀⟩ := c
    dsimp only at hcl'
    subst hcl'
    rfl
end Mine
end
section
open PySem PySem.W PyProof.Rows PySem.Spec PySem.Calls PyProof.Rows.LCg
set_option Elab.async false
namespace Mine
theorem look_mem {β : Type} {c : List (Int × β)} {k : Int} {v : β} (h : look c k = some v) : (k, v) ∈ c := by
  simp only [look, Option.map_eq_some_iff] at h
  obtain ⟨p, hp, rfl⟩ := h
  have h1 := List.mem_of_find?_eq_some hp
  have h2 := List.find?_some hp
  have e : p.1 = k := by simpa using h2
  rw [← e]; exact h1
theorem putK_mem {β : Type} {c : List (Int × β)} {k : Int} {b : β} {p : Int × β} (h : p ∈ putK c k b) : p ∈ c ∨ p = (k, b) := by
  unfold putK at h
  split at h
  · obtain ⟨q, hq, e⟩ := List.mem_map.mp h
    split at e
    · rename_i hk; right; rw [← e, hk]
    · left; rw [← e]; exact hq
  · rcases List.mem_append.mp h with h | h
    · exact .inl h
    · exact .inr (List.mem_singleton.mp h)
theorem rev_fold {c : List (Int × Int)} : ∀ (ns : List Int) (acc : List (Int × Int)), (∀ k ∈ ns, ∃ y, look c k = some y) → (∀ p ∈ acc, look c p.2 = some p.1) →
    (∀ p ∈ (ns.map fun k => ((look c k).getD 0, k)).foldl (fun c p => putK c p.1 p.2) acc, look c p.2 = some p.1) ∧
    (∀ v, ((∃ k ∈ ns, look c k = some v) ∨ ∃ k, look acc v = some k) → ∃ k, look ((ns.map fun k => ((look c k).getD 0, k)).foldl (fun c p => putK c p.1 p.2) acc) v = some k) := by
  intro ns
  induction ns with
  | nil => exact fun acc _ ha => ⟨ha, fun v hv => hv.elim (fun ⟨_, h, _⟩ => nomatch h) id⟩
  | cons n ns ih =>
    intro acc hk ha
    obtain ⟨y, hy⟩ := hk n (.head _)
    have e : (look c n).getD 0 = y := by rw [hy]; rfl
    simp only [List.map_cons, List.foldl_cons, e]
    obtain ⟨h1, h2⟩ := ih (putK acc y n) (fun k h => hk k (.tail _ h)) (fun p hp => (putK_mem hp).elim (ha p) fun e => by rw [e]; exact hy)
    refine ⟨h1, fun v hv => h2 v ?_⟩
    rcases hv with ⟨k, hm, hkv⟩ | ⟨k, hkv⟩
    · rcases List.mem_cons.mp hm with rfl | hm
      · right
        rw [hy] at hkv; cases hkv
        exact ⟨k, by rw [look_put]; simp⟩
      · exact .inl ⟨k, hm, hkv⟩
    · right
      rw [look_put]
      split
      · exact ⟨_, rfl⟩
      · exact ⟨k, hkv⟩
section
variable {c : List (Int × Int)} {ns : List Int}
theorem rev_look_iff (hI : Inj c) (hk : ∀ k ∈ ns, ∃ y, look c k = some y) (ha : ∀ k y, look c k = some y → k ∈ ns) (v k : Int) : look (revOf c ns) v = some k ↔ look c k = some v := by
  obtain ⟨h1, h2⟩ := rev_fold ns [] hk (fun _ h => nomatch h)
  constructor
  · intro h; exact h1 _ (look_mem h)
  · intro h
    obtain ⟨k', hk'⟩ := h2 v (.inl ⟨k, ha k v h, h⟩)
    have := hI k k' v h (h1 _ (look_mem hk'))
    rw [this]; exact hk'
theorem rev_contains (hI : Inj c) (hk : ∀ k ∈ ns, ∃ y, look c k = some y) (ha : ∀ k y, look c k = some y → k ∈ ns) (x : Int) : ((revOf c ns).map (·.2)).contains x = (look c x).isSome := by
  obtain ⟨h1, _⟩ := rev_fold ns [] hk (fun _ h => nomatch h)
  rw [Bool.eq_iff_iff, List.contains_iff_mem]
  constructor
  · intro h
    obtain ⟨p, hp, e⟩ := List.mem_map.mp h
    have := h1 p hp
    rw [e] at this
    rw [this]; rfl
  · intro h
    obtain ⟨v, hv⟩ := Option.isSome_iff_exists.mp h
    exact List.mem_map.mpr ⟨(v, x), look_mem ((rev_look_iff hI hk ha v x).mpr hv), rfl⟩
end
/-- the keys of the data, in another order -/
theorem keys_perm {c : List (Int × Int)} {ns : List Int} (hp : ns.Perm (c.map (·.1))) : (∀ k ∈ ns, ∃ y, look c k = some y) ∧ ∀ k y, look c k = some y → k ∈ ns := by
  constructor
  · intro k hk
    have h1 := hp.mem_iff.mp hk
    obtain ⟨p, hp, e⟩ := List.mem_map.mp h1
    have : (look c k).isSome := by
      simp only [look, Option.isSome_map, List.find?_isSome]
      exact ⟨p, hp, by simp [e]⟩
    exact Option.isSome_iff_exists.mp this
  · intro k y h
    exact hp.mem_iff.mpr (List.mem_map.mpr ⟨(k, y), look_mem h, rfl⟩)
theorem turnedB_rev {c : List (Int × Int)} {ns ms : List Int} (hI : Inj c) (hn : ns.Perm (c.map (·.1))) (hm : ms.Perm (c.map (·.1))) (b : Bool) (f : FrameD) : turnedB b (revOf c ns) f = turnedB b (revOf c ms) f := by
  obtain ⟨n1, n2⟩ := keys_perm hn
  obtain ⟨m1, m2⟩ := keys_perm hm
  have e1 : ∀ v, look (revOf c ns) v = look (revOf c ms) v := fun v => Option.ext fun k => by rw [rev_look_iff hI n1 n2, rev_look_iff hI m1 m2]
  have e2 : ∀ x, ((revOf c ns).map (·.2)).contains x = ((revOf c ms).map (·.2)).contains x := fun x => by rw [rev_contains hI n1 n2, rev_contains hI m1 m2]
  unfold turnedB
  cases f.tags with
  | nil => rfl
  | cons t ts => simp only [e1, e2]
theorem turnedB_back {c : List (Int × Int)} {ns : List Int} (hI : Inj c) (hn : ns.Perm (c.map (·.1))) (b : Bool) {f : FrameD} {t : TagD} {ts : List TagD} {v : Int} (hf : f.tags = t :: ts) (hv : look c t.vlan = some v) :
    turnedB b (revOf c ns) { f with tags := { t with vlan := v } :: ts } = some f := by
  obtain ⟨n1, n2⟩ := keys_perm hn
  have e := (rev_look_iff hI n1 n2 v t.vlan).mpr hv
  simp only [turnedB, e]
  rw [← hf]
theorem MaybeFrame.mono {w : Wd} {n₁ n₂ : Led} {r : Value} {x : Option FrameD} (hs : ∀ p ∈ n₁, p ∈ n₂) (h : MaybeFrame w n₁ r x) : MaybeFrame w n₂ r x := by
  cases x with
  | none => exact h
  | some f => exact FrameIn.mono hs h
theorem MaybeDat.mono {n₁ n₂ : Led} {r : Value} {x : Option Dat} (hs : ∀ p ∈ n₁, p ∈ n₂) (h : MaybeDat n₁ r x) : MaybeDat n₂ r x := by
  cases x with
  | none => exact h
  | some f => exact DatIn.mono hs h
/-- a map that parts from m₀ at the stored names alone -/
def Like0 (stored : List Str) (m₀ m : Str → Option Value) : Prop := ∀ z, stored.contains z = false → m z = m₀ z
theorem Like0.fr {stored : List Str} {m₀ m₁ : Str → Option Value} {h₀ h : Heap} {L : Addr} (k : Like0 stored m₀ m₁) (F : Fr h₀ L h m₁) : Fr h₀ L h (fun y => if stored.contains y then m₁ y else m₀ y) := by
  have e : m₁ = (fun y => if stored.contains y then m₁ y else m₀ y) := by
    funext y
    cases hs : stored.contains y with
    | true => rfl
    | false => exact k y hs
  rw [← e]; exact F
section
variable {prog : Program} {w : World} {A : Around} {E : Value → Shared → Prop} {s : Shared} {env : Env} {h₀ : Heap} {target : Expr} {body : List Stmt} {Q : Flow → Shared → Prop}
/-- a for over a list of the ledger, any target -/
theorem loop_list {l : Addr} {vs : List Value} {nn : Nat} {m₀ : Str → Option Value} {news : Led} (stored : List Str) (J : Nat → Led → Prop)
    (hh : A.handled = none) (hl : (l, listOf vs.toArray nn) ∈ news) (F : Fr h₀ env.locals s.heap m₀) (N : News h₀ env.locals s.heap news) (hj : J 0 news)
    (turn : ∀ i v (u : Str → Option Value) nx h tk own, vs[i]? = some v → OwnOff own (nx.map (·.1)) → (l, listOf vs.toArray nn) ∈ nx → J i nx → Fr h₀ env.locals h (fun y => if stored.contains y then u y else m₀ y) → News h₀ env.locals h (nx ++ own) →
      wpAny (model prog w) A (assign target env v) (fun _ s₃ => wpAny (model prog w) A (execs body env) (InvPostG h₀ env.locals (fun m' nx' => Like0 stored m₀ m' ∧ (l, listOf vs.toArray nn) ∈ nx' ∧ J (i + 1) nx') own { s with heap := h, toks := tk } Q) E s₃) E { s with heap := h, toks := tk })
    (done : ∀ (u : Str → Option Value) nx h tk, J vs.length nx → Fr h₀ env.locals h (fun y => if stored.contains y then u y else m₀ y) → News h₀ env.locals h nx → Q .next { s with heap := h, toks := tk }) :
    wpAny (model prog w) A (pyIter (.ref l)) (fun it s₂ => TurnsAt prog w A h₀ env target body Q E it s₂) E s := by
  have hol : s.heap.get? l = some (listOf vs.toArray nn) := (N _ hl).1
  have hls : s.heap.IsList l vs.toArray := ⟨_, hol, rfl, nn, rfl⟩
  have hne : l ≠ s.heap.objs.size := Nat.ne_of_lt (Heap.lt_size hol)
  refine wpAny_pyIter_list hls ?_
  have W := Walks.list (prog := prog) (w := w) hh s.heap.objs.size l hne vs.toArray
  have hlen : vs.toArray.size = vs.length := by simp
  rw [hlen] at W
  refine ⟨_, _, _, vs.length, _, _, _, m₀, news, (fun i m nx => Like0 stored m₀ m ∧ (l, listOf vs.toArray nn) ∈ nx ∧ J i nx), rfl, KTurns.ofWalks W fun i v s Q E st q => letGo_listiter st.1 q, ?_, ?_, ?_, ⟨⟨_, Heap.get?_push_size _ rfl, rfl, rfl⟩, hls.at fun o e => Heap.get?_push_of_some _ e⟩, F.push _, (fun p hp => ⟨Heap.get?_push_of_some _ (N p hp).1, (N p hp).2⟩), ⟨fun _ _ => rfl, hl, hj⟩, ?_, ?_⟩
  · exact it_frame F N hl
  · exact it_new F
  · exact it_off N
  · rintro i v m₁ news₁ hh' tk' own hin hP ⟨hlk, hl₁, hJ⟩ hoff hown hget hfp hst F₁ N₁
    have hP' : vs[i]? = some v := by simpa using hP
    obtain ⟨⟨oI, hoI, _⟩, _⟩ := id hst
    have hIn : (s.heap.objs.size, oI) ∈ own := hfp _ (List.mem_cons_self ..) (next_is_new F) _ hoI
    refine wpAny_mono (turn i v m₁ news₁ hh' tk' _ hP' (itOf_off hoff) hl₁ hJ (hlk.fr F₁) (itOf_news N₁)) (fun _ s₃ p => wpAny_mono p (fun f s₂ p => ?_) fun _ _ e => e) fun _ _ e => e
    have fin := it_end (h₀ := h₀) (L := env.locals) (s₁ := { s with heap := hh', toks := tk' }) (s₂ := s₂) (P := fun m nx => Like0 stored m₀ m ∧ (l, listOf vs.toArray nn) ∈ nx ∧ J (i + 1) nx) hIn hown hget (N₁ _ (List.mem_append_right _ hl₁)).1 fun _ _ z => z.2.1
    cases f with
    | ret v => exact .ret p
    | brk => exact .brk p
    | next => exact .next (fin p)
    | cont => exact .cont (fin p)
  · rintro h' tk m' news' F' N' _ ⟨hl, _, hJ⟩
    exact done m' news' h' tk hJ (hl.fr F') N'
/-- the same, the ledger as it was at each turn's end -/
theorem loop_list0 {l : Addr} {vs : List Value} {nn : Nat} {m₀ : Str → Option Value} {news : Led} (stored : List Str)
    (hh : A.handled = none) (hl : (l, listOf vs.toArray nn) ∈ news) (F : Fr h₀ env.locals s.heap m₀) (N : News h₀ env.locals s.heap news)
    (turn : ∀ (i : Nat) v (u : Str → Option Value) h tk own, vs[i]? = some v → OwnOff own (news.map (·.1)) → Fr h₀ env.locals h (fun y => if stored.contains y then u y else m₀ y) → News h₀ env.locals h (news ++ own) →
      wpAny (model prog w) A (assign target env v) (fun _ s₃ => wpAny (model prog w) A (execs body env) (InvPostG h₀ env.locals (fun m' nx' => Like0 stored m₀ m' ∧ nx' = news) own { s with heap := h, toks := tk } Q) E s₃) E { s with heap := h, toks := tk })
    (done : ∀ (u : Str → Option Value) h tk, Fr h₀ env.locals h (fun y => if stored.contains y then u y else m₀ y) → News h₀ env.locals h news → Q .next { s with heap := h, toks := tk }) :
    wpAny (model prog w) A (pyIter (.ref l)) (fun it s₂ => TurnsAt prog w A h₀ env target body Q E it s₂) E s := by
  refine loop_list stored (fun _ nx => nx = news) hh hl F N rfl ?_ ?_
  · rintro i v u nx h tk own hv hoff hm rfl F₁ N₁
    refine wpAny_mono (turn i v u h tk own hv hoff F₁ N₁) (fun _ s₃ p => wpAny_mono p (fun f s₂ p => ?_) fun _ _ e => e) fun _ _ e => e
    have fin : InvEndG h₀ env.locals (fun m' nx' => Like0 stored m₀ m' ∧ nx' = nx) own { s with heap := h, toks := tk } s₂ → InvEndG h₀ env.locals (fun m' nx' => Like0 stored m₀ m' ∧ (l, listOf vs.toArray nn) ∈ nx' ∧ nx' = nx) own { s with heap := h, toks := tk } s₂ := by
      rintro ⟨h', tk', m', news', nx', e, F', N', hn, ho, ha, hlk, rfl⟩
      exact ⟨h', tk', m', news', nx', e, F', N', hn, ho, ha, hlk, hm, rfl⟩
    cases f with
    | ret v => exact p
    | brk => exact p
    | next => exact fin p
    | cont => exact fin p
  · rintro u nx h tk rfl F₁ N₁
    exact done u h tk F₁ N₁
theorem same_end0 {stored : List Str} {m₀ m' : Str → Option Value} {L : Addr} {news own news' : Led} {s₁ : Shared} {h' : Heap} {tk : Nat} (F : Fr h₀ L h' m') (N : News h₀ L h' news') (hl : Like0 stored m₀ m') (hs : ∀ p ∈ news ++ own, p ∈ news') (hoff : OwnOff own (news.map (·.1))) :
    InvEndG h₀ L (fun m' nx' => Like0 stored m₀ m' ∧ nx' = news) own s₁ { s₁ with heap := h', toks := tk } :=
  InvEndG.intro F N ⟨hl, rfl⟩ hoff (fun p hp => hs p (List.mem_append_left _ hp)) fun p hp => hs p (List.mem_append_right _ hp)
end
theorem turnedB_len {b : Bool} {c : List (Int × Int)} {f f' : FrameD} (h : turnedB b c f = some f') : f'.tags.length = f.tags.length := by
  unfold turnedB at h
  cases hf : f.tags with
  | nil => rw [hf] at h; cases h; rw [hf]
  | cons t ts =>
    rw [hf] at h
    dsimp only at h
    split at h
    · cases h; rfl
    · split at h
      · cases h
      · cases h; rw [hf]
theorem turnedF_B (st : List (Int × Bool)) (port : Int) (c : List (Int × Int)) (f : FrameD) : turnedF st port c f = turnedB ((look st port).getD false) c f := rfl
end Mine
end
section
open PySem PySem.W PyProof.Rows PySem.Spec PySem.Calls PyProof.Rows.LCg
set_option Elab.async false
namespace Mine
theorem lk_list (st : List Str) (l : Loc) (u : Str → Option Value) : lk (drop_ st l ++ some_ st u) = fun y => if st.contains y then u y else lk l y := by
  funext y
  simp only [lk]
  rw [lookup_app, lookup_drop, lookup_some]
  by_cases hc : st.contains y = true
  · simp only [hc, if_true]; rfl
  · simp only [Bool.not_eq_true] at hc
    simp only [hc, Bool.false_eq_true, if_false]
    cases l.lookup y <;> rfl
/-- the end of a turn of a loop over a list -/
def Turn0 (R : Flow → Loc → Led → Prop) (lt : Loc) (st : List Str) (K : Led → Prop) (fl : Flow) (l' : Loc) (n' : Led) : Prop := match fl with
  | .ret v => R (.ret v) l' n'
  | .brk => False
  | _ => (∃ pre, l' = pre ++ lt ∧ (pre.all fun p => st.contains p.1) = true) ∧ K n'
theorem like0_of {st : List Str} {l pre : Loc} {u : Str → Option Value} (h : (pre.all fun p => st.contains p.1) = true) : Like0 st (lk l) (lk (pre ++ (drop_ st l ++ some_ st u))) := by
  intro z hs
  simp only [lk]
  rw [lookup_app]
  have e : pre.lookup z = none := by
    induction pre with
    | nil => rfl
    | cons p r ih =>
      obtain ⟨a, b⟩ := p
      simp only [List.all_cons, Bool.and_eq_true] at h
      have hn : (z == a) = false := by
        cases hza : (z == a) with
        | false => rfl
        | true => have := eq_of_beq hza; subst this; rw [h.1] at hs; cases hs
      simp only [List.lookup_cons, hn]; exact ih h.2
  rw [e]
  have := congrFun (lk_list st l u) z
  simp only [lk, hs, if_false, Bool.false_eq_true] at this
  simpa using this
section
variable {c : Ctx} {f : Fn} {l : Loc} {n : Led} {v v1 v2 : Value} {pos pos' px p1 p2 : Pos} {k m d u : Nat} {x y : Str} {V : Value → Prop} {e target iter : PySem.Expr} {R : Flow → Loc → Led → Prop} {body rest : List Stmt} {T : Addr}
/-- what stands to be shown of a loop over a list of the ledger that leaves the ledger as it is -/
def Ls (c : Ctx) (f : Fn) (l : Loc) (target : PySem.Expr) (body rest : List Stmt) (R : Flow → Loc → Led → Prop) (st : List Str) (vs : List Value) (n : Led) : Prop :=
  (∀ v (us : Loc) own, v ∈ vs → LW c f (drop_ st l ++ us) (n ++ own) (PySem.assign target (c.env f) v) (fun _ l2 n2 => LW c f l2 n2 (execs body (c.env f)) (Turn0 R (drop_ st l ++ us) st (fun n' => ∀ p ∈ n ++ own, p ∈ n')))) ∧
    ∀ us : Loc, (∀ z, st.contains z = false → us.lookup z = none) → LW c f (drop_ st l ++ us) n (execs rest (c.env f)) R
theorem St.forList (st : List Str) (h : LW c f l n (eval iter (c.env f)) (fun v l' n' => l' = l ∧ ∃ (La : Addr) (vs : List Value) (m : Nat), v = .ref La ∧ (La, W.listOf vs.toArray m) ∈ n' ∧ Ls c f l target body rest R st vs n'))
    (hs : ∀ x, foldedSetIterable iter (c.env f) x = pure x := by intro _; rfl) : LW c f l n (execs (.For target iter body [] pos :: rest) (c.env f)) R := fun s Q E F N q => by
  refine wpAny_execs_cons (For_turns (env := c.env f) (h₀ := c.h₀) F (h s _ E F N fun v h' tk l' n' F' N' ⟨e1, La, vs, m, e2, hm, turn, done⟩ => ?_) hs E.2)
  subst e1; subst e2
  refine loop_list0 (env := c.env f) st rfl hm F' N' ?_ ?_
  · intro i v u h tk own hv hoff F₁ N₁
    refine turn v (some_ st u) own (List.mem_of_getElem? hv) _ _ E (by rw [lk_list]; exact F₁) N₁ fun _ h2 tk2 l2 n2 F2 N2 p => p { s with heap := h2, toks := tk2 } _ E F2 N2 fun fl h3 tk3 l3 n3 F3 N3 p => ?_
    cases fl with
    | ret v => exact q _ h3 tk3 l3 n3 F3 N3 p
    | brk => exact p.elim
    | next =>
      obtain ⟨⟨pre, e1, e2⟩, e3⟩ := p
      subst e1
      exact same_end0 F3 N3 (like0_of e2) e3 hoff
    | cont =>
      obtain ⟨⟨pre, e1, e2⟩, e3⟩ := p
      subst e1
      exact same_end0 F3 N3 (like0_of e2) e3 hoff
  · intro u h tk F₁ N₁
    exact done (some_ st u) (some_none _ _) _ Q E (by rw [lk_list]; exact F₁) N₁ q
/-- the target is a name -/
theorem LW.asName {R : Unit → Loc → Led → Prop} (h : R () ((x, v) :: l) n) (hk : f.cs.kind = .function := by rfl) (hx : (c.env f).kindOf x = some .local := by rfl) : LW c f l n (PySem.assign (.Name x pos) (c.env f) v) R :=
  fun s Q E F N q => assign_Name (storeX_L F N (fun h' F' N' => q () h' _ ((x, v) :: l) n (lk_cons x v l ▸ F') N' h) hk hx)
/-- the target is a pair of names -/
theorem LW.asPair {R : Unit → Loc → Led → Prop} (hm : (T, tupOf [v1, v2] m) ∈ n) (h : R () ((y, v2) :: (x, v1) :: l) n) (hk : f.cs.kind = .function := by rfl) (hx : (c.env f).kindOf x = some .local := by rfl) (hy : (c.env f).kindOf y = some .local := by rfl)
    (ha : assignEach [.Name x p1, .Name y p2] (c.env f) = [(false, PySem.assign (.Name x p1) (c.env f)), (false, PySem.assign (.Name y p2) (c.env f))] := by rfl) : LW c f l n (PySem.assign (.Tuple [.Name x p1, .Name y p2] k pos) (c.env f) (.ref T)) R :=
  fun s Q E F N q => unpackN_ F N ⟨_, (N _ hm).1, rfl, _, rfl⟩ rfl (by rw [ha]; rfl) (by rw [ha]; rfl) fun h' F' N' => by
    rw [ha]
    exact assignInOrder_cons (assign_Name (storeX_L F' N' (fun h2 F2 N2 => assignInOrder_cons (assign_Name (storeX_L F2 N2 (fun h3 F3 N3 => assignInOrder_nil (q () h3 _ ((y, v2) :: (x, v1) :: l) n (by rw [lk_cons, lk_cons]; exact F3) N3 h)) hk hy))) hk hx))
end
end Mine
end
section
open PySem PySem.W PyProof.Rows PySem.Spec PySem.Calls PyProof.Rows.LCg
set_option Elab.async false
namespace Mine
section
variable {c : Ctx} {f : Fn} {l : Loc} {n : Led} {v : Value} {pos pos' : Pos} {k d u : Nat} {fr : FrameD} {e e1 e2 : PySem.Expr} {pl : Sem Bool} {b b' : Bool}
theorem Cp.neB (h1 : Ev c f l n e1 (Is (.bool b))) (h2 : Ev c f l n e2 (Is (.bool b'))) : Cp c f l n e1 .NotEq e2 (b != b') :=
  Ev.go h1 fun _ q1 => Ev.go h2 fun _ q2 => by cases q1; cases q2; exact fun s Q E F N q => ne_bool (q _ s.heap s.toks l n F N ⟨rfl, rfl, rfl⟩)
theorem Cp.isNotV (h1 : Ev c f l n e1 (Is v)) (hv : (v == Value.none) = false) : Cp c f l n e1 .IsNot (.Constant .none k pos) true := by
  have := Cp.isNot (k := k) (pos := pos) h1
  rw [hv] at this; exact this
theorem Cp.isNoneV (h1 : Ev c f l n e1 (Is v)) (hv : (v == Value.none) = false) : Cp c f l n e1 .Is (.Constant .none k pos) false := by
  have := Cp.isNone (k := k) (pos := pos) h1
  rw [hv] at this; exact this
end
theorem tags_off {n n' : Led} (g : ∀ a vs k, (a, tupOf vs k) ∈ n → (a, tupOf vs k) ∈ n') : ∀ {vs : List Value} {ts : List TagD}, DatAll n vs (ts.map tagDat) → DatAll n' vs (ts.map tagDat)
  | _, [], h => by cases h; exact .nil
  | _, _ :: _, h => by
    cases h with | cons h1 r => cases h1 with | tuple m q => cases q with | cons a q => cases q with | cons b q => cases q with | cons c q => cases q with | cons d q =>
      cases q; cases a; cases b; cases c; cases d
      exact .cons (.tuple (g _ _ _ m) (.cons (.int _ _) (.cons (.int _ _) (.cons (.bool _) (.cons (.int _ _) .nil))))) (tags_off g r)
theorem told_off {n n' : Led} (g : ∀ a vs k, (a, tupOf vs k) ∈ n → (a, tupOf vs k) ∈ n') {v : Value} {fr : FrameD} (h : DatIn n v (toldDat fr)) : DatIn n' v (toldDat fr) := by
  cases h with | tuple m q => cases q with | cons a q => cases q with | cons b q => cases q with | cons c q => cases q with | cons d q => cases q with | cons e q =>
    cases q; cases a; cases b; cases d; cases e
    cases c with | tuple m3 r3 => exact .tuple (g _ _ _ m) (.cons (.int _ _) (.cons (.int _ _) (.cons (.tuple (g _ _ _ m3) (tags_off g r3)) (.cons (.int _ _) (.cons (.bytes _ _) .nil)))))
theorem tup_cut {w : Wd} {src S : Addr} {o oS : Obj} {ks : List (Int × Value)} {tl X : Led} (ho : SrcObj o) (hd : oS.IsDictOf (IK w) ks) : ∀ (a : Addr) (vs : List Value) (k : Nat), (a, tupOf vs k) ∈ tl ++ (src, o) :: (S, oS) :: X → (a, tupOf vs k) ∈ tl ++ X := fun a vs k h => by
  rcases List.mem_append.mp h with h | h
  · exact List.mem_append_left _ h
  · rcases List.mem_cons.mp h with h | h
    · obtain ⟨_, _, _, _, _, rfl, _⟩ := ho
      exact absurd (Value.type.inj (congrArg (fun p : Addr × Obj => p.2.cls) h)) (by decide)
    · rcases List.mem_cons.mp h with h | h
      · obtain ⟨es, ep, _, e, _⟩ := hd
        have h2 : (tupOf vs k).data = oS.data := congrArg (fun p : Addr × Obj => p.2.data) h
        rw [e] at h2
        cases h2
      · exact List.mem_append_right _ h
theorem Does.mono' {w : Wd} {f : Addr} {args : List Value} {news : Led} {dep un : Nat} {R R' : Value → Led → Prop} (D : Does w f args news dep un R) (h : ∀ r n, R r n → R' r n) : Does w f args news dep un R' :=
  fun mean mg mb dp u gd cn cs a ccd cl outer A₀ base h₀ L m s Q E B F X N T hk hd hu hret => D mean mg mb dp u gd cn cs a ccd cl outer A₀ base h₀ L m s Q E B F X N T hk hd hu fun r n h' tk' F' N' hR => hret r n h' tk' F' N' (h r n hR)
theorem MaybeFrame.up {w : Wd} {a b : Led} {r : Value} {x : Option FrameD} (g : Grew a b) (h : MaybeFrame w a r x) : MaybeFrame w b r x := h.mono g.sub
set_option maxRecDepth 100000 in
set_option maxHeartbeats 8000000 in
theorem translated_g {w : Wd} {t P I S src : Addr} {vv fv : Value} {o oS : Obj} {ks : List (Int × Value)} {st : List (Int × Bool)} {ins fnd : List (Int × List (Int × Int))} {cc : List (Int × Int)} {fr : FrameD} {port : Int} {tp : Tok} {r : Led}
  (hr : Off src r) (hSs : S ≠ src) (hrS : Off S r) (ho : SrcObj o) (hT : TunAt w r t P I S) (hd : oS.IsDictOf (IK w) ks) (hk : KvRel IsBool ks st) (loS : (S == sysModules) = false) (hkl : ks.length ≤ 1000)
  (hI : DictIn w (IntDict w) r (.ref I) ins) (hV : DictIn w (IntDict w) r vv fnd) (hl : look fnd port = some cc) (hc : rowsOf ins port = cc) (hinj : Inj cc) (hsh : cc.length ≤ 10) (hf : FrameIn w r fv fr) (hz : fr.tags.length ≤ 700) :
  Does w 347 [.ref src, .ref t, vv, .int port tp, fv] ((src, o) :: (S, oS) :: r) 130 1300 (fun v n' => ∃ (o' oS' : Obj) (ks' : List (Int × Value)) (st' : List (Int × Bool)), v = .bool true ∧ SrcObj o' ∧ oS'.IsDictOf (IK w) ks' ∧ KvRel IsBool ks' st' ∧ ks'.length ≤ ks.length + 1 ∧ n' = (src, o') :: (S, oS') :: r) := by
  refine Does.enterCF (dep := 129) (un := 1297) (binds := [(Str.ofString "source", .ref src), (Str.ofString "tunnels", .ref t), (Str.ofString "vlans", vv), (Str.ofString "port", .int port tp), (Str.ofString "frame", fv)]) (l := [(Str.ofString "frame", fv), (Str.ofString "tunnels", .ref t), (Str.ofString "source", .ref src)]) (fn_347 _) (fun _ _ _ _ _ => rfl) rfl (by decide +kernel) (by rw [lk_cons, lk_cons, lk_cons]; rfl) rfl rfl rfl ?_
  intro c cdv cells hw hcl O hY l1
  subst hw
  obtain ⟨o1, o2, e, hd1, hd2⟩ := CellsAre.two (n := Str.ofString "port") (c := c.L + 2) (n' := Str.ofString "vlans") (c' := c.L + 1) hY
  subst e
  have hd1 : o1.data = .cell (some (.int port tp)) := hd1
  have hd2 : o2.data = .cell (some vv) := hd2
  have hcl' : c.cl = [(Str.ofString "port", c.L + 2), (Str.ofString "vlans", c.L + 1)] := hcl
  have hlp : c.cl.lookup (Str.ofString "port") = some (c.L + 2) := by rw [hcl']; rfl
  have hlv : c.cl.lookup (Str.ofString "vlans") = some (c.L + 1) := by rw [hcl']; rfl
  have lP : ∀ p ∈ (src, o) :: (S, oS) :: r, @LT.lt Nat _ p.1 (c.L + 1) := fun p hp => Nat.lt_succ_of_lt (l1 p hp)
  have lP2 : ∀ p ∈ (src, o) :: (S, oS) :: r, @LT.lt Nat _ p.1 (c.L + 2) := fun p hp => Nat.lt_succ_of_lt (lP p hp)
  have hoS1 : Off src ((c.L + 2, o1) :: (c.L + 1, o2) :: r) := off_cons' (Nat.ne_of_gt (lP2 _ (.head _))) (off_cons' (Nat.ne_of_gt (lP _ (.head _))) hr)
  have hoS2 : Off S ((c.L + 2, o1) :: (c.L + 1, o2) :: r) := off_cons' (Nat.ne_of_gt (lP2 _ (.tail _ (.head _)))) (off_cons' (Nat.ne_of_gt (lP _ (.tail _ (.head _)))) hrS)
  refine LW.drop (n := (src, o) :: (S, oS) :: (c.L + 2, o1) :: (c.L + 1, o2) :: r) (by repeat' (first | exact List.Mem.head _ | exact sub_refl _ | refine sub_cons ?_ ?_ | refine sub_tail ?_ | refine List.Mem.tail _ ?_)) ?_
  refine St.pair (LW.compare (LW.take O (off_cons' hSs hoS1) ho (Ev.name rfl rfl) Ev.int fun kv v o' hv h0 h2 ho' => LW.int fun t0 => ?_))
  obtain ⟨t1, rfl⟩ := hv
  refine LW.eq ((Ex.told O (Ex.ev (Ev.nameF rfl (hf.mono fun p hp => .tail _ (.tail _ (.tail _ (.tail _ hp)))))) (by omega)).go fun rv n1 hrv ⟨tl, hlt, e9⟩ => ?_)
  subst e9
  generalize (kv == 0) = b
  have hrows : DatIn (tl ++ (c.L + 2, o1) :: (c.L + 1, o2) :: r) rv (toldDat fr) := told_off (tup_cut ho' hd) hrv
  have mr : ∀ p ∈ r, p ∈ tl ++ (c.L + 2, o1) :: (c.L + 1, o2) :: r := fun p hp => List.mem_append_right _ (.tail _ (.tail _ hp))
  have m1 : (c.L + 2, o1) ∈ tl ++ (c.L + 2, o1) :: (c.L + 1, o2) :: r := List.mem_append_right _ (.head _)
  have m2 : (c.L + 1, o2) ∈ tl ++ (c.L + 2, o1) :: (c.L + 1, o2) :: r := List.mem_append_right _ (.tail _ (.head _))
  have f1 : Off S (tl ++ (c.L + 2, o1) :: (c.L + 1, o2) :: r) := off_app (fun p hp => Nat.ne_of_gt (hlt p hp _ (.tail _ (.head _)))) hoS2
  refine LW.drop (n := (S, oS) :: (src, o') :: (tl ++ (c.L + 2, o1) :: (c.L + 1, o2) :: r)) (sub_cons (List.mem_append_right _ (.tail _ (.head _))) (sub_cons (List.mem_append_right _ (.head _)) fun p hp => (List.mem_append.mp hp).elim (fun hp => List.mem_append_left _ hp) fun hp => List.mem_append_right _ (.tail _ (.tail _ hp)))) ?_
  generalize tl ++ (c.L + 2, o1) :: (c.L + 1, o2) :: r = r2 at hrows mr m1 m2 f1
  clear hrv hlt hoS1 hoS2 lP lP2
  obtain ⟨td, j1, j2, j3, a1, a2⟩ := id hT
  refine St.expr_ (LW.meth O (me_268_set_strict _) (Ev.name rfl rfl) (.tail _ (.tail _ (mr _ a1))) (.tail _ (.tail _ (mr _ a2))) rfl (LW.args_cons (Ev.go (V := Is (.int port tp)) (Ev.cell hlp (.tail _ (.tail _ m1)) hd1 rfl) fun _ q => LW.args_cons (LW.name rfl (LW.args_nil ?_)))))
  cases q
  refine LW.call O (set_strict_g (.head (off_cons' (Ne.symm hSs) f1)) (hT.mono fun p hp => .tail _ (.tail _ (mr p hp))) hd hkl) fun v n' ⟨oS', ⟨e1, hd'⟩, e2⟩ => ?_
  subst e1; subst e2
  have hkl' := hk.length
  have hS2 : BoolDict c.w ((S, oS') :: (src, o') :: r2) (.ref S) (putK st port b) := ⟨S, oS', _, rfl, .head _, hd', loS, hk.put rfl⟩
  have hst : (look (putK st port b) port).getD false = b := by rw [look_put]; simp
  have fin : ∀ n', (∀ p ∈ (S, oS') :: (src, o') :: r2, p ∈ n') → (∀ p ∈ (src, o') :: (S, oS') :: r, p ∈ n') := fun n' g => sub_cons (g _ (.tail _ (.head _))) (sub_cons (g _ (.head _)) fun p hp => g p (.tail _ (.tail _ (mr p hp))))
  have out : (Out (fun v n' => ∃ (o' oS' : Obj) (ks' : List (Int × Value)) (st' : List (Int × Bool)), v = .bool true ∧ SrcObj o' ∧ oS'.IsDictOf (IK c.w) ks' ∧ KvRel IsBool ks' st' ∧ ks'.length ≤ ks.length + 1 ∧ n' = (src, o') :: (S, oS') :: r)) (.ret (.bool true)) [] ((src, o') :: (S, oS') :: r) :=
    ⟨o', oS', _, _, rfl, ho', hd', hk.put rfl, by rw [(hk.put (k := port) (v := .bool b) rfl).length]; have := putK_length st port b; omega, rfl⟩
  replace hT : TunAt c.w ((S, oS') :: (src, o') :: r2) t P I S := hT.mono fun p hp => .tail _ (.tail _ (mr p hp))
  replace hI : DictIn c.w (IntDict c.w) ((S, oS') :: (src, o') :: r2) (.ref I) ins := DictIn.mono (fun _ _ h => h.mono fun p hp => .tail _ (.tail _ (mr p hp))) (fun p hp => .tail _ (.tail _ (mr p hp))) hI
  replace hV : DictIn c.w (IntDict c.w) ((S, oS') :: (src, o') :: r2) vv fnd := DictIn.mono (fun _ _ h => h.mono fun p hp => .tail _ (.tail _ (mr p hp))) (fun p hp => .tail _ (.tail _ (mr p hp))) hV
  replace hf : FrameIn c.w ((S, oS') :: (src, o') :: r2) fv fr := hf.mono fun p hp => .tail _ (.tail _ (mr p hp))
  replace hrows : DatIn ((S, oS') :: (src, o') :: r2) rv (toldDat fr) := hrows.mono fun p hp => .tail _ (.tail _ hp)
  replace m1 : (c.L + 2, o1) ∈ (S, oS') :: (src, o') :: r2 := .tail _ (.tail _ m1)
  replace m2 : (c.L + 1, o2) ∈ (S, oS') :: (src, o') :: r2 := .tail _ (.tail _ m2)
  generalize hN : (S, oS') :: (src, o') :: r2 = N2 at hS2 fin hT hI hV hf hrows m1 m2
  clear hN f1 mr a1 a2 hd hk hr hrS
  refine St.asg_ (Ex.go (Ex.revOwn (cl := [(Str.ofString "vlans", c.L + 1), (Str.ofString "port", c.L + 2)]) O (Ev.dget (RR := IntDict c.w) (Ev.cell hlv m2 hd2 hV) (Ev.cell hlp m1 hd1 ⟨_, rfl⟩) hl) hsh (fun C k y t oC m₂ nw s Q E hs hy hC hx N q => ?_) (hclos := ?_)) fun bv n3 ⟨ns, hP, hB⟩ g3 => ?_)
  · obtain ⟨D, oD, kvs, e2, q1, q2, q3, q4⟩ := hV
    obtain ⟨_, hv, D2, oD2, kvs2, e3, q5, q6, q7, q8⟩ := q4.some hl
    obtain ⟨_, hv2, ty, e4⟩ := q8.some hy
    subst e2; subst e3; subst e4
    refine Subscript_ (Subscript_ (lcf_cell N (by rfl) (.tail _ (hs _ m2)) hd2 (lcf_cell N (by rfl) (.tail _ (hs _ m1)) hd1 (kda_item (knd := PySem.intKind _ _) N (.tail _ (hs _ q1)) q2 (intKind_is _ _ _ _) hv ?_) rfl rfl) rfl rfl))
    exact LCgL.ld_own N (.head _) hC hx (kba_turn (value' := PySem.Expr.Name (PySem.Str.ofString "_") ⟨0, 0, 0, 0⟩) (fun _ => rfl) (kda_item (knd := PySem.intKind _ _) N (.tail _ (hs _ q5)) q6 (intKind_is _ _ _ _) hv2 (q _ _)))
  · obtain ⟨cw, mean, mg, mb, dp, u, gd, L, cl, outer, A₀, base, h₀⟩ := c
    dsimp only at hcl'
    subst hcl'
    rfl
  · have step1 : ∀ (n : Led) (fv' : Value) (fr' : FrameD), (∀ p ∈ N2, p ∈ n) → FrameIn c.w n fv' fr' → fr'.tags.length ≤ 700 → DoesG c.w 253 [.ref t, .int port tp, fv'] n 80 800 (fun n' r => MaybeFrame c.w n' r (turnedB b cc fr')) := fun n fv' fr' g hf hz => by
      have := came_in_g (tp := tp) (port := port) (hT.mono g) (DictIn.mono (R := fun _ => IsBool) (fun _ _ h => h) g hS2) (DictIn.mono (fun _ _ h => h.mono g) g hI) hf (by omega)
      rw [turnedF_B, hst, hc] at this
      exact this
    have step2 : ∀ (n : Led) (fv' : Value) (fr' : FrameD), (∀ p ∈ N2, p ∈ n) → FrameIn c.w n fv' fr' → fr'.tags.length ≤ 700 → DoesG c.w 258 [.ref t, .int port tp, fv'] n 90 900 (fun n' r => MaybeFrame c.w n' r (turnedB b (revOf cc ns) fr')) := fun n fv' fr' g hf hz => by
      refine Does.mono' (goes_out_g (tp := tp) (port := port) (hT.mono g) (DictIn.mono (R := fun _ => IsBool) (fun _ _ h => h) g hS2) (DictIn.mono (fun _ _ h => h.mono g) g hI) hf (by omega) (by rw [hc]; exact hsh)) fun r n' h => ?_
      obtain ⟨⟨ms, hP2, hM⟩, g2⟩ := h
      rw [hc] at hP2 hM
      rw [turnedF_B, hst, turnedB_rev hinj hP2 hP] at hM
      exact ⟨hM, g2⟩
    have step3 : ∀ (n : Led) (vl : Value) (c2 : List (Int × Int)), (∀ p ∈ N2, p ∈ n) → IntDict c.w n vl c2 → DoesG c.w 342 [rv, vl, .bool b] n 40 400 (fun n' r => MaybeDat n' r ((turnedB b c2 fr).map toldDat)) := fun n vl c2 g hR => law_turned_g (hrows.mono g) hR (by omega)
    have hlens : ∀ c2 f1, turnedB b c2 fr = some f1 → f1.tags.length ≤ 700 := fun c2 f1 h => by rw [turnedB_len h]; exact hz
    refine St.forList [Str.ofString "told", Str.ofString "due"] (LW.list (LW.args_cons (LW.tuple (LW.args_cons (LW.tcall2 O (hT.mono g3.sub) (me_268_came_in _) (Ev.name rfl rfl) (Ev.cell (V := Is (.int port tp)) hlp (g3.sub _ m1) hd1 rfl) (Ev.nameF rfl (hf.mono g3.sub)) (fun v1 v2 h1 h2 => by cases h1; exact step1 n3 v2 fr g3.sub h2 hz) fun r1 n4 hM1 g4 =>
      LW.args_cons (LW.gcall3 O (gl_law_turned _) (Ev.name (V := Is rv) rfl rfl) (Ev.dget (RR := IntDict c.w) (Ev.cell hlv (g4.sub _ (g3.sub _ m2)) hd2 (IntDict.dict (g3.trans g4) hV)) (Ev.cell hlp (g4.sub _ (g3.sub _ m1)) hd1 ⟨_, rfl⟩) hl) (Ev.name (V := Is (.bool b)) rfl rfl) (fun v1 v2 v3 h1 h2 h3 => by cases h1; cases h3; exact step3 n4 v2 cc (g3.trans g4).sub h2) fun d1 n5 hD1 g5 =>
      LW.args_nil (LW.newTuple (fun T1 lT1 => LW.args_cons (LW.tuple (LW.args_cons (LW.tcall2 O (hT.mono (((g3.trans g4).trans g5).trans (Grew.cons lT1)).sub) (me_268_goes_out _) (Ev.name rfl rfl) (Ev.cell (V := Is (.int port tp)) hlp ((((g3.trans g4).trans g5).trans (Grew.cons lT1)).sub _ m1) hd1 rfl) (Ev.nameF rfl (hf.mono (((g3.trans g4).trans g5).trans (Grew.cons lT1)).sub)) (fun v1 v2 h1 h2 => by cases h1; exact step2 _ v2 fr (((g3.trans g4).trans g5).trans (Grew.cons lT1)).sub h2 hz) fun r2 n7 hM2 g7 =>
      LW.args_cons (LW.gcall3 O (gl_law_turned _) (Ev.name (V := Is rv) rfl rfl) (Ev.name (V := fun v => IntDict c.w n7 v (revOf cc ns)) rfl (hB.mono (((g4.trans g5).trans (Grew.cons lT1)).trans g7).sub)) (Ev.name (V := Is (.bool b)) rfl rfl) (fun v1 v2 v3 h1 h2 h3 => by cases h1; cases h3; exact step3 n7 v2 _ ((((g3.trans g4).trans g5).trans (Grew.cons lT1)).trans g7).sub h2) fun d2 n8 hD2 g8 =>
      LW.args_nil (LW.newTuple (fun T2 lT2 => LW.args_nil (LW.newList (fun La lLa => ?_) (show 2 ≤ sizeLine by decide))) (show 2 ≤ sizeLine by decide))))))) (show 2 ≤ sizeLine by decide))))))))
    have gT1 := Grew.cons (o := tupOf [r1, d1] 0) lT1
    have gT2 := Grew.cons (o := tupOf [r2, d2] 0) lT2
    have gL := Grew.cons (o := W.listOf [Value.ref T1, Value.ref T2].toArray 0) lLa
    have gAll := (((((((g3.trans g4).trans g5).trans gT1).trans g7).trans g8).trans gT2).trans gL)
    have hp1 : (T1, tupOf [r1, d1] 0) ∈ (La, W.listOf [Value.ref T1, Value.ref T2].toArray 0) :: (T2, tupOf [r2, d2] 0) :: n8 := (((g7.trans g8).trans gT2).trans gL).sub _ (.head _)
    have hp2 : (T2, tupOf [r2, d2] 0) ∈ (La, W.listOf [Value.ref T1, Value.ref T2].toArray 0) :: (T2, tupOf [r2, d2] 0) :: n8 := .tail _ (.head _)
    replace hM1 := MaybeFrame.up ((((((g5.trans gT1).trans g7).trans g8).trans gT2).trans gL)) hM1
    replace hD1 := MaybeDat.mono (((((gT1.trans g7).trans g8).trans gT2).trans gL)).sub hD1
    replace hM2 := MaybeFrame.up (((g8.trans gT2).trans gL)) hM2
    replace hD2 := MaybeDat.mono ((gT2.trans gL)).sub hD2
    have hLa : (La, W.listOf [Value.ref T1, Value.ref T2].toArray 0) ∈ (La, W.listOf [Value.ref T1, Value.ref T2].toArray 0) :: (T2, tupOf [r2, d2] 0) :: n8 := .head _
    generalize (La, W.listOf [Value.ref T1, Value.ref T2].toArray 0) :: (T2, tupOf [r2, d2] 0) :: n8 = NN at hp1 hp2 hM1 hD1 hM2 hD2 gAll hLa
    clear gT1 gT2 gL lT1 lT2 lLa g4 g5 g7 g8 g3
    refine ⟨rfl, La, _, 0, rfl, hLa, fun v us own hv => ?_, fun us _ => ?_⟩
    · have key : ∃ (T : Addr) (r d : Value) (x : Option FrameD), v = .ref T ∧ (T, tupOf [r, d] 0) ∈ NN ∧ MaybeFrame c.w NN r x ∧ MaybeDat NN d (x.map toldDat) ∧ ∀ f1, x = some f1 → f1.tags.length ≤ 700 := by
        rcases List.mem_cons.mp hv with rfl | hv
        · exact ⟨_, _, _, _, rfl, hp1, hM1, hD1, hlens _⟩
        · cases List.mem_singleton.mp hv; exact ⟨_, _, _, _, rfl, hp2, hM2, hD2, hlens _⟩
      clear hp1 hp2 hM1 hD1 hM2 hD2 step1 step2 step3
      obtain ⟨T, r, d, x, rfl, hm, hM, hD, hlx⟩ := key
      have go : ∀ p ∈ NN, p ∈ NN ++ own := fun p hp => List.mem_append_left _ hp
      refine LW.asPair (go _ hm) ?_
      cases x with
      | none =>
        cases hM
        cases (show d = Value.none from hD)
        exact St.if0 (b := false) (Tr.or2 (b := false) (b' := false) (Tr.cp (Cp.neB (b := true) (b' := true) (Ev.cp (Cp.isNone (v := .none) (Ev.name rfl rfl))) (Ev.cp (Cp.isNone (v := .none) (Ev.name rfl rfl))))) fun _ => Tr.and2 (b := false) (b' := false) (Tr.cp (Cp.isNot (v := .none) (Ev.name rfl rfl))) fun h => nomatch h) (fun h => nomatch h) fun _ => LW.nil ⟨⟨[_, _], rfl, rfl⟩, sub_refl _⟩
      | some f1 =>
        have hF1 : FrameIn c.w NN r f1 := hM
        have hD1 : DatIn NN d (toldDat f1) := hD
        have hl1 := hlx f1 rfl
        have er : (r == Value.none) = false := by obtain ⟨a, _, _, _, _, _, _, _, _, _, _, _, _, _, e, _⟩ := hF1; subst e; rfl
        have ed : (d == Value.none) = false := by cases hD1; rfl
        exact St.if0 (b := false) (Tr.or2 (b := false) (b' := false) (Tr.cp (Cp.neB (b := false) (b' := false) (Ev.cp (Cp.isNoneV (v := r) (Ev.name rfl rfl) er)) (Ev.cp (Cp.isNoneV (v := d) (Ev.name rfl rfl) ed)))) fun _ => Tr.and2 (b := true) (b' := false) (Tr.cp (Cp.isNotV (v := r) (Ev.name rfl rfl) er)) fun _ => Tr.cp (Cp.datNe O (Ex.told O (Ex.ev (Ev.nameF rfl (hF1.mono go))) (by omega)) (fun n' g => Ex.ev (Ev.name rfl (dat_up (hD1.mono go) g))) (dDepth_told f1))) (fun h => nomatch h) fun _ => LW.nil ⟨⟨[_, _], rfl, rfl⟩, sub_refl _⟩
    · clear hp1 hp2 hM1 hD1 hM2 hD2 step3
      refine St.asg_ (LW.tcall2 O (hT.mono gAll.sub) (me_268_came_in _) (Ev.name rfl rfl) (Ev.cell (V := Is (.int port tp)) hlp (gAll.sub _ m1) hd1 rfl) (Ev.nameF rfl (hf.mono gAll.sub)) (fun v1 v2 h1 h2 => by cases h1; exact step1 _ v2 fr gAll.sub h2 hz) fun wv n9 hW g9 => ?_)
      have g := gAll.trans g9
      have hV9 := IntDict.dict g hV
      replace hrows := dat_up hrows g
      cases hft : fr.tags with
      | nil =>
        refine St.if0 (b := true) (Tr.or2 (b := true) (b' := true) (Tr.cp (Cp.datNil (ds := []) O (Ev.weak (Ev.tags2 rfl hrows) fun v hv => by rw [hft] at hv; exact hv))) fun h => nomatch h) (fun _ => ?_) (fun h => nomatch h)
        exact St.retD Ev.bool (fin _ g.sub) fun v hv => by cases hv; exact out
      | cons th tr =>
        have hts' : fr.tags.map tagDat = tagDat th :: tr.map tagDat := by rw [hft]; rfl
        refine St.if0 (Tr.or2 (b := false) (Tr.cp (Cp.datNil (ds := tagDat th :: tr.map tagDat) O (Ev.weak (Ev.tags2 rfl hrows) fun v hv => hts' ▸ hv))) fun _ => Tr.cp (Cp.notIn (i := th.vlan) (Ev.weak (Ev.dat (j := 3) (dd := .int th.vlan) (Ev.dat (j := 0) (dd := tagDat th) (Ev.tags2 rfl hrows) (by rw [hts']; rfl)) rfl) fun v hv => dat_int hv) (RR := fun _ => IsInt) (cfg := cc) (Ev.weak (Ev.dget (RR := IntDict c.w) (Ev.cell hlv (g.sub _ m2) hd2 hV9) (Ev.cell hlp (g.sub _ m1) hd1 ⟨_, rfl⟩) hl) fun v hv => hv))) (fun hb => ?_) (fun hb => ?_)
        · exact St.retD Ev.bool (fin _ g.sub) fun v hv => by cases hv; exact out
        · obtain ⟨x, hx⟩ := some_of (o := look cc th.vlan) (by simpa using hb)
          have e1 : turnedB b cc fr = some { fr with tags := { th with vlan := x } :: tr } := by simp only [turnedB, hft, hx]
          have e2 := turnedB_back (ns := ns) hinj hP b hft hx
          rw [e1] at hW
          have hW' : FrameIn c.w n9 wv { fr with tags := { th with vlan := x } :: tr } := hW
          have hz2 : tr.length + 1 ≤ 700 := by rw [hft] at hz; exact hz
          refine St.retD (Ev.cp (Cp.datEq O (Ex.told O (LW.tcall2 O (hT.mono g.sub) (me_268_goes_out _) (Ev.name rfl rfl) (Ev.cell (V := Is (.int port tp)) hlp (g.sub _ m1) hd1 rfl) (Ev.nameF rfl hW') (fun v1 v2 h1 h2 => by cases h1; exact step2 _ v2 _ g.sub h2 (by simpa using hz2)) fun r n' hM g' => ⟨by rw [e2] at hM; exact hM, g', rfl⟩) (by omega)) (fun n' g' => Ex.ev (Ev.name rfl (dat_up hrows g'))) (dDepth_told fr))) (fin _ g.sub) fun v hv => by cases hv; exact out
end Mine
end
section
open PySem PySem.W PyProof.Rows PySem.Spec PySem.Calls PyProof.Rows.LCg
set_option Elab.async false
namespace Mine
/-- a walk that may end in an exception of class 63, the ledger XN kept -/
def LWr (c : Ctx) (f : Fn) (l : Loc) (n : Led) (e : Sem Flow) (R : Flow → Loc → Led → Prop) (XN : Led) : Prop :=
  ∀ (s : Shared) (Q : Flow → Shared → Prop) (E : EOk c f), Fr c.h₀ c.L s.heap (lk l) → News c.h₀ c.L s.heap n →
    (∀ v h' tk l' n', Fr c.h₀ c.L h' (lk l') → News c.h₀ c.L h' n' → R v l' n' → Q v { s with heap := h', toks := tk }) →
    (∀ e t dx h' tk l', Fr c.h₀ c.L h' (lk l') → News c.h₀ c.L h' ((e, excObj 63 t dx) :: XN) → (∀ q ∈ XN, @LT.lt Nat _ q.1 e) → E.1 (.ref e) { s with heap := h', toks := tk }) → wpAny c.M (c.A f) e Q E.1 s
section
variable {c : Ctx} {f : Fn} {l : Loc} {n XN : Led} {x : Str} {v : Value} {pos pos' ps : Pos} {k d u : Nat} {e e1 e2 : PySem.Expr} {V : Value → Prop} {R : Flow → Loc → Led → Prop} {rest b1 b2 : List Stmt} {pl : Sem Bool}
theorem LWr.asg_ (h : LW c f l n (eval e (c.env f)) (fun v l' n' => LWr c f ((x, v) :: l') n' (execs rest (c.env f)) R XN))
    (hk : f.cs.kind = .function := by rfl) (hx : (c.env f).kindOf x = some .local := by rfl) (hs : swapsWith e (some (.Name x pos')) pos.line (c.env f) = pure false := by rfl) : LWr c f l n (execs (.Assign [.Name x pos'] e pos :: rest) (c.env f)) R XN := fun s Q E F N q xq =>
  wpAny_execs_cons (wpAny_Assign_Name (h s _ E F N fun v h' tk l' n' F' N' r => storeX_L F' N' (fun h2 F2 N2 => r _ Q E (by rw [lk_cons]; exact F2) N2 q xq) hk hx) hs)
theorem LWr.ifT (h : Tr c f l n e true) (h1 : LWr c f l n (execs b1 (c.env f)) (fun _ _ _ => False) XN) : LWr c f l n (execs (.If e b1 b2 pos :: rest) (c.env f)) R XN := fun s Q E F N q xq =>
  wpAny_execs_cons (wpAny_If (h s _ E F N fun b h' tk l' n' F' N' ⟨q1, q2, q3⟩ => by
    subst q1; subst q2; subst q3
    exact h1 { s with heap := h', toks := tk } _ E F' N' (fun _ _ _ _ _ _ _ r => r.elim) xq))
theorem LWr.raise (O : c.Ok d u) (h : LW c f l n (eval e (c.env f)) (fun v l' n' => ∃ a t dx, v = .ref a ∧ (∀ p ∈ (a, excObj 63 t dx) :: XN, p ∈ n') ∧ ∀ q ∈ XN, @LT.lt Nat _ q.1 a)) : LWr c f l n (execs (.Raise (some e) .none pos :: rest) (c.env f)) R XN := fun s Q E F N q xq =>
  wpAny_execs_cons (raise_led O.X F rfl (h s _ E F N fun v h' tk l' n' F' N' ⟨a, t, dx, q1, q2, q3⟩ => ⟨lk l', a, t, dx, XN, q1, F', (fun p hp => N' p (q2 p hp)), xq a t dx h' tk l' F' (fun p hp => N' p (q2 p hp)) q3⟩))
theorem LW.str {R : Value → Loc → Led → Prop} {y : Str} (h : ∀ t, R (.str y t) l n) : LW c f l n (eval (.Constant (.str y) k pos) (c.env f)) R :=
  fun s Q E F N q => wpAny_Constant_str (q _ s.heap _ l n F N (h _))
/-- d.get(k, {}), the object told -/
theorem LW.getRaw {R : Value → Loc → Led → Prop} {I : Addr} {oI : Obj} {kI : List (Int × Value)} {i : Int} (O : c.Ok d u) (m1 : (I, oI) ∈ n) (m2 : oI.IsDictOf (IK c.w) kI) (m3 : (I == sysModules) = false) (h0 : Ev c f l n e (Is (.ref I))) (h1 : Ev c f l n e1 (IsI i))
    (r : ∀ (D : Addr) (oD : Obj), (∀ p ∈ n, @LT.lt Nat _ p.1 D) → (D == sysModules) = false → oD.IsDictOf (IK c.w) [] → R ((valueAt kI i).getD (.ref D)) l ((D, oD) :: n))
    (he : eval (.Call (.Attribute e (Str.ofString "get") pos') [e1, .Dict [] [] ps] [] pos) (c.env f) = (do
      let ov ← eval e (c.env f)
      standAt pos'.atName
      let (f', first) ← holding [ov] (getMethod ov (Str.ofString "get") pl)
      callWith pos f' first (backTo pos (starEach [e1, .Dict [] [] ps] (c.env f))) []) := by rfl)
    (s0 : starEach [e1, .Dict [] [] ps] (c.env f) = (false, eval e1 (c.env f)) :: starEach [.Dict [] [] ps] (c.env f) := by rfl) (s1 : starEach [.Dict [] [] ps] (c.env f) = (false, eval (.Dict [] [] ps) (c.env f)) :: starEach [] (c.env f) := by rfl) (sa : ((backTo pos (starEach [.Dict [] [] ps] (c.env f))).any fun x => x.fst) = false := by rfl) :
    LW c f l n (eval (.Call (.Attribute e (Str.ofString "get") pos') [e1, .Dict [] [] ps] [] pos) (c.env f)) R := fun s Q E F N q =>
  MethodCall_ (pl := pl) (h0 s _ E F N fun ov h' tk l' n' F' N' ⟨q1, q2, q3⟩ => by
    cases q1; subst q2; subst q3
    refine kdg_method (knd := PySem.intKind _ _) N' m1 m2 ?_
    have key : LW c f l' n' (spliced (backTo pos (starEach [e1, .Dict [] [] ps] (c.env f)))) (fun vs l3 n3 => LW c f l3 n3 (PySem.call (.builtin "dict.get") (.ref I :: vs)) R) := 
      LW.args_cons (Ev.go h1 fun v1 ⟨t, w1⟩ => LW.args_cons (LW.newDict O fun D oD l1 lo hd => LW.args_nil (by
        subst w1
        exact fun s Q E F N q => kdg_get2 (knd := PySem.intKind _ _) N (.tail _ m1) m2 m3 (intKind_is _ _ _ _) (valueAt kI i) rfl (q _ s.heap _ l' _ F N (r D oD l1 lo hd)))) s1) s0
    exact callWith_method1 (key { s with heap := h', toks := tk } _ E F' N' fun vs h' tk l' n' F' N' p => p { s with heap := h', toks := tk } Q E F' N' q) s0 sa) he
end
/-- a contract that an exception is raised, from the walk -/
theorem Raises.enter {w : Wd} {g : Addr} {args : List Value} {news : Led} {dep un : Nat} {name qual : Str} {params : Arguments} {body : List Stmt} {scope : Scope} {dV kV doc pm cdv ct oc : Value} {an od : Option Addr} {osl : Array (Option Value)} {binds : List (Str × Value)}
    (ho : w.K.lookup g = some ⟨oc, od, .func (fnOf name qual params body scope dV kV doc pm an cdv ct), osl⟩) (hcd : codeIn w.K cdv qual = true)
    (hbind : bindArgs (fnOf name qual params body scope dV kV doc pm an cdv ct) ⟨args, []⟩ = pure binds) (hloc : ∀ y ∈ binds, scope.names.lookup y.1 = some .local)
    (hco : scope.isCoroutine = false) (hgen : scope.isGenerator = false) (hk : scope.kind = .function) (hcell : ∀ x ∈ scope.names, x.2 ≠ .cell)
    (H : ∀ c : Ctx, c.w = w → c.cl = [] → c.Ok dep un → LWr c ⟨qual, scope, g, cdv⟩ binds.reverse news (execs body (c.env ⟨qual, scope, g, cdv⟩)) (fun _ _ _ => False) news) :
    Raises w g args news 63 (dep + 1) (un + 3) := by
  intro mean mg mb dp u gd cn cs ca ccd outer A₀ base h₀ L m s Q E B F X N T hk' hd hu hret
  refine wpAny_call (code_def B F X N T rfl rfl hk' ho hcd (by show dp < _; omega) (BindsTo.of_eq hbind) hloc (fun g' L' h₁ FG F' N' B' X' T' => ?_) hco hgen hk hcell)
  refine H ⟨w, mean, mg, mb, dp + 1, u + 3, gd, L', [], _, _, base, g'⟩ rfl rfl ⟨B', X', T', by show dp + 1 + dep < _; omega, by show u + 3 + un < _; omega⟩ _ _ ⟨_, by passes_own⟩ F' N' (fun _ _ _ _ _ _ _ r => r.elim) fun e t dx h' tk l' F2 N2 lt => ?_
  exact leave_own (A := ktrTop dp u gd cn cs L ca ccd [] outer) B' F2 N2 lt (fun h' R U => hret _ _ h' tk FG R U) hk
theorem Raises.enterF {w : Wd} {g : Addr} {args : List Value} {news : Led} {dep un : Nat} {st : Stmt} {q : Str} {binds : List (Str × Value)} (hf : FnAt w.K g st q)
    (hbind : ∀ doc pm an cdv ct, bindArgs (fnOf (fnN st) q (fnP st) (fnB st) (fnS st) .none .none doc pm an cdv ct) ⟨args, []⟩ = pure binds) (hloc : ∀ y ∈ binds, (fnS st).names.lookup y.1 = some .local)
    (hco : (fnS st).isCoroutine = false) (hgen : (fnS st).isGenerator = false) (hk : (fnS st).kind = .function) (hcell : ∀ x ∈ (fnS st).names, x.2 ≠ .cell)
    (H : ∀ (c : Ctx) (cdv : Value), c.w = w → c.cl = [] → c.Ok dep un → LWr c ⟨q, fnS st, g, cdv⟩ binds.reverse news (execs (fnB st) (c.env ⟨q, fnS st, g, cdv⟩)) (fun _ _ _ => False) news) : Raises w g args news 63 (dep + 1) (un + 3) := by
  obtain ⟨doc, pm, cdv, ct, oc, an, od, osl, ho, hcd⟩ := hf
  exact Raises.enter ho hcd (hbind doc pm an cdv ct) hloc hco hgen hk hcell fun c => H c cdv
set_option maxRecDepth 100000 in
set_option maxHeartbeats 8000000 in
theorem translate_raises_g {w : Wd} {t P I S d : Addr} {oI oR : Obj} {kI kR : List (Int × Value)} {cc : List (Int × Int)} {port outside inside : Int} {tp to ti : Tok} {n : Led} (hT : TunAt w n t P I S) (hI : (I, oI) ∈ n) (hdI : oI.IsDictOf (IK w) kI) (loI : (I == sysModules) = false)
  (hv : valueAt kI port = some (.ref d)) (hR : (d, oR) ∈ n) (hdR : oR.IsDictOf (IK w) kR) (loR : (d == sysModules) = false) (hc : KvRel IsInt kR cc) (hbad : ¬ (look cc outside = none ∧ (cc.map (·.2)).contains inside = false)) :
  Raises w 239 [.ref t, .int port tp, .int outside to, .int inside ti] n 63 30 300 := by
  refine Raises.enterF (dep := 29) (un := 297) (binds := [(Str.ofString "self", .ref t), (Str.ofString "port", .int port tp), (Str.ofString "outside", .int outside to), (Str.ofString "inside", .int inside ti)]) (fn_239 _) (fun _ _ _ _ _ => rfl) (locs rfl) rfl rfl rfl (by decide) ?_
  intro c cdv hw hcl O
  subst hw
  refine LWr.asg_ (LW.getRaw O hI hdI loI (Ev.tun_inside O hT (Ev.name rfl rfl) rfl) (Ev.name rfl ⟨_, rfl⟩) fun D oD lD lo hD => ?_)
  rw [hv]
  have hr : DictIn c.w (fun _ => IsInt) ((D, oD) :: n) (.ref d) cc := ⟨d, oR, kR, rfl, .tail _ hR, hdR, loR, hc⟩
  have hb : ((look cc outside).isSome || (cc.map (·.2)).contains inside) = true := by
    cases h1 : look cc outside with
    | some x => rfl
    | none =>
      cases h2 : (cc.map (·.2)).contains inside with
      | true => rfl
      | false => exact absurd ⟨h1, h2⟩ hbad
  refine LWr.ifT (hb ▸ Tr.or2 (Tr.cp (Cp.in_ (i := outside) (Ev.name rfl ⟨_, rfl⟩) (Ev.name rfl hr))) fun _ => Tr.cp (Cp.inVals (i := inside) (Ev.name rfl ⟨_, rfl⟩) (Ev.name rfl hr))) ?_
  refine LWr.raise O (LW.callG O (gl_TableError _) (LW.args_cons (LW.str fun tk => LW.args_nil (LW.call O table_error fun r n' ⟨a, t, d', e1, e2, e3⟩ => ⟨a, t, some d', e1, by subst e3; exact fun p hp => (List.mem_cons.mp hp).elim (fun e => e ▸ .head _) fun e => .tail _ (.tail _ e), fun q hq => e2 q (.tail _ hq)⟩))))
set_option maxRecDepth 100000 in
set_option maxHeartbeats 8000000 in
theorem translate_old_g {w : Wd} {t P I S d : Addr} {oI oR0 : Obj} {kI kR : List (Int × Value)} {cc : List (Int × Int)} {port outside inside : Int} {tp to ti : Tok} {rest : Led} (hT : TunAt w rest t P I S) (hdI : oI.IsDictOf (IK w) kI) (loI : (I == sysModules) = false)
  (hId : I ≠ d) (hrI : ∀ p ∈ rest, p.1 ≠ I) (hrd : ∀ p ∈ rest, p.1 ≠ d) (hv : valueAt kI port = some (.ref d)) (hdR0 : oR0.IsDictOf (IK w) kR) (loR : (d == sysModules) = false) (hc : KvRel IsInt kR cc) (hl : look cc outside = none) (hb : (cc.map (·.2)).contains inside = false) (hsI : kI.length ≤ 1000) (hsR : kR.length ≤ 1000) :
  Does w 239 [.ref t, .int port tp, .int outside to, .int inside ti] ((I, oI) :: (d, oR0) :: rest) 30 300 (fun r news' => ∃ oI' oR', r = .none ∧ oI'.IsDictOf (IK w) (stored kI port (.ref d)) ∧ oR'.IsDictOf (IK w) (stored kR outside (.int inside ti)) ∧ news' = (I, oI') :: (d, oR') :: rest) := by
  refine Does.enterF (dep := 29) (un := 297) (binds := [(Str.ofString "self", .ref t), (Str.ofString "port", .int port tp), (Str.ofString "outside", .int outside to), (Str.ofString "inside", .int inside ti)]) (fn_239 _) (fun _ _ _ _ _ => rfl) (locs rfl) rfl rfl rfl (by decide) ?_
  intro c cdv hw hcl O
  subst hw
  refine St.asg_ (LW.getRaw O (.head _) hdI loI (Ev.tun_inside O (hT.mono (sub_tail (sub_tail (sub_refl rest)))) (Ev.name rfl rfl) rfl) (Ev.name rfl ⟨_, rfl⟩) fun D oD lD lo hD => ?_)
  rw [hv]
  refine LW.drop (n := (I, oI) :: (d, oR0) :: rest) (by repeat' (first | exact List.Mem.head _ | exact sub_refl _ | refine sub_cons ?_ ?_ | refine sub_tail ?_ | refine List.Mem.tail _ ?_)) ?_
  have hr : DictIn c.w (fun _ => IsInt) ((I, oI) :: (d, oR0) :: rest) (.ref d) cc := ⟨d, oR0, kR, rfl, .tail _ (.head _), hdR0, loR, hc⟩
  refine St.if0 (Tr.or2 (Tr.cp (Cp.in_ (i := outside) (Ev.name rfl ⟨_, rfl⟩) (Ev.name rfl hr))) fun _ => Tr.cp (Cp.inVals (i := inside) (Ev.name rfl ⟨_, rfl⟩) (Ev.name rfl hr))) (fun h => by rw [hl, hb] at h; cases h) fun _ => ?_
  refine LW.cons (LW.assign_sub (LW.name rfl (LW.name rfl (LW.name rfl (LW.drop (n := (d, oR0) :: (I, oI) :: rest) (by repeat' (first | exact List.Mem.head _ | exact sub_refl _ | refine sub_cons ?_ ?_ | refine sub_tail ?_ | refine List.Mem.tail _ ?_)) (LW.set_dict (.head (off_cons' hId hrd)) hdR0 (by exact hsR) fun oR' hR' => ?_))))))
  refine LW.cons (LW.assign_sub (LW.name rfl (Ev.go (Ev.tun_inside (W := Is (.ref I)) O (hT.mono (sub_tail (sub_tail (sub_refl rest)))) (Ev.name rfl rfl) rfl) fun _ q => ?_)))
  cases q
  refine LW.name rfl (LW.drop (n := (I, oI) :: (d, oR') :: rest) (by repeat' (first | exact List.Mem.head _ | exact sub_refl _ | refine sub_cons ?_ ?_ | refine sub_tail ?_ | refine List.Mem.tail _ ?_)) (LW.set_dict (.head (off_cons' (Ne.symm hId) hrI)) hdI hsI fun oI' hI' => LW.nil ?_))
  exact ⟨oI', oR', rfl, hI', hR', rfl⟩
set_option maxRecDepth 100000 in
set_option maxHeartbeats 8000000 in
theorem translate_new_g {w : Wd} {t P I S : Addr} {oI : Obj} {kI : List (Int × Value)} {port outside inside : Int} {tp to ti : Tok} {rest : Led} (hT : TunAt w rest t P I S) (hdI : oI.IsDictOf (IK w) kI) (loI : (I == sysModules) = false)
  (hrI : ∀ p ∈ rest, p.1 ≠ I) (hv : valueAt kI port = none) (hsI : kI.length ≤ 1000) :
  Does w 239 [.ref t, .int port tp, .int outside to, .int inside ti] ((I, oI) :: rest) 30 300 (fun r news' => ∃ d oI' oR', r = .none ∧ (d == sysModules) = false ∧ oI'.IsDictOf (IK w) (stored kI port (.ref d)) ∧ oR'.IsDictOf (IK w) [(outside, .int inside ti)] ∧ @LT.lt Nat _ I d ∧ (∀ q ∈ rest, @LT.lt Nat _ q.1 d) ∧ news' = (d, oR') :: (I, oI') :: rest) := by
  refine Does.enterF (dep := 29) (un := 297) (binds := [(Str.ofString "self", .ref t), (Str.ofString "port", .int port tp), (Str.ofString "outside", .int outside to), (Str.ofString "inside", .int inside ti)]) (fn_239 _) (fun _ _ _ _ _ => rfl) (locs rfl) rfl rfl rfl (by decide) ?_
  intro c cdv hw hcl O
  subst hw
  refine St.asg_ (LW.getRaw O (.head _) hdI loI (Ev.tun_inside O (hT.mono (sub_tail (sub_refl rest))) (Ev.name rfl rfl) rfl) (Ev.name rfl ⟨_, rfl⟩) fun D oR0 lD lo hdR0 => ?_)
  rw [hv]
  have hId : @LT.lt Nat _ I D := lD _ (.head _)
  have hrd : ∀ p ∈ rest, p.1 ≠ D := fun p hp => Nat.ne_of_lt (lD p (.tail _ hp))
  have hr : DictIn c.w (fun _ => IsInt) ((D, oR0) :: (I, oI) :: rest) (.ref D) [] := ⟨D, oR0, [], rfl, .head _, hdR0, lo, .nil⟩
  refine St.if0 (b := false) (Tr.or2 (b := false) (b' := false) (Tr.cp (Cp.in_ (i := outside) (cfg := []) (Ev.name rfl ⟨_, rfl⟩) (Ev.name rfl hr))) fun _ => Tr.cp (Cp.inVals (i := inside) (cc := []) (Ev.name rfl ⟨_, rfl⟩) (Ev.name rfl hr))) (fun h => nomatch h) fun _ => ?_
  refine LW.cons (LW.assign_sub (LW.name rfl (LW.name rfl (LW.name rfl (LW.drop (n := (D, oR0) :: (I, oI) :: rest) (by repeat' (first | exact List.Mem.head _ | exact sub_refl _ | refine sub_cons ?_ ?_ | refine sub_tail ?_ | refine List.Mem.tail _ ?_)) (LW.set_dict (.head (off_cons' (Nat.ne_of_lt hId) hrd)) hdR0 (by simp) fun oR' hR' => ?_))))))
  refine LW.cons (LW.assign_sub (LW.name rfl (Ev.go (Ev.tun_inside (W := Is (.ref I)) O (hT.mono (sub_tail (sub_tail (sub_refl rest)))) (Ev.name rfl rfl) rfl) fun _ q => ?_)))
  cases q
  refine LW.name rfl (LW.drop (n := (I, oI) :: (D, oR') :: rest) (by repeat' (first | exact List.Mem.head _ | exact sub_refl _ | refine sub_cons ?_ ?_ | refine sub_tail ?_ | refine List.Mem.tail _ ?_)) (LW.set_dict (.head (off_cons' (Nat.ne_of_gt hId) hrI)) hdI hsI fun oI' hI' => LW.drop (n := (D, oR') :: (I, oI') :: rest) (by repeat' (first | exact List.Mem.head _ | exact sub_refl _ | refine sub_cons ?_ ?_ | refine sub_tail ?_ | refine List.Mem.tail _ ?_)) (LW.nil ?_)))
  exact ⟨D, oI', oR', rfl, lo, hI', hR', hId, fun q hq => lD q (.tail _ hq), rfl⟩
end Mine
end
section
open PySem PySem.W PyProof.Rows PySem.Spec PySem.Calls
set_option Elab.async false
namespace Mine
def FreeEnd (G : Heap → Prop) (L : Addr) (J : (Str → Option Value) → Led → Prop) (own : Led) (s₁ s₂ : Shared) : Prop :=
  ∃ g h' tk m' news' nx, s₂ = { s₁ with heap := h', toks := tk } ∧ G g ∧ Fr g L h' m' ∧ News g L h' news' ∧ (∀ p ∈ nx, p ∈ news') ∧ (∀ p ∈ own, p ∈ news') ∧ OwnOff own (nx.map (·.1)) ∧ J m' nx
def FreePost (G : Heap → Prop) (L : Addr) (J : (Str → Option Value) → Led → Prop) (own : Led) (s₁ : Shared) (Q : Flow → Shared → Prop) (f : Flow) (s₂ : Shared) : Prop :=
  match f with
  | .ret v => Q (.ret v) s₂
  | .brk => Q .next s₂
  | _ => FreeEnd G L J own s₁ s₂
def LoopFree (prog : Program) (w : World) (A : Around) (env : Env) (x : Str) (px : Pos) (body : List Stmt) (Q : Flow → Shared → Prop) (E : Value → Shared → Prop) (it : Value) (s₂ : Shared) : Prop :=
  codeAny (model prog w) A (.forLoop (.Name x px) it body [] env) (fun r s' => match r with | .ok f => Q f s' | .error e => cameBackBy (model prog w) A env E e s') s₂
section
variable {prog : Program} {w : World} {A : Around} {E : Value → Shared → Prop} {s : Shared} {env : Env} {x : Str} {px pos : Pos} {body : List Stmt} {Q : Flow → Shared → Prop}
theorem For_free {iter : Expr} (h : wpAny (model prog w) A (eval iter env) (fun xv s₁ => wpAny (model prog w) A (pyIter xv) (fun it s₂ => LoopFree prog w A env x px body Q E it s₂) E s₁) E s)
    (hs : ∀ x, foldedSetIterable iter env x = pure x := by intro _; rfl) : wpAny (model prog w) A (exec (.For (.Name x px) iter body [] pos) env) Q E s := wpAny_For h hs
theorem loop_free {G : Heap → Prop} {g : Heap} {r : Addr} {a₀ b₀ : Int} {t₀ u₀ v₀ : Tok} {n : Nat} {m₀ : Str → Option Value} {news : Led} (stored : List Str) (J : Nat → Led → Prop)
    (hh : A.handled = none) (hr : IsRange s.heap r a₀ b₀ 1 t₀ u₀ v₀) (hsmall : Builtin.Range.small a₀ b₀ 1 = true) (hsz : Builtin.Range.rangeSize a₀ b₀ 1 = (n : Int)) (hG : G g) (F : Fr g env.locals s.heap m₀) (N : News g env.locals s.heap news) (hj : J 0 news)
    (turn : ∀ i t (u : Str → Option Value) g' nx h tk own, i < n → G g' → OwnOff own (nx.map (·.1)) → J i nx → Fr g' env.locals h (fun y => if y = x then some (.int (a₀ + (i : Int)) t) else if stored.contains y then u y else m₀ y) → News g' env.locals h (nx ++ own) →
      wpAny (model prog w) A (execs body env) (FreePost G env.locals (fun m' nx' => Like x stored m₀ m' ∧ J (i + 1) nx') own { s with heap := h, toks := tk } Q) E { s with heap := h, toks := tk })
    (done : ∀ (u : Str → Option Value) g' nx h tk, G g' → J n nx → Fr g' env.locals h (fun y => if y = x then u y else if stored.contains y then u y else m₀ y) → News g' env.locals h nx → Q .next { s with heap := h, toks := tk })
    (hx : env.kindOf x = some .local) (hp : (env.scope.kind == .class || (env.scope.kind == .module && env.locals != env.globals)) = false)
    (hE : PassesOwn (model prog w) A env E := by passes_own) :
    wpAny (model prog w) A (pyIter (.ref r)) (fun it s₂ => LoopFree prog w A env x px body Q E it s₂) E s := by
  refine wpAny_pyIter_range hr hsmall ?_
  have W : Walks prog w A s.heap.objs.size [s.heap.objs.size] [s.heap.objs.size] n (fun i v => i < n ∧ ∃ t, v = .int (a₀ + i * 1) t)
      (fun i h => IsRangeIter h s.heap.objs.size (a₀ + (i : Nat) * 1) ((n : Int) - (i : Nat)) 1) := (Walks.range hh _ a₀ 1 n).bound
  have hLI : env.locals ≠ s.heap.objs.size := Nat.ne_of_lt F.ns.lt
  unfold LoopFree
  refine codeAny_forLoop
    (fun k s' => ∃ h' tk m' g' nx i, s' = { s with heap := h', toks := tk } ∧ IsRangeIter h' s.heap.objs.size (a₀ + (i : Nat) * 1) ((n : Int) - (i : Nat)) 1 ∧ G g' ∧ Fr g' env.locals h' m' ∧ News g' env.locals h' nx ∧ (∀ p ∈ nx, p.1 ≠ s.heap.objs.size) ∧ g'.get? s.heap.objs.size = none ∧ Like x stored m₀ m' ∧ J i nx ∧ i ≤ n ∧ k = n + 1 - i) ?_ (n + 1)
    ⟨_, s.toks, m₀, g, news, 0, rfl, (by rw [hsz]; simpa using Heap.get?_push_size _ rfl), hG, F.push _, (fun p hp => ⟨Heap.get?_push_of_some _ (N p hp).1, (N p hp).2⟩), (fun p hp => Nat.ne_of_lt (Heap.lt_size (N p hp).1)), next_is_new F, fun _ _ _ => rfl, hj, Nat.zero_le _, rfl⟩
  rintro k s' ⟨h', tk, m', g', nx, i, rfl, hst', hG', F', N', hnw', hgI, hl, hJ, hi, rfl⟩
  have next : ∀ h₁ : Heap, (∀ b o, b ∉ [s.heap.objs.size] → h'.get? b = some o → h₁.get? b = some o) → Fr g' env.locals h₁ m' ∧ News g' env.locals h₁ nx := fun h₁ hk₁ =>
    ⟨⟨F'.ns.at' fun o e => hk₁ _ o (by simpa using hLI) e, fun b o e => hk₁ b o (by simp only [List.mem_singleton]; intro q; rw [q, hgI] at e; cases e) (F'.keep b o e), F'.above⟩, fun p hp => ⟨hk₁ _ _ (by simpa using hnw' p hp) (N' p hp).1, (N' p hp).2⟩⟩
  by_cases hlt : i < n
  · refine W.item i _ _ _ hlt hst' fun v h₁ tk₁ hP hst₁ hk₁ => ?_
    obtain ⟨F₁, N₁⟩ := next h₁ hk₁
    obtain ⟨_, t, rfl⟩ := hP
    rw [Int.mul_one]
    refine wpAny_assign_Name (wpAny_storeName_local hx F₁.ns (fun h₂ hn₂ hs₂ => ?_) hp)
    have F₂ := F₁.set hn₂ hs₂
    have hoI : ∃ o, h₁.get? s.heap.objs.size = some o := ⟨_, hst₁⟩
    obtain ⟨oI, hoI⟩ := hoI
    have hI₂ : h₂.get? s.heap.objs.size = some oI := (hs₂.2 _ (Ne.symm hLI)).trans hoI
    have N₂ : News g' env.locals h₂ (nx ++ [(s.heap.objs.size, oI)]) := fun p hp => (List.mem_append.mp hp).elim (fun hp => N₁.set hs₂ p hp) fun hp => by
      rw [List.mem_singleton.mp hp]; exact ⟨hI₂, Ne.symm hLI, hgI⟩
    have hoff : OwnOff [(s.heap.objs.size, oI)] (nx.map (·.1)) := fun p hp b hb e => by
      obtain ⟨q, hq, rfl⟩ := List.mem_map.mp hb
      rw [List.mem_singleton.mp hp] at e
      exact hnw' q hq e.symm
    refine wpAny_mono (wpAny_passesOwn hE (turn i t m' g' nx h₂ (tk₁ + 1) _ hlt hG' hoff hJ (hl.fr F₂) N₂)) (fun f s₃ h₃ => ?_) fun _ _ e => e
    have fin : FreeEnd G env.locals (fun m' nx' => Like x stored m₀ m' ∧ J (i + 1) nx') [(s.heap.objs.size, oI)] { s with heap := h₂, toks := tk₁ + 1 } s₃ →
        ∃ m, m < n + 1 - i ∧ ∃ h' tk m' g' nx i, s₃ = { s with heap := h', toks := tk } ∧ IsRangeIter h' s.heap.objs.size (a₀ + (i : Nat) * 1) ((n : Int) - (i : Nat)) 1 ∧ G g' ∧ Fr g' env.locals h' m' ∧ News g' env.locals h' nx ∧ (∀ p ∈ nx, p.1 ≠ s.heap.objs.size) ∧ g'.get? s.heap.objs.size = none ∧ Like x stored m₀ m' ∧ J i nx ∧ i ≤ n ∧ m = n + 1 - i := by
      rintro ⟨g₂, h₃', tk₃, m₂, news₂, nx₂, rfl, hG₂, F₃, N₃, hn, ho, ha, hl₂, hJ₂⟩
      have z := N₃ _ (ho _ (.head _))
      refine ⟨n + 1 - (i + 1), by omega, h₃', tk₃, m₂, g₂, nx₂, i + 1, rfl, ?_, hG₂, F₃, fun p hp => N₃ p (hn p hp), fun p hp e => ha _ (.head _) p.1 (List.mem_map.mpr ⟨p, hp, rfl⟩) e.symm, z.2.2, hl₂, hJ₂, hlt, rfl⟩
      refine W.frame _ _ _ hst₁ fun b hb o e => ?_
      rw [List.mem_singleton.mp hb] at e ⊢
      rw [hoI] at e
      cases e
      exact z.1
    cases f with
    | ret v => exact h₃
    | brk => exact h₃
    | cont => exact fin h₃
    | next => exact fin h₃
  · have hin : i = n := by omega
    subst hin
    refine W.done _ _ _ hst' fun h₁ tk₁ hk₁ => wpAny_execs_nil ?_
    obtain ⟨F₁, N₁⟩ := next h₁ hk₁
    have F₂ := hl.frOut F₁
    have e : (fun y => if y = x then m' x else if stored.contains y then m' y else m₀ y) = (fun y => if y = x then m' y else if stored.contains y then m' y else m₀ y) := by
      funext y; by_cases hx : y = x <;> simp [hx]
    exact done m' g' nx h₁ tk₁ hG' hJ (e ▸ F₂) N₁
end
/-- what a call that law itself makes does, where the callee catches: the ground below is law's own -/
def DoesT (w : Wd) (f : Addr) (args : List Value) (news : Led) (dep un : Nat) (R : Value → Led → Prop) : Prop :=
  ∀ (mean : ExcName → Option Value) (mg mb : Str → Option Value) (dp u : Nat) (gd : Option (List Code)) (cn : Str) (cs : Scope) (a : Addr) (ccd : Value) (A₀ : Around) (base h₀ : Heap) (L : Addr) (m : Str → Option Value) (s : Shared)
    (Q E : Value → Shared → Prop),
    Below A₀ base [] h₀ → Fr h₀ L s.heap m → w.K.In h₀ → News h₀ L s.heap news → Top w.V (looseW w.V [Str.ofString "Frame"]) mean mg mb h₀ → w.K.In base → Top w.V (looseW w.V [Str.ofString "Frame"]) mean mg mb base → cs.kind = .function →
    dp + dep < recursionLimit → u + un < cLine →
    (∀ r news' h' tk', Fr h₀ L h' m → News h₀ L h' news' → R r news' → Q r { s with heap := h', toks := tk' }) →
    wpAny (model PySem.Challenge.rw_pb0547_01.row.prog w.toWorld) (ktrTop dp u gd cn cs L a ccd [] []) (call (.ref f) args) Q E s
/-- what the ground keeps -/
def GroundOk (w : Wd) (A : Around) (base : Heap) (outer : List Env) (mean : ExcName → Option Value) (mg mb : Str → Option Value) (g₀ g : Heap) : Prop :=
  KtsTurn (outer.filterMap (·.frame)) g₀ g ∧ Below A base outer g ∧ w.K.In g ∧ Top w.V (looseW w.V [Str.ofString "Frame"]) mean mg mb g ∧ KtsDicts (outer.filterMap (·.frame)) g
end Mine
end
section
open PySem PySem.W PyProof.Rows PySem.Spec PySem.Calls
set_option Elab.async false
namespace Mine
/-- as KvRel, the key in the relation -/
inductive KvRelK {β : Type} (R : Int → Value → β → Prop) : List (Int × Value) → List (Int × β) → Prop
  | nil : KvRelK R [] []
  | cons {k : Int} {v : Value} {b : β} {kvs : List (Int × Value)} {c : List (Int × β)} : R k v b → KvRelK R kvs c → KvRelK R ((k, v) :: kvs) ((k, b) :: c)
section
variable {β : Type} {R R' : Int → Value → β → Prop} {kvs : List (Int × Value)} {c : List (Int × β)}
theorem KvRelK.rel {S : Value → β → Prop} (h : KvRelK R kvs c) (hs : ∀ k v b, R k v b → S v b) : KvRel S kvs c := by
  induction h with
  | nil => exact .nil
  | cons a _ ih => exact .cons (hs _ _ _ a) ih
theorem KvRelK.some (h : KvRelK R kvs c) {k : Int} {b : β} (hl : look c k = some b) : ∃ v, valueAt kvs k = some v ∧ R k v b := by
  induction h with
  | nil => simp [look] at hl
  | @cons k' v b' kvs c a _ ih =>
    by_cases e : k' = k
    · simp [look, e] at hl
      subst hl
      subst e
      exact ⟨v, by simp [valueAt], a⟩
    · have hl' : look c k = Option.some b := by simpa [look, e] using hl
      obtain ⟨v', h1, h2⟩ := ih hl'
      exact ⟨v', by simpa [valueAt, e] using h1, h2⟩
theorem KvRelK.none (h : KvRelK R kvs c) {k : Int} (hl : look c k = none) : valueAt kvs k = none := (h.rel (S := fun _ _ => True) fun _ _ _ _ => trivial).none hl
theorem KvRelK.put (h : KvRelK R kvs c) {p : Int} {v' : Value} {b' : β} (hm : ∀ k v b, k ≠ p → R k v b → R' k v b) (hv : R' p v' b') : KvRelK R' (stored kvs p v') (putK c p b') := by
  have ha : kvs.any (fun q => q.1 = p) = c.any (fun q => q.1 = p) := (h.rel (S := fun _ _ => True) fun _ _ _ _ => trivial).any p
  unfold stored putK
  rw [ha]
  by_cases hq : c.any (fun q => q.1 = p) = true
  · rw [if_pos hq, if_pos hq]
    clear ha hq
    induction h with
    | nil => exact .nil
    | @cons k v b kvs c a _ ih =>
      by_cases e : k = p
      · subst e
        simp only [List.map_cons, if_true]
        exact .cons hv (by simpa using ih)
      · simp only [List.map_cons, e, if_false]
        exact .cons (hm _ _ _ e a) (by simpa using ih)
  · rw [if_neg hq, if_neg hq]
    have hn : ∀ q ∈ c, q.1 ≠ p := fun q hq' e => hq (List.any_eq_true.mpr ⟨q, hq', by simp [e]⟩)
    clear ha hq
    induction h with
    | nil => exact .cons hv .nil
    | @cons k v b kvs c a _ ih => exact .cons (hm _ _ _ (hn _ (.head _)) a) (ih fun q hq => hn q (.tail _ hq))
end
theorem stored_length (kvs : List (Int × Value)) (k : Int) (v : Value) : (stored kvs k v).length ≤ kvs.length + 1 := by
  unfold stored
  split <;> simp
theorem inj_put {c : List (Int × Int)} (h : Inj c) {k v : Int} (hv : (c.map (·.2)).contains v = false) : Inj (putK c k v) := by
  intro a b y ha hb
  rw [look_put] at ha hb
  have no : ∀ j, look c j ≠ some v := fun j hj => by
    have hm : v ∈ c.map (·.2) := List.mem_map.mpr ⟨(j, v), look_mem hj, rfl⟩
    rw [← List.contains_iff_mem, hv] at hm
    cases hm
  split at ha
  · rename_i e1
    cases ha
    split at hb
    · rename_i e2; rw [e1, e2]
    · exact absurd hb (no b)
  · split at hb
    · cases hb; exact absurd ha (no a)
    · exact h a b y ha hb
theorem rowsOf_put {ins : List (Int × List (Int × Int))} {p k : Int} {c : List (Int × Int)} : rowsOf (putK ins p c) k = if k = p then c else rowsOf ins k := by
  unfold rowsOf
  rw [look_put]
  split <;> rfl
/-- a rows' dict: the one object of r -/
def RowAt (w : Wd) (r : Led) (v : Value) (c : List (Int × Int)) : Prop := ∃ (d : Addr) (o : Obj) (kvs : List (Int × Value)), v = .ref d ∧ r = [(d, o)] ∧ o.IsDictOf (IK w) kvs ∧ (d == sysModules) = false ∧ KvRel IsInt kvs c
def P89 (k : Int) : Prop := k = 8 ∨ k = 9
/-- what the loop of the translations keeps -/
structure TrS (w : Wd) (src I M : Addr) (f : Int → Addr) (i : Nat) (a b : Int) (oI : Obj) (kI : List (Int × Value)) (ins : List (Int × List (Int × Int))) (r : Int → Led) (o : Int → Obj) (kf : Int → List (Int × Value)) (c : Int → List (Int × Int)) : Prop where
  ha : 0 ≤ a
  hb : 0 ≤ b
  hb' : b < 2147483647
  hI : oI.IsDictOf (IK w) kI
  rel : KvRelK (fun k v c => P89 k ∧ RowAt w (r k) v c) kI ins
  no : ∀ k, P89 k → look ins k = none → r k = []
  len : kI.length ≤ i
  fnd : ∀ k, P89 k → (o k).IsDictOf (IK w) (kf k) ∧ KvRel IsInt (kf k) (c k) ∧ rowsOf ins k = c k ∧ Inj (c k) ∧ (c k).length ≤ i
  up : ∀ k, P89 k → ∀ p ∈ r k, @LT.lt Nat _ M p.1
  apart : ∀ p ∈ r 8, ∀ q ∈ r 9, p.1 ≠ q.1
def TrLed (src I : Addr) (f : Int → Addr) (fix : Led) (a b : Int) (ta tb : Tok) (n : Nat) (oI : Obj) (r : Int → Led) (o : Int → Obj) : Led :=
  (src, W.listOf #[.int a ta, .int b tb] n) :: (I, oI) :: (f 8, o 8) :: (f 9, o 9) :: (r 8 ++ (r 9 ++ fix))
def TrJ (w : Wd) (src I M : Addr) (f : Int → Addr) (fix : Led) (i : Nat) (nx : Led) : Prop :=
  ∃ (a b : Int) (ta tb : Tok) (n : Nat) (oI : Obj) (kI : List (Int × Value)) (ins : List (Int × List (Int × Int))) (r : Int → Led) (o : Int → Obj) (kf : Int → List (Int × Value)) (c : Int → List (Int × Int)),
    nx = TrLed src I f fix a b ta tb n oI r o ∧ TrS w src I M f i a b oI kI ins r o kf c
/-- the one of 8, 9 that p is not -/
def oth (p : Int) : Int := if p = 8 then 9 else 8
theorem tr_mem {f : Int → Addr} {o : Int → Obj} {r : Int → Led} {X : Led} {p : Int} (hp : P89 p) (x : Addr × Obj) :
    x ∈ (f 8, o 8) :: (f 9, o 9) :: (r 8 ++ (r 9 ++ X)) ↔ x ∈ (f p, o p) :: (r p ++ ((f (oth p), o (oth p)) :: (r (oth p) ++ X))) := by
  rcases hp with rfl | rfl
  · have e : oth 8 = 9 := rfl
    simp only [e, List.mem_cons, List.mem_append]
    constructor <;> (rintro (h | h | h | h | h) <;> simp [h])
  · have e : oth 9 = 8 := rfl
    simp only [e, List.mem_cons, List.mem_append]
    constructor <;> (rintro (h | h | h | h | h) <;> simp [h])
section
variable {w : Wd} {src I M : Addr} {f : Int → Addr} {i : Nat} {a b a' b' : Int} {oI oI' : Obj} {kI : List (Int × Value)} {ins : List (Int × List (Int × Int))} {r : Int → Led} {o : Int → Obj} {kf : Int → List (Int × Value)} {c : Int → List (Int × Int)} {p : Int}
theorem TrS.row_none (S : TrS w src I M f i a b oI kI ins r o kf c) (hp : P89 p) (hl : look ins p = none) : r p = [] ∧ valueAt kI p = none ∧ c p = [] := by
  refine ⟨S.no p hp hl, S.rel.none hl, ?_⟩
  have := (S.fnd p hp).2.2.1
  rw [← this]
  simp only [rowsOf, hl]; rfl
theorem TrS.row_some (S : TrS w src I M f i a b oI kI ins r o kf c) (hp : P89 p) {c' : List (Int × Int)} (hl : look ins p = some c') :
    ∃ d oR kR, r p = [(d, oR)] ∧ valueAt kI p = some (.ref d) ∧ oR.IsDictOf (IK w) kR ∧ (d == sysModules) = false ∧ KvRel IsInt kR (c p) := by
  obtain ⟨v, hv, _, d, oR, kR, rfl, hr, hd, lo, hk⟩ := S.rel.some hl
  have := (S.fnd p hp).2.2.1
  simp only [rowsOf, hl] at this
  have e : c' = c p := this
  rw [e] at hk
  exact ⟨d, oR, kR, hr, hv, hd, lo, hk⟩
theorem TrS.keep (S : TrS w src I M f i a b oI kI ins r o kf c) (ha : 0 ≤ a') (hb : 0 ≤ b') (hb' : b' < 2147483647) : TrS w src I M f (i + 1) a' b' oI kI ins r o kf c :=
  ⟨ha, hb, hb', S.hI, S.rel, S.no, Nat.le_succ_of_le S.len, fun k hk => ⟨(S.fnd k hk).1, (S.fnd k hk).2.1, (S.fnd k hk).2.2.1, (S.fnd k hk).2.2.2.1, Nat.le_succ_of_le (S.fnd k hk).2.2.2.2⟩, S.up, S.apart⟩
/-- one more translation at the port p -/
theorem TrS.put (S : TrS w src I M f i a b oI kI ins r o kf c) (hp : P89 p) (ha : 0 ≤ a') (hb : 0 ≤ b') (hb' : b' < 2147483647) {x y : Int} {t1 t2 : Tok} {d : Addr} {oR op : Obj} {kR : List (Int × Value)} (hval : ((c p).map (·.2)).contains y = false)
    (hI : oI'.IsDictOf (IK w) (stored kI p (.ref d))) (hR : oR.IsDictOf (IK w) (stored kR x (.int y t1))) (hkR : KvRel IsInt kR (c p)) (lo : (d == sysModules) = false) (hop : op.IsDictOf (IK w) (stored (kf p) x (.int y t2))) (hd : @LT.lt Nat _ M d) (hq : ∀ q ∈ r (oth p), q.1 ≠ d) :
    TrS w src I M f (i + 1) a' b' oI' (stored kI p (.ref d)) (putK ins p (putK (c p) x y)) (fun k => if k = p then [(d, oR)] else r k) (fun k => if k = p then op else o k) (fun k => if k = p then stored (kf p) x (.int y t2) else kf k) (fun k => if k = p then putK (c p) x y else c k) := by
  have hrow : RowAt w [(d, oR)] (.ref d) (putK (c p) x y) := ⟨d, oR, _, rfl, rfl, hR, lo, hkR.put ⟨_, rfl⟩⟩
  refine ⟨ha, hb, hb', hI, S.rel.put (fun k v b hk h => ?_) ?_, fun k hk hl => ?_, Nat.le_trans (stored_length _ _ _) (Nat.succ_le_succ S.len), fun k hk => ?_, fun k hk q hq' => ?_, ?_⟩
  · rw [if_neg hk]; exact h
  · rw [if_pos rfl]; exact ⟨hp, hrow⟩
  · rw [look_put] at hl
    by_cases e : k = p
    · rw [if_pos e] at hl; cases hl
    · rw [if_neg e] at hl
      show (if k = p then _ else _) = _
      rw [if_neg e]; exact S.no k hk hl
  · obtain ⟨h1, h2, h3, h4, h5⟩ := S.fnd k hk
    by_cases e : k = p
    · subst e
      simp only [if_true]
      exact ⟨hop, h2.put ⟨_, rfl⟩, by rw [rowsOf_put, if_pos rfl], inj_put h4 hval, Nat.le_trans (putK_length _ _ _) (Nat.succ_le_succ h5)⟩
    · simp only [e, if_false]
      exact ⟨h1, h2, by rw [rowsOf_put, if_neg e]; exact h3, h4, Nat.le_succ_of_le h5⟩
  · by_cases e : k = p
    · simp only [e, if_true, List.mem_singleton] at hq'
      rw [hq']; exact hd
    · simp only [e, if_false] at hq'
      exact S.up k hk q hq'
  · rcases hp with rfl | rfl
    · have e : oth 8 = 9 := rfl
      rw [e] at hq
      intro q h1 q' h2
      simp only [if_true, List.mem_singleton] at h1
      rw [if_neg (by decide)] at h2
      rw [h1]
      exact Ne.symm (hq q' h2)
    · have e : oth 9 = 8 := rfl
      rw [e] at hq
      intro q h1 q' h2
      rw [if_neg (by decide)] at h1
      simp only [if_true, List.mem_singleton] at h2
      rw [h2]
      exact hq q h1
end
theorem tr_cut {src I : Addr} {oI os : Obj} {f : Int → Addr} {o : Int → Obj} {r : Int → Led} {fix own : Led} {p : Int} (hp : P89 p) :
    ∀ x ∈ (src, os) :: (I, oI) :: (f p, o p) :: (r p ++ ((f (oth p), o (oth p)) :: (r (oth p) ++ (fix ++ own)))), x ∈ (src, os) :: ((I, oI) :: (f 8, o 8) :: (f 9, o 9) :: (r 8 ++ (r 9 ++ fix)) ++ own) := fun x hx => by
  rcases List.mem_cons.mp hx with h | h
  · exact h ▸ .head _
  · rcases List.mem_cons.mp h with h | h
    · exact .tail _ (h ▸ .head _)
    · have e := (tr_mem (f := f) (o := o) (r := r) (X := fix ++ own) hp x).mpr h
      simp only [List.mem_cons, List.mem_append, List.cons_append] at e ⊢
      rcases e with h | h | h | h | h | h <;> simp [h]
section
variable {w : Wd} {src I M : Addr} {f : Int → Addr} {i : Nat} {a b a' b' : Int} {ta tb ta' tb' : Tok} {n n' tk : Nat} {oI oI' : Obj} {kI : List (Int × Value)} {ins : List (Int × List (Int × Int))} {r : Int → Led} {o : Int → Obj} {kf : Int → List (Int × Value)} {c : Int → List (Int × Int)} {p : Int}
  {fix own X : Led}
theorem tr_keep_end (hX : (f (oth p), o (oth p)) :: (r (oth p) ++ (fix ++ own)) = X) (S : TrS w src I M f i a b oI kI ins r o kf c) (hp : P89 p)
    (ha : 0 ≤ a') (hb : 0 ≤ b') (hb' : b' < 2147483647) (hoff : OwnOff own ((TrLed src I f fix a b ta tb n oI r o).map (·.1))) :
    ∃ nx : Led, (∀ z ∈ nx, z ∈ (src, W.listOf #[.int a' ta', .int b' tb'] n') :: (I, oI) :: (f p, o p) :: (r p ++ X)) ∧ (∀ z ∈ own, z ∈ (src, W.listOf #[.int a' ta', .int b' tb'] n') :: (I, oI) :: (f p, o p) :: (r p ++ X)) ∧ OwnOff own (nx.map (·.1)) ∧ TrJ w src I M f fix (i + 1) nx := by
  subst hX
  have e := fun z => (tr_mem (f := f) (o := o) (r := r) (X := fix ++ own) hp z).mp
  refine ⟨TrLed src I f fix a' b' ta' tb' n' oI r o, fun z hz => ?_, fun z hz => ?_, hoff, a', b', ta', tb', n', oI, kI, ins, r, o, kf, c, rfl, S.keep ha hb hb'⟩
  · have e := e z
    simp only [TrLed, List.mem_cons, List.mem_append] at hz e ⊢
    rcases hz with h | h | h | h | h | h | h
    · simp [h]
    · simp [h]
    · exact .inr (.inr (e (.inl h)))
    · exact .inr (.inr (e (.inr (.inl h))))
    · exact .inr (.inr (e (.inr (.inr (.inl h)))))
    · exact .inr (.inr (e (.inr (.inr (.inr (.inl h))))))
    · exact .inr (.inr (e (.inr (.inr (.inr (.inr (.inl h)))))))
  · simp [hz]
theorem tr_put_end {d : Addr} {oR op : Obj} {kR : List (Int × Value)} {xk y : Int} {t1 t2 : Tok} (hX : (f (oth p), o (oth p)) :: (r (oth p) ++ (fix ++ own)) = X) (S : TrS w src I M f i a b oI kI ins r o kf c) (hp : P89 p)
    (ha : 0 ≤ a') (hb : 0 ≤ b') (hb' : b' < 2147483647) (hoff : OwnOff own ((TrLed src I f fix a b ta tb n oI r o).map (·.1))) (hval : ((c p).map (·.2)).contains y = false)
    (hI : oI'.IsDictOf (IK w) (stored kI p (.ref d))) (hR : oR.IsDictOf (IK w) (stored kR xk (.int y t1))) (hkR : KvRel IsInt kR (c p)) (lo : (d == sysModules) = false) (hop : op.IsDictOf (IK w) (stored (kf p) xk (.int y t2))) (hd : @LT.lt Nat _ M d) (hXd : ∀ q ∈ X, q.1 ≠ d) :
    ∃ nx : Led, (∀ z ∈ nx, z ∈ (src, W.listOf #[.int a' ta', .int b' tb'] n') :: (I, oI') :: (f p, op) :: (d, oR) :: X) ∧ (∀ z ∈ own, z ∈ (src, W.listOf #[.int a' ta', .int b' tb'] n') :: (I, oI') :: (f p, op) :: (d, oR) :: X) ∧ OwnOff own (nx.map (·.1)) ∧ TrJ w src I M f fix (i + 1) nx := by
  subst hX
  have S' := S.put (a' := a') (b' := b') hp ha hb hb' hval hI hR hkR lo hop hd fun q hq => hXd q (.tail _ (List.mem_append_left _ hq))
  refine ⟨TrLed src I f fix a' b' ta' tb' n' oI' (fun k => if k = p then [(d, oR)] else r k) (fun k => if k = p then op else o k), fun z hz => ?_, fun z hz => ?_, fun q hq b hb e => ?_, a', b', ta', tb', n', oI', _, _, _, _, _, _, rfl, S'⟩
  · rcases hp with rfl | rfl
    · have e8 : oth 8 = 9 := rfl
      simp only [TrLed, e8, if_true, if_neg (by decide : ¬ (9 : Int) = 8), List.mem_cons, List.mem_append, List.not_mem_nil, or_false] at hz ⊢
      rcases hz with h | h | h | h | h | h | h <;> simp [h]
    · have e9 : oth 9 = 8 := rfl
      simp only [TrLed, e9, if_true, if_neg (by decide : ¬ (8 : Int) = 9), List.mem_cons, List.mem_append, List.not_mem_nil, or_false] at hz ⊢
      rcases hz with h | h | h | h | h | h | h <;> simp [h]
  · simp [hz]
  · have hdn : q.1 ≠ d := hXd q (.tail _ (List.mem_append_right _ (List.mem_append_right _ hq)))
    have ho : ∀ b' ∈ (TrLed src I f fix a b ta tb n oI r o).map (·.1), q.1 ≠ b' := fun b' h' => hoff q hq b' h'
    rcases hp with rfl | rfl
    · simp only [TrLed, if_true, if_neg (by decide : ¬ (9 : Int) = 8), List.map_cons, List.map_append, List.map_nil, List.mem_cons, List.mem_append, List.not_mem_nil, or_false] at hb ho
      rcases hb with h | h | h | h | h | h | h
      · exact ho b (.inl h) e
      · exact ho b (.inr (.inl h)) e
      · exact ho b (.inr (.inr (.inl h))) e
      · exact ho b (.inr (.inr (.inr (.inl h)))) e
      · exact hdn (e.trans h)
      · exact ho b (.inr (.inr (.inr (.inr (.inr (.inl h)))))) e
      · exact ho b (.inr (.inr (.inr (.inr (.inr (.inr h)))))) e
    · simp only [TrLed, if_true, if_neg (by decide : ¬ (8 : Int) = 9), List.map_cons, List.map_append, List.map_nil, List.mem_cons, List.mem_append, List.not_mem_nil, or_false] at hb ho
      rcases hb with h | h | h | h | h | h | h
      · exact ho b (.inl h) e
      · exact ho b (.inr (.inl h)) e
      · exact ho b (.inr (.inr (.inl h))) e
      · exact ho b (.inr (.inr (.inr (.inl h)))) e
      · exact ho b (.inr (.inr (.inr (.inr (.inl h))))) e
      · exact hdn (e.trans h)
      · exact ho b (.inr (.inr (.inr (.inr (.inr (.inr h)))))) e
end
structure TrFix (src I M : Addr) (f : Int → Addr) (fix : Led) : Prop where
  s : @LT.lt Nat _ src (f 8)
  i : @LT.lt Nat _ I (f 8)
  f89 : @LT.lt Nat _ (f 8) (f 9)
  m : f 9 = M
  si : src ≠ I
  fx : ∀ p ∈ fix, @LT.lt Nat _ p.1 M ∧ p.1 ≠ src ∧ p.1 ≠ I ∧ p.1 ≠ f 8
section
variable {w : Wd} {src I M : Addr} {f : Int → Addr} {i : Nat} {a b : Int} {ta tb : Tok} {n : Nat} {oI : Obj} {kI : List (Int × Value)} {ins : List (Int × List (Int × Int))} {r : Int → Led} {o : Int → Obj} {kf : Int → List (Int × Value)} {c : Int → List (Int × Int)} {p : Int} {fix own : Led}
theorem TrFix.lts (T : TrFix src I M f fix) : @LT.lt Nat _ src M ∧ @LT.lt Nat _ I M ∧ @LT.lt Nat _ (f 8) M := by
  have h1 := T.s
  have h2 := T.i
  have h3 := T.f89
  have h4 := T.m
  subst h4
  exact ⟨Nat.lt_trans h1 h3, Nat.lt_trans h2 h3, h3⟩
theorem tr_all (T : TrFix src I M f fix) (S : TrS w src I M f i a b oI kI ins r o kf c) (hoff : OwnOff own ((TrLed src I f fix a b ta tb n oI r o).map (·.1))) :
    (f 8 ≠ src ∧ f 8 ≠ I ∧ f 9 ≠ src ∧ f 9 ≠ I ∧ f 9 ≠ f 8) ∧ (∀ k, P89 k → ∀ z ∈ r k, z.1 ≠ src ∧ z.1 ≠ I ∧ z.1 ≠ f 8 ∧ z.1 ≠ f 9) ∧ (∀ z ∈ fix, z.1 ≠ src ∧ z.1 ≠ I ∧ z.1 ≠ f 8 ∧ z.1 ≠ f 9) ∧ (∀ z ∈ own, z.1 ≠ src ∧ z.1 ≠ I ∧ z.1 ≠ f 8 ∧ z.1 ≠ f 9) := by
  obtain ⟨l1, l2, l3⟩ := T.lts
  have h1 := T.s
  have h2 := T.i
  have h3 := T.f89
  have h4 := T.m
  refine ⟨⟨Nat.ne_of_gt h1, Nat.ne_of_gt h2, Nat.ne_of_gt (Nat.lt_trans h1 h3), Nat.ne_of_gt (Nat.lt_trans h2 h3), Nat.ne_of_gt h3⟩, fun k hk z hz => ?_, fun z hz => ?_, fun z hz => ?_⟩
  · have := S.up k hk z hz
    rw [h4]
    exact ⟨Nat.ne_of_gt (Nat.lt_trans l1 this), Nat.ne_of_gt (Nat.lt_trans l2 this), Nat.ne_of_gt (Nat.lt_trans l3 this), Nat.ne_of_gt this⟩
  · obtain ⟨q1, q2, q3, q4⟩ := T.fx z hz
    rw [h4]
    exact ⟨q2, q3, q4, Nat.ne_of_lt q1⟩
  · exact ⟨hoff z hz _ (.head _), hoff z hz _ (.tail _ (.head _)), hoff z hz _ (.tail _ (.tail _ (.head _))), hoff z hz _ (.tail _ (.tail _ (.tail _ (.head _))))⟩
theorem tr_R0 (T : TrFix src I M f fix) (S : TrS w src I M f i a b oI kI ins r o kf c) (hoff : OwnOff own ((TrLed src I f fix a b ta tb n oI r o).map (·.1))) : ∀ z ∈ ((I, oI) :: (f 8, o 8) :: (f 9, o 9) :: (r 8 ++ (r 9 ++ fix)) ++ own), z.1 ≠ src := by
  obtain ⟨⟨q1, q2, q3, q4, q5⟩, h2, h3, h4⟩ := tr_all T S hoff
  intro z hz
  simp only [List.mem_cons, List.mem_append, List.cons_append] at hz
  rcases hz with rfl | rfl | rfl | (hz | hz | hz) | hz
  · exact Ne.symm T.si
  · exact q1
  · exact q3
  · exact (h2 8 (.inl rfl) z hz).1
  · exact (h2 9 (.inr rfl) z hz).1
  · exact (h3 z hz).1
  · exact (h4 z hz).1
theorem tr_X (T : TrFix src I M f fix) (S : TrS w src I M f i a b oI kI ins r o kf c) (hp : P89 p) (hoff : OwnOff own ((TrLed src I f fix a b ta tb n oI r o).map (·.1))) : (f p ≠ src ∧ f p ≠ I ∧ src ≠ f p ∧ I ≠ f p) ∧ ∀ z ∈ (f (oth p), o (oth p)) :: (r (oth p) ++ (fix ++ own)), z.1 ≠ src ∧ z.1 ≠ I ∧ z.1 ≠ f p := by
  obtain ⟨⟨q1, q2, q3, q4, q5⟩, h2, h3, h4⟩ := tr_all T S hoff
  rcases hp with rfl | rfl
  · have e : oth 8 = 9 := rfl
    rw [e]
    refine ⟨⟨q1, q2, Ne.symm q1, Ne.symm q2⟩, fun z hz => ?_⟩
    simp only [List.mem_cons, List.mem_append] at hz
    rcases hz with rfl | hz | hz | hz
    · exact ⟨q3, q4, q5⟩
    · have := h2 9 (.inr rfl) z hz; exact ⟨this.1, this.2.1, this.2.2.1⟩
    · have := h3 z hz; exact ⟨this.1, this.2.1, this.2.2.1⟩
    · have := h4 z hz; exact ⟨this.1, this.2.1, this.2.2.1⟩
  · have e : oth 9 = 8 := rfl
    rw [e]
    refine ⟨⟨q3, q4, Ne.symm q3, Ne.symm q4⟩, fun z hz => ?_⟩
    simp only [List.mem_cons, List.mem_append] at hz
    rcases hz with rfl | hz | hz | hz
    · exact ⟨q1, q2, Ne.symm q5⟩
    · have := h2 8 (.inl rfl) z hz; exact ⟨this.1, this.2.1, this.2.2.2⟩
    · have := h3 z hz; exact ⟨this.1, this.2.1, this.2.2.2⟩
    · have := h4 z hz; exact ⟨this.1, this.2.1, this.2.2.2⟩
/-- the rows' dict of p is none of the others -/
theorem tr_old {d : Addr} {oR : Obj} (T : TrFix src I M f fix) (S : TrS w src I M f i a b oI kI ins r o kf c) (hp : P89 p) (hr : r p = [(d, oR)]) (hoff : OwnOff own ((TrLed src I f fix a b ta tb n oI r o).map (·.1))) :
    @LT.lt Nat _ M d ∧ d ≠ src ∧ d ≠ I ∧ d ≠ f p ∧ ∀ z ∈ (f (oth p), o (oth p)) :: (r (oth p) ++ (fix ++ own)), z.1 ≠ d := by
  obtain ⟨l1, l2, l3⟩ := T.lts
  have hd : @LT.lt Nat _ M d := S.up p hp (d, oR) (by rw [hr]; exact .head _)
  have h4 := T.m
  have hfx : ∀ z ∈ fix, z.1 ≠ d := fun z hz => Nat.ne_of_lt (Nat.lt_trans (T.fx z hz).1 hd)
  have d8 : f 8 ≠ d := Nat.ne_of_lt (Nat.lt_trans l3 hd)
  have d9 : f 9 ≠ d := by rw [h4]; exact Nat.ne_of_lt hd
  refine ⟨hd, Nat.ne_of_gt (Nat.lt_trans l1 hd), Nat.ne_of_gt (Nat.lt_trans l2 hd), ?_, fun z hz => ?_⟩
  · rcases hp with rfl | rfl
    · exact Ne.symm d8
    · exact Ne.symm d9
  · have hown : ∀ z ∈ own, z.1 ≠ d := fun z hz => hoff z hz d (by
      rcases hp with rfl | rfl
      · simp only [TrLed, hr]; simp
      · simp only [TrLed, hr]; simp)
    rcases hp with rfl | rfl
    · have e : oth 8 = 9 := rfl
      rw [e] at hz
      simp only [List.mem_cons, List.mem_append] at hz
      rcases hz with rfl | hz | hz | hz
      · exact d9
      · exact Ne.symm (S.apart (d, oR) (by rw [hr]; exact .head _) z hz)
      · exact hfx z hz
      · exact hown z hz
    · have e : oth 9 = 8 := rfl
      rw [e] at hz
      simp only [List.mem_cons, List.mem_append] at hz
      rcases hz with rfl | hz | hz | hz
      · exact d8
      · exact S.apart z hz (d, oR) (by rw [hr]; exact .head _)
      · exact hfx z hz
      · exact hown z hz
theorem tr_above {d : Addr} (T : TrFix src I M f fix) (hp : P89 p) (h1 : @LT.lt Nat _ (f p) d) (h2 : @LT.lt Nat _ (f (oth p)) d) : @LT.lt Nat _ M d := by
  have h4 := T.m
  subst h4
  rcases hp with rfl | rfl
  · exact h2
  · exact h1
end
theorem tr_zero {w : Wd} {src I M : Addr} {f : Int → Addr} {fix : Led} {a b : Int} {ta tb : Tok} {n : Nat} {oI : Obj} {o : Int → Obj} (ha : 0 ≤ a) (hb : 0 ≤ b) (hb' : b < 2147483647) (hI : oI.IsDictOf (IK w) []) (h8 : (o 8).IsDictOf (IK w) []) (h9 : (o 9).IsDictOf (IK w) []) :
    TrJ w src I M f fix 0 (TrLed src I f fix a b ta tb n oI (fun _ => []) o) :=
  ⟨a, b, ta, tb, n, oI, [], [], fun _ => [], o, fun _ => [], fun _ => [], rfl, ha, hb, hb', hI, .nil, fun _ _ _ => rfl, Nat.le_refl _, fun k hk => ⟨by rcases hk with rfl | rfl; exact h8; exact h9, .nil, rfl, fun _ _ _ h => (by simp [look] at h), Nat.le_refl _⟩, fun _ _ _ h => (nomatch h), fun _ h => (nomatch h)⟩
theorem Raises.use {w : Wd} {f : Addr} {args : List Value} {news : Led} {C : Addr} {dep un : Nat} (D : Raises w f args news C dep un) {mean : ExcName → Option Value} {mg mb : Str → Option Value} {dp u : Nat} {gd : Option (List Code)} {cn : Str} {cs : Scope} {a : Addr} {ccd : Value} {outer : List Env} {A₀ : Around} {base h₀ : Heap} {L : Addr} {m : Str → Option Value} {s : Shared}
    {Q E : Value → Shared → Prop} (B : Below A₀ base outer h₀) (F : Fr h₀ L s.heap m) (X : w.K.In h₀) (N : News h₀ L s.heap news) (T : Top w.V (looseW w.V [Str.ofString "Frame"]) mean mg mb h₀) (hk : cs.kind = .function) (hd : dp + dep < recursionLimit) (hu : u + un < cLine)
    (h : ∀ g e h' tk', Fr h₀ L g m → RaisedSN base g (envOf cn cs L a ccd :: outer) e (.ref C) news h' → g.UpToSlots h' → E (.ref e) { s with heap := h', toks := tk' }) :
    wpAny (model PySem.Challenge.rw_pb0547_01.row.prog w.toWorld) (ktrTop dp u gd cn cs L a ccd [] outer) (call (.ref f) args) Q E s := D _ _ _ _ _ _ _ _ _ _ _ _ _ _ _ _ _ _ _ B F X N T hk hd hu h
/-- what the law's translations give -/
def TransOut (w : Wd) (src I : Addr) (rest : Led) (r : Value) (news' : Led) : Prop :=
  ∃ (V : Addr) (a b : Int) (ta tb : Tok) (n : Nat) (ins fnd : List (Int × List (Int × Int))) (R' : Led), r = .ref V ∧ 0 ≤ a ∧ 0 ≤ b ∧ b < 2147483647 ∧ DictIn w (IntDict w) R' (.ref I) ins ∧ DictIn w (IntDict w) R' (.ref V) fnd ∧
    (∀ k, P89 k → ∃ c, look fnd k = some c ∧ rowsOf ins k = c ∧ Inj c ∧ c.length ≤ 10) ∧ (∀ x ∈ R', x.1 ≠ src ∧ ∀ q ∈ rest, x.1 ≠ q.1) ∧ news' = (src, W.listOf #[.int a ta, .int b tb] n) :: (R' ++ rest)
theorem tr_out {w : Wd} {src I M V : Addr} {f : Int → Addr} {i : Nat} {a b : Int} {ta tb : Tok} {n : Nat} {oI oV : Obj} {kI : List (Int × Value)} {ins : List (Int × List (Int × Int))} {r : Int → Led} {o : Int → Obj} {kf : Int → List (Int × Value)} {c : Int → List (Int × Int)} {fix rest : Led}
    (hfix : fix = (V, oV) :: rest) (T : TrFix src I M f fix) (S : TrS w src I M f i a b oI kI ins r o kf c) (loI : (I == sysModules) = false) (loV : (V == sysModules) = false) (hlo : ∀ p, P89 p → (f p == sysModules) = false)
    (hdV : oV.IsDictOf (IK w) [((8 : Int), Value.ref (f 8)), (9, Value.ref (f 9))]) (hrest : ∀ q ∈ rest, @LT.lt Nat _ q.1 V) (hi : i ≤ 10) : ∃ news' : Led, (∀ p ∈ news', p ∈ TrLed src I f fix a b ta tb n oI r o) ∧ TransOut w src I rest (.ref V) news' := by
  obtain ⟨⟨q1, q2, q3, q4, q5⟩, h2, h3, h4⟩ := tr_all (own := []) (ta := ta) (tb := tb) (n := n) T S fun p hp => nomatch hp
  have hVf := T.fx (V, oV) (by rw [hfix]; exact .head _)
  have hrf : ∀ q ∈ rest, @LT.lt Nat _ q.1 M ∧ q.1 ≠ src ∧ q.1 ≠ I ∧ q.1 ≠ f 8 := fun q hq => T.fx q (by rw [hfix]; exact .tail _ hq)
  have h8 := S.fnd 8 (.inl rfl)
  have h9 := S.fnd 9 (.inr rfl)
  have hM := T.m
  have m8 : ∀ p ∈ r 8, p ∈ (I, oI) :: (V, oV) :: (f 8, o 8) :: (f 9, o 9) :: (r 8 ++ r 9) := fun p hp => .tail _ (.tail _ (.tail _ (.tail _ (List.mem_append_left _ hp))))
  have m9 : ∀ p ∈ r 9, p ∈ (I, oI) :: (V, oV) :: (f 8, o 8) :: (f 9, o 9) :: (r 8 ++ r 9) := fun p hp => .tail _ (.tail _ (.tail _ (.tail _ (List.mem_append_right _ hp))))
  refine ⟨_, fun p hp => ?_, V, a, b, ta, tb, n, ins, [(8, c 8), (9, c 9)], (I, oI) :: (V, oV) :: (f 8, o 8) :: (f 9, o 9) :: (r 8 ++ r 9), rfl, S.ha, S.hb, S.hb', ⟨I, oI, kI, rfl, .head _, S.hI, loI, S.rel.rel ?_⟩,
    ⟨V, oV, _, rfl, .tail _ (.head _), hdV, loV, .cons ⟨f 8, o 8, kf 8, rfl, .tail _ (.tail _ (.head _)), h8.1, hlo 8 (.inl rfl), h8.2.1⟩ (.cons ⟨f 9, o 9, kf 9, rfl, .tail _ (.tail _ (.tail _ (.head _))), h9.1, hlo 9 (.inr rfl), h9.2.1⟩ .nil)⟩, ?_, ?_, rfl⟩
  · rw [hfix]
    simp only [TrLed, List.mem_cons, List.mem_append, List.cons_append] at hp ⊢
    rcases hp with h | h | h | h | h | (h | h) | h <;> simp [h]
  · rintro k v b ⟨hk, d, oo, kvs, e, hr, hd, lo, hkv⟩
    refine ⟨d, oo, kvs, e, ?_, hd, lo, hkv⟩
    rcases hk with rfl | rfl
    · exact m8 _ (by rw [hr]; exact .head _)
    · exact m9 _ (by rw [hr]; exact .head _)
  · rintro k (rfl | rfl)
    · exact ⟨c 8, by simp [look], h8.2.2.1, h8.2.2.2.1, Nat.le_trans h8.2.2.2.2 hi⟩
    · exact ⟨c 9, by simp [look], h9.2.2.1, h9.2.2.2.1, Nat.le_trans h9.2.2.2.2 hi⟩
  · intro x hx
    have up : ∀ k, P89 k → ∀ z ∈ r k, ∀ q ∈ rest, z.1 ≠ q.1 := fun k hk z hz q hq => Nat.ne_of_gt (Nat.lt_trans (hrf q hq).1 (S.up k hk z hz))
    simp only [List.mem_cons, List.mem_append] at hx
    rcases hx with rfl | rfl | rfl | rfl | hx | hx
    · exact ⟨Ne.symm T.si, fun q hq => Ne.symm (hrf q hq).2.2.1⟩
    · exact ⟨hVf.2.1, fun q hq => Nat.ne_of_gt (hrest q hq)⟩
    · exact ⟨q1, fun q hq => Ne.symm (hrf q hq).2.2.2⟩
    · exact ⟨q3, fun q hq => by show f 9 ≠ q.1; rw [hM]; exact Nat.ne_of_gt (hrf q hq).1⟩
    · exact ⟨(h2 8 (.inl rfl) x hx).1, up 8 (.inl rfl) x hx⟩
    · exact ⟨(h2 9 (.inr rfl) x hx).1, up 9 (.inr rfl) x hx⟩
end Mine
end
section
open PySem PySem.W PyProof.Rows PySem.Spec PySem.Calls PyProof.Rows.LCg
set_option Elab.async false
namespace Mine
/-- what the ground of a frame keeps when an exception has been caught -/
def GOk (c : Ctx) (g : Heap) : Prop := GroundOk c.w c.A₀ c.base c.outer c.mean c.mg c.mb c.h₀ g
abbrev Ctx.at_ (c : Ctx) (g : Heap) : Ctx := { c with h₀ := g }
/-- the posts for exceptions: an exception passes through the frame, a caught one too -/
def EOkT (c : Ctx) (f : Fn) : Type := { E : Value → Shared → Prop // PassesOwn c.M (c.A f) (c.env f) E ∧ ∀ e, PassesOwnAt c.M ((c.A f).mark (some (.ref e))) (c.A f) (c.env f) E }
/-- the walk, the ground may turn -/
def LWG {α : Type} (c : Ctx) (g₀ : Heap) (f : Fn) (l : Loc) (n : Led) (e : Sem α) (R : α → Loc → Led → Prop) : Prop :=
  ∀ (s : Shared) (Q : α → Shared → Prop) (E : EOkT c f), Fr g₀ c.L s.heap (lk l) → News g₀ c.L s.heap n →
    (∀ g v h' tk l' n', GOk c g → Fr g c.L h' (lk l') → News g c.L h' n' → R v l' n' → Q v { s with heap := h', toks := tk }) → wpAny c.M (c.A f) e Q E.1 s
/-- an exception of the class C is raised, the ledger XN kept -/
def LWx {α : Type} (c : Ctx) (f : Fn) (l : Loc) (n : Led) (e : Sem α) (C : Addr) (XN : Led) : Prop :=
  ∀ (s : Shared) (Q : α → Shared → Prop) (E : EOk c f), Fr c.h₀ c.L s.heap (lk l) → News c.h₀ c.L s.heap n →
    (∀ g e h' tk, Fr c.h₀ c.L g (lk l) → RaisedSN c.base g (c.env f :: c.outer) e (.ref C) XN h' → g.UpToSlots h' → E.1 (.ref e) { s with heap := h', toks := tk }) → wpAny c.M (c.A f) e Q E.1 s
/-- what stands to be shown of a loop over a range, m turns, the ground may turn -/
def RgG (c : Ctx) (f : Fn) (l : Loc) (x : Str) (body rest : List Stmt) (R : Flow → Loc → Led → Prop) (st : List Str) (m : Nat) (n : Led) : Prop :=
  ∃ J : Nat → Led → Prop, J 0 n ∧ (∀ g i t (us : Loc) nx own, GOk c g → i < m → OwnOff own (nx.map (·.1)) → J i nx →
      LWG c g f ((x, .int (0 + (i : Int)) t) :: (drop_ (x :: st) l ++ us)) (nx ++ own) (execs body (c.env f)) (TurnJ R x ((x, .int (0 + (i : Int)) t) :: (drop_ (x :: st) l ++ us)) st own (J (i + 1)))) ∧
    ∀ g (us : Loc) nx, GOk c g → (∀ z, (x :: st).contains z = false → us.lookup z = none) → J m nx → LWG c g f (drop_ (x :: st) l ++ us) nx (execs rest (c.env f)) R
section
variable {c : Ctx} {f : Fn} {l : Loc} {n n2 XN : Led} {pos pos' p1 p2 p3 p4 ps px np hp : Pos} {k k1 k2 d u dep un m : Nat} {R : Value → Loc → Led → Prop} {RF : Flow → Loc → Led → Prop} {x x1 x2 x3 : Str} {e e1 e2 e3 o : PySem.Expr} {es : List PySem.Expr} {g g₀ : Heap} {a y dx C : Addr} {args : List Value} {body rest b1 b2 suite : List Stmt} {st b₀ : Stmt} {hs : List ExceptHandler} {pl : Sem Bool} {nm : Str} {ens : List DictEntry}
theorem GOk.ok (G : GOk c g) (O : c.Ok d u) : (c.at_ g).Ok d u := ⟨G.2.1, G.2.2.1, G.2.2.2.1, O.hd, O.hu⟩
theorem LWG.of {α : Type} {e : Sem α} {R : α → Loc → Led → Prop} (G : GOk c g₀) (h : LW (c.at_ g₀) f l n e R) : LWG c g₀ f l n e R := fun s Q E F N q =>
  h s Q ⟨E.1, E.2.1⟩ F N fun v h' tk l' n' F' N' r => q g₀ v h' tk l' n' G F' N' r
theorem LWG.drop {α : Type} {e : Sem α} {R : α → Loc → Led → Prop} (g : ∀ p ∈ n, p ∈ n2) (h : LWG c g₀ f l n e R) : LWG c g₀ f l n2 e R := fun s Q E F N q => h s Q E F (fun p hp => N p (g p hp)) q
theorem LWG.nil (G : GOk c g₀) (h : RF .next l n) : LWG c g₀ f l n (execs [] (c.env f)) RF := fun s Q E F N q => wpAny_execs_nil (q g₀ _ s.heap s.toks l n G F N h)
theorem LWG.cons (h : LW (c.at_ g₀) f l n (exec st (c.env f)) (fun fl l' n' => fl = .next ∧ LWG c g₀ f l' n' (execs rest (c.env f)) RF)) : LWG c g₀ f l n (execs (st :: rest) (c.env f)) RF := fun s Q E F N q =>
  wpAny_execs_cons (h s _ ⟨E.1, E.2.1⟩ F N fun fl h' tk l' n' F' N' ⟨q1, r⟩ => by
    subst q1
    exact r { s with heap := h', toks := tk } Q E F' N' q)
theorem LWG.if0 (h : Tr (c.at_ g₀) f l n e false) (k : LWG c g₀ f l n (execs rest (c.env f)) RF) : LWG c g₀ f l n (execs (.If e b1 [] pos :: rest) (c.env f)) RF := fun s Q E F N q =>
  wpAny_execs_cons (wpAny_If (h s _ ⟨E.1, E.2.1⟩ F N fun b h' tk l' n' F' N' ⟨q1, q2, q3⟩ => by
    subst q1; subst q2; subst q3
    exact wpAny_execs_nil (k { s with heap := h', toks := tk } Q E F' N' q)))
theorem LWG.asg (h : Ev (c.at_ g₀) f l n e V) (k : ∀ v, V v → LWG c g₀ f ((x, v) :: l) n (execs rest (c.env f)) RF)
    (hk : f.cs.kind = .function := by rfl) (hx : (c.env f).kindOf x = some .local := by rfl) (hs : swapsWith e (some (.Name x pos')) pos.line (c.env f) = pure false := by rfl) : LWG c g₀ f l n (execs (.Assign [.Name x pos'] e pos :: rest) (c.env f)) RF :=
  LWG.cons (LW.assign (Ev.go h fun v hv => ⟨rfl, k v hv⟩) hk hx hs)
/-- a try whose body raises nothing -/
theorem LWG.tryOk (h : LW (c.at_ g₀) f l n (execs body (c.env f)) (fun fl l' n' => fl = .next ∧ LWG c g₀ f l' n' (execs rest (c.env f)) RF)) {h₀ : ExceptHandler} : LWG c g₀ f l n (execs (.Try body (h₀ :: hs) [] [] pos :: rest) (c.env f)) RF := fun s Q E F N q =>
  wpAny_execs_cons (wpAny_Try_except (h s _ ⟨_, by passes_own⟩ F N fun fl h' tk l' n' F' N' ⟨q1, r⟩ => by
    subst q1
    exact wpAny_execs_nil (r { s with heap := h', toks := tk } Q E F' N' q)))
theorem LWx.call (O : c.Ok d u) (D : Raises c.w a args n C dep un) (hcl : c.cl = []) (hk : f.cs.kind = .function := by rfl) (hd : Nat.ble dep d = true := by rfl) (hu : Nat.ble un u = true := by rfl) : LWx c f l n (PySem.call (.ref a) args) C n := by
  obtain ⟨w, mean, mg, mb, dp, uu, gd, L, cl, outer, A₀, base, h₀⟩ := c
  cases hcl
  exact fun s Q E F N q => Raises.use D O.B F O.X N O.T hk (Nat.lt_of_le_of_lt (Nat.add_le_add_left (Nat.le_of_ble_eq_true hd) _) O.hd) (Nat.lt_of_le_of_lt (Nat.add_le_add_left (Nat.le_of_ble_eq_true hu) _) O.hu) q
theorem LWx.meth (O : c.Ok d u) (M : Meth c.w.K C nm a) (h : Ev c f l n o (Is (.ref y))) (h1 : (y, instObj C dx) ∈ n) (h2 : (dx, dictOf ens k) ∈ n) (hl : getL nm ens = some .none)
    (ha : LW c f l n (spliced (backTo pos (starEach (e :: es) (c.env f)))) (fun vs l' n' => l' = l ∧ LWx c f l n' (PySem.call (.ref a) (.ref y :: vs)) 63 XN))
    (he : eval (.Call (.Attribute o nm pos') (e :: es) [] pos) (c.env f) = (do
      let ov ← eval o (c.env f)
      standAt pos'.atName
      let (f', first) ← holding [ov] (getMethod ov nm pl)
      callWith pos f' first (backTo pos (starEach (e :: es) (c.env f))) []) := by rfl)
    (h3 : starEach (e :: es) (c.env f) = (false, eval e (c.env f)) :: starEach es (c.env f) := by rfl) (h4 : ((backTo pos (starEach es (c.env f))).any fun x => x.fst) = false := by rfl) :
    LWx c f l n (eval (.Call (.Attribute o nm pos') (e :: es) [] pos) (c.env f)) 63 XN := fun s Q E F N q =>
  MethodCall_ (pl := pl) (h s _ E F N fun ov h' tk l' n' F' N' ⟨q1, q2, q3⟩ => by
    subst q2; subst q3; cases q1
    exact method_inst F' O.X (InstAt.of_news N' h1 h2) M.1 M.2.1 M.2.2.1 hl (callWith_K O.X M.2.2.2 (ha { s with heap := h', toks := tk } _ E F' N' fun vs h2 tk2 l2 n2 F2 N2 ⟨q4, p⟩ => by
      subst q4
      exact ⟨O.X.keeps F2.keep, p { s with heap := h2, toks := tk2 } Q E F2 N2 q⟩) h3 h4)) he
theorem LWx.expr (h : LWx c f l n (eval e (c.env f)) C XN) (hi : interactive (c.env f) = false := by rfl) (hs : swapsWith e .none pos.line (c.env f) = pure false := by rfl) : LWx c f l n (execs (.Expr e pos :: rest) (c.env f)) C XN := fun s Q E F N q => wpAny_execs_cons (wpAny_Expr_any (h s _ E F N q) hi hs)
/-- the raise caught -/
theorem try_hit {w : Wd} {A A₀ : Around} {base h₀ gr : Heap} {outer : List Env} {mean : ExcName → Option Value} {mg mb : Str → Option Value} {name : Str} {scope : Scope} {L a ex : Addr} {cd : Value} {m : Str → Option Value} {Q : Flow → Shared → Prop} {E : Value → Shared → Prop} {s : Shared} (hA : A = A₀.deeper (envOf name scope L a cd)) (R : RaisedSN base gr (envOf name scope L a cd :: outer) ex (.ref 63) XN s.heap) (F : Fr g₀ L gr m) (U : gr.UpToSlots s.heap)
    (XB : w.K.In base) (TB : Top w.V (looseW w.V [Str.ofString "Frame"]) mean mg mb base) (G : GroundOk w A₀ base outer mean mg mb h₀ g₀) (hE : ∀ e, PassesOwnAt (model PySem.Challenge.rw_pb0547_01.row.prog w.toWorld) (A.mark (some (.ref e))) A (envOf name scope L a cd) E)
    (k : ∀ h' g', GroundOk w A₀ base outer mean mg mb h₀ g' → Fr g' L h' m → News g' L h' XN → wpAny (model PySem.Challenge.rw_pb0547_01.row.prog w.toWorld) (A.mark (some (.ref ex))) (execs (b₀ :: suite) (envOf name scope L a cd)) Q E { s with heap := h' })
    (hk : scope.kind = .function := by rfl) (hx : (envOf name scope L a cd).kindOf (Str.ofString "TableError") = some .globalImplicit := by rfl) :
    wpAny (model PySem.Challenge.rw_pb0547_01.row.prog w.toWorld) A (noteFrame (.ref ex) (envOf name scope L a cd)) (fun _ s₂ => wpAny (model PySem.Challenge.rw_pb0547_01.row.prog w.toWorld) A (setFlight (.ref ex) none) (fun _ s₃ =>
      wpAny (model PySem.Challenge.rw_pb0547_01.row.prog w.toWorld) A (handleBy (.ref ex) (envOf name scope L a cd) (.ExceptHandler (some (.Name (Str.ofString "TableError") np)) none (b₀ :: suite) hp :: hs)) Q E s₃) E s₂) E s := by
  subst hA
  obtain ⟨T0, B, X, T, D⟩ := G
  refine kts_lookSN R F B U D fun h5 R5 U5 => ?_
  exact hit_SN0 R5 F B U5 XB TB D T0 (test_name (te_name w) (te_one w) hk hx rfl) (fun h' g' T6 F6 N6 K6 X6 P6 D6 => k h' g' ⟨T6, K6, X6, P6, D6⟩ F6 N6) (hE ex)
/-- a try whose body raises, and whose handler goes on to the next turn -/
theorem LWG.tryHit (G : GOk c g₀) (XB : c.w.K.In c.base) (TB : Top c.w.V (looseW c.w.V [Str.ofString "Frame"]) c.mean c.mg c.mb c.base) (hA : c.A f = c.A₀.deeper (c.env f)) (hcl : c.cl = []) (h : LWx (c.at_ g₀) f l n (execs body (c.env f)) 63 XN)
    (hb : ∀ (A : Around) (s : Shared) (Q : Flow → Shared → Prop) (E : Value → Shared → Prop) (g : Heap), Fr g c.L s.heap (lk l) → Q .cont s → wpAny c.M A (execs (b₀ :: suite) (c.env f)) Q E s) (r : RF .cont l XN)
    (hk : f.cs.kind = .function := by rfl) (hx : (c.env f).kindOf (Str.ofString "TableError") = some .globalImplicit := by rfl) :
    LWG c g₀ f l n (execs (.Try body (.ExceptHandler (some (.Name (Str.ofString "TableError") np)) none (b₀ :: suite) hp :: hs) [] [] pos :: rest) (c.env f)) RF := by
  obtain ⟨w, mean, mg, mb, dp, uu, gd, L, cl, outer, A₀, base, h₀⟩ := c
  cases hcl
  exact fun s Q E F N q => wpAny_execs_cons (wpAny_Try_except (h s _ ⟨_, by passes_own⟩ F N fun gr ex h' tk FG RR U =>
    try_hit (s := { s with heap := h', toks := tk }) hA RR FG U XB TB G E.2.2 (fun h6 g6 G6 F6 N6 => hb _ _ _ _ g6 F6 (q g6 .cont h6 _ l XN G6 F6 N6 r)) hk hx))
end
end Mine
end
section
open PySem PySem.W PyProof.Rows PySem.Spec PySem.Calls PyProof.Rows.LCg
set_option Elab.async false
namespace Mine
section
variable {c : Ctx} {f : Fn} {l : Loc} {n n2 XN : Led} {pos pos' p1 p2 p3 p4 ps px np hp : Pos} {k k1 k2 d u dep un m : Nat} {R : Value → Loc → Led → Prop} {RF : Flow → Loc → Led → Prop} {x x1 x2 x3 : Str} {e e1 e2 e3 o : PySem.Expr} {es : List PySem.Expr} {g g₀ : Heap} {a y dx C : Addr} {args : List Value} {body rest b1 b2 suite : List Stmt} {st b₀ : Stmt} {hs : List ExceptHandler} {pl : Sem Bool} {nm : Str} {ens : List DictEntry}
set_option maxHeartbeats 4000000 in
theorem LW.dict89 (O : c.Ok d u) (r : ∀ (V F8 F9 : Addr) (oV o8 o9 : Obj), (∀ p ∈ n, @LT.lt Nat _ p.1 V) → @LT.lt Nat _ V F8 → @LT.lt Nat _ F8 F9 → (V == sysModules) = false → (F8 == sysModules) = false → (F9 == sysModules) = false → oV.IsDictOf (IK c.w) [((8 : Int), Value.ref F8), (9, Value.ref F9)] → o8.IsDictOf (IK c.w) [] → o9.IsDictOf (IK c.w) [] →
      R (.ref V) l ((F9, o9) :: (F8, o8) :: (V, oV) :: n)) : LW c f l n (eval (.Dict [some (.Constant (.int 8) k1 p1), some (.Constant (.int 9) k2 p2)] [.Dict [] [] p3, .Dict [] [] p4] pos) (c.env f)) R := fun s Q E F N q => by
  refine kdn_int rfl F N O.T.nolimit rfl rfl (List.cons_ne_nil _ _) (Nat.le_of_ble_eq_true rfl) fun V h' oV F1 N1 lV loV hV => ?_
  refine pairTrees_cons_walk (wpAny_Constant_int (newDict_K (s := { s with heap := h', toks := s.toks + 1 }) F1 N1 O.T.nolimit fun F8 h2 o8 F2 N2 l8 lo8 _ _ h8 _ => pairTrees_cons_walk (wpAny_Constant_int (newDict_K (s := { s with heap := h2, toks := s.toks + 1 + 1 }) F2 N2 O.T.nolimit fun F9 h3 o9 F3 N3 l9 lo9 _ _ h9 _ => pairTrees_nil_walk ?_))))
  have hn : ((intKeyPairs [(.int 8 s.toks, .ref F8), (.int 9 (s.toks + 1), .ref F9)]).map (·.1)).Nodup := by show [(8 : Int), 9].Nodup; decide
  refine kdn_made_int (s := { s with heap := h3, toks := s.toks + 1 + 1 }) (vs := [(.int 8 s.toks, .ref F8), (.int 9 (s.toks + 1), .ref F9)]) F3 N3 (UpdF.tail ?_ (UpdF.tail ?_ (UpdF.head ?_))) hV rfl hn ?_
  · exact Nat.ne_of_gt (l9 _ (.tail _ (.head _)))
  · exact Nat.ne_of_gt (l8 _ (.head _))
  · exact fun p hp => Nat.ne_of_lt (lV p hp)
  · exact fun h4 oV' F4 N4 hV' => q _ h4 _ l _ F4 N4 (r V F8 F9 oV' o8 o9 lV (l8 _ (.head _)) (l9 _ (.head _)) loV lo8 lo9 hV' h8 h9)
theorem LW.triple (h : LW c f l n (eval e1 (c.env f)) (fun v1 l1 n1 => LW c f l1 n1 (eval e2 (c.env f)) (fun v2 l2 n2 => LW c f l2 n2 (eval e3 (c.env f)) (fun v3 l3 n3 => RF .next ((x1, v1) :: (x2, v2) :: (x3, v3) :: l3) n3))))
    (hk : f.cs.kind = .function := by rfl) (hx1 : (c.env f).kindOf x1 = some .local := by rfl) (hx2 : (c.env f).kindOf x2 = some .local := by rfl) (hx3 : (c.env f).kindOf x3 = some .local := by rfl)
    (hs : swapsWithSole [.Tuple [.Name x1 p1, .Name x2 p2, .Name x3 p3] k ps] (.Tuple [e1, e2, e3] d pos') pos.line (c.env f) = pure false := by rfl) (hw : swappedStores [.Tuple [.Name x1 p1, .Name x2 p2, .Name x3 p3] k ps] (.Tuple [e1, e2, e3] d pos') (c.env f) = pure (some [x1, x2, x3]) := by rfl)
    (s0 : starEach [e1, e2, e3] (c.env f) = (false, eval e1 (c.env f)) :: starEach [e2, e3] (c.env f) := by rfl) (s1 : starEach [e2, e3] (c.env f) = (false, eval e2 (c.env f)) :: starEach [e3] (c.env f) := by rfl) (s2 : starEach [e3] (c.env f) = (false, eval e3 (c.env f)) :: starEach [] (c.env f) := by rfl) :
    LW c f l n (exec (.Assign [.Tuple [.Name x1 p1, .Name x2 p2, .Name x3 p3] k ps] (.Tuple [e1, e2, e3] d pos') pos) (c.env f)) RF := fun s Q E F N q => by
  have key : LW c f l n (eval (.Tuple [e1, e2, e3] d pos') (c.env f)) (fun v l' n' => LW c f l' n' (unpackItems v [x1, x2, x3].length .none) (fun items l'' n'' => LW c f l'' n'' (assignInOrder ([x1, x2, x3].reverse.map fun n => bindName (c.env f) n) items.reverse) (fun _ l3 n3 => RF .next l3 n3))) :=
    LW.tuple (LW.args_cons (LW.mono h fun v1 l1 n1 h => LW.args_cons (LW.mono h fun v2 l2 n2 h => LW.args_cons (LW.mono h fun v3 l3 n3 h => LW.args_nil (LW.newTuple (fun a l4 => fun s Q E F N q => unpackItemsN_ F N ⟨_, (N _ (.head _)).1, rfl, _, rfl⟩ rfl rfl fun h' F' N' => q _ h' s.toks l3 n3 F' (ndrop N')
      fun s Q E F N q => assignInOrder_cons (bindName_ (storeX_L F N (fun h2 F2 N2 => assignInOrder_cons (bindName_ (storeX_L F2 N2 (fun h3 F3 N3 => assignInOrder_cons (bindName_ (storeX_L F3 N3 (fun h4 F4 N4 => assignInOrder_nil (q () h4 _ ((x1, v1) :: (x2, v2) :: (x3, v3) :: l3) n3 (by rw [lk_cons, lk_cons, lk_cons]; exact F4) N4 h)) hk hx1))) hk hx2))) hk hx3))) (show 3 ≤ sizeLine by decide))) s2) s1) s0)
  exact Assign_Tuple_swapped (key s _ E F N fun v h' tk l' n' F' N' p => p { s with heap := h', toks := tk } _ E F' N' fun items h2 tk2 l2 n2 F2 N2 p2 => p2 { s with heap := h2, toks := tk2 } _ E F2 N2 fun _ h3 tk3 l3 n3 F3 N3 p3 => q .next h3 tk3 l3 n3 F3 N3 p3) hs hw
/-- the handler of the law's translations, when the translation was not free -/
theorem skip_cont {A : Around} {s : Shared} {Q : Flow → Shared → Prop} {E : Value → Shared → Prop} {M : Model} (F : Fr g c.L s.heap (lk l)) (hv : l.lookup x = some (.bool false)) (q : Q .cont s)
    (hk : f.cs.kind = .function := by rfl) (hx : (c.env f).kindOf x = some .local := by rfl) (hd : (x == ("__debug__" : Str)) = false := by decide)
    (he : isTrue (.Name x p1) (c.env f) (eval (.Name x p1) (c.env f)) = (do let v ← eval (.Name x p1) (c.env f); standAt (PySem.Expr.Name x p1).pos; holding [v] (truthy v)) := by rfl) :
    wpAny M A (execs [.If (.Name x p1) b1 [] p2, .Continue p3] (c.env f)) Q E s :=
  wpAny_execs_cons (wpAny_If (wpAny_isTrue_value (nameX_L F hv (wpAny_truthy_bool (wpAny_execs_nil (wpAny_execs_cons (wpAny_Continue q)))) hk hx hd) he))
theorem LWG.forRange (st : List Str) (G : GOk c g₀) (h : LW (c.at_ g₀) f l n (eval e1 (c.env f)) (fun v l' n' => l' = l ∧ ∃ m : Nat, IsI (m : Nat) v ∧ m ≤ 1000 ∧ RgG c f l x body rest RF st m n'))
    (O : c.Ok d u) (hk : f.cs.kind = .function := by rfl) (hx : (c.env f).kindOf x = some .local := by rfl) (hp : ((c.env f).scope.kind == .class || ((c.env f).scope.kind == .module && (c.env f).locals != (c.env f).globals)) = false := by rfl)
    (hg : (c.env f).kindOf (Str.ofString "range") = some .globalImplicit := by rfl) 
    (he : eval (.Call (.Name (Str.ofString "range") p1) [e1] [] p2) (c.env f) = (do callWith p2 (← eval (.Name (Str.ofString "range") p1) (c.env f)) [] (backTo p2 (starEach [e1] (c.env f))) (backToKw p2 (keywordEach [] (c.env f)))) := by rfl)
    (s0 : starEach [e1] (c.env f) = (false, eval e1 (c.env f)) :: starEach [] (c.env f) := by rfl) (hs : ∀ x, foldedSetIterable (.Call (.Name (Str.ofString "range") p1) [e1] [] p2) (c.env f) x = pure x := by intro _; rfl) :
    LWG c g₀ f l n (execs (.For (.Name x px) (.Call (.Name (Str.ofString "range") p1) [e1] [] p2) body [] pos :: rest) (c.env f)) RF := fun s Q E F N q => by
  have O' := G.ok O
  refine wpAny_execs_cons (For_free ?_ hs)
  refine Call_ (nameX_B F O'.X (topRead_of O'.T) (b_range c.w).1 (b_range c.w).2.1 (b_range c.w).2.2 (callWith_type1 ?_ s0 rfl) hk hg (by decide)) he
  have key : LW (c.at_ g₀) f l n (spliced (backTo p2 (starEach [e1] (c.env f)))) (fun vs l' n' => l' = l ∧ ∃ (m : Nat) (t : Tok), vs = [.int (m : Nat) t] ∧ m ≤ 1000 ∧ RgG c f l x body rest RF st m n') :=
    LW.args_cons (LW.mono h fun v l' n' ⟨q1, m, ⟨t, q2⟩, q3, q4⟩ => LW.args_nil ⟨q1, m, t, by rw [q2], q3, q4⟩) s0
  refine key s _ ⟨E.1, E.2.1⟩ F N fun vs h' tk l' n' F' N' ⟨q1, m, t, q2, q3, q4⟩ => ?_
  subst q1; subst q2
  refine range1_rows (s := { s with heap := h', toks := tk }) F' N' fun h2 t2 r t3 t4 hR F2 N2 _ => ?_
  obtain ⟨J, j0, turn, done⟩ := q4
  refine loop_free (G := GOk c) (env := c.env f) (n := m) st J rfl hR (small_one (by omega) (by omega) (by omega) (by omega)) (by rw [rangeSize_nat]; omega) G F2 N2 j0 ?_ ?_ hx hp E.2.1
  · intro i t u g' nx h tk own hi hG hoff hj F₁ N₁
    refine turn g' i t (some_ st u) nx own hG hi hoff hj _ _ E (by rw [lk_turn]; exact F₁) N₁ fun g2 fl h2 tk2 l2 n2 G2 F2 N2 p => ?_
    cases fl with
    | ret v => exact q g2 _ h2 tk2 l2 n2 G2 F2 N2 p
    | brk => exact p.elim
    | next =>
      obtain ⟨hk, nx', e3, e4, e5, e6⟩ := p
      exact ⟨g2, h2, tk2, _, n2, nx', rfl, G2, F2, N2, e3, e4, e5, hk.like, e6⟩
    | cont =>
      obtain ⟨hk, nx', e3, e4, e5, e6⟩ := p
      exact ⟨g2, h2, tk2, _, n2, nx', rfl, G2, F2, N2, e3, e4, e5, hk.like, e6⟩
  · intro u g' nx h tk hG hj F₁ N₁
    exact done g' (some_ (x :: st) u) nx hG (some_none _ _) hj _ Q E (by rw [lk_done]; exact F₁) N₁ q
end
/-- a contract of a call made from the law's own frame, where the callee catches -/
theorem DoesT.enter {w : Wd} {g : Addr} {args : List Value} {news : Led} {dep un : Nat} {R : Value → Led → Prop} {name qual : Str} {params : Arguments} {body : List Stmt} {scope : Scope} {dV kV doc pm cdv ct oc : Value} {an od : Option Addr} {osl : Array (Option Value)} {binds : List (Str × Value)}
    (ho : w.K.lookup g = some ⟨oc, od, .func (fnOf name qual params body scope dV kV doc pm an cdv ct), osl⟩) (hcd : codeIn w.K cdv qual = true)
    (hbind : bindArgs (fnOf name qual params body scope dV kV doc pm an cdv ct) ⟨args, []⟩ = pure binds) (hloc : ∀ y ∈ binds, scope.names.lookup y.1 = some .local)
    (hco : scope.isCoroutine = false) (hgen : scope.isGenerator = false) (hk : scope.kind = .function) (hcell : ∀ x ∈ scope.names, x.2 ≠ .cell)
    (H : ∀ c : Ctx, c.w = w → c.cl = [] → c.Ok dep un → c.A ⟨qual, scope, g, cdv⟩ = c.A₀.deeper (c.env ⟨qual, scope, g, cdv⟩) → w.K.In c.base → Top c.w.V (looseW c.w.V [Str.ofString "Frame"]) c.mean c.mg c.mb c.base → GOk c c.h₀ →
      LWG c c.h₀ ⟨qual, scope, g, cdv⟩ binds.reverse news (execs body (c.env ⟨qual, scope, g, cdv⟩)) (Out R)) :
    DoesT w g args news (dep + 1) (un + 3) R := by
  intro mean mg mb dp u gd cn cs ca ccd A₀ base h₀ L m s Q E B F X N T XB TB hk' hd hu hret
  refine wpAny_call (code_defS0 B F X N T rfl ho hcd (by show dp < _; omega) (BindsTo.of_eq hbind) hloc (fun g' L' h₁ FG F' N' B' X' T' D' => ?_) hk' hco hgen hk hcell)
  exact H ⟨w, mean, mg, mb, dp + 1, u + 3, gd, L', [], _, _, base, g'⟩ rfl rfl ⟨B', X', T', by show dp + 1 + dep < _; omega, by show u + 3 + un < _; omega⟩ rfl XB TB ⟨KtsTurn.refl, B', X', T', D'⟩ _ _ ⟨_, by passes_own, fun e => by passes_own⟩ F' N'
    fun g2 fl h' tk l' n' G2 F'' N'' r => leaveS0_ F'' N'' G2.1 fun F3 N3 => hret _ n' h' tk F3 N3 r
theorem DoesT.enterF {w : Wd} {g : Addr} {args : List Value} {news : Led} {dep un : Nat} {R : Value → Led → Prop} {st : Stmt} {q : Str} {binds : List (Str × Value)} (hf : FnAt w.K g st q)
    (hbind : ∀ doc pm an cdv ct, bindArgs (fnOf (fnN st) q (fnP st) (fnB st) (fnS st) .none .none doc pm an cdv ct) ⟨args, []⟩ = pure binds) (hloc : ∀ y ∈ binds, (fnS st).names.lookup y.1 = some .local)
    (hco : (fnS st).isCoroutine = false) (hgen : (fnS st).isGenerator = false) (hk : (fnS st).kind = .function) (hcell : ∀ x ∈ (fnS st).names, x.2 ≠ .cell)
    (H : ∀ (c : Ctx) (cdv : Value), c.w = w → c.cl = [] → c.Ok dep un → c.A ⟨q, fnS st, g, cdv⟩ = c.A₀.deeper (c.env ⟨q, fnS st, g, cdv⟩) → w.K.In c.base → Top c.w.V (looseW c.w.V [Str.ofString "Frame"]) c.mean c.mg c.mb c.base → GOk c c.h₀ →
      LWG c c.h₀ ⟨q, fnS st, g, cdv⟩ binds.reverse news (execs (fnB st) (c.env ⟨q, fnS st, g, cdv⟩)) (Out R)) : DoesT w g args news (dep + 1) (un + 3) R := by
  obtain ⟨doc, pm, cdv, ct, oc, an, od, osl, ho, hcd⟩ := hf
  exact DoesT.enter ho hcd (hbind doc pm an cdv ct) hloc hco hgen hk hcell fun c => H c cdv

end Mine
end
section
open PySem PySem.W PyProof.Rows PySem.Spec PySem.Calls PyProof.Rows.LCg
set_option Elab.async false
namespace Mine
theorem turnJ_cont {R : Flow → Loc → Led → Prop} {x : Str} {lt : Loc} {st : List Str} {own : Led} {J : Led → Prop} {l' : Loc} {n' : Led} (h1 : KeepsL x st lt l') (h2 : ∃ nx : Led, (∀ p ∈ nx, p ∈ n') ∧ (∀ p ∈ own, p ∈ n') ∧ OwnOff own (nx.map (·.1)) ∧ J nx) : TurnJ R x lt st own J .cont l' n' := ⟨h1, h2⟩
theorem turnJ_next {R : Flow → Loc → Led → Prop} {x : Str} {lt : Loc} {st : List Str} {own : Led} {J : Led → Prop} {l' : Loc} {n' : Led} (h1 : KeepsL x st lt l') (h2 : ∃ nx : Led, (∀ p ∈ nx, p ∈ n') ∧ (∀ p ∈ own, p ∈ n') ∧ OwnOff own (nx.map (·.1)) ∧ J nx) : TurnJ R x lt st own J .next l' n' := ⟨h1, h2⟩
section
variable {c : Ctx} {f : Fn} {l : Loc} {n : Led} {p1 p2 pos : Pos} {x1 x2 : Str} {V W : Addr} {oV oW : Obj} {kvs kv : List (Int × Value)} {i : Int} {t : Tok} {cc : List (Int × Int)}
/-- d[i] with d and i in names, a dict again -/
theorem Ev.itemD (h1 : l.lookup x1 = some (.ref V)) (h2 : l.lookup x2 = some (.int i t)) (m1 : (V, oV) ∈ n) (m2 : oV.IsDictOf (IK c.w) kvs) (m3 : valueAt kvs i = some (.ref W))
    (hk : f.cs.kind = .function := by rfl) (hx1 : (c.env f).kindOf x1 = some .local := by rfl) (hd1 : (x1 == ("__debug__" : Str)) = false := by decide) (hx2 : (c.env f).kindOf x2 = some .local := by rfl) (hd2 : (x2 == ("__debug__" : Str)) = false := by decide) : Ev c f l n (.Subscript (.Name x1 p1) (.Name x2 p2) pos) (Is (.ref W)) :=
  Ev.sub (V := Is (.ref V)) (W := Is (.int i t)) (Ev.name h1 rfl hk hx1 hd1) (Ev.name h2 rfl hk hx2 hd2) fun _ _ e1 e2 => by
    cases e1; cases e2
    exact fun s Q E F N q => kda_item (knd := PySem.intKind _ _) N m1 m2 (intKind_is _ _ _ _) m3 (q _ s.heap _ _ _ F N ⟨rfl, rfl, rfl⟩)
end
/-- a try whose body raises nothing, or whose handler goes on to the next turn -/
theorem LWG.tryCases {c : Ctx} {f : Fn} {l : Loc} {n : Led} {g₀ : Heap} {np hp pos : Pos} {body rest suite : List Stmt} {b₀ : Stmt} {hs : List ExceptHandler} {RF : Flow → Loc → Led → Prop} (K : Led → Prop) (G : GOk c g₀) (XB : c.w.K.In c.base) (TB : Top c.w.V (looseW c.w.V [Str.ofString "Frame"]) c.mean c.mg c.mb c.base) (hA : c.A f = c.A₀.deeper (c.env f)) (hcl : c.cl = [])
    (key : ∀ n', K n' → LWG c g₀ f l n' (execs rest (c.env f)) RF)
    (h : LW (c.at_ g₀) f l n (execs body (c.env f)) (fun fl l' n' => fl = .next ∧ l' = l ∧ K n') ∨ (LWx (c.at_ g₀) f l n (execs body (c.env f)) 63 n ∧ (∀ (A : Around) (s : Shared) (Q : Flow → Shared → Prop) (E : Value → Shared → Prop) (g : Heap), Fr g c.L s.heap (lk l) → Q .cont s → wpAny c.M A (execs (b₀ :: suite) (c.env f)) Q E s) ∧ RF .cont l n))
    (hk : f.cs.kind = .function := by rfl) (hx : (c.env f).kindOf (Str.ofString "TableError") = some .globalImplicit := by rfl) :
    LWG c g₀ f l n (execs (.Try body (.ExceptHandler (some (.Name (Str.ofString "TableError") np)) none (b₀ :: suite) hp :: hs) [] [] pos :: rest) (c.env f)) RF := by
  rcases h with h | ⟨h, hb, r⟩
  · exact LWG.tryOk (LW.mono h fun fl l' n' ⟨q1, q2, q3⟩ => ⟨q1, by subst q2; exact key n' q3⟩)
  · exact LWG.tryHit G XB TB hA hcl h hb r hk hx
set_option maxRecDepth 100000 in
set_option maxHeartbeats 8000000 in
theorem translations_g {w : Wd} {t P I S src : Addr} {oI o : Obj} {rest : Led} (hT : TunAt w rest t P I S) (hdI : oI.IsDictOf (IK w) []) (loI : (I == sysModules) = false) (hrs : Off src rest) (hrI : Off I rest) (hsI : src ≠ I) (ho : SrcObj o) :
  DoesT w 335 [.ref src, .ref t] ((src, o) :: (I, oI) :: rest) 60 600 (TransOut w src I rest) := by
  refine DoesT.enterF (dep := 59) (un := 597) (binds := [(Str.ofString "source", .ref src), (Str.ofString "tunnels", .ref t)]) (fn_335 _) (fun _ _ _ _ _ => rfl) (locs rfl) rfl rfl rfl (by decide) ?_
  intro c cdv hw hcl O hA XB TB G0
  subst hw
  have O0 := G0.ok O
  refine LWG.cons ?_
  refine LW.assign ?_
  refine LW.dict89 (by exact O0) ?_
  intro V F8 F9 oV o8 o9 lV l8 l9 loV lo8 lo9 hdV ho8 ho9
  refine ⟨rfl, ?_⟩
  have lsV : @LT.lt Nat _ src V := lV _ (.head _)
  have lIV : @LT.lt Nat _ I V := lV _ (.tail _ (.head _))
  have lrV : ∀ p ∈ rest, @LT.lt Nat _ p.1 V := fun p hp => lV p (.tail _ (.tail _ hp))
  clear lV
  obtain ⟨f, hf8, hf9⟩ : ∃ f : Int → Addr, f 8 = F8 ∧ f 9 = F9 := ⟨fun k => if k = 8 then F8 else F9, rfl, rfl⟩
  obtain ⟨oo, hoo8, hoo9⟩ : ∃ oo : Int → Obj, oo 8 = o8 ∧ oo 9 = o9 := ⟨fun k => if k = 8 then o8 else o9, rfl, rfl⟩
  subst hf8 hf9 hoo8 hoo9
  have TF : TrFix src I (f 9) f ((V, oV) :: rest) := by
    refine ⟨by omega, by omega, l9, rfl, hsI, fun p hp => ?_⟩
    rcases List.mem_cons.mp hp with rfl | hp
    · exact ⟨by omega, Nat.ne_of_gt lsV, Nat.ne_of_gt lIV, Nat.ne_of_lt l8⟩
    · have := lrV p hp
      exact ⟨by omega, hrs p hp, hrI p hp, Nat.ne_of_lt (by omega)⟩
  have hlo : ∀ p, P89 p → (f p == sysModules) = false := by
    rintro p (rfl | rfl)
    · exact lo8
    · exact lo9
  have hVp : ∀ p, P89 p → valueAt [((8 : Int), Value.ref (f 8)), (9, Value.ref (f 9))] p = some (.ref (f p)) := by
    rintro p (rfl | rfl) <;> rfl
  have hTf : TunAt c.w ((V, oV) :: rest) t P I S := hT.mono fun p hp => .tail _ hp
  obtain ⟨a, b, ta, tb, nn, rfl, ha, hb, hb'⟩ := ho
  have hoff0 : Off src ((I, oI) :: (f 8, oo 8) :: (f 9, oo 9) :: (V, oV) :: rest) := off_cons' (Ne.symm hsI) (off_cons' (Nat.ne_of_gt (by omega)) (off_cons' (Nat.ne_of_gt (by omega)) (off_cons' (Nat.ne_of_gt lsV) hrs)))
  refine LWG.drop (n := (src, W.listOf #[.int a ta, .int b tb] nn) :: ((I, oI) :: (f 8, oo 8) :: (f 9, oo 9) :: (V, oV) :: rest)) (by repeat' (first | exact List.Mem.head _ | exact sub_refl _ | refine sub_cons ?_ ?_ | refine sub_tail ?_ | refine List.Mem.tail _ ?_)) ?_
  refine LWG.forRange [Str.ofString "port", Str.ofString "outside", Str.ofString "inside", Str.ofString "is_free"] G0 (LW.take O0 hoff0 ⟨a, b, ta, tb, nn, rfl, ha, hb, hb'⟩ (Ev.name rfl rfl) Ev.int fun k v o0 hv hk0 hk5 ho0 => ?_) O
  obtain ⟨a, b, ta, tb, nn, rfl, ha, hb, hb'⟩ := ho0
  refine ⟨rfl, k.toNat, by rw [show ((k.toNat : Nat) : Int) = k by omega]; exact hv, by omega, TrJ c.w src I (f 9) f ((V, oV) :: rest), tr_zero ha hb hb' hdI ho8 ho9, ?_, ?_⟩
  · rintro g i tt us nx own G hi hoff ⟨a, b, ta, tb, nn, oI, kI, ins, r, o, kf, cc, rfl, SS⟩
    have O' := G.ok O
    have hR0 := tr_R0 TF SS hoff
    have hkI : kI.length ≤ 900 := by have := SS.len; omega
    refine LWG.cons ?_
    refine LW.triple ?_
    refine LW.one (by exact O') hR0 ⟨a, b, ta, tb, nn, rfl, SS.ha, SS.hb, SS.hb'⟩ (Ev.name rfl rfl) (Ix.cons Ev.int (Ix.cons Ev.int (Ix.nil))) fun p v1 o1 hv1 hp1 ho1 => ?_
    refine LW.one (by exact O') hR0 ho1 (Ev.name rfl rfl) (Ix.cons Ev.int (Ix.cons Ev.int (Ix.cons Ev.int (Ix.nil)))) fun x v2 o2 hv2 _ ho2 => ?_
    refine LW.one (by exact O') hR0 ho2 (Ev.name rfl rfl) (Ix.cons Ev.int (Ix.cons Ev.int (Ix.cons Ev.int (Ix.nil)))) fun y v3 o3 hv3 _ ho3 => ?_
    refine ⟨rfl, ?_⟩
    have hp : P89 p := by simpa [P89] using hp1
    obtain ⟨t1, rfl⟩ := hv1
    obtain ⟨t2, rfl⟩ := hv2
    obtain ⟨t3, rfl⟩ := hv3
    clear ho1 ho2 hp1
    obtain ⟨a', b', ta', tb', n', rfl, ha', hb', hb''⟩ := ho3
    refine LWG.drop (tr_cut hp) ?_
    obtain ⟨⟨q1, q2, q3, q4⟩, hX⟩ := tr_X TF SS hp hoff
    obtain ⟨hfo, hfk, hfr, hfi, hfl⟩ := SS.fnd p hp
    generalize hXe : (f (oth p), o (oth p)) :: (r (oth p) ++ (((V, oV) :: rest) ++ own)) = X at hX
    have hVX : (V, oV) ∈ X := by rw [← hXe]; exact .tail _ (List.mem_append_right _ (List.mem_append_left _ (.head _)))
    have hTX : TunAt c.w X t P I S := hTf.mono fun z hz => by rw [← hXe]; exact .tail _ (List.mem_append_right _ (List.mem_append_left _ hz))
    have hXs : ∀ z ∈ X, z.1 ≠ src := fun z hz => (hX z hz).1
    have hXI : ∀ z ∈ X, z.1 ≠ I := fun z hz => (hX z hz).2.1
    have hXf : ∀ z ∈ X, z.1 ≠ f p := fun z hz => (hX z hz).2.2
    have hkf : (kf p).length ≤ 900 := by have := hfk.length; omega
    have hrX : ∀ z ∈ X, z ∈ r p ++ X := fun z hz => List.mem_append_right _ hz
    have hD : DictIn c.w (fun _ => IsInt) ((src, W.listOf #[.int a' ta', .int b' tb'] n') :: (I, oI) :: (f p, o p) :: (r p ++ X)) (.ref (f p)) (cc p) := ⟨f p, o p, kf p, rfl, .tail _ (.tail _ (.head _)), hfo, hlo p hp, hfk⟩
    refine LWG.asg (Ev.and2 (Ev.cp (Cp.notIn (i := x) (Ev.name rfl ⟨_, rfl⟩) (Ev.weak (Ev.itemD rfl rfl (.tail _ (.tail _ (.tail _ (hrX _ hVX)))) hdV (hVp p hp)) fun v hv => by cases hv; exact hD))) fun _ => Ev.cp (Cp.notInVals (i := y) (Ev.name rfl ⟨_, rfl⟩) (Ev.weak (Ev.itemD rfl rfl (.tail _ (.tail _ (.tail _ (hrX _ hVX)))) hdV (hVp p hp)) fun v hv => by cases hv; exact hD))) fun v hv => ?_
    cases hv
    refine LWG.tryCases (fun n9 => ∃ (d : Addr) (oI' oR' : Obj) (kR : List (Int × Value)), look (cc p) x = none ∧ ((cc p).map (·.2)).contains y = false ∧ KvRel IsInt kR (cc p) ∧ (d == sysModules) = false ∧ oI'.IsDictOf (IK c.w) (stored kI p (.ref d)) ∧ oR'.IsDictOf (IK c.w) (stored kR x (.int y t3)) ∧ @LT.lt Nat _ (f 9) d ∧ (∀ q ∈ X, q.1 ≠ d) ∧ d ≠ f p ∧
      ∀ z ∈ (src, W.listOf #[.int a' ta', .int b' tb'] n') :: (I, oI') :: (f p, o p) :: (d, oR') :: X, z ∈ n9) G XB TB hA hcl ?_ ?_
    · rintro n9 ⟨d, oI', oR', kR, hx, hy, hkR, lo, hI', hR', hMd, hXd, hdf, hn9⟩
      refine LWG.drop hn9 ?_
      rw [hx, hy]
      refine LWG.if0 (Tr.not (b := true) (Tr.bool (Ev.name rfl rfl))) (LWG.cons (LW.assign_sub (LW.name rfl (Ev.go (Ev.itemD rfl rfl (.tail _ (.tail _ (.tail _ (.tail _ hVX)))) hdV (hVp p hp)) fun v hv => ?_))))
      cases hv
      refine LW.name rfl (LW.drop (n := (f p, o p) :: (src, W.listOf #[.int a' ta', .int b' tb'] n') :: (I, oI') :: (d, oR') :: X) (by repeat' (first | exact List.Mem.head _ | exact sub_refl _ | refine sub_cons ?_ ?_ | refine sub_tail ?_ | refine List.Mem.tail _ ?_)) (LW.set_dict (.head (off_cons' q3 (off_cons' q4 (off_cons' hdf hXf)))) hfo (by omega) fun op hop => ⟨rfl, LWG.drop (n := (src, W.listOf #[.int a' ta', .int b' tb'] n') :: (I, oI') :: (f p, op) :: (d, oR') :: X) (by repeat' (first | exact List.Mem.head _ | exact sub_refl _ | refine sub_cons ?_ ?_ | refine sub_tail ?_ | refine List.Mem.tail _ ?_)) (LWG.nil G (turnJ_next (.inl ⟨[_, _, _, _], rfl, rfl⟩) (tr_put_end hXe SS hp ha' hb' hb'' hoff hy hI' hR' hkR lo hop hMd hXd)))⟩))
    cases hl : look ins p with
    | none =>
      obtain ⟨hrp, hvI, hcp⟩ := SS.row_none hp hl
      rw [hrp, List.nil_append]
      have hx : look (cc p) x = none := by rw [hcp]; rfl
      have hy : ((cc p).map (·.2)).contains y = false := by rw [hcp]; rfl
      obtain ⟨td, j1, j2, j3, hT1, hT2⟩ := id hTX
      refine .inl (St.expr_ (LW.meth O' (me_268_translate _) (Ev.name rfl rfl) (.tail _ (.tail _ (.tail _ hT1))) (.tail _ (.tail _ (.tail _ hT2))) rfl (LW.args_cons (LW.name rfl (LW.args_cons (LW.name rfl (LW.args_cons (LW.name rfl (LW.args_nil
        (LW.drop (n := (I, oI) :: (src, W.listOf #[.int a' ta', .int b' tb'] n') :: (f p, o p) :: X) (by repeat' (first | exact List.Mem.head _ | exact sub_refl _ | refine sub_cons ?_ ?_ | refine sub_tail ?_ | refine List.Mem.tail _ ?_)) (LW.call O' (translate_new_g (hTX.mono fun z hz => .tail _ (.tail _ hz)) SS.hI loI (off_cons' hsI (off_cons' q2 hXI)) hvI (by omega)) fun v n9 ⟨d, oI', oR', e1, lod, hI', hR', hId, hlt, e2⟩ => ?_)))))))))))
      subst e1; subst e2
      exact LW.nil ⟨rfl, rfl, d, oI', oR', [], hx, hy, (by rw [hcp]; exact .nil), lod, hI', hR', (tr_above TF hp (hlt _ (.tail _ (.head _))) (hlt (f (oth p), o (oth p)) (.tail _ (.tail _ (by rw [← hXe]; exact .head _))))), (fun q hq => Nat.ne_of_lt (hlt q (.tail _ (.tail _ hq)))), (Nat.ne_of_gt (hlt _ (.tail _ (.head _)))), (by repeat' (first | exact List.Mem.head _ | exact sub_refl _ | refine sub_cons ?_ ?_ | refine sub_tail ?_ | refine List.Mem.tail _ ?_))⟩
    | some c' =>
      obtain ⟨d, oR, kR, hrp, hvI, hdR, loR, hkR⟩ := SS.row_some hp hl
      obtain ⟨hMd, hds, hdI9, hdf, hXd⟩ := tr_old TF SS hp hrp hoff
      have hkeep := tr_keep_end (ta' := ta') (tb' := tb') (n' := n') hXe SS hp ha' hb' hb'' hoff
      rw [hrp] at hkeep ⊢
      rw [List.singleton_append] at hkeep ⊢
      rw [hXe] at hXd
      have hkR9 : kR.length ≤ 900 := by have := hkR.length; omega
      obtain ⟨td, j1, j2, j3, hT1, hT2⟩ := id hTX
      by_cases hfree : look (cc p) x = none ∧ ((cc p).map (·.2)).contains y = false
      · obtain ⟨hx, hy⟩ := hfree
        refine .inl (St.expr_ (LW.meth O' (me_268_translate _) (Ev.name rfl rfl) (.tail _ (.tail _ (.tail _ (.tail _ hT1)))) (.tail _ (.tail _ (.tail _ (.tail _ hT2)))) rfl (LW.args_cons (LW.name rfl (LW.args_cons (LW.name rfl (LW.args_cons (LW.name rfl (LW.args_nil
          (LW.drop (n := (I, oI) :: (d, oR) :: (src, W.listOf #[.int a' ta', .int b' tb'] n') :: (f p, o p) :: X) (by repeat' (first | exact List.Mem.head _ | exact sub_refl _ | refine sub_cons ?_ ?_ | refine sub_tail ?_ | refine List.Mem.tail _ ?_)) (LW.call O' (translate_old_g (hTX.mono fun z hz => .tail _ (.tail _ hz)) SS.hI loI (Ne.symm hdI9) (off_cons' hsI (off_cons' q2 hXI)) (off_cons' (Ne.symm hds) (off_cons' (Ne.symm hdf) hXd)) hvI hdR loR hkR hx hy (by omega) (by omega)) fun v n9 ⟨oI', oR', e1, hI', hR', e2⟩ => ?_)))))))))))
        subst e1; subst e2
        exact LW.nil ⟨rfl, rfl, d, oI', oR', kR, hx, hy, hkR, loR, hI', hR', hMd, hXd, hdf, (by repeat' (first | exact List.Mem.head _ | exact sub_refl _ | refine sub_cons ?_ ?_ | refine sub_tail ?_ | refine List.Mem.tail _ ?_))⟩
      · have hbad : (!(look (cc p) x).isSome && !((cc p).map (·.2)).contains y) = false := by
          cases h1 : look (cc p) x with
          | some z => rfl
          | none =>
            cases h2 : ((cc p).map (·.2)).contains y with
            | true => rfl
            | false => exact absurd ⟨h1, h2⟩ hfree
        rw [hbad]
        refine .inr ⟨LWx.expr (LWx.meth O' (me_268_translate _) (Ev.name rfl rfl) (.tail _ (.tail _ (.tail _ (.tail _ hT1)))) (.tail _ (.tail _ (.tail _ (.tail _ hT2)))) rfl (LW.args_cons (LW.name rfl (LW.args_cons (LW.name rfl (LW.args_cons (LW.name rfl (LW.args_nil ⟨rfl,
          LWx.call O' (translate_raises_g (hTX.mono fun z hz => .tail _ (.tail _ (.tail _ (.tail _ hz)))) (.tail _ (.head _)) SS.hI loI hvI (.tail _ (.tail _ (.tail _ (.head _)))) hdR loR hkR hfree) hcl⟩)))))))), fun A s Q E g F q => skip_cont F rfl q, turnJ_cont (.inl ⟨[_, _, _, _], rfl, rfl⟩) hkeep⟩
  · rintro g us nx G hus ⟨a, b, ta, tb, nn, oI, kI, ins, r, o, kf, cc, rfl, SS⟩
    refine LWG.of G ?_
    obtain ⟨n9, g9, hR⟩ := tr_out (ta := ta) (tb := tb) (n := nn) rfl TF SS loI loV hlo hdV lrV (show k.toNat ≤ 10 by omega)
    exact LW.drop g9 (St.ret_ (LW.name rfl hR))
end Mine
end
section
open PySem PySem.W PyProof.Rows PySem.Spec PySem.Calls PyProof.Rows.LCg
set_option Elab.async false
namespace Mine
/-- a contract of a call that reads a list of the ground -/
def DoesL (w : Wd) (f : Addr) (sl : Addr) (arr : Array Value) (args : List Value) (news : Led) (dep un : Nat) (R : Value → Led → Prop) : Prop :=
  ∀ (mean : ExcName → Option Value) (mg mb : Str → Option Value) (dp u : Nat) (gd : Option (List Code)) (cn : Str) (cs : Scope) (a : Addr) (ccd : Value) (cl : List (Str × Addr)) (outer : List Env) (A₀ : Around) (base h₀ : Heap) (L : Addr) (m : Str → Option Value) (s : Shared)
    (Q E : Value → Shared → Prop),
    Below A₀ base outer h₀ → Fr h₀ L s.heap m → w.K.In h₀ → News h₀ L s.heap news → Top w.V (looseW w.V [Str.ofString "Frame"]) mean mg mb h₀ → cs.kind = .function → h₀.IsList sl arr →
    dp + dep < recursionLimit → u + un < cLine →
    (∀ r news' h' tk', Fr h₀ L h' m → News h₀ L h' news' → R r news' → Q r { s with heap := h', toks := tk' }) →
    wpAny (model PySem.Challenge.rw_pb0547_01.row.prog w.toWorld) (ktrTop dp u gd cn cs L a ccd cl outer) (call (.ref f) args) Q E s
theorem isList_up {h₀ h : Heap} {L l : Addr} {m : Str → Option Value} {a : Array Value} (hl : h₀.IsList l a) (F : Fr h₀ L h m) : h.IsList l a := hl.at fun o e => F.keep l o e
theorem DoesL.enter {w : Wd} {g sl : Addr} {arr : Array Value} {args : List Value} {news : Led} {dep un : Nat} {R : Value → Led → Prop} {name qual : Str} {params : Arguments} {body : List Stmt} {scope : Scope} {dV kV doc pm cdv ct oc : Value} {an od : Option Addr} {osl : Array (Option Value)} {binds : List (Str × Value)}
    (ho : w.K.lookup g = some ⟨oc, od, .func (fnOf name qual params body scope dV kV doc pm an cdv ct), osl⟩) (hcd : codeIn w.K cdv qual = true)
    (hbind : bindArgs (fnOf name qual params body scope dV kV doc pm an cdv ct) ⟨args, []⟩ = pure binds) (hloc : ∀ y ∈ binds, scope.names.lookup y.1 = some .local)
    (hco : scope.isCoroutine = false) (hgen : scope.isGenerator = false) (hk : scope.kind = .function) (hcell : ∀ x ∈ scope.names, x.2 ≠ .cell)
    (H : ∀ c : Ctx, c.w = w → c.cl = [] → c.Ok dep un → c.h₀.IsList sl arr → LW c ⟨qual, scope, g, cdv⟩ binds.reverse news (execs body (c.env ⟨qual, scope, g, cdv⟩)) (Out R)) :
    DoesL w g sl arr args news (dep + 1) (un + 3) R := by
  intro mean mg mb dp u gd cn cs ca ccd cl outer A₀ base h₀ L m s Q E B F X N T hk' hl hd hu hret
  refine wpAny_call (code_def B F X N T rfl rfl hk' ho hcd (by show dp < _; omega) (BindsTo.of_eq hbind) hloc (fun g' L' h₁ FG F' N' B' X' T' => ?_) hco hgen hk hcell)
  exact H ⟨w, mean, mg, mb, dp + 1, u + 3, gd, L', [], _, _, base, g'⟩ rfl rfl ⟨B', X', T', by show dp + 1 + dep < _; omega, by show u + 3 + un < _; omega⟩ (isList_up hl FG) _ _ ⟨_, by passes_own⟩ F' N'
    fun fl h' tk l' n' F'' N'' r => leaveK_ F'' N'' fun F3 N3 => hret _ n' h' tk F3 N3 r
theorem DoesL.enterF {w : Wd} {g sl : Addr} {arr : Array Value} {args : List Value} {news : Led} {dep un : Nat} {R : Value → Led → Prop} {st : Stmt} {q : Str} {binds : List (Str × Value)} (hf : FnAt w.K g st q)
    (hbind : ∀ doc pm an cdv ct, bindArgs (fnOf (fnN st) q (fnP st) (fnB st) (fnS st) .none .none doc pm an cdv ct) ⟨args, []⟩ = pure binds) (hloc : ∀ y ∈ binds, (fnS st).names.lookup y.1 = some .local)
    (hco : (fnS st).isCoroutine = false) (hgen : (fnS st).isGenerator = false) (hk : (fnS st).kind = .function) (hcell : ∀ x ∈ (fnS st).names, x.2 ≠ .cell)
    (H : ∀ (c : Ctx) (cdv : Value), c.w = w → c.cl = [] → c.Ok dep un → c.h₀.IsList sl arr → LW c ⟨q, fnS st, g, cdv⟩ binds.reverse news (execs (fnB st) (c.env ⟨q, fnS st, g, cdv⟩)) (Out R)) : DoesL w g sl arr args news (dep + 1) (un + 3) R := by
  obtain ⟨doc, pm, cdv, ct, oc, an, od, osl, ho, hcd⟩ := hf
  exact DoesL.enter ho hcd (hbind doc pm an cdv ct) hloc hco hgen hk hcell fun c => H c cdv
section
variable {c : Ctx} {f : Fn} {l : Loc} {n : Led} {x : Str} {v : Value} {pos pos' p1 : Pos} {k d u dep un : Nat} {e e1 e2 : PySem.Expr} {ns : List Int} {vs : List Value} {i j : Int} {sl g : Addr} {arr : Array Value} {args : List Value} {b : Bool} {b1 rest : List Stmt}
theorem LW.callL {R : Value → Loc → Led → Prop} {P : Value → Led → Prop} (O : c.Ok d u) (hl : c.h₀.IsList sl arr) (D : DoesL c.w g sl arr args n dep un P) (h : ∀ r n', P r n' → R r l n')
    (hk : f.cs.kind = .function := by rfl) (hd : Nat.ble dep d = true := by rfl) (hu : Nat.ble un u = true := by rfl) : LW c f l n (PySem.call (.ref g) args) R :=
  fun s Q E F N q => D _ _ _ _ _ _ _ _ _ _ _ _ _ _ _ _ _ _ _ _ O.B F O.X N O.T hk hl (Nat.lt_of_le_of_lt (Nat.add_le_add_left (Nat.le_of_ble_eq_true hd) _) O.hd) (Nat.lt_of_le_of_lt (Nat.add_le_add_left (Nat.le_of_ble_eq_true hu) _) O.hu)
    fun r n' h' tk' F' N' p => q r h' tk' l n' F' N' (h r n' p)
theorem St.then_ {P : Loc → Led → Prop} {R : Flow → Loc → Led → Prop} (h : Tr c f l n e b) (h1 : b = true → LW c f l n (execs b1 (c.env f)) (fun fl l' n' => fl = .next ∧ P l' n')) (h2 : b = false → P l n) (r : ∀ l' n', P l' n' → LW c f l' n' (execs rest (c.env f)) R) : LW c f l n (execs (.If e b1 [] pos :: rest) (c.env f)) R :=
  St.if0 h (fun hb => LW.mono (h1 hb) fun fl l' n' ⟨q1, q2⟩ => by subst q1; exact r l' n' q2) fun hb => r l n (h2 hb)
theorem Ev.lenL (O : c.Ok d u) (hl : c.h₀.IsList sl vs.toArray) (hi : IntsAre vs ns) (h : Ev c f l n e (Is (.ref sl))) (hz : ns.length ≤ 1000) (hk : f.cs.kind = .function := by rfl) (hx : (c.env f).kindOf (Str.ofString "len") = some .globalImplicit := by rfl)
    (he : eval (.Call (.Name (Str.ofString "len") pos') [e] [] pos) (c.env f) = (do callWith pos (← eval (.Name (Str.ofString "len") pos') (c.env f)) [] (backTo pos (starEach [e] (c.env f))) (backToKw pos (keywordEach [] (c.env f)))) := by rfl)
    (h1 : starEach [e] (c.env f) = (false, eval e (c.env f)) :: starEach [] (c.env f) := by rfl) : Ev c f l n (.Call (.Name (Str.ofString "len") pos') [e] [] pos) (IsI (ns.length : Nat)) := by
  have key : LW c f l n (spliced (backTo pos (starEach [e] (c.env f)))) (fun vs l' n' => LW c f l' n' (PySem.call (.builtin "len") vs) (fun v l' n' => IsI (ns.length : Nat) v ∧ l' = l ∧ n' = n)) :=
    LW.args_cons (Ev.go h fun v hv => LW.args_nil (by
      cases hv
      have hl2 := hi.length
      exact fun s Q E F N q => len_list (isList_up hl F) (by simp only [List.size_toArray]; omega) (q _ s.heap _ l n F N ⟨⟨_, by rw [List.size_toArray, hl2]⟩, rfl, rfl⟩))) h1
  exact fun s Q E F N q => Call_ (nameX_B F O.X (topRead_of O.T) (b_len c.w).1 (b_len c.w).2.1 (b_len c.w).2.2 (callWith_builtin1 (key s _ E F N fun vs h' tk l' n' F' N' p => p { s with heap := h', toks := tk } Q E F' N' q) h1 rfl) hk hx (by decide)) he
theorem Ev.itemL (hl : c.h₀.IsList sl vs.toArray) (hi : IntsAre vs ns) (h1 : Ev c f l n e1 (Is (.ref sl))) (h2 : Ev c f l n e2 (IsI i)) (h0 : 0 ≤ i) (hz : i < (ns.length : Nat)) (h9 : i < 2 ^ 63)
    (h3 : ∀ t, subscripted e2 false (.ref sl) (.int i t) = operate [.ref sl, .int i t] (getItem (.ref sl) (.int i t)) := by intro _; with_unfolding_all rfl) (h4 : ∀ r, letTemporaryGo e1 (.ref sl) r = pure () := by intro _; with_unfolding_all rfl) : Ev c f l n (.Subscript e1 e2 pos) (IsI (ns.getD i.toNat 0)) :=
  Ev.sub h1 h2 fun _ _ q1 ⟨t, q2⟩ => by
    cases q1; subst q2
    exact fun s Q E F N q => item_list_ints (isList_up hl F) hi h0 hz h9 (fun t => q _ s.heap s.toks l n F N ⟨⟨t, rfl⟩, rfl, rfl⟩) (h3 _) h4
theorem Ev.maxI (O : c.Ok d u) (h1 : Ev c f l n e1 (IsI i)) (h2 : Ev c f l n e2 (IsI j)) (hk : f.cs.kind = .function := by rfl) (hx : (c.env f).kindOf (Str.ofString "max") = some .globalImplicit := by rfl)
    (he : eval (.Call (.Name (Str.ofString "max") pos') [e1, e2] [] pos) (c.env f) = (do callWith pos (← eval (.Name (Str.ofString "max") pos') (c.env f)) [] (backTo pos (starEach [e1, e2] (c.env f))) (backToKw pos (keywordEach [] (c.env f)))) := by rfl)
    (s0 : starEach [e1, e2] (c.env f) = (false, eval e1 (c.env f)) :: starEach [e2] (c.env f) := by rfl) (s1 : starEach [e2] (c.env f) = (false, eval e2 (c.env f)) :: starEach [] (c.env f) := by rfl) (sa : ((backTo pos (starEach [e2] (c.env f))).any fun x => x.fst) = false := by rfl) : Ev c f l n (.Call (.Name (Str.ofString "max") pos') [e1, e2] [] pos) (IsI (if j > i then j else i)) := by
  have key : LW c f l n (spliced (backTo pos (starEach [e1, e2] (c.env f)))) (fun vs l' n' => LW c f l' n' (PySem.call (.builtin "max") vs) (fun v l' n' => IsI (if j > i then j else i) v ∧ l' = l ∧ n' = n)) :=
    LW.args2 h1 h2 (fun v1 v2 ⟨t1, q1⟩ ⟨t2, q2⟩ => by
      subst q1; subst q2
      exact fun s Q E F N q => max_two_ints rfl fun h' tk hk => q _ h' tk l n (F.keeps hk) (N.grown hk) ⟨by split <;> exact ⟨_, rfl⟩, rfl, rfl⟩) s0 s1
  exact fun s Q E F N q => Call_ (nameX_B F O.X (topRead_of O.T) (b_max c.w).1 (b_max c.w).2.1 (b_max c.w).2.2 (callWith_builtin1 (key s _ E F N fun vs h' tk l' n' F' N' p => p { s with heap := h', toks := tk } Q E F' N' q) s0 sa) hk hx (by decide)) he
theorem Ev.neg (h : Ev c f l n e (IsI i)) : Ev c f l n (.UnaryOp .USub e pos) (IsI (-i)) := fun s Q E F N q =>
  wpAny_UnaryOp (h s _ E F N fun v h' tk l' n' F' N' ⟨⟨t, q1⟩, q2, q3⟩ => by
    subst q1; subst q2; subst q3
    exact neg_int (q _ h' _ l' n' F' N' ⟨⟨_, rfl⟩, rfl, rfl⟩))
theorem Ev.pow (h1 : Ev c f l n e1 (IsI i)) (h2 : Ev c f l n e2 (IsI j)) (ha : 0 ≤ j) (hb : j ≤ 1000000) (hc : i.natAbs < 2 ^ 64) : Ev c f l n (.BinOp e1 .Pow e2 pos) (IsI (i ^ j.toNat)) :=
  LW.binop (Ev.go h1 fun _ ⟨_, q1⟩ => Ev.go h2 fun _ ⟨_, q2⟩ => by
    subst q1; subst q2
    exact fun s Q E F N q => pow_int_small ha hb hc (q _ s.heap _ l n F N ⟨⟨_, rfl⟩, rfl, rfl⟩))
theorem Ev.intOfB (O : c.Ok d u) (h : Ev c f l n e (Is (.bool b))) (hk : f.cs.kind = .function := by rfl) (hx : (c.env f).kindOf (Str.ofString "int") = some .globalImplicit := by rfl) 
    (he : eval (.Call (.Name (Str.ofString "int") pos') [e] [] pos) (c.env f) = (do callWith pos (← eval (.Name (Str.ofString "int") pos') (c.env f)) [] (backTo pos (starEach [e] (c.env f))) (backToKw pos (keywordEach [] (c.env f)))) := by rfl)
    (h1 : starEach [e] (c.env f) = (false, eval e (c.env f)) :: starEach [] (c.env f) := by rfl) : Ev c f l n (.Call (.Name (Str.ofString "int") pos') [e] [] pos) (IsI (if b then 1 else 0)) :=
  LW.callT O (b_int _) (LW.args1 h (fun _ q => by cases q; exact fun s Q E F N q => call_int_bool (q _ s.heap _ l n F N ⟨⟨_, rfl⟩, rfl, rfl⟩)) h1) hk hx (by decide) he h1 rfl
end
theorem ite_nonneg (b : Prop) [Decidable b] : (0:Int) ≤ if b then 1 else 0 := by split <;> decide
set_option maxRecDepth 100000 in
set_option maxHeartbeats 8000000 in
theorem pool_g {w : Wd} {sl : Addr} {vs : List Value} {ns : List Int} {t0 : Tok} (hI : IntsAre vs ns) (hn : ns.length ≤ 63) : DoesL w 279 sl vs.toArray [.ref sl, .int 0 t0] [] 30 300 (fun r n' => ∃ (src : Addr) (o : Obj), r = .ref src ∧ SrcObj o ∧ n' = [(src, o)]) := by
  refine DoesL.enterF (dep := 29) (un := 297) (binds := [(Str.ofString "script", .ref sl), (Str.ofString "k", .int 0 t0)]) (fn_279 _) (fun _ _ _ _ _ => rfl) (locs rfl) rfl rfl rfl (by decide) ?_
  intro c cdv hw hcl O hl
  subst hw
  refine St.asg Ev.int fun v0 ⟨tc, q0⟩ => ?_
  subst q0
  refine St.then_ (P := fun l' n' => n' = [] ∧ ∃ (x : Int) (t : Tok), l'.lookup (Str.ofString "cell") = some (.int x t) ∧ l'.lookup (Str.ofString "k") = some (.int 0 t0)) (Tr.cp (Cp.ltI (Ev.name rfl ⟨_, rfl⟩) (Ev.lenL O hl hI (Ev.name rfl rfl) (by omega)))) (fun hb => ?_) (fun _ => ⟨rfl, 0, tc, rfl, rfl⟩) ?_
  · have hb := of_decide_eq_true hb
    refine St.asg (Ev.itemL hl hI (Ev.name rfl rfl) (Ev.name rfl ⟨_, rfl⟩) (by decide) hb (by decide)) fun v ⟨t, q⟩ => LW.nil ?_
    subst q
    exact ⟨rfl, rfl, _, t, rfl, rfl⟩
  · rintro l' n' ⟨rfl, x, t, hx, hk⟩
    refine St.asg (Ev.maxI O (Ev.intOf O (Ev.name hx ⟨_, rfl⟩)) (Ev.intOf O (Ev.subI (Ev.neg Ev.int) (Ev.name hx ⟨_, rfl⟩)))) fun vb ⟨tb, qb⟩ => ?_
    subst qb
    have hbig : (0 : Int) ≤ if -1 - x > x then -1 - x else x := by split <;> omega
    generalize (if -1 - x > x then -1 - x else x) = big at hbig
    refine St.asg (Ev.mod (Ev.intOf O (Ev.mul (Ev.add (Ev.add (Ev.add (Ev.mod (Ev.intOf O (Ev.name rfl ⟨_, rfl⟩)) Ev.int (by decide)) (Ev.mul (Ev.mul Ev.int (Ev.name hk ⟨_, rfl⟩) (.of_left (by decide))) (Ev.name hk ⟨_, rfl⟩) (.of_right (by decide)))) (Ev.mul Ev.int (Ev.name hk ⟨_, rfl⟩) (.of_left (by decide)))) Ev.int) Ev.int (.of_right (by decide)))) Ev.int (by decide)) fun vm ⟨tm, qm⟩ => ?_
    subst qm
    have h1 := fmod_lo ((big.fmod 2147483629 + 7919 * 0 * 0 + 31 * 0 + 17) * 48271) (n := 2147483647) (by decide)
    have h2 := fmod_hi ((big.fmod 2147483629 + 7919 * 0 * 0 + 31 * 0 + 17) * 48271) (n := 2147483647) (by decide)
    generalize ((big.fmod 2147483629 + 7919 * 0 * 0 + 31 * 0 + 17) * 48271).fmod 2147483647 = mixed at h1 h2
    refine St.ret_ (LW.list ?_)
    refine LW.args2 (V2 := IsI mixed) (Ev.mul (Ev.name rfl ⟨_, rfl⟩) (Ev.intOfB O (Ev.cp (Cp.geI (Ev.name rfl ⟨_, rfl⟩) (Ev.pow Ev.int Ev.int (by decide) (by decide) (by decide))))) (.of_right (by split <;> decide))) (Ev.name rfl ⟨_, rfl⟩) ?_
    rintro v1 v2 ⟨t1, rfl⟩ ⟨t2, rfl⟩
    refine LW.newList (fun L _ => ?_) (show 2 ≤ sizeLine by decide)
    exact ⟨L, _, rfl, ⟨_, _, _, _, _, rfl, Int.mul_nonneg hbig (ite_nonneg _), h1, h2⟩, rfl⟩
end Mine
end
section
open PySem PySem.W PyProof.Rows PySem.Spec PySem.Calls PyProof.Rows.LCg
set_option Elab.async false
namespace Mine
section
variable {c : Ctx} {f : Fn} {l : Loc} {n : Led} {v : Value} {pos pos' ps p1 p2 : Pos} {k d u dep un : Nat} {x y : Str} {e e1 e2 : PySem.Expr} {R : Flow → Loc → Led → Prop} {rest : List Stmt} {dd : Dat} {ds : List Dat} {args : List Value} {g : Addr}
/-- a, b = e -/
theorem St.unpack2 (h : LW c f l n (eval e (c.env f)) (fun v l' n' => ∃ (T : Addr) (v1 v2 : Value) (m : Nat), v = .ref T ∧ (T, tupOf [v1, v2] m) ∈ n' ∧ LW c f ((y, v2) :: (x, v1) :: l') n' (execs rest (c.env f)) R))
    (hk : f.cs.kind = .function := by rfl) (hx : (c.env f).kindOf x = some .local := by rfl) (hy : (c.env f).kindOf y = some .local := by rfl)
    (ha : assignEach [.Name x p1, .Name y p2] (c.env f) = [(false, PySem.assign (.Name x p1) (c.env f)), (false, PySem.assign (.Name y p2) (c.env f))] := by rfl)
    (hs : swapsWithSole [.Tuple [.Name x p1, .Name y p2] k ps] e pos.line (c.env f) = pure false := by rfl) (hw : swappedStores [.Tuple [.Name x p1, .Name y p2] k ps] e (c.env f) = pure none := by rfl) :
    LW c f l n (execs (.Assign [.Tuple [.Name x p1, .Name y p2] k ps] e pos :: rest) (c.env f)) R := LW.cons fun s Q E F N q =>
  Assign_Tuple (h s _ E F N fun v h' tk l' n' F' N' ⟨T, v1, v2, m, e1, hm, r⟩ => by
    subst e1
    exact LW.asPair (R := fun _ l2 n2 => LW c f l2 n2 (execs rest (c.env f)) R) hm r hk hx hy ha { s with heap := h', toks := tk } _ E F' N' fun _ h2 tk2 l2 n2 F2 N2 p => q .next h2 tk2 l2 n2 F2 N2 p) hs hw
/-- an item of data just made -/
theorem Ex.datAt {j : Nat} (h : Ex c f l n e (fun n' v => DatIn n' v (.tuple ds))) (hj : ds[j]? = some dd) (hz : j ≤ 1000 := by decide)
    (hs : ∀ (a : Addr) (y : Tok), subscripted (.Constant (.int (j : Nat)) k pos') false (.ref a) (.int (j : Nat) y) = operate [.ref a, .int (j : Nat) y] (getItem (.ref a) (.int (j : Nat) y)) := by intro _ _; with_unfolding_all rfl) : Ex c f l n (.Subscript e (.Constant (.int (j : Nat)) k pos') pos) (fun n' v => DatIn n' v dd) := fun s Q E F N q =>
  Subscript_ (h s _ E F N fun v h' tk l' n' F' N' ⟨q1, q2, q3⟩ => by
    subst q3
    cases q1 with
    | tuple m1 m2 =>
      obtain ⟨z, hz1, hz2⟩ := dat_at m2 hj
      have hl := (List.getElem?_eq_some_iff.mp hz1).1
      refine wpAny_Constant_int ?_
      exact kba_turn (value' := PySem.Expr.Name (PySem.Str.ofString "_") ⟨0, 0, 0, 0⟩) (fun _ => rfl) (item_at N' m1 (j := j) (seqIdx hl) hz1 (by omega) (by omega) (q _ h' _ l' n' F' N' ⟨hz2, q2, rfl⟩) (hs _ _)))
theorem LW.isTrueE {R : Bool → Loc → Led → Prop} (h : LW c f l n (eval e (c.env f)) (fun v l' n' => LW c f l' n' (truthy v) R)) (he : isTrue e (c.env f) (eval e (c.env f)) = (do let v ← eval e (c.env f); standAt e.pos; holding [v] (truthy v)) := by rfl) : LW c f l n (isTrue e (c.env f) (eval e (c.env f))) R :=
  LW.then (e := eval e (c.env f)) (e' := truthy) h fun _ _ _ h => wpAny_isTrue_value h he
theorem LW.callDT {R : Value → Loc → Led → Prop} {P : Value → Led → Prop} (O : c.Ok d u) (ho : c.outer = []) (hcl : c.cl = []) (XB : c.w.K.In c.base) (TB : Top c.w.V (looseW c.w.V [Str.ofString "Frame"]) c.mean c.mg c.mb c.base) (D : DoesT c.w g args n dep un P) (h : ∀ r n', P r n' → R r l n')
    (hk : f.cs.kind = .function := by rfl) (hd : Nat.ble dep d = true := by rfl) (hu : Nat.ble un u = true := by rfl) : LW c f l n (PySem.call (.ref g) args) R := by
  obtain ⟨w, mean, mg, mb, dp, uu, gd, L, cl, outer, A₀, base, h₀⟩ := c
  cases hcl; cases ho
  exact fun s Q E F N q => D _ _ _ _ _ _ _ _ _ _ _ _ _ _ _ _ _ _ O.B F O.X N O.T XB TB hk (Nat.lt_of_le_of_lt (Nat.add_le_add_left (Nat.le_of_ble_eq_true hd) _) O.hd) (Nat.lt_of_le_of_lt (Nat.add_le_add_left (Nat.le_of_ble_eq_true hu) _) O.hu)
    fun r n' h' tk' F' N' p => q r h' tk' l n' F' N' (h r n' p)
theorem KeepsL.drop2 {st xs : List Str} {pre lt us : Loc} (h : (xs.all fun y => (x :: st).contains y) = true) (hp : (pre.all fun p => st.contains p.1) = true) (hus : ∀ z, xs.contains z = false → us.lookup z = none) : KeepsL x st lt (drop_ xs (pre ++ lt) ++ us) := .inr fun z hz hs => by
  have e : xs.contains z = false := by
    cases hc : xs.contains z with
    | false => rfl
    | true =>
      have := List.all_eq_true.mp h z (by simpa using hc)
      simp only [List.contains_cons, hs, Bool.or_false, beq_iff_eq] at this
      exact absurd this hz
  have ep : pre.lookup z = none := by
    induction pre with
    | nil => rfl
    | cons p r ih =>
      obtain ⟨a, b⟩ := p
      simp only [List.all_cons, Bool.and_eq_true] at hp
      have hn : (z == a) = false := by
        cases hza : (z == a) with
        | false => rfl
        | true => have := eq_of_beq hza; subst this; rw [hp.1] at hs; cases hs
      simp only [List.lookup_cons, hn]; exact ih hp.2
  rw [lookup_app, lookup_drop, e, hus z e, if_neg (by decide), lookup_app, ep]
  cases lt.lookup z <;> rfl
end
/-- what the law's loop keeps -/
def LawJ (w : Wd) (src S : Addr) (FX : Led) (i : Nat) (nx : Led) : Prop :=
  ∃ (o oS : Obj) (ks : List (Int × Value)) (st : List (Int × Bool)), nx = (src, o) :: (S, oS) :: FX ∧ SrcObj o ∧ oS.IsDictOf (IK w) ks ∧ KvRel IsBool ks st ∧ ks.length ≤ i
theorem p89_of {k : Int} (h : k ∈ [(8 : Int), 9]) : P89 k := by simpa [P89] using h
theorem ints_mem : ∀ {vs : List Value} {ns : List Int} {v : Value}, IntsAre vs ns → v ∈ vs → ∃ k t, v = .int k t
  | _, _, _, .nil, h => nomatch h
  | _, _, _, .cons _ _ r, h => (List.mem_cons.mp h).elim (fun e => ⟨_, _, e⟩) (ints_mem r)
end Mine
end
section
open PySem PySem.W PyProof.Rows PySem.Spec PySem.Calls PyProof.Rows.LCg
set_option Elab.async false
namespace Mine
section
variable {c : Ctx} {f : Fn} {l : Loc} {n : Led} {pos : Pos} {k : Nat} {i : Int} {b : Bool}
theorem IntDict.dict2 {w : Wd} {a b : Led} {v : Value} {cc : List (Int × List (Int × Int))} (g : ∀ p ∈ a, p ∈ b) (h : DictIn w (IntDict w) a v cc) : DictIn w (IntDict w) b v cc := DictIn.mono (fun _ _ h => h.mono g) g h
theorem Tr.eqb {e : PySem.Expr} {b' : Bool} (h : Tr c f l n e b) (hb : b = b') : Tr c f l n e b' := hb ▸ h
theorem Ex.datI : Ex c f l n (.Constant (.int i) k pos) (fun n' v => DatIn n' v (.int i)) := Ex.ev (Ev.weak Ev.int fun _ ⟨_, h⟩ => h ▸ .int _ _)
theorem Ex.datB : Ex c f l n (.Constant (.bool b) k pos) (fun n' v => DatIn n' v (.bool b)) := Ex.ev (Ev.weak Ev.bool fun _ h => h ▸ .bool _)
end
set_option maxRecDepth 100000 in
set_option maxHeartbeats 8000000 in
theorem law_lw {c : Ctx} {fa sl : Addr} {cd : Value} {vs : List Value} {ns : List Int} (O : c.Ok 200 2000) (hcl : c.cl = []) (hou : c.outer = []) (XB : c.w.K.In c.base) (TB : Top c.w.V (looseW c.w.V [Str.ofString "Frame"]) c.mean c.mg c.mb c.base) (hl : c.h₀.IsList sl vs.toArray) (hI : IntsAre vs ns) (hn : ns.length ≤ 63) :
    LW c ⟨Str.ofString "law", fnS (stm 32), fa, cd⟩ [(Str.ofString "script", .ref sl)] [] (execs (fnB (stm 32)) (c.env ⟨Str.ofString "law", fnS (stm 32), fa, cd⟩)) (Out fun v _ => v = .bool true) := by
  refine St.asg_ (LW.callG0 O (gl_Tunnels _) (LW.newTun O fun S I P t td oS oI oP k1 k2 k3 l1 l2 l3 l4 l5 loP loI loS hP hI' hS => ?_))
  refine LW.drop (n := (P, oP) :: (t, instObj 268 td) :: (td, tunDict c.w k1 k2 k3 P I S) :: []) (by repeat' (first | exact List.Mem.head _ | exact sub_refl _ | refine sub_cons ?_ ?_ | refine sub_tail ?_ | refine List.Mem.tail _ ?_)) ?_
  have hT0 : TunAt c.w ((P, oP) :: (t, instObj 268 td) :: (td, tunDict c.w k1 k2 k3 P I S) :: []) t P I S := ⟨td, k1, k2, k3, .tail _ (.head _), .tail _ (.tail _ (.head _))⟩
  refine St.expr_ (LW.meth O (me_268_set_customer _) (Ev.name rfl rfl) (.tail _ (.head _)) (.tail _ (.tail _ (.head _))) rfl (LW.args_cons (LW.int fun t1 => LW.args_cons (LW.int fun t2 => LW.args_nil (LW.call O (set_customer_g (off_cons' (Nat.ne_of_lt l3) (off_cons' (Nat.ne_of_lt (Nat.lt_trans l2 l3)) fun _ h => nomatch h)) hT0 hP (by decide)) fun v n' ⟨oP', oB, B, a, dd, j1, j2, j3, e1, hP', hB, loB, ld, lda, laB, e2⟩ => ?_)))))
  subst e1; subst e2
  have hT : TunAt c.w ((P, oP') :: (B, oB) :: (a, instObj 179 dd) :: (dd, portDict c.w j1 j2 j3 500 B) :: (t, instObj 268 td) :: (td, tunDict c.w k1 k2 k3 P I S) :: []) t P I S := ⟨td, k1, k2, k3, .tail _ (.tail _ (.tail _ (.tail _ (.head _)))), .tail _ (.tail _ (.tail _ (.tail _ (.tail _ (.head _)))))⟩
  have hPd : DictIn c.w (PortIn c.w) ((P, oP') :: (B, oB) :: (a, instObj 179 dd) :: (dd, portDict c.w j1 j2 j3 500 B) :: (t, instObj 268 td) :: (td, tunDict c.w k1 k2 k3 P I S) :: []) (.ref P) [((1 : Int), ((500 : Int), ([] : List (Int × Int))))] :=
    ⟨P, oP', [(1, .ref a)], rfl, .head _, hP', loP, .cons ⟨a, dd, B, _, _, _, rfl, .tail _ (.tail _ (.head _)), .tail _ (.tail _ (.tail _ (.head _))), B, oB, [], rfl, .tail _ (.head _), hB, loB, .nil⟩ .nil⟩
  generalize ((P, oP') :: (B, oB) :: (a, instObj 179 dd) :: (dd, portDict c.w j1 j2 j3 500 B) :: (t, instObj 268 td) :: (td, tunDict c.w k1 k2 k3 P I S) :: []) = n0 at hT hPd
  clear hT0 hP hI' hS hP' hB ld lda laB l1 l2 l3 l4 l5 loP loI loS loB
  obtain ⟨td', q1, q2, q3, mT1, mT2⟩ := id hT
  refine St.asg_ (LW.meth O (me_268_put_on _) (Ev.name rfl rfl) mT1 mT2 rfl (LW.args_cons (LW.int fun t1 => LW.args_cons (LW.callG O (gl_Frame _) (LW.args_cons (LW.int fun t2 => LW.args_cons (LW.int fun t3 => LW.args_cons (LW.tuple (LW.args_cons (Ex.go (Ex.newTag O Ev.int Ev.int Ev.bool Ev.int) fun tv n1 ht g1 => LW.args_nil (LW.newTuple (fun T lT => ?_) (show 1 ≤ sizeLine by decide))))))))))))
  have hTup : TupIn c.w ((T, tupOf [tv] 0) :: n1) [⟨33024, 5, true, 10⟩] (.ref T) := ⟨T, 0, [tv], rfl, .head _, .cons (ht.mono fun p hp => .tail _ hp) .nil⟩
  refine LW.args_cons (LW.int fun t4 => LW.args_cons (Ev.go Ev.bytes fun v5 h5 => LW.args_nil (LW.newFrame (fr := ⟨1, 2, [⟨33024, 5, true, 10⟩], 2048, #[120]⟩) O ⟨_, rfl⟩ ⟨_, rfl⟩ hTup ⟨_, rfl⟩ h5 fun rv n2 hfr g2 => LW.args_nil ?_)))
  have g3 := g1.trans ((Grew.cons lT).trans g2)
  refine LW.callGr O (put_on_g (hT.mono g3.sub) (Port.dict g3.sub hPd) hfr (by decide)) fun r n3 hM g4 => ?_
  have hM' : FrameIn c.w n3 r ⟨1, 2, [⟨34984, 5, true, 500⟩, ⟨33024, 5, true, 10⟩], 2048, #[120]⟩ := hM
  clear hM hT hPd hTup ht hfr
  refine St.if0 (Tr.cp (Cp.datNe (ds := [.tuple [.int 34984, .int 5, .bool true, .int 500], .tuple [.int 33024, .int 5, .bool true, .int 10]]) O (Ex.datAt (j := 2) (Ex.told O (Ex.ev (Ev.nameF rfl hM')) (by decide)) rfl) (fun n' g => Ex.tupDat (Ax.cons (Ex.tupDat (Ax.cons Ex.datI fun _ _ => Ax.cons Ex.datI fun _ _ => Ax.cons Ex.datB fun _ _ => Ax.cons Ex.datI fun _ _ => Ax.nil)) fun _ _ => Ax.cons (Ex.tupDat (Ax.cons Ex.datI fun _ _ => Ax.cons Ex.datI fun _ _ => Ax.cons Ex.datB fun _ _ => Ax.cons Ex.datI fun _ _ => Ax.nil)) fun _ _ => Ax.nil)) (by decide))) (fun h => nomatch h) fun _ => ?_
  refine St.asg_ (LW.callG O (gl_law_pool _) (LW.args_cons (LW.name rfl (LW.args_cons (LW.int fun t0 => LW.args_nil (LW.drop (n := []) (fun _ h => nomatch h) (LW.callL O hl (pool_g hI hn) fun r n' ⟨src, o, e1, hso, e2⟩ => ?_)))))))
  subst e1; subst e2
  refine St.unpack2 (LW.callG O (gl_law_built _) (LW.args_cons (LW.name rfl (LW.args_nil (LW.call O (built_g (r := []) (fun _ h => nomatch h) hso) fun v n' ⟨o, oI, oS, m, T, t, P, I, S, Ow, cfg, r', e1, hso, mT, hT, hP, hO, hdI, loI, hdS, loS, lsI, lIS, _, hoff, e2⟩ => ?_)))))
  subst e1; subst e2
  refine ⟨T, .ref t, .ref Ow, m, rfl, .tail _ (.tail _ (.tail _ mT)), ?_⟩
  clear mT
  have hsS : @LT.lt Nat _ src S := Nat.lt_trans lsI lIS
  refine St.asg_ (LW.callG O (gl_law_translations _) (LW.args_cons (LW.name rfl (LW.args_cons (LW.name rfl (LW.args_nil (LW.drop (n := (src, o) :: (I, oI) :: ((S, oS) :: r')) (by repeat' (first | exact List.Mem.head _ | exact sub_refl _ | refine sub_cons ?_ ?_ | refine sub_tail ?_ | refine List.Mem.tail _ ?_)) (LW.callDT O hou hcl XB TB (translations_g (P := P) (S := S) (rest := (S, oS) :: r') (hT.mono fun p hp => .tail _ hp) hdI loI (off_cons' (Nat.ne_of_gt hsS) fun p hp => (hoff p hp).1) (off_cons' (Nat.ne_of_gt lIS) fun p hp => (hoff p hp).2.1) (Nat.ne_of_lt lsI) hso) fun r n' ⟨V, a, b, ta, tb, nn, ins, fnd, R', e1, ha, hb, hb', hI9, hV9, hk9, hR', e2⟩ => ?_))))))))
  subst e1; subst e2
  have hFs : Off src (R' ++ r') := off_app (fun p hp => (hR' p hp).1) fun p hp => (hoff p hp).1
  have hFS : Off S (R' ++ r') := off_app (fun p hp => (hR' p hp).2 (S, oS) (.head _)) fun p hp => (hoff p hp).2.2
  have hT9 := hT.mono (n₂ := R' ++ r') fun p hp => List.mem_append_right _ hp
  have hP9 := Port.dict (b := R' ++ r') (fun p hp => List.mem_append_right _ hp) hP
  have hO9 := OwnRow.dict (b := R' ++ r') (fun p hp => List.mem_append_right _ hp) hO
  have hI9 := IntDict.dict2 (b := R' ++ r') (fun p hp => List.mem_append_left _ hp) hI9
  have hV9 := IntDict.dict2 (b := R' ++ r') (fun p hp => List.mem_append_left _ hp) hV9
  refine LW.drop (n := (src, W.listOf #[.int a ta, .int b tb] nn) :: (S, oS) :: (R' ++ r')) (sub_cons (.head _) (sub_cons (.tail _ (List.mem_append_right _ (.head _))) fun p hp => (List.mem_append.mp hp).elim (fun hp => .tail _ (List.mem_append_left _ hp)) fun hp => .tail _ (List.mem_append_right _ (.tail _ hp)))) ?_
  clear hT hP hO hdI loI hoff hR' lsI lIS hso
  generalize R' ++ r' = FX at hFs hFS hT9 hP9 hO9 hI9 hV9
  refine St.if0 (Tr.cp (Cp.isNoneV (v := .ref V) (Ev.name rfl rfl) rfl)) (fun h => nomatch h) fun _ => ?_
  refine St.forRange [Str.ofString "frame", Str.ofString "port"] (O := O) (LW.int fun t6 => ⟨rfl, 6, ⟨t6, rfl⟩, by decide, LawJ c.w src S FX, ⟨_, oS, [], [], rfl, ⟨a, b, ta, tb, nn, rfl, ha, hb, hb'⟩, hdS, .nil, Nat.le_refl _⟩, ?_, ?_⟩)
  · clear hdS
    rintro i tt us nx own hi hoff ⟨o, oS, ks, st, rfl, hso, hdS, hst, hkl⟩
    have hoff' : ∀ p ∈ own, ∀ b ∈ src :: S :: FX.map (·.1), p.1 ≠ b := hoff
    have hos : Off src own := fun p hp => hoff' p hp _ (.head _)
    have hoS : Off S own := fun p hp => hoff' p hp _ (.tail _ (.head _))
    have hr0 : Off src ((S, oS) :: (FX ++ own)) := off_cons' (Nat.ne_of_gt hsS) (off_app hFs hos)
    show LW _ _ _ ((src, o) :: (S, oS) :: (FX ++ own)) _ _
    refine St.asg_ (LW.callG O (gl_law_frame _) (LW.args_cons (LW.name rfl (LW.args_nil (LW.call O (frame_g hr0 hso) fun fv n' ⟨o1, ts, tl, ho1, hl5, hF, hlt, e⟩ => ?_)))))
    subst e
    have hRs : Off src (tl ++ (FX ++ own)) := off_app (fun p hp => Nat.ne_of_gt (hlt p hp).1) (off_app hFs hos)
    have hRS : Off S (tl ++ (FX ++ own)) := off_app (fun p hp => Nat.ne_of_gt ((hlt p hp).2 _ (.head _))) (off_app hFS hoS)
    have up : ∀ p ∈ FX, p ∈ tl ++ (FX ++ own) := fun p hp => List.mem_append_right _ (List.mem_append_left _ hp)
    have hRo : ∀ p ∈ own, p ∈ tl ++ (FX ++ own) := fun p hp => List.mem_append_right _ (List.mem_append_right _ hp)
    have hf := hF.mono (n₂ := tl ++ (FX ++ own)) fun p hp => List.mem_append_left _ hp
    have hT1 := hT9.mono up
    have hP1 := Port.dict up hP9
    have hO1 := OwnRow.dict up hO9
    have hI1 := IntDict.dict2 up hI9
    have hV1 := IntDict.dict2 up hV9
    refine LW.drop (n := (src, o1) :: (S, oS) :: (tl ++ (FX ++ own))) (sub_cons (.head _) (sub_cons (.tail _ (List.mem_append_right _ (.head _))) fun p hp => (List.mem_append.mp hp).elim (fun hp => .tail _ (List.mem_append_left _ hp)) fun hp => .tail _ (List.mem_append_right _ (.tail _ hp)))) ?_
    clear hF hlt hr0
    have hz : (FrameD.tags ⟨1, 2, ts, 2048, #[97, 98, 99]⟩).length ≤ 700 := Nat.le_trans hl5 (by decide)
    generalize tl ++ (FX ++ own) = R at hRs hRS up hRo hf hT1 hP1 hO1 hI1 hV1
    refine St.forList [Str.ofString "port"] (LW.list (LW.mono (Ix.cons Ev.int (Ix.cons Ev.int (Ix.cons Ev.int (Ix.cons Ev.int (Ix.nil))))) fun vs l' n' ⟨hIv, q1, q2⟩ => LW.newList (fun La lLa => ?_) (by rw [sizeLine_eq, hIv.length]; decide)))
    subst q1; subst q2
    refine ⟨rfl, La, vs, 0, rfl, .head _, fun v us2 own2 hv => LW.asName ?_, fun us2 hus2 => ?_⟩
    · obtain ⟨pk, pt, rfl⟩ := ints_mem hIv hv
      have go : ∀ p ∈ R, p ∈ ((La, W.listOf vs.toArray 0) :: (src, o1) :: (S, oS) :: R) ++ own2 := fun p hp => List.mem_append_left _ (.tail _ (.tail _ (.tail _ hp)))
      generalize hNN : ((La, W.listOf vs.toArray 0) :: (src, o1) :: (S, oS) :: R) ++ own2 = NN at go
      have hT2 := hT1.mono go
      have hP2 := Port.dict go hP1
      have hO2 := OwnRow.dict go hO1
      have hf2 := hf.mono go
      refine St.if0 (b := false) (Tr.or2 (b := false) (b' := false) (Tr.not (b := true) (Tr.bool (Ev.gcall4 O (gl_law_tunnel_right _) (Ev.name (V := Is (.ref t)) rfl rfl) (Ev.name (V := Is (.ref Ow)) rfl rfl) (Ev.name (V := Is (.int pk pt)) rfl rfl) (Ev.nameF rfl hf2) fun v1 v2 v3 v4 e1 e2 e3 h4 => by
        cases e1; cases e2; cases e3
        exact tunnel_right_v hT2 hP2 hO2 h4 (Nat.le_trans hz (by decide))))) fun _ => ?_) (fun h => nomatch h) fun _ => LW.nil ⟨⟨[_], rfl, rfl⟩, fun p hp => hNN ▸ hp⟩
      cases hlk : look cfg pk with
      | none => exact Tr.and2 (b := false) (b' := false) (Tr.eqb (Tr.cp (Cp.in_ (i := pk) (Ev.name rfl ⟨_, rfl⟩) (Ev.name rfl hO2))) (by rw [hlk]; rfl)) fun h => nomatch h
      | some pd => exact Tr.and2 (b := true) (b' := false) (Tr.eqb (Tr.cp (Cp.in_ (i := pk) (Ev.name rfl ⟨_, rfl⟩) (Ev.name rfl hO2))) (by rw [hlk]; rfl)) fun _ => Tr.not (b := true) (Tr.bool (Ev.gcall4 O (gl_law_taken_right _) (Ev.name (V := Is (.ref t)) rfl rfl) (Ev.name (V := Is (.ref Ow)) rfl rfl) (Ev.name (V := Is (.int pk pt)) rfl rfl) (Ev.nameF rfl hf2) fun v1 v2 v3 v4 e1 e2 e3 h4 => by
        cases e1; cases e2; cases e3
        exact taken_right_v hT2 hP2 hO2 h4 (Nat.le_trans hz (by decide)) hlk))
    · refine LW.drop (n := (src, o1) :: (S, oS) :: R) (by repeat' (first | exact List.Mem.head _ | exact sub_refl _ | refine sub_cons ?_ ?_ | refine sub_tail ?_ | refine List.Mem.tail _ ?_)) ?_
      refine LW.cons (LW.if_ (LW.isTrue_not (LW.isTrueE (LW.callG O (gl_law_translated_right _) (LW.args_cons (LW.name rfl (LW.args_cons (LW.name rfl (LW.args_cons (LW.name rfl (LW.args_cons (LW.one O (off_cons' (Nat.ne_of_gt hsS) hRs) ho1 (Ev.name rfl rfl) (Ix.cons Ev.int (Ix.cons Ev.int (Ix.nil))) fun pk pv o2 hpv hpk ho2 => LW.args_cons (LW.name rfl (LW.args_nil ?_))))))))))))))
      obtain ⟨pt, rfl⟩ := hpv
      obtain ⟨cc, hl9, hc9, hinj, hsh⟩ := hk9 _ (p89_of hpk)
      refine LW.call O (translated_g hRs (Nat.ne_of_gt hsS) hRS ho2 hT1 hdS hst loS (by omega) hI1 hV1 hl9 hc9 hinj hsh hf hz) fun v n' ⟨o3, oS3, ks3, st3, e1, ho3, hd3, hk3, hl3, e2⟩ => ?_
      subst e1; subst e2
      refine LW.truthy_bool (LW.nil ?_)
      exact LW.nil ⟨.drop2 (pre := [_]) rfl rfl hus2, (src, o3) :: (S, oS3) :: FX, sub_cons (.head _) (sub_cons (.tail _ (.head _)) fun p hp => .tail _ (.tail _ (up p hp))), fun p hp => .tail _ (.tail _ (hRo p hp)), hoff', o3, oS3, ks3, st3, rfl, ho3, hd3, hk3, by omega⟩
  · rintro us nx _ ⟨o, oS, ks, st, rfl, hso, hdS, hst, hkl⟩
    exact St.ret Ev.bool fun v hv => hv
end Mine
end
section
open PySem PySem.W PyProof.Rows PySem.Spec PySem.Calls PyProof.Rows.LCg
set_option Elab.async false
namespace Mine
set_option maxRecDepth 100000 in
set_option maxHeartbeats 8000000 in
theorem main : PySem.Challenge.rw_pb0547_01.Holds := by
  w_on
  o_law
  refine holds_open (q := vw) (loose := lo) (Xt := xt) (XP := XL vw []) (Yf := Hook.obs (kHook KK aS as_kk)) (Ya := Hook.val (kHook KK aS as_kk)) (YP := Hook.says (kHook KK aS as_kk)) (N := 5406) top_left (Hook.of (kHook KK aS as_kk)) (Hook.keeps (kHook KK aS as_kk)) (fun s e => xl_of s (Bool.and_eq_true_iff.mp e).1) XL.keeps (by rfl) (by rfl) (by rfl) (fun s e => recFacts_of (Bool.and_eq_true_iff.mp e).2) (by rfl) (by first | assumption | decide +kernel) (by decide +kernel) ⟨rfl, rfl, rfl, rfl, rfl, by decide +kernel⟩ ?hw ?hc
  (case hw => w_witness2)
  k_go0
  all_goals try k_fold
  rename World => w
  rename IntsAre _ _ => hIn
  rename Below _ _ _ _ => hB
  rename Fr _ _ _ _ => hF
  rename News _ _ _ _ => hN
  rename Top _ _ _ _ _ _ => hT
  rename Frag.In _ _ => hX
  rename Heap.IsList _ _ _ => hl
  rename ¬ _ < _ => hn
  refine law_lw (c := ⟨⟨w, _, _, ?F⟩, _, _, _, _, _, _, _, [], [], _, _, _⟩) ⟨hB, hX, hT, ?d, ?u⟩ rfl rfl hX hT hl hIn (by omega) _ _ ⟨_, by passes_own⟩ hF hN ?post
  case F =>
    exact ⟨⟨by kernel_rfl, by kernel_rfl⟩,
      ⟨by kernel_rfl, by boot_fast, by decide⟩,
      ⟨by kernel_rfl, by boot_fast, by decide⟩,
      ⟨by kernel_rfl, by kernel_rfl, none, by kernel_rfl, by kernel_rfl⟩,
      ⟨by kernel_rfl, by kernel_rfl, none, by kernel_rfl, by kernel_rfl⟩,
      ⟨by kernel_rfl, by kernel_rfl, none, by kernel_rfl, by kernel_rfl⟩,
      ⟨by kernel_rfl, by kernel_rfl, none, by kernel_rfl, by kernel_rfl⟩,
      ⟨by kernel_rfl, by kernel_rfl, none, by kernel_rfl, by kernel_rfl⟩,
      ⟨by kernel_rfl, by kernel_rfl, none, by kernel_rfl, by kernel_rfl⟩,
      ⟨by kernel_rfl, by kernel_rfl, none, by kernel_rfl, by kernel_rfl⟩,
      ⟨by kernel_rfl, by kernel_rfl, none, by kernel_rfl, by kernel_rfl⟩,
      ⟨by kernel_rfl, by kernel_rfl, none, by kernel_rfl, by kernel_rfl⟩,
      ⟨by kernel_rfl, by kernel_rfl, none, by kernel_rfl, by kernel_rfl⟩,
      ⟨by kernel_rfl, by kernel_rfl, none, by kernel_rfl, by kernel_rfl⟩,
      ⟨by kernel_rfl, by kernel_rfl, none, by kernel_rfl, by kernel_rfl⟩,
      ⟨by kernel_rfl, by kernel_rfl, none, by kernel_rfl, by kernel_rfl⟩,
      ⟨by kernel_rfl, by kernel_rfl, none, by kernel_rfl, by kernel_rfl⟩,
      ⟨by kernel_rfl, by kernel_rfl, by kernel_rfl, by kernel_rfl⟩,
      ⟨by kernel_rfl, by kernel_rfl, by kernel_rfl, by kernel_rfl⟩,
      ⟨by kernel_rfl, by kernel_rfl, by kernel_rfl, by kernel_rfl⟩,
      ⟨by kernel_rfl, by kernel_rfl, by kernel_rfl, by kernel_rfl⟩,
      ⟨by kernel_rfl, by kernel_rfl, by kernel_rfl, by kernel_rfl⟩,
      ⟨by kernel_rfl, by kernel_rfl, by kernel_rfl, by kernel_rfl⟩,
      ⟨by kernel_rfl, by kernel_rfl, by kernel_rfl, by kernel_rfl⟩,
      ⟨by kernel_rfl, by kernel_rfl, by kernel_rfl, by kernel_rfl⟩,
      ⟨by kernel_rfl, by kernel_rfl, by kernel_rfl, by kernel_rfl⟩,
      ⟨by kernel_rfl, by kernel_rfl, by kernel_rfl, by kernel_rfl⟩,
      ⟨by kernel_rfl, by kernel_rfl, by kernel_rfl, by kernel_rfl⟩,
      ⟨by kernel_rfl, by kernel_rfl, by kernel_rfl, by kernel_rfl⟩,
      ⟨by kernel_rfl, by kernel_rfl⟩,
      ⟨by kernel_rfl, by kernel_rfl⟩,
      ⟨by kernel_rfl, by kernel_rfl⟩,
      ⟨by kernel_rfl, by kernel_rfl⟩,
      ⟨by kernel_rfl, by kernel_rfl⟩,
      ⟨by kernel_rfl, by kernel_rfl⟩,
      ⟨by kernel_rfl, by kernel_rfl⟩,
      ⟨by kernel_rfl, by kernel_rfl⟩,
      ⟨by kernel_rfl, by kernel_rfl⟩,
      ⟨by kernel_rfl, by kernel_rfl⟩,
      ⟨by kernel_rfl, by kernel_rfl⟩,
      ⟨by kernel_rfl, by kernel_rfl⟩,
      ⟨by kernel_rfl, by kernel_rfl⟩,
      ⟨by kernel_rfl, by kernel_rfl⟩,
      ⟨by kernel_rfl, by kernel_rfl⟩,
      ⟨by kernel_rfl, by kernel_rfl⟩,
      ⟨by kernel_rfl, by kernel_rfl⟩,
      ⟨by kernel_rfl, by kernel_rfl⟩,
      ⟨by kernel_rfl, by kernel_rfl⟩,
      ⟨by kernel_rfl, by kernel_rfl, by kernel_rfl⟩,
      ⟨by kernel_rfl, by kernel_rfl, by kernel_rfl⟩,
      ⟨by kernel_rfl, by kernel_rfl, by kernel_rfl⟩,
      ⟨by kernel_rfl, by kernel_rfl, by kernel_rfl⟩,
      ⟨by kernel_rfl, by kernel_rfl, by kernel_rfl, by kernel_rfl⟩,
      ⟨by kernel_rfl, by kernel_rfl, by kernel_rfl, by kernel_rfl⟩,
      ⟨by kernel_rfl, by kernel_rfl, by kernel_rfl, by kernel_rfl⟩,
      ⟨by kernel_rfl, by kernel_rfl, by kernel_rfl, by kernel_rfl⟩,
      ⟨by kernel_rfl, by kernel_rfl, by kernel_rfl, by kernel_rfl⟩,
      ⟨by kernel_rfl, by kernel_rfl, by kernel_rfl, by kernel_rfl⟩,
      ⟨by kernel_rfl, by kernel_rfl, by kernel_rfl, by kernel_rfl⟩,
      ⟨by kernel_rfl, by kernel_rfl, by kernel_rfl, by kernel_rfl⟩,
      ⟨by kernel_rfl, by kernel_rfl, by kernel_rfl, by kernel_rfl⟩,
      ⟨by kernel_rfl, by kernel_rfl, by kernel_rfl, by kernel_rfl⟩,
      ⟨by kernel_rfl, by kernel_rfl, by kernel_rfl, by kernel_rfl⟩,
      ⟨by kernel_rfl, by kernel_rfl, by kernel_rfl, by kernel_rfl⟩,
      ⟨by kernel_rfl, by kernel_rfl, by kernel_rfl, by kernel_rfl⟩,
      ⟨by kernel_rfl, by kernel_rfl, by kernel_rfl, by kernel_rfl⟩,
      ⟨by kernel_rfl, by boot_fast, by decide⟩,
      ⟨by kernel_rfl, by boot_fast, by decide⟩,
      rfl,
      rfl,
      ⟨by kernel_rfl, by boot_fast, by decide⟩,
      ⟨by kernel_rfl, by boot_fast, by decide⟩,
      ⟨by kernel_rfl, by boot_fast, by decide⟩,
      by rfl,
      by rfl,
      by rfl,
      by rfl,
      by rfl,
      by rfl,
      by rfl,
      ⟨by kernel_rfl, by boot_fast, by decide⟩,
      ⟨by kernel_rfl, by kernel_rfl⟩,
      .inl (by rfl),
      by rfl,
      ⟨by kernel_rfl, by boot_fast, by decide⟩,
      ⟨_, _, _, _, _, _, _, _, rfl, by kernel_rfl⟩,
      ⟨_, _, _, _, _, _, _, _, rfl, by kernel_rfl⟩,
      ⟨_, _, _, _, _, _, _, _, rfl, by kernel_rfl⟩,
      ⟨_, _, _, _, _, _, _, _, rfl, by kernel_rfl⟩,
      ⟨_, _, _, _, _, _, _, _, rfl, by kernel_rfl⟩,
      ⟨_, _, _, _, _, _, _, _, rfl, by kernel_rfl⟩,
      ⟨_, _, _, _, _, _, _, _, rfl, by kernel_rfl⟩,
      ⟨_, _, _, _, _, _, _, _, rfl, by kernel_rfl⟩,
      ⟨_, _, _, _, _, _, _, _, rfl, by kernel_rfl⟩,
      ⟨_, _, _, _, _, _, _, _, rfl, by kernel_rfl⟩,
      ⟨_, _, _, _, _, _, _, _, rfl, by kernel_rfl⟩,
      ⟨_, _, _, _, _, _, _, _, rfl, by kernel_rfl⟩,
      ⟨_, _, _, _, _, _, _, _, rfl, by kernel_rfl⟩,
      ⟨_, _, _, _, _, _, _, _, rfl, by kernel_rfl⟩,
      ⟨_, _, _, _, _, _, _, _, rfl, by kernel_rfl⟩,
      ⟨_, _, _, _, _, _, _, _, rfl, by kernel_rfl⟩,
      ⟨_, _, _, _, _, _, _, _, rfl, by kernel_rfl⟩,
      ⟨_, _, _, _, _, _, _, _, rfl, by kernel_rfl⟩,
      ⟨_, _, _, _, _, _, _, _, rfl, by kernel_rfl⟩,
      ⟨_, _, _, _, _, _, _, _, rfl, by kernel_rfl⟩,
      ⟨_, _, _, _, _, _, _, _, rfl, by kernel_rfl⟩,
      ⟨_, _, _, _, _, _, _, _, rfl, by kernel_rfl⟩,
      ⟨_, _, _, _, _, _, _, _, rfl, by kernel_rfl⟩,
      ⟨_, _, _, _, _, _, _, _, rfl, by kernel_rfl⟩,
      ⟨_, _, _, _, _, _, _, _, rfl, by kernel_rfl⟩,
      ⟨_, _, _, _, _, _, _, _, rfl, by kernel_rfl⟩,
      ⟨_, _, _, _, _, _, _, _, rfl, by kernel_rfl⟩,
      ⟨_, _, _, _, _, _, _, _, rfl, by kernel_rfl⟩,
      ⟨_, _, _, _, _, _, _, _, rfl, by kernel_rfl⟩,
      ⟨_, _, _, _, _, _, _, _, rfl, by kernel_rfl⟩,
      ⟨_, _, _, _, _, _, _, _, rfl, by kernel_rfl⟩,
      ⟨_, _, _, _, _, _, _, _, rfl, by kernel_rfl⟩,
      ⟨_, _, _, _, _, _, _, _, rfl, by kernel_rfl⟩⟩
  case d => show callerA.depth + 1 + 200 < recursionLimit; decide
  case u => show callerA.units + 3 + 2000 < cLine; decide
  intro v h' tk' l' n' F' N' r
  cases v with
  | ret v =>
    cases (show v = .bool true from r)
    k_steps
  | next => cases (show Value.none = .bool true from r)
  | brk => cases (show Value.none = .bool true from r)
  | cont => cases (show Value.none = .bool true from r)
end Mine
end
theorem PySem.Challenge.cw_pb0547_01_holds : PySem.Challenge.rw_pb0547_01.Holds :=
  Mine.main
