import PyProof.Rows.All
import Wide.All
import OpenK.AllK
import Wide.FinOn
import Lean
import PySem.Challenge.RW_pq1400_01
set_option Elab.async false
set_option maxRecDepth 100000
set_option rowWalk.seconds 0

section
open PySem PySem.W PyProof.Rows
namespace Mine
set_option maxRecDepth 100000 in
set_option maxHeartbeats 8000000 in
open_top hd for PySem.Challenge.rw_pq1400_01
end Mine
end
local macro_rules | `(tactic| walk_at "exec Raise some none") => `(tactic| k_extra "exec Raise some none")
local macro_rules | `(tactic| walk_at "leaving ref") => `(tactic| k_extra "leaving ref")
local macro_rules | `(tactic| walk_at "call ref") => `(tactic| k_extra "call ref")
local macro_rules | `(tactic| walk_at "binaryOp FloorDiv int int") => `(tactic| k_extra "binaryOp FloorDiv int int")
local macro_rules | `(tactic| walk_at "subscriptTail Name Constant ref int") => `(tactic| k_extra "subscriptTail Name Constant ref int")
local macro_rules | `(tactic| walk_at "binaryOp Mult int int") => `(tactic| k_extra "binaryOp Mult int int")
local macro_rules | `(tactic| walk_at "compareOp Eq ref ref") => `(tactic| k_extra "compareOp Eq ref ref")
local macro_rules | `(tactic| walk_at "call builtin:abs") => `(tactic| k_extra "call builtin:abs")
local macro_rules | `(tactic| walk_at "call builtin:max") => `(tactic| k_extra "call builtin:max")
local macro_rules | `(tactic| walk_at "binaryOp Pow int int") => `(tactic| k_extra "binaryOp Pow int int")
local macro_rules | `(tactic| walk_at "exec While Compare cons nil") => `(tactic| k_extra "exec While Compare cons nil")
local macro_rules | `(tactic| walk_at "callWith ref") => `(tactic| k_extra "callWith ref")
local macro_rules | `(tactic| walk_at "noteFrame ref") => `(tactic| k_extra "noteFrame ref")
local macro_rules | `(tactic| walk_at "getAttr ref") => `(tactic| k_extra "getAttr ref")
local macro_rules | `(tactic| walk_at "subscriptTail") => `(tactic| k_extra "subscriptTail")
local macro_rules | `(tactic| walk_at "compareOp NotEq") => `(tactic| k_extra "compareOp NotEq")
local macro_rules | `(tactic| walk_at "compareOp Eq") => `(tactic| k_extra "compareOp Eq")
local macro_rules | `(tactic| walk_at "pyIter ref") => `(tactic| k_extra "pyIter ref")
local macro_rules | `(tactic| walk_at "ite") => `(tactic| k_extra "ite")

section
open PySem PySem.W PyProof.Rows PySem.Calls PySem.Spec
namespace Mine
abbrev PG : Program := PySem.Challenge.rw_pq1400_01.row.prog

/-- what a call of a def promises -/
abbrev Ret0 (h₀ : Heap) (L : Addr) (m : Str → Option Value) (news : List (Addr × Obj)) (s : Shared) (Q : Value → Shared → Prop) (R : Tok → Value) : Prop :=
  ∀ (t : Tok) (h' : Heap) (tk' : Nat), Fr h₀ L h' m → News h₀ L h' news → Q (R t) { s with heap := h', toks := tk' }

abbrev Ctr0 (w : World) (p : Program) (loose : List Str) (mean : ExcName → Option Value) (mg mb : Str → Option Value) (f : Addr) (vs : List Value) (news : List (Addr × Obj)) (D U : Nat) (R : Tok → Value) : Prop :=
  ∀ (dp un : Nat) (gd : Option (List Code)) (cn : Str) (cs : Scope) (a : Addr) (ccd : Value) (cl : List (Str × Addr)) (outer : List Env) (A₀ : Around) (base h₀ : Heap) (L : Addr) (m : Str → Option Value) (s : Shared) (Q E : Value → Shared → Prop),
    Below A₀ base outer h₀ → Fr h₀ L s.heap m → (hd.heap_39 w.params).In h₀ → News h₀ L s.heap news → Top p loose mean mg mb h₀ → cs.kind = .function →
    dp + D < recursionLimit → un + U < cLine → Ret0 h₀ L m news s Q R →
    wpAny (model PG w) (ktrTop dp un gd cn cs L a ccd cl outer) (call (.ref f) vs) Q E s

end Mine
end

section
open PySem PySem.W PyProof.Rows PySem.Calls PySem.Spec
namespace Mine

theorem bind_two {m : Str → Option Value} {a b : Str} {va vb : Value} (ha : m a = some va) (hb : m b = some vb) :
    m = bindM (bindM m a (some va)) b (some vb) := by
  funext y
  simp only [bindM]
  split
  · next h => rw [h, hb]
  · split
    · next h => rw [h, ha]
    · rfl

theorem gcd_step {x y : Int} (hy : 0 < y) : Int.gcd y (x.fmod y) = Int.gcd x y := by
  rw [Int.fmod_eq_emod_of_nonneg x (Int.le_of_lt hy), Int.gcd_comm]
  have := Int.gcd_add_mul_left_left y (x % y) (x / y)
  rw [Int.emod_add_mul_ediv] at this
  exact this.symm
theorem fmod_range {x y : Int} (hy : 0 < y) : 0 ≤ x.fmod y ∧ x.fmod y < y := by
  rw [Int.fmod_eq_emod_of_nonneg x (Int.le_of_lt hy)]
  exact ⟨Int.emod_nonneg _ (Int.ne_of_gt hy), Int.emod_lt_of_pos _ hy⟩
theorem news_tail {h₀ h : Heap} {L : Addr} {q : Addr × Obj} {news : List (Addr × Obj)} (N : News h₀ L h (q :: news)) : News h₀ L h news := fun p hp => N p (.tail _ hp)

section
variable {w : World} {p : Program} {loose : List Str} {mean : ExcName → Option Value} {mg mb : Str → Option Value}
set_option maxHeartbeats 4000000 in
theorem gcd_ctr (a b : Int) (ta tb : Tok) (news : List (Addr × Obj)) (ha : 0 ≤ a) (hb : 0 ≤ b) : Ctr0 w p loose mean mg mb 57 [.int a ta, .int b tb] news 1 8 (fun t => .int (Int.gcd a b) t) := by
  intro dp un gd cn cs ad ccd cl outer A₀ base h₀ L m s Q E B F X N T hk hdp hun hret
  refine wpAny_call ?_
  k_dflt ktr_enter
  iterate 2 walk1
  refine' While_inv (fun n m₁ news₁ => ∃ m0 x y t u, m₁ = bindM (bindM m0 (Str.ofString "a") (some (.int x t))) (Str.ofString "b") (some (.int y u)) ∧ news₁ = news ∧ 0 ≤ x ∧ 0 ≤ y ∧ Int.gcd x y = Int.gcd a b ∧ n = y.toNat) ?hF ?hN ?hJ ?_ ?hE
  case hF => k_asm
  case hN => k_asm
  case hJ => exact ⟨_, a, b, ta, tb, bind_two rfl rfl, rfl, ha, hb, rfl, rfl⟩
  case hE => walk1
  rintro n m₁ news₁ h₁ tk₁ F₁ N₁ ⟨m0, x, y, t, u, rfl, rfl, hx, hy, hg, rfl⟩
  k_steps
  · obtain ⟨r0, r1⟩ := fmod_range (x := x) (by assumption)
    refine' WhileStep.intro (n' := (x.fmod y).toNat) ?hF ?hN ?hn ?hJ
    case hF => assumption
    case hN => exact news_tail (by assumption)
    case hn => omega
    case hJ => exact ⟨_, y, x.fmod y, _, _, bind_two rfl rfl, rfl, hy, r0, (gcd_step (by assumption)).trans hg, rfl⟩
  · have e : x = ((Int.gcd a b : Nat) : Int) := by
      have : y = 0 := by omega
      subst this
      rw [← hg, Int.gcd_zero_right]
      omega
    rw [e]
    exact hret _ _ _ (by assumption) (by assumption)
end
end Mine
end

section
open PySem PySem.W PyProof.Rows PySem.Calls PySem.Spec
namespace Mine

section
variable {w : World} {A : Around} {E : Value → Shared → Prop} {s : Shared}

abbrev msgEntry (w : World) (tk : Tok) (v : Value) : DictEntry := ⟨PyData.keyHash w.params (Str.ofString "message"), .str (Str.ofString "message") tk, v⟩

/-- the store of the text into an exception that has no dict yet -/
theorem exc_store {e : Addr} {vs : Array Value} {sl : Array (Option Value)} {v : Value} {Q : Unit → Shared → Prop} (X : (hd.heap_39 w.params).In s.heap) (he : s.heap.get? e = some { cls := .ref 44, data := .fields vs, slots := sl })
    (h : ∀ h' tk tk', h'.get? e = some { cls := .ref 44, dict := some s.heap.objs.size, data := .fields vs, slots := sl } → h'.get? s.heap.objs.size = some (dictOf [msgEntry w tk v] 1) →
      (∀ b o, b ≠ e → s.heap.get? b = some o → h'.get? b = some o) → Q () { s with heap := h', toks := tk' }) :
    wpAny (model PG w) A (setAttr (.ref e) (Str.ofString "message") v) Q E s := by
  have I : InstAt s.heap e { cls := .ref 44, data := .fields vs, slots := sl } 44 none := ⟨he, rfl, rfl, trivial⟩
  have SF := PySem.F.store_Exception
  refine set_plain X I (by k_is) ?_
  have hcls : ∃ cd, clsIn (hd.heap_39 w.params) 44 = some cd ∧ cd.mro = [.ref 44, .ref 24, .type "Exception", .type "BaseException", .type "object"] ∧ cd.hasDict = true := ⟨_, by k_is, rfl, rfl⟩
  obtain ⟨cd, hcd, hmro, hhd⟩ := hcls
  have L0 : Looks (model PG w) s.heap (mroOf (.ref 44)) cd.mro := (looks_clsIn X hcd).andThen .now
  have sub : Looks (model PG w) s.heap (isInstance (.ref e) (.type "object")) true := I.type.andThen (looks_mroIn X (by unfold mroIn; rw [hcd, Option.bind_some, hmro]; rfl))
  refine codeAny_call_builtin SF.slot.plain SF.entry (@check_slot (model PG w) _ _ _ "object.__setattr__" "object" "__setattr__" (.ref e) [.str (Str.ofString "message") s.toks, v] [] _ SF.kind SF.split sub (SF.args (.ref e) (.str (Str.ofString "message") s.toks) v) ?_)
  rw [osa_eq, refuse_eq]
  refine wpAny_bind (wpAny_bind (I.type _ _ _ _ (fun _ _ e => e) (wpAny_bind (L0 _ _ _ _ (fun _ _ e => e) ?_))))
  rw [hmro, refuseLoop_ref, refuseLoop_ref, SF.passes]
  have L1 : Looks (model PG w) s.heap (typeLookup (.ref 44) (Str.ofString "message")) none := looks_findIn X (by k_is)
  refine wpAny_pure (wpAny_bind (I.type _ _ _ _ (fun _ _ e => e) (wpAny_bind (L1 _ _ _ _ (fun _ _ e => e) (wpAny_bind (wpAny_pure (a := none) ?_))))))
  have hne : e ≠ s.heap.objs.size := Nat.ne_of_lt (Heap.lt_size he)
  -- the dict is made
  refine wpAny_bind (wpAny_pure (wpAny_bind (wpAny_bind (wpAny_loadPart he (wpAny_bind (looks_clsIn X hcd _ _ _ _ (fun _ _ e => e) ?_))))))
  rw [hhd, if_neg (by decide)]
  dsimp only
  rw [if_neg (by decide +kernel)]
  have he₁ : (s.heap.push { cls := .type "dict", data := .dict #[] }).get? e = some { cls := .ref 44, data := .fields vs, slots := sl } := Heap.get?_push_of_some _ he
  refine wpAny_bind (wpAny_alloc' (wpAny_bind (wpAny_update' he₁ (wpAny_pure ?_))))
  have D : ((s.heap.push { cls := .type "dict", data := .dict #[] }).update e fun o => { cls := o.cls, dict := some s.heap.objs.size, data := o.data, slots := o.slots }).get? s.heap.objs.size = some (dictOf [] 0) :=
    (Heap.get?_update_ne _ _ _ _ hne.symm).trans (Heap.get?_push_at rfl rfl)
  have E₂ : ((s.heap.push { cls := .type "dict", data := .dict #[] }).update e fun o => { cls := o.cls, dict := some s.heap.objs.size, data := o.data, slots := o.slots }).get? e = some { cls := .ref 44, dict := some s.heap.objs.size, data := .fields vs, slots := sl } :=
    Heap.get?_update_self _ he₁ rfl
  show wpAny _ _ (Builtin.ObjectAttr.storeInDict s.heap.objs.size (Value.str (Str.ofString "message") s.toks) (Str.ofString "message") v) _ _ _
  unfold Builtin.ObjectAttr.storeInDict Builtin.ObjectAttr.newKeyGuard
  refine wpAny_bind (wpAny_pure (wpAny_bind ?_))
  unfold nsSet
  refine wpAny_bind (wpAny_bind (wpAny_askSetting (wpAny_pure (wpAny_bind (wpAny_mkText (wpAny_bind (wpAny_loadPart D ?_)))))))
  have D' : (((s.heap.push { cls := .type "dict", data := .dict #[] }).update e fun o => { cls := o.cls, dict := some s.heap.objs.size, data := o.data, slots := o.slots }).update s.heap.objs.size
      (Obj.putName (Str.ofString "message") (PyData.keyHash w.params (Str.ofString "message")) (.str (Str.ofString "message") (s.toks + 1)) v)).get? s.heap.objs.size = some (dictOf [msgEntry w (s.toks + 1) v] 1) := by
    have z := Heap.get?_update_self (Obj.putName (Str.ofString "message") (PyData.keyHash w.params (Str.ofString "message")) (.str (Str.ofString "message") (s.toks + 1)) v) D (by rw [putName_dict]; rfl)
    rw [putName_dict] at z
    exact z
  dsimp only [dictOf]
  rw [aRefKeyMayBeTheName_at, if_neg (by simp)]
  refine wpAny_updatePart D ?_
  refine wpAny_bind (wpAny_lookBehind D' (pastItsLine_dict (by rw [List.size_toArray, sizeLine_eq]; exact Nat.le_of_ble_eq_true rfl)) ?_)
  refine wpAny_pure (h _ _ _ ?_ D' ?_)
  · exact (Heap.get?_update_ne _ _ _ _ hne).trans E₂
  · intro b o hb ho
    exact (Heap.get?_update_ne _ _ _ _ (Nat.ne_of_lt (Heap.lt_size ho))).trans ((Heap.get?_update_ne _ _ _ _ hb).trans (Heap.get?_push_of_some _ ho))
end
end Mine
end

section
open PySem PySem.W PyProof.Rows PySem.Calls PySem.Spec
namespace Mine
section
variable {w : World} {A : Around} {E : Value → Shared → Prop} {s : Shared}
theorem ok23 : nsOkIn (hd.heap_39 w.params) 23 = true := by
  unfold nsOkIn
  rw [show (hd.heap_39 w.params).lookup 23 = some _ from by k_is]
  dsimp only
  rw [← Array.all_toList]
  rfl
theorem ok43 : nsOkIn (hd.heap_39 w.params) 43 = true := by
  unfold nsOkIn
  rw [show (hd.heap_39 w.params).lookup 43 = some _ from by k_is]
  dsimp only
  rw [← Array.all_toList]
  rfl
abbrev excTail : List Value := [.type "Exception", .type "BaseException", .type "object"]
theorem ns_some {K : Frag} {h : Heap} {N : Addr} {mN : Str → Option Value} {n : Str} {v : Value} (X : K.In h) (G : h.Ns N mN) (e : nsIn K N n = some (some v)) : mN n = some v := by
  obtain ⟨o, es, ep, ho, hd, _, hf⟩ := G
  unfold nsIn at e
  split at e
  · rename_i q
    have := X _ _ q
    rw [ho] at this
    cases this
    cases hd
    split at e
    · rename_i he
      rw [← hf]
      unfold nsFind findBy
      rw [← Array.find?_toList, he]
      exact Option.some.inj e
    · split at e <;> cases e
  · cases e
theorem own_tail {h : Heap} (X : (hd.heap_39 w.params).In h) : OwnTail h excTail (.ref 24 :: excTail) := by
  refine .own (X _ _ (show (hd.heap_39 w.params).lookup 24 = some _ by k_is)) (.of_isNs (isNs_of_in X ok23)) (nsMap_none_of_in X ok23 (by k_is)) .base
abbrev refusalObj : Obj := excClassObj (Str.ofString "Refusal") (Str.ofString "Refusal") 44 43 [.ref 24] (.ref 24 :: excTail) true [] [] false none none (some (.ref 28)) none (some (.str (Str.ofString "Refusal") 209)) (some (.str (Str.ofString "Refusal") 217)) (some (.bool true)) "Exception.__new__"
theorem obj44 {h : Heap} (X : (hd.heap_39 w.params).In h) : h.get? 44 = some refusalObj := X _ _ (show (hd.heap_39 w.params).lookup 44 = some _ by k_is)
theorem ns43 {h : Heap} (X : (hd.heap_39 w.params).In h) : ∃ mN, h.Ns 43 mN ∧ mN (Str.ofString "__init__") = some (.ref 41) := by
  refine ⟨_, .of_isNs (isNs_of_in X ok43), ?_⟩
  have := ns_some X (.of_isNs (isNs_of_in X ok43)) (show nsIn (hd.heap_39 w.params) 43 (Str.ofString "__init__") = some (some (.ref 41)) by k_is)
  exact this

/-- type.__call__ of the own exception class: a fresh exception, then its __init__ -/
theorem exc_type_call {rest : List Value} {Q : Fin → Shared → Prop} {h : Heap} {g : Array GenState} {d : Drawn} {t : Nat} {os : OsState} (X : (hd.heap_39 w.params).In h)
    (hq : ∀ h' e, Heap.MadeExcOf h h' e (.ref 44) rest →
      wpAny (model PG w) A (call (.ref 41) (.ref e :: rest)) (fun r s' => r = .none ∧ Q (.done (.ret (.ref e))) s') E ⟨h', g, d, t, os⟩) (hrest : rest.length ≤ sizeLine) :
    wpAny (model PG w) A (Builtin.«type.__call__» ⟨.ref 44 :: rest, []⟩) Q E ⟨h, g, d, t, os⟩ := by
  have F := PySem.F.excBase_Exception
  have T := own_tail X
  have hC := obj44 X
  obtain ⟨mN, hn, hi⟩ := ns43 X
  repeat (first | with_reducible refine wpAny_loadPart_at hC ?_ | with_reducible refine wpAny_madeBy_exc hC ?_ | wp_step)
  refine codeAny_call_builtin_code (Code.quiet_builtin _ F.quiet) (wpAny_check_new_subT F T hC ?_)
  refine codeAny_exc_new_subT F T hC ?_ hrest
  show wpAny _ _ _ _ _ _
  have up : ∀ b o, h.get? b = some o → ((h.push { cls := .type "tuple", data := .seq rest.toArray }).push { cls := .ref 44, data := .fields #[.ref h.objs.size, .none, .none, .none, .bool false, .none] }).get? b = some o :=
    fun b o e => Heap.get?_push_of_some _ (Heap.get?_push_of_some _ e)
  have hC₁ := up _ _ hC
  have X₁ := X.keeps up
  have hget : ((h.push { cls := .type "tuple", data := .seq rest.toArray }).push
      { cls := .ref 44, data := .fields #[.ref h.objs.size, .none, .none, .none, .bool false, .none] }).get? (h.objs.size + 1) = some
      { cls := .ref 44, data := .fields #[.ref h.objs.size, .none, .none, .none, .bool false, .none] } := by heap_get
  have hcC : (Value.ref 44 :: .ref 24 :: excTail).contains (.ref 44) = true := by decide
  unfold isInstance
  repeat (first | with_reducible refine wpAny_loadPart_at hget ?_ | (with_reducible refine wpAny_isSubtype_exc hC₁ ?_; rw [hcC]) | wp_step)
  show wpAny _ _ (typeLookup (.ref 44) _) _ _ _
  refine wpAny_typeLookup_tail hC₁ (hn.keeps up) (T.keeps up) F.mroIs F.init.lookup ?_
  rw [hi]
  refine wpAny_holding (wpAny_bind ?_)
  have hf := X₁ _ _ (show (hd.heap_39 w.params).lookup 41 = some _ by k_is)
  unfold bindSpecial
  refine wpAny_bind (wpAny_typeOf (T := "function") ⟨_, hf, rfl⟩ ?_)
  rw [if_pos (by decide)]
  refine wpAny_pure (wpAny_bind (wpAny_mono (hq _ (h.objs.size + 1) ⟨up, Heap.get?_none_of_le (Nat.le_succ _), h.objs.size, hget, Heap.get?_none_of_le (Nat.le_refl _), ?_⟩) (fun r s' hr => ?_) fun _ _ x => x))
  · exact Heap.get?_push_of_some _ (Heap.get?_push_at rfl rfl)
  · obtain ⟨rfl, hQ⟩ := hr
    wp_walk
    exact hQ

theorem exc_call {rest : List Value} {Q : Value → Shared → Prop} {h : Heap} {g : Array GenState} {d : Drawn} {t : Nat} {os : OsState} (X : (hd.heap_39 w.params).In h)
    (hq : ∀ h' e, Heap.MadeExcOf h h' e (.ref 44) rest →
      wpAny (model PG w) (A.under (.builtin "type.__call__" ⟨.ref 44 :: rest, []⟩)) (call (.ref 41) (.ref e :: rest)) (fun r s' => r = .none ∧ Q (.ref e) s') E ⟨h', g, d, t, os⟩) (hrest : rest.length ≤ sizeLine) :
    wpAny (model PG w) A (call (.ref 44) rest) Q E ⟨h, g, d, t, os⟩ := by
  have f1 := tc_lookup
  have f2 := tc_bind (.ref 44)
  have hC := obj44 X
  have hT : (⟨h, g, d, t, os⟩ : Shared).TypeIs (.ref 44) "type" := ⟨_, hC, rfl⟩
  refine wpAny_call (codeAny_of_tree ?_)
  show wpAny _ _ (callAny (.ref 44) _) _ _ _
  repeat (any_goals (first | assumption | with_reducible refine wpAny_loadPart_at hC ?_ | wp_step))
  refine ⟨rfl, ?_⟩
  refine codeAny_call_builtin_at (Code.quiet_builtin _ (by decide +kernel)) entry_typeCall (wpAny_check_type_call_sub hC (exc_type_call X (fun h' e hm => ?_) hrest))
  exact hq h' e hm
end
end Mine
end

section
open PySem PySem.W PyProof.Rows PySem.Calls PySem.Spec
namespace Mine
section
variable {w : World} {p : Program} {loose : List Str} {mean : ExcName → Option Value} {mg mb : Str → Option Value}
abbrev freshExc (t : Addr) : Obj := { cls := .ref 44, data := .fields #[.ref t, .none, .none, .none, .bool false, .none] }
abbrev msgExc (t dx : Addr) (tb : Value) (sl : Array (Option Value)) : Obj := { cls := .ref 44, dict := some dx, data := .fields #[.ref t, tb, .none, .none, .bool false, .none], slots := sl }

theorem fr_but {g h h₂ : Heap} {L e : Addr} {m : Str → Option Value} (F : Fr g L h m) (ge : g.get? e = none) (eL : L ≠ e) (hs : ∀ b o, b ≠ e → h.get? b = some o → h₂.get? b = some o) : Fr g L h₂ m := by
  obtain ⟨⟨o, es, ep, ho, r⟩, keep, above⟩ := F
  exact ⟨⟨o, es, ep, hs _ _ eL ho, r⟩, fun b o hb => hs _ _ (fun q => by rw [q, ge] at hb; cases hb) (keep b o hb), above⟩

set_option maxHeartbeats 4000000 in
theorem exc_init {A A₀ : Around} {base h₀ : Heap} {cn : Str} {cs : Scope} {a : Addr} {ccd : Value} {cl : List (Str × Addr)} {outer : List Env} {L : Addr} {m : Str → Option Value} {s : Shared} {Q E : Value → Shared → Prop} {e t : Addr} {v : Value} {news : List (Addr × Obj)}
    (B : Below A₀ base outer h₀) (F : Fr h₀ L s.heap m) (X : (hd.heap_39 w.params).In h₀) (N : News h₀ L s.heap ((e, freshExc t) :: news)) (hne : ∀ q ∈ news, q.1 ≠ e) (T : Top p loose mean mg mb h₀) (hk : cs.kind = .function)
    (hA : A.frames = some (envX cn cs L a ccd cl :: outer)) (hroom : A.depth < recursionLimit)
    (hret : ∀ h' tk dx tk', Fr h₀ L h' m → News h₀ L h' ((dx, dictOf [msgEntry w tk v] 1) :: (e, msgExc t dx .none #[]) :: news) → (∀ q ∈ news, q.1 ≠ dx) → dx ≠ e → Q .none { s with heap := h', toks := tk' }) :
    wpAny (model PG w) A (call (.ref 41) [.ref e, v]) Q E s := by
  refine wpAny_call ?_
  k_dflt (refine' code_def ?k1 ?k2 ?k3 ?k4 ?k5 ?kA ?kF ?kK ?k6 ?k7 ?k8 ?k9 ?kB ?_ ?c2 ?c3 ?c4 ?c5; (case kA => exact hA); (case kF => exact rfl); (case kK => assumption); (case k1 => k_asm); (case k2 => k_asm); (case k3 => k_asm); (case k4 => k_asm); (case k5 => k_asm); (case k6 => k_is); (case k7 => k_is); (case k8 => exact hroom); (case k9 => exact BindsTo.of_eq rfl); (case c5 => decide); (case kB => exact locs rfl); (case c2 => exact rfl); (case c3 => exact rfl); (case c4 => exact rfl); k_whole; intro g' L' h' FG' F' N' B' X' T'; (try dsimp only); (try k_fold))
  k_steps
  refine exc_store (X'.keeps F'.keep) (N' _ (.head _)).1 ?_
  intro h₂ tk₁ tk₂ he hdx hsame
  have eL : L' ≠ e := fun q => (N' _ (.head _)).2.1 q.symm
  have ge : g'.get? e = none := (N' _ (.head _)).2.2
  have hsz : h'.get? h'.objs.size = none := Heap.get?_none_of_le (Nat.le_refl _)
  have F₂ := fr_but F' ge eL hsame
  have N₂ : News g' L' h₂ ((h'.objs.size, dictOf [msgEntry w tk₁ v] 1) :: (e, msgExc t h'.objs.size .none #[]) :: news) := by
    intro q hq
    rcases List.mem_cons.mp hq with rfl | hq
    · refine ⟨hdx, fun z => ?_, ?_⟩
      · exact absurd F'.ns.lt (by rw [show L' = h'.objs.size from z.symm]; exact Nat.lt_irrefl _)
      · cases q : g'.get? h'.objs.size with
        | none => rfl
        | some o => have := F'.keep _ _ q; rw [hsz] at this; cases this
    · rcases List.mem_cons.mp hq with rfl | hq
      · exact ⟨he, (N' _ (.head _)).2⟩
      · exact ⟨hsame _ _ (hne q hq) (N' q (.tail _ hq)).1, (N' q (.tail _ hq)).2⟩
  have hnd : ∀ q ∈ news, q.1 ≠ h'.objs.size := fun q hq z => by
    have := (N' q (.tail _ hq)).1
    rw [z, hsz] at this
    cases this
  have hde : h'.objs.size ≠ e := fun z => by
    have := (N' _ (.head _)).1
    rw [show ((e, freshExc t) : Addr × Obj).1 = h'.objs.size from z.symm, hsz] at this
    cases this
  k_steps
  exact hret _ _ _ _ (by assumption) (by assumption) hnd hde
end
end Mine
end

section
open PySem PySem.W PyProof.Rows PySem.Calls PySem.Spec
namespace Mine
section
variable {w : World} {p : Program} {loose : List Str} {mean : ExcName → Option Value} {mg mb : Str → Option Value}

theorem raise_made {A : Around} {E : Value → Shared → Prop} {env : Env} {s : Shared} {x : Sem Value} {Q : Flow → Shared → Prop} (hh : A.handled = none)
    (h : wpAny (model PG w) A x (fun v s₁ => ∃ e t dx, v = .ref e ∧ (hd.heap_39 w.params).In s₁.heap ∧ s₁.heap.get? e = some (msgExc t dx .none #[]) ∧ E (.ref e) s₁) E s) :
    wpAny (model PG w) A (raiseStmt env (some x) none) Q E s := by
  have hcB : (Value.ref 44 :: .ref 24 :: excTail).contains (.type "BaseException") = true := by decide
  unfold raiseStmt
  refine wpAny_bind (wpAny_mono h (fun v s₁ h₁ => ?_) fun _ _ x => x)
  obtain ⟨e, t, dx, rfl, X, he, hE⟩ := h₁
  have hC := obj44 X
  obtain ⟨hp, g, d, tk, os⟩ := s₁
  repeat (first | with_reducible refine wpAny_loadPart_at he ?_ | with_reducible refine wpAny_loadPart_at hC ?_ | (with_reducible refine wpAny_isSubtype_exc hC ?_; rw [hcB]) | wp_step)
  exact wpAny_raiseNew_none hh hE

abbrev notExact : Str := Str.ofString "result is not exact"

set_option maxHeartbeats 4000000 in
theorem raise_refusal {A A₀ : Around} {base h₀ : Heap} {name : Str} {scope : Scope} {L a : Addr} {cd : Value} {outer : List Env} {m : Str → Option Value} {s : Shared} {Q : Flow → Shared → Prop} {E : Value → Shared → Prop} {news : List (Addr × Obj)} {np kpos cpos pos : Pos} {k : Nat}
    (B : Below A₀ base outer h₀) (F : Fr h₀ L s.heap m) (X : (hd.heap_39 w.params).In h₀) (N : News h₀ L s.heap news) (T : Top p loose mean mg mb h₀) (hk : scope.kind = .function)
    (hh : A.handled = none) (hA : A.frames = some (envOf name scope L a cd :: outer)) (hroom : A.depth + 2 < recursionLimit) (hx : (envOf name scope L a cd).kindOf (Str.ofString "Refusal") = some .globalImplicit)
    (hE : ∀ e t h' tk dx tk' mt, Fr h₀ L h' m → News h₀ L h' ((dx, dictOf [msgEntry w tk (.str notExact mt)] 1) :: (e, msgExc t dx .none #[]) :: news) → (∀ q ∈ news, q.1 ≠ e ∧ q.1 ≠ dx) → dx ≠ e → E (.ref e) { s with heap := h', toks := tk' }) :
    wpAny (model PG w) A (exec (.Raise (some (.Call (.Name (Str.ofString "Refusal") np) [.Constant (.str notExact) k kpos] [] cpos)) none pos) (envOf name scope L a cd)) Q E s := by
  rw [arm_exec_Raise]
  simp only [evalOpt, Option.map]
  refine wpAny_bind (wpAny_standAt (raise_made hh (wpAny_bind (wpAny_mono (wpAny_Call_ofName ?_) (fun v s₃ h₃ => wpAny_bind (wpAny_standAt (wpAny_pure h₃))) fun _ _ x => x))))
  refine name_K F X (topRead_of T) (by k_is) ?_ hk hx (by decide)
  k_dflt (refine' callWith_K ?k1 ?k2 ?_; (case k1 => k_asm); (case k2 => k_is))
  iterate 4 walk1
  refine exc_call (X.keeps F.keep) (fun h₁ e hm => ?_) (by show 1 ≤ sizeLine; exact Nat.le_of_ble_eq_true rfl)
  obtain ⟨t, he, _, _⟩ := hm.there
  have F₁ : Fr h₀ L h₁ m := F.keeps hm.keeps
  have eL : e ≠ L := fun z => by
    obtain ⟨o, es, ep, ho, _⟩ := F.ns
    have := hm.new
    rw [z] at this
    rw [show s.heap.get? L = some o from ho] at this
    cases this
  have en : h₀.get? e = none := by
    cases q : h₀.get? e with
    | none => rfl
    | some o => have := F.keep _ _ q; rw [hm.new] at this; cases this
  have hne : ∀ q ∈ news, q.1 ≠ e := fun q hq z => by
    have := (N q hq).1
    rw [z, hm.new] at this
    cases this
  have N₁ : News h₀ L h₁ ((e, freshExc t) :: news) := fun q hq => by
    rcases List.mem_cons.mp hq with rfl | hq
    · exact ⟨he, eL, en⟩
    · exact ⟨hm.keeps _ _ (N q hq).1, (N q hq).2⟩
  refine exc_init (A := A.under (.builtin "type.__call__" ⟨[.ref 44, .str notExact s.toks], []⟩)) (s := { s with heap := h₁, toks := s.toks + 1 }) (cl := []) (cs := scope) (cn := name) (a := a) (ccd := cd) B F₁ X N₁ hne T hk ?_ ?_ ?_
  · show pushEnvs (Code.envs (.builtin "type.__call__" ⟨[.ref 44, .str notExact s.toks], []⟩)) A.frames = some (envX name scope L a cd [] :: outer)
    rw [show Code.envs (.builtin "type.__call__" ⟨[.ref 44, .str notExact s.toks], []⟩) = [] from rfl, hA]
    rfl
  · show A.depth + Code.weight _ < _
    have : Code.weight (.builtin "type.__call__" ⟨[.ref 44, .str notExact s.toks], []⟩) = 1 := by rfl
    omega
  · intro h' tk dx tk' F' N' hd hde
    exact ⟨rfl, e, t, dx, rfl, X.keeps F'.keep, (N' _ (.tail _ (.head _))).1, hE e t h' tk dx tk' _ F' N' (fun q hq => ⟨hne q hq, hd q hq⟩) hde⟩
end
end Mine
end

section
open PySem PySem.W PyProof.Rows PySem.Calls PySem.Spec
namespace Mine
section
variable {w : World}

/-- T is none of the places that the flight keeps -/
def Apart (h₀ : Heap) (L : Addr) (news : List (Addr × Obj)) (e dx T : Addr) : Prop := h₀.get? T = none ∧ T ≠ L ∧ T ≠ e ∧ T ≠ dx ∧ ∀ q ∈ news, q.1 ≠ T

structure Fl0 (w : World) (h₀ : Heap) (outer : List Env) (L : Addr) (m : Str → Option Value) (news : List (Addr × Obj)) (e t dx : Addr) (tk mt : Tok) (tb : Value) (h : Heap) : Prop where
  other : ∀ b o, h₀.get? b = some o → b ∉ outer.filterMap (·.frame) → h.get? b = some o
  frame : ∀ b o, h₀.get? b = some o → b ∈ outer.filterMap (·.frame) → ∃ sl, h.get? b = some { o with slots := sl }
  ns : h.Ns L m
  above : h₀.objs.size ≤ L
  led : News h₀ L h news
  exc : ∃ sl, h.get? e = some (msgExc t dx tb sl)
  eL : e ≠ L
  e0 : h₀.get? e = none
  eN : ∀ q ∈ news, q.1 ≠ e
  dic : h.get? dx = some (dictOf [msgEntry w tk (.str notExact mt)] 1)
  dL : dx ≠ L
  de : dx ≠ e
  d0 : h₀.get? dx = none
  dN : ∀ q ∈ news, q.1 ≠ dx

variable {h₀ : Heap} {outer : List Env} {L : Addr} {m : Str → Option Value} {news : List (Addr × Obj)} {e t dx : Addr} {tk mt : Tok} {tb : Value} {h h' : Heap}

theorem selfNone {h₀ : Heap} {L : Addr} (a : h₀.objs.size ≤ L) : h₀.get? L = none := by
  cases q : h₀.get? L with
  | none => rfl
  | some o => exact absurd (Nat.lt_of_lt_of_le (Heap.lt_size q) a) (Nat.lt_irrefl _)

theorem Fl0.but {T : Addr} (x : Fl0 w h₀ outer L m news e t dx tk mt tb h) (aT : Apart h₀ L news e dx T) (same : ∀ b o, b ≠ T → h.get? b = some o → h'.get? b = some o) : Fl0 w h₀ outer L m news e t dx tk mt tb h' := by
  obtain ⟨a1, a2, a3, a4, a5⟩ := aT
  have n0 : ∀ b o, h₀.get? b = some o → b ≠ T := fun b o hb z => by rw [z, a1] at hb; cases hb
  obtain ⟨o, es, ep, ho, r⟩ := x.ns
  obtain ⟨sl, he⟩ := x.exc
  exact { x with
    other := fun b o hb nm => same _ _ (n0 b o hb) (x.other b o hb nm)
    frame := fun b o hb hm => by
      obtain ⟨sl, hs⟩ := x.frame b o hb hm
      exact ⟨sl, same _ _ (n0 b o hb) hs⟩
    ns := ⟨o, es, ep, same _ _ (Ne.symm a2) ho, r⟩
    led := fun q hq => ⟨same _ _ (a5 q hq) (x.led q hq).1, (x.led q hq).2⟩
    exc := ⟨sl, same _ _ (Ne.symm a3) he⟩
    dic := same _ _ (Ne.symm a4) x.dic }

theorem Fl0.grow (x : Fl0 w h₀ outer L m news e t dx tk mt tb h) (same : ∀ b o, h.get? b = some o → h'.get? b = some o) : Fl0 w h₀ outer L m news e t dx tk mt tb h' := by
  obtain ⟨o, es, ep, ho, r⟩ := x.ns
  obtain ⟨sl, he⟩ := x.exc
  exact { x with
    other := fun b o hb nm => same _ _ (x.other b o hb nm)
    frame := fun b o hb hm => by
      obtain ⟨sl, hs⟩ := x.frame b o hb hm
      exact ⟨sl, same _ _ hs⟩
    ns := ⟨o, es, ep, same _ _ ho, r⟩
    led := fun q hq => ⟨same _ _ (x.led q hq).1, (x.led q hq).2⟩
    exc := ⟨sl, same _ _ he⟩
    dic := same _ _ x.dic }

theorem Fl0.slots (x : Fl0 w h₀ outer L m news e t dx tk mt tb h) (inF : ∀ b ∈ outer.filterMap (·.frame), ∃ o, h₀.get? b = some o) (hs : Heap.SlotsOnly (L :: outer.filterMap (·.frame)) h h') : Fl0 w h₀ outer L m news e t dx tk mt tb h' := by
  have nF : ∀ b, h₀.get? b = none → b ∉ outer.filterMap (·.frame) := fun b hb hm => by
    obtain ⟨o, ho⟩ := inF b hm
    rw [hb] at ho
    cases ho
  have nS : ∀ b, b ≠ L → b ∉ outer.filterMap (·.frame) → b ∉ L :: outer.filterMap (·.frame) := fun b h1 h2 hm => by
    rcases List.mem_cons.mp hm with z | z
    · exact h1 z
    · exact h2 z
  have keepAt : ∀ b, b ≠ L → h₀.get? b = none → h'.get? b = h.get? b := fun b h1 h2 => hs.2.1 b (nS b h1 (nF b h2))
  obtain ⟨o, es, ep, ho, r⟩ := x.ns
  obtain ⟨sl, he⟩ := x.exc
  exact { x with
    other := fun b o hb nm => (hs.2.1 b (nS b (fun z => by rw [z, selfNone x.above] at hb; cases hb) nm)).trans (x.other b o hb nm)
    frame := fun b o hb hm => by
      obtain ⟨sl, h1⟩ := x.frame b o hb hm
      obtain ⟨sl', h2⟩ := hs.2.2 b _ h1
      exact ⟨sl', h2⟩
    ns := by
      obtain ⟨sl', h2⟩ := hs.2.2 L _ ho
      exact ⟨_, es, ep, h2, r⟩
    led := fun q hq => ⟨(keepAt _ (x.led q hq).2.1 (x.led q hq).2.2).trans (x.led q hq).1, (x.led q hq).2⟩
    exc := ⟨sl, (keepAt _ x.eL x.e0).trans he⟩
    dic := (keepAt _ x.dL x.d0).trans x.dic }

theorem Fl0.turnTb (x : Fl0 w h₀ outer L m news e t dx tk mt tb h) (v : Value) : Fl0 w h₀ outer L m news e t dx tk mt v (h.update e (Obj.mapFields (·.setIfInBounds 1 v))) := by
  have same : ∀ b o, b ≠ e → h.get? b = some o → (h.update e (Obj.mapFields (·.setIfInBounds 1 v))).get? b = some o := fun b o hb ho => (Heap.get?_update_other _ _ (Ne.symm hb)).trans ho
  have n0 : ∀ b o, h₀.get? b = some o → b ≠ e := fun b o hb z => by rw [z, x.e0] at hb; cases hb
  obtain ⟨o, es, ep, ho, r⟩ := x.ns
  obtain ⟨sl, he⟩ := x.exc
  exact { x with
    other := fun b o hb nm => same _ _ (n0 b o hb) (x.other b o hb nm)
    frame := fun b o hb hm => by
      obtain ⟨sl, hs⟩ := x.frame b o hb hm
      exact ⟨sl, same _ _ (n0 b o hb) hs⟩
    ns := ⟨o, es, ep, same _ _ (Ne.symm x.eL) ho, r⟩
    led := fun q hq => ⟨same _ _ (x.eN q hq) (x.led q hq).1, (x.led q hq).2⟩
    exc := ⟨sl, Heap.get?_update_self _ he rfl⟩
    dic := same _ _ x.de x.dic }

/-- the exception flies, its newest traceback entry holding fl (or none made yet) -/
def Fled (w : World) (h₀ : Heap) (outer : List Env) (L : Addr) (m : Str → Option Value) (news : List (Addr × Obj)) (e : Addr) (fl : Value) (h : Heap) : Prop :=
  ∃ t dx tk mt T oT ts, Fl0 w h₀ outer L m news e t dx tk mt (.ref T) h ∧ Apart h₀ L news e dx T ∧ h.get? T = some oT ∧ oT.data = .fields ts ∧ ts[3]? = some fl
/-- just raised: no entry yet -/
def FledNew (w : World) (h₀ : Heap) (outer : List Env) (L : Addr) (m : Str → Option Value) (news : List (Addr × Obj)) (e : Addr) (h : Heap) : Prop :=
  ∃ t dx tk mt, Fl0 w h₀ outer L m news e t dx tk mt .none h

variable {A A₀ : Around} {base : Heap} {name : Str} {scope : Scope} {a : Addr} {cd : Value} {s : Shared} {E : Value → Shared → Prop} {fl : Value}

theorem Fl0.funFrames (x : Fl0 w h₀ outer L m news e t dx tk mt tb h) (K : Below A₀ base outer h₀) (hk : scope.kind = .function) : h.FunFrames base (envOf name scope L a cd :: outer) := by
  refine .cons (by show scope.kind ≠ .module; rw [hk]; decide) rfl x.ns ?_ (K.frames.of_keeps fun b o hb _ => ?_)
  · cases q : base.get? L with
    | none => rfl
    | some o => have := K.stays _ _ q; rw [selfNone x.above] at this; cases this
  · by_cases hm : b ∈ outer.filterMap (·.frame)
    · obtain ⟨sl, hs⟩ := x.frame b o hb hm
      exact ⟨_, hs, rfl⟩
    · exact ⟨o, x.other b o hb hm, rfl⟩

/-- the entry for this frame is laid -/
theorem note_tail {head : Value} {hadNext : Bool} {Q : Unit → Shared → Prop} (x : Fl0 w h₀ outer L m news e t dx tk mt tb s.heap) (K : Below A₀ base outer h₀) (hk : scope.kind = .function) (hA : A.frames = some (envOf name scope L a cd :: outer))
    (hQ : ∀ h', Fled w h₀ outer L m news e (rawInt L) h' → Q () { s with heap := h' }) :
    wpAny (model PG w) A (do let fr ← frameOf (envOf name scope L a cd); let pl ← entryPlaceOf L hadNext; let b ← EntryCells.newEntry head fr .none (rawInt L) .none pl; setField (.ref e) 1 b) Q E s := by
  refine wpAny_bind (wpAny_frameOf_fun hA (x.funFrames K hk) rfl fun h₁ hs₁ => ?_)
  refine wpAny_bind (wpAny_entryPlaceOf fun pl hpl => ?_)
  unfold EntryCells.newEntry newFields
  refine wpAny_bind (wpAny_newObj_type ?_ (hpl.sizeOk5 _ _ _ _ _))
  have x₁ := x.slots (fun b hb => let ⟨_, o, ho, _⟩ := K.frames.mem hb; ⟨o, ho⟩) hs₁
  have hT := Heap.get?_push_size h₁ (o := { cls := .type "traceback", dict := none, data := .fields ([head, .ref L, .none, rawInt L, .none] ++ (if pl.isEmpty then List.replicate 6 Value.none else pl)).toArray }) rfl
  have x₂ := x₁.grow (h' := h₁.push { cls := .type "traceback", dict := none, data := .fields ([head, .ref L, .none, rawInt L, .none] ++ (if pl.isEmpty then List.replicate 6 Value.none else pl)).toArray }) fun b o hb => Heap.get?_push_of_some _ hb
  obtain ⟨sl, he⟩ := x₂.exc
  have no : ∀ b o, h₁.get? b = some o → b ≠ h₁.objs.size := fun b o hb => Nat.ne_of_lt (Heap.lt_size hb)
  have ap : Apart h₀ L news e dx h₁.objs.size := by
    obtain ⟨oL, es, ep, hoL, _⟩ := x₁.ns
    obtain ⟨sl₁, he₁⟩ := x₁.exc
    refine ⟨?_, (no _ _ hoL).symm, (no _ _ he₁).symm, (no _ _ x₁.dic).symm, fun q hq => no _ _ (x₁.led q hq).1⟩
    cases q : h₀.get? h₁.objs.size with
    | none => rfl
    | some o =>
      by_cases hm : h₁.objs.size ∈ outer.filterMap (·.frame)
      · obtain ⟨sl, hs⟩ := x₁.frame _ o q hm
        exact absurd rfl (no _ _ hs)
      · exact absurd rfl (no _ _ (x₁.other _ o q hm))
  refine wpAny_setField he rfl (by show 1 < 6; decide) (hQ _ ⟨t, dx, tk, mt, h₁.objs.size, _, _, x₂.turnTb _, ap, (Heap.get?_update_other _ _ (Ne.symm ap.2.2.1)).trans hT, rfl, ?_⟩)
  first | (simp; done) | (rcases hpl with rfl | ⟨_, _, _, _, _, _, _, rfl⟩ <;> simp)

theorem note_fled {Q : Unit → Shared → Prop} (x : Fled w h₀ outer L m news e .none s.heap) (K : Below A₀ base outer h₀) (hk : scope.kind = .function) (hA : A.frames = some (envOf name scope L a cd :: outer))
    (hQ : ∀ h', Fled w h₀ outer L m news e (rawInt L) h' → Q () { s with heap := h' }) : wpAny (model PG w) A (noteFrame (.ref e) (envOf name scope L a cd)) Q E s := by
  obtain ⟨t, dx, tk, mt, T, oT, ts, x0, ap, hT, hdT, h3⟩ := x
  obtain ⟨sl, he⟩ := x0.exc
  unfold noteFrame
  simp only [envOf]
  refine wpAny_bind (wpAny_field he rfl (x := .ref T) rfl ?_)
  rw [if_pos (show (Value.ref T != Value.none) = true from by simp)]
  refine wpAny_bind (wpAny_field hT hdT h3 ?_)
  rw [if_neg (show ¬ ((Value.none == rawInt L) = true) from by simp [rawInt])]
  refine wpAny_bind (wpAny_setField hT hdT (Array.getElem?_eq_some_iff.mp h3).1 ?_)
  have x1 := x0.but (h' := s.heap.update T (Obj.mapFields (·.setIfInBounds 3 Value.none))) ap fun b o hb ho => (Heap.get?_update_other _ _ (Ne.symm hb)).trans ho
  exact note_tail (s := { s with heap := s.heap.update T (Obj.mapFields (·.setIfInBounds 3 Value.none)) }) x1 K hk hA hQ

theorem note_new {Q : Unit → Shared → Prop} (x : FledNew w h₀ outer L m news e s.heap) (K : Below A₀ base outer h₀) (hk : scope.kind = .function) (hA : A.frames = some (envOf name scope L a cd :: outer))
    (hQ : ∀ h', Fled w h₀ outer L m news e (rawInt L) h' → Q () { s with heap := h' }) : wpAny (model PG w) A (noteFrame (.ref e) (envOf name scope L a cd)) Q E s := by
  obtain ⟨t, dx, tk, mt, x0⟩ := x
  obtain ⟨sl, he⟩ := x0.exc
  unfold noteFrame
  simp only [envOf]
  refine wpAny_bind (wpAny_field he rfl (x := .none) rfl ?_)
  rw [if_neg (by decide)]
  exact note_tail x0 K hk hA hQ

theorem flight_fled {Q : Unit → Shared → Prop} (x : Fled w h₀ outer L m news e fl s.heap) (hQ : ∀ h', Fled w h₀ outer L m news e .none h' → Q () { s with heap := h' }) : wpAny (model PG w) A (setFlight (.ref e) none) Q E s := by
  obtain ⟨t, dx, tk, mt, T, oT, ts, x0, ap, hT, hdT, h3⟩ := x
  obtain ⟨sl, he⟩ := x0.exc
  have hsz3 : 3 < ts.size := (Array.getElem?_eq_some_iff.mp h3).1
  unfold setFlight
  refine wpAny_bind (wpAny_field he rfl (x := .ref T) rfl ?_)
  rw [if_pos (show (Value.ref T != Value.none) = true from by simp)]
  refine wpAny_setField hT hdT hsz3 (hQ _ ⟨t, dx, tk, mt, T, _, _, x0.but ap fun b o hb ho => (Heap.get?_update_other _ _ (Ne.symm hb)).trans ho, ap, Heap.get?_update_self _ hT (Obj.isFreed_of_fields (Obj.data_mapFields hdT _)), Obj.data_mapFields hdT _, by simp [hsz3]⟩)

section
variable {g : Heap} {L' : Addr} {m' : Str → Option Value} {news' : List (Addr × Obj)} {cn : Str} {cs : Scope} {ac : Addr} {ccd : Value} {cl : List (Str × Addr)}
theorem Fl0.climb (x : Fl0 w g (envX cn cs L ac ccd cl :: outer) L' m' news' e t dx tk mt tb h) (FG : Fr h₀ L g m) (st : ∀ q ∈ news, q.1 ≠ L ∧ h₀.get? q.1 = none) (sub : ∀ q ∈ news, q ∈ news') :
    Fl0 w h₀ outer L m news e t dx tk mt tb h := by
  obtain ⟨oL, es, ep, hoL, r⟩ := FG.ns
  have hh : ∀ b o, h₀.get? b = some o → b ≠ L := fun b o hb z => by rw [z, selfNone FG.above] at hb; cases hb
  have gL : ∀ b, g.get? b = none → b ≠ L := fun b hb z => by rw [z, hoL] at hb; cases hb
  have mem : ∀ b, b ∈ (envX cn cs L ac ccd cl :: outer).filterMap (·.frame) ↔ b = L ∨ b ∈ outer.filterMap (·.frame) := fun b => by
    rw [List.filterMap_cons]
    show b ∈ L :: _ ↔ _
    exact List.mem_cons
  exact {
    other := fun b o hb nm => x.other b o (FG.keep b o hb) fun hm => ((mem b).mp hm).elim (hh b o hb) nm
    frame := fun b o hb hm => x.frame b o (FG.keep b o hb) ((mem b).mpr (.inr hm))
    ns := by
      obtain ⟨sl, hs⟩ := x.frame L oL hoL ((mem L).mpr (.inl rfl))
      exact ⟨_, es, ep, hs, r⟩
    above := FG.above
    led := fun q hq => ⟨(x.led q (sub q hq)).1, st q hq⟩
    exc := x.exc
    eL := gL _ x.e0
    e0 := kts_none FG.keep x.e0
    eN := fun q hq => x.eN q (sub q hq)
    dic := x.dic
    dL := gL _ x.d0
    de := x.de
    d0 := kts_none FG.keep x.d0
    dN := fun q hq => x.dN q (sub q hq) }
theorem Fled.climb (x : Fled w g (envX cn cs L ac ccd cl :: outer) L' m' news' e fl h) (FG : Fr h₀ L g m) (st : ∀ q ∈ news, q.1 ≠ L ∧ h₀.get? q.1 = none) (sub : ∀ q ∈ news, q ∈ news') :
    Fled w h₀ outer L m news e fl h := by
  obtain ⟨t, dx, tk, mt, T, oT, ts, x0, ⟨a1, a2, a3, a4, a5⟩, r⟩ := x
  obtain ⟨oL, es, ep, hoL, _⟩ := FG.ns
  exact ⟨t, dx, tk, mt, T, oT, ts, x0.climb FG st sub, ⟨kts_none FG.keep a1, (fun z => by rw [z, hoL] at a1; cases a1), a3, a4, fun q hq => a5 q (sub q hq)⟩, r⟩

theorem leave_fled {Q : Unit → Shared → Prop} (x : Fled w g (envX cn cs L ac ccd cl :: outer) L' m' news' e .none s.heap) (K : Below A₀ base (envX cn cs L ac ccd cl :: outer) g) (FG : Fr h₀ L g m) (hk : scope.kind = .function)
    (hA : A.frames = some (envOf name scope L' a cd :: envX cn cs L ac ccd cl :: outer)) (st : ∀ q ∈ news, q.1 ≠ L ∧ h₀.get? q.1 = none) (sub : ∀ q ∈ news, q ∈ news')
    (hQ : ∀ h', Fled w h₀ outer L m news e .none h' → Q () { s with heap := h' }) : wpAny (model PG w) A (leaving (envOf name scope L' a cd) (.ref e)) Q E s := by
  unfold leaving
  refine wpAny_bind (note_fled x K hk hA fun h₁ x₁ => ?_)
  exact flight_fled (s := { s with heap := h₁ }) x₁ fun h₂ x₂ => hQ h₂ (x₂.climb FG st sub)
theorem leave_new {Q : Unit → Shared → Prop} (x : FledNew w g (envX cn cs L ac ccd cl :: outer) L' m' news' e s.heap) (K : Below A₀ base (envX cn cs L ac ccd cl :: outer) g) (FG : Fr h₀ L g m) (hk : scope.kind = .function)
    (hA : A.frames = some (envOf name scope L' a cd :: envX cn cs L ac ccd cl :: outer)) (st : ∀ q ∈ news, q.1 ≠ L ∧ h₀.get? q.1 = none) (sub : ∀ q ∈ news, q ∈ news')
    (hQ : ∀ h', Fled w h₀ outer L m news e .none h' → Q () { s with heap := h' }) : wpAny (model PG w) A (leaving (envOf name scope L' a cd) (.ref e)) Q E s := by
  unfold leaving
  refine wpAny_bind (note_new x K hk hA fun h₁ x₁ => ?_)
  exact flight_fled (s := { s with heap := h₁ }) x₁ fun h₂ x₂ => hQ h₂ (x₂.climb FG st sub)
theorem fled_new (F : Fr h₀ L h m) (N : News h₀ L h ((dx, dictOf [msgEntry w tk (.str notExact mt)] 1) :: (e, msgExc t dx .none #[]) :: news)) (hn : ∀ q ∈ news, q.1 ≠ e ∧ q.1 ≠ dx) (de : dx ≠ e) :
    FledNew w h₀ outer L m news e h := ⟨t, dx, tk, mt, {
      other := fun b o hb _ => F.keep b o hb
      frame := fun b o hb _ => ⟨o.slots, F.keep b o hb⟩
      ns := F.ns
      above := F.above
      led := fun q hq => N q (.tail _ (.tail _ hq))
      exc := ⟨_, (N _ (.tail _ (.head _))).1⟩
      eL := (N _ (.tail _ (.head _))).2.1
      e0 := (N _ (.tail _ (.head _))).2.2
      eN := fun q hq => (hn q hq).1
      dic := (N _ (.head _)).1
      dL := (N _ (.head _)).2.1
      de := de
      d0 := (N _ (.head _)).2.2
      dN := fun q hq => (hn q hq).2 }⟩
end
end
end Mine
end

section
open PySem PySem.W PyProof.Rows PySem.Calls PySem.Spec
namespace Mine
abbrev tupO (n d : Int) (a b : Tok) : Obj := { cls := .type "tuple", data := .seq #[.int n a, .int d b] }
inductive FracAt (news : List (Addr × Obj)) : Value → Int → Int → Prop
  | mk {q : Addr} {n d : Int} {a b : Tok} (h : (q, tupO n d a b) ∈ news) : FracAt news (.ref q) n d
  | one : FracAt news (.ref 50) 1 1
  | zero : FracAt news (.ref 49) 0 1

abbrev RetF (h₀ : Heap) (L : Addr) (m : Str → Option Value) (news : List (Addr × Obj)) (s : Shared) (Q : Value → Shared → Prop) (res : Option (Int × Int)) : Prop :=
  ∀ n d, res = some (n, d) → ∀ (r : Value) (ex : List (Addr × Obj)) (h' : Heap) (tk' : Nat), Fr h₀ L h' m → News h₀ L h' (ex ++ news) → FracAt (ex ++ news) r n d → Q r { s with heap := h', toks := tk' }
abbrev RaiF (w : World) (h₀ : Heap) (outer : List Env) (L : Addr) (m : Str → Option Value) (news : List (Addr × Obj)) (s : Shared) (E : Value → Shared → Prop) (res : Option (Int × Int)) : Prop :=
  res = none → ∀ (e : Addr) (h' : Heap) (tk' : Nat), Fled w h₀ outer L m news e .none h' → E (.ref e) { s with heap := h', toks := tk' }

abbrev CtrF (w : World) (p : Program) (loose : List Str) (mean : ExcName → Option Value) (mg mb : Str → Option Value) (f : Addr) (vs : List Value) (news : List (Addr × Obj)) (D U : Nat) (res : Option (Int × Int)) : Prop :=
  ∀ (dp un : Nat) (gd : Option (List Code)) (cn : Str) (cs : Scope) (a : Addr) (ccd : Value) (cl : List (Str × Addr)) (outer : List Env) (A₀ : Around) (base h₀ : Heap) (L : Addr) (m : Str → Option Value) (s : Shared) (Q E : Value → Shared → Prop),
    Below A₀ base outer h₀ → Fr h₀ L s.heap m → (hd.heap_39 w.params).In h₀ → News h₀ L s.heap news → Top p loose mean mg mb h₀ → cs.kind = .function →
    dp + D < recursionLimit → un + U < cLine → RetF h₀ L m news s Q res → RaiF w h₀ outer L m news s E res →
    wpAny (model PG w) (ktrTop dp un gd cn cs L a ccd cl outer) (call (.ref f) vs) Q E s

/-- 10 to the 5000th -/
def Most : Int := ((10 ^ 5000 : Nat) : Int)
def fin (n d : Int) : Option (Int × Int) := if (n.natAbs : Int) ≤ Most ∧ d ≤ Most then some (n, d) else none
theorem absOf (n : Int) : (if n < 0 then -n else n) = (n.natAbs : Int) := by split <;> omega
theorem fin_left {l n d : Int} (h : l < if n < 0 then -n else n) (hl : l = Most) : fin n d = none := by
  rw [absOf, hl] at h
  exact if_neg fun q => absurd q.1 (Int.not_le.mpr h)
theorem fin_right {l n d : Int} (h : l < d) (hl : l = Most) : fin n d = none := by
  rw [hl] at h
  exact if_neg fun q => absurd q.2 (Int.not_le.mpr h)
theorem fin_some {l n d : Int} (h : ¬ l < if n < 0 then -n else n) (h' : ¬ l < d) (hl : l = Most) : fin n d = some (n, d) := by
  rw [absOf, hl] at h
  rw [hl] at h'
  exact if_pos ⟨Int.not_lt.mp h, Int.not_lt.mp h'⟩
/-- the reduced fraction -/
def redN (n d : Int) : Int := (if d < 0 then -n else n).fdiv (Int.gcd n d)
def redD (n d : Int) : Int := (if d < 0 then -d else d).fdiv (Int.gcd n d)
def due (n d : Int) : Option (Int × Int) := fin (redN n d) (redD n d)
theorem gcd_abs (x y : Int) : Int.gcd (if x < 0 then -x else x) y = Int.gcd x y := by split <;> simp
theorem gcd_zsub (x y : Int) : Int.gcd (0 - x) (0 - y) = Int.gcd x y := by simp
theorem due_neg {n d : Int} (h : d < 0) : due n d = fin ((0 - n).fdiv (Int.gcd n d)) ((0 - d).fdiv (Int.gcd n d)) := by
  unfold due redN redD
  rw [if_pos h, if_pos h, Int.zero_sub, Int.zero_sub]
theorem due_pos {n d : Int} (h : ¬ d < 0) : due n d = fin (n.fdiv (Int.gcd n d)) (d.fdiv (Int.gcd n d)) := by
  unfold due redN redD
  rw [if_neg h, if_neg h]
theorem gcd_cast_ne {n d : Int} (h : d ≠ 0) : ((Int.gcd n d : Nat) : Int) ≠ 0 := by
  have := Int.gcd_pos_of_ne_zero_right n h
  omega
theorem news_st {h₀ h : Heap} {L : Addr} {news : List (Addr × Obj)} (N : News h₀ L h news) : ∀ q ∈ news, q.1 ≠ L ∧ h₀.get? q.1 = none := fun q hq => (N q hq).2
end Mine
end

section
open PySem PySem.W PyProof.Rows PySem.Calls PySem.Spec
namespace Mine
section
variable {w : World} {p : Program} {loose : List Str} {mean : ExcName → Option Value} {mg mb : Str → Option Value}

set_option maxHeartbeats 4000000 in
theorem bounded_ctr (n d : Int) (tn td : Tok) (news : List (Addr × Obj)) : CtrF w p loose mean mg mb 64 [.int n tn, .int d td] news 5 20 (fin n d) := by
  k_with_none
  k_with "exec Raise some none" => ((k_dflt (refine' raise_refusal ?k1 ?k2 ?k3 ?k4 ?k5 ?k6 ?k7 ?k8 ?k9 ?k10 ?_; (case k1 => k_asm); (case k2 => k_asm); (case k3 => k_asm); (case k4 => k_asm); (case k5 => k_asm); (case k6 => exact rfl); (case k7 => exact rfl); (case k8 => exact rfl); (case k9 => ktr_room); (case k10 => exact rfl); k_whole); intro e' t' h' tk' dx' tk2' mt' F' N' ne' de'))
  k_with "leaving ref" => ((k_dflt (refine' leave_fled ?x ?K ?FG ?hk ?hA ?st ?sub ?_; (case x => assumption); (case K => assumption); (case FG => assumption); (case hk => exact rfl); (case hA => exact rfl); (case st => exact news_st (by assumption)); (case sub => ktd_sub); k_whole); intro h' x'))
  k_with "leaving ref" => ((k_dflt (refine' leave_new ?x ?K ?FG ?hk ?hA ?st ?sub ?_; (case x => exact fled_new (by assumption) (by assumption) (by assumption) (by assumption)); (case K => assumption); (case FG => assumption); (case hk => exact rfl); (case hA => exact rfl); (case st => exact news_st (by assumption)); (case sub => ktd_sub); k_whole); intro h' x'))
  intro dp un gd cn cs ad ccd cl outer A₀ base h₀ L m s Q E B F X N T hk hdp hun hret hrai
  refine wpAny_call ?_
  k_dflt ktr_enter
  k_steps
  · exact hrai (fin_left (by assumption) (by decide +kernel)) _ _ _ (by assumption)
  · exact hrai (fin_right (by assumption) (by decide +kernel)) _ _ _ (by assumption)
  · exact hret n d (fin_some (by assumption) (by assumption) (by decide +kernel)) _ [_] _ _ (by assumption) (by assumption) (.mk (.head _))
end
end Mine
end

section
open PySem PySem.W PyProof.Rows PySem.Calls PySem.Spec
namespace Mine
section
variable {w : World} {p : Program} {loose : List Str} {mean : ExcName → Option Value} {mg mb : Str → Option Value}

set_option maxHeartbeats 4000000 in
theorem make_ctr (n d : Int) (tn td : Tok) (news : List (Addr × Obj)) (hd0 : d ≠ 0) (hgl : ((Int.gcd n d : Nat) : Int).natAbs.log2 < 9000) : CtrF w p loose mean mg mb 71 [.int n tn, .int d td] news 10 40 (due n d) := by
  k_with_none
  k_with "leaving ref" => ((k_dflt (refine' leave_fled ?x ?K ?FG ?hk ?hA ?st ?sub ?_; (case x => assumption); (case K => assumption); (case FG => assumption); (case hk => exact rfl); (case hA => exact rfl); (case st => exact news_st (by assumption)); (case sub => ktd_sub); k_whole); intro h' x'))
  k_with "call ref" => (((with_reducible show wpAny _ _ (call (Value.ref 57) [Value.int _ _, Value.int _ _]) _ _ _); k_dflt (refine' gcd_ctr _ _ _ _ _ ?ha ?hb _ _ _ _ _ _ _ _ _ _ _ _ _ _ _ _ _ ?k1 ?k2 ?k3 ?k4 ?k5 ?kK ?kd ?ku ?_; (case k1 => k_asm); (case k2 => k_asm); (case k3 => k_asm); (case k4 => k_asm); (case k5 => k_asm); (case kK => exact rfl); (case kd => ktr_room); (case ku => ktr_units); (case ha => omega); (case hb => omega); k_whole); intro t9 h9 tk9 F9 N9; (try dsimp only); (try simp only [gcd_abs, gcd_zsub])))
  k_with "call ref" => (((with_reducible show wpAny _ _ (call (Value.ref 64) [Value.int _ _, Value.int _ _]) _ _ _); k_dflt (refine' bounded_ctr _ _ _ _ _ _ _ _ _ _ _ _ _ _ _ _ _ _ _ _ _ _ ?k1 ?k2 ?k3 ?k4 ?k5 ?kK ?kd ?ku (fun n9 d9 e9 r9 ex9 h9 tk9 F9 N9 G9 => ?_) (fun e9 x9 h9 tk9 X9 => ?_); (case k1 => k_asm); (case k2 => k_asm); (case k3 => k_asm); (case k4 => k_asm); (case k5 => k_asm); (case kK => exact rfl); (case kd => ktr_room); (case ku => ktr_units)); (all_goals (try dsimp only))))
  k_with "binaryOp FloorDiv int int" => ((refine floordiv_int (by assumption) ?_ (Or.inl (PyProof.noPylong_of_log2 (by assumption)))))
  intro dp un gd cn cs ad ccd cl outer A₀ base h₀ L m s Q E B F X N T hk hdp hun hret hrai
  have hg0 := gcd_cast_ne (n := n) hd0
  refine wpAny_call ?_
  k_dflt ktr_enter
  k_steps
  all_goals try (exact absurd (by assumption) hd0)
  · exact hret _ _ ((due_neg (by assumption)).trans (by assumption)) _ _ _ _ (by assumption) (by assumption) (by assumption)
  · exact hrai ((due_neg (by assumption)).trans (by assumption)) _ _ _ (by assumption)
  · exact hret _ _ ((due_pos (by assumption)).trans (by assumption)) _ _ _ _ (by assumption) (by assumption) (by assumption)
  · exact hrai ((due_pos (by assumption)).trans (by assumption)) _ _ _ (by assumption)
end
end Mine
end

section
open PySem PySem.W PyProof.Rows PySem.Calls PySem.Spec
namespace Mine
section
variable {w : World} {p : Program} {loose : List Str} {mean : ExcName → Option Value} {mg mb : Str → Option Value}

section
variable {prog : Program} {w : World} {A : Around} {E : Value → Shared → Prop} {s : Shared} {h₀ : Heap} {L q : Addr} {news : List (Addr × Obj)} {n d : Int} {a b u : Tok} {value slice : PySem.Expr} {Q : Value → Shared → Prop}
theorem item_tup0 (N : News h₀ L s.heap news) (hx : (q, tupO n d a b) ∈ news) (h : Q (.int n a) s)
    (hs : subscripted slice false (.ref q) (.int 0 u) = operate [.ref q, .int 0 u] (getItem (.ref q) (.int 0 u)) := by with_unfolding_all rfl) : wpAny (model prog w) A (subscriptTail value slice (.ref q) (.int 0 u)) Q E s :=
  item_tupleT (News.isTup N hx) (by decide) (by decide) rfl rfl h hs
theorem item_tup1 (N : News h₀ L s.heap news) (hx : (q, tupO n d a b) ∈ news) (h : Q (.int d b) s)
    (hs : subscripted slice false (.ref q) (.int 1 u) = operate [.ref q, .int 1 u] (getItem (.ref q) (.int 1 u)) := by with_unfolding_all rfl) : wpAny (model prog w) A (subscriptTail value slice (.ref q) (.int 1 u)) Q E s :=
  item_tupleT (News.isTup N hx) (by decide) (by decide) rfl rfl h hs
end
set_option maxHeartbeats 4000000 in
theorem is_na_ctr {q : Addr} {n d : Int} {a b : Tok} {news : List (Addr × Obj)} (hx : (q, tupO n d a b) ∈ news) (h1 : d ≠ 0) : Ctr0 w p loose mean mg mb 78 [.ref q] news 2 20 (fun _ => .bool false) := by
  intro dp un gd cn cs ad ccd cl outer A₀ base h₀ L m s Q E B F X N T hk hdp hun hret
  refine wpAny_call ?_
  k_dflt ktr_enter
  k_steps
  · rw [show (d == 0) = false from beq_false_of_ne h1]
    exact hret 0 _ _ (by assumption) (by assumption)
  · rw [show (n == 0) = false from beq_false_of_ne (by assumption)]
    exact hret 0 _ _ (by assumption) (by assumption)
abbrev RetN (h₀ : Heap) (L : Addr) (m : Str → Option Value) (news : List (Addr × Obj)) (s : Shared) (Q : Value → Shared → Prop) (n d : Int) : Prop :=
  ∀ (q : Addr) (h' : Heap) (tk' : Nat) (a b : Tok), Fr h₀ L h' m → News h₀ L h' ((q, tupO n d a b) :: news) → Q (.ref q) { s with heap := h', toks := tk' }
abbrev CtrN (w : World) (p : Program) (loose : List Str) (mean : ExcName → Option Value) (mg mb : Str → Option Value) (f : Addr) (vs : List Value) (news : List (Addr × Obj)) (D U : Nat) (n d : Int) : Prop :=
  ∀ (dp un : Nat) (gd : Option (List Code)) (cn : Str) (cs : Scope) (a : Addr) (ccd : Value) (cl : List (Str × Addr)) (outer : List Env) (A₀ : Around) (base h₀ : Heap) (L : Addr) (m : Str → Option Value) (s : Shared) (Q E : Value → Shared → Prop),
    Below A₀ base outer h₀ → Fr h₀ L s.heap m → (hd.heap_39 w.params).In h₀ → News h₀ L s.heap news → Top p loose mean mg mb h₀ → cs.kind = .function →
    dp + D < recursionLimit → un + U < cLine → RetN h₀ L m news s Q n d →
    wpAny (model PG w) (ktrTop dp un gd cn cs L a ccd cl outer) (call (.ref f) vs) Q E s
set_option maxHeartbeats 4000000 in
theorem neg_ctr {q : Addr} {n d : Int} {a b : Tok} {news : List (Addr × Obj)} (hx : (q, tupO n d a b) ∈ news) : CtrN w p loose mean mg mb 92 [.ref q] news 2 20 (0 - n) d := by
  intro dp un gd cn cs ad ccd cl outer A₀ base h₀ L m s Q E B F X N T hk hdp hun hret
  refine wpAny_call ?_
  k_dflt ktr_enter
  k_steps
  exact hret _ _ _ _ _ (by assumption) (by assumption)
end
end Mine
end

section
open PySem PySem.W PyProof.Rows PySem.Calls PySem.Spec
namespace Mine

def Sm (x : Int) : Prop := x.natAbs < 2 ^ 30000
theorem bits_sm {x : Int} (h : Sm x) : Builtin.Int.intBits x ≤ 30000 := by
  unfold Builtin.Int.intBits
  by_cases hx : x = 0
  · rw [if_pos (by simpa using hx)]; exact Nat.zero_le _
  · rw [if_neg (by simpa using hx)]
    exact (Nat.log2_lt (by omega)).mpr h
theorem mulOk {x y : Int} (hx : Sm x) (hy : Sm y) : IntMulOk x y := by
  have a := bits_sm hx
  have b := bits_sm hy
  unfold IntMulOk
  have : Builtin.Int.intTooBig ((Builtin.Int.intBits x : Int) + Builtin.Int.intBits y) = false := by
    unfold Builtin.Int.intTooBig bitsLine
    exact decide_eq_false (by omega)
  rw [show (Builtin.Int.intTooBig (Builtin.Int.intBits x + Builtin.Int.intBits y)) = false from this, Bool.and_false]
  exact Bool.false_ne_true
theorem sm_neg {x : Int} (h : Sm x) : Sm (0 - x) := by
  unfold Sm at *
  rw [Int.zero_sub, Int.natAbs_neg]
  exact h
section
variable {w : World} {p : Program} {loose : List Str} {mean : ExcName → Option Value} {mg mb : Str → Option Value}

set_option maxHeartbeats 4000000 in
theorem add_ctr {qx qy : Addr} {x0 x1 y0 y1 : Int} {xa xb ya yb : Tok} {news : List (Addr × Obj)} (hx : (qx, tupO x0 x1 xa xb) ∈ news) (hy : (qy, tupO y0 y1 ya yb) ∈ news) (hx1 : x1 ≠ 0) (hy1 : y1 ≠ 0) (sx0 : Sm x0) (sx1 : Sm x1) (sy0 : Sm y0) (sy1 : Sm y1)
    (hgl : ((Int.gcd (x0 * y1 + y0 * x1) (x1 * y1) : Nat) : Int).natAbs.log2 < 9000) : CtrF w p loose mean mg mb 99 [.ref qx, .ref qy] news 15 60 (due (x0 * y1 + y0 * x1) (x1 * y1)) := by
  k_with_none
  k_with "leaving ref" => ((k_dflt (refine' leave_fled ?x ?K ?FG ?hk ?hA ?st ?sub ?_; (case x => assumption); (case K => assumption); (case FG => assumption); (case hk => exact rfl); (case hA => exact rfl); (case st => exact news_st (by assumption)); (case sub => ktd_sub); k_whole); intro h' x'))
  k_with "subscriptTail Name Constant ref int" => (((with_reducible show wpAny _ _ (subscriptTail _ _ (Value.ref _) (Value.int 0 _)) _ _ _); k_dflt (refine' item_tup0 ?N ?hx ?_; (case N => k_asm); (case hx => first | assumption | k_mem); k_whole)))
  k_with "subscriptTail Name Constant ref int" => (((with_reducible show wpAny _ _ (subscriptTail _ _ (Value.ref _) (Value.int 1 _)) _ _ _); k_dflt (refine' item_tup1 ?N ?hx ?_; (case N => k_asm); (case hx => first | assumption | k_mem); k_whole)))
  k_with "binaryOp Mult int int" => ((with_reducible refine mul_int ?_ (mulOk (by assumption) (by assumption))))
  k_with "call ref" => (((with_reducible show wpAny _ _ (call (Value.ref 78) [Value.ref _]) _ _ _); k_dflt (refine' is_na_ctr ?hx ?h1 _ _ _ _ _ _ _ _ _ _ _ _ _ _ _ _ _ ?k1 ?k2 ?k3 ?k4 ?k5 ?kK ?kd ?ku (fun t9 h9 tk9 F9 N9 => ?_); (case k1 => k_asm); (case k2 => k_asm); (case k3 => k_asm); (case k4 => k_asm); (case k5 => k_asm); (case kK => exact rfl); (case kd => ktr_room); (case ku => ktr_units); (case hx => first | assumption | k_mem); (case h1 => first | assumption | omega); k_whole); (try dsimp only)))
  k_with "call ref" => (((with_reducible show wpAny _ _ (call (Value.ref 92) [Value.ref _]) _ _ _); k_dflt (refine' neg_ctr ?hx _ _ _ _ _ _ _ _ _ _ _ _ _ _ _ _ _ ?k1 ?k2 ?k3 ?k4 ?k5 ?kK ?kd ?ku (fun q9 h9 tk9 a9 b9 F9 N9 => ?_); (case k1 => k_asm); (case k2 => k_asm); (case k3 => k_asm); (case k4 => k_asm); (case k5 => k_asm); (case kK => exact rfl); (case kd => ktr_room); (case ku => ktr_units); (case hx => first | assumption | k_mem); k_whole); (try dsimp only)))
  k_with "call ref" => (((with_reducible show wpAny _ _ (call (Value.ref 71) [Value.int _ _, Value.int _ _]) _ _ _); k_dflt (refine' make_ctr _ _ _ _ _ ?h0 ?hg _ _ _ _ _ _ _ _ _ _ _ _ _ _ _ _ _ ?k1 ?k2 ?k3 ?k4 ?k5 ?kK ?kd ?ku (fun n9 d9 e9 r9 ex9 h9 tk9 F9 N9 G9 => ?_) (fun e9 x9 h9 tk9 X9 => ?_); (case k1 => k_asm); (case k2 => k_asm); (case k3 => k_asm); (case k4 => k_asm); (case k5 => k_asm); (case kK => exact rfl); (case kd => ktr_room); (case ku => ktr_units); (case h0 => assumption); (case hg => assumption)); (all_goals (try dsimp only))))
  intro dp un gd cn cs ad ccd cl outer A₀ base h₀ L m s Q E B F X N T hk hdp hun hret hrai
  have h00 := Int.mul_ne_zero hx1 hy1
  refine wpAny_call ?_
  k_dflt ktr_enter
  k_steps
  all_goals first
    | exact hret _ _ (by assumption) _ _ _ _ (by assumption) (by assumption) (by assumption)
    | exact hrai (by assumption) _ _ _ (by assumption)
    | exact absurd (by assumption) hx1
    | exact absurd (by assumption) hy1
set_option maxHeartbeats 4000000 in
theorem mul_ctr {qx qy : Addr} {x0 x1 y0 y1 : Int} {xa xb ya yb : Tok} {news : List (Addr × Obj)} (hx : (qx, tupO x0 x1 xa xb) ∈ news) (hy : (qy, tupO y0 y1 ya yb) ∈ news) (hx1 : x1 ≠ 0) (hy1 : y1 ≠ 0) (sx0 : Sm x0) (sx1 : Sm x1) (sy0 : Sm y0) (sy1 : Sm y1)
    (hgl : ((Int.gcd (x0 * y0) (x1 * y1) : Nat) : Int).natAbs.log2 < 9000) : CtrF w p loose mean mg mb 113 [.ref qx, .ref qy] news 15 60 (due (x0 * y0) (x1 * y1)) := by
  k_with_none
  k_with "leaving ref" => ((k_dflt (refine' leave_fled ?x ?K ?FG ?hk ?hA ?st ?sub ?_; (case x => assumption); (case K => assumption); (case FG => assumption); (case hk => exact rfl); (case hA => exact rfl); (case st => exact news_st (by assumption)); (case sub => ktd_sub); k_whole); intro h' x'))
  k_with "subscriptTail Name Constant ref int" => (((with_reducible show wpAny _ _ (subscriptTail _ _ (Value.ref _) (Value.int 0 _)) _ _ _); k_dflt (refine' item_tup0 ?N ?hx ?_; (case N => k_asm); (case hx => first | assumption | k_mem); k_whole)))
  k_with "subscriptTail Name Constant ref int" => (((with_reducible show wpAny _ _ (subscriptTail _ _ (Value.ref _) (Value.int 1 _)) _ _ _); k_dflt (refine' item_tup1 ?N ?hx ?_; (case N => k_asm); (case hx => first | assumption | k_mem); k_whole)))
  k_with "binaryOp Mult int int" => ((with_reducible refine mul_int ?_ (mulOk (by assumption) (by assumption))))
  k_with "call ref" => (((with_reducible show wpAny _ _ (call (Value.ref 78) [Value.ref _]) _ _ _); k_dflt (refine' is_na_ctr ?hx ?h1 _ _ _ _ _ _ _ _ _ _ _ _ _ _ _ _ _ ?k1 ?k2 ?k3 ?k4 ?k5 ?kK ?kd ?ku (fun t9 h9 tk9 F9 N9 => ?_); (case k1 => k_asm); (case k2 => k_asm); (case k3 => k_asm); (case k4 => k_asm); (case k5 => k_asm); (case kK => exact rfl); (case kd => ktr_room); (case ku => ktr_units); (case hx => first | assumption | k_mem); (case h1 => first | assumption | omega); k_whole); (try dsimp only)))
  k_with "call ref" => (((with_reducible show wpAny _ _ (call (Value.ref 92) [Value.ref _]) _ _ _); k_dflt (refine' neg_ctr ?hx _ _ _ _ _ _ _ _ _ _ _ _ _ _ _ _ _ ?k1 ?k2 ?k3 ?k4 ?k5 ?kK ?kd ?ku (fun q9 h9 tk9 a9 b9 F9 N9 => ?_); (case k1 => k_asm); (case k2 => k_asm); (case k3 => k_asm); (case k4 => k_asm); (case k5 => k_asm); (case kK => exact rfl); (case kd => ktr_room); (case ku => ktr_units); (case hx => first | assumption | k_mem); k_whole); (try dsimp only)))
  k_with "call ref" => (((with_reducible show wpAny _ _ (call (Value.ref 71) [Value.int _ _, Value.int _ _]) _ _ _); k_dflt (refine' make_ctr _ _ _ _ _ ?h0 ?hg _ _ _ _ _ _ _ _ _ _ _ _ _ _ _ _ _ ?k1 ?k2 ?k3 ?k4 ?k5 ?kK ?kd ?ku (fun n9 d9 e9 r9 ex9 h9 tk9 F9 N9 G9 => ?_) (fun e9 x9 h9 tk9 X9 => ?_); (case k1 => k_asm); (case k2 => k_asm); (case k3 => k_asm); (case k4 => k_asm); (case k5 => k_asm); (case kK => exact rfl); (case kd => ktr_room); (case ku => ktr_units); (case h0 => assumption); (case hg => assumption)); (all_goals (try dsimp only))))
  intro dp un gd cn cs ad ccd cl outer A₀ base h₀ L m s Q E B F X N T hk hdp hun hret hrai
  have h00 := Int.mul_ne_zero hx1 hy1
  refine wpAny_call ?_
  k_dflt ktr_enter
  k_steps
  all_goals first
    | exact hret _ _ (by assumption) _ _ _ _ (by assumption) (by assumption) (by assumption)
    | exact hrai (by assumption) _ _ _ (by assumption)
    | exact absurd (by assumption) hx1
    | exact absurd (by assumption) hy1
set_option maxHeartbeats 4000000 in
theorem div_ctr {qx qy : Addr} {x0 x1 y0 y1 : Int} {xa xb ya yb : Tok} {news : List (Addr × Obj)} (hx : (qx, tupO x0 x1 xa xb) ∈ news) (hy : (qy, tupO y0 y1 ya yb) ∈ news) (hx1 : x1 ≠ 0) (hy1 : y1 ≠ 0) (hy0 : y0 ≠ 0) (sx0 : Sm x0) (sx1 : Sm x1) (sy0 : Sm y0) (sy1 : Sm y1)
    (hgl : ((Int.gcd (x0 * y1) (x1 * y0) : Nat) : Int).natAbs.log2 < 9000) : CtrF w p loose mean mg mb 120 [.ref qx, .ref qy] news 15 60 (due (x0 * y1) (x1 * y0)) := by
  k_with_none
  k_with "leaving ref" => ((k_dflt (refine' leave_fled ?x ?K ?FG ?hk ?hA ?st ?sub ?_; (case x => assumption); (case K => assumption); (case FG => assumption); (case hk => exact rfl); (case hA => exact rfl); (case st => exact news_st (by assumption)); (case sub => ktd_sub); k_whole); intro h' x'))
  k_with "subscriptTail Name Constant ref int" => (((with_reducible show wpAny _ _ (subscriptTail _ _ (Value.ref _) (Value.int 0 _)) _ _ _); k_dflt (refine' item_tup0 ?N ?hx ?_; (case N => k_asm); (case hx => first | assumption | k_mem); k_whole)))
  k_with "subscriptTail Name Constant ref int" => (((with_reducible show wpAny _ _ (subscriptTail _ _ (Value.ref _) (Value.int 1 _)) _ _ _); k_dflt (refine' item_tup1 ?N ?hx ?_; (case N => k_asm); (case hx => first | assumption | k_mem); k_whole)))
  k_with "binaryOp Mult int int" => ((with_reducible refine mul_int ?_ (mulOk (by assumption) (by assumption))))
  k_with "call ref" => (((with_reducible show wpAny _ _ (call (Value.ref 78) [Value.ref _]) _ _ _); k_dflt (refine' is_na_ctr ?hx ?h1 _ _ _ _ _ _ _ _ _ _ _ _ _ _ _ _ _ ?k1 ?k2 ?k3 ?k4 ?k5 ?kK ?kd ?ku (fun t9 h9 tk9 F9 N9 => ?_); (case k1 => k_asm); (case k2 => k_asm); (case k3 => k_asm); (case k4 => k_asm); (case k5 => k_asm); (case kK => exact rfl); (case kd => ktr_room); (case ku => ktr_units); (case hx => first | assumption | k_mem); (case h1 => first | assumption | omega); k_whole); (try dsimp only)))
  k_with "call ref" => (((with_reducible show wpAny _ _ (call (Value.ref 92) [Value.ref _]) _ _ _); k_dflt (refine' neg_ctr ?hx _ _ _ _ _ _ _ _ _ _ _ _ _ _ _ _ _ ?k1 ?k2 ?k3 ?k4 ?k5 ?kK ?kd ?ku (fun q9 h9 tk9 a9 b9 F9 N9 => ?_); (case k1 => k_asm); (case k2 => k_asm); (case k3 => k_asm); (case k4 => k_asm); (case k5 => k_asm); (case kK => exact rfl); (case kd => ktr_room); (case ku => ktr_units); (case hx => first | assumption | k_mem); k_whole); (try dsimp only)))
  k_with "call ref" => (((with_reducible show wpAny _ _ (call (Value.ref 71) [Value.int _ _, Value.int _ _]) _ _ _); k_dflt (refine' make_ctr _ _ _ _ _ ?h0 ?hg _ _ _ _ _ _ _ _ _ _ _ _ _ _ _ _ _ ?k1 ?k2 ?k3 ?k4 ?k5 ?kK ?kd ?ku (fun n9 d9 e9 r9 ex9 h9 tk9 F9 N9 G9 => ?_) (fun e9 x9 h9 tk9 X9 => ?_); (case k1 => k_asm); (case k2 => k_asm); (case k3 => k_asm); (case k4 => k_asm); (case k5 => k_asm); (case kK => exact rfl); (case kd => ktr_room); (case ku => ktr_units); (case h0 => assumption); (case hg => assumption)); (all_goals (try dsimp only))))
  intro dp un gd cn cs ad ccd cl outer A₀ base h₀ L m s Q E B F X N T hk hdp hun hret hrai
  have h00 := Int.mul_ne_zero hx1 hy0
  refine wpAny_call ?_
  k_dflt ktr_enter
  k_steps
  all_goals first
    | exact hret _ _ (by assumption) _ _ _ _ (by assumption) (by assumption) (by assumption)
    | exact hrai (by assumption) _ _ _ (by assumption)
    | exact absurd (by assumption) hx1
    | exact absurd (by assumption) hy1
end
end Mine
end

section
open PySem PySem.W PyProof.Rows PySem.Calls PySem.Spec
namespace Mine

theorem news_assoc {h₀ h : Heap} {L : Addr} {ex news : List (Addr × Obj)} {q : Addr × Obj} (N : News h₀ L h (ex ++ q :: news)) : News h₀ L h ((ex ++ [q]) ++ news) := by
  rw [List.append_assoc]; exact N
theorem frac_assoc {ex news : List (Addr × Obj)} {q : Addr × Obj} {r : Value} {n d : Int} (G : FracAt (ex ++ q :: news) r n d) : FracAt ((ex ++ [q]) ++ news) r n d := by
  rw [List.append_assoc]; exact G
section
variable {w : World} {p : Program} {loose : List Str} {mean : ExcName → Option Value} {mg mb : Str → Option Value}

set_option maxHeartbeats 4000000 in
theorem sub_ctr {qx qy : Addr} {x0 x1 y0 y1 : Int} {xa xb ya yb : Tok} {news : List (Addr × Obj)} (hx : (qx, tupO x0 x1 xa xb) ∈ news) (hy : (qy, tupO y0 y1 ya yb) ∈ news) (hx1 : x1 ≠ 0) (hy1 : y1 ≠ 0) (sx0 : Sm x0) (sx1 : Sm x1) (sy0 : Sm y0) (sy1 : Sm y1)
    (hgl : ((Int.gcd (x0 * y1 - y0 * x1) (x1 * y1) : Nat) : Int).natAbs.log2 < 9000) : CtrF w p loose mean mg mb 106 [.ref qx, .ref qy] news 20 80 (due (x0 * y1 - y0 * x1) (x1 * y1)) := by
  k_with_none
  k_with "mem" => (first | assumption | exact List.Mem.head _ | (refine List.Mem.tail _ ?_; walk_at "mem"))
  k_with "leaving ref" => ((k_dflt (refine' leave_fled ?x ?K ?FG ?hk ?hA ?st ?sub ?_; (case x => assumption); (case K => assumption); (case FG => assumption); (case hk => exact rfl); (case hA => exact rfl); (case st => exact news_st (by assumption)); (case sub => ktd_sub); k_whole); intro h' x'))
  k_with "subscriptTail Name Constant ref int" => (((with_reducible show wpAny _ _ (subscriptTail _ _ (Value.ref _) (Value.int 0 _)) _ _ _); k_dflt (refine' item_tup0 ?N ?hx ?_; (case N => k_asm); (case hx => walk_at "mem"); k_whole)))
  k_with "subscriptTail Name Constant ref int" => (((with_reducible show wpAny _ _ (subscriptTail _ _ (Value.ref _) (Value.int 1 _)) _ _ _); k_dflt (refine' item_tup1 ?N ?hx ?_; (case N => k_asm); (case hx => walk_at "mem"); k_whole)))
  k_with "binaryOp Mult int int" => ((with_reducible refine mul_int ?_ (mulOk (by assumption) (by assumption))))
  k_with "call ref" => (((with_reducible show wpAny _ _ (call (Value.ref 92) [Value.ref _]) _ _ _); k_dflt (refine' neg_ctr ?hx _ _ _ _ _ _ _ _ _ _ _ _ _ _ _ _ _ ?k1 ?k2 ?k3 ?k4 ?k5 ?kK ?kd ?ku (fun q9 h9 tk9 a9 b9 F9 N9 => ?_); (case k1 => k_asm); (case k2 => k_asm); (case k3 => k_asm); (case k4 => k_asm); (case k5 => k_asm); (case kK => exact rfl); (case kd => ktr_room); (case ku => ktr_units); (case hx => walk_at "mem"); k_whole); (try dsimp only)))
  k_with "call ref" => (((with_reducible show wpAny _ _ (call (Value.ref 99) [Value.ref _, Value.ref _]) _ _ _); k_dflt (refine' add_ctr ?hx ?hy ?h1 ?h2 ?h3 ?h4 ?h5 ?h6 ?h7 _ _ _ _ _ _ _ _ _ _ _ _ _ _ _ _ _ ?k1 ?k2 ?k3 ?k4 ?k5 ?kK ?kd ?ku (fun n9 d9 e9 r9 ex9 h9 tk9 F9 N9 G9 => ?_) (fun e9 x9 h9 tk9 X9 => ?_); (case k1 => k_asm); (case k2 => k_asm); (case k3 => k_asm); (case k4 => k_asm); (case k5 => k_asm); (case kK => exact rfl); (case kd => ktr_room); (case ku => ktr_units); (case hx => walk_at "mem"); (case hy => walk_at "mem"); (case h1 => assumption); (case h2 => assumption); (case h3 => assumption); (case h4 => assumption); (case h5 => assumption); (case h6 => assumption); (case h7 => assumption)); (all_goals (try dsimp only))))
  have e : x0 * y1 - y0 * x1 = x0 * y1 + (0 - y0) * x1 := by rw [Int.zero_sub, Int.neg_mul, Int.sub_eq_add_neg]
  rw [e] at hgl ⊢
  have sn := sm_neg sy0
  intro dp un gd cn cs ad ccd cl outer A₀ base h₀ L m s Q E B F X N T hk hdp hun hret hrai
  refine wpAny_call ?_
  k_dflt ktr_enter
  k_steps
  all_goals first
    | exact hret _ _ (by assumption) _ _ _ _ (by assumption) (news_assoc (by assumption)) (frac_assoc (by assumption))
    | exact hrai (by assumption) _ _ _ (by assumption)
    | skip
end
end Mine
end

section
namespace Mine
theorem fdiv_nat (a k : Nat) : Int.fdiv (a : Int) (k : Int) = ((a / k : Nat) : Int) := by
  rw [Int.fdiv_eq_ediv_of_nonneg _ (Int.natCast_nonneg k)]
  exact (Int.natCast_ediv a k).symm
theorem pq_nat {k : Nat} (h1 : 1 ≤ k) (h2 : k ≤ 4096) : 5001 ≤ (5000 / k + 1) * k ∧ (5000 / k + 1) * k ≤ 9096 ∧ 5000 / k ≤ 5000 := by
  have a := Nat.div_add_mod 5000 k
  have b := Nat.mod_lt 5000 (Nat.lt_of_lt_of_le Nat.zero_lt_one h1)
  have c : (5000 / k + 1) * k = k * (5000 / k) + k := by rw [Nat.add_mul, Nat.one_mul, Nat.mul_comm]
  refine ⟨by omega, by omega, Nat.div_le_self _ _⟩
theorem q_toNat {c : Int} (h1 : 1 ≤ c) : (Int.fdiv 5000 c + 1).toNat = 5000 / c.toNat + 1 := by
  obtain ⟨k, rfl⟩ := Int.eq_ofNat_of_zero_le (a := c) (by omega)
  have := fdiv_nat 5000 k
  rw [show ((5000 : Nat) : Int) = 5000 from rfl] at this
  rw [this, Int.toNat_natCast]
  generalize 5000 / k = z
  omega
theorem q_pos {c : Int} (h1 : 1 ≤ c) : 0 ≤ Int.fdiv 5000 c + 1 := by
  obtain ⟨k, rfl⟩ := Int.eq_ofNat_of_zero_le (a := c) (by omega)
  have := fdiv_nat 5000 k
  rw [show ((5000 : Nat) : Int) = 5000 from rfl] at this
  rw [this]
  generalize 5000 / k = z
  omega
theorem pow_mono_left {a b : Nat} (h : a ≤ b) (k : Nat) : a ^ k ≤ b ^ k := Nat.pow_le_pow_left h k
/-- what is beyond the guard is beyond the bound -/
theorem guard_nat {c U : Nat} (h1 : 1 ≤ c) (h2 : c ≤ 4096) (h : 10 ^ (5000 / c + 1) < U) : 10 ^ 5000 < U ^ c := by
  obtain ⟨a, _, _⟩ := pq_nat h1 h2
  have s1 : (10 ^ (5000 / c + 1)) ^ c ≤ U ^ c := Nat.pow_le_pow_left (Nat.le_of_lt h) c
  rw [← Nat.pow_mul] at s1
  have s2 : 10 ^ 5001 ≤ 10 ^ ((5000 / c + 1) * c) := Nat.pow_le_pow_right (by decide) a
  have s3 : 10 ^ 5000 < 10 ^ 5001 := Nat.pow_lt_pow_right (by decide) (by decide)
  exact Nat.lt_of_lt_of_le s3 (Nat.le_trans s2 s1)
theorem bits_nat {U K : Nat} (h : U ≤ 10 ^ K) : U.log2 ≤ 4 * K := by
  by_cases hU : U = 0
  · rw [hU]; exact Nat.le_trans (Nat.le_of_eq (by decide)) (Nat.zero_le _)
  · have : U < 2 ^ (4 * K + 1) := by
      have a : 10 ^ K ≤ (2 ^ 4) ^ K := Nat.pow_le_pow_left (by decide) K
      rw [← Nat.pow_mul] at a
      exact Nat.lt_of_le_of_lt (Nat.le_trans h a) (Nat.pow_lt_pow_right (by decide) (Nat.lt_succ_self _))
    have := (Nat.log2_lt hU).mpr this
    omega
theorem bits_pow {u c : Int} (h1 : 1 ≤ c) (h2 : c ≤ 4096) (h : u.natAbs ≤ 10 ^ (5000 / c.toNat + 1)) : ((PySem.Builtin.Int.intBits u : Nat) : Int) * c ≤ 2 ^ 27 := by
  have hb : PySem.Builtin.Int.intBits u ≤ 4 * (5000 / c.toNat + 1) + 1 := by
    unfold PySem.Builtin.Int.intBits
    split
    · omega
    · have := bits_nat h; omega
  obtain ⟨k, rfl⟩ := Int.eq_ofNat_of_zero_le (a := c) (by omega)
  obtain ⟨_, b, _⟩ := pq_nat (k := k) (by omega) (by omega)
  rw [Int.toNat_natCast] at hb
  have c1 : PySem.Builtin.Int.intBits u * k ≤ (4 * (5000 / k + 1) + 1) * k := Nat.mul_le_mul_right k hb
  have c2 : (4 * (5000 / k + 1) + 1) * k = 4 * ((5000 / k + 1) * k) + k := by rw [Nat.add_mul, Nat.one_mul, Nat.mul_assoc]
  have c3 : PySem.Builtin.Int.intBits u * k ≤ 2 ^ 27 := by omega
  exact_mod_cast c3
theorem bits_ten {c : Int} (h1 : 1 ≤ c) : ((PySem.Builtin.Int.intBits 10 : Nat) : Int) * (Int.fdiv 5000 c + 1) ≤ 2 ^ 27 := by
  have e : PySem.Builtin.Int.intBits 10 = 4 := by decide +kernel
  obtain ⟨k, rfl⟩ := Int.eq_ofNat_of_zero_le (a := c) (by omega)
  have := fdiv_nat 5000 k
  rw [show ((5000 : Nat) : Int) = 5000 from rfl] at this
  have d := Nat.div_le_self 5000 k
  rw [e, this]
  generalize 5000 / k = z at d ⊢
  omega
theorem ten_cast (K : Nat) : (10 : Int) ^ K = ((10 ^ K : Nat) : Int) := by
  rw [Int.natCast_pow]; rfl
theorem natAbs_pow' (u : Int) (k : Nat) : (u ^ k).natAbs = u.natAbs ^ k := Int.natAbs_pow u k
/-- the greater of two, as max gives it -/
theorem guard_fin {c u l : Int} (h1 : 1 ≤ c) (h2 : c ≤ 4096) (hl : 0 ≤ l) (h : (10 : Int) ^ (Int.fdiv 5000 c + 1).toNat < (u.natAbs : Int) ∨ (10 : Int) ^ (Int.fdiv 5000 c + 1).toNat < l) : fin (u ^ c.toNat) (l ^ c.toNat) = none := by
  rw [q_toNat h1, ten_cast] at h
  refine if_neg fun q => ?_
  obtain ⟨q1, q2⟩ := q
  rcases h with h | h
  · have := guard_nat (c := c.toNat) (U := u.natAbs) (by omega) (by omega) (by omega)
    rw [natAbs_pow'] at q1
    unfold Most at q1
    omega
  · obtain ⟨k, rfl⟩ := Int.eq_ofNat_of_zero_le hl
    have := guard_nat (c := c.toNat) (U := k) (by omega) (by omega) (by omega)
    rw [← Int.natCast_pow] at q2
    unfold Most at q2
    omega
theorem guard_bits {c u : Int} (h1 : 1 ≤ c) (h2 : c ≤ 4096) (h : (u.natAbs : Int) ≤ (10 : Int) ^ (Int.fdiv 5000 c + 1).toNat) : ((PySem.Builtin.Int.intBits u : Nat) : Int) * c ≤ 2 ^ 27 := by
  rw [q_toNat h1, ten_cast] at h
  exact bits_pow h1 h2 (by omega)
end Mine
end

section
namespace Mine
def pwU (x0 x1 n : Int) : Int := if n < 0 then (if 0 < x0 then x1 else 0 - x1) else x0
def pwV (x0 x1 n : Int) : Int := if n < 0 then (x0.natAbs : Int) else x1
def pwr (x0 x1 n : Int) : Option (Int × Int) := fin (pwU x0 x1 n ^ n.natAbs) (pwV x0 x1 n ^ n.natAbs)
theorem pwr_neg1 {x0 x1 n : Int} (h : n < 0) (h' : 0 < x0) : pwr x0 x1 n = fin (x1 ^ ((n.natAbs : Int)).toNat) ((x0.natAbs : Int) ^ ((n.natAbs : Int)).toNat) := by
  unfold pwr pwU pwV
  rw [if_pos h, if_pos h, if_pos h', Int.toNat_natCast]
theorem pwr_neg2 {x0 x1 n : Int} (h : n < 0) (h' : ¬ 0 < x0) : pwr x0 x1 n = fin ((0 - x1) ^ ((n.natAbs : Int)).toNat) ((x0.natAbs : Int) ^ ((n.natAbs : Int)).toNat) := by
  unfold pwr pwU pwV
  rw [if_pos h, if_pos h, if_neg h', Int.toNat_natCast]
theorem pwr_pos {x0 x1 n : Int} (h : ¬ n < 0) : pwr x0 x1 n = fin (x0 ^ ((n.natAbs : Int)).toNat) (x1 ^ ((n.natAbs : Int)).toNat) := by
  unfold pwr pwU pwV
  rw [if_neg h, if_neg h, Int.toNat_natCast]
theorem one_le_most : (1 : Int) ≤ Most := by
  unfold Most
  have : 1 ≤ 10 ^ 5000 := Nat.one_le_pow _ _ (by decide)
  omega
theorem fin_ones {u : Int} (h : u.natAbs = 1) : fin u 1 = some (u, 1) := if_pos ⟨by rw [h]; exact one_le_most, one_le_most⟩
theorem pow_neg_even {n : Int} {k : Nat} (h : n.fmod 2 = 0) (e : n.natAbs = k) : (-1 : Int) ^ k = 1 := by
  rw [Int.fmod_eq_emod_of_nonneg _ (by decide)] at h
  obtain ⟨j, rfl⟩ : ∃ j, k = 2 * j := ⟨k / 2, by omega⟩
  rw [Int.pow_mul]
  show (1 : Int) ^ j = 1
  exact Int.one_pow
theorem pow_neg_odd {n : Int} {k : Nat} (h : n.fmod 2 ≠ 0) (e : n.natAbs = k) : (-1 : Int) ^ k = -1 := by
  rw [Int.fmod_eq_emod_of_nonneg _ (by decide)] at h
  obtain ⟨j, rfl⟩ : ∃ j, k = 2 * j + 1 := ⟨k / 2, by omega⟩
  rw [Int.pow_succ, Int.pow_mul]
  have : ((-1 : Int) ^ 2) ^ j = 1 := Int.one_pow
  rw [this]; rfl
theorem pwr_one {x0 x1 n : Int} (h : (x0 == 1 && x1 == 1) = true) : pwr x0 x1 n = some (1, 1) := by
  simp only [Bool.and_eq_true, beq_iff_eq] at h
  obtain ⟨rfl, rfl⟩ := h
  unfold pwr pwU pwV
  split
  · rw [if_pos (by decide)]
    show fin (1 ^ _) (1 ^ _) = _
    rw [Int.one_pow]; exact fin_ones rfl
  · rw [Int.one_pow]; exact fin_ones rfl
theorem pwr_m1 {n : Int} : pwr (-1) 1 n = fin ((-1) ^ n.natAbs) 1 := by
  unfold pwr pwU pwV
  split
  · rw [if_neg (by decide)]
    show fin ((-1) ^ _) (1 ^ _) = _
    rw [Int.one_pow]
  · rw [Int.one_pow]
theorem pwr_even {x0 x1 n : Int} (h0 : x0 = -1) (h1 : x1 = 1) (h : n.fmod 2 = 0) : pwr x0 x1 n = some (1, 1) := by
  subst h0 h1
  rw [pwr_m1, pow_neg_even h rfl]
  exact fin_ones rfl
theorem pwr_odd {x0 x1 n : Int} (h0 : x0 = -1) (h1 : x1 = 1) (h : n.fmod 2 ≠ 0) : pwr x0 x1 n = some (x0, x1) := by
  subst h0 h1
  rw [pwr_m1, pow_neg_odd h rfl]
  exact fin_ones rfl
end Mine
end

section
open PySem PySem.W PyProof.Rows PySem.Calls PySem.Spec
namespace Mine
theorem FracAt.mono {news news' : List (Addr × Obj)} {r : Value} {n d : Int} (G : FracAt news r n d) (h : ∀ q ∈ news, q ∈ news') : FracAt news' r n d := by
  cases G with
  | mk m => exact .mk (h _ m)
  | one => exact .one
  | zero => exact .zero
inductive ResAt (news : List (Addr × Obj)) : Value → Option (Int × Int) → Prop
  | frac {r : Value} {n d : Int} (G : FracAt news r n d) : ResAt news r (some (n, d))
  | text {t : Tok} : ResAt news (.str notExact t) none
theorem ResAt.mono {news news' : List (Addr × Obj)} {r : Value} {o : Option (Int × Int)} (G : ResAt news r o) (h : ∀ q ∈ news, q ∈ news') : ResAt news' r o := by
  cases G with
  | frac G => exact .frac (G.mono h)
  | text => exact .text
def dat : Option (Int × Int) → PyData
  | some (n, d) => .tuple [.int n, .int d]
  | none => .str notExact
theorem dat_shaped (o : Option (Int × Int)) : SeqAt.shaped (dat o) = true := by
  cases o with
  | none => first | decide | decide +kernel | simp [dat, SeqAt.shaped, PyData.canLay0, PyData.depth]
  | some p => rfl
theorem dat_eqv (o : Option (Int × Int)) : PyData.eqv (dat o) (dat o) = true := by
  cases o with
  | none => simp [dat, PyData.eqv]
  | some p => simp [dat, PyData.eqv, PyData.eqvAll]
theorem dat_eqv_some (a b c d : Int) : PyData.eqv (dat (some (a, b))) (dat (some (c, d))) = (a == c && b == d) := by
  simp [dat, PyData.eqv, PyData.eqvAll]
section
variable {w : World} {A : Around} {E : Value → Shared → Prop} {s : Shared} {h h₀ : Heap} {L : Addr} {m : Str → Option Value} {news : List (Addr × Obj)} {r r' : Value} {n d : Int} {o o' : Option (Int × Int)}
theorem frac_reads (N : News h₀ L h news) (X : (hd.heap_39 w.params).In h) (G : FracAt news r n d) : ∃ as, Reads h r (.tuple [.int n, .int d]) as := by
  cases G with
  | mk m => exact ⟨_, reads_tuple_at (News.get N m) rfl rfl (.cons (.int _ _) (.cons (.int _ _) .nil))⟩
  | one => exact ⟨_, reads_tuple_at (X _ _ (show (hd.heap_39 w.params).lookup 50 = some _ by k_is)) rfl rfl (.cons (.int _ _) (.cons (.int _ _) .nil))⟩
  | zero => exact ⟨_, reads_tuple_at (X _ _ (show (hd.heap_39 w.params).lookup 49 = some _ by k_is)) rfl rfl (.cons (.int _ _) (.cons (.int _ _) .nil))⟩
theorem res_reads (N : News h₀ L h news) (X : (hd.heap_39 w.params).In h) (G : ResAt news r o) : ∃ as, Reads h r (dat o) as := by
  cases G with
  | frac G => exact frac_reads N X G
  | text => exact ⟨_, .str _ _⟩
theorem eq_res {Q : Value → Shared → Prop} (F : Fr h₀ L s.heap m) (N : News h₀ L s.heap news) (X : (hd.heap_39 w.params).In h₀) (G : ResAt news r o) (G' : ResAt news r' o') (hu : A.units + 64 < cLine)
    (h : Q (.bool (PyData.eqv (dat o) (dat o'))) s) : wpAny (model PG w) A (compareOp .Eq r r') Q E s := by
  obtain ⟨_, ra⟩ := res_reads N (X.keeps F.keep) G
  obtain ⟨_, rb⟩ := res_reads N (X.keeps F.keep) G'
  exact eq_dataH ra rb (dat_shaped _) (dat_shaped _) hu h
theorem ne_res {Q : Value → Shared → Prop} (F : Fr h₀ L s.heap m) (N : News h₀ L s.heap news) (X : (hd.heap_39 w.params).In h₀) (G : ResAt news r o) (G' : ResAt news r' o') (hu : A.units + 64 < cLine)
    (h : Q (.bool (!PyData.eqv (dat o) (dat o'))) s) : wpAny (model PG w) A (compareOp .NotEq r r') Q E s := by
  obtain ⟨_, ra⟩ := res_reads N (X.keeps F.keep) G
  obtain ⟨_, rb⟩ := res_reads N (X.keeps F.keep) G'
  exact ne_dataH ra rb (dat_shaped _) (dat_shaped _) hu h
theorem eq_frac {Q : Value → Shared → Prop} {n' d' : Int} (F : Fr h₀ L s.heap m) (N : News h₀ L s.heap news) (X : (hd.heap_39 w.params).In h₀) (G : FracAt news r n d) (G' : FracAt news r' n' d') (hu : A.units + 64 < cLine)
    (h : Q (.bool (n == n' && d == d')) s) : wpAny (model PG w) A (compareOp .Eq r r') Q E s :=
  eq_res F N X (.frac G) (.frac G') hu (by rw [dat_eqv_some]; exact h)
end
end Mine
end

section
open PySem PySem.W PyProof.Rows PySem.Calls PySem.Spec
namespace Mine

section
variable {prog : Program} {w : World} {A : Around} {E : Value → Shared → Prop} {s : Shared} {h₀ : Heap} {L : Addr} {m : Str → Option Value} {news : List (Addr × Obj)}
theorem abs_nat {a : Int} {t : Tok} {Q : Value → Shared → Prop} (h : ∀ u tk, Q (.int (a.natAbs : Int) u) { s with toks := tk }) : wpAny (model prog w) A (call (.builtin "abs") [.int a t]) Q E s :=
  call_abs_int fun u tk => by rw [absOf]; exact h u tk
theorem max_nat {a b : Int} {t u : Tok} {Q : Value → Shared → Prop} (hh : A.handled = none) (F : Fr h₀ L s.heap m) (N : News h₀ L s.heap news)
    (h : ∀ z v h' tk, a ≤ z → b ≤ z → (z = a ∨ z = b) → Fr h₀ L h' m → News h₀ L h' news → Q (.int z v) { s with heap := h', toks := tk }) : wpAny (model prog w) A (call (.builtin "max") [.int a t, .int b u]) Q E s :=
  max_two_N hh F N fun h' tk F' N' => h _ _ h' tk (by split <;> omega) (by split <;> omega) (by split <;> omega) F' N'
end
section
variable {w : World} {p : Program} {loose : List Str} {mean : ExcName → Option Value} {mg mb : Str → Option Value}

set_option maxHeartbeats 4000000 in
theorem whole_ctr {qx : Addr} {x0 x1 n : Int} {xa xb tn : Tok} {news : List (Addr × Obj)} (hx : (qx, tupO x0 x1 xa xb) ∈ news) (hx0 : x0 ≠ 0) (hx1 : 0 < x1) (hn : n ≠ 0) (hn1 : n ≤ 4096) (hn2 : -4096 ≤ n) :
    CtrF w p loose mean mg mb 162 [.ref qx, .int n tn] news 10 120 (pwr x0 x1 n) := by
  k_with_none
  k_with "mem" => (first | assumption | exact List.Mem.head _ | (refine List.Mem.tail _ ?_; walk_at "mem"))
  k_with "leaving ref" => ((k_dflt (refine' leave_fled ?x ?K ?FG ?hk ?hA ?st ?sub ?_; (case x => assumption); (case K => assumption); (case FG => assumption); (case hk => exact rfl); (case hA => exact rfl); (case st => exact news_st (by assumption)); (case sub => ktd_sub); k_whole); intro h' x'))
  k_with "exec Raise some none" => ((k_dflt (refine' raise_refusal ?k1 ?k2 ?k3 ?k4 ?k5 ?k6 ?k7 ?k8 ?k9 ?k10 ?_; (case k1 => k_asm); (case k2 => k_asm); (case k3 => k_asm); (case k4 => k_asm); (case k5 => k_asm); (case k6 => exact rfl); (case k7 => exact rfl); (case k8 => exact rfl); (case k9 => ktr_room); (case k10 => exact rfl); k_whole); intro e' t' h' tk' dx' tk2' mt' F' N' ne' de'))
  k_with "leaving ref" => ((k_dflt (refine' leave_new ?x ?K ?FG ?hk ?hA ?st ?sub ?_; (case x => exact fled_new (by assumption) (by assumption) (by assumption) (by assumption)); (case K => assumption); (case FG => assumption); (case hk => exact rfl); (case hA => exact rfl); (case st => exact news_st (by assumption)); (case sub => ktd_sub); k_whole); intro h' x'))
  k_with "subscriptTail Name Constant ref int" => (((with_reducible show wpAny _ _ (subscriptTail _ _ (Value.ref _) (Value.int 0 _)) _ _ _); k_dflt (refine' item_tup0 ?N ?hx ?_; (case N => k_asm); (case hx => walk_at "mem"); k_whole)))
  k_with "subscriptTail Name Constant ref int" => (((with_reducible show wpAny _ _ (subscriptTail _ _ (Value.ref _) (Value.int 1 _)) _ _ _); k_dflt (refine' item_tup1 ?N ?hx ?_; (case N => k_asm); (case hx => walk_at "mem"); k_whole)))
  k_with "binaryOp Mult int int" => ((with_reducible refine mul_int ?_ (mulOk (by assumption) (by assumption))))
  k_with "frac" => (first | exact FracAt.mk (by walk_at "mem") | exact FracAt.one | exact FracAt.zero)
  k_with "compareOp Eq ref ref" => ((k_dflt (refine' eq_frac ?k1 ?k2 ?k3 ?k4 ?k5 ?k6 ?_; (case k1 => k_asm); (case k2 => k_asm); (case k3 => k_asm); (case k4 => walk_at "frac"); (case k5 => walk_at "frac"); (case k6 => ktr_units); k_whole)))
  k_with "call ref" => (((with_reducible show wpAny _ _ (call (Value.ref 64) [Value.int _ _, Value.int _ _]) _ _ _); k_dflt (refine' bounded_ctr _ _ _ _ _ _ _ _ _ _ _ _ _ _ _ _ _ _ _ _ _ _ ?k1 ?k2 ?k3 ?k4 ?k5 ?kK ?kd ?ku (fun n9 d9 e9 r9 ex9 h9 tk9 F9 N9 G9 => ?_) (fun e9 x9 h9 tk9 X9 => ?_); (case k1 => k_asm); (case k2 => k_asm); (case k3 => k_asm); (case k4 => k_asm); (case k5 => k_asm); (case kK => exact rfl); (case kd => ktr_room); (case ku => ktr_units)); (all_goals (try dsimp only))))
  k_with "call builtin:abs" => ((refine abs_nat ?_; intro _ _))
  k_with "call builtin:max" => ((k_dflt (refine' max_nat ?k1 ?k2 ?k3 ?_; (case k1 => exact rfl); (case k2 => k_asm); (case k3 => k_asm); k_whole); intro z' v' h' tk' hz1 hz2 hz3 F' N'))
  k_with "binaryOp FloorDiv int int" => ((refine floordiv_int (by omega) ?_ (Or.inl (PyProof.noPylong_small (by omega)))))
  k_with "binaryOp Pow int int" => ((refine pow_int (by omega) (guard_bits (by omega) (by omega) (by omega)) ?_))
  k_with "binaryOp Pow int int" => ((refine pow_int (q_pos (by omega)) (bits_ten (by omega)) ?_))
  intro dp un gd cn cs ad ccd cl outer A₀ base h₀ L m s Q E B F X N T hk hdp hun hret hrai
  refine wpAny_call ?_
  k_dflt ktr_enter
  k_steps
  all_goals first
    | exact hret _ _ (pwr_one (by assumption)) _ [] _ _ (by assumption) (by assumption) .one
    | exact hret _ _ (pwr_even (by assumption) (by assumption) (by assumption)) _ [] _ _ (by assumption) (by assumption) .one
    | exact hret _ _ (pwr_odd (by assumption) (by assumption) (by assumption)) _ [] _ _ (by assumption) (by assumption) (.mk hx)
    | exact hret _ _ ((pwr_neg1 (by omega) (by omega)).trans (by assumption)) _ _ _ _ (by assumption) (news_assoc (by assumption)) (frac_assoc (by assumption))
    | exact hret _ _ ((pwr_neg2 (by omega) (by omega)).trans (by assumption)) _ _ _ _ (by assumption) (news_assoc (by assumption)) (frac_assoc (by assumption))
    | exact hret _ _ ((pwr_pos (by omega)).trans (by assumption)) _ _ _ _ (by assumption) (by assumption) (by assumption)
    | exact hrai ((pwr_neg1 (by omega) (by omega)).trans (by assumption)) _ _ _ (by assumption)
    | exact hrai ((pwr_neg2 (by omega) (by omega)).trans (by assumption)) _ _ _ (by assumption)
    | exact hrai ((pwr_pos (by omega)).trans (by assumption)) _ _ _ (by assumption)
    | exact hrai ((pwr_neg1 (by omega) (by omega)).trans (guard_fin (by omega) (by omega) (by omega) (by omega))) _ _ _ (by assumption)
    | exact hrai ((pwr_neg2 (by omega) (by omega)).trans (guard_fin (by omega) (by omega) (by omega) (by omega))) _ _ _ (by assumption)
    | exact hrai ((pwr_pos (by omega)).trans (guard_fin (by omega) (by omega) (by omega) (by omega))) _ _ _ (by assumption)
    | exact absurd (by assumption) hn
    | skip

end
end Mine
end

section
open PySem PySem.W PyProof.Rows PySem.Calls PySem.Spec
namespace Mine

theorem no_zero {x0 x1 : Int} {P : Prop} (h : (x0 == 0 && x1 == 1) = true) (h0 : x0 ≠ 0) : P := by
  simp only [Bool.and_eq_true, beq_iff_eq] at h
  exact absurd h.1 h0
section
variable {w : World} {p : Program} {loose : List Str} {mean : ExcName → Option Value} {mg mb : Str → Option Value}

set_option maxHeartbeats 4000000 in
theorem power_ctr {qx qy : Addr} {x0 x1 n : Int} {xa xb ya yb : Tok} {news : List (Addr × Obj)} (hx : (qx, tupO x0 x1 xa xb) ∈ news) (hy : (qy, tupO n 1 ya yb) ∈ news) (hx0 : x0 ≠ 0) (hx1 : 0 < x1) (hn : n ≠ 0) (hn1 : n ≤ 4096) (hn2 : -4096 ≤ n) :
    CtrF w p loose mean mg mb 141 [.ref qx, .ref qy] news 15 150 (pwr x0 x1 n) := by
  k_with_none
  k_with "mem" => (first | assumption | exact List.Mem.head _ | (refine List.Mem.tail _ ?_; walk_at "mem"))
  k_with "leaving ref" => ((k_dflt (refine' leave_fled ?x ?K ?FG ?hk ?hA ?st ?sub ?_; (case x => assumption); (case K => assumption); (case FG => assumption); (case hk => exact rfl); (case hA => exact rfl); (case st => exact news_st (by assumption)); (case sub => ktd_sub); k_whole); intro h' x'))
  k_with "subscriptTail Name Constant ref int" => (((with_reducible show wpAny _ _ (subscriptTail _ _ (Value.ref _) (Value.int 0 _)) _ _ _); k_dflt (refine' item_tup0 ?N ?hx ?_; (case N => k_asm); (case hx => walk_at "mem"); k_whole)))
  k_with "subscriptTail Name Constant ref int" => (((with_reducible show wpAny _ _ (subscriptTail _ _ (Value.ref _) (Value.int 1 _)) _ _ _); k_dflt (refine' item_tup1 ?N ?hx ?_; (case N => k_asm); (case hx => walk_at "mem"); k_whole)))
  k_with "binaryOp Mult int int" => ((with_reducible refine mul_int ?_ (mulOk (by assumption) (by assumption))))
  k_with "frac" => (first | exact FracAt.mk (by walk_at "mem") | exact FracAt.one | exact FracAt.zero)
  k_with "compareOp Eq ref ref" => ((k_dflt (refine' eq_frac ?k1 ?k2 ?k3 ?k4 ?k5 ?k6 ?_; (case k1 => k_asm); (case k2 => k_asm); (case k3 => k_asm); (case k4 => walk_at "frac"); (case k5 => walk_at "frac"); (case k6 => ktr_units); k_whole)))
  k_with "call ref" => (((with_reducible show wpAny _ _ (call (Value.ref 78) [Value.ref _]) _ _ _); k_dflt (refine' is_na_ctr ?hx ?h1 _ _ _ _ _ _ _ _ _ _ _ _ _ _ _ _ _ ?k1 ?k2 ?k3 ?k4 ?k5 ?kK ?kd ?ku (fun t9 h9 tk9 F9 N9 => ?_); (case k1 => k_asm); (case k2 => k_asm); (case k3 => k_asm); (case k4 => k_asm); (case k5 => k_asm); (case kK => exact rfl); (case kd => ktr_room); (case ku => ktr_units); (case hx => walk_at "mem"); (case h1 => first | assumption | omega); k_whole); (try dsimp only)))
  k_with "call ref" => (((with_reducible show wpAny _ _ (call (Value.ref 162) [Value.ref _, Value.int _ _]) _ _ _); k_dflt (refine' whole_ctr ?hx ?h1 ?h2 ?h3 ?h4 ?h5 _ _ _ _ _ _ _ _ _ _ _ _ _ _ _ _ _ ?k1 ?k2 ?k3 ?k4 ?k5 ?kK ?kd ?ku (fun n9 d9 e9 r9 ex9 h9 tk9 F9 N9 G9 => ?_) (fun e9 x9 h9 tk9 X9 => ?_); (case k1 => k_asm); (case k2 => k_asm); (case k3 => k_asm); (case k4 => k_asm); (case k5 => k_asm); (case kK => exact rfl); (case kd => ktr_room); (case ku => ktr_units); (case hx => walk_at "mem"); (case h1 => assumption); (case h2 => assumption); (case h3 => assumption); (case h4 => assumption); (case h5 => assumption)); (all_goals (try dsimp only))))
  have hx1n : x1 ≠ 0 := by omega
  intro dp un gd cn cs ad ccd cl outer A₀ base h₀ L m s Q E B F X N T hk hdp hun hret hrai
  refine wpAny_call ?_
  k_dflt ktr_enter
  k_steps
  all_goals first
    | exact hret _ _ (by assumption) _ _ _ _ (by assumption) (by assumption) (by assumption)
    | exact hret _ _ (pwr_one (by assumption)) _ [] _ _ (by assumption) (by assumption) .one
    | exact hrai (by assumption) _ _ _ (by assumption)
    | exact no_zero (by assumption) hx0
    | exact no_zero (by assumption) hn
    | exact absurd (by assumption) hx1n
    | skip

end
end Mine
end

section
open PySem PySem.W PyProof.Rows PySem.Calls PySem.Spec
namespace Mine

/-- a goal that the walk leaves alone -/
def Held (P : Prop) : Prop := P
def Jg (M0 : Str → Option Value) (x y : Str) (news : List (Addr × Obj)) (g : Nat) (n : Nat) (m₁ : Str → Option Value) (news₁ : List (Addr × Obj)) : Prop :=
  ∃ u v t t', m₁ = bindM (bindM M0 x (some (.int u t))) y (some (.int v t')) ∧ news₁ = news ∧ 0 ≤ u ∧ 0 ≤ v ∧ Int.gcd u v = g ∧ n = v.toNat
theorem pair_again {M0 : Str → Option Value} {x y : Str} {a b A B : Option Value} : (fun z => if z = x then A else if z = y then B else bindM (bindM M0 x a) y b z) = bindM (bindM M0 y B) x A := by
  funext z
  simp only [bindM]
  split
  · rfl
  · split
    · rfl
    · rfl
theorem bind_swap {M0 : Str → Option Value} {x y : Str} {A B : Option Value} (h : x ≠ y) : bindM (bindM M0 y B) x A = bindM (bindM M0 x A) y B := by
  funext z
  simp only [bindM]
  by_cases hx : z = x
  · rw [if_pos hx, if_neg (fun q => h (hx.symm.trans q)), if_pos hx]
  · by_cases hy : z = y
    · rw [if_neg hx, if_pos hy, if_pos hy]
    · rw [if_neg hx, if_neg hy, if_neg hy, if_neg hx]
section
variable {prog : Program} {w : World} {A : Around} {E : Value → Shared → Prop} {Q : Flow → Shared → Prop} {s : Shared} {env : Env} {h₀ : Heap} {L : Addr}
theorem While_gcd {test : PySem.Expr} {body : List Stmt} {pos : Pos} {M0 : Str → Option Value} {news : List (Addr × Obj)} {x y : Str} {a b : Int} {ta tb : Tok}
    (F : Fr h₀ L s.heap M0) (N : News h₀ L s.heap news) (hx : M0 x = some (.int a ta)) (hy : M0 y = some (.int b tb)) (ha : 0 ≤ a) (hb : 0 ≤ b)
    (turn : Held (∀ u v t t' h₁ tk₁, 0 ≤ u → 0 ≤ v → Int.gcd u v = Int.gcd a b → Fr h₀ L h₁ (bindM (bindM M0 x (some (.int u t))) y (some (.int v t'))) → News h₀ L h₁ news →
      wpAny (model prog w) A (isTrue test env (eval test env)) (fun b' s₂ =>
        if b' = true then wpAny (model prog w) A (execs body env) (WhileStep h₀ L s (Jg M0 x y news (Int.gcd a b)) v.toNat) E s₂ else Q .next s₂) E { s with heap := h₁, toks := tk₁ }))
    (hE : PassesOwn (model prog w) A env E) : wpAny (model prog w) A (exec (.While test body [] pos) env) Q E s := by
  refine While_inv (Jg M0 x y news (Int.gcd a b)) F N ⟨a, b, ta, tb, bind_two hx hy, rfl, ha, hb, rfl, rfl⟩ ?_ hE
  rintro n m₁ news₁ h₁ tk₁ F₁ N₁ ⟨u, v, t, t', rfl, rfl, hu, hv, hg, rfl⟩
  exact turn u v t t' h₁ tk₁ hu hv hg F₁ N₁
theorem step_gcd {M0 : Str → Option Value} {x y : Str} {news : List (Addr × Obj)} {q : Addr × Obj} {g : Nat} {u v : Int} {t t' t₁ t₂ : Tok} {h' : Heap} {tk : Nat} (hxy : x ≠ y) (hu : 0 ≤ u) (hv : 0 < v) (hg : Int.gcd u v = g)
    (F : Fr h₀ L h' (fun z => if z = x then some (.int v t₁) else if z = y then some (.int (u.fmod v) t₂) else bindM (bindM M0 x (some (.int u t))) y (some (.int v t')) z)) (N : News h₀ L h' (q :: news)) :
    WhileStep h₀ L s (Jg M0 x y news g) v.toNat .next { s with heap := h', toks := tk } := by
  obtain ⟨r0, r1⟩ := fmod_range (x := u) hv
  rw [pair_again, bind_swap hxy] at F
  exact WhileStep.intro (n' := (u.fmod v).toNat) F (news_tail N) (by omega) ⟨v, u.fmod v, _, _, rfl, rfl, Int.le_of_lt hv, r0, (gcd_step hv).trans hg, rfl⟩
end
theorem news_d1 {h₀ h : Heap} {L : Addr} {q e : Addr × Obj} {news : List (Addr × Obj)} (N : News h₀ L h (q :: e :: news)) : News h₀ L h (q :: news) := fun p hp => N p (by
  rcases List.mem_cons.mp hp with rfl | hp
  · exact .head _
  · exact .tail _ (.tail _ hp))
theorem exit_gcd {u : Int} {g : Nat} (hu : 0 ≤ u) (hg : Int.gcd u 0 = g) : u = (g : Int) := by
  rw [Int.gcd_zero_right] at hg
  omega
theorem gcd_nab (n d : Int) : Int.gcd ((n.natAbs : Nat) : Int) d = Int.gcd n d := by simp [Int.gcd]
theorem gcd_nab2 (n d : Int) : Int.gcd (((-n).natAbs : Nat) : Int) (-d) = Int.gcd n d := by simp [Int.gcd]
section
variable {w : World} {p : Program} {loose : List Str} {mean : ExcName → Option Value} {mg mb : Str → Option Value}

set_option maxHeartbeats 4000000 in
theorem reduced_ctr (n d : Int) (tn td : Tok) (news : List (Addr × Obj)) (hd0 : d ≠ 0) (hgl : ((Int.gcd n d : Nat) : Int).natAbs.log2 < 9000) :
    CtrN w p loose mean mg mb 176 [.int n tn, .int d td] news 2 20 (redN n d) (redD n d) := by
  k_with_none
  k_with "mem" => (first | assumption | exact List.Mem.head _ | (refine List.Mem.tail _ ?_; walk_at "mem"))
  k_with "subscriptTail Name Constant ref int" => (((with_reducible show wpAny _ _ (subscriptTail _ _ (Value.ref _) (Value.int 0 _)) _ _ _); k_dflt (refine' item_tup0 ?N ?hx ?_; (case N => k_asm); (case hx => walk_at "mem"); k_whole)))
  k_with "subscriptTail Name Constant ref int" => (((with_reducible show wpAny _ _ (subscriptTail _ _ (Value.ref _) (Value.int 1 _)) _ _ _); k_dflt (refine' item_tup1 ?N ?hx ?_; (case N => k_asm); (case hx => walk_at "mem"); k_whole)))
  k_with "call builtin:abs" => ((refine abs_nat ?_; intro _ _))
  k_with "binaryOp FloorDiv int int" => ((refine floordiv_int (by assumption) ?_ (Or.inl (PyProof.noPylong_of_log2 (by assumption)))))
  k_with "exec While Compare cons nil" => ((k_dflt (refine' While_gcd (x := Str.ofString "one") (y := Str.ofString "two") ?k1 ?k2 ?k3 ?k4 ?k5 ?k6 ?_ ?kE; (case k1 => k_asm); (case k2 => k_asm); (case k3 => exact rfl); (case k4 => exact rfl); (case k5 => omega); (case k6 => omega); (case kE => walk1); k_whole)))
  have hg0 := gcd_cast_ne (n := n) hd0
  unfold redN redD
  by_cases hneg : d < 0
  · rw [if_pos hneg, if_pos hneg]
    intro dp un gd cn cs ad ccd cl outer A₀ base h₀ L m s Q E B F X N T hk hdp hun hret
    refine wpAny_call ?_
    k_dflt ktr_enter
    k_steps
    unfold Held
    intro u v t t' h₁ tk₁ hu hv hg F₁ N₁
    rcases Int.lt_or_le 0 v with hv' | hv'
    · k_steps
      refine' step_gcd ?a ?b ?c ?d ?e ?f
      case e => assumption
      case a => decide
      case b => exact hu
      case c => exact hv'
      case d => exact hg
      case f => assumption
    · obtain rfl : v = 0 := by omega
      obtain rfl := exit_gcd hu (hg.trans (gcd_nab2 n d))
      k_steps
      exact hret _ _ _ _ _ (by assumption) (by first | exact news_d1 (by assumption) | exact news_d1 (news_d1 (by assumption)))
  · rw [if_neg hneg, if_neg hneg]
    intro dp un gd cn cs ad ccd cl outer A₀ base h₀ L m s Q E B F X N T hk hdp hun hret
    refine wpAny_call ?_
    k_dflt ktr_enter
    k_steps
    unfold Held
    intro u v t t' h₁ tk₁ hu hv hg F₁ N₁
    rcases Int.lt_or_le 0 v with hv' | hv'
    · k_steps
      refine' step_gcd ?a ?b ?c ?d ?e ?f
      case e => assumption
      case a => decide
      case b => exact hu
      case c => exact hv'
      case d => exact hg
      case f => assumption
    · obtain rfl : v = 0 := by omega
      obtain rfl := exit_gcd hu (hg.trans (gcd_nab n d))
      k_steps
      exact hret _ _ _ _ _ (by assumption) (by first | exact news_d1 (by assumption) | exact news_d1 (news_d1 (by assumption)))
end
end Mine
end

section
open PySem PySem.W PyProof.Rows PySem.Calls PySem.Spec
namespace Mine

theorem most_pow : (10 : Int) ^ 5000 = Most := ten_cast 5000
theorem pow_most {prog : Program} {w : World} {A : Around} {E : Value → Shared → Prop} {s : Shared} {t u : Tok} {Q : Value → Shared → Prop} (h : Q (.int Most s.toks) { s with toks := s.toks + 1 }) : wpAny (model prog w) A (binaryOp .Pow (.int 10 t) (.int 5000 u)) Q E s :=
  pow_int (by decide) (by decide +kernel) (by
    have e : (10 : Int) ^ (5000 : Int).toNat = Most := most_pow
    rw [e]; exact h)
abbrev RetR (h₀ : Heap) (L : Addr) (m : Str → Option Value) (news : List (Addr × Obj)) (s : Shared) (Q : Value → Shared → Prop) (res : Option (Int × Int)) : Prop :=
  ∀ (r : Value) (ex : List (Addr × Obj)) (h' : Heap) (tk' : Nat), Fr h₀ L h' m → News h₀ L h' (ex ++ news) → ResAt (ex ++ news) r res → Q r { s with heap := h', toks := tk' }
abbrev CtrR (w : World) (p : Program) (loose : List Str) (mean : ExcName → Option Value) (mg mb : Str → Option Value) (f : Addr) (vs : List Value) (news : List (Addr × Obj)) (D U : Nat) (res : Option (Int × Int)) : Prop :=
  ∀ (dp un : Nat) (gd : Option (List Code)) (cn : Str) (cs : Scope) (a : Addr) (ccd : Value) (cl : List (Str × Addr)) (outer : List Env) (A₀ : Around) (base h₀ : Heap) (L : Addr) (m : Str → Option Value) (s : Shared) (Q E : Value → Shared → Prop),
    Below A₀ base outer h₀ → Fr h₀ L s.heap m → (hd.heap_39 w.params).In h₀ → News h₀ L s.heap news → Top p loose mean mg mb h₀ → cs.kind = .function →
    dp + D < recursionLimit → un + U < cLine → RetR h₀ L m news s Q res →
    wpAny (model PG w) (ktrTop dp un gd cn cs L a ccd cl outer) (call (.ref f) vs) Q E s
theorem fin_leftM {n d : Int} (h : Most < (n.natAbs : Int)) : fin n d = none := if_neg fun q => absurd q.1 (Int.not_le.mpr h)
theorem fin_rightM {n d : Int} (h : Most < d) : fin n d = none := if_neg fun q => absurd q.2 (Int.not_le.mpr h)
theorem fin_someM {n d : Int} (h : ¬ Most < (n.natAbs : Int)) (h' : ¬ Most < d) : fin n d = some (n, d) := if_pos ⟨Int.not_lt.mp h, Int.not_lt.mp h'⟩
section
variable {w : World} {p : Program} {loose : List Str} {mean : ExcName → Option Value} {mg mb : Str → Option Value}

set_option maxHeartbeats 4000000 in
theorem due_ctr (n d : Int) (tn td : Tok) (news : List (Addr × Obj)) (hd0 : d ≠ 0) (hgl : ((Int.gcd n d : Nat) : Int).natAbs.log2 < 9000) :
    CtrR w p loose mean mg mb 183 [.int n tn, .int d td] news 6 40 (due n d) := by
  k_with_none
  k_with "mem" => (first | assumption | exact List.Mem.head _ | (refine List.Mem.tail _ ?_; walk_at "mem"))
  k_with "subscriptTail Name Constant ref int" => (((with_reducible show wpAny _ _ (subscriptTail _ _ (Value.ref _) (Value.int 0 _)) _ _ _); k_dflt (refine' item_tup0 ?N ?hx ?_; (case N => k_asm); (case hx => walk_at "mem"); k_whole)))
  k_with "subscriptTail Name Constant ref int" => (((with_reducible show wpAny _ _ (subscriptTail _ _ (Value.ref _) (Value.int 1 _)) _ _ _); k_dflt (refine' item_tup1 ?N ?hx ?_; (case N => k_asm); (case hx => walk_at "mem"); k_whole)))
  k_with "binaryOp Pow int int" => (((with_reducible refine pow_most ?_)))
  k_with "call builtin:abs" => ((refine abs_nat ?_; intro _ _))
  k_with "call ref" => (((with_reducible show wpAny _ _ (call (Value.ref 176) [Value.int _ _, Value.int _ _]) _ _ _); k_dflt (refine' reduced_ctr _ _ _ _ _ ?h0 ?hg _ _ _ _ _ _ _ _ _ _ _ _ _ _ _ _ _ ?k1 ?k2 ?k3 ?k4 ?k5 ?kK ?kd ?ku (fun q9 h9 tk9 a9 b9 F9 N9 => ?_); (case k1 => k_asm); (case k2 => k_asm); (case k3 => k_asm); (case k4 => k_asm); (case k5 => k_asm); (case kK => exact rfl); (case kd => ktr_room); (case ku => ktr_units); (case h0 => assumption); (case hg => assumption); k_whole); (try dsimp only)))
  intro dp un gd cn cs ad ccd cl outer A₀ base h₀ L m s Q E B F X N T hk hdp hun hret
  refine wpAny_call ?_
  k_dflt ktr_enter
  unfold due at hret
  k_steps
  · rw [fin_leftM (by assumption)] at hret
    exact hret _ [] _ _ (by assumption) (news_tail (by assumption)) .text
  · rw [fin_rightM (by assumption)] at hret
    exact hret _ [] _ _ (by assumption) (news_tail (by assumption)) .text
  · rw [fin_someM (by assumption) (by assumption)] at hret
    exact hret _ [_] _ _ (by assumption) (by assumption) (.frac (.mk (.head _)))
end
end Mine
end

section
open PySem PySem.W PyProof.Rows PySem.Calls PySem.Spec
namespace Mine
section
variable {w : World} {p : Program} {loose : List Str} {mean : ExcName → Option Value} {mg mb : Str → Option Value}
variable {g h : Heap} {outer : List Env} {L : Addr} {m : Str → Option Value} {news : List (Addr × Obj)} {e t dx : Addr} {tk mt : Tok} {tb : Value} {A₀ A : Around} {base : Heap} {name : Str} {scope : Scope} {a : Addr} {cd : Value} {s' : Shared} {E : Value → Shared → Prop}
theorem Fl0.ground (x : Fl0 w g outer L m news e t dx tk mt tb h) (K : Below A₀ base outer g) :
    ∃ g' sl, KtsTurn (outer.filterMap (·.frame)) g g' ∧ Fr g' L h m ∧ News g' L h ((e, msgExc t dx tb sl) :: (dx, dictOf [msgEntry w tk (.str notExact mt)] 1) :: news) ∧ Below A₀ base outer g' := by
  obtain ⟨T, S⟩ := kts_turn_at (h := h) (fs := outer.filterMap (·.frame)) (g := g)
    (fun b hb => by
      obtain ⟨_, o, ho, _⟩ := K.frames.mem hb
      exact ⟨o, ho⟩) x.other x.frame
  obtain ⟨sl, he⟩ := x.exc
  refine ⟨_, sl, T, ⟨x.ns, S, by rw [T.size]; exact x.above⟩, ?_, ⟨K.stack, fun b o q => T.other b o (K.stays b o q) (fun hm => by
    rw [(K.frames.mem hm).1] at q
    cases q), K.frames.of_keeps fun b o q _ => ?_⟩⟩
  · intro q hq
    rcases List.mem_cons.mp hq with rfl | hq
    · exact ⟨he, x.eL, T.none_ _ x.e0⟩
    · rcases List.mem_cons.mp hq with rfl | hq
      · exact ⟨x.dic, x.dL, T.none_ _ x.d0⟩
      · exact ⟨(x.led q hq).1, (x.led q hq).2.1, T.none_ _ (x.led q hq).2.2⟩
  · obtain ⟨sl, hs⟩ := T.up q
    exact ⟨_, hs, rfl⟩

theorem caught_fled {n : Str} {b₀ : Stmt} {suite : List Stmt} {pos np : Pos} {rest : List ExceptHandler} {Q : Flow → Shared → Prop}
    (x : Fled w g outer L m news e .none s'.heap) (K : Below A₀ base outer g) (XB : (hd.heap_39 w.params).In base) (TB : Top p loose mean mg mb base) (D : KtsDicts (outer.filterMap (·.frame)) g)
    (k : ∀ h' g' t dx tk mt tb sl tk', KtsTurn (outer.filterMap (·.frame)) g g' → Fr g' L h' (fun y => if y = n then some (.ref e) else m y) →
      News g' L h' ((e, msgExc t dx tb sl) :: (dx, dictOf [msgEntry w tk (.str notExact mt)] 1) :: news) → Below A₀ base outer g' → (hd.heap_39 w.params).In g' → Top p loose mean mg mb g' → KtsDicts (outer.filterMap (·.frame)) g' →
      wpAny (model PG w) ((A₀.deeper (envOf name scope L a cd)).mark (some (.ref e))) (execs (b₀ :: suite) (envOf name scope L a cd))
        (fun f s₄ => wpAny (model PG w) (A₀.deeper (envOf name scope L a cd)) (do bindName (envOf name scope L a cd) n .none; unbindBehindTheSuite (envOf name scope L a cd) n pos) (fun _ s₅ => Q f s₅) E s₄)
        (AsSuiteRaised (model PG w) ((A₀.deeper (envOf name scope L a cd)).mark (some (.ref e))) (envOf name scope L a cd) n pos (notedBy (model PG w) ((A₀.deeper (envOf name scope L a cd)).mark (some (.ref e))) (envOf name scope L a cd) (cameBackBy (model PG w) (A₀.deeper (envOf name scope L a cd)) (envOf name scope L a cd) E)))
        { s' with heap := h', toks := tk' })
    (hk : scope.kind = .function) (hlo : (envOf name scope L a cd).kindOf n = some .local) (hx : (envOf name scope L a cd).kindOf (Str.ofString "Refusal") = some .globalImplicit) :
    wpAny (model PG w) (A₀.deeper (envOf name scope L a cd)) (noteFrame (.ref e) (envOf name scope L a cd))
      (fun _ s₂ => wpAny (model PG w) (A₀.deeper (envOf name scope L a cd)) (setFlight (.ref e) none) (fun _ s₃ =>
        wpAny (model PG w) (A₀.deeper (envOf name scope L a cd)) (handleBy (.ref e) (envOf name scope L a cd) (.ExceptHandler (some (.Name (Str.ofString "Refusal") np)) (some n) (b₀ :: suite) pos :: rest)) Q E s₃) E s₂) E s' := by
  refine note_fled x K hk (Around.frames_deeper K.stack) fun h₄ x₄ => ?_
  refine flight_fled (s := { s' with heap := h₄ }) x₄ fun h₅ x₅ => ?_
  have x₅' := x₅
  obtain ⟨t, dx, tk, mt, T, oT, ts, y₅, _⟩ := x₅
  obtain ⟨g₅, sl, T₅, F₅, N₅, K₅⟩ := y₅.ground K
  have X₅ : (hd.heap_39 w.params).In g₅ := XB.keeps K₅.stays
  have P₅ := topRead_of (TB.keeps K₅.stays)
  refine wpAny_handleBy_cons (codeAny_handlers_test (name_K (s := { s' with heap := h₅ }) F₅ X₅ P₅ (show nsIn (hd.heap_39 w.params) mainGlobals (Str.ofString "Refusal") = some (some (.ref 44)) by k_is) ?_ hk hx (by decide))) (by intro q; cases q)
  refine wpAny_excMatches_sub_self (obj44 (X₅.keeps F₅.keep)) (N₅ _ (.head _)).1 rfl (by decide) (codeAny_handlers_suite_as ?_)
  refine flight_fled (s := { s' with heap := h₅ }) x₅' fun h₆ x₆ => ?_
  obtain ⟨t, dx, tk, mt, T, oT, ts, y₆, _⟩ := x₆
  obtain ⟨g₆, sl, T₆, F₆, N₆, K₆⟩ := y₆.ground K
  refine stN (s := { s' with heap := h₆ }) F₆ N₆ (fun h₇ F₇ N₇ => ?_) hk hlo
  exact k h₇ g₆ t dx tk mt _ sl _ T₆ F₇ N₇ K₆ (XB.keeps K₆.stays) (TB.keeps K₆.stays) (D.turn T₆)

theorem exc_inst {h₀ : Heap} {sl : Array (Option Value)} {od : Obj} (N : News h₀ L h news) (h1 : (e, msgExc t dx tb sl) ∈ news) (h2 : (dx, od) ∈ news) : InstAt h e (msgExc t dx tb sl) 44 (some od) :=
  ⟨(N _ h1).1, rfl, rfl, (N _ h2).1⟩
theorem get_message {h₀ : Heap} {s : Shared} {sl : Array (Option Value)} {expr : Bool} {Q : Value → Shared → Prop} (F : Fr h₀ L s.heap m) (X₀ : (hd.heap_39 w.params).In h₀) (N : News h₀ L s.heap news) (h1 : (e, msgExc t dx tb sl) ∈ news)
    (h2 : (dx, dictOf [msgEntry w tk (.str notExact mt)] 1) ∈ news) (h : Q (.str notExact mt) { s with toks := s.toks + 1 }) : wpAny (model PG w) A (getAttr (.ref e) (Str.ofString "message") expr) Q E s := by
  have X := X₀.keeps F.keep
  have I := exc_inst N h1 h2
  have FA := PySem.F.attr_Exception
  have L0 := I.type (M := model PG w)
  have L1 : Looks (model PG w) s.heap (typeLookup (.ref 44) (Str.ofString "__getattribute__")) (some (.builtin "BaseException.__getattribute__")) := looks_findIn X (by k_is)
  have L2 : Looks (model PG w) s.heap (typeLookup (.ref 44) (Str.ofString "__getattr__")) none := looks_findIn X (by k_is)
  have hcls : ∃ cd, clsIn (hd.heap_39 w.params) 44 = some cd ∧ cd.mro = [.ref 44, .ref 24, .type "Exception", .type "BaseException", .type "object"] := ⟨_, by k_is, rfl⟩
  obtain ⟨cd, hcd, hmro⟩ := hcls
  have sub : Looks (model PG w) s.heap (isInstance (.ref e) (.type "BaseException")) true := I.type.andThen (looks_mroIn X (by unfold mroIn; rw [hcd, Option.bind_some, hmro]; rfl))
  have fo : findObj (hd.heap_39 w.params) 44 (some (dictOf [msgEntry w tk (.str notExact mt)] 1)) (Str.ofString "message") = some (.value (.str notExact mt)) :=
    findObj_own (by k_is) (show findIn (hd.heap_39 w.params) (.ref 44) (Str.ofString "message") = some none by k_is) (by rfl) (by rfl)
  have L3 := looks_find (M := model PG w) X I fo
  obtain ⟨hh', g, d, tt, os⟩ := s
  unfold getAttr getAttrBy
  refine wpAny_bind (wpAny_mkText (wpAny_holding (wpAny_bind (L0.at (wpAny_bind (L1.at ?_))))))
  dsimp only
  rw [if_neg (by decide +kernel)]
  unfold getAttrByItsOwn hookBefore
  refine wpAny_bind ?_
  rw [if_pos (by rfl)]
  refine L2.at ?_
  refine wpAny_bind (wpAny_attempt (wpAny_holding ?_))
  unfold callGetattribute
  rw [if_neg (by cases expr <;> decide +kernel)]
  unfold boundAndCalled
  rw [FA.ga.bind]
  refine wpAny_bind (wpAny_pure (wpAny_call (codeAny_call_builtin FA.ga.plain PySem.F.entry_bexc_ga (@check_slot (model PG w) _ _ _ "BaseException.__getattribute__" "BaseException" "__getattribute__" (.ref e) [.str (Str.ofString "message") tt] [] _ (by decide +kernel) (by decide +kernel) sub (PySem.F.args_bexc_ga _ _) ?_))))
  unfold Builtin.«object.__getattribute__»
  refine wpAny_bind (wpAny_pure (wpAny_bind (wpAny_pure (wpAny_bind (L0.at (wpAny_bind (L3.at ?_)))))))
  refine wpAny_pure ?_
  show wpAny _ _ (handedOut _) _ _ _
  rw [handedOut_of (by rfl)]
  exact wpAny_pure h
end
end Mine
end

section
open PySem PySem.W PyProof.Rows PySem.Calls PySem.Spec
namespace Mine

abbrev frs (outer : List Env) : List Addr := outer.filterMap (·.frame)
/-- what a call whose body catches hands back: the ground below it may be turned -/
abbrev RetT (w : World) (p : Program) (loose : List Str) (mean : ExcName → Option Value) (mg mb : Str → Option Value) (A₀ : Around) (base : Heap) (outer : List Env) (h₀ : Heap) (L : Addr) (m : Str → Option Value) (news : List (Addr × Obj)) (s : Shared) (Q : Value → Shared → Prop) (P : List (Addr × Obj) → Value → Prop) : Prop :=
  ∀ (r : Value) (ex : List (Addr × Obj)) (h₁ h' : Heap) (tk' : Nat), KtsTurn (frs outer) h₀ h₁ → Below A₀ base outer h₁ → (hd.heap_39 w.params).In h₁ → Top p loose mean mg mb h₁ → KtsDicts (frs outer) h₁ → Fr h₁ L h' m → News h₁ L h' (ex ++ news) → P (ex ++ news) r → Q r { s with heap := h', toks := tk' }
abbrev CtrT (w : World) (p : Program) (loose : List Str) (mean : ExcName → Option Value) (mg mb : Str → Option Value) (f : Addr) (vs : List Value) (news : List (Addr × Obj)) (D U : Nat) (P : List (Addr × Obj) → Value → Prop) : Prop :=
  ∀ (dp un : Nat) (gd : Option (List Code)) (cn : Str) (cs : Scope) (a : Addr) (ccd : Value) (outer : List Env) (A₀ : Around) (base h₀ : Heap) (L : Addr) (m : Str → Option Value) (s : Shared) (Q E : Value → Shared → Prop),
    Below A₀ base outer h₀ → Fr h₀ L s.heap m → (hd.heap_39 w.params).In h₀ → News h₀ L s.heap news → Top p loose mean mg mb h₀ → cs.kind = .function → (hd.heap_39 w.params).In base → Top p loose mean mg mb base → KtsDicts (frs outer) h₀ →
    dp + D < recursionLimit → un + U < cLine → RetT w p loose mean mg mb A₀ base outer h₀ L m news s Q P →
    wpAny (model PG w) (ktrTop dp un gd cn cs L a ccd [] outer) (call (.ref f) vs) Q E s
section
variable {w : World} {p : Program} {loose : List Str} {mean : ExcName → Option Value} {mg mb : Str → Option Value}

set_option maxHeartbeats 4000000 in
theorem told_ctr {f : Addr} {vx vy : Value} {news : List (Addr × Obj)} {res : Option (Int × Int)} {Df Uf : Nat} (hkeep : keepIn (hd.heap_39 w.params) (.ref f) = true) (Hf : CtrF w p loose mean mg mb f [vx, vy] news Df Uf res) :
    CtrT w p loose mean mg mb 190 [.ref f, vx, vy] news (Df + 5) (Uf + 50) (fun news' r => ResAt news' r res) := by
  k_with_none
  k_with "mem" => (first | assumption | exact List.Mem.head _ | (refine List.Mem.tail _ ?_; walk_at "mem"))
  k_with "callWith ref" => ((k_dflt (refine' callWith_K ?k1 ?k2 ?_; (case k1 => k_asm); (case k2 => assumption); k_whole)))
  k_with "noteFrame ref" => ((k_dflt (refine' caught_fled ?x ?K ?XB ?TB ?D ?_ ?k1 ?k2 ?k3; (case x => assumption); (case K => assumption); (case XB => assumption); (case TB => assumption); (case D => assumption); (case k1 => exact rfl); (case k2 => exact rfl); (case k3 => exact rfl); k_whole); intro h' g' t' dx' tk' mt' tb' sl' tk2' T' F' N' B' X' P' D'))
  k_with "getAttr ref" => ((k_dflt (refine' get_message ?k1 ?k2 ?k3 ?k4 ?k5 ?_; (case k1 => k_asm); (case k2 => k_asm); (case k3 => k_asm); (case k4 => exact List.Mem.head _); (case k5 => exact List.Mem.tail _ (List.Mem.head _)); k_whole)))
  intro dp un gd cn cs ad ccd outer A₀ base h₀ L m s Q E B F X N T hk XB TB D hdp hun hret
  refine wpAny_call ?_
  k_dflt (refine' code_defS ?k1 ?k2 ?k3 ?k4 ?k5 ?XB ?TB ?D ?T0 ?kA ?k6 ?k7 ?k8 ?k9 ?kB ?_ ?cK ?c2 ?c3 ?c4 ?c5; (case kA => exact rfl); (case k2 => k_asm); (case k1 => k_asm); (case XB => assumption); (case TB => assumption); (case D => assumption); (case T0 => exact KtsTurn.refl); (case k3 => k_asm); (case k4 => k_asm); (case k5 => k_asm); (case k6 => k_is); (case k7 => k_is); (case k8 => ktr_room); (case k9 => exact BindsTo.of_eq rfl); (case kB => exact locs rfl); (case cK => assumption); (case c2 => exact rfl); (case c3 => exact rfl); (case c4 => exact rfl); (case c5 => decide); k_whole; intro g' L' h' FG' F' N' B' X' T' D'; (try dsimp only); (try k_fold))
  k_steps
  k_dflt (refine' Hf _ _ _ _ _ _ _ _ _ _ _ _ _ _ _ _ _ ?k1 ?k2 ?k3 ?k4 ?k5 ?kK ?kd ?ku (fun n9 d9 e9 r9 ex9 h9 tk9 F9 N9 G9 => ?_) (fun e9 x9 h9 tk9 X9 => ?_); (case k1 => k_asm); (case k2 => k_asm); (case k3 => k_asm); (case k4 => k_asm); (case k5 => k_asm); (case kK => exact rfl); (case kd => ktr_room); (case ku => ktr_units))
  · k_steps
    subst e9
    first
      | exact hret _ _ h₀ _ _ KtsTurn.refl B X T D (by assumption) (by assumption) (.frac G9)
      | exact hret _ _ _ _ _ (by assumption) (by assumption) (by assumption) (by assumption) (by assumption) (by assumption) (by assumption) (.frac G9)
  · k_steps
    subst e9
    first
      | exact hret _ [_, _] _ _ _ (by assumption) (by assumption) (by assumption) (by assumption) (by assumption) (by assumption) (by assumption) .text
      | exact hret _ [_, _] h₀ _ _ KtsTurn.refl B X T D (by assumption) (by assumption) .text
end
end Mine
end

section
open PySem PySem.W PyProof.Rows PySem.Calls PySem.Spec
namespace Mine

abbrev binO (S : Addr) (k : Int) (tb : Tok) (c : Nat) : Obj := W.listOf #[.ref S, .int k tb] c
abbrev RetS (h₀ : Heap) (L : Addr) (m : Str → Option Value) (B S : Addr) (k : Int) (rest : List (Addr × Obj)) (s : Shared) (Q : Value → Shared → Prop) (limit : Int) : Prop :=
  ∀ (r : Int) (t tb' : Tok) (c' : Nat) (h' : Heap) (tk' : Nat), 0 ≤ r → r < limit → Fr h₀ L h' m → News h₀ L h' ((B, binO S (k + 1) tb' c') :: rest) → Q (.int r t) { s with heap := h', toks := tk' }
abbrev CtrS (w : World) (p : Program) (loose : List Str) (mean : ExcName → Option Value) (mg mb : Str → Option Value) (f : Addr) (vs : List Value) (B S : Addr) (k : Int) (tb : Tok) (c : Nat) (rest : List (Addr × Obj)) (D U : Nat) (limit : Int) : Prop :=
  ∀ (dp un : Nat) (gd : Option (List Code)) (cn : Str) (cs : Scope) (a : Addr) (ccd : Value) (cl : List (Str × Addr)) (outer : List Env) (A₀ : Around) (base h₀ : Heap) (L : Addr) (m : Str → Option Value) (s : Shared) (Q E : Value → Shared → Prop),
    Below A₀ base outer h₀ → Fr h₀ L s.heap m → (hd.heap_39 w.params).In h₀ → News h₀ L s.heap ((B, binO S k tb c) :: rest) → Top p loose mean mg mb h₀ → cs.kind = .function →
    dp + D < recursionLimit → un + U < cLine → RetS h₀ L m B S k rest s Q limit →
    wpAny (model PG w) (ktrTop dp un gd cn cs L a ccd cl outer) (call (.ref f) vs) Q E s
section
variable {w : World} {p : Program} {loose : List Str} {mean : ExcName → Option Value} {mg mb : Str → Option Value}

local macro_rules | `(tactic| k_all) => `(tactic| assumption)
set_option maxHeartbeats 4000000 in
theorem scoop0_ctr {B S : Addr} {k limit : Int} {tb tl : Tok} {c c' : Nat} {ws : List Value} {ns : List Int} {rest : List (Addr × Obj)} (hI : IntsAre ws ns) (hlen : ns.length ≤ 100) (hk0 : 0 ≤ k) (hlim : 0 < limit)
    (hne : ∀ q ∈ (S, W.listOf ws.toArray c') :: rest, q.1 ≠ B) :
    CtrS w p loose mean mg mb 169 [.ref B, .int limit tl] B S k tb c ((S, W.listOf ws.toArray c') :: rest) 3 30 limit := by
  k_with_none
  k_with "mem" => (first | assumption | exact List.Mem.head _ | (refine List.Mem.tail _ ?_; walk_at "mem"))
  intro dp un gd cn cs ad ccd cl outer A₀ base h₀ L m s Q E B' F X N T hk hdp hun hret
  refine wpAny_call ?_
  k_dflt ktr_enter
  k_steps
  · exact hret 0 _ _ _ _ _ (Int.le_refl _) hlim (by assumption) (by assumption)
  · exact hret _ _ _ _ _ _ (fmod_range hlim).1 (fmod_range hlim).2 (by assumption) (by assumption)
theorem scoop_ctr {B S : Addr} {k limit : Int} {tb tl : Tok} {c c' : Nat} {ws : List Value} {ns : List Int} {rest : List (Addr × Obj)} (hI : IntsAre ws ns) (hlen : ns.length ≤ 100) (hk0 : 0 ≤ k) (hlim : 0 < limit)
    (hS : (S, W.listOf ws.toArray c') ∈ rest) (hne : ∀ q ∈ rest, q.1 ≠ B) : CtrS w p loose mean mg mb 169 [.ref B, .int limit tl] B S k tb c rest 3 30 limit := by
  intro dp un gd cn cs ad ccd cl outer A₀ base h₀ L m s Q E B' F X N T hk hdp hun hret
  have N₁ : News h₀ L s.heap ((B, binO S k tb c) :: (S, W.listOf ws.toArray c') :: rest) := fun q hq => by
    rcases List.mem_cons.mp hq with rfl | hq
    · exact N _ (.head _)
    · rcases List.mem_cons.mp hq with rfl | hq
      · exact N _ (.tail _ hS)
      · exact N _ (.tail _ hq)
  refine scoop0_ctr hI hlen hk0 hlim (fun q hq => ?_) dp un gd cn cs ad ccd cl outer A₀ base h₀ L m s Q E B' F X N₁ T hk hdp hun (fun r t tb' c'' h' tk' h1 h2 F' N' => hret r t tb' c'' h' tk' h1 h2 F' (news_d1 N'))
  rcases List.mem_cons.mp hq with rfl | hq
  · exact hne _ hS
  · exact hne _ hq
end
end Mine
end

section
open PySem PySem.W PyProof.Rows PySem.Calls PySem.Spec
namespace Mine

theorem ne_l1 {a b : Addr} {P : Prop} (h : b < a ∧ P) : a ≠ b := Nat.ne_of_gt h.1
theorem news_swap {h₀ h : Heap} {L : Addr} {a b : Addr × Obj} {news : List (Addr × Obj)} (N : News h₀ L h (a :: b :: news)) : News h₀ L h (b :: a :: news) := fun q hq => by
  rcases List.mem_cons.mp hq with rfl | hq
  · exact N _ (.tail _ (.head _))
  · rcases List.mem_cons.mp hq with rfl | hq
    · exact N _ (.head _)
    · exact N _ (.tail _ (.tail _ hq))
theorem news_swap3 {h₀ h : Heap} {L : Addr} {a b c : Addr × Obj} {news : List (Addr × Obj)} (N : News h₀ L h (a :: b :: c :: news)) : News h₀ L h (c :: a :: b :: news) := fun q hq => by
  rcases List.mem_cons.mp hq with rfl | hq
  · exact N _ (.tail _ (.tail _ (.head _)))
  · rcases List.mem_cons.mp hq with rfl | hq
    · exact N _ (.head _)
    · rcases List.mem_cons.mp hq with rfl | hq
      · exact N _ (.tail _ (.head _))
      · exact N _ (.tail _ (.tail _ (.tail _ hq)))
theorem ints_at : ∀ {vs : List Value} {ns : List Int} (_ : IntsAre vs ns) {k : Nat} (_ : k < ns.length), ∃ n t, vs[k]? = some (.int n t) ∧ n ∈ ns
  | _, _, .nil, _, h => absurd h (Nat.not_lt_zero _)
  | _, _, .cons n t r, 0, _ => ⟨n, t, rfl, .head _⟩
  | _, _, .cons n t r, k + 1, h => by
    obtain ⟨n', t', e, m⟩ := ints_at r (Nat.lt_of_succ_lt_succ h)
    exact ⟨n', t', e, .tail _ m⟩
/-- every int of the list lies within -/
def within (lo hi : Int) : List Int → Bool
  | [] => true
  | n :: r => decide (lo ≤ n) && decide (n ≤ hi) && within lo hi r
theorem within_mem {lo hi : Int} : ∀ {ns : List Int}, within lo hi ns = true → ∀ n ∈ ns, lo ≤ n ∧ n ≤ hi
  | _ :: _, h, n, hm => by
    simp only [within, Bool.and_eq_true, decide_eq_true_eq] at h
    rcases List.mem_cons.mp hm with rfl | hm
    · exact h.1
    · exact within_mem h.2 n hm
theorem item_menu {prog : Program} {w : World} {A : Around} {E : Value → Shared → Prop} {s : Shared} {h₀ : Heap} {L q : Addr} {news : List (Addr × Obj)} {c : Nat} {lo hi r : Int} {u : Tok} {value slice : PySem.Expr} {vs : List Value} {ns : List Int} {Q : Value → Shared → Prop}
    (N : News h₀ L s.heap news) (hm : (q, W.listOf vs.toArray c) ∈ news) (hI : IntsAre vs ns) (hb : within lo hi ns = true) (h0 : 0 ≤ r) (h1 : r < (ns.length : Int) ∧ ns.length < 100)
    (h : ∀ f t, lo ≤ f → f ≤ hi → Q (.int f t) s)
    (hs : subscripted slice false (.ref q) (.int r u) = operate [.ref q, .int r u] (getItem (.ref q) (.int r u)) := by with_unfolding_all rfl) : wpAny (model prog w) A (subscriptTail value slice (.ref q) (.int r u)) Q E s := by
  obtain ⟨f, t, e, m⟩ := ints_at hI (k := r.toNat) (by omega)
  obtain ⟨b1, b2⟩ := within_mem hb f m
  have hl : s.heap.IsList q vs.toArray := News.isList N hm
  exact tail_any hl.typeIs slot_list_getitem.lookup (wpAny_getItem_list hl h0 (by omega) (by simpa using e) (h f t b1 b2)) hs
abbrev RetP (h₀ : Heap) (L : Addr) (m : Str → Option Value) (B S : Addr) (k : Int) (rest : List (Addr × Obj)) (s : Shared) (Q : Value → Shared → Prop) : Prop :=
  ∀ (r : Int) (t tb' : Tok) (c' : Nat) (h' : Heap) (tk' : Nat), 1 ≤ r → r ≤ 99 * ((10 ^ 2400 : Nat) : Int) → Fr h₀ L h' m → News h₀ L h' ((B, binO S (k + 1 + 1) tb' c') :: rest) → Q (.int r t) { s with heap := h', toks := tk' }
abbrev CtrP (w : World) (p : Program) (loose : List Str) (mean : ExcName → Option Value) (mg mb : Str → Option Value) (f : Addr) (vs : List Value) (B S : Addr) (k : Int) (tb : Tok) (c : Nat) (rest : List (Addr × Obj)) (D U : Nat) : Prop :=
  ∀ (dp un : Nat) (gd : Option (List Code)) (cn : Str) (cs : Scope) (a : Addr) (ccd : Value) (cl : List (Str × Addr)) (outer : List Env) (A₀ : Around) (base h₀ : Heap) (L : Addr) (m : Str → Option Value) (s : Shared) (Q E : Value → Shared → Prop),
    Below A₀ base outer h₀ → Fr h₀ L s.heap m → (hd.heap_39 w.params).In h₀ → News h₀ L s.heap ((B, binO S k tb c) :: rest) → Top p loose mean mg mb h₀ → cs.kind = .function →
    dp + D < recursionLimit → un + U < cLine → RetP h₀ L m B S k rest s Q →
    wpAny (model PG w) (ktrTop dp un gd cn cs L a ccd cl outer) (call (.ref f) vs) Q E s
theorem pow_part {f : Int} (h0 : 0 ≤ f) (h1 : f ≤ 2400) : ((PySem.Builtin.Int.intBits 10 : Nat) : Int) * f ≤ 2 ^ 27 := by
  have e : PySem.Builtin.Int.intBits 10 = 4 := by decide +kernel
  rw [e]; omega
theorem small_bits {x : Int} (h0 : 0 ≤ x) (h1 : x ≤ 1000) : IntMulOk y x := .of_right (by
  unfold PySem.Builtin.Int.intBits
  split
  · omega
  · rename_i hx
    have : x ≠ 0 := by simpa using hx
    have := (Nat.log2_lt (n := x.natAbs) (k := 10) (by omega)).mpr (by omega)
    omega)
theorem part_ok {f r : Int} (h0 : 0 ≤ f) (h1 : f ≤ 2400) (r0 : 0 ≤ r) (r1 : r < 99) : 1 ≤ (10 : Int) ^ f.toNat * (1 + r) ∧ (10 : Int) ^ f.toNat * (1 + r) ≤ 99 * ((10 ^ 2400 : Nat) : Int) := by
  obtain ⟨k, rfl⟩ := Int.eq_ofNat_of_zero_le h0
  obtain ⟨j, rfl⟩ := Int.eq_ofNat_of_zero_le r0
  rw [Int.toNat_natCast, ten_cast]
  have a : 1 ≤ 10 ^ k := Nat.one_le_pow _ _ (by decide)
  have b : 10 ^ k ≤ 10 ^ 2400 := Nat.pow_le_pow_right (by decide) (by omega)
  generalize 10 ^ 2400 = M at b ⊢
  generalize 10 ^ k = p at a b ⊢
  have c : p * (1 + j) ≤ M * 99 := Nat.mul_le_mul b (by omega)
  have d : 1 * 1 ≤ p * (1 + j) := Nat.mul_le_mul a (by omega)
  have e : (p : Int) * (1 + (j : Int)) = ((p * (1 + j) : Nat) : Int) := by rw [Int.natCast_mul, Int.natCast_add]; rfl
  rw [e]
  omega
theorem part_lo {f r : Int} (h0 : 0 ≤ f) (h1 : f ≤ 2400) (r0 : 0 ≤ r) (r1 : r < 99) : 1 ≤ (10 : Int) ^ f.toNat * (1 + r) := (part_ok h0 h1 r0 r1).1
theorem part_hi {f r : Int} (h0 : 0 ≤ f) (h1 : f ≤ 2400) (r0 : 0 ≤ r) (r1 : r < 99) : (10 : Int) ^ f.toNat * (1 + r) ≤ 99 * ((10 ^ 2400 : Nat) : Int) := (part_ok h0 h1 r0 r1).2
section
variable {w : World} {p : Program} {loose : List Str} {mean : ExcName → Option Value} {mg mb : Str → Option Value}

set_option maxHeartbeats 4000000 in
theorem part_ctr {B S : Addr} {k : Int} {tb : Tok} {c c' : Nat} {ws : List Value} {ns : List Int} {rest : List (Addr × Obj)} (hI : IntsAre ws ns) (hlen : ns.length ≤ 100) (hk0 : 0 ≤ k)
    (hS : (S, W.listOf ws.toArray c') ∈ rest) (hne : ∀ q ∈ rest, q.1 ≠ B) : CtrP w p loose mean mg mb 197 [.ref B] B S k tb c rest 6 60 := by
  k_with_none
  k_with "mem" => (first | assumption | exact List.Mem.head _ | (refine List.Mem.tail _ ?_; walk_at "mem"))
  k_with "ne" => (first | assumption | (refine List.forall_mem_cons.mpr ⟨?_, ?_⟩; (first | exact ne_l1 (by assumption) | assumption); walk_at "ne"))
  k_with "call ref" => (((with_reducible show wpAny _ _ (call (Value.ref 169) [Value.ref _, Value.int _ _]) _ _ _); k_dflt (refine' scoop_ctr ?i1 ?i2 ?i3 ?i4 ?i5 ?i6 _ _ _ _ _ _ _ _ _ _ _ _ _ _ _ _ _ ?k1 ?k2 ?k3 ?k4 ?k5 ?kK ?kd ?ku (fun r9 t9 tb9 c9 h9 tk9 lo9 hi9 F9 N9 => ?_); (case k4 => first | assumption | exact news_swap (by assumption) | exact news_swap3 (by assumption)); (case k1 => k_asm); (case k2 => k_asm); (case k3 => k_asm); (case k5 => k_asm); (case kK => exact rfl); (case kd => ktr_room); (case ku => ktr_units); (case i1 => assumption); (case i2 => assumption); (case i3 => omega); (case i4 => decide); (case i5 => walk_at "mem"); (case i6 => walk_at "ne"); k_whole); (try dsimp only)))
  k_with "ints" => (first | exact IntsAre.nil | exact IntsAre.cons _ _ (by walk_at "ints"))
  k_with "subscriptTail" => (((with_reducible show wpAny _ _ (subscriptTail (Expr.List _ _) _ (Value.ref _) (Value.int _ _)) _ _ _); k_dflt (refine' item_menu (lo := 0) (hi := 2400) ?k1 ?k2 ?k3 ?k4 ?k5 ?k6 ?_; (case k1 => k_asm); (case k2 => walk_at "mem"); (case k3 => walk_at "ints"); (case k4 => decide); (case k5 => assumption); (case k6 => (simp only [List.length_cons, List.length_nil]; omega)); k_whole); intro f' t' hf1 hf2))
  k_with "binaryOp Pow int int" => ((refine pow_int (by assumption) (pow_part (by assumption) (by assumption)) ?_))
  k_with "binaryOp Mult int int" => ((refine mul_int ?_ (small_bits (by omega) (by omega))))
  intro dp un gd cn cs ad ccd cl outer A₀ base h₀ L m s Q E B' F X N T hk hdp hun hret
  refine wpAny_call ?_
  k_dflt ktr_enter
  k_steps
  exact hret _ _ _ _ _ _ (part_lo (by assumption) (by assumption) (by assumption) (by assumption)) (part_hi (by assumption) (by assumption) (by assumption) (by assumption)) (by assumption) (news_d1 (by assumption))
end
end Mine
end

section
open PySem PySem.W PyProof.Rows PySem.Calls PySem.Spec
namespace Mine

theorem ten_two : 99 * 10 ^ 2400 < 2 ^ 8100 := by
  have a : 10 ^ 2400 ≤ 2 ^ 8000 := by
    have : (10 ^ 3) ^ 800 ≤ (2 ^ 10) ^ 800 := Nat.pow_le_pow_left (by decide) 800
    rw [← Nat.pow_mul, ← Nat.pow_mul] at this
    exact this
  have b : (2 : Nat) ^ 8100 = 2 ^ 8000 * 2 ^ 100 := by rw [← Nat.pow_add]
  rw [b]
  have c : 99 < 2 ^ 100 := by decide
  generalize 10 ^ 2400 = u at a ⊢
  have d : 0 < 2 ^ 8000 := Nat.pow_pos (by decide)
  generalize 2 ^ 8000 = v at a d ⊢
  calc 99 * u ≤ 99 * v := Nat.mul_le_mul_left _ a
    _ = v * 99 := Nat.mul_comm _ _
    _ < v * 2 ^ 100 := Nat.mul_lt_mul_of_pos_left c d
def FracOk (x0 x1 : Int) : Prop := x0 ≠ 0 ∧ x0.natAbs < 2 ^ 8100 ∧ 0 < x1 ∧ x1 < 2 ^ 45
theorem gcd_log {n d : Int} {K : Nat} (h0 : d ≠ 0) (h : d.natAbs < 2 ^ K) (hK : K ≤ 9000) : ((Int.gcd n d : Nat) : Int).natAbs.log2 < 9000 := by
  rw [Int.natAbs_natCast]
  have a := Int.gcd_le_natAbs_right n h0
  have b := Int.gcd_pos_of_ne_zero_right n h0
  have c := (Nat.log2_lt (by omega : Int.gcd n d ≠ 0)).mpr (Nat.lt_of_le_of_lt a h)
  omega
theorem gcd_small {n d : Int} (h1 : 1 ≤ d) (h2 : d < 2 ^ 45) : ((Int.gcd n d : Nat) : Int).natAbs.log2 < 9000 := gcd_log (K := 45) (by omega) (by omega) (by decide)
theorem d_ok {j : Int} (h0 : 0 ≤ j) (h1 : j < 40) : 1 ≤ (2 : Int) ^ j.toNat * 3 ∧ (2 : Int) ^ j.toNat * 3 < 2 ^ 45 := by
  obtain ⟨k, rfl⟩ := Int.eq_ofNat_of_zero_le h0
  rw [Int.toNat_natCast]
  have e : (2 : Int) ^ k = ((2 ^ k : Nat) : Int) := by rw [Int.natCast_pow]; rfl
  rw [e]
  have a : 1 ≤ 2 ^ k := Nat.one_le_pow _ _ (by decide)
  have b : 2 ^ k ≤ 2 ^ 40 := Nat.pow_le_pow_right (by decide) (by omega)
  omega
theorem d_lo {j : Int} (h0 : 0 ≤ j) (h1 : j < 40) : 1 ≤ (2 : Int) ^ j.toNat * 3 := (d_ok h0 h1).1
theorem d_hi {j : Int} (h0 : 0 ≤ j) (h1 : j < 40) : (2 : Int) ^ j.toNat * 3 < 2 ^ 45 := (d_ok h0 h1).2
theorem d_ne {d : Int} (h : 1 ≤ d) : d ≠ 0 := by omega
theorem pow_two_ok {f : Int} (h0 : 0 ≤ f) (h1 : f < 40) : ((PySem.Builtin.Int.intBits 2 : Nat) : Int) * f ≤ 2 ^ 27 := by
  have e : PySem.Builtin.Int.intBits 2 = 2 := by decide +kernel
  rw [e]; omega
theorem frac_ok {n d : Int} (h0 : n ≠ 0) (hn : n.natAbs ≤ 99 * 10 ^ 2400) (h1 : 1 ≤ d) (h2 : d < 2 ^ 45) : FracOk (redN n d) (redD n d) := by
  have hg := Int.gcd_pos_of_ne_zero_right n (show d ≠ 0 by omega)
  have g0 : (0 : Int) ≤ ((Int.gcd n d : Nat) : Int) := Int.natCast_nonneg _
  obtain ⟨u, hu⟩ := Int.gcd_dvd_left n d
  obtain ⟨v, hv⟩ := Int.gcd_dvd_right n d
  have hgn : ((Int.gcd n d : Nat) : Int) ≠ 0 := by omega
  unfold redN redD
  rw [if_neg (by omega), if_neg (by omega), Int.fdiv_eq_ediv_of_nonneg _ g0, Int.fdiv_eq_ediv_of_nonneg _ g0]
  generalize ((Int.gcd n d : Nat) : Int) = g at *
  have gp : 0 < g := by omega
  subst hu hv
  rw [Int.mul_ediv_cancel_left _ hgn, Int.mul_ediv_cancel_left _ hgn]
  have u0 : u ≠ 0 := fun z => h0 (by rw [z, Int.mul_zero])
  have v0 : 0 < v := by
    rcases Int.lt_or_le 0 v with h | h
    · exact h
    · have := Int.mul_nonpos_of_nonneg_of_nonpos (Int.le_of_lt gp) h
      omega
  have un : u.natAbs ≤ (g * u).natAbs := by
    rw [Int.natAbs_mul]
    exact Nat.le_mul_of_pos_left _ (by omega)
  have vn : v.natAbs ≤ (g * v).natAbs := by
    rw [Int.natAbs_mul]
    exact Nat.le_mul_of_pos_left _ (by omega)
  exact ⟨u0, Nat.lt_of_le_of_lt (Nat.le_trans un hn) ten_two, v0, by omega⟩
theorem frac_pos {r d : Int} (h1 : 1 ≤ r) (h2 : r ≤ 99 * ((10 ^ 2400 : Nat) : Int)) (hd1 : 1 ≤ d) (hd2 : d < 2 ^ 45) : FracOk (redN r d) (redD r d) :=
  frac_ok (by omega) (by generalize 10 ^ 2400 = z at h2 ⊢; omega) hd1 hd2
theorem frac_neg {r d : Int} (h1 : 1 ≤ r) (h2 : r ≤ 99 * ((10 ^ 2400 : Nat) : Int)) (hd1 : 1 ≤ d) (hd2 : d < 2 ^ 45) : FracOk (redN (-r) d) (redD (-r) d) :=
  frac_ok (by omega) (by generalize 10 ^ 2400 = z at h2 ⊢; omega) hd1 hd2
abbrev RetFr (h₀ : Heap) (L : Addr) (m : Str → Option Value) (B S : Addr) (rest : List (Addr × Obj)) (s : Shared) (Q : Value → Shared → Prop) : Prop :=
  ∀ (q : Addr) (x0 x1 : Int) (a b tb' : Tok) (k' : Int) (c' : Nat) (h' : Heap) (tk' : Nat), FracOk x0 x1 → 0 ≤ k' → Fr h₀ L h' m → News h₀ L h' ((q, tupO x0 x1 a b) :: (B, binO S k' tb' c') :: rest) → Q (.ref q) { s with heap := h', toks := tk' }
abbrev CtrFr (w : World) (p : Program) (loose : List Str) (mean : ExcName → Option Value) (mg mb : Str → Option Value) (f : Addr) (vs : List Value) (B S : Addr) (k : Int) (tb : Tok) (c : Nat) (rest : List (Addr × Obj)) (D U : Nat) : Prop :=
  ∀ (dp un : Nat) (gd : Option (List Code)) (cn : Str) (cs : Scope) (a : Addr) (ccd : Value) (cl : List (Str × Addr)) (outer : List Env) (A₀ : Around) (base h₀ : Heap) (L : Addr) (m : Str → Option Value) (s : Shared) (Q E : Value → Shared → Prop),
    Below A₀ base outer h₀ → Fr h₀ L s.heap m → (hd.heap_39 w.params).In h₀ → News h₀ L s.heap ((B, binO S k tb c) :: rest) → Top p loose mean mg mb h₀ → cs.kind = .function →
    dp + D < recursionLimit → un + U < cLine → RetFr h₀ L m B S rest s Q →
    wpAny (model PG w) (ktrTop dp un gd cn cs L a ccd cl outer) (call (.ref f) vs) Q E s
section
variable {w : World} {p : Program} {loose : List Str} {mean : ExcName → Option Value} {mg mb : Str → Option Value}

set_option maxHeartbeats 4000000 in
theorem fraction_ctr {B S : Addr} {k : Int} {tb : Tok} {c c' : Nat} {ws : List Value} {ns : List Int} {rest : List (Addr × Obj)} (hI : IntsAre ws ns) (hlen : ns.length ≤ 100) (hk0 : 0 ≤ k)
    (hS : (S, W.listOf ws.toArray c') ∈ rest) (hne : ∀ q ∈ rest, q.1 ≠ B) : CtrFr w p loose mean mg mb 204 [.ref B] B S k tb c rest 10 100 := by
  k_with_none
  k_with "mem" => (first | assumption | exact List.Mem.head _ | (refine List.Mem.tail _ ?_; walk_at "mem"))
  k_with "ne" => (first | assumption | (refine List.forall_mem_cons.mpr ⟨?_, ?_⟩; (first | exact ne_l1 (by assumption) | assumption); walk_at "ne"))
  k_with "call ref" => (((with_reducible show wpAny _ _ (call (Value.ref 169) [Value.ref _, Value.int _ _]) _ _ _); k_dflt (refine' scoop_ctr ?i1 ?i2 ?i3 ?i4 ?i5 ?i6 _ _ _ _ _ _ _ _ _ _ _ _ _ _ _ _ _ ?k1 ?k2 ?k3 ?k4 ?k5 ?kK ?kd ?ku (fun r9 t9 tb9 c9 h9 tk9 lo9 hi9 F9 N9 => ?_); (case k4 => first | assumption | exact news_swap (by assumption) | exact news_swap3 (by assumption)); (case k1 => k_asm); (case k2 => k_asm); (case k3 => k_asm); (case k5 => k_asm); (case kK => exact rfl); (case kd => ktr_room); (case ku => ktr_units); (case i1 => assumption); (case i2 => assumption); (case i3 => omega); (case i4 => decide); (case i5 => walk_at "mem"); (case i6 => walk_at "ne"); k_whole); (try dsimp only)))
  k_with "call ref" => (((with_reducible show wpAny _ _ (call (Value.ref 197) [Value.ref _]) _ _ _); k_dflt (refine' part_ctr ?i1 ?i2 ?i3 ?i5 ?i6 _ _ _ _ _ _ _ _ _ _ _ _ _ _ _ _ _ ?k1 ?k2 ?k3 ?k4 ?k5 ?kK ?kd ?ku (fun r9 t9 tb9 c9 h9 tk9 lo9 hi9 F9 N9 => ?_); (case k4 => first | assumption | exact news_swap (by assumption)); (case k1 => k_asm); (case k2 => k_asm); (case k3 => k_asm); (case k5 => k_asm); (case kK => exact rfl); (case kd => ktr_room); (case ku => ktr_units); (case i1 => assumption); (case i2 => assumption); (case i3 => omega); (case i5 => walk_at "mem"); (case i6 => walk_at "ne"); k_whole); (try dsimp only)))
  k_with "call ref" => (((with_reducible show wpAny _ _ (call (Value.ref 176) [Value.int _ _, Value.int _ _]) _ _ _); k_dflt (refine' reduced_ctr _ _ _ _ _ ?h0 ?hg _ _ _ _ _ _ _ _ _ _ _ _ _ _ _ _ _ ?k1 ?k2 ?k3 ?k4 ?k5 ?kK ?kd ?ku (fun q9 h9 tk9 a9 b9 F9 N9 => ?_); (case k1 => k_asm); (case k2 => k_asm); (case k3 => k_asm); (case k4 => k_asm); (case k5 => k_asm); (case kK => exact rfl); (case kd => ktr_room); (case ku => ktr_units); (case h0 => walk_at "dne"); (case hg => walk_at "dgcd"); k_whole); (try dsimp only)))
  k_with "dne" => (first | decide | exact d_ne (d_lo (by assumption) (by assumption)))
  k_with "dgcd" => (first | exact gcd_small (by decide) (by decide) | exact gcd_small (d_lo (by assumption) (by assumption)) (d_hi (by assumption) (by assumption)))
  k_with "binaryOp Pow int int" => ((refine pow_int (by assumption) (pow_two_ok (by assumption) (by assumption)) ?_))
  k_with "binaryOp Mult int int" => ((refine mul_int ?_ (small_bits (by decide) (by decide))))
  intro dp un gd cn cs ad ccd cl outer A₀ base h₀ L m s Q E B' F X N T hk hdp hun hret
  refine wpAny_call ?_
  k_dflt ktr_enter
  k_steps
  all_goals (
    refine' hret _ _ _ _ _ _ _ _ _ _ ?ok ?kk ?hF ?hN
    (case hF => assumption)
    (case hN => assumption)
    (case kk => omega)
    (case ok => first
      | exact frac_pos (by assumption) (by assumption) (by decide) (by decide)
      | exact frac_neg (by assumption) (by assumption) (by decide) (by decide)
      | exact frac_pos (by assumption) (by assumption) (d_lo (by assumption) (by assumption)) (d_hi (by assumption) (by assumption))
      | exact frac_neg (by assumption) (by assumption) (d_lo (by assumption) (by assumption)) (d_hi (by assumption) (by assumption))))
end
end Mine
end

section
open PySem PySem.W PyProof.Rows PySem.Calls PySem.Spec
namespace Mine

theorem ktn_subA' {news tl : List (Addr × Obj)} : ∀ p ∈ news, p ∈ tl ++ news := fun _ h => List.mem_append.mpr (.inr h)
theorem ktn_subAA {news tl tl' : List (Addr × Obj)} : ∀ p ∈ news, p ∈ tl' ++ (tl ++ news) := fun _ h => List.mem_append.mpr (.inr (List.mem_append.mpr (.inr h)))
theorem FracOk.sm {x0 x1 : Int} (h : FracOk x0 x1) : Sm x0 ∧ Sm x1 := by
  obtain ⟨_, a, b, c⟩ := h
  have e : (2 : Nat) ^ 8100 < 2 ^ 30000 := Nat.pow_lt_pow_right (by decide) (by decide)
  have e' : (2 : Nat) ^ 45 < 2 ^ 30000 := Nat.pow_lt_pow_right (by decide) (by decide)
  exact ⟨Nat.lt_trans a e, Nat.lt_trans (by omega) e'⟩
theorem log_den {a x1 y1 : Int} (h0 : 0 < x1) (h1 : x1 < 2 ^ 45) (k0 : 0 < y1) (k1 : y1 < 2 ^ 45) : ((Int.gcd a (x1 * y1) : Nat) : Int).natAbs.log2 < 9000 := by
  refine gcd_log (K := 90) (Int.mul_ne_zero (by omega) (by omega)) ?_ (by decide)
  rw [Int.natAbs_mul]
  have : x1.natAbs * y1.natAbs < 2 ^ 45 * 2 ^ 45 := Nat.mul_lt_mul'' (by omega) (by omega)
  exact this
theorem log_div {a x1 y0 : Int} (h0 : 0 < x1) (h1 : x1 < 2 ^ 45) (k0 : y0 ≠ 0) (k1 : y0.natAbs < 2 ^ 8100) : ((Int.gcd a (x1 * y0) : Nat) : Int).natAbs.log2 < 9000 := by
  refine gcd_log (K := 8145) (Int.mul_ne_zero (by omega) k0) ?_ (by decide)
  rw [Int.natAbs_mul]
  have e : (2 : Nat) ^ 8145 = 2 ^ 45 * 2 ^ 8100 := by rw [← Nat.pow_add]
  rw [e]
  exact Nat.mul_lt_mul'' (by omega) k1
section
variable {w : World} {p : Program} {loose : List Str} {mean : ExcName → Option Value} {mg mb : Str → Option Value}

set_option maxHeartbeats 4000000 in
theorem sums_ctr {qx qy : Addr} {x0 x1 y0 y1 : Int} {xa xb ya yb : Tok} {news : List (Addr × Obj)} (hx : (qx, tupO x0 x1 xa xb) ∈ news) (hy : (qy, tupO y0 y1 ya yb) ∈ news) (ox : FracOk x0 x1) (oy : FracOk y0 y1) :
    CtrT w p loose mean mg mb 211 [.ref qx, .ref qy] news 40 300 (fun _ r => r = .bool true) := by
  k_with_none
  k_with "mem" => (first | assumption | exact List.Mem.head _ | (refine List.Mem.tail _ ?_; walk_at "mem") | (refine List.mem_append.mpr (Or.inr ?_); walk_at "mem"))
  k_with "subscriptTail Name Constant ref int" => (((with_reducible show wpAny _ _ (subscriptTail _ _ (Value.ref _) (Value.int 0 _)) _ _ _); k_dflt (refine' item_tup0 ?N ?hx ?_; (case N => k_asm); (case hx => walk_at "mem"); k_whole)))
  k_with "subscriptTail Name Constant ref int" => (((with_reducible show wpAny _ _ (subscriptTail _ _ (Value.ref _) (Value.int 1 _)) _ _ _); k_dflt (refine' item_tup1 ?N ?hx ?_; (case N => k_asm); (case hx => walk_at "mem"); k_whole)))
  k_with "binaryOp Mult int int" => ((with_reducible refine mul_int ?_ (mulOk (by assumption) (by assumption))))
  k_with "call ref" => (((with_reducible show wpAny _ _ (call (Value.ref 190) [Value.ref 99, _, _]) _ _ _); k_dflt (refine' told_ctr (f := 99) ?hkp (add_ctr ?hx ?hy ?h1 ?h2 ?h3 ?h4 ?h5 ?h6 ?h7) _ _ _ _ _ _ _ _ _ _ _ _ _ _ _ _ ?k1 ?k2 ?k3 ?k4 ?k5 ?kK ?XB ?TB ?D ?kd ?ku (fun r9 ex9 g9 h9 tk9 T9 B9 X9 P9 D9 F9 N9 R9 => ?_); (case k2 => k_asm); (case k1 => k_asm); (case k3 => k_asm); (case k4 => k_asm); (case k5 => k_asm); (case kK => exact rfl); (case XB => assumption); (case TB => assumption); (case D => assumption); (case kd => ktr_room); (case ku => ktr_units); (case hx => walk_at "mem"); (case hy => walk_at "mem"); (case h1 => assumption); (case h2 => assumption); (case h3 => assumption); (case h4 => assumption); (case h5 => assumption); (case h6 => assumption); (case h7 => assumption); (case hkp => k_is); k_whole); replace T9 := KtsTurn.trans (by assumption) T9; (try dsimp only)))
  k_with "call ref" => (((with_reducible show wpAny _ _ (call (Value.ref 190) [Value.ref 106, _, _]) _ _ _); k_dflt (refine' told_ctr (f := 106) ?hkp (sub_ctr ?hx ?hy ?h1 ?h2 ?h3 ?h4 ?h5 ?h6 ?h7) _ _ _ _ _ _ _ _ _ _ _ _ _ _ _ _ ?k1 ?k2 ?k3 ?k4 ?k5 ?kK ?XB ?TB ?D ?kd ?ku (fun r9 ex9 g9 h9 tk9 T9 B9 X9 P9 D9 F9 N9 R9 => ?_); (case k2 => k_asm); (case k1 => k_asm); (case k3 => k_asm); (case k4 => k_asm); (case k5 => k_asm); (case kK => exact rfl); (case XB => assumption); (case TB => assumption); (case D => assumption); (case kd => ktr_room); (case ku => ktr_units); (case hx => walk_at "mem"); (case hy => walk_at "mem"); (case h1 => assumption); (case h2 => assumption); (case h3 => assumption); (case h4 => assumption); (case h5 => assumption); (case h6 => assumption); (case h7 => assumption); (case hkp => k_is); k_whole); replace T9 := KtsTurn.trans (by assumption) T9; (try dsimp only)))
  k_with "call ref" => (((with_reducible show wpAny _ _ (call (Value.ref 190) [Value.ref 113, _, _]) _ _ _); k_dflt (refine' told_ctr (f := 113) ?hkp (mul_ctr ?hx ?hy ?h1 ?h2 ?h3 ?h4 ?h5 ?h6 ?h7) _ _ _ _ _ _ _ _ _ _ _ _ _ _ _ _ ?k1 ?k2 ?k3 ?k4 ?k5 ?kK ?XB ?TB ?D ?kd ?ku (fun r9 ex9 g9 h9 tk9 T9 B9 X9 P9 D9 F9 N9 R9 => ?_); (case k2 => k_asm); (case k1 => k_asm); (case k3 => k_asm); (case k4 => k_asm); (case k5 => k_asm); (case kK => exact rfl); (case XB => assumption); (case TB => assumption); (case D => assumption); (case kd => ktr_room); (case ku => ktr_units); (case hx => walk_at "mem"); (case hy => walk_at "mem"); (case h1 => assumption); (case h2 => assumption); (case h3 => assumption); (case h4 => assumption); (case h5 => assumption); (case h6 => assumption); (case h7 => assumption); (case hkp => k_is); k_whole); replace T9 := KtsTurn.trans (by assumption) T9; (try dsimp only)))
  k_with "call ref" => (((with_reducible show wpAny _ _ (call (Value.ref 190) [Value.ref 120, _, _]) _ _ _); k_dflt (refine' told_ctr (f := 120) ?hkp (div_ctr ?hx ?hy ?h1 ?h2 ?h3 ?h4 ?h5 ?h6 ?h7 ?h8) _ _ _ _ _ _ _ _ _ _ _ _ _ _ _ _ ?k1 ?k2 ?k3 ?k4 ?k5 ?kK ?XB ?TB ?D ?kd ?ku (fun r9 ex9 g9 h9 tk9 T9 B9 X9 P9 D9 F9 N9 R9 => ?_); (case k2 => k_asm); (case k1 => k_asm); (case k3 => k_asm); (case k4 => k_asm); (case k5 => k_asm); (case kK => exact rfl); (case XB => assumption); (case TB => assumption); (case D => assumption); (case kd => ktr_room); (case ku => ktr_units); (case hx => walk_at "mem"); (case hy => walk_at "mem"); (case h1 => assumption); (case h2 => assumption); (case h3 => assumption); (case h4 => assumption); (case h5 => assumption); (case h6 => assumption); (case h7 => assumption); (case h8 => assumption); (case hkp => k_is); k_whole); replace T9 := KtsTurn.trans (by assumption) T9; (try dsimp only)))
  k_with "call ref" => (((with_reducible show wpAny _ _ (call (Value.ref 183) [Value.int _ _, Value.int _ _]) _ _ _); k_dflt (refine' due_ctr _ _ _ _ _ ?h0 ?hg _ _ _ _ _ _ _ _ _ _ _ _ _ _ _ _ _ ?k1 ?k2 ?k3 ?k4 ?k5 ?kK ?kd ?ku (fun r9 ex9 h9 tk9 F9 N9 R9 => ?_); (case k1 => k_asm); (case k2 => k_asm); (case k3 => k_asm); (case k4 => k_asm); (case k5 => k_asm); (case kK => exact rfl); (case kd => ktr_room); (case ku => ktr_units); (case h0 => assumption); (case hg => assumption); k_whole); (try dsimp only)))
  k_with "res" => (first | assumption | exact ResAt.mono (by assumption) ktn_subA' | exact ResAt.mono (by assumption) ktn_subAA)
  k_with "compareOp NotEq" => ((k_dflt (refine' ne_res ?k1 ?k2 ?k3 ?k4 ?k5 ?k6 ?_; (case k1 => k_asm); (case k2 => k_asm); (case k3 => k_asm); (case k4 => walk_at "res"); (case k5 => walk_at "res"); (case k6 => ktr_units); k_whole); (try simp only [dat_eqv, Bool.not_true])))
  k_with "compareOp Eq" => ((k_dflt (refine' eq_res ?k1 ?k2 ?k3 ?k4 ?k5 ?k6 ?_; (case k1 => k_asm); (case k2 => k_asm); (case k3 => k_asm); (case k4 => walk_at "res"); (case k5 => walk_at "res"); (case k6 => ktr_units); k_whole); (try simp only [dat_eqv])))
  intro dp un gd cn cs ad ccd outer A₀ base h₀ L m s Q E B F X N T hk XB TB D hdp hun hret
  obtain ⟨sx0, sx1⟩ := ox.sm
  obtain ⟨sy0, sy1⟩ := oy.sm
  obtain ⟨hx0, bx0, px1, bx1⟩ := ox
  obtain ⟨hy0, by0, py1, by1⟩ := oy
  have hx1 : x1 ≠ 0 := by omega
  have hy1 : y1 ≠ 0 := by omega
  have g1 := log_den (a := x0 * y1 + y0 * x1) px1 bx1 py1 by1
  have g2 := log_den (a := x0 * y1 - y0 * x1) px1 bx1 py1 by1
  have g3 := log_den (a := x0 * y0) px1 bx1 py1 by1
  have g4 := log_div (a := x0 * y1) px1 bx1 hy0 by0
  have n1 := Int.mul_ne_zero hx1 hy1
  have n2 := Int.mul_ne_zero hx1 hy0
  clear px1 py1 bx1 by1 bx0 by0
  refine wpAny_call ?_
  k_dflt (refine' code_defS ?k1 ?k2 ?k3 ?k4 ?k5 ?XB ?TB ?D ?T0 ?kA ?k6 ?k7 ?k8 ?k9 ?kB ?_ ?cK ?c2 ?c3 ?c4 ?c5; (case kA => exact rfl); (case k2 => k_asm); (case k1 => k_asm); (case XB => assumption); (case TB => assumption); (case D => assumption); (case T0 => exact KtsTurn.refl); (case k3 => k_asm); (case k4 => k_asm); (case k5 => k_asm); (case k6 => k_is); (case k7 => k_is); (case k8 => ktr_room); (case k9 => exact BindsTo.of_eq rfl); (case kB => exact locs rfl); (case cK => assumption); (case c2 => exact rfl); (case c3 => exact rfl); (case c4 => exact rfl); (case c5 => decide); k_whole; intro g' L' h' FG' F' N' B' X' T' D'; (try dsimp only); (try k_fold))

  have T00 : KtsTurn (frs (envOf cn cs L ad ccd :: outer)) g' g' := KtsTurn.refl
  have hx' : (qx, tupO x0 x1 xa xb) ∈ news := hx
  k_steps
  rename News _ _ _ _ => kN
  refine hret _ [] _ _ _ (by assumption) (by assumption) (by assumption) (by assumption) (by assumption) (by assumption) (fun q hq => kN q ?_) rfl
  rw [List.nil_append] at hq
  walk_at "mem"
end
end Mine
end

section
namespace Mine
/-- one turn of the law's own power -/
def pstep (x0 x1 : Int) (p : Int × Int) : Int × Int := if (p.1.natAbs : Int) ≤ Most ∧ p.2 ≤ Most then (p.1 * x0, p.2 * x1) else p
theorem pstep_yes {x0 x1 a b : Int} (h1 : (a.natAbs : Int) ≤ Most) (h2 : b ≤ Most) : pstep x0 x1 (a, b) = (a * x0, b * x1) := if_pos ⟨h1, h2⟩
theorem pstep_no {x0 x1 a b : Int} (h : ¬ ((a.natAbs : Int) ≤ Most ∧ b ≤ Most)) : pstep x0 x1 (a, b) = (a, b) := if_neg h
structure Good (x0 x1 : Int) (j : Nat) (p : Int × Int) : Prop where
  it : p = (x0 ^ j, x1 ^ j) ∨ (¬ ((p.1.natAbs : Int) ≤ Most ∧ p.2 ≤ Most) ∧ p.1.natAbs ≤ x0.natAbs ^ j ∧ p.2 ≤ x1 ^ j)
  pos : 0 < p.2
theorem pow_le_next (u : Int) (h : u ≠ 0) (j : Nat) : u.natAbs ^ j ≤ u.natAbs ^ (j + 1) := Nat.pow_le_pow_right (by omega) (Nat.le_succ j)
theorem ipow_le_next (u : Int) (h : 0 < u) (j : Nat) : u ^ j ≤ u ^ (j + 1) := by
  obtain ⟨k, rfl⟩ := Int.eq_ofNat_of_zero_le (Int.le_of_lt h)
  rw [← Int.natCast_pow, ← Int.natCast_pow]
  have : k ^ j ≤ k ^ (j + 1) := Nat.pow_le_pow_right (by omega) (Nat.le_succ j)
  omega
theorem Good.step {x0 x1 : Int} {j : Nat} {p : Int × Int} (h0 : x0 ≠ 0) (h1 : 0 < x1) (g : Good x0 x1 j p) : Good x0 x1 (j + 1) (pstep x0 x1 p) := by
  obtain ⟨a, b⟩ := p
  by_cases h : (a.natAbs : Int) ≤ Most ∧ b ≤ Most
  · rcases g.it with e | ⟨n, _⟩
    · cases e
      rw [pstep_yes h.1 h.2]
      exact ⟨.inl (by rw [Int.pow_succ, Int.pow_succ]), Int.mul_pos g.pos h1⟩
    · exact absurd h n
  · rw [pstep_no h]
    refine ⟨.inr ⟨h, ?_, ?_⟩, g.pos⟩
    · refine Nat.le_trans ?_ (pow_le_next x0 h0 j)
      rcases g.it with e | ⟨_, r, _⟩
      · cases e
        exact Nat.le_of_eq (natAbs_pow' x0 j)
      · exact r
    · refine Int.le_trans ?_ (ipow_le_next x1 h1 j)
      rcases g.it with e | ⟨_, _, r⟩
      · cases e
        exact Int.le_refl _
      · exact r
theorem Good.fold {x0 x1 : Int} (h0 : x0 ≠ 0) (h1 : 0 < x1) : ∀ (ks : List Int) {j : Nat} {p : Int × Int}, Good x0 x1 j p → Good x0 x1 (j + ks.length) (ks.foldl (fun p _ => pstep x0 x1 p) p)
  | [], _, _, g => g
  | _ :: r, j, _, g => by
    have := Good.fold h0 h1 r (g.step h0 h1)
    rw [List.length_cons, show j + (r.length + 1) = j + 1 + r.length by omega]
    exact this
theorem Good.start {x0 x1 : Int} : Good x0 x1 0 (1, 1) := ⟨.inl (by rw [Int.pow_zero, Int.pow_zero]), by decide⟩
theorem Good.out {x0 x1 a b : Int} {j : Nat} (g : Good x0 x1 j (a, b)) (h : (a.natAbs : Int) ≤ Most ∧ b ≤ Most) : a = x0 ^ j ∧ b = x1 ^ j := by
  rcases g.it with e | ⟨n, _⟩
  · cases e; exact ⟨rfl, rfl⟩
  · exact absurd h n
theorem Good.over {x0 x1 a b : Int} {j : Nat} (g : Good x0 x1 j (a, b)) (h : ¬ ((a.natAbs : Int) ≤ Most ∧ b ≤ Most)) : ¬ (((x0.natAbs ^ j : Nat) : Int) ≤ Most ∧ x1 ^ j ≤ Most) := by
  intro ⟨q1, q2⟩
  rcases g.it with e | ⟨_, r1, r2⟩
  · cases e
    exact h ⟨by rw [natAbs_pow']; exact q1, q2⟩
  · exact h ⟨by omega, by omega⟩
theorem fin_no {u v : Int} (h : ¬ ((u.natAbs : Int) ≤ Most ∧ v ≤ Most)) : fin u v = none := if_neg h
theorem fin_yes {u v : Int} (h : (u.natAbs : Int) ≤ Most ∧ v ≤ Most) : fin u v = some (u, v) := if_pos h
section
variable {x0 x1 n a b : Int}
theorem powP_yes (h : 0 < n) (g : Good x0 x1 n.natAbs (a, b)) (q1 : (a.natAbs : Int) ≤ Most) (q2 : b ≤ Most) : pwr x0 x1 n = some (a, b) := by
  obtain ⟨rfl, rfl⟩ := g.out ⟨q1, q2⟩
  rw [pwr_pos (by omega), Int.toNat_natCast]
  exact fin_yes ⟨q1, q2⟩
theorem powP_no (h : 0 < n) (g : Good x0 x1 n.natAbs (a, b)) (q : ¬ ((a.natAbs : Int) ≤ Most ∧ b ≤ Most)) : pwr x0 x1 n = none := by
  rw [pwr_pos (by omega), Int.toNat_natCast]
  refine fin_no fun r => g.over q ⟨?_, r.2⟩
  rw [← natAbs_pow']; exact r.1
theorem natAbs_ipow (u : Int) (j : Nat) : ((u.natAbs : Nat) : Int) ^ j = ((u.natAbs ^ j : Nat) : Int) := by rw [Int.natCast_pow]
theorem pos_pow_natAbs {u : Int} (h : 0 < u) (j : Nat) : ((u.natAbs ^ j : Nat) : Int) = u ^ j := by
  rw [Int.natCast_pow, Int.natAbs_of_nonneg (Int.le_of_lt h)]
theorem neg_abs_pow (u : Int) (j : Nat) : ((0 - u) ^ j).natAbs = u.natAbs ^ j := by
  rw [natAbs_pow', Int.zero_sub, Int.natAbs_neg]
theorem powN_no (h : n < 0) (px : 0 < x1) (g : Good x0 x1 n.natAbs (a, b)) (q : ¬ ((a.natAbs : Int) ≤ Most ∧ b ≤ Most)) : pwr x0 x1 n = none := by
  by_cases s : 0 < x0
  · rw [pwr_neg1 h s, Int.toNat_natCast]
    refine fin_no fun r => g.over q ⟨?_, ?_⟩
    · rw [← natAbs_ipow]; exact r.2
    · have r1 := r.1
      rw [natAbs_pow', pos_pow_natAbs px] at r1
      exact r1
  · rw [pwr_neg2 h s, Int.toNat_natCast]
    refine fin_no fun r => g.over q ⟨?_, ?_⟩
    · rw [← natAbs_ipow]; exact r.2
    · have r1 := r.1
      rw [neg_abs_pow, pos_pow_natAbs px] at r1
      exact r1
/-- the power of a negative by its sign -/
theorem neg_pow_two {u v : Int} (j : Nat) (hu : 0 < u) (_hv : 0 < v) : (0 < (0 - u) ^ j ∧ (0 - v) ^ j = v ^ j ∧ (0 - u) ^ j = u ^ j) ∨ ((0 - u) ^ j < 0 ∧ (0 - v) ^ j = - v ^ j ∧ (0 - u) ^ j = - u ^ j) := by
  have hp : 0 < u ^ j := Int.pow_pos hu
  induction j with
  | zero => exact .inl ⟨by rw [Int.pow_zero]; decide, by rw [Int.pow_zero, Int.pow_zero], by rw [Int.pow_zero, Int.pow_zero]⟩
  | succ j ih =>
    have e1 : ∀ z : Int, (0 - z) ^ (j + 1) = - ((0 - z) ^ j * z) := fun z => by rw [Int.pow_succ, Int.zero_sub, Int.mul_neg]
    have e2 : ∀ z : Int, z ^ (j + 1) = z ^ j * z := fun z => Int.pow_succ z j
    rcases ih (Int.pow_pos hu) with ⟨h1, h2, h3⟩ | ⟨h1, h2, h3⟩
    · refine .inr ⟨?_, ?_, ?_⟩
      · rw [e1, h3, ← e2]; omega
      · rw [e1, h2, ← e2]
      · rw [e1, h3, ← e2]
    · refine .inl ⟨?_, ?_, ?_⟩
      · rw [e1, h3, Int.neg_mul, Int.neg_neg, ← e2]; exact hp
      · rw [e1, h2, Int.neg_mul, Int.neg_neg, ← e2]
      · rw [e1, h3, Int.neg_mul, Int.neg_neg, ← e2]
theorem powN_yes1 (h : n < 0) (hx : x0 ≠ 0) (px : 0 < x1) (g : Good x0 x1 n.natAbs (a, b)) (t : 0 < a) (q1 : (b.natAbs : Int) ≤ Most) (q2 : a ≤ Most) : pwr x0 x1 n = some (b, a) := by
  obtain ⟨rfl, rfl⟩ := g.out ⟨by omega, by omega⟩
  by_cases s : 0 < x0
  · rw [pwr_neg1 h s, Int.toNat_natCast, Int.natAbs_of_nonneg (Int.le_of_lt s)]
    exact fin_yes ⟨q1, q2⟩
  · rw [pwr_neg2 h s, Int.toNat_natCast]
    have e : x0 = 0 - (0 - x0) := by omega
    rcases neg_pow_two (u := 0 - x0) (v := x1) n.natAbs (by omega) px with ⟨_, h2, h3⟩ | ⟨h1, _, _⟩
    · rw [← e] at h3
      have e3 : ((x0.natAbs : Nat) : Int) = 0 - x0 := by omega
      rw [h2, e3, ← h3]
      exact fin_yes ⟨q1, q2⟩
    · rw [← e] at h1
      omega
theorem powN_yes2 (h : n < 0) (hx : x0 ≠ 0) (px : 0 < x1) (g : Good x0 x1 n.natAbs (a, b)) (t : ¬ 0 < a) (q1 : (((-b).natAbs : Nat) : Int) ≤ Most) (q2 : -a ≤ Most) : pwr x0 x1 n = some (-b, -a) := by
  obtain ⟨rfl, rfl⟩ := g.out ⟨by omega, by omega⟩
  by_cases s : 0 < x0
  · exact absurd (Int.pow_pos s) t
  · rw [pwr_neg2 h s, Int.toNat_natCast]
    have e : x0 = 0 - (0 - x0) := by omega
    rcases neg_pow_two (u := 0 - x0) (v := x1) n.natAbs (by omega) px with ⟨h1, _, _⟩ | ⟨h1, h2, h3⟩
    · rw [← e] at h1
      exact absurd h1 t
    · rw [← e] at h3
      have e3 : ((x0.natAbs : Nat) : Int) = 0 - x0 := by omega
      have e4 : (0 - x0) ^ n.natAbs = - x0 ^ n.natAbs := by omega
      rw [h2, e3, e4]
      exact fin_yes ⟨q1, q2⟩
end
end Mine
end

section
open PySem PySem.W PyProof.Rows PySem.Calls PySem.Spec
namespace Mine

def Jp (x y y' : Str) (m₀ : Str → Option Value) (news : List (Addr × Obj)) (p : Int × Int) (m : Str → Option Value) (nx : List (Addr × Obj)) : Prop :=
  nx = news ∧ (∃ t, m y = some (.int p.1 t)) ∧ (∃ t, m y' = some (.int p.2 t)) ∧ ∀ z, z ≠ x → z ≠ y → z ≠ y' → m z = m₀ z
section
variable {prog : Program} {w : World} {A : Around} {E : Value → Shared → Prop} {s : Shared} {env : Env} {h₀ : Heap} {x y y' : Str} {body : List Stmt} {Q : Flow → Shared → Prop}
theorem iter_pow {r : Addr} {b₀ : Int} {t₀ u₀ v₀ tc td : Tok} {n : Nat} {m₀ : Str → Option Value} {news : List (Addr × Obj)} {x0 x1 : Int}
    (hh : A.handled = none) (hr : IsRange s.heap r 0 b₀ 1 t₀ u₀ v₀) (hsmall : Builtin.Range.small 0 b₀ 1 = true) (hn : Builtin.Range.rangeSize 0 b₀ 1 = (n : Int)) (F : Fr h₀ env.locals s.heap m₀) (N : News h₀ env.locals s.heap news)
    (hy : m₀ y = some (.int 1 tc)) (hy' : m₀ y' = some (.int 1 td)) (hx0 : x0 ≠ 0) (hx1 : 0 < x1)
    (turn : Held (∀ k t a ta b tb h tk own, OwnOff own (news.map (·.1)) → Fr h₀ env.locals h (fun z => if z = x then some (.int k t) else if z = y then some (.int a ta) else if z = y' then some (.int b tb) else m₀ z) → News h₀ env.locals h (news ++ own) →
      wpAny (model prog w) A (execs body env) (InvPostN h₀ env.locals (Jp x y y' m₀ news (pstep x0 x1 (a, b))) own (news.map (·.1)) { s with heap := h, toks := tk } Q) E { s with heap := h, toks := tk }))
    (done : Held (∀ (u : Str → Option Value) a b t t' h tk, Good x0 x1 n (a, b) → Fr h₀ env.locals h (fun z => if z = x then u z else if z = y then some (.int a t) else if z = y' then some (.int b t') else m₀ z) → News h₀ env.locals h news → Q .next { s with heap := h, toks := tk })) :
    wpAny (model prog w) A (pyIter (.ref r)) (fun it s₂ => LoopAtV prog w A h₀ env x body Q E it s₂) E s := by
  refine iter_rangeS (σ := Int × Int) (Jp x y y' m₀ news) (fun p _ => pstep x0 x1 p) (1, 1) hh hr hsmall hn F N ⟨rfl, ⟨tc, hy⟩, ⟨td, hy'⟩, fun _ _ _ _ => rfl⟩ ?_ ?_
  · rintro k t ⟨a, b⟩ m₁ nx h tk own hk hoff ⟨rfl, ⟨ta, ha⟩, ⟨tb, hb⟩, hm⟩ F₁ N₁
    rw [map_two ha hb hm] at F₁
    exact turn k t a ta b tb h tk own hoff F₁ N₁
  · rintro m₁ nx h tk ⟨rfl, ⟨t, ha⟩, ⟨t', hb⟩, hm⟩ F₁ N₁
    have G := Good.fold hx0 hx1 (rangeKs 0 n) (Good.start (x0 := x0) (x1 := x1))
    rw [Nat.zero_add, rangeKs_length] at G
    refine done m₁ _ _ t t' h tk G ?_ N₁
    rw [done_two ha hb hm]; exact F₁
theorem pow_end {own news news' : List (Addr × Obj)} {m₀ m' : Str → Option Value} {h' : Heap} {tk : Nat} {p : Int × Int} {a b : Int} {t t' : Tok} (e : p = (a, b)) (F : Fr h₀ env.locals h' m') (N : News h₀ env.locals h' news') (hn : ∀ q ∈ news, q ∈ news') (ho : ∀ q ∈ own, q ∈ news')
    (hy : m' y = some (.int a t)) (hy' : m' y' = some (.int b t')) (hm : ∀ z, z ≠ x → z ≠ y → z ≠ y' → m' z = m₀ z) :
    InvEndN h₀ env.locals (Jp x y y' m₀ news p) own (news.map (·.1)) s { s with heap := h', toks := tk } := by
  subst e
  exact InvEndN.intro F N ⟨rfl, ⟨t, hy⟩, ⟨t', hy'⟩, hm⟩ rfl hn ho
end
theorem sm_most {a : Int} (h : (a.natAbs : Int) ≤ Most) : Sm a := by
  have h1 : a.natAbs ≤ 10 ^ 5000 := by unfold Most at h; omega
  have h2 : 10 ^ 5000 ≤ 2 ^ 20000 := by
    have : 10 ^ 5000 ≤ (2 ^ 4) ^ 5000 := Nat.pow_le_pow_left (by decide) 5000
    rw [← Nat.pow_mul] at this
    exact this
  have h3 : 2 ^ 20000 < 2 ^ 30000 := Nat.pow_lt_pow_right (by decide) (by decide)
  exact Nat.lt_of_le_of_lt h1 (Nat.lt_of_le_of_lt h2 h3)
theorem mul_den {a x1 : Int} (h0 : 0 < x1) (h1 : x1 < 2 ^ 45) : IntMulOk a x1 := .of_right (intBits_le_64 (by omega) (by omega))
section
variable {w : World} {p : Program} {loose : List Str} {mean : ExcName → Option Value} {mg mb : Str → Option Value}

set_option maxHeartbeats 4000000 in
theorem powers_ctr {qx : Addr} {x0 x1 n : Int} {xa xb tn : Tok} {news : List (Addr × Obj)} (hx : (qx, tupO x0 x1 xa xb) ∈ news) (ox : FracOk x0 x1) (n0 : n ≠ 0) (n1 : n ≤ 4096) (n2 : -4096 ≤ n) :
    CtrT w p loose mean mg mb 218 [.ref qx, .int n tn] news 40 300 (fun _ r => r = .bool true) := by
  k_with_none
  k_with "mem" => (first | assumption | exact List.Mem.head _ | (refine List.Mem.tail _ ?_; walk_at "mem") | (refine List.mem_append.mpr (Or.inl ?_); walk_at "mem") | (refine List.mem_append.mpr (Or.inr ?_); walk_at "mem"))
  k_with "subscriptTail Name Constant ref int" => (((with_reducible show wpAny _ _ (subscriptTail _ _ (Value.ref _) (Value.int 0 _)) _ _ _); k_dflt (refine' item_tup0 ?N ?hx ?_; (case N => k_asm); (case hx => walk_at "mem"); k_whole)))
  k_with "subscriptTail Name Constant ref int" => (((with_reducible show wpAny _ _ (subscriptTail _ _ (Value.ref _) (Value.int 1 _)) _ _ _); k_dflt (refine' item_tup1 ?N ?hx ?_; (case N => k_asm); (case hx => walk_at "mem"); k_whole)))
  k_with "binaryOp Pow int int" => (((with_reducible refine pow_most ?_)))
  k_with "call builtin:abs" => ((refine abs_nat ?_; intro _ _))
  k_with "binaryOp Mult int int" => ((with_reducible refine mul_int ?_ (mul_den (by assumption) (by assumption))))
  k_with "binaryOp Mult int int" => ((with_reducible refine mul_int ?_ (mulOk (by assumption) (by assumption))))
  k_with "call ref" => (((with_reducible show wpAny _ _ (call (Value.ref 190) [Value.ref 141, _, _]) _ _ _); k_dflt (refine' told_ctr (f := 141) ?hkp (power_ctr ?hx ?hy ?h1 ?h2 ?h3 ?h4 ?h5) _ _ _ _ _ _ _ _ _ _ _ _ _ _ _ _ ?k1 ?k2 ?k3 ?k4 ?k5 ?kK ?XB ?TB ?D ?kd ?ku (fun r9 ex9 g9 h9 tk9 T9 B9 X9 P9 D9 F9 N9 R9 => ?_); (case k2 => k_asm); (case k1 => k_asm); (case k3 => k_asm); (case k4 => k_asm); (case k5 => k_asm); (case kK => exact rfl); (case XB => assumption); (case TB => assumption); (case D => assumption); (case kd => ktr_room); (case ku => ktr_units); (case hx => walk_at "mem"); (case hy => walk_at "mem"); (case h1 => assumption); (case h2 => assumption); (case h3 => assumption); (case h4 => assumption); (case h5 => assumption); (case hkp => k_is); k_whole); replace T9 := KtsTurn.trans (by assumption) T9; (try dsimp only)))
  k_with "res" => (first | assumption | exact ResAt.text | exact ResAt.frac (FracAt.mk (by walk_at "mem")) | exact ResAt.mono (by assumption) ktn_subA' | exact ResAt.mono (by assumption) ktn_subAA)
  k_with "compareOp NotEq" => ((k_dflt (refine' ne_res ?k1 ?k2 ?k3 ?k4 ?k5 ?k6 ?_; (case k1 => k_asm); (case k2 => k_asm); (case k3 => k_asm); (case k4 => walk_at "res"); (case k5 => walk_at "res"); (case k6 => ktr_units); k_whole); (try simp only [dat_eqv, Bool.not_true])))
  k_with "compareOp Eq" => ((k_dflt (refine' eq_res ?k1 ?k2 ?k3 ?k4 ?k5 ?k6 ?_; (case k1 => k_asm); (case k2 => k_asm); (case k3 => k_asm); (case k4 => walk_at "res"); (case k5 => walk_at "res"); (case k6 => ktr_units); k_whole); (try simp only [dat_eqv])))
  k_with "pyIter ref" => (((with_reducible show wpAny _ _ (pyIter (Value.ref _)) (fun it s₂ => LoopAtV _ _ _ _ _ _ _ _ _ it s₂) _ _); (rename Fr _ _ _ _ => lF'); (rename News _ _ _ _ => lN'); (rename IsRange _ _ _ _ _ _ _ _ => rgX); (with_unfolding_all refine' iter_pow (y := Str.ofString "top") (y' := Str.ofString "low") (by rfl) rgX ?ks (rangeSize_nat _ _) lF' lN' (by rfl) (by rfl) (by assumption) (by assumption) ?_ ?_); (case ks => exact small_one (by omega) (by omega) (by omega) (by omega)); (all_goals (try clear lF' lN'))))
  intro dp un gd cn cs ad ccd outer A₀ base h₀ L m s Q E B F X N T hk XB TB D hdp hun hret
  obtain ⟨sx0, sx1⟩ := ox.sm
  obtain ⟨hx0, bx0, px1, bx1⟩ := ox
  clear bx0
  refine wpAny_call ?_
  k_dflt (refine' code_defS ?k1 ?k2 ?k3 ?k4 ?k5 ?XB ?TB ?D ?T0 ?kA ?k6 ?k7 ?k8 ?k9 ?kB ?_ ?cK ?c2 ?c3 ?c4 ?c5; (case kA => exact rfl); (case k2 => k_asm); (case k1 => k_asm); (case XB => assumption); (case TB => assumption); (case D => assumption); (case T0 => exact KtsTurn.refl); (case k3 => k_asm); (case k4 => k_asm); (case k5 => k_asm); (case k6 => k_is); (case k7 => k_is); (case k8 => ktr_room); (case k9 => exact BindsTo.of_eq rfl); (case kB => exact locs rfl); (case cK => assumption); (case c2 => exact rfl); (case c3 => exact rfl); (case c4 => exact rfl); (case c5 => decide); k_whole; intro g' L' h' FG' F' N' B' X' T' D'; (try dsimp only); (try k_fold))

  have T00 : KtsTurn (frs (envOf cn cs L ad ccd :: outer)) g' g' := KtsTurn.refl
  have hx' : (qx, tupO x0 x1 xa xb) ∈ news := hx
  k_steps
  · unfold Held
    intro k t a ta b tb h₁ tk₁ own hoff F₁ N₁
    by_cases hc : (a.natAbs : Int) ≤ Most ∧ b ≤ Most
    · obtain ⟨c1, c2⟩ := hc
      have sa := sm_most c1
      k_steps
      refine' pow_end (pstep_yes c1 c2) (by assumption) (by assumption) ?ca ?cb (by rfl) (by rfl) ?cc
      case ca => (intro q hq; first | (rcases List.mem_cons.mp hq with rfl | hq <;> walk_at "mem") | walk_at "mem")
      case cb => (intro q hq; first | (rcases List.mem_cons.mp hq with rfl | hq <;> walk_at "mem") | walk_at "mem")
      case cc => (intro z z1 z2 z3; first | rfl | (simp [z1, z2, z3]; done))
    · k_steps
      all_goals first
        | exact absurd ⟨by assumption, by assumption⟩ hc
        | (refine' pow_end (pstep_no hc) (by assumption) (by assumption) ?ca ?cb (by rfl) (by rfl) ?cc
           case ca => (intro q hq; first | (rcases List.mem_cons.mp hq with rfl | hq <;> walk_at "mem") | walk_at "mem")
           case cb => (intro q hq; first | (rcases List.mem_cons.mp hq with rfl | hq <;> walk_at "mem") | walk_at "mem")
           case cc => (intro z z1 z2 z3; first | rfl | (simp [z1, z2, z3]; done)))
  · unfold Held
    intro u a b t t' h₁ tk₁ G F₁ N₁
    have pb : 0 < b := G.pos
    rcases Int.lt_or_lt_of_ne n0 with hn | hn
    · k_steps
      all_goals (
        rename News _ _ _ _ => kN
        refine hret _ [] _ _ _ (by assumption) (by assumption) (by assumption) (by assumption) (by assumption) (by assumption) (fun q hq => kN q ?_) ?_
        (rw [List.nil_append] at hq; walk_at "mem")
        first
          | (rw [powN_yes1 hn hx0 px1 G (by omega) (by omega) (by omega), dat_eqv])
          | (rw [powN_yes2 hn hx0 px1 G (by omega) (by omega) (by omega), dat_eqv])
          | (rw [powN_no hn px1 G (by omega), dat_eqv]))
    · k_steps
      all_goals (
        rename News _ _ _ _ => kN
        refine hret _ [] _ _ _ (by assumption) (by assumption) (by assumption) (by assumption) (by assumption) (by assumption) (fun q hq => kN q ?_) ?_
        (rw [List.nil_append] at hq; walk_at "mem")
        first
          | (rw [powP_yes hn G (by omega) (by omega), dat_eqv])
          | (rw [powP_no hn G (by omega), dat_eqv]))
end
end Mine
end

section
open PySem PySem.W PyProof.Rows PySem.Calls PySem.Spec
namespace Mine
/-- a power of ten that nothing opens -/
theorem ten_ex : ∃ f : Nat → Int, ∀ k, f k = ((10 ^ k : Nat) : Int) := ⟨fun k => ((10 ^ k : Nat) : Int), fun _ => rfl⟩
noncomputable def Ten : Nat → Int := Classical.choose ten_ex
theorem ten_eq (k : Nat) : Ten k = ((10 ^ k : Nat) : Int) := Classical.choose_spec ten_ex k
theorem ten_pow (k : Nat) : (10 : Int) ^ k = Ten k := (ten_cast k).trans (ten_eq k).symm
theorem ten_most : Ten 5000 = Most := ten_eq 5000
theorem ten_one (k : Nat) : 1 ≤ Ten k := by
  rw [ten_eq]
  have : 1 ≤ 10 ^ k := Nat.one_le_pow _ _ (by decide)
  omega
theorem ten_mul (j k : Nat) : Ten j * Ten k = Ten (j + k) := by
  rw [ten_eq, ten_eq, ten_eq, Nat.pow_add, Int.natCast_mul]
theorem ten_lt {j k : Nat} (h : j < k) : Ten j < Ten k := by
  rw [ten_eq, ten_eq]
  have : 10 ^ j < 10 ^ k := Nat.pow_lt_pow_right (by decide) h
  omega
theorem ten_abs (k : Nat) : ((Ten k).natAbs : Int) = Ten k := by
  have := ten_one k
  omega
theorem ten_sm {k : Nat} (h : k ≤ 5001) : Sm (Ten k) := by
  unfold Sm
  rw [ten_eq, Int.natAbs_natCast]
  have h2 : 10 ^ 5001 ≤ 2 ^ 20004 := by
    have : 10 ^ 5001 ≤ (2 ^ 4) ^ 5001 := Nat.pow_le_pow_left (by decide) 5001
    rw [← Nat.pow_mul] at this
    exact this
  have h1 : 10 ^ k ≤ 10 ^ 5001 := Nat.pow_le_pow_right (by decide) h
  have h3 : 2 ^ 20004 < 2 ^ 30000 := Nat.pow_lt_pow_right (by decide) (by decide)
  exact Nat.lt_of_le_of_lt h1 (Nat.lt_of_le_of_lt h2 h3)
theorem most_one : 1 ≤ Most := one_le_most
theorem gcd1_log (n : Int) : ((Int.gcd n 1 : Nat) : Int).natAbs.log2 < 9000 := by
  rw [Int.gcd_one_right]
  decide
theorem gcd1_logL (n : Int) : ((Int.gcd 1 n : Nat) : Int).natAbs.log2 < 9000 := by
  rw [Int.gcd_one_left]
  decide
theorem gh_log : ((Int.gcd (Ten 2500 * Ten 2500) (1 * 1) : Nat) : Int).natAbs.log2 < 9000 := by
  rw [Int.mul_one]
  exact gcd1_log _
theorem gd_log : ((Int.gcd (1 * 1) (1 * Most) : Nat) : Int).natAbs.log2 < 9000 := by
  rw [Int.mul_one]
  exact gcd1_logL _
theorem sm_one : Sm 1 := Nat.one_lt_two_pow (by decide)
theorem sm_mostC : Sm Most := by
  rw [← ten_most]
  exact ten_sm (by decide)
theorem most_ne : Most ≠ 0 := by
  have := most_one
  omega
theorem due_one (n : Int) : due n 1 = fin n 1 := by
  rw [due_pos (by decide), Int.gcd_one_right]
  show fin (n.fdiv 1) (Int.fdiv 1 1) = _
  rw [Int.fdiv_one, Int.fdiv_one]
theorem due_inv {n : Int} (h : 0 < n) : due 1 n = fin 1 n := by
  rw [due_pos (by omega), Int.gcd_one_left]
  show fin (Int.fdiv 1 1) (n.fdiv 1) = _
  rw [Int.fdiv_one, Int.fdiv_one]
theorem due_half : due (Ten 2500 * Ten 2500) (1 * 1) = some (Most, 1) := by
  rw [Int.mul_one, due_one, ten_mul, show 2500 + 2500 = 5000 from rfl, ten_most]
  have := most_one
  exact fin_yes ⟨by omega, this⟩
theorem due_div : due (1 * 1) (1 * Most) = some (1, Most) := by
  have := most_one
  rw [Int.mul_one, Int.one_mul, due_inv (by omega)]
  exact fin_yes ⟨this, Int.le_refl _⟩
theorem due_b1 : due (Most + 1) 1 = none := by
  have := most_one
  rw [due_one]
  exact fin_no (by omega)
theorem due_b2 : due 1 (Most + 1) = none := by
  have := most_one
  rw [due_inv (by omega)]
  exact fin_no (by omega)
theorem most_lt : Most < Ten 5001 := by
  rw [← ten_most]
  exact ten_lt (by decide)
theorem due_b3 : due (Ten 5001) 1 = none := by
  have := most_one
  have := most_lt
  rw [due_one]
  exact fin_no (by omega)
theorem due_b4 : due 1 (Ten 5001) = none := by
  have := most_one
  have := most_lt
  rw [due_inv (by omega)]
  exact fin_no (by omega)
theorem pwr_a : pwr 10 1 4096 = some (Ten 4096, 1) := by
  rw [pwr_pos (by decide)]
  show fin ((10 : Int) ^ 4096) ((1 : Int) ^ 4096) = _
  rw [ten_pow, Int.one_pow]
  have := ten_lt (j := 4096) (k := 5000) (by decide)
  rw [ten_most] at this
  have := ten_one 4096
  have := most_one
  exact fin_yes ⟨by omega, by omega⟩
theorem most_big : (1000 : Int) ≤ Most := by
  rw [← ten_most, ten_eq]
  have : 10 ^ 3 ≤ 10 ^ 5000 := Nat.pow_le_pow_right (by decide) (by decide)
  generalize 10 ^ 5000 = z at this ⊢
  omega
theorem pwr_b : pwr (-10) 3 (-3) = some (-27, 1000) := by
  rw [pwr_neg2 (by decide) (by decide)]
  show fin (-27) 1000 = _
  have := most_big
  exact fin_yes ⟨by omega, by omega⟩
theorem pwr_c : pwr (Ten 700 + 1) 7 (-4096) = none := by
  have h1 := ten_one 700
  rw [pwr_neg1 (by decide) (by omega)]
  refine fin_no fun q => ?_
  have q2 := q.2
  have e : ((Ten 700 + 1).natAbs : Int) = ((10 ^ 700 + 1 : Nat) : Int) := by
    rw [ten_eq]
    generalize 10 ^ 700 = z
    omega
  rw [e] at q2
  have e2 : (((-4096 : Int).natAbs : Nat) : Int).toNat = 4096 := rfl
  rw [e2, ← Int.natCast_pow] at q2
  unfold Most at q2
  have q3 : (10 ^ 700 + 1) ^ 4096 ≤ 10 ^ 5000 := by exact_mod_cast q2
  have a1 : (10 ^ 700) ^ 4096 ≤ (10 ^ 700 + 1) ^ 4096 := Nat.pow_le_pow_left (Nat.le_succ _) _
  rw [← Nat.pow_mul] at a1
  have a2 : 10 ^ 5000 < 10 ^ (700 * 4096) := Nat.pow_lt_pow_right (by decide) (by decide)
  exact absurd (Nat.le_trans a1 q3) (Nat.not_le.mpr a2)
section
variable {prog : Program} {w : World} {A : Around} {E : Value → Shared → Prop} {s : Shared} {t u : Tok} {Q : Value → Shared → Prop}
theorem bits10 : PySem.Builtin.Int.intBits 10 = 4 := by decide +kernel
theorem pow_tenK {k : Int} {K : Nat} (hk : k = (K : Int)) (hK : K ≤ 8192) (h : Q (.int (Ten K) s.toks) { s with toks := s.toks + 1 }) : wpAny (model prog w) A (binaryOp .Pow (.int 10 t) (.int k u)) Q E s := by
  subst hk
  refine pow_int (Int.natCast_nonneg _) ?_ ?_
  · rw [bits10]; omega
  · rw [Int.toNat_natCast, ten_pow]; exact h
theorem pow_t2500 (h : Q (.int (Ten 2500) s.toks) { s with toks := s.toks + 1 }) : wpAny (model prog w) A (binaryOp .Pow (.int 10 t) (.int 2500 u)) Q E s := pow_tenK rfl (by decide) h
theorem pow_t5001 (h : Q (.int (Ten 5001) s.toks) { s with toks := s.toks + 1 }) : wpAny (model prog w) A (binaryOp .Pow (.int 10 t) (.int 5001 u)) Q E s := pow_tenK rfl (by decide) h
theorem pow_t4096 (h : Q (.int (Ten 4096) s.toks) { s with toks := s.toks + 1 }) : wpAny (model prog w) A (binaryOp .Pow (.int 10 t) (.int 4096 u)) Q E s := pow_tenK rfl (by decide) h
theorem pow_t700 (h : Q (.int (Ten 700) s.toks) { s with toks := s.toks + 1 }) : wpAny (model prog w) A (binaryOp .Pow (.int 10 t) (.int 700 u)) Q E s := pow_tenK rfl (by decide) h
end
/-- a call that catches, made by the law itself: the ground below is as it was -/
abbrev CtrL (w : World) (p : Program) (loose : List Str) (mean : ExcName → Option Value) (mg mb : Str → Option Value) (f : Addr) (vs : List Value) (news : List (Addr × Obj)) (D U : Nat) (P : List (Addr × Obj) → Value → Prop) : Prop :=
  ∀ (dp un : Nat) (gd : Option (List Code)) (cn : Str) (cs : Scope) (a : Addr) (ccd : Value) (A₀ : Around) (base h₀ : Heap) (L : Addr) (m : Str → Option Value) (s : Shared) (Q E : Value → Shared → Prop),
    Below A₀ base [] h₀ → Fr h₀ L s.heap m → (hd.heap_39 w.params).In h₀ → News h₀ L s.heap news → Top p loose mean mg mb h₀ → cs.kind = .function → (hd.heap_39 w.params).In base → Top p loose mean mg mb base →
    dp + D < recursionLimit → un + U < cLine → (∀ (r : Value) (ex : List (Addr × Obj)) (h' : Heap) (tk' : Nat), Fr h₀ L h' m → News h₀ L h' (ex ++ news) → P (ex ++ news) r → Q r { s with heap := h', toks := tk' }) →
    wpAny (model PG w) (ktrTop dp un gd cn cs L a ccd [] []) (call (.ref f) vs) Q E s
theorem turn_none {h₀ h₁ : Heap} (T : KtsTurn (frs []) h₀ h₁) : ∀ b o, h₀.get? b = some o → h₁.get? b = some o := fun b o e => T.other b o e (by simp [frs])
theorem fr_back {h₀ h₁ h : Heap} {L : Addr} {m : Str → Option Value} (T : KtsTurn (frs []) h₀ h₁) (F : Fr h₁ L h m) : Fr h₀ L h m :=
  ⟨F.ns, fun b o e => F.keep b o (turn_none T b o e), by rw [← T.size]; exact F.above⟩
theorem news_back {h₀ h₁ h : Heap} {L : Addr} {l : List (Addr × Obj)} (T : KtsTurn (frs []) h₀ h₁) (N : News h₁ L h l) : News h₀ L h l := fun q hq => ⟨(N q hq).1, (N q hq).2.1, by
  cases e : h₀.get? q.1 with
  | none => rfl
  | some o =>
    have := turn_none T _ _ e
    rw [(N q hq).2.2] at this
    cases this⟩
section
variable {w : World} {p : Program} {loose : List Str} {mean : ExcName → Option Value} {mg mb : Str → Option Value} {f : Addr} {vs : List Value} {news : List (Addr × Obj)} {D U : Nat}
theorem ctrL {P : List (Addr × Obj) → Value → Prop} (H : CtrT w p loose mean mg mb f vs news D U P) : CtrL w p loose mean mg mb f vs news D U P := by
  intro dp un gd cn cs a ccd A₀ base h₀ L m s Q E B F X N T hk XB TB hd hu hret
  exact H dp un gd cn cs a ccd [] A₀ base h₀ L m s Q E B F X N T hk XB TB (fun b hb => by simp at hb) hd hu (fun r ex h₁ h' tk' T₁ _ _ _ _ F₁ N₁ R => hret r ex h' tk' (fr_back T₁ F₁) (news_back T₁ N₁) R)
abbrev RetX (h₀ : Heap) (L : Addr) (m : Str → Option Value) (news : List (Addr × Obj)) (s : Shared) (Q : Value → Shared → Prop) (a b : Int) : Prop :=
  ∀ (r : Value) (ex : List (Addr × Obj)) (h' : Heap) (tk' : Nat), Fr h₀ L h' m → News h₀ L h' (ex ++ news) → FracAt (ex ++ news) r a b → Q r { s with heap := h', toks := tk' }
/-- a call that hands back -/
theorem ctrSome {res : Option (Int × Int)} {x y : Int} (H : CtrF w p loose mean mg mb f vs news D U res) (e : res = some (x, y)) :
  ∀ (dp un : Nat) (gd : Option (List Code)) (cn : Str) (cs : Scope) (a : Addr) (ccd : Value) (cl : List (Str × Addr)) (outer : List Env) (A₀ : Around) (base h₀ : Heap) (L : Addr) (m : Str → Option Value) (s : Shared) (Q E : Value → Shared → Prop),
    Below A₀ base outer h₀ → Fr h₀ L s.heap m → (hd.heap_39 w.params).In h₀ → News h₀ L s.heap news → Top p loose mean mg mb h₀ → cs.kind = .function →
    dp + D < recursionLimit → un + U < cLine → RetX h₀ L m news s Q x y →
    wpAny (model PG w) (ktrTop dp un gd cn cs L a ccd cl outer) (call (.ref f) vs) Q E s := by
  intro dp un gd cn cs a ccd cl outer A₀ base h₀ L m s Q E B F X N T hk hd hu hret
  subst e
  refine H dp un gd cn cs a ccd cl outer A₀ base h₀ L m s Q E B F X N T hk hd hu (fun n d q => ?_) (fun q => by cases q)
  cases q
  exact hret
end
theorem news_ne {h₀ h : Heap} {L q B S : Addr} {x0 x1 k : Int} {a b t : Tok} {c : Nat} {l : List (Addr × Obj)} (N : News h₀ L h ((q, tupO x0 x1 a b) :: (B, binO S k t c) :: l)) : q ≠ B := fun e => by
  have h1 := (N _ (.head _)).1
  have h2 := (N _ (.tail _ (.head _))).1
  subst e
  rw [show h.get? q = some (tupO x0 x1 a b) from h1] at h2
  have h3 := congrArg Obj.cls (Option.some.inj h2)
  injection h3 with h4
  exact absurd h4 (by decide)
section
variable {A B : Prop}
theorem if_nt {d : Decidable ((!true) = true)} (k : B) : @ite Prop ((!true) = true) d A B := by rw [if_neg (show ¬ ((!true) = true) from Bool.false_ne_true)]; exact k
theorem if_nf {d : Decidable ((!false) = true)} (k : A) : @ite Prop ((!false) = true) d A B := by rw [if_pos (show (!false) = true from rfl)]; exact k
theorem if_t {d : Decidable (true = true)} (k : A) : @ite Prop (true = true) d A B := by rw [if_pos rfl]; exact k
theorem if_f {d : Decidable (false = true)} (k : B) : @ite Prop (false = true) d A B := by rw [if_neg Bool.false_ne_true]; exact k
theorem if_T {d : Decidable True} (k : A) : @ite Prop True d A B := by rw [if_pos trivial]; exact k
theorem if_F {d : Decidable False} (k : B) : @ite Prop False d A B := by rw [if_neg not_false]; exact k
end
theorem res_none {l : List (Addr × Obj)} {r : Value} (R : ResAt l r none) : ∃ t, r = .str notExact t := by
  cases R with
  | text => exact ⟨_, rfl⟩
theorem news_head {h₀ h : Heap} {L : Addr} {a : Addr × Obj} {l : List (Addr × Obj)} (N : News h₀ L h (a :: l)) : News h₀ L h [a] := fun q hq => by
  rw [List.mem_singleton.mp hq]
  exact N _ (.head _)
theorem news_drop {h₀ h : Heap} {L : Addr} {ex l : List (Addr × Obj)} (N : News h₀ L h (ex ++ l)) : News h₀ L h l := fun q hq => N q (List.mem_append.mpr (.inr hq))
end Mine
end

section
open PySem PySem.W PyProof.Rows PySem.Calls PySem.Spec
namespace Mine
section

set_option maxHeartbeats 8000000 in
theorem law_holds : PySem.Challenge.rw_pq1400_01.Holds := hd (by
  w_strict (
    k_with_none
    k_with "mem" => (first | assumption | exact List.Mem.head _ | (refine List.Mem.tail _ ?_; walk_at "mem") | (refine List.mem_append.mpr (Or.inl ?_); walk_at "mem") | (refine List.mem_append.mpr (Or.inr ?_); walk_at "mem"))
    k_with "ne" => (first | assumption | exact List.forall_mem_nil _ | (refine List.forall_mem_cons.mpr ⟨?_, ?_⟩; (first | assumption | exact ne_l1 (by assumption) | exact Nat.ne_of_lt (by assumption) | exact Nat.ne_of_gt (by assumption)); walk_at "ne"))
    k_with "call ref" => (((with_reducible show wpAny _ _ (call (Value.ref 169) [Value.ref _, Value.int _ _]) _ _ _); k_dflt (refine' scoop_ctr ?i1 ?i2 ?i3 ?i4 ?i5 ?i6 _ _ _ _ _ _ _ _ _ _ _ _ _ _ _ _ _ ?k1 ?k2 ?k3 ?k4 ?k5 ?kK ?kd ?ku (fun r9 t9 tb9 c9 h9 tk9 lo9 hi9 F9 N9 => ?_); (case k4 => first | assumption | exact news_swap (by assumption) | exact news_swap3 (by assumption)); (case k1 => k_asm); (case k2 => k_asm); (case k3 => k_asm); (case k5 => k_asm); (case kK => exact rfl); (case kd => k_room); (case ku => ktr_units); (case i1 => assumption); (case i2 => omega); (case i3 => omega); (case i4 => decide); (case i5 => walk_at "mem"); (case i6 => walk_at "ne"); k_whole); (try dsimp only)))
    k_with "ints" => (first | exact IntsAre.nil | exact IntsAre.cons _ _ (by walk_at "ints"))
    k_with "subscriptTail" => (((with_reducible show wpAny _ _ (subscriptTail (Expr.List _ _) _ (Value.ref _) (Value.int _ _)) _ _ _); k_dflt (refine' item_menu (lo := 1) (hi := 500) ?k1 ?k2 ?k3 ?k4 ?k5 ?k6 ?_; (case k1 => k_asm); (case k2 => walk_at "mem"); (case k3 => walk_at "ints"); (case k4 => decide); (case k5 => assumption); (case k6 => (simp only [List.length_cons, List.length_nil]; omega)); k_whole); intro f' t' hf1 hf2))
    k_with "call ref" => (((with_reducible show wpAny _ _ (call (Value.ref 204) [Value.ref _]) _ _ _); k_dflt (refine' fraction_ctr ?i1 ?i2 ?i3 ?i5 ?i6 _ _ _ _ _ _ _ _ _ _ _ _ _ _ _ _ _ ?k1 ?k2 ?k3 ?k4 ?k5 ?kK ?kd ?ku (fun q9 x0 x1 a9 b9 tb9 k9 c9 h9 tk9 ok9 kk9 F9 N9 => ?_); (case k4 => first | assumption | exact news_swap (by assumption)); (case k1 => k_asm); (case k2 => k_asm); (case k3 => k_asm); (case k5 => k_asm); (case kK => exact rfl); (case kd => k_room); (case ku => ktr_units); (case i1 => assumption); (case i2 => omega); (case i3 => omega); (case i5 => walk_at "mem"); (case i6 => walk_at "ne"); k_whole); (have ne9 := news_ne N9); (replace N9 := news_swap N9); (try dsimp only)))
    k_with "call ref" => (((with_reducible show wpAny _ _ (call (Value.ref 211) [Value.ref _, Value.ref _]) _ _ _); k_dflt (refine' ctrL (sums_ctr ?hx ?hy ?ox ?oy) _ _ _ _ _ _ _ _ _ _ _ _ _ _ _ ?k1 ?k2 ?k3 ?k4 ?k5 ?kK ?XB ?TB ?kd ?ku (fun r9 ex9 h9 tk9 F9 N9 R9 => ?_); (case k2 => k_asm); (case k1 => k_asm); (case k3 => k_asm); (case k4 => k_asm); (case k5 => k_asm); (case kK => exact rfl); (case XB => assumption); (case TB => assumption); (case kd => k_room); (case ku => ktr_units); (case hx => walk_at "mem"); (case hy => walk_at "mem"); (case ox => assumption); (case oy => assumption); k_whole); (subst R9); (replace N9 := news_drop N9); (try dsimp only)))
    k_with "call ref" => (((with_reducible show wpAny _ _ (call (Value.ref 218) [Value.ref _, Value.int _ _]) _ _ _); k_dflt (refine' ctrL (powers_ctr ?hx ?ox ?n0 ?n1 ?n2) _ _ _ _ _ _ _ _ _ _ _ _ _ _ _ ?k1 ?k2 ?k3 ?k4 ?k5 ?kK ?XB ?TB ?kd ?ku (fun r9 ex9 h9 tk9 F9 N9 R9 => ?_); (case k2 => k_asm); (case k1 => k_asm); (case k3 => k_asm); (case k4 => k_asm); (case k5 => k_asm); (case kK => exact rfl); (case XB => assumption); (case TB => assumption); (case kd => k_room); (case ku => ktr_units); (case hx => walk_at "mem"); (case ox => assumption); (case n0 => omega); (case n1 => omega); (case n2 => omega); k_whole); (subst R9); (replace N9 := news_drop N9); (try dsimp only)))
    k_with "call ref" => (((with_reducible show wpAny _ _ (call (Value.ref 190) [Value.ref 113, _, _]) _ _ _); k_dflt (refine' ctrL (told_ctr (f := 113) ?hkp (mul_ctr ?hx ?hy ?h1 ?h2 ?h3 ?h4 ?h5 ?h6 ?h7)) _ _ _ _ _ _ _ _ _ _ _ _ _ _ _ ?k1 ?k2 ?k3 ?k4 ?k5 ?kK ?XB ?TB ?kd ?ku (fun r9 ex9 h9 tk9 F9 N9 R9 => ?_); (case k2 => k_asm); (case k1 => k_asm); (case k3 => k_asm); (case k4 => k_asm); (case k5 => k_asm); (case kK => exact rfl); (case XB => assumption); (case TB => assumption); (case kd => k_room); (case ku => ktr_units); (case hx => walk_at "mem"); (case hy => walk_at "mem"); (case h1 => first | assumption | decide | omega); (case h2 => first | assumption | decide | omega); (case h3 => first | assumption | decide | omega); (case h4 => first | assumption | decide | omega); (case h5 => first | assumption | decide | omega); (case h6 => first | assumption | decide | omega); (case h7 => first | assumption | decide | omega); (case hkp => k_is); k_whole); (first | rw [due_half] at R9 | rw [due_div] at R9); (try dsimp only)))
    k_with "call ref" => (((with_reducible show wpAny _ _ (call (Value.ref 190) [Value.ref 120, _, _]) _ _ _); k_dflt (refine' ctrL (told_ctr (f := 120) ?hkp (div_ctr ?hx ?hy ?h1 ?h2 ?h3 ?h4 ?h5 ?h6 ?h7 ?h8)) _ _ _ _ _ _ _ _ _ _ _ _ _ _ _ ?k1 ?k2 ?k3 ?k4 ?k5 ?kK ?XB ?TB ?kd ?ku (fun r9 ex9 h9 tk9 F9 N9 R9 => ?_); (case k2 => k_asm); (case k1 => k_asm); (case k3 => k_asm); (case k4 => k_asm); (case k5 => k_asm); (case kK => exact rfl); (case XB => assumption); (case TB => assumption); (case kd => k_room); (case ku => ktr_units); (case hx => walk_at "mem"); (case hy => walk_at "mem"); (case h1 => first | assumption | decide | omega); (case h2 => first | assumption | decide | omega); (case h3 => first | assumption | decide | omega); (case h4 => first | assumption | decide | omega); (case h5 => first | assumption | decide | omega); (case h6 => first | assumption | decide | omega); (case h7 => first | assumption | decide | omega); (case h8 => first | assumption | decide | omega); (case hkp => k_is); k_whole); (first | rw [due_half] at R9 | rw [due_div] at R9); (try dsimp only)))
    k_with "call ref" => (((with_reducible show wpAny _ _ (call (Value.ref 190) [Value.ref 71, _, _]) _ _ _); k_dflt (refine' ctrL (told_ctr (f := 71) ?hkp (make_ctr _ _ _ _ _ ?h0 ?hg)) _ _ _ _ _ _ _ _ _ _ _ _ _ _ _ ?k1 ?k2 ?k3 ?k4 ?k5 ?kK ?XB ?TB ?kd ?ku (fun r9 ex9 h9 tk9 F9 N9 R9 => ?_); (case k2 => k_asm); (case k1 => k_asm); (case k3 => k_asm); (case k4 => k_asm); (case k5 => k_asm); (case kK => exact rfl); (case XB => assumption); (case TB => assumption); (case kd => k_room); (case ku => ktr_units); (case h0 => omega); (case hg => first | exact gcd1_log _ | exact gcd1_logL _); (case hkp => k_is); k_whole); (first | rw [due_b1] at R9 | rw [due_b2] at R9 | rw [due_b3] at R9 | rw [due_b4] at R9 | rw [pwr_c] at R9); (obtain ⟨t9, e9⟩ := res_none R9); (subst e9); (replace N9 := news_drop N9); (try dsimp only)))
    k_with "call ref" => (((with_reducible show wpAny _ _ (call (Value.ref 190) [Value.ref 141, _, _]) _ _ _); k_dflt (refine' ctrL (told_ctr (f := 141) ?hkp (power_ctr ?hx ?hy ?h1 ?h2 ?h3 ?h4 ?h5)) _ _ _ _ _ _ _ _ _ _ _ _ _ _ _ ?k1 ?k2 ?k3 ?k4 ?k5 ?kK ?XB ?TB ?kd ?ku (fun r9 ex9 h9 tk9 F9 N9 R9 => ?_); (case k2 => k_asm); (case k1 => k_asm); (case k3 => k_asm); (case k4 => k_asm); (case k5 => k_asm); (case kK => exact rfl); (case XB => assumption); (case TB => assumption); (case kd => k_room); (case ku => ktr_units); (case hx => walk_at "mem"); (case hy => walk_at "mem"); (case h1 => first | assumption | decide | omega); (case h2 => first | assumption | decide | omega); (case h3 => first | assumption | decide | omega); (case h4 => first | assumption | decide | omega); (case h5 => first | assumption | decide | omega); (case hkp => k_is); k_whole); (first | rw [due_b1] at R9 | rw [due_b2] at R9 | rw [due_b3] at R9 | rw [due_b4] at R9 | rw [pwr_c] at R9); (obtain ⟨t9, e9⟩ := res_none R9); (subst e9); (replace N9 := news_drop N9); (try dsimp only)))
    k_with "call ref" => (((with_reducible show wpAny _ _ (call (Value.ref 141) [Value.ref _, Value.ref _]) _ _ _); k_dflt (refine' ctrSome (power_ctr ?hx ?hy ?h1 ?h2 ?h3 ?h4 ?h5) ?he _ _ _ _ _ _ _ _ _ _ _ _ _ _ _ _ _ ?k1 ?k2 ?k3 ?k4 ?k5 ?kK ?kd ?ku (fun r9 ex9 h9 tk9 F9 N9 G9 => ?_); (case k1 => k_asm); (case k2 => k_asm); (case k3 => k_asm); (case k4 => k_asm); (case k5 => k_asm); (case kK => exact rfl); (case kd => k_room); (case ku => ktr_units); (case hx => walk_at "mem"); (case hy => walk_at "mem"); (case h1 => decide); (case h2 => decide); (case h3 => decide); (case h4 => decide); (case h5 => decide); (case he => first | exact pwr_a | exact pwr_b); k_whole); (try dsimp only)))
    k_with "binaryOp Pow int int" => (((with_reducible refine pow_most ?_)))
    k_with "binaryOp Pow int int" => (((with_reducible refine pow_t2500 ?_)))
    k_with "binaryOp Pow int int" => (((with_reducible refine pow_t5001 ?_)))
    k_with "binaryOp Pow int int" => (((with_reducible refine pow_t4096 ?_)))
    k_with "binaryOp Pow int int" => (((with_reducible refine pow_t700 ?_)))
    k_with "res" => (first | exact ResAt.mono (by with_reducible assumption) (fun _ h => List.Mem.tail _ h) | exact ResAt.mono (.frac (by with_reducible assumption)) (fun _ h => List.Mem.tail _ h) | exact ResAt.text | exact ResAt.frac (FracAt.mk (by walk_at "mem")))
    k_with "compareOp NotEq" => ((k_dflt (refine' ne_res ?k1 ?k2 ?k3 ?k4 ?k5 ?k6 ?_; (case k1 => k_asm); (case k2 => k_asm); (case k3 => k_asm); (case k4 => walk_at "res"); (case k5 => walk_at "res"); (case k6 => ktr_units); k_whole); (try simp only [dat_eqv, Bool.not_true])))
    k_with "compareOp Eq" => ((k_dflt (refine' eq_res ?k1 ?k2 ?k3 ?k4 ?k5 ?k6 ?_; (case k1 => k_asm); (case k2 => k_asm); (case k3 => k_asm); (case k4 => walk_at "res"); (case k5 => walk_at "res"); (case k6 => ktr_units); k_whole); (try simp only [dat_eqv])))
    k_with "ite" => ((first | with_reducible refine if_nt ?_ | with_reducible refine if_t ?_ | with_reducible refine if_f ?_ | with_reducible refine if_T ?_ | with_reducible refine if_F ?_ | with_reducible refine if_nf ?_))
    k_go0
    (all_goals try k_fold)
    rename_i w10 s0 s1 mg mb cG cY fa o pm doc kV ho hg KX0 cX cV cGL cT cB cTE cTW w9 w8 cM w7 w6 cD wa hs hl hL1 hr1 hl2 wb wc wd we wf hL ra wr r0 hI hr hc1 hc2 hK hD hh hF hN
    clear hD hc2 hr r0 wr ra hl2 hr1 hL1 hl hs cD cM cTW cTE cB cGL cV cX cY cG
    rename Below _ _ _ _ => K0
    rename Frag.In _ _ => KX
    have h1 : (1 : Int) ≠ 0 := by decide
    have mo := most_one
    have s1 := sm_one
    have sM := sm_mostC
    have sH : Sm (Ten 2500) := ten_sm (by decide)
    have mn := most_ne
    have gh := gh_log
    have gd := gd_log
    have t5 := most_lt
    have t7 := ten_one 700
    k_steps
    rename News _ _ _ _ => kN
    replace kN := news_head kN
    k_steps
    done))
end
end Mine
end

theorem PySem.Challenge.cw_pq1400_01_holds : PySem.Challenge.rw_pq1400_01.Holds :=
  Mine.law_holds
