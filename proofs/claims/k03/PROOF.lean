import PyProof.Rows.All
import Wide.All
import OpenK.AllK
import Wide.FinOn
import KE.KExcIs
import HandS.ForMost
import HandS.ForExc
import HandS.ExcInit
import HandS.ExcField
import HandS.ExcIs
import HandS.Defaults
import HandS.HeadEnd
import PyProof.ReprRoads
import PyProof.RowDictHeap
import KE.KStateDown
import HandS.More
import HandS.WordsExc
import HandS.Head0
import HandS.Head1
import HandS.Head2
import HandS.HeadHook1
import HandS.HeadHook2
import HandS.Walk
import HandS.Deep
import HandS.Evl
import PySem.Challenge.RW_leastpools_k03_errors_and_fields
set_option Elab.async false
set_option linter.all false
set_option maxRecDepth 100000
set_option maxHeartbeats 4000000
/-! exceptions of the program's own classes, over any base among five, as values -/
namespace PySem.LpX
open PySem PySem.W PySem.Calls PyProof.Rows PySem.HandSPX
open Builtin Builtin.ObjectAttr
/-- what is known of a base's __init__ -/
structure InitF (B initId : String) : Prop where
  plain : plainId initId = true
  entry : entryFor table initId = some Builtin.«BaseException.__init__»
  split : splitId initId = some (B, "__init__")
  kind : builtinKind initId = some .slot
  row : Manifest.signature? initId = some ⟨.positional, "*", B, .self, [⟨"args", .varPos, false⟩]⟩
  noStar : (B != "*") = true
theorem InitF.of {B newId initId : String} {bm : List Value} (F : ExcBaseFacts B newId initId bm) : InitF B initId := ⟨F.init.plain, F.initEntry, F.initSplit, F.initKind, F.initRow, F.noStar⟩
theorem init_key : InitF "KeyError" "KeyError.__init__" := ⟨excClass_KeyError.init.plain, excClass_KeyError.initEntry, excClass_KeyError.initSplit, excClass_KeyError.initKind, excClass_KeyError.initSig, excClass_KeyError.notStar⟩
theorem init_value : InitF "ValueError" "ValueError.__init__" := .of F.excBase_ValueError
theorem init_lookup : InitF "LookupError" "LookupError.__init__" := .of F.excBase_LookupError
theorem init_arith : InitF "ArithmeticError" "ArithmeticError.__init__" := .of F.excBase_ArithmeticError
theorem init_run : InitF "RuntimeError" "RuntimeError.__init__" := .of F.excBase_RuntimeError
abbrev tlV : List Value := [.type "ValueError", .type "Exception", .type "BaseException", .type "object"]
abbrev tlK : List Value := [.type "KeyError", .type "LookupError", .type "Exception", .type "BaseException", .type "object"]
abbrev tlL : List Value := [.type "LookupError", .type "Exception", .type "BaseException", .type "object"]
abbrev tlA : List Value := [.type "ArithmeticError", .type "Exception", .type "BaseException", .type "object"]
abbrev tlR : List Value := [.type "RuntimeError", .type "Exception", .type "BaseException", .type "object"]
def isTail (l : List Value) : Bool := l == tlV || (l == tlK || (l == tlL || (l == tlA || l == tlR)))
theorem isTail_or {l : List Value} (h : isTail l = true) : l = tlV ∨ l = tlK ∨ l = tlL ∨ l = tlA ∨ l = tlR := by
  unfold isTail at h
  simp only [Bool.or_eq_true, beq_iff_eq] at h
  exact h
/-- own classes, then one of the five tails -/
def tailOk : List Value → Bool
  | .ref _ :: r => tailOk r
  | l => isTail l
theorem tailOk_cases : ∀ l : List Value, tailOk l = true → (∃ c r, l = .ref c :: r ∧ tailOk r = true) ∨ isTail l = true
  | [], e => .inr e
  | .ref c :: r, e => .inl ⟨c, r, rfl, e⟩
  | .none :: _, e => .inr e
  | .ellipsis :: _, e => .inr e
  | .notImplemented :: _, e => .inr e
  | .bool _ :: _, e => .inr e
  | .int _ _ :: _, e => .inr e
  | .float _ _ :: _, e => .inr e
  | .str _ _ :: _, e => .inr e
  | .bytes _ _ :: _, e => .inr e
  | .type _ :: _, e => .inr e
  | .builtin _ :: _, e => .inr e
theorem pass_V (self : Value) : refuseLoop self "__setattr__" tlV = pure () := F.store_ValueError.passes self
theorem pass_K (self : Value) : refuseLoop self "__setattr__" tlK = pure () := by kernel_rfl
theorem pass_L (self : Value) : refuseLoop self "__setattr__" tlL = pure () := by kernel_rfl
theorem pass_A (self : Value) : refuseLoop self "__setattr__" tlA = pure () := by kernel_rfl
theorem pass_R (self : Value) : refuseLoop self "__setattr__" tlR = pure () := by kernel_rfl
theorem tail_pass (self : Value) : ∀ l : List Value, tailOk l = true → refuseLoop self "__setattr__" l = pure () := by
  intro l
  induction l with
  | nil => intro e; exact absurd e (by decide)
  | cons a r ih =>
    intro e
    rcases tailOk_cases (a :: r) e with ⟨c, r', q, h⟩ | q
    · obtain ⟨rfl, rfl⟩ := List.cons.inj q
      rw [refuseLoop_ref]; exact ih h
    · rcases isTail_or q with q | q | q | q | q <;> rw [q]
      · exact pass_V self
      · exact pass_K self
      · exact pass_L self
      · exact pass_A self
      · exact pass_R self
theorem tail_object : ∀ l : List Value, tailOk l = true → l.contains (.type "object") = true := by
  intro l
  induction l with
  | nil => intro e; exact absurd e (by decide)
  | cons a r ih =>
    intro e
    rcases tailOk_cases (a :: r) e with ⟨c, r', q, h⟩ | q
    · obtain ⟨rfl, rfl⟩ := List.cons.inj q
      rw [List.contains_cons, ih h, Bool.or_true]
    · rcases isTail_or q with q | q | q | q | q <;> rw [q] <;> decide +kernel
theorem tail_ne {l : List Value} (e : tailOk l = true) : l.isEmpty = false := by
  cases l with
  | nil => exact absurd e (by decide)
  | cons _ _ => rfl
/-- what bm must hold for __new__ of Bn -/
structure Bm (Bn : String) (bm : List Value) : Prop where
  hB : bm.contains (.type Bn) = true
  hA : bm.contains (.type "AttributeError") = false
  hN : bm.contains (.type "NameError") = false
section
variable {M : Model} {A : Around} {E : Value → Shared → Prop} {h : Heap} {g : Array GenState} {d : Drawn} {t : Nat} {os : OsState}
variable {nm q : Str} {C N : Addr} {bs bm bmB : List Value} {hdct : Bool} {sn : List Str} {sub : List Value} {ab : Bool} {col : Option Bool} {dd : Option Addr} {k0 k1 k2 k3 k5 : Option Value} {B newId initId : String}
theorem check_new_own (F : ExcBaseFacts B newId initId bmB) (hT : Bm B bm) {rest : List Value} {Q : Unit → Shared → Prop}
    (hC : h.get? C = some (excClassObj nm q C N bs bm hdct sn sub ab col dd k0 k1 k2 k3 k5 newId)) (hq : Q () ⟨h, g, d, t, os⟩) : wpAny M A (checkBuiltinCall newId ⟨.ref C :: rest, []⟩) Q E ⟨h, g, d, t, os⟩ := by
  have hcont : (Value.ref C :: bm).contains (.type B) = true := by rw [List.contains_cons, hT.hB, Bool.or_true]
  have hstar := F.noStar
  simp only [checkBuiltinCall, F.newKind, F.newSplit, F.newRow]
  repeat (first | refine wpAny_loadPart_at hC ?_ | (refine wpAny_isSubtype_exc hC ?_; rw [hcont]) | refine wpAny_staticBase_exc hC ?_ | refine wpAny_madeBy_exc hC ?_ | simp only [bne_self_eq_false, Bool.false_eq_true, if_false] | wp_step)
  exact hq
theorem check_init_own (F : InitF B initId) (hB : bm.contains (.type B) = true) {e : Addr} {oe : Obj} {rest : List Value} {Q : Unit → Shared → Prop}
    (hC : h.get? C = some (excClassObj nm q C N bs bm hdct sn sub ab col dd k0 k1 k2 k3 k5 newId)) (he : h.get? e = some oe) (hcls : oe.cls = .ref C) (hq : Q () ⟨h, g, d, t, os⟩) :
    wpAny M A (checkBuiltinCall initId ⟨.ref e :: rest, []⟩) Q E ⟨h, g, d, t, os⟩ := by
  have hcB : (Value.ref C :: bm).contains (.type B) = true := by rw [List.contains_cons, hB, Bool.or_true]
  have hshort := F.noStar
  simp only [checkBuiltinCall, F.kind, F.split, F.row]
  repeat (first | (with_reducible refine wpAny_loadPart_at he ?_; rw [hcls]) | with_reducible refine wpAny_loadPart_at hC ?_ | (with_reducible refine wpAny_isSubtype_exc hC ?_; rw [hcB]) | wp_step)
  refine wpAny_onRaise ?_
  rw [show ∀ (a b : String) (n : Nat), Bind.check ⟨.positional, "*", B, .self, [⟨"args", .varPos, false⟩]⟩ a b n (List.map (fun x => x.fst) ({ pos := Value.ref e :: rest } : Args).kw) = pure () from
    fun a b n => check_star_args _ _ _ _ _ _]
  exact wpAny_pure hq
end
section
variable {prog : Program} {w : World} {A : Around} {E : Value → Shared → Prop} {R : Result → Shared → Prop} {h : Heap} {g : Array GenState} {d : Drawn} {t : Nat} {os : OsState}
variable {nm q : Str} {C N : Addr} {bs bm bmB : List Value} {hdct : Bool} {sn : List Str} {sub : List Value} {ab : Bool} {col : Option Bool} {dd : Option Addr} {k0 k1 k2 k3 k5 : Option Value} {B newId initId : String}
theorem new_own (F : ExcBaseFacts B newId initId bmB) (hT : Bm B bm) {rest : List Value}
    (hC : h.get? C = some (excClassObj nm q C N bs bm hdct sn sub ab col dd k0 k1 k2 k3 k5 newId))
    (hq : R (.ok (.ret (.ref (h.objs.size + 1)))) ⟨(h.push { cls := .type "tuple", data := .seq rest.toArray }).push
      { cls := .ref C, data := .fields #[.ref h.objs.size, .none, .none, .none, .bool false, .none] }, g, d, t, os⟩) (hrest : rest.length ≤ sizeLine) :
    codeAny (model prog w) A (.builtin newId ⟨.ref C :: rest, []⟩) R ⟨h, g, d, t, os⟩ := by
  have hends := F.ends
  have hcB : (Value.ref C :: bm).contains (.type B) = true := by rw [List.contains_cons, hT.hB, Bool.or_true]
  have hcA : (Value.ref C :: bm).contains (.type "AttributeError") = false := by rw [List.contains_cons, hT.hA]; rfl
  have hcN : (Value.ref C :: bm).contains (.type "NameError") = false := by rw [List.contains_cons, hT.hN]; rfl
  refine codeAny_builtinAt F.entry ?_
  unfold Builtin.«BaseException.__new__»
  refine wpAt_bind ?_
  show wpAt _ _ _ (stack >>= _) _ _ _
  refine wpAt_bind (wpAt_stack fun p below => wpAt_of_wpAny ?_)
  wp_walk
  refine wpAt_of_wpAny ?_
  rw [F.owner]
  repeat (first | with_reducible refine wpAny_madeHere_exc F.canon hC ?_ | with_reducible refine wpAny_loadPart_at hC ?_ | (with_reducible refine wpAny_isSubtype_exc hC ?_; first | rw [hcB] | rw [hcA] | rw [hcN]) | wp_step)
  show R _ _
  rw [Heap.size_push]
  exact hq
theorem type_call_own (F : ExcBaseFacts B newId initId bmB) (hT : Bm B bm) {rest : List Value} {fI : Addr} {Q : Fin → Shared → Prop}
    (hC : h.get? C = some (excClassObj nm q C N bs bm hdct sn sub ab col dd k0 k1 k2 k3 k5 newId))
    (hi : W.Looks (model prog w) h (typeLookup (.ref C) "__init__") (some (.ref fI))) (hb : ∀ self, W.Looks (model prog w) h (bindSpecial (.ref fI) self) (.ref fI, [self])) (hrest : rest.length ≤ sizeLine)
    (hq : codeAny (model prog w) A (.call (.ref fI) ⟨.ref (h.objs.size + 1) :: rest, []⟩)
      (fun r s' => match r with | .ok (.ret v) => v = .none ∧ Q (.done (.ret (.ref (h.objs.size + 1)))) s' | .ok _ => False | .error e => E e s')
      ⟨(h.push (W.kdv_tup rest)).push (excO C h.objs.size), g, d, t, os⟩) :
    wpAny (model prog w) A (Builtin.«type.__call__» ⟨.ref C :: rest, []⟩) Q E ⟨h, g, d, t, os⟩ := by
  repeat (first | with_reducible refine wpAny_loadPart_at hC ?_ | with_reducible refine wpAny_madeBy_exc hC ?_ | wp_step)
  refine codeAny_call_builtin_code (Code.quiet_builtin _ F.quiet) (check_new_own F hT hC ?_)
  refine new_own F hT hC ?_ hrest
  show wpAny _ _ _ _ _ _
  have k : ∀ b o, h.get? b = some o → ((h.push (W.kdv_tup rest)).push (excO C h.objs.size)).get? b = some o := fun b o e => Heap.get?_push_of_some _ (Heap.get?_push_of_some _ e)
  have hC₁ := k _ _ hC
  have hget : ((h.push (W.kdv_tup rest)).push (excO C h.objs.size)).get? (h.objs.size + 1) = some (excO C h.objs.size) := by heap_get
  have hcC : (Value.ref C :: bm).contains (.ref C) = true := by simp
  have i1 := hi.keeps k
  have b1 := (hb (.ref (h.objs.size + 1))).keeps k
  unfold isInstance
  repeat (first | with_reducible refine wpAny_loadPart_at hget ?_ | (with_reducible refine wpAny_isSubtype_exc hC₁ ?_; rw [hcC]) | wp_step)
  show wpAny _ _ (typeLookup (.ref C) _) _ _ _
  refine i1.at ?_
  refine wpAny_holding (wpAny_bind (b1.at ?_))
  refine wpAny_bind (wpAny_call (codeAny_mono hq fun r s' z => ?_))
  rcases r with e | (v | _ | _ | _) <;> first | exact z | exact z.elim | skip
  obtain ⟨rfl, z⟩ := z
  first
    | exact wpAny_pure (wpAny_pure z)
    | (wp_walk; exact z)
theorem call_own (F : ExcBaseFacts B newId initId bmB) (hT : Bm B bm) {rest : List Value} {fI : Addr}
    (hC : h.get? C = some (excClassObj nm q C N bs bm hdct sn sub ab col dd k0 k1 k2 k3 k5 newId))
    (hi : W.Looks (model prog w) h (typeLookup (.ref C) "__init__") (some (.ref fI))) (hb : ∀ self, W.Looks (model prog w) h (bindSpecial (.ref fI) self) (.ref fI, [self])) (hrest : rest.length ≤ sizeLine)
    (hq : codeAny (model prog w) (A.under (.builtin "type.__call__" ⟨.ref C :: rest, []⟩)) (.call (.ref fI) ⟨.ref (h.objs.size + 1) :: rest, []⟩) (W.InitBack (h.objs.size + 1) R)
      ⟨(h.push (W.kdv_tup rest)).push (excO C h.objs.size), g, d, t, os⟩) :
    codeAny (model prog w) A (.call (.ref C) ⟨rest, []⟩) R ⟨h, g, d, t, os⟩ := by
  have f1 := tc_lookup
  have f2 := tc_bind (.ref C)
  have hTy : (⟨h, g, d, t, os⟩ : Shared).TypeIs (.ref C) "type" := ⟨_, hC, rfl⟩
  refine codeAny_of_tree ?_
  show wpAny _ _ (callAny (.ref C) _) _ _ _
  repeat (any_goals (first | assumption | with_reducible refine wpAny_loadPart_at hC ?_ | wp_step))
  refine ⟨rfl, ?_⟩
  refine codeAny_call_builtin_at (Code.quiet_builtin _ (by decide +kernel)) entry_typeCall (wpAny_check_type_call_sub hC (type_call_own F hT hC hi hb hrest ?_))
  refine codeAny_mono hq fun r s' z => ?_
  rcases r with e | (v | _ | _ | _) <;> exact z
theorem init_base (F : InitF B initId) (hB : bm.contains (.type B) = true) {e t0 : Addr} {rest : List Value}
    (hC : h.get? C = some (excClassObj nm q C N bs bm hdct sn sub ab col dd k0 k1 k2 k3 k5 newId)) (he : h.get? e = some (excO C t0)) (hrest : rest.length ≤ sizeLine)
    (hq : ∀ h' t1, (∀ b o, b ≠ e → h.get? b = some o → h'.get? b = some o) → h'.get? e = some (excO C t1) → R (.ok (.ret .none)) ⟨h', g, d, t, os⟩) :
    codeAny (model prog w) A (.call (.builtin initId) ⟨.ref e :: rest, []⟩) R ⟨h, g, d, t, os⟩ := by
  refine codeAny_call_builtin F.plain F.entry (check_init_own F hB hC he rfl ?_)
  wp_walk
  refine hq _ h.objs.size (fun b o hb ho => ?_) ?_
  · rw [Heap.get?_update_other _ _ (Ne.symm hb)]
    exact Heap.get?_push_of_some _ ho
  · rw [Heap.get?_update_self _ (Heap.get?_push_of_some _ he) rfl]
    rfl
end
section
variable {prog : Program} {w : World} {A : Around} {E : Value → Shared → Prop} {R : Result → Shared → Prop} {hp : Heap} {g : Array GenState} {d : Drawn} {t : Nat} {os : OsState}
theorem exc_osa {K : W.Frag} {name : Str} {tk : Tok} {v : Value} {x C : Addr} {fv : Array Value} {cd : ClassData}
    (X : K.In hp) (hx : hp.get? x = some { cls := .ref C, data := .fields fv }) (hcd : W.clsIn K C = some cd) (hm : tailOk cd.mro = true) (hh : cd.hasDict = true) (ha : W.findIn K (.ref C) name = some none)
    (hq : ∀ h' tk' dx, (∀ b o, b ≠ x → hp.get? b = some o → h'.get? b = some o) → hp.objs.size ≤ dx → dx ≠ x → h'.get? x = some { cls := .ref C, dict := some dx, data := .fields fv } →
      h'.Ns1 dx (fun y => if y = name then some v else none) → R (.ok (.ret .none)) ⟨h', g, d, tk', os⟩) :
    codeAny (model prog w) A (.call (.builtin "object.__setattr__") ⟨[.ref x, .str name tk, v], []⟩) R ⟨hp, g, d, t, os⟩ := by
  have I : W.InstAt hp x { cls := .ref C, data := .fields fv } C none := ⟨hx, rfl, rfl, trivial⟩
  have SF := F.store_object
  have ne := tail_ne hm
  have hob : cd.mro.contains (.type "object") = true := tail_object _ hm
  have hxs : x ≠ hp.objs.size := Nat.ne_of_lt (Heap.lt_size hx)
  have sub : W.Looks (model prog w) hp (isInstance (.ref x) (.type "object")) true := I.type.andThen (W.looks_mroIn X (by unfold W.mroIn; rw [hcd, Option.bind_some, if_neg (by rw [ne]; decide), hob]))
  refine codeAny_call_builtin SF.slot.plain SF.entry (@W.check_slot (model prog w) _ _ ⟨hp, g, d, t, os⟩ "object.__setattr__" "object" "__setattr__" (.ref x) [.str name tk, v] [] _ SF.kind SF.split sub (SF.args (.ref x) (.str name tk) v) ?_)
  have hmr : W.Looks (model prog w) hp (mroOf (.ref C)) cd.mro := (W.looks_clsIn X hcd).andThen .now
  have L3 : W.Looks (model prog w) hp (storeTaker? none) none := .now
  have hcls : W.Looks (model prog w) hp (classData C) cd := W.looks_clsIn X hcd
  rw [W.osa_eq, refuse_eq]
  refine wpAny_bind (wpAny_bind (I.type.at (wpAny_bind (hmr.at ?_))))
  rw [tail_pass _ _ hm]
  refine wpAny_pure (wpAny_bind (I.type.at (wpAny_bind ((W.looks_findIn X ha).at (wpAny_bind (L3.at ?_))))))
  show wpAny _ _ (storeInOwnDict (.ref x) (.ref C) (.str name tk) name v false) _ _ _
  obtain ⟨nm, bs, mro, ns, qn, hd, sn, sb, ab, col, del⟩ := cd
  dsimp only at hh
  subst hh
  unfold storeInOwnDict ownDictForStores
  repeat (first | with_reducible refine store_in_new ?_ ?_ | with_reducible refine wpAny_loadPart_at hx ?_ | with_reducible refine hcls.at ?_ | wp_step)
  · exact ⟨_, #[], _, (Heap.get?_update_ne _ _ _ _ hxs.symm).trans (Heap.get?_push_at rfl rfl), rfl, fun e he => absurd he (by simp), fun _ => rfl⟩
  · intro h' tk' hn' hs
    have hx₁ : (hp.push { cls := .type "dict", data := .dict #[] }).get? x = some { cls := .ref C, data := .fields fv } := Heap.get?_push_of_some _ hx
    refine hq h' tk' hp.objs.size (fun b o hb ho => ?_) (Nat.le_refl _) hxs.symm ?_ hn'
    · exact (hs.2 b (Nat.ne_of_lt (Heap.lt_size ho))).trans ((Heap.get?_update_ne _ _ _ _ hb).trans (Heap.get?_push_of_some _ ho))
    · exact (hs.2 x hxs).trans (Heap.get?_update_self _ hx₁ rfl)
end
end PySem.LpX

set_option Elab.async false
set_option linter.all false
set_option maxRecDepth 100000
set_option maxHeartbeats 4000000
namespace Lp
open PySem PySem.Spec PyProof.Rows L2
/-! ### an own exception class, as the written part has it -/
structure XC (K : PySem.W.Frag) (C : Addr) (Bn newId B initId : String) : Prop where
  cls : ∃ nm q N bs bm sn sub ab col dd k0 k1 k2 k3 k5, K.lookup C = some (excClassObj nm q C N bs bm true sn sub ab col dd k0 k1 k2 k3 k5 newId) ∧ LpX.tailOk bm = true ∧ LpX.Bm Bn bm ∧ bm.contains (.type B) = true
  sa : PySem.W.findIn K (.ref C) "__setattr__" = some (some (.builtin "object.__setattr__"))
  kC : PySem.W.keepIn K (.ref C) = true
  ga : PySem.W.findIn K (.ref C) "__getattribute__" = some (some (.builtin "BaseException.__getattribute__"))
  gg : PySem.W.findIn K (.ref C) "__getattr__" = some none
  exC : PySem.W.subIn K (.ref C) (.type "BaseException") = some true
  tyC : PySem.W.typeIn K (.ref C) = some (.type "type")
  ha : PySem.W.findIn K (.ref C) "__class__" = some (some (.builtin "object.__class__"))
  hn : PySem.W.specialIn K (.builtin "object.__class__") "__get__" = some (some (.builtin "getset_descriptor.__get__"))
  ht : PySem.W.takesIn K (.builtin "object.__class__") = some true
  hm : PySem.W.mroIn K C (.type "object") = some true
theorem XC.cl {K : PySem.W.Frag} {C : Addr} {Bn newId B initId : String} (T : XC K C Bn newId B initId) : ∃ cd, PySem.W.clsIn K C = some cd ∧ LpX.tailOk cd.mro = true ∧ cd.hasDict = true := by
  obtain ⟨nm, q, N, bs, bm, sn, sub, ab, col, dd, k0, k1, k2, k3, k5, hC, hbm, _⟩ := T.cls
  exact ⟨{ name := nm, bases := bs, mro := .ref C :: bm, ns := N, qualname := q, hasDict := true, slotNames := sn, subclasses := sub, abstract := ab, collection := col, hasDel := false }, by unfold PySem.W.clsIn; rw [hC] <;> rfl, hbm, rfl⟩
section
variable {X : Cx} {pins : List (Addr × Obj)} {σ : L2.St} {H : Hp} {s : Shared} {a C dx : Addr} {f : Str} {y : V} {u : Value} {fs : List (Str × V)} {Q : Unit → Shared → Prop} {E : Value → Shared → Prop} {A : Around} {Bn newId B initId : String}
theorem xst_new (T : XC X.K C Bn newId B initId) (I : Inv X pins σ H s) (e : H a = some (exo a C none)) (hno : PySem.W.findIn X.K (.ref C) f = some none) (ry : RelV y u)
    (h : ∀ dx s', H dx = none → dx ≠ a → Inv X pins σ (upd (upd H dx (exd dx [(f, y)])) a (exo a C (some dx))) s' → Q () s') : wpAny (model X.prog X.w) A (setAttr (.ref a) f u) Q E s := by
  obtain ⟨cd, hcl, htl, hdt⟩ := T.cl
  obtain ⟨t1, ho⟩ := exo_at I.hok e
  obtain ⟨hp, g, d, t, os⟩ := s
  refine PySem.W.set_plain I.kIn (ox := { cls := .ref C, dict := none, data := .fields #[.ref t1, .none, .none, .none, .bool false, .none] }) (od := none) ⟨ho, rfl, rfl, trivial⟩ T.sa ?_
  refine LpX.exc_osa I.kIn ho hcl htl hdt hno (fun h' tk' dx k dn dne hx hn => ?_)
  have fr : H dx = none := I.hok.fresh dn
  have off : ∀ {b : Addr} {o : Obj}, hp.get? b = some o → b ≠ dx := fun {b o} q => Nat.ne_of_lt (Nat.lt_of_lt_of_le (Heap.lt_size q) dn)
  have na : ∀ {b : Addr}, H b = none → b ≠ a := fun {b} n z => by rw [z, e] at n; cases n
  refine h dx _ fr dne (I.un (t' := tk') (h' := h') ?_ fun b o q => ?_)
  · refine ⟨fun b o q n _ _ => k b o (na n) q, fun b o q n _ _ => ⟨o.slots, k b o (na n) q⟩, fun b o q n _ => ?_, fun b o q _ => ?_, fun b xs q => ?_, fun b o v q => ?_, fun b ps q => ⟨#[], ?_⟩⟩
    · rw [upd_ne (na n), upd_ne (off q)]; exact n
    · by_cases hb : b = a
      · exact ⟨_, by rw [hb]; exact hx⟩
      · exact ⟨o, k b o hb q⟩
    · rw [upd_ne (at_ne e q exo_tup), upd_ne (ne_of_none q fr)]; exact q
    · rw [upd_ne (at_ne e q exo_frz), upd_ne (ne_of_none q fr)]; exact q
    · rw [upd_ne (at_ne e q exo_tbl), upd_ne (ne_of_none q fr), q]; simp
  · by_cases hb : b = a
    · subst hb
      rw [upd_same] at q
      cases q
      exact exo_ok hx
    · rw [upd_ne hb] at q
      by_cases hd : b = dx
      · subst hd
        rw [upd_same] at q
        cases q
        exact exd_ok hn (relO_put (fs := []) ry fun g => True.intro)
      · rw [upd_ne hd] at q
        refine (I.hok b o q).stay (fun c v hc z => k c v (fun zc => ?_) z) (fun c z => ?_) (fun c xs z => ?_)
        · rcases hc with hc | hc
          · exact hb (hc.symm.trans zc)
          · rw [zc, e] at hc; exact absurd (Option.some.inj hc) exo_own
        · rw [upd_ne (at_ne e z exo_own), upd_ne (ne_of_none z fr)]; exact z
        · rw [upd_ne (at_ne e z exo_tup), upd_ne (ne_of_none z fr)]; exact z
theorem xinit_ok {us : List Value} {Q : Value → Shared → Prop} (F : LpX.InitF B initId) (T : XC X.K C Bn newId B initId) (I : Inv X pins σ H s) (e : H a = some (exo a C none)) (hl : us.length ≤ sizeLine) (h : ∀ s', Inv X pins σ H s' → Q .none s') :
    wpAny (model X.prog X.w) A (call (.builtin initId) (.ref a :: us)) Q E s := by
  obtain ⟨nm, q, N, bs, bm, sn, sub, ab, col, dd, k0, k1, k2, k3, k5, hC, _, _, hB⟩ := T.cls
  obtain ⟨t1, ho⟩ := exo_at I.hok e
  obtain ⟨hp, g, d, t, os⟩ := s
  refine wpAny_call (LpX.init_base F hB (I.kIn _ _ hC) ho hl fun h' t2 k hx => ?_)
  have J := I.write (t' := t) (x := a) (e := a) (o := exo a C none) (by rw [e]; exact True.intro) (.inl rfl) k ⟨_, hx⟩ (exo_ok hx)
  have eu : upd H a (exo a C none) = H := by
    funext b
    by_cases hb : b = a
    · rw [hb, upd_same, e]
    · rw [upd_ne hb]
  rw [eu] at J
  exact h _ J
end
/-! ### readings and rules -/
def tXI (K : PySem.W.Frag) (Bn newId B initId : String) (ta : TA) : TE := fun σ H Q => ta σ H fun vs H1 => ∃ (a C : Addr) (ws : List V), vs = .ref a :: ws ∧ ws.length ≤ 1000 ∧ XC K C Bn newId B initId ∧ H1 a = some (exo a C none) ∧ Q .non H1
def tXst (K : PySem.W.Frag) (Bn newId B initId : String) (f : Str) (to te : TE) : TS := fun D σ H => te σ H fun y H1 => to σ H1 fun x H2 => ∃ a C : Addr, x = .ref a ∧ XC K C Bn newId B initId ∧ PySem.W.findIn K (.ref C) f = some none ∧
  H2 a = some (exo a C none) ∧ ∀ dx, H2 dx = none → dx ≠ a → D.nx σ (upd (upd H2 dx (exd dx [(f, y)])) a (exo a C (some dx)))
section
variable {X : Cx} {o e : Expr} {es : List Expr} {to te : TE} {ta : TA} {f x : Str} {p p' p1 p2 pos : Pos} {Bn newId B initId : String}
/-- P.__init__(self, ..), P a class of the program's own -/
theorem pe_xinit {P : Addr} {pl : Sem Bool} (F : LpX.InitF B initId) (hg : Gl X x) (hm : X.mg x = some (.ref P)) (hs : PySem.W.specialIn X.K (.ref P) "__getattribute__" = some (some (.builtin "type.__getattribute__"))) (ht : PySem.W.typeIn X.K (.ref P) = some (.type "type"))
    (hr : PySem.W.readsIn X.K P (.type "type") = true) (hv : PySem.W.findCls X.K (.ref P) (.type "type") "__init__" = some (.val (.builtin initId))) (hh : PySem.W.handedIn (.builtin initId) = true) (ha : PA X (e :: es) ta) (hdb : (x == ("__debug__" : Str)) = false := by decide)
    (hc : eval (.Call (.Attribute (.Name x p1) "__init__" p2) (e :: es) [] pos) X.env = (do
      let ov ← eval (.Name x p1) X.env
      standAt p2.atName
      let (f, first) ← holding [ov] (getMethod ov "__init__" pl)
      callWith pos f first (backTo pos (starEach (e :: es) X.env)) (backToKw pos (keywordEach [] X.env))) := by rfl)
    (he : starEach (e :: es) X.env = (false, eval e X.env) :: starEach es X.env := by rfl) (hpl : (backTo pos (starEach es X.env)).any (·.1) = false := by rfl) :
    PE X (.Call (.Attribute (.Name x p1) "__init__" p2) (e :: es) [] pos) (tXI X.K Bn newId B initId ta) := by
  refine ⟨fun pins s σ H Q I h => ?_⟩
  refine PySem.W.methodCall_KW (ld_glob I hg hm ?_ hdb) hc
  obtain ⟨m, fr⟩ := I.fr
  refine PySem.W.method_of_cls fr I.ok.mod.kin hs (PySem.W.cls_val fr I.ok.mod.kin ht hr hv hh ?_)
  refine PyProof.Rows.callWith_method1 (thn (ha.run pos pins _ σ H _ (I.tok _) h) fun us s1 ⟨vs, H1, I1, r1, a, C, ws, ev, hl, T, ea, q⟩ => ?_) he hpl
  subst ev
  cases r1 with
  | @cons _ u0 _ ur ra rw' =>
    obtain rfl : u0 = Value.ref a := ra
    have hlen : ur.length ≤ sizeLine := by rw [← Paired.length rw', sizeLine_eq]; omega
    exact xinit_ok F T I1 ea hlen fun s' J => ⟨.non, H1, J, rfl, q⟩
/-- B.__init__(self, ..), B a built-in class -/
theorem pe_binit {pl : Sem Bool} (F : LpX.InitF B initId) (hg : Gl X x) (hm : X.mg x = none) (hb : bootBuiltins x = some (.type B)) (hty : typeOf (.type B) = pure (.type "type")) (hst : Manifest.isStub B = false)
    (hv : PySem.W.findCls X.K (.type B) (.type "type") "__init__" = some (.val (.builtin initId))) (hh : PySem.W.handedIn (.builtin initId) = true) (ha : PA X (e :: es) ta) (hdb : (x == ("__debug__" : Str)) = false := by decide) (hnm : x ≠ "__name__" := by decide)
    (hc : eval (.Call (.Attribute (.Name x p1) "__init__" p2) (e :: es) [] pos) X.env = (do
      let ov ← eval (.Name x p1) X.env
      standAt p2.atName
      let (f, first) ← holding [ov] (getMethod ov "__init__" pl)
      callWith pos f first (backTo pos (starEach (e :: es) X.env)) (backToKw pos (keywordEach [] X.env))) := by rfl)
    (he : starEach (e :: es) X.env = (false, eval e X.env) :: starEach es X.env := by rfl) (hpl : (backTo pos (starEach es X.env)).any (·.1) = false := by rfl) :
    PE X (.Call (.Attribute (.Name x p1) "__init__" p2) (e :: es) [] pos) (tXI X.K Bn newId B initId ta) := by
  refine ⟨fun pins s σ H Q I h => ?_⟩
  refine PySem.W.methodCall_KW (ld_blt I hg hm hb ?_ hnm hdb) hc
  obtain ⟨m, fr⟩ := I.fr
  refine PySem.W.method_type fr I.ok.mod.kin hty hst hv hh ?_
  refine PyProof.Rows.callWith_method1 (thn (ha.run pos pins _ σ H _ (I.tok _) h) fun us s1 ⟨vs, H1, I1, r1, a, C, ws, ev, hl, T, ea, q⟩ => ?_) he hpl
  subst ev
  cases r1 with
  | @cons _ u0 _ ur ra rw' =>
    obtain rfl : u0 = Value.ref a := ra
    have hlen : ur.length ≤ sizeLine := by rw [← Paired.length rw', sizeLine_eq]; omega
    exact xinit_ok F T I1 ea hlen fun s' J => ⟨.non, H1, J, rfl, q⟩
theorem ps_xst (ho : PE X o to) (he : PE X e te) (hs : swapsWith e (some (.Attribute o f p')) pos.line X.env = pure false := by rfl) : PS X (.Assign [.Attribute o f p'] e pos) (tXst X.K Bn newId B initId f to te) := by
  refine ⟨fun pins s σ H D I h => ?_⟩
  refine plainObj_wpAny_Assign_Attribute (thn (he.run pins s σ H _ I h) fun v s1 ⟨y, H1, I1, r1, q1⟩ => thn (ho.run pins s1 σ H1 _ I1 q1) fun u s2 ⟨x, H2, I2, r2, a, C, ex, T, hno, ea, q⟩ => ?_) hs
  subst ex
  obtain rfl : u = Value.ref a := r2
  exact xst_new T I2 ea hno r1 fun dx s' n ne J => ⟨σ, _, J, q dx n ne⟩
/-- C(e, ..) as a value, C's own __init__ keeping sp -/
def tXMk (C : Addr) (sp : Sp) (ta : TA) : TE := fun σ H Q => ta σ H fun vs H1 => vs.length ≤ 1000 ∧ ∀ a, H1 a = none → sp (.ref a :: vs) (upd H1 a (exo a C none)) (fun v H2 => v = .non ∧ Q (.ref a) H2) (fun _ _ _ => False)
theorem pe_xmk {CX : CXT} {C fI : Addr} {k : Nat} {fd : FuncData} {ps : List Str} {sp : Sp} {i' : String} {bm' : List Value} (F : ExcBaseFacts Bn newId i' bm') (T : XC X.K C Bn newId B initId) (iC : PySem.W.findIn X.K (.ref C) "__init__" = some (some (.ref fI))) (tI : PySem.W.typeIn X.K (.ref fI) = some (.type "function"))
    (F1 : FnOk X.prog X.w X.K X.mg X.base CX k fI fd ps sp) (hr : Room (k + 1) X.A) (hb : Binds X.K fd ps []) (hx : Passes CX X (fun _ _ _ => False)) (hg : Gl X x) (hm : X.mg x = some (.ref C)) (ha : PA X (e :: es) ta)
    (hdb : (x == ("__debug__" : Str)) = false := by decide) (he : starEach (e :: es) X.env = (false, eval e X.env) :: starEach es X.env := by rfl) (hpl : (backTo pos (starEach es X.env)).any (·.1) = false := by rfl) :
    PE X (.Call (.Name x p) (e :: es) [] pos) (tXMk C sp ta) := by
  refine ⟨fun pins s σ H Q I h => ?_⟩
  obtain ⟨nm, q, N, bs, bm, sn, sub, ab, col, dd, k0, k1, k2, k3, k5, hC, _, hBm, _⟩ := T.cls
  refine wpAny_Call_Name_kw (ld_glob I hg hm ?_ hdb)
  refine PySem.W.callWith_K (h₀ := X.base) I.ok.mod.kin T.kC (thn (ha.run pos pins s σ H _ I h) fun us s1 ⟨vs, H1, I1, r1, hz, q1⟩ => ⟨I1.kIn, ?_⟩) he hpl
  obtain ⟨hp, g, dr, tk, os⟩ := s1
  have up : hp.objs.size ≤ hp.objs.size + 1 := Nat.le_succ _
  have hq := q1 (hp.objs.size + 1) (I1.hok.fresh up)
  have kk : ∀ b o, hp.get? b = some o → ((hp.push (PySem.W.kdv_tup us)).push (PySem.HandSPX.excO C hp.objs.size)).get? b = some o := fun b o e => Heap.get?_push_of_some _ (Heap.get?_push_of_some _ e)
  have hget : ((hp.push (PySem.W.kdv_tup us)).push (PySem.HandSPX.excO C hp.objs.size)).get? (hp.objs.size + 1) = some (PySem.HandSPX.excO C hp.objs.size) := by heap_get
  have I2 := I1.laid (t' := tk) (a := hp.objs.size + 1) (o := exo (hp.objs.size + 1) C none) (h' := (hp.push (PySem.W.kdv_tup us)).push (PySem.HandSPX.excO C hp.objs.size)) kk up (exo_ok hget)
  have r2 : Vals (V.ref (hp.objs.size + 1) :: vs) (Value.ref (hp.objs.size + 1) :: us) := .cons rfl r1
  have hl : (Value.ref (hp.objs.size + 1) :: us).length = ps.length := (r2.length.symm.trans (F1.len _ _ _ _ hq))
  have hus : us.length ≤ sizeLine := by rw [← Paired.length r1, sizeLine_eq]; omega
  have hb1 := hb _ (Value.ref (hp.objs.size + 1) :: us) I2.kIn (by simpa using hl)
  rw [List.append_nil] at hb1
  refine wpAny_call (LpX.call_own F hBm (I1.kIn _ _ hC) (PySem.W.looks_findIn I1.kIn iC) (fun self => PySem.W.bind_fn I1.kIn self tI) hus
    (codeAny_mono (F1.run _ X.stack _ _ ⟨Value.ref (hp.objs.size + 1) :: us, []⟩ (Value.ref (hp.objs.size + 1) :: us) _ _ (fun _ _ _ => False) (hr.make C us []) (I2.env0.make C us []) hb1 r2 hq) fun r s' hq' => ?_))
  cases r with
  | error er => exact hx pins σ _ _ er s' I2 hq'
  | ok fl =>
    cases fl with
    | ret u =>
      obtain ⟨v, H', I3, rv, ev, q3⟩ := I2.after hq'
      subst ev
      exact ⟨rv, ⟨V.ref (hp.objs.size + 1), H', I3, rfl, q3⟩⟩
    | next => exact False.elim hq'
    | brk => exact False.elim hq'
    | cont => exact False.elim hq'
/-- e.f, e an exception with its dict -/
def XCe (K : PySem.W.Frag) (C : Addr) : Prop := ∃ Bn newId B initId, XC K C Bn newId B initId
def tXfld (K : PySem.W.Frag) (te : TE) (f : Str) : TE := fun σ H Q => te σ H fun x H1 => ∃ (a C dx : Addr) (fs : List (Str × V)) (v : V), x = .ref a ∧ XCe K C ∧ PySem.W.findIn K (.ref C) f = some none ∧ H1 a = some (exo a C (some dx)) ∧ H1 dx = some (exd dx fs) ∧ fs.lookup f = some v ∧ Q v H1
theorem XC.hd {K : PySem.W.Frag} {C : Addr} (T : XC K C Bn newId B initId) : PySem.W.hasDictIn K C = true := by
  obtain ⟨cd, hc, _, hd⟩ := T.cl
  unfold PySem.W.hasDictIn
  rw [hc]
  exact hd
theorem pe_xfld (he : PE X e te) (hb : attributeBase e f X.env (eval e X.env) = eval e X.env := by rfl) : PE X (.Attribute e f pos) (tXfld X.K te f) := by
  refine ⟨fun pins s σ H Q I h => ?_⟩
  refine attr_of hb (thn (he.run pins s σ H _ I h) fun u s1 hh => ?_)
  obtain ⟨x, H1, I1, rx, a, C, dx, fs, v, ex, ⟨Bn, newId, B, initId, T⟩, hno, ea, ed, l, q⟩ := hh
  subst ex
  obtain rfl : u = Value.ref a := rx
  obtain ⟨t1, ho⟩ := exo_at I1.hok ea
  obtain ⟨mA, hns, hr⟩ := exd_at I1.hok ed
  obtain ⟨od, hod, hl⟩ := lookIn_ns hns
  obtain ⟨u, hu, ru⟩ := RelO.some_of (v := v) (o := mA f) (by rw [← l]; exact hr f)
  have J : PySem.W.InstAt s1.heap a { cls := .ref C, dict := some dx, data := .fields #[.ref t1, .none, .none, .none, .bool false, .none] } C (some od) := ⟨ho, rfl, rfl, hod⟩
  exact HandSPX.exc_get I1.kIn J T.ga T.gg T.exC (PySem.W.findObj_own T.hd hno rfl (by rw [hl, hu])) (handed_of ru) ⟨v, H1, I1.tok _, ru, q⟩
/-- isinstance(e, c) -/
def rXis (K : PySem.W.Frag) : List V → Hp → VK → Prop := fun xs H Q => ∃ (a C dx : Addr) (fs : List (Str × V)) (c : V) (cv : Value) (b : Bool), xs = [.ref a, c] ∧ (∀ u, RelV c u → u = cv) ∧ XCe K C ∧ H a = some (exo a C (some dx)) ∧ H dx = some (exd dx fs) ∧ PySem.W.kitOne K (.ref C) cv = some b ∧ Q (.bl b) H
theorem call_xis : CallR X (.builtin "isinstance") (rXis X.K) := by
  intro pins s σ H xs us Q I r h
  obtain ⟨a, C, dx, fs, c, cv, b, rfl, hcv, ⟨Bn, newId, B, initId, T⟩, ea, ed, e, q⟩ := h
  cases r with
  | cons rx rr =>
    cases rr with
    | cons rt rr =>
      cases rr
      cases rx
      have ec := hcv _ rt
      subst ec
      obtain ⟨t1, ho⟩ := exo_at I.hok ea
      obtain ⟨mA, hns, hr⟩ := exd_at I.hok ed
      obtain ⟨od, hod, hl⟩ := lookIn_ns hns
      have J : PySem.W.InstAt s.heap a { cls := .ref C, dict := some dx, data := .fields #[.ref t1, .none, .none, .none, .bool false, .none] } C (some od) := ⟨ho, rfl, rfl, hod⟩
      obtain ⟨cd, hcl, _⟩ := T.cl
      exact PySem.W.kia_one (PySem.W.kitx_exc (by rw [hcl]; rfl) T.ga T.gg T.exC T.ha T.hn T.ht T.hm) I.kIn J e (fun z => nomatch z) fun tk => ⟨.bl b, H, I.kept (t' := tk) fun _ _ z => z, rfl, q⟩
end
end Lp

set_option Elab.async false
set_option linter.all false
set_option maxRecDepth 100000
set_option maxHeartbeats 4000000
namespace Lp
open PySem PySem.Spec PyProof.Rows L2
/-! ### a def's promise where nothing is being shown (no repr runs around it) -/
structure FnG (P : Program) (w : World) (K : PySem.W.Frag) (mg : Str → Option Value) (base : Heap) (CX : CXT) (k : Nat) (f : Addr) (fd : FuncData) (ps : List Str) (sp : Sp) : Prop where
  len : ∀ vs H Q E, sp vs H Q E → vs.length = ps.length
  run : ∀ (A : Around) (outer : List Env) (s : Shared) (H : Hp) (args : Args) (us : List Value) (vs : List V) (Q : VK) (E : XK), A.guards = some [] → Room k A → Env0 P w K mg base A outer s H → BindsTo s fd args (ps.zip us) → Vals vs us →
    sp vs H Q E → codeAny (model P w) A (.call (.ref f) args) (CR CX outer P w H s Q E) s
section
variable {P : Program} {w : World} {K : PySem.W.Frag} {mg : Str → Option Value} {base : Heap} {CX : CXT} {f : Addr} {fd : FuncData} {ps : List Str} {sp : Sp}
theorem FnG.of {k : Nat} (F : FnOk P w K mg base CX k f fd ps sp) : FnG P w K mg base CX k f fd ps sp := ⟨F.len, fun A o s H a us vs Q E _ => F.run A o s H a us vs Q E⟩
theorem FnG.mono {j k : Nat} (F : FnG P w K mg base CX j f fd ps sp) (h : j ≤ k) : FnG P w K mg base CX k f fd ps sp := ⟨F.len, fun A o s H a us vs Q E g hr => F.run A o s H a us vs Q E g (hr.mono h)⟩
theorem guards_deeper (A : Around) (e : Env) : (A.deeper e).guards = A.guards := by first | rfl | simp [Around.deeper]
/-- a body read at one context of a call -/
theorem body_at {k : Nat} {name qual : Str} {params : Arguments} {body : List Stmt} {scope : Scope} {dV kV doc pm cdv ct oc : Value} {an od : Option Addr} {osl : Array (Option Value)} {N : List Str}
    (lk : K.lookup f = some ⟨oc, od, .func (PySem.W.fnOf name qual params body scope dV kV doc pm an cdv ct), osl⟩) (hcd : PySem.W.codeIn K cdv qual = true) (S : FnScope N ps scope)
    {A : Around} {outer : List Env} {s : Shared} {H : Hp} {args : Args} {us : List Value} {vs : List V} {Q : VK} {E : XK} (hl : vs.length = ps.length) (hr : Room (k + 1) A) (e0 : Env0 P w K mg base A outer s H)
    (hb : BindsTo s (PySem.W.fnOf name qual params body scope dV kV doc pm an cdv ct) args (ps.zip us)) (r : Vals vs us)
    {t : TS} (ht : PSs (cxOf CX P w K mg base N qual scope f cdv A outer s H E) body t) (hq : t { nx := fun _ H' => Q .non H', rt := Q } (start N vs) H) :
    codeAny (model P w) A (.call (.ref f) args) (CR CX outer P w H s Q E) s := by
  have stays : ∀ b o, base.get? b = some o → s.heap.get? b = some o := fun b o e => (e0.bs b o e).1
  have KX : K.In s.heap := e0.mod.kin.keeps stays
  have kinds : ∀ y ∈ ps.zip us, scope.names.lookup y.1 = some .local ∨ (scope.names.lookup y.1 = some .cell ∧ ((cellsFrom (s.heap.objs.size + 1) scope.names []).lookup y.1).isSome = true) := by
    rintro ⟨n, v⟩ hy
    rcases S.par n (List.of_mem_zip hy).1 with q | q
    · exact .inl q
    · exact .inr ⟨q, PySem.W.cellsFrom_some _ _ _ (.inl q)⟩
  refine codeAny_call_function hr.depth (KX _ _ lk) rfl S.co S.gen rfl (PySem.W.codeRec_of KX hcd) (hb _ _ _ _ ?_)
  refine wpAny_newFunctionEnv_cells S.kind kinds fun env he s1 x => ?_
  subst he
  refine ⟨(e0.mod.nolimit.keeps stays).keeps x.toInCall.keep, codeAny_func ?_⟩
  have I := inv_start (CX := CX) (E := E) S hr.hd e0 hl r x
  refine wpAny_mono (ht.run [] s1 (start N vs) H _ I hq) (fun fl s' hs => ?_) fun e s' hs => hs
  cases fl with
  | ret u => exact let ⟨v, _, H', J, rv, q⟩ := hs; ⟨v, H', J.os, J.bare, J.base, J.hok, rv, q⟩
  | next => exact let ⟨_, H', J, q⟩ := hs; ⟨V.non, H', J.os, J.bare, J.base, J.hok, rfl, q⟩
  | brk => exact False.elim (let ⟨_, _, _, q⟩ := hs; q)
  | cont => exact False.elim (let ⟨_, _, _, q⟩ := hs; q)
theorem okG {x qual : Str} {params : Arguments} {body : List Stmt} {scope : Scope} {dvs : List V} {kws : List (Str × V)} {N : List Str} {k : Nat} (F : FunD K x qual params body scope dvs kws f fd) (S : FnScope N ps scope) (len : ∀ vs H Q E, sp vs H Q E → vs.length = ps.length)
    (hbody : ∀ (cdv : Value) (A : Around) (outer : List Env) (s : Shared) (H : Hp) (vs : List V) (Q : VK) (E : XK), A.guards = some [] → Room k (A.deeper (envOfC qual scope s.heap.objs.size f cdv)) → sp vs H Q E →
      ∃ t, PSs (cxOf CX P w K mg base N qual scope f cdv A outer s H E) body t ∧ t { nx := fun _ H' => Q .non H', rt := Q } (start N vs) H) : FnG P w K mg base CX (k + 1) f fd ps sp := by
  obtain ⟨oc, od, dV, kV, doc, pm, an, cdv, ct, osl, rfl, lk, hcd, _, _⟩ := F.ex
  refine ⟨len, fun A outer s H args us vs Q E hg hr e0 hb r hsp => ?_⟩
  obtain ⟨t, ht, hq⟩ := hbody cdv A outer s H vs Q E hg (hr.deeper _) hsp
  exact body_at lk hcd S (len _ _ _ _ hsp) hr e0 hb r ht hq
end
section
variable {X : Cx} {CX : CXT} {k : Nat} {f : Addr} {fd : FuncData} {ps : List Str} {sp : Sp} {E : XK} {x : Str} {p pos : Pos} {e : Expr} {es : List Expr} {t : TA} {ds : List Value} {dvs : List V}
theorem pe_callGd (F : FnG X.prog X.w X.K X.mg X.base CX k f fd ps sp) (gd : X.A.guards = some []) (hr : Room k X.A) (hg : Gl X x) (hm : X.mg x = some (.ref f)) (hk : PySem.W.keepIn X.K (.ref f) = true) (hb : Binds X.K fd ps ds) (hd : Vals dvs ds) (hx : Passes CX X E)
    (ha : PA X (e :: es) t) (hdb : (x == ("__debug__" : Str)) = false := by decide) (he : starEach (e :: es) X.env = (false, eval e X.env) :: starEach es X.env := by rfl) (hpl : (backTo pos (starEach es X.env)).any (·.1) = false := by rfl) :
    PE X (.Call (.Name x p) (e :: es) [] pos) (tCall sp dvs E t) := by
  refine ⟨fun pins s σ H Q I h => ?_⟩
  refine wpAny_Call_Name_kw (ld_glob I hg hm ?_ hdb)
  refine PySem.W.callWith_K (h₀ := X.base) I.ok.mod.kin hk (thn (ha.run pos pins s σ H _ I h) fun us s1 ⟨vs, H1, I1, r, q⟩ => ⟨I1.kIn, ?_⟩) he hpl
  have r2 : Vals (vs ++ dvs) (us ++ ds) := r.append hd
  have hl : (us ++ ds).length = ps.length := r2.length.symm.trans (F.len _ _ _ _ q)
  refine wpAny_call (codeAny_mono (F.run X.A X.stack s1 H1 ⟨us, []⟩ (us ++ ds) (vs ++ dvs) Q E gd hr I1.env0 (hb s1 us I1.kIn hl) r2 q) fun r s' hq => ?_)
  rcases r with er | (_ | _ | _ | u)
  · exact hx pins σ H1 s1 er s' I1 hq
  · exact False.elim hq
  · exact False.elim hq
  · exact False.elim hq
  · exact I1.after hq
end
/-! ### the law's end -/
theorem end_at {P : Program} {w : World} {K : PySem.W.Frag} {mg mb : Str → Option Value} {CX : CXT} {k : Nat} {fa a : Addr} {fd : FuncData} {x : Str} {sp : Sp} {s₁ : Shared} {vs : List Value} {H : Hp}
    (KX : K.In s₁.heap) (hns : s₁.heap.Ns mainGlobals mg) (hb : s₁.heap.Ns builtinsNs mb) (hbb : ∀ x : Str, x ≠ "__name__" → mb x = bootBuiltins x) (hlim : s₁.heap.NoLimit) (hg : s₁.gens = #[])
    (ha : s₁.heap.get? a = some { cls := .type "list", data := .seq vs.toArray }) (hr : Room k callerA)
    (F : ∀ base : Heap, K.In base → base.Ns mainGlobals mg → FnG P w K mg base CX k fa fd [x] sp) (hbind : ∀ (s : Shared) (u : Value), BindsTo s fd ⟨[u], []⟩ [(x, u)])
    (hsp : sp [.ref a] H (fun v _ => v = .bl true) fun _ _ _ => False) (hCX : ∀ e s', CX [] H s₁ (fun _ _ _ => False) e s' → False)
    (hO : Only H) (hok : HOk P w H s₁.heap) (hA : ∀ b, H b ≠ none → b = a) (hK : H a ≠ none → K.lookup a = none) :
    codeAny (model P w) callerA (.call (.ref fa) ⟨[.ref a], []⟩) (fun r s' => r = .ok (.ret (.bool true)) ∧ OldK s₁.heap s'.heap ∧ s'.os = s₁.os ∧ AllBare s'.gens) s₁ := by
  have free_of : ∀ {b : Addr} {o : Obj}, s₁.heap.get? b = some o → (∀ its n, o.data ≠ .seq its n) → H b = none := fun {b o} e d => by
    cases q : H b with
    | none => rfl
    | some u =>
      obtain rfl : b = a := hA b (by rw [q]; simp)
      rw [ha] at e
      exact absurd (congrArg Obj.data (Option.some.inj e)).symm (d _ _)
  have nsK : ∀ {b : Addr} {m : Str → Option Value}, s₁.heap.Ns b m → (hidT s₁.heap H).Ns b m := fun {b m} ⟨o, es, ep, e, d, r⟩ => ⟨o, es, ep, hidT_get e (free_of e (fun _ _ z => by rw [d] at z; cases z)), d, r⟩
  have kB : K.In (hidT s₁.heap H) := fun b o e => hidT_get (KX b o e) (by
    cases q : H b with
    | none => rfl
    | some u =>
      obtain rfl : b = a := hA b (by rw [q]; simp)
      rw [hK (by rw [q]; simp)] at e
      cases e)
  have e0 : Env0 P w K mg (hidT s₁.heap H) callerA [] s₁ H := ⟨rfl, ⟨kB, nsK hns, ⟨mb, nsK hb, hbb⟩, let ⟨mc, h1, h2⟩ := hlim; ⟨mc, nsK h1, h2⟩⟩, fun b o e => of_hidT e, Nat.le_of_eq (hidT_size _ _), trivial, fun b hb => absurd (show b ∈ ([] : List Addr) from hb) (by simp), hok, .of_eq hg⟩
  refine codeAny_mono ((F _ kB (nsK hns)).run callerA [] s₁ H ⟨[.ref a], []⟩ [.ref a] [.ref a] _ _ rfl hr e0 (hbind s₁ (.ref a)) (.cons rfl .nil) hsp) fun r s' h => ?_
  rcases r with er | (_ | _ | _ | u)
  · exact (hCX er s' h).elim
  · exact False.elim h
  · exact False.elim h
  · exact False.elim h
  · obtain ⟨v, H', os, bare, un, hok', r', q⟩ := h
    obtain rfl : v = .bl true := q
    obtain rfl : u = Value.bool true := r'
    refine ⟨rfl, OldK.of_keep fun b o e => ?_, os, bare⟩
    rcases hO b with z | ⟨ob, xs, z⟩
    · exact un.keep b o e z (by intro y; exact absurd (show b ∈ ([] : List Addr) from y) (by simp)) (by simp)
    · obtain ⟨e1, _⟩ := hok b _ z
      obtain ⟨e2, _⟩ := hok' b _ (un.frzs b ob _ z)
      rw [e] at e1
      cases e1
      exact e2
/-- a law by a promise over FnG -/
theorem walk_G {l : PySem.W.OpenLaw} {n k : Nat} {q : Program} {loose : List Str} {XP : (Str → Option Value) → Heap → Prop} {YP : World → Heap → Prop} {d : DefRec} {CX : CXT} {x : Str}
    (hn : l.most = some n) (hn2 : n ≤ sizeLine) (hdf : d.params.defaults = []) (hr : Room k callerA)
    (F : ∀ (w : World) (mg : Str → Option Value) (fa : Addr) (h : Heap), YP w h → h.Ns mainGlobals mg → mg d.name = some (.ref fa) →
      ∃ (K : PySem.W.Frag) (fd : FuncData) (sp : Sp), K.In h ∧ (∀ (s : Shared) (u : Value), BindsTo s fd ⟨[u], []⟩ [(x, u)]) ∧
        (∀ (H : Hp) (a : Addr) (ns : List Int), ns.length ≤ n → SqL K H a (ns.map V.int) → sp [.ref a] H (fun v _ => v = .bl true) fun _ _ _ => False) ∧
        ∀ base : Heap, K.In base → base.Ns mainGlobals mg → FnG l.prog w K mg base CX k fa fd [x] sp)
    (hCX : ∀ (H : Hp) (s : Shared) (e : Value) (s' : Shared), CX [] H s (fun _ _ _ => False) e s' → False) :
    PySem.W.WalkO q loose XP YP l.row.toRowW d [] (fun f vs => PySem.call f vs) := by
  refine Att.attach_call hn hdf fun w s₀ s₁ mg mb fa o pm cd doc a vs ns G Y ho hd hcd hmg hobj hints hlen hg => ?_
  obtain ⟨K, fd, sp, KX, hb, hsp, hF⟩ := F w mg fa _ Y G.T.g hmg
  have rv := vals_ints hints
  have lenV := hints.length
  have hl := Nat.le_trans hlen hn2
  cases hk : K.lookup a with
  | some o =>
    have e := KX a o hk
    rw [hobj] at e
    cases e
    refine end_at (H := fun _ => none) KX G.T.g G.T.b G.T.builtins G.T.nolimit hg hobj hr hF hb (hsp _ a ns hlen (.inr ⟨_, vs.toArray, _, hk, rfl, rfl, rfl, by rw [List.size_toArray, lenV]; exact hl, by simpa using rv⟩)) (fun e s' => hCX _ s₁ e s') (fun _ => .inl rfl) (fun b u z => nomatch z) (fun b z => absurd rfl z) fun z => absurd rfl z
  | none =>
    have on : ∀ b, b = a → (fun b => if b = a then some (HO.frz { cls := .type "list", data := .seq vs.toArray } (.lst (ns.map V.int))) else none : Hp) b = some (.frz { cls := .type "list", data := .seq vs.toArray } (.lst (ns.map V.int))) := fun b hb => if_pos hb
    have off : ∀ b, b ≠ a → (fun b => if b = a then some (HO.frz { cls := .type "list", data := .seq vs.toArray } (.lst (ns.map V.int))) else none : Hp) b = none := fun b hb => if_neg hb
    refine end_at (H := fun b => if b = a then some (.frz { cls := .type "list", data := .seq vs.toArray } (.lst (ns.map V.int))) else none) KX G.T.g G.T.b G.T.builtins G.T.nolimit hg hobj hr hF hb
      (hsp _ a ns hlen (.inl (.inr ⟨_, on a rfl⟩))) (fun e s' => hCX _ s₁ e s') (fun b => ?_) (fun b u z => ?_) (fun b z => ?_) fun _ => hk
    · by_cases hb : b = a
      · exact .inr ⟨_, _, on b hb⟩
      · exact .inl (off b hb)
    · by_cases hb : b = a
      · cases (on b hb).symm.trans z
        subst hb
        exact ⟨hobj, by rw [List.length_map]; exact hl, vs, _, rv, hobj⟩
      · cases (off b hb).symm.trans z
    · by_cases hb : b = a
      · exact hb
      · exact absurd (off b hb) z
end Lp

set_option Elab.async false
set_option linter.all false
set_option maxRecDepth 100000
set_option maxHeartbeats 4000000
namespace Lp
open PySem PySem.Spec PyProof.Rows L2
def kD : Key → PyData
  | .inl i => .int i
  | .inr x => .str x
def vD : V → PyData
  | .bl b => .bool b
  | .int i => .int i
  | .str x => .str x
  | _ => .none
def flD : V → Bool
  | .non => true
  | .bl _ => true
  | .int _ => true
  | .str _ => true
  | _ => false
def dD (kvs : List (Key × V)) : PyData := .dict (kvs.map fun p => (kD p.1, vD p.2))
theorem reads_flat {h : Heap} {v : V} {u : Value} (f : flD v = true) (r : RelV v u) : Reads h u (vD v) [] := by
  cases v with
  | non => cases r; exact .none
  | bl b => cases r; exact .bool b
  | int i => obtain ⟨t, rfl⟩ := r; exact .int i t
  | str x => obtain ⟨t, rfl⟩ := r; exact .str x t
  | byt b => cases f
  | flt b => cases f
  | ref a => cases f
  | ty n => cases f
theorem reads_key {P : Program} {w : World} {h : Heap} (k : Key) (v : Value) (e : (mixKind P w).is k v = true) : Reads h v (kD k) [] := by
  rcases keyIs_shape e with ⟨i, t, rfl, rfl⟩ | ⟨x, t, rfl, rfl⟩
  · exact .int i t
  · exact .str x t
theorem pairs_flat {h : Heap} : ∀ {kvs : List (Key × V)} {vs : List (Key × Value)}, (∀ p ∈ kvs, flD p.2 = true) → KV kvs vs → PyProof.V.PairsRead h kD vs (kvs.map fun p => (kD p.1, vD p.2)) []
  | [], [], _, _ => .nil
  | [], _ :: _, _, h => nomatch (show Paired _ _ _ from h)
  | _ :: _, [], _, h => nomatch (show Paired _ _ _ from h)
  | (k, v) :: kvs, (k', u) :: vs, f, h => by
    cases (show Paired _ _ _ from h) with
    | cons r t =>
      obtain ⟨e, r2⟩ := r
      have e' : k = k' := e
      subst e'
      exact PyProof.V.PairsRead.cons (as := []) (bs := []) (reads_flat (f _ (List.mem_cons_self ..)) r2) (pairs_flat (fun p hp => f p (List.mem_cons_of_mem _ hp)) t)
/-- what can be shown: data without dicts, or a dict of plain values -/
def Sh (K : PySem.W.Frag) (H : Hp) (v : V) (d : PyData) : Prop := Dp K H v d ∨ ∃ a kvs, v = .ref a ∧ Rd H a (.dK kvs) ∧ (∀ p ∈ kvs, flD p.2 = true) ∧ d = dD kvs
section
variable {X : Cx} {pins : List (Addr × Obj)} {σ : L2.St} {H : Hp} {s : Shared}
mutual
theorem dp_noDict {K : PySem.W.Frag} : ∀ (d : PyData) (v : V), Dp K H v d → d.hasDict = false
  | .none, _, _ => rfl
  | .bool _, _, _ => rfl
  | .int _, _, _ => rfl
  | .str _, _, _ => rfl
  | .list ds, _, h => by
    cases h with
    | lst _ ha => exact dpAll_noDict ds _ ha
  | .tuple ds, _, h => by
    cases h with
    | tup _ ha => exact dpAll_noDict ds _ ha
  | .dict _, _, h => by cases h
theorem dpAll_noDict {K : PySem.W.Frag} : ∀ (ds : List PyData) (vs : List V), DpAll K H vs ds → PyData.hasDictAll ds = false
  | [], _, _ => rfl
  | d :: ds, _, h => by
    cases h with
    | cons h1 h2 =>
      show (d.hasDict || PyData.hasDictAll ds) = false
      rw [dp_noDict d _ h1, dpAll_noDict ds _ h2]
      rfl
end
theorem Sh.reads (I : Inv X pins σ H s) {v : V} {d : PyData} {u : Value} (h : Sh X.K H v d) (r : RelV v u) : ∃ as, Reads s.heap u d as ∧ (d.hasDict = true → sysModules ∉ as) := by
  rcases h with h | ⟨a, kvs, rfl, hr, hf, rfl⟩
  · obtain ⟨as, q⟩ := Dp.reads I d v u h r
    exact ⟨as, q, fun z => by rw [dp_noDict d v h] at z; cases z⟩
  · obtain rfl : u = Value.ref a := r
    obtain ⟨_, hne, vs, kv, hd⟩ := hr.ok I.hok
    refine ⟨[a], PyProof.V.reads_dictOf (bs := []) (fun k key e => reads_key k key e) hd (pairs_flat hf kv), fun _ z => ?_⟩
    rw [List.mem_singleton] at z
    rw [← z] at hne
    simp at hne
def rRepr (K : PySem.W.Frag) : List V → Hp → VK → Prop := fun xs H Q => ∃ v d, xs = [v] ∧ Sh K H v d ∧ d.showable = true ∧ d.depth ≤ 50 ∧ d.shown.length ≤ sizeLine ∧ Q (.str d.shown) H
theorem call_repr (gd : X.A.guards = some []) (hu : X.A.units + 64 < cLine) : CallR X (.builtin "repr") (rRepr X.K) := by
  intro pins s σ H xs us Q I r h
  obtain ⟨v, d, rfl, hs, hw, hdp, hz, q⟩ := h
  cases r with
  | @cons _ u _ _ rx rr =>
    cases rr
    obtain ⟨as, rd, hsm⟩ := hs.reads I rx
    have out : ∀ (h' : Heap) (t' : Nat) (tk : Tok), (∀ b o, s.heap.get? b = some o → h'.get? b = some o) → EP X pins σ Q (.str d.shown tk) { s with heap := h', toks := t' } := fun h' t' tk k => ⟨.str d.shown, H, I.kept (t' := t') k, ⟨tk, rfl⟩, q⟩
    cases rd with
    | none => exact PySem.P.repr_of_none (out s.heap _ _ fun _ _ z => z)
    | bool b => exact PySem.P.repr_of_bool (out s.heap _ _ fun _ _ z => z)
    | int i t => exact PySem.P.repr_of_int (of_decide_eq_true hw) (out s.heap _ _ fun _ _ z => z)
    | str x t => exact PySem.P.repr_of_str (out s.heap _ _ fun _ _ z => z) hz
    | list h1 h2 h3 h4 => exact repr_of_reads' (.list h1 h2 h3 h4) hw hsm gd (by omega) (fun _ _ z => z) (fun h' u tk k => out h' tk u k) hz
    | tuple h1 h2 h3 h4 => exact repr_of_reads' (.tuple h1 h2 h3 h4) hw hsm gd (by omega) (fun _ _ z => z) (fun h' u tk k => out h' tk u k) hz
    | dict h1 h2 h3 h4 h5 => exact repr_of_reads' (.dict h1 h2 h3 h4 h5) hw hsm gd (by omega) (fun _ _ z => z) (fun h' u tk k => out h' tk u k) hz
theorem call_reprK {K0 : PySem.W.Frag} (hK : X.K = K0) (gd : X.A.guards = some []) (hu : X.A.units + 64 < cLine) : CallR X (.builtin "repr") (rRepr K0) := by
  subst hK
  exact call_repr gd hu
end
end Lp

set_option Elab.async false
set_option linter.all false
set_option maxRecDepth 100000
set_option maxHeartbeats 4000000
namespace Lp
open PySem PySem.Spec PyProof.Rows L2
/-! ### the head's facts: one Bool of the written part, and the defs -/
def obsL (ex : PySem.W.Frag → Bool) (fn : List He.DefD) (K : PySem.W.Frag) : He.AlD := (ex K && fn.all fun d => d.ok K, fn.map fun d => He.fnW K d.at_)
def SaysL (ex : PySem.W.Frag → Bool) (fn : List He.DefD) (K : PySem.W.Frag) : Prop := obsL ex fn K = He.valD fn
def obsLG (n : Nat) (ex : PySem.W.Frag → Bool) (fn : List He.DefD) (g : Addr → Option Obj) : He.AlD := obsL ex fn (He.frG g (cStatics :: He.asD g n))
def hookL (n : Nat) (ex : PySem.W.Frag → Bool) (fn : List He.DefD) : PySem.W.Hook where
  α := He.AlD
  obs := fun s => obsLG n ex fn s.heap.get?
  val := fun _ => He.valD fn
  says := fun _ h => ∃ K : PySem.W.Frag, K.In h ∧ SaysL ex fn K
  of := fun _ _ e => ⟨_, He.frG_in, e⟩
  keeps := fun _ _ _ ⟨K, hK, c⟩ k => ⟨K, PySem.W.Frag.In.keeps hK k, c⟩
theorem obsLG_eq {n : Nat} {ex : PySem.W.Frag → Bool} {fn : List He.DefD} {g : Addr → Option Obj} {s : Shared} (h : ∀ a, g a = s.heap.get? a) : obsLG n ex fn g = (hookL n ex fn).obs s := by
  have e : g = s.heap.get? := funext h
  rw [e] <;> rfl
/-- the function object at a place -/
def fdAt (K : PySem.W.Frag) (f : Addr) : FuncData := match K.lookup f with
  | some ⟨_, _, .func fd, _⟩ => fd
  | _ => PySem.W.fnOf "" "" ⟨[], [], none, [], [], none, []⟩ [] ⟨.function, [], false, false, []⟩ .none .none .none .none none .none .none
theorem fdAt_eq {K : PySem.W.Frag} {x qual : Str} {params : Arguments} {body : List Stmt} {scope : Scope} {dvs : List V} {kws : List (Str × V)} {f : Addr} {fd : FuncData} (F : FunD K x qual params body scope dvs kws f fd) : FunD K x qual params body scope dvs kws f (fdAt K f) := by
  have e : fdAt K f = fd := by
    obtain ⟨oc, od, dV, kV, doc, pm, an, cdv, ct, osl, _, lk, _⟩ := F.ex
    unfold fdAt
    rw [lk]
  rw [e]
  exact F
section
variable {ex : PySem.W.Frag → Bool} {fn : List He.DefD} {K : PySem.W.Frag}
theorem SaysL.all_ (c : SaysL ex fn K) : ex K = true := (Bool.and_eq_true_iff.mp (show (ex K && fn.all fun d => d.ok K) = true from congrArg (fun z : He.AlD => z.1) c)).1
theorem SaysL.def_ (c : SaysL ex fn K) (i : Nat) {d : He.DefD} (h : fn[i]? = some d := by rfl) : FunD K d.name d.qual d.params d.body d.scope (d.dvs K) (d.kws K) (He.fAd K d.at_) (fdAt K (He.fAd K d.at_)) := by
  have c2 := (Bool.and_eq_true_iff.mp (show (ex K && fn.all fun d => d.ok K) = true from congrArg (fun z : He.AlD => z.1) c)).2
  have e : fn.map (fun d => He.fnW K d.at_) = fn.map He.DefD.val := congrArg (fun z : He.AlD => z.2) c
  have e2 : (fn.map fun d => He.fnW K d.at_)[i]? = (fn.map He.DefD.val)[i]? := by rw [e]
  rw [List.getElem?_map, List.getElem?_map, h] at e2
  obtain ⟨fd, q⟩ := He.DefD.funD (Option.some.inj e2) (List.all_eq_true.mp c2 d (List.mem_of_getElem? h))
  exact fdAt_eq q
end
/-! ### exception classes by Bools -/
def clsB (K : PySem.W.Frag) (C : Addr) (Bn newId B : String) : Bool := match K.lookup C with
  | some ⟨.type "type", _, .cls cd, sl⟩ => (match cd.mro, sl.toList with
    | .ref C' :: bm, [_, _, _, _, some (.builtin n), _] => (C' == C && n == newId) && ((!cd.hasDel && cd.hasDict) && ((LpX.tailOk bm && bm.contains (.type Bn)) && ((!bm.contains (.type "AttributeError") && !bm.contains (.type "NameError")) && bm.contains (.type B))))
    | _, _ => false)
  | _ => false
theorem clsB_ok {K : PySem.W.Frag} {C : Addr} {Bn newId B : String} (q : clsB K C Bn newId B = true) : ∃ nm q N bs bm sn sub ab col dd k0 k1 k2 k3 k5, K.lookup C = some (excClassObj nm q C N bs bm true sn sub ab col dd k0 k1 k2 k3 k5 newId) ∧ LpX.tailOk bm = true ∧ LpX.Bm Bn bm ∧ bm.contains (.type B) = true := by
  unfold clsB at q
  split at q
  · rename_i dd cd sl ho
    split at q
    · rename_i C' bm k0 k1 k2 k3 n k5 hm hs
      simp only [Bool.and_eq_true, beq_iff_eq, Bool.not_eq_true'] at q
      obtain ⟨⟨rfl, rfl⟩, ⟨hdel, hdct⟩, ⟨h1, h2⟩, ⟨h3, h4⟩, h5⟩ := q
      obtain ⟨nm, bs, mro, ns, qn, hd, sn, sub, ab, col, del⟩ := cd
      dsimp only at hm hdel hdct
      subst hm hdel hdct
      obtain ⟨l⟩ := sl
      simp only at hs
      subst hs
      exact ⟨nm, qn, ns, bs, bm, sn, sub, ab, col, dd, k0, k1, k2, k3, k5, ho, h1, ⟨h2, h3, h4⟩, h5⟩
    · cases q
  · cases q
def xcB (K : PySem.W.Frag) (C : Addr) (Bn newId B : String) : Bool := clsB K C Bn newId B && (decide (PySem.W.findIn K (.ref C) "__setattr__" = some (some (.builtin "object.__setattr__"))) && (PySem.W.keepIn K (.ref C) &&
  (decide (PySem.W.findIn K (.ref C) "__getattribute__" = some (some (.builtin "BaseException.__getattribute__"))) && (decide (PySem.W.findIn K (.ref C) "__getattr__" = some none) && (decide (PySem.W.subIn K (.ref C) (.type "BaseException") = some true) &&
  (decide (PySem.W.typeIn K (.ref C) = some (.type "type")) && (decide (PySem.W.findIn K (.ref C) "__class__" = some (some (.builtin "object.__class__"))) && (decide (PySem.W.specialIn K (.builtin "object.__class__") "__get__" = some (some (.builtin "getset_descriptor.__get__"))) &&
  (decide (PySem.W.takesIn K (.builtin "object.__class__") = some true) && decide (PySem.W.mroIn K C (.type "object") = some true))))))))))
theorem xcB_ok {K : PySem.W.Frag} {C : Addr} {Bn newId B initId : String} (h : xcB K C Bn newId B = true) : XC K C Bn newId B initId := by
  unfold xcB at h
  simp only [Bool.and_eq_true, decide_eq_true_eq] at h
  obtain ⟨h1, h2, h3, h4, h5, h6, h7, h8, h9, h10, h11⟩ := h
  exact ⟨clsB_ok h1, h2, h3, h4, h5, h6, h7, h8, h9, h10, h11⟩
/-- an own class whose __init__ comes from a built-in base -/
structure XP (K : PySem.W.Frag) (P : Addr) (initId : String) : Prop where
  s : PySem.W.specialIn K (.ref P) "__getattribute__" = some (some (.builtin "type.__getattribute__"))
  t : PySem.W.typeIn K (.ref P) = some (.type "type")
  r : PySem.W.readsIn K P (.type "type") = true
  v : PySem.W.findCls K (.ref P) (.type "type") "__init__" = some (.val (.builtin initId))
def valIs (o : Option PySem.W.CFound) (u : Value) : Bool := match o with
  | some (.val v) => decide (v = u)
  | _ => false
theorem valIs_ok {o : Option PySem.W.CFound} {u : Value} (h : valIs o u = true) : o = some (.val u) := by
  unfold valIs at h
  split at h
  · rw [of_decide_eq_true h]
  · cases h
def xpB (K : PySem.W.Frag) (P : Addr) (initId : String) : Bool := decide (PySem.W.specialIn K (.ref P) "__getattribute__" = some (some (.builtin "type.__getattribute__"))) && (decide (PySem.W.typeIn K (.ref P) = some (.type "type")) && (PySem.W.readsIn K P (.type "type") && valIs (PySem.W.findCls K (.ref P) (.type "type") "__init__") (.builtin initId)))
theorem xpB_ok {K : PySem.W.Frag} {P : Addr} {initId : String} (h : xpB K P initId = true) : XP K P initId := by
  unfold xpB at h
  simp only [Bool.and_eq_true, decide_eq_true_eq] at h
  exact ⟨h.1, h.2.1, h.2.2.1, valIs_ok h.2.2.2⟩
/-- the own __init__ of an exception class, found -/
structure XI (K : PySem.W.Frag) (C fI : Addr) (f : Str) : Prop where
  i : PySem.W.findIn K (.ref C) "__init__" = some (some (.ref fI))
  t : PySem.W.typeIn K (.ref fI) = some (.type "function")
  n : PySem.W.findIn K (.ref C) f = some none
def xiB (K : PySem.W.Frag) (C fI : Addr) (f : Str) : Bool := decide (PySem.W.findIn K (.ref C) "__init__" = some (some (.ref fI))) && (decide (PySem.W.typeIn K (.ref fI) = some (.type "function")) && decide (PySem.W.findIn K (.ref C) f = some none))
theorem xiB_ok {K : PySem.W.Frag} {C fI : Addr} {f : Str} (h : xiB K C fI f = true) : XI K C fI f := by
  unfold xiB at h
  simp only [Bool.and_eq_true, decide_eq_true_eq] at h
  exact ⟨h.1, h.2.1, h.2.2⟩
/-- C.__init__(self, v): the field is stored -/
def spXI (C : Addr) (f : Str) : Sp := fun vs H Q _ => ∃ (a : Addr) (v : V), vs = [.ref a, v] ∧ H a = some (exo a C none) ∧ ∀ dx, H dx = none → dx ≠ a → Q .non (upd (upd H dx (exd dx [(f, v)])) a (exo a C (some dx)))
theorem spXI_len {C : Addr} {f : Str} {n : Str} (vs : List V) (H : Hp) (Q : VK) (E : XK) (h : spXI C f vs H Q E) : vs.length = (["self", n] : List Str).length := by
  obtain ⟨a, v, rfl, _⟩ := h
  rfl
theorem read_xi {K : PySem.W.Frag} {C fI : Addr} {f : Str} {Bn newId B initId : String} {n : Str} (T : XC K C Bn newId B initId) (S : XI K C fI f) {vs : List V} {H : Hp} {Q : VK} {E : XK} (h : spXI C f vs H Q E) :
    tSeq (tDrop (tXI K Bn newId B initId (tCons (tVar 0) (tCons (tVar 1) tNil)))) (tXst K Bn newId B initId f (tVar 0) (tVar 1)) { nx := fun _ H' => Q .non H', rt := Q } (start ["self", n] vs) H := by
  obtain ⟨a, v, rfl, ha, k⟩ := h
  exact ⟨_, rfl, _, rfl, a, C, _, rfl, by show 1 ≤ 1000; decide, T, ha, _, rfl, _, rfl, a, C, rfl, T, S.n, ha, k⟩
/-- C(v): a new exception that bears v -/
def rXMk (C : Addr) (f : Str) (v : V) (H : Hp) (Q : VK) : Prop := ∀ a dx, H a = none → H dx = none → dx ≠ a → Q (.ref a) (upd (upd H dx (exd dx [(f, v)])) a (exo a C (some dx)))
theorem xmk_read {C : Addr} {f : Str} {te : TE} {σ : L2.St} {H : Hp} {Q : VK} (h : te σ H fun v H1 => rXMk C f v H1 Q) : tXMk C (spXI C f) (tCons te tNil) σ H Q := by
  show te σ H fun v H1 => _
  exact (show te σ H (fun v H1 => ([v] : List V).length ≤ 1000 ∧ ∀ a, H1 a = none → spXI C f (.ref a :: [v]) (upd H1 a (exo a C none)) (fun v H2 => v = .non ∧ Q (.ref a) H2) (fun _ _ _ => False)) from by
    have e : (fun (v : V) (H1 : Hp) => ([v] : List V).length ≤ 1000 ∧ ∀ a, H1 a = none → spXI C f (.ref a :: [v]) (upd H1 a (exo a C none)) (fun v H2 => v = .non ∧ Q (.ref a) H2) (fun _ _ _ => False)) = fun v H1 => rXMk C f v H1 Q := by
      funext v H1
      refine propext ⟨fun ⟨_, z⟩ a dx na nd ne => ?_, fun z => ⟨by show 1 ≤ 1000; decide, fun a na => ⟨a, v, rfl, upd_same, fun dx nd ne => ⟨rfl, ?_⟩⟩⟩⟩
      · obtain ⟨a', v', e1, e2, k⟩ := z a na
        cases e1
        have q := (k dx (by rw [upd_ne ne]; exact nd) ne).2
        have e3 : upd (upd (upd H1 a (exo a C none)) dx (exd dx [(f, v)])) a (exo a C (some dx)) = upd (upd H1 dx (exd dx [(f, v)])) a (exo a C (some dx)) := by
          funext b
          by_cases hb : b = a
          · rw [hb, upd_same, upd_same]
          · rw [upd_ne hb, upd_ne hb]
            by_cases hd : b = dx
            · rw [hd, upd_same, upd_same]
            · rw [upd_ne hd, upd_ne hd, upd_ne hb]
        rw [e3] at q
        exact q
      · have e3 : upd (upd (upd H1 a (exo a C none)) dx (exd dx [(f, v)])) a (exo a C (some dx)) = upd (upd H1 dx (exd dx [(f, v)])) a (exo a C (some dx)) := by
          funext b
          by_cases hb : b = a
          · rw [hb, upd_same, upd_same]
          · rw [upd_ne hb, upd_ne hb]
            by_cases hd : b = dx
            · rw [hd, upd_same, upd_same]
            · rw [upd_ne hd, upd_ne hd, upd_ne hb]
        rw [e3]
        rw [upd_ne ne] at nd
        exact z a dx na nd ne
    rw [e]
    exact h)
/-- a statement, then the rest: what lies between them is said once -/
def tMid (t u : TS) : TS := fun D σ H => ∃ M : L2.St → Hp → Prop, t { D with nx := M } σ H ∧ ∀ σ' H', M σ' H' → u D σ' H'
theorem pss_mid {X : Cx} {st : Stmt} {rest : List Stmt} {t u : TS} (h1 : PS X st t) (h2 : PSs X rest u) : PSs X (st :: rest) (tMid t u) := by
  refine ⟨fun pins s σ H D I h => ?_⟩
  obtain ⟨M, hm, hu⟩ := h
  refine wpAny_execs_cons (thn (h1.run pins s σ H { D with nx := M } I hm) fun f s1 q => ?_)
  rcases f with _ | _ | _ | v
  · obtain ⟨σ', H', I', q⟩ := q
    exact h2.run pins s1 σ' H' D I' (hu σ' H' q)
  · exact q
  · exact q
  · exact q
theorem ps_dead {X : Cx} {st : Stmt} : PS X st (fun _ _ _ => False) := ⟨fun _ _ _ _ _ _ h => False.elim h⟩
end Lp

set_option Elab.async false
set_option linter.all false
set_option maxRecDepth 100000
set_option maxHeartbeats 4000000
namespace Lp
open PySem PySem.Spec PyProof.Rows L2
/-! ### growth: F is the part of the heap H that will not change any more -/
theorem same_refl (H : Hp) : Same H H := fun _ _ e => e
theorem same_trans {H1 H2 H3 : Hp} (a : Same H1 H2) (b : Same H2 H3) : Same H1 H3 := fun x o e => b x o (a x o e)
theorem same_new {H : Hp} {p : Addr} {o : HO} (h : H p = none) : Same H (upd H p o) := fun b u e => by
  rw [upd_ne (ne_of_none e h)]
  exact e
theorem same_mut {H H' : Hp} {p : Addr} {o : HO} (s : Same H H') (h : H p = none) : Same H (upd H' p o) := fun b u e => by
  rw [upd_ne (ne_of_none e h)]
  exact s b u e
theorem same_off {H H' : Hp} {p : Addr} (s : Same H H') (h : H' p = none) : H p = none := by
  cases e : H p with
  | none => rfl
  | some o => rw [s _ _ e] at h; cases h
structure Gw (F H F' H' : Hp) : Prop where
  ff : Same F F'
  fh : Same F' H'
  hh : Same H H'
  new : ∀ a, F a = none → H a ≠ none → F' a = none
section
variable {F H F' H' F1 H1 F2 H2 : Hp} {p : Addr} {o : HO}
theorem Gw.refl (s : Same F H) : Gw F H F H := ⟨same_refl F, s, same_refl H, fun _ e _ => e⟩
theorem Gw.trans (a : Gw F H F1 H1) (b : Gw F1 H1 F2 H2) : Gw F H F2 H2 := ⟨same_trans a.ff b.ff, b.fh, same_trans a.hh b.hh, fun x n h => b.new x (a.new x n h) (by
  cases e : H x with
  | none => exact absurd e h
  | some o => rw [a.hh _ _ e]; simp)⟩
/-- a new object that will not change -/
theorem Gw.add (s : Same F H) (n : H p = none) : Gw F H (upd F p o) (upd H p o) := ⟨same_new (same_off s n), fun b u e => by
  by_cases hb : b = p
  · rw [hb, upd_same] at e ⊢; exact e
  · rw [upd_ne hb] at e ⊢; exact s _ _ e, same_new n, fun x e h => by
  by_cases hx : x = p
  · rw [hx] at h; exact absurd n h
  · rw [upd_ne hx]; exact e⟩
/-- a new object -/
theorem Gw.junk (s : Same F H) (n : H p = none) : Gw F H F (upd H p o) := ⟨same_refl F, same_mut s (same_off s n), same_new n, fun _ e _ => e⟩
/-- an object that is newer than H, and may change, changes -/
theorem Gw.mut (g : Gw F H F' H') (h0 : H p = none) (hf : F' p = none) : Gw F H F' (upd H' p o) := ⟨g.ff, same_mut g.fh hf, same_mut g.hh h0, g.new⟩
/-- from now on it does not -/
theorem Gw.freeze (g : Gw F H F' H') (h0 : H p = none) (hf : F' p = none) (hp : H' p = some o) : Gw F H (upd F' p o) H' := ⟨same_mut g.ff (same_off g.ff hf), fun b u e => by
  by_cases hb : b = p
  · rw [hb, upd_same] at e; rw [hb, hp]; exact e
  · rw [upd_ne hb] at e; exact g.fh _ _ e, g.hh, fun x e h => by
  by_cases hx : x = p
  · rw [hx] at h; exact absurd h0 h
  · rw [upd_ne hx]; exact g.new x e h⟩
theorem Gw.off (g : Gw F H F' H') (hf : F p = none) (hp : H p = some o) : F' p = none := g.new p hf (by rw [hp]; simp)
theorem Gw.src (g : Gw F H F' H') (s : Same F H) : Same F H' := same_trans g.ff g.fh
end
theorem paired_app {α β : Type} {R : α → β → Prop} : ∀ {a c : List α} {b d : List β}, Paired R a b → Paired R c d → Paired R (a ++ c) (b ++ d)
  | _, _, _, _, .nil, s => s
  | _, _, _, _, .cons r t, s => .cons r (paired_app t s)
theorem paired_imp {α β : Type} {R S : α → β → Prop} (h : ∀ a b, R a b → S a b) : ∀ {a : List α} {b : List β}, Paired R a b → Paired S a b
  | _, _, .nil => .nil
  | _, _, .cons r t => .cons (h _ _ r) (paired_imp h t)
/-- a comprehension: f tells which turns give, R what they give -/
theorem lc_gw {J : It} {n : Nat} {G : Hp → Prop} {Y : Nat → Hp → V → Hp → Prop} (w : Walk J n G Y) {g : TG} {tt : TT} {te : TE} {vs : List Nat} {σ : L2.St} {F0 H1 : Hp} {D : Addr} {Qd : Hp → Prop} (f : Nat → Bool) (R : Nat → V → Hp → Prop) (Rm : ∀ i y A B, Same A B → R i y A → R i y B)
    (s0 : Same F0 H1) (hD : H1 D = none) (hn : n < 100000) (hG : ∀ H, Same H1 H → G H)
    (hs : ∀ i x F H H' (Qn : V → Hp → Prop) (Qs : Hp → Prop), i < n → Gw F0 H1 F H → Y i H x H' → (f i = true → ∀ y F' H4, Gw F H F' H4 → R i y F' → Qn y H4) → (f i = false → ∀ F' H4, Gw F H F' H4 → Qs H4) →
      g x (wipe σ vs) H' fun σ2 H2 => wipe σ2 vs = wipe σ vs ∧ tt σ2 H2 fun b H3 => if b = true then te σ2 H3 Qn else Qs H3)
    (hd : ∀ ys F H, Gw F0 H1 F H → F D = none → H D = some (.lst ys) → Paired (fun i y => R i y F) ((List.range n).filter f) ys → Qd H) :
    ∃ W : Nat → Nat → Hp → Prop, (∃ m, W 0 m (upd H1 D (.lst []))) ∧ ∀ i m H, W i m H →
      (J.stop i H ∧ Qd H) ∨ (J.go i H ∧ ∃ Nx : Hp → Prop, (∀ H', Nx H' → ∃ m', m' < m ∧ W (i + 1) m' H') ∧ ∀ x H', J.yld i H x H' → g x (wipe σ vs) H' fun σ2 H2 => wipe σ2 vs = wipe σ vs ∧ tt σ2 H2 fun b H3 =>
        if b = true then te σ2 H3 fun y H4 => ∃ acc, H4 D = some (.lst acc) ∧ acc.length < sizeLine ∧ Nx (upd H4 D (.lst (acc ++ [y]))) else Nx H3) := by
  have ext : ∀ {k : Nat}, (List.range (k + 1)).filter f = (List.range k).filter f ++ (if f k = true then [k] else []) := fun {k} => by
    rw [List.range_succ, List.filter_append]
    by_cases e : f k = true
    · simp [e]
    · simp [e]
  refine lc_it w (fun i H => ∃ F ys, Gw F0 H1 F H ∧ F D = none ∧ H D = some (.lst ys) ∧ Paired (fun i y => R i y F) ((List.range i).filter f) ys) ⟨F0, [], Gw.junk s0 hD, same_off s0 hD, upd_same, .nil⟩ (fun i H _ ⟨F, ys, gw, _⟩ => hG H gw.hh) ?_ (fun H ⟨F, ys, gw, fD, hH, pr⟩ => hd ys F H gw fD hH pr)
  rintro i x H H' hi ⟨F, ys, gw, fD, hH, pr⟩ hy
  refine hs i x F H H' _ _ hi gw hy (fun hf y F' H4 g4 r => ?_) (fun hf F' H4 g4 => ?_)
  · have len : ys.length ≤ i := by
      rw [← pr.length]
      have := List.length_filter_le f (List.range i)
      rw [List.length_range] at this
      exact this
    refine ⟨ys, g4.hh _ _ hH, Nat.lt_of_le_of_lt len (Nat.lt_trans hi (Nat.lt_of_lt_of_le hn (by decide))), F', ys ++ [y], (gw.trans g4).mut hD (g4.off fD hH), g4.off fD hH, upd_same, ?_⟩
    rw [ext, if_pos hf]
    exact paired_app (paired_imp (fun a b q => Rm _ _ _ _ g4.ff q) pr) (.cons r .nil)
  · refine ⟨F', ys, gw.trans g4, g4.off fD hH, g4.hh _ _ hH, ?_⟩
    rw [ext, if_neg (by rw [hf]; decide), List.append_nil]
    exact paired_imp (fun a b q => Rm _ _ _ _ g4.ff q) pr
/-- deep data stays -/
theorem sqL_same {K : PySem.W.Frag} {H H' : Hp} {a : Addr} {xs : List V} (s : Same H H') (h : SqL K H a xs) : SqL K H' a xs := s.seq h
mutual
theorem dp_same {K : PySem.W.Frag} {H H' : Hp} (s : Same H H') : ∀ (d : PyData) (v : V), Dp K H v d → Dp K H' v d
  | .none, _, h => by cases h; exact .non
  | .bool _, _, h => by cases h; exact .bl _
  | .int _, _, h => by cases h; exact .int _
  | .str _, _, h => by cases h; exact .str _
  | .list ds, _, h => by
    cases h with
    | lst a b => exact .lst (Evl.ex_l s a) (dpAll_same s ds _ b)
  | .tuple ds, _, h => by
    cases h with
    | tup a b => exact .tup (Evl.ex_t s a) (dpAll_same s ds _ b)
  | .dict _, _, h => by cases h
theorem dpAll_same {K : PySem.W.Frag} {H H' : Hp} (s : Same H H') : ∀ (ds : List PyData) (vs : List V), DpAll K H vs ds → DpAll K H' vs ds
  | [], _, h => by cases h; exact .nil
  | d :: ds, _, h => by
    cases h with
    | cons a b => exact .cons (dp_same s d _ a) (dpAll_same s ds _ b)
end
theorem sh_same {K : PySem.W.Frag} {H H' : Hp} (s : Same H H') {d : PyData} {v : V} (h : Sh K H v d) : Sh K H' v d := by
  rcases h with h | ⟨a, kvs, e, hr, hf, hd⟩
  · exact .inl (dp_same s d v h)
  · exact .inr ⟨a, kvs, e, Evl.ex_rd s hr, hf, hd⟩
end Lp

set_option Elab.async false
set_option linter.all false
set_option maxRecDepth 100000
set_option maxHeartbeats 4000000
namespace Lp
open PySem PySem.Spec PyProof.Rows L2
/-! ### plain laws of data -/
theorem lay_map {α : Type} {f : α → PyData} : ∀ {l : List α}, (∀ x ∈ l, (f x).canLay0 = true) → PyData.canLayAll0 (l.map f) = true
  | [], _ => rfl
  | a :: l, h => by
    show ((f a).canLay0 && PyData.canLayAll0 (l.map f)) = true
    rw [h a (List.mem_cons_self ..), lay_map fun x hx => h x (List.mem_cons_of_mem _ hx)]
    rfl
theorem dep_map {α : Type} {f : α → PyData} {n : Nat} : ∀ {l : List α}, (∀ x ∈ l, (f x).depth ≤ n) → PyData.depthAll (l.map f) ≤ n
  | [], _ => Nat.zero_le _
  | a :: l, h => by
    show max (f a).depth (PyData.depthAll (l.map f)) ≤ n
    exact Nat.max_le.mpr ⟨h a (List.mem_cons_self ..), dep_map fun x hx => h x (List.mem_cons_of_mem _ hx)⟩
theorem shaped_of {d : PyData} (h1 : d.canLay0 = true) (h2 : d.depth ≤ 64) : SeqAt.shaped d = true := by
  unfold SeqAt.shaped
  rw [h1, decide_eq_true h2]
  rfl
mutual
theorem eqv_refl : ∀ d : PyData, d.canLay0 = true → PyData.eqv d d = true
  | .none, _ => rfl
  | .bool b, _ => by show (b == b) = true; exact beq_self_eq_true b
  | .int i, _ => by show (i == i) = true; exact beq_self_eq_true i
  | .str x, _ => by show (x == x) = true; exact beq_self_eq_true x
  | .list xs, h => eqvAll_refl xs h
  | .tuple xs, h => eqvAll_refl xs h
  | .dict _, h => by cases h
theorem eqvAll_refl : ∀ ds : List PyData, PyData.canLayAll0 ds = true → PyData.eqvAll ds ds = true
  | [], _ => rfl
  | d :: ds, h => by
    obtain ⟨h1, h2⟩ := Bool.and_eq_true_iff.mp (show (d.canLay0 && PyData.canLayAll0 ds) = true from h)
    show (PyData.eqv d d && PyData.eqvAll ds ds) = true
    rw [eqv_refl d h1, eqvAll_refl ds h2]
    rfl
end
theorem dpAll_map {K : PySem.W.Frag} {H : Hp} {α : Type} {f : α → V} {g : α → PyData} : ∀ {l : List α}, (∀ x ∈ l, Dp K H (f x) (g x)) → DpAll K H (l.map f) (l.map g)
  | [], _ => .nil
  | a :: l, h => .cons (h a (List.mem_cons_self ..)) (dpAll_map fun x hx => h x (List.mem_cons_of_mem _ hx))
theorem dpAll_paired {K : PySem.W.Frag} {H : Hp} {α : Type} {g : α → PyData} : ∀ {l : List α} {vs : List V}, Paired (fun x v => Dp K H v (g x)) l vs → DpAll K H vs (l.map g)
  | _, _, .nil => .nil
  | _, _, .cons r t => .cons r (dpAll_paired t)
theorem paired_eq {α β : Type} {g : α → β} : ∀ {l : List α} {ys : List β}, Paired (fun x y => y = g x) l ys → ys = l.map g
  | _, _, .nil => rfl
  | _, _, .cons r t => by rw [r, paired_eq t]; rfl
def bD (bs : List Bool) : PyData := .list (bs.map PyData.bool)
theorem bD_lay (bs : List Bool) : (bD bs).canLay0 = true := lay_map (l := bs) fun _ _ => rfl
theorem bD_dep (bs : List Bool) : (bD bs).depth ≤ 1 := Nat.succ_le_succ (dep_map (l := bs) fun _ _ => Nat.le_refl 0)
theorem bD_shaped (bs : List Bool) : SeqAt.shaped (bD bs) = true := shaped_of (bD_lay bs) (Nat.le_trans (bD_dep bs) (by decide))
theorem bD_dp {K : PySem.W.Frag} {H : Hp} {p : Addr} {bs : List Bool} (h : H p = some (.lst (bs.map V.bl))) : Dp K H (.ref p) (bD bs) := .lst (SqL.of h) (dpAll_map fun b _ => .bl b)
def bbD (rows : List (List Bool)) : PyData := .list (rows.map bD)
theorem bbD_lay (rows : List (List Bool)) : (bbD rows).canLay0 = true := lay_map (l := rows) fun r _ => bD_lay r
theorem bbD_shaped (rows : List (List Bool)) : SeqAt.shaped (bbD rows) = true := shaped_of (bbD_lay rows) (Nat.le_trans (Nat.succ_le_succ (dep_map (l := rows) fun r _ => bD_dep r)) (by decide))
def sD (z : Str) (n : Nat) : PyData := .list ((List.replicate n z).map PyData.str)
section
variable {t u : TS} {D : Ends} {σ : L2.St} {H : Hp} {te ta tb : TE} {tr : TA} {Q : VK} {g : TG} {r : R2}
theorem r_seq (h : t { D with nx := u D } σ H) : tSeq t u D σ H := h
theorem r_asg (h : te σ H fun v H1 => g v σ H1 D.nx) : tAsg te g D σ H := h
theorem r_lst (h : tr σ H fun xs H1 => xs.length ≤ sizeLine ∧ ∀ p, H1 p = none → Q (.ref p) (upd H1 p (.lst xs))) : tLst tr σ H Q := h
theorem r_cons {QA : List V → Hp → Prop} (h : te σ H fun x H1 => tr σ H1 fun xs H2 => QA (x :: xs) H2) : tCons te tr σ H QA := h
theorem r_op (h : ta σ H fun x H1 => tb σ H1 fun y H2 => r x y H2 Q) : tOp r ta tb σ H Q := h
theorem r_ret (h : te σ H D.rt) : tRet te D σ H := h
end
theorem yes_then {te : TE} {σ : L2.St} {H : Hp} {Qn : VK} {Qs : Hp → Prop} (h : te σ H Qn) : tYes σ H fun b H3 => if b = true then te σ H3 Qn else Qs H3 := by
  show if true = true then te σ H Qn else Qs H
  rw [if_pos rfl]
  exact h
theorem filter_true {n : Nat} : (List.range n).filter (fun _ => true) = List.range n := List.filter_eq_self.mpr fun _ _ => rfl
end Lp

set_option Elab.async false
set_option linter.all false
set_option maxRecDepth 100000
set_option maxHeartbeats 4000000
namespace Lp
open PySem PySem.Spec PyProof.Rows L2
def top (i : Nat) : Stmt := PySem.Challenge.pw_leastpools_k03_errors_and_fields.main.body.getD i (.Pass ⟨0, 0, 0, 0⟩)
abbrev S_InvalidSizes_init : Stmt := inClass (top 2) 0
abbrev S_InvalidProgram_init : Stmt := inClass (top 3) 0
abbrev S_InvalidText_init : Stmt := inClass (top 4) 0
abbrev S_InvalidState_init : Stmt := inClass (top 5) 0
abbrev S_InvalidPosition_init : Stmt := inClass (top 6) 0
abbrev S_InvalidPaper_init : Stmt := inClass (top 7) 0
abbrev S_InvalidRanks_init : Stmt := inClass (top 8) 0
abbrev S_InvalidLimits_init : Stmt := inClass (top 9) 0
abbrev S_InvalidEdit_init : Stmt := inClass (top 10) 0
abbrev S_InvalidLog_init : Stmt := inClass (top 11) 0
abbrev S_InvalidFault_init : Stmt := inClass (top 12) 0
abbrev S_InvalidCommand_init : Stmt := inClass (top 13) 0
abbrev S_NoJob_init : Stmt := inClass (top 14) 0
abbrev S_NoMove_init : Stmt := inClass (top 15) 0
abbrev S_NotEnough_init : Stmt := inClass (top 16) 0
abbrev S_TooMany_init : Stmt := inClass (top 17) 0
abbrev S_law_draws : Stmt := top 19
abbrev S_law_draw : Stmt := top 20
abbrev S_law_plain_ones : Stmt := top 21
abbrev S_law_kinds : Stmt := top 22
abbrev S_law_bases : Stmt := top 23
abbrev S_law : Stmt := top 24
/-! the sixteen classes, in order, and what isinstance says -/
def nm16 : List Str := ["InvalidSizes", "InvalidProgram", "InvalidText", "InvalidState", "InvalidPosition", "InvalidPaper", "InvalidRanks", "InvalidLimits", "InvalidEdit", "InvalidLog", "InvalidFault", "InvalidCommand", "NoJob", "NoMove", "NotEnough", "TooMany"]
def cl (K : PySem.W.Frag) (i : Nat) : Addr := He.ga K (nm16.getD i "")
def bs (K : PySem.W.Frag) (j : Nat) : Value := ([.ref (He.ga K "PoolError"), .type "ValueError", .type "KeyError", .type "LookupError", .type "ArithmeticError", .type "RuntimeError"] : List Value).getD j .none
def bT (i j : Nat) : Bool := if i < 12 then decide (j < 2) else if i = 12 then decide (j = 2 ∨ j = 3) else decide (j + 10 = i)
def ktB (K : PySem.W.Frag) : Bool := (List.range 16).all fun i => (List.range 16).all fun j => decide (PySem.W.kitOne K (.ref (cl K i)) (.ref (cl K j)) = some (decide (j = i)))
def btB (K : PySem.W.Frag) : Bool := (List.range 16).all fun i => (List.range 6).all fun j => decide (PySem.W.kitOne K (.ref (cl K i)) (bs K j) = some (bT i j))
theorem ktB_ok {K : PySem.W.Frag} (h : ktB K = true) : ∀ i j, i < 16 → j < 16 → PySem.W.kitOne K (.ref (cl K i)) (.ref (cl K j)) = some (decide (j = i)) := fun i j hi hj =>
  of_decide_eq_true (List.all_eq_true.mp (List.all_eq_true.mp h i (List.mem_range.mpr hi)) j (List.mem_range.mpr hj))
theorem btB_ok {K : PySem.W.Frag} (h : btB K = true) : ∀ i j, i < 16 → j < 6 → PySem.W.kitOne K (.ref (cl K i)) (bs K j) = some (bT i j) := fun i j hi hj =>
  of_decide_eq_true (List.all_eq_true.mp (List.all_eq_true.mp h i (List.mem_range.mpr hi)) j (List.mem_range.mpr hj))
abbrev A_InvalidSizes_init (K : PySem.W.Frag) : Addr := He.fAd K ("InvalidSizes", some "__init__")
abbrev D_InvalidSizes_init (K : PySem.W.Frag) : FuncData := fdAt K (A_InvalidSizes_init K)
def d_InvalidSizes_init : He.DefD := ⟨("InvalidSizes", some "__init__"), "__init__", "InvalidSizes.__init__", defArgs S_InvalidSizes_init, defBody S_InvalidSizes_init, defScope S_InvalidSizes_init, [], []⟩
abbrev A_InvalidProgram_init (K : PySem.W.Frag) : Addr := He.fAd K ("InvalidProgram", some "__init__")
abbrev D_InvalidProgram_init (K : PySem.W.Frag) : FuncData := fdAt K (A_InvalidProgram_init K)
def d_InvalidProgram_init : He.DefD := ⟨("InvalidProgram", some "__init__"), "__init__", "InvalidProgram.__init__", defArgs S_InvalidProgram_init, defBody S_InvalidProgram_init, defScope S_InvalidProgram_init, [], []⟩
abbrev A_InvalidText_init (K : PySem.W.Frag) : Addr := He.fAd K ("InvalidText", some "__init__")
abbrev D_InvalidText_init (K : PySem.W.Frag) : FuncData := fdAt K (A_InvalidText_init K)
def d_InvalidText_init : He.DefD := ⟨("InvalidText", some "__init__"), "__init__", "InvalidText.__init__", defArgs S_InvalidText_init, defBody S_InvalidText_init, defScope S_InvalidText_init, [], []⟩
abbrev A_InvalidState_init (K : PySem.W.Frag) : Addr := He.fAd K ("InvalidState", some "__init__")
abbrev D_InvalidState_init (K : PySem.W.Frag) : FuncData := fdAt K (A_InvalidState_init K)
def d_InvalidState_init : He.DefD := ⟨("InvalidState", some "__init__"), "__init__", "InvalidState.__init__", defArgs S_InvalidState_init, defBody S_InvalidState_init, defScope S_InvalidState_init, [], []⟩
abbrev A_InvalidPosition_init (K : PySem.W.Frag) : Addr := He.fAd K ("InvalidPosition", some "__init__")
abbrev D_InvalidPosition_init (K : PySem.W.Frag) : FuncData := fdAt K (A_InvalidPosition_init K)
def d_InvalidPosition_init : He.DefD := ⟨("InvalidPosition", some "__init__"), "__init__", "InvalidPosition.__init__", defArgs S_InvalidPosition_init, defBody S_InvalidPosition_init, defScope S_InvalidPosition_init, [], []⟩
abbrev A_InvalidPaper_init (K : PySem.W.Frag) : Addr := He.fAd K ("InvalidPaper", some "__init__")
abbrev D_InvalidPaper_init (K : PySem.W.Frag) : FuncData := fdAt K (A_InvalidPaper_init K)
def d_InvalidPaper_init : He.DefD := ⟨("InvalidPaper", some "__init__"), "__init__", "InvalidPaper.__init__", defArgs S_InvalidPaper_init, defBody S_InvalidPaper_init, defScope S_InvalidPaper_init, [], []⟩
abbrev A_InvalidRanks_init (K : PySem.W.Frag) : Addr := He.fAd K ("InvalidRanks", some "__init__")
abbrev D_InvalidRanks_init (K : PySem.W.Frag) : FuncData := fdAt K (A_InvalidRanks_init K)
def d_InvalidRanks_init : He.DefD := ⟨("InvalidRanks", some "__init__"), "__init__", "InvalidRanks.__init__", defArgs S_InvalidRanks_init, defBody S_InvalidRanks_init, defScope S_InvalidRanks_init, [], []⟩
abbrev A_InvalidLimits_init (K : PySem.W.Frag) : Addr := He.fAd K ("InvalidLimits", some "__init__")
abbrev D_InvalidLimits_init (K : PySem.W.Frag) : FuncData := fdAt K (A_InvalidLimits_init K)
def d_InvalidLimits_init : He.DefD := ⟨("InvalidLimits", some "__init__"), "__init__", "InvalidLimits.__init__", defArgs S_InvalidLimits_init, defBody S_InvalidLimits_init, defScope S_InvalidLimits_init, [], []⟩
abbrev A_InvalidEdit_init (K : PySem.W.Frag) : Addr := He.fAd K ("InvalidEdit", some "__init__")
abbrev D_InvalidEdit_init (K : PySem.W.Frag) : FuncData := fdAt K (A_InvalidEdit_init K)
def d_InvalidEdit_init : He.DefD := ⟨("InvalidEdit", some "__init__"), "__init__", "InvalidEdit.__init__", defArgs S_InvalidEdit_init, defBody S_InvalidEdit_init, defScope S_InvalidEdit_init, [], []⟩
abbrev A_InvalidLog_init (K : PySem.W.Frag) : Addr := He.fAd K ("InvalidLog", some "__init__")
abbrev D_InvalidLog_init (K : PySem.W.Frag) : FuncData := fdAt K (A_InvalidLog_init K)
def d_InvalidLog_init : He.DefD := ⟨("InvalidLog", some "__init__"), "__init__", "InvalidLog.__init__", defArgs S_InvalidLog_init, defBody S_InvalidLog_init, defScope S_InvalidLog_init, [], []⟩
abbrev A_InvalidFault_init (K : PySem.W.Frag) : Addr := He.fAd K ("InvalidFault", some "__init__")
abbrev D_InvalidFault_init (K : PySem.W.Frag) : FuncData := fdAt K (A_InvalidFault_init K)
def d_InvalidFault_init : He.DefD := ⟨("InvalidFault", some "__init__"), "__init__", "InvalidFault.__init__", defArgs S_InvalidFault_init, defBody S_InvalidFault_init, defScope S_InvalidFault_init, [], []⟩
abbrev A_InvalidCommand_init (K : PySem.W.Frag) : Addr := He.fAd K ("InvalidCommand", some "__init__")
abbrev D_InvalidCommand_init (K : PySem.W.Frag) : FuncData := fdAt K (A_InvalidCommand_init K)
def d_InvalidCommand_init : He.DefD := ⟨("InvalidCommand", some "__init__"), "__init__", "InvalidCommand.__init__", defArgs S_InvalidCommand_init, defBody S_InvalidCommand_init, defScope S_InvalidCommand_init, [], []⟩
abbrev A_NoJob_init (K : PySem.W.Frag) : Addr := He.fAd K ("NoJob", some "__init__")
abbrev D_NoJob_init (K : PySem.W.Frag) : FuncData := fdAt K (A_NoJob_init K)
def d_NoJob_init : He.DefD := ⟨("NoJob", some "__init__"), "__init__", "NoJob.__init__", defArgs S_NoJob_init, defBody S_NoJob_init, defScope S_NoJob_init, [], []⟩
abbrev A_NoMove_init (K : PySem.W.Frag) : Addr := He.fAd K ("NoMove", some "__init__")
abbrev D_NoMove_init (K : PySem.W.Frag) : FuncData := fdAt K (A_NoMove_init K)
def d_NoMove_init : He.DefD := ⟨("NoMove", some "__init__"), "__init__", "NoMove.__init__", defArgs S_NoMove_init, defBody S_NoMove_init, defScope S_NoMove_init, [], []⟩
abbrev A_NotEnough_init (K : PySem.W.Frag) : Addr := He.fAd K ("NotEnough", some "__init__")
abbrev D_NotEnough_init (K : PySem.W.Frag) : FuncData := fdAt K (A_NotEnough_init K)
def d_NotEnough_init : He.DefD := ⟨("NotEnough", some "__init__"), "__init__", "NotEnough.__init__", defArgs S_NotEnough_init, defBody S_NotEnough_init, defScope S_NotEnough_init, [], []⟩
abbrev A_TooMany_init (K : PySem.W.Frag) : Addr := He.fAd K ("TooMany", some "__init__")
abbrev D_TooMany_init (K : PySem.W.Frag) : FuncData := fdAt K (A_TooMany_init K)
def d_TooMany_init : He.DefD := ⟨("TooMany", some "__init__"), "__init__", "TooMany.__init__", defArgs S_TooMany_init, defBody S_TooMany_init, defScope S_TooMany_init, [], []⟩
abbrev A_law_draws (K : PySem.W.Frag) : Addr := He.fAd K ("_law_draws", none)
abbrev D_law_draws (K : PySem.W.Frag) : FuncData := fdAt K (A_law_draws K)
def d_law_draws : He.DefD := ⟨("_law_draws", none), "_law_draws", "_law_draws", defArgs S_law_draws, defBody S_law_draws, defScope S_law_draws, [], []⟩
abbrev A_law_draw (K : PySem.W.Frag) : Addr := He.fAd K ("_law_draw", none)
abbrev D_law_draw (K : PySem.W.Frag) : FuncData := fdAt K (A_law_draw K)
def d_law_draw : He.DefD := ⟨("_law_draw", none), "_law_draw", "_law_draw", defArgs S_law_draw, defBody S_law_draw, defScope S_law_draw, [], []⟩
abbrev A_law_plain_ones (K : PySem.W.Frag) : Addr := He.fAd K ("_law_plain_ones", none)
abbrev D_law_plain_ones (K : PySem.W.Frag) : FuncData := fdAt K (A_law_plain_ones K)
def d_law_plain_ones : He.DefD := ⟨("_law_plain_ones", none), "_law_plain_ones", "_law_plain_ones", defArgs S_law_plain_ones, defBody S_law_plain_ones, defScope S_law_plain_ones, [], []⟩
abbrev A_law_kinds (K : PySem.W.Frag) : Addr := He.fAd K ("_law_kinds", none)
abbrev D_law_kinds (K : PySem.W.Frag) : FuncData := fdAt K (A_law_kinds K)
def d_law_kinds : He.DefD := ⟨("_law_kinds", none), "_law_kinds", "_law_kinds", defArgs S_law_kinds, defBody S_law_kinds, defScope S_law_kinds, [], []⟩
abbrev A_law_bases (K : PySem.W.Frag) : Addr := He.fAd K ("_law_bases", none)
abbrev D_law_bases (K : PySem.W.Frag) : FuncData := fdAt K (A_law_bases K)
def d_law_bases : He.DefD := ⟨("_law_bases", none), "_law_bases", "_law_bases", defArgs S_law_bases, defBody S_law_bases, defScope S_law_bases, [], []⟩
abbrev A_law (K : PySem.W.Frag) : Addr := He.fAd K ("law", none)
abbrev D_law (K : PySem.W.Frag) : FuncData := fdAt K (A_law K)
def d_law : He.DefD := ⟨("law", none), "law", "law", defArgs S_law, defBody S_law, defScope S_law, [], []⟩
structure Tx (K : PySem.W.Frag) (mg : Str → Option Value) : Prop where
  z_KeyError : mg "KeyError" = none
  z_LookupError : mg "LookupError" = none
  z_ArithmeticError : mg "ArithmeticError" = none
  z_RuntimeError : mg "RuntimeError" = none
  z_len : mg "len" = none
  z_int : mg "int" = none
  z_isinstance : mg "isinstance" = none
  z_ValueError : mg "ValueError" = none
  z_range : mg "range" = none
  z_max : mg "max" = none
  z_enumerate : mg "enumerate" = none
  z_min : mg "min" = none
  z_repr : mg "repr" = none
  m_law_draws : mg "_law_draws" = some (.ref (He.ga K "_law_draws"))
  m_law_draw : mg "_law_draw" = some (.ref (He.ga K "_law_draw"))
  m_law_plain_ones : mg "_law_plain_ones" = some (.ref (He.ga K "_law_plain_ones"))
  m_law_kinds : mg "_law_kinds" = some (.ref (He.ga K "_law_kinds"))
  m_law_bases : mg "_law_bases" = some (.ref (He.ga K "_law_bases"))
  m_law : mg "law" = some (.ref (He.ga K "law"))
  m_PoolError : mg "PoolError" = some (.ref (He.ga K "PoolError"))
  m_InvalidSizes : mg "InvalidSizes" = some (.ref (He.ga K "InvalidSizes"))
  m_InvalidProgram : mg "InvalidProgram" = some (.ref (He.ga K "InvalidProgram"))
  m_InvalidText : mg "InvalidText" = some (.ref (He.ga K "InvalidText"))
  m_InvalidState : mg "InvalidState" = some (.ref (He.ga K "InvalidState"))
  m_InvalidPosition : mg "InvalidPosition" = some (.ref (He.ga K "InvalidPosition"))
  m_InvalidPaper : mg "InvalidPaper" = some (.ref (He.ga K "InvalidPaper"))
  m_InvalidRanks : mg "InvalidRanks" = some (.ref (He.ga K "InvalidRanks"))
  m_InvalidLimits : mg "InvalidLimits" = some (.ref (He.ga K "InvalidLimits"))
  m_InvalidEdit : mg "InvalidEdit" = some (.ref (He.ga K "InvalidEdit"))
  m_InvalidLog : mg "InvalidLog" = some (.ref (He.ga K "InvalidLog"))
  m_InvalidFault : mg "InvalidFault" = some (.ref (He.ga K "InvalidFault"))
  m_InvalidCommand : mg "InvalidCommand" = some (.ref (He.ga K "InvalidCommand"))
  m_NoJob : mg "NoJob" = some (.ref (He.ga K "NoJob"))
  m_NoMove : mg "NoMove" = some (.ref (He.ga K "NoMove"))
  m_NotEnough : mg "NotEnough" = some (.ref (He.ga K "NotEnough"))
  m_TooMany : mg "TooMany" = some (.ref (He.ga K "TooMany"))
  p_PoolError : XP K (He.ga K "PoolError") "ValueError.__init__"
  v_ArithmeticError : PySem.W.findCls K (.type "ArithmeticError") (.type "type") "__init__" = some (.val (.builtin "ArithmeticError.__init__"))
  v_KeyError : PySem.W.findCls K (.type "KeyError") (.type "type") "__init__" = some (.val (.builtin "KeyError.__init__"))
  v_LookupError : PySem.W.findCls K (.type "LookupError") (.type "type") "__init__" = some (.val (.builtin "LookupError.__init__"))
  v_RuntimeError : PySem.W.findCls K (.type "RuntimeError") (.type "type") "__init__" = some (.val (.builtin "RuntimeError.__init__"))
  v_ValueError : PySem.W.findCls K (.type "ValueError") (.type "type") "__init__" = some (.val (.builtin "ValueError.__init__"))
  x_InvalidSizes : XC K (He.ga K "InvalidSizes") "ValueError" "ValueError.__new__" "ValueError" "ValueError.__init__"
  i_InvalidSizes : XI K (He.ga K "InvalidSizes") (A_InvalidSizes_init K) "value"
  x_InvalidProgram : XC K (He.ga K "InvalidProgram") "ValueError" "ValueError.__new__" "ValueError" "ValueError.__init__"
  i_InvalidProgram : XI K (He.ga K "InvalidProgram") (A_InvalidProgram_init K) "value"
  x_InvalidText : XC K (He.ga K "InvalidText") "ValueError" "ValueError.__new__" "ValueError" "ValueError.__init__"
  i_InvalidText : XI K (He.ga K "InvalidText") (A_InvalidText_init K) "value"
  x_InvalidState : XC K (He.ga K "InvalidState") "ValueError" "ValueError.__new__" "ValueError" "ValueError.__init__"
  i_InvalidState : XI K (He.ga K "InvalidState") (A_InvalidState_init K) "value"
  x_InvalidPosition : XC K (He.ga K "InvalidPosition") "ValueError" "ValueError.__new__" "ValueError" "ValueError.__init__"
  i_InvalidPosition : XI K (He.ga K "InvalidPosition") (A_InvalidPosition_init K) "value"
  x_InvalidPaper : XC K (He.ga K "InvalidPaper") "ValueError" "ValueError.__new__" "ValueError" "ValueError.__init__"
  i_InvalidPaper : XI K (He.ga K "InvalidPaper") (A_InvalidPaper_init K) "value"
  x_InvalidRanks : XC K (He.ga K "InvalidRanks") "ValueError" "ValueError.__new__" "ValueError" "ValueError.__init__"
  i_InvalidRanks : XI K (He.ga K "InvalidRanks") (A_InvalidRanks_init K) "value"
  x_InvalidLimits : XC K (He.ga K "InvalidLimits") "ValueError" "ValueError.__new__" "ValueError" "ValueError.__init__"
  i_InvalidLimits : XI K (He.ga K "InvalidLimits") (A_InvalidLimits_init K) "value"
  x_InvalidEdit : XC K (He.ga K "InvalidEdit") "ValueError" "ValueError.__new__" "ValueError" "ValueError.__init__"
  i_InvalidEdit : XI K (He.ga K "InvalidEdit") (A_InvalidEdit_init K) "value"
  x_InvalidLog : XC K (He.ga K "InvalidLog") "ValueError" "ValueError.__new__" "ValueError" "ValueError.__init__"
  i_InvalidLog : XI K (He.ga K "InvalidLog") (A_InvalidLog_init K) "value"
  x_InvalidFault : XC K (He.ga K "InvalidFault") "ValueError" "ValueError.__new__" "ValueError" "ValueError.__init__"
  i_InvalidFault : XI K (He.ga K "InvalidFault") (A_InvalidFault_init K) "value"
  x_InvalidCommand : XC K (He.ga K "InvalidCommand") "ValueError" "ValueError.__new__" "ValueError" "ValueError.__init__"
  i_InvalidCommand : XI K (He.ga K "InvalidCommand") (A_InvalidCommand_init K) "value"
  x_NoJob : XC K (He.ga K "NoJob") "LookupError" "LookupError.__new__" "KeyError" "KeyError.__init__"
  i_NoJob : XI K (He.ga K "NoJob") (A_NoJob_init K) "value"
  x_NoMove : XC K (He.ga K "NoMove") "LookupError" "LookupError.__new__" "LookupError" "LookupError.__init__"
  i_NoMove : XI K (He.ga K "NoMove") (A_NoMove_init K) "value"
  x_NotEnough : XC K (He.ga K "NotEnough") "ArithmeticError" "ArithmeticError.__new__" "ArithmeticError" "ArithmeticError.__init__"
  i_NotEnough : XI K (He.ga K "NotEnough") (A_NotEnough_init K) "name"
  x_TooMany : XC K (He.ga K "TooMany") "RuntimeError" "RuntimeError.__new__" "RuntimeError" "RuntimeError.__init__"
  i_TooMany : XI K (He.ga K "TooMany") (A_TooMany_init K) "number"
  kt : ∀ i j, i < 16 → j < 16 → PySem.W.kitOne K (.ref (cl K i)) (.ref (cl K j)) = some (decide (j = i))
  bt : ∀ i j, i < 16 → j < 6 → PySem.W.kitOne K (.ref (cl K i)) (bs K j) = some (bT i j)
  F_InvalidSizes_init : FunD K "__init__" "InvalidSizes.__init__" (defArgs S_InvalidSizes_init) (defBody S_InvalidSizes_init) (defScope S_InvalidSizes_init) [] [] (A_InvalidSizes_init K) (D_InvalidSizes_init K)
  F_InvalidProgram_init : FunD K "__init__" "InvalidProgram.__init__" (defArgs S_InvalidProgram_init) (defBody S_InvalidProgram_init) (defScope S_InvalidProgram_init) [] [] (A_InvalidProgram_init K) (D_InvalidProgram_init K)
  F_InvalidText_init : FunD K "__init__" "InvalidText.__init__" (defArgs S_InvalidText_init) (defBody S_InvalidText_init) (defScope S_InvalidText_init) [] [] (A_InvalidText_init K) (D_InvalidText_init K)
  F_InvalidState_init : FunD K "__init__" "InvalidState.__init__" (defArgs S_InvalidState_init) (defBody S_InvalidState_init) (defScope S_InvalidState_init) [] [] (A_InvalidState_init K) (D_InvalidState_init K)
  F_InvalidPosition_init : FunD K "__init__" "InvalidPosition.__init__" (defArgs S_InvalidPosition_init) (defBody S_InvalidPosition_init) (defScope S_InvalidPosition_init) [] [] (A_InvalidPosition_init K) (D_InvalidPosition_init K)
  F_InvalidPaper_init : FunD K "__init__" "InvalidPaper.__init__" (defArgs S_InvalidPaper_init) (defBody S_InvalidPaper_init) (defScope S_InvalidPaper_init) [] [] (A_InvalidPaper_init K) (D_InvalidPaper_init K)
  F_InvalidRanks_init : FunD K "__init__" "InvalidRanks.__init__" (defArgs S_InvalidRanks_init) (defBody S_InvalidRanks_init) (defScope S_InvalidRanks_init) [] [] (A_InvalidRanks_init K) (D_InvalidRanks_init K)
  F_InvalidLimits_init : FunD K "__init__" "InvalidLimits.__init__" (defArgs S_InvalidLimits_init) (defBody S_InvalidLimits_init) (defScope S_InvalidLimits_init) [] [] (A_InvalidLimits_init K) (D_InvalidLimits_init K)
  F_InvalidEdit_init : FunD K "__init__" "InvalidEdit.__init__" (defArgs S_InvalidEdit_init) (defBody S_InvalidEdit_init) (defScope S_InvalidEdit_init) [] [] (A_InvalidEdit_init K) (D_InvalidEdit_init K)
  F_InvalidLog_init : FunD K "__init__" "InvalidLog.__init__" (defArgs S_InvalidLog_init) (defBody S_InvalidLog_init) (defScope S_InvalidLog_init) [] [] (A_InvalidLog_init K) (D_InvalidLog_init K)
  F_InvalidFault_init : FunD K "__init__" "InvalidFault.__init__" (defArgs S_InvalidFault_init) (defBody S_InvalidFault_init) (defScope S_InvalidFault_init) [] [] (A_InvalidFault_init K) (D_InvalidFault_init K)
  F_InvalidCommand_init : FunD K "__init__" "InvalidCommand.__init__" (defArgs S_InvalidCommand_init) (defBody S_InvalidCommand_init) (defScope S_InvalidCommand_init) [] [] (A_InvalidCommand_init K) (D_InvalidCommand_init K)
  F_NoJob_init : FunD K "__init__" "NoJob.__init__" (defArgs S_NoJob_init) (defBody S_NoJob_init) (defScope S_NoJob_init) [] [] (A_NoJob_init K) (D_NoJob_init K)
  F_NoMove_init : FunD K "__init__" "NoMove.__init__" (defArgs S_NoMove_init) (defBody S_NoMove_init) (defScope S_NoMove_init) [] [] (A_NoMove_init K) (D_NoMove_init K)
  F_NotEnough_init : FunD K "__init__" "NotEnough.__init__" (defArgs S_NotEnough_init) (defBody S_NotEnough_init) (defScope S_NotEnough_init) [] [] (A_NotEnough_init K) (D_NotEnough_init K)
  F_TooMany_init : FunD K "__init__" "TooMany.__init__" (defArgs S_TooMany_init) (defBody S_TooMany_init) (defScope S_TooMany_init) [] [] (A_TooMany_init K) (D_TooMany_init K)
  F_law_draws : FunD K "_law_draws" "_law_draws" (defArgs S_law_draws) (defBody S_law_draws) (defScope S_law_draws) [] [] (A_law_draws K) (D_law_draws K)
  F_law_draw : FunD K "_law_draw" "_law_draw" (defArgs S_law_draw) (defBody S_law_draw) (defScope S_law_draw) [] [] (A_law_draw K) (D_law_draw K)
  F_law_plain_ones : FunD K "_law_plain_ones" "_law_plain_ones" (defArgs S_law_plain_ones) (defBody S_law_plain_ones) (defScope S_law_plain_ones) [] [] (A_law_plain_ones K) (D_law_plain_ones K)
  F_law_kinds : FunD K "_law_kinds" "_law_kinds" (defArgs S_law_kinds) (defBody S_law_kinds) (defScope S_law_kinds) [] [] (A_law_kinds K) (D_law_kinds K)
  F_law_bases : FunD K "_law_bases" "_law_bases" (defArgs S_law_bases) (defBody S_law_bases) (defScope S_law_bases) [] [] (A_law_bases K) (D_law_bases K)
  F_law : FunD K "law" "law" (defArgs S_law) (defBody S_law) (defScope S_law) [] [] (A_law K) (D_law K)
def fnL : List He.DefD := [d_InvalidSizes_init, d_InvalidProgram_init, d_InvalidText_init, d_InvalidState_init, d_InvalidPosition_init, d_InvalidPaper_init, d_InvalidRanks_init, d_InvalidLimits_init, d_InvalidEdit_init, d_InvalidLog_init, d_InvalidFault_init, d_InvalidCommand_init, d_NoJob_init, d_NoMove_init, d_NotEnough_init, d_TooMany_init, d_law_draws, d_law_draw, d_law_plain_ones, d_law_kinds, d_law_bases, d_law]
def exB0 (K : PySem.W.Frag) : Bool := He.eqO (PySem.W.nsIn K mainGlobals "KeyError") (some none) && (He.eqO (PySem.W.nsIn K mainGlobals "LookupError") (some none) && (He.eqO (PySem.W.nsIn K mainGlobals "ArithmeticError") (some none) && (He.eqO (PySem.W.nsIn K mainGlobals "RuntimeError") (some none) && (He.eqO (PySem.W.nsIn K mainGlobals "len") (some none) && (He.eqO (PySem.W.nsIn K mainGlobals "int") (some none) && (He.eqO (PySem.W.nsIn K mainGlobals "isinstance") (some none) && (He.eqO (PySem.W.nsIn K mainGlobals "ValueError") (some none) && (He.eqO (PySem.W.nsIn K mainGlobals "range") (some none) && (He.eqO (PySem.W.nsIn K mainGlobals "max") (some none) && (He.eqO (PySem.W.nsIn K mainGlobals "enumerate") (some none) && (He.eqO (PySem.W.nsIn K mainGlobals "min") (some none) && (He.eqO (PySem.W.nsIn K mainGlobals "repr") (some none) && (He.eqO (PySem.W.nsIn K mainGlobals "_law_draws") (some (some (.ref (He.ga K "_law_draws")))) && (He.eqO (PySem.W.nsIn K mainGlobals "_law_draw") (some (some (.ref (He.ga K "_law_draw")))) && (He.eqO (PySem.W.nsIn K mainGlobals "_law_plain_ones") (some (some (.ref (He.ga K "_law_plain_ones")))) && (He.eqO (PySem.W.nsIn K mainGlobals "_law_kinds") (some (some (.ref (He.ga K "_law_kinds")))) && (He.eqO (PySem.W.nsIn K mainGlobals "_law_bases") (some (some (.ref (He.ga K "_law_bases")))) && (He.eqO (PySem.W.nsIn K mainGlobals "law") (some (some (.ref (He.ga K "law")))) && (He.eqO (PySem.W.nsIn K mainGlobals "PoolError") (some (some (.ref (He.ga K "PoolError")))))))))))))))))))))))
def exB1 (K : PySem.W.Frag) : Bool := He.eqO (PySem.W.nsIn K mainGlobals "InvalidSizes") (some (some (.ref (He.ga K "InvalidSizes")))) && (He.eqO (PySem.W.nsIn K mainGlobals "InvalidProgram") (some (some (.ref (He.ga K "InvalidProgram")))) && (He.eqO (PySem.W.nsIn K mainGlobals "InvalidText") (some (some (.ref (He.ga K "InvalidText")))) && (He.eqO (PySem.W.nsIn K mainGlobals "InvalidState") (some (some (.ref (He.ga K "InvalidState")))) && (He.eqO (PySem.W.nsIn K mainGlobals "InvalidPosition") (some (some (.ref (He.ga K "InvalidPosition")))) && (He.eqO (PySem.W.nsIn K mainGlobals "InvalidPaper") (some (some (.ref (He.ga K "InvalidPaper")))) && (He.eqO (PySem.W.nsIn K mainGlobals "InvalidRanks") (some (some (.ref (He.ga K "InvalidRanks")))) && (He.eqO (PySem.W.nsIn K mainGlobals "InvalidLimits") (some (some (.ref (He.ga K "InvalidLimits")))) && (He.eqO (PySem.W.nsIn K mainGlobals "InvalidEdit") (some (some (.ref (He.ga K "InvalidEdit")))) && (He.eqO (PySem.W.nsIn K mainGlobals "InvalidLog") (some (some (.ref (He.ga K "InvalidLog")))) && (He.eqO (PySem.W.nsIn K mainGlobals "InvalidFault") (some (some (.ref (He.ga K "InvalidFault")))) && (He.eqO (PySem.W.nsIn K mainGlobals "InvalidCommand") (some (some (.ref (He.ga K "InvalidCommand")))) && (He.eqO (PySem.W.nsIn K mainGlobals "NoJob") (some (some (.ref (He.ga K "NoJob")))) && (He.eqO (PySem.W.nsIn K mainGlobals "NoMove") (some (some (.ref (He.ga K "NoMove")))) && (He.eqO (PySem.W.nsIn K mainGlobals "NotEnough") (some (some (.ref (He.ga K "NotEnough")))) && (He.eqO (PySem.W.nsIn K mainGlobals "TooMany") (some (some (.ref (He.ga K "TooMany")))) && (xpB K (He.ga K "PoolError") "ValueError.__init__" && (valIs (PySem.W.findCls K (.type "ArithmeticError") (.type "type") "__init__") (.builtin "ArithmeticError.__init__") && (valIs (PySem.W.findCls K (.type "KeyError") (.type "type") "__init__") (.builtin "KeyError.__init__") && (valIs (PySem.W.findCls K (.type "LookupError") (.type "type") "__init__") (.builtin "LookupError.__init__"))))))))))))))))))))
def exB2 (K : PySem.W.Frag) : Bool := valIs (PySem.W.findCls K (.type "RuntimeError") (.type "type") "__init__") (.builtin "RuntimeError.__init__") && (valIs (PySem.W.findCls K (.type "ValueError") (.type "type") "__init__") (.builtin "ValueError.__init__") && (xcB K (He.ga K "InvalidSizes") "ValueError" "ValueError.__new__" "ValueError" && (xiB K (He.ga K "InvalidSizes") (A_InvalidSizes_init K) "value" && (xcB K (He.ga K "InvalidProgram") "ValueError" "ValueError.__new__" "ValueError" && (xiB K (He.ga K "InvalidProgram") (A_InvalidProgram_init K) "value" && (xcB K (He.ga K "InvalidText") "ValueError" "ValueError.__new__" "ValueError" && (xiB K (He.ga K "InvalidText") (A_InvalidText_init K) "value" && (xcB K (He.ga K "InvalidState") "ValueError" "ValueError.__new__" "ValueError" && (xiB K (He.ga K "InvalidState") (A_InvalidState_init K) "value" && (xcB K (He.ga K "InvalidPosition") "ValueError" "ValueError.__new__" "ValueError" && (xiB K (He.ga K "InvalidPosition") (A_InvalidPosition_init K) "value" && (xcB K (He.ga K "InvalidPaper") "ValueError" "ValueError.__new__" "ValueError" && (xiB K (He.ga K "InvalidPaper") (A_InvalidPaper_init K) "value" && (xcB K (He.ga K "InvalidRanks") "ValueError" "ValueError.__new__" "ValueError" && (xiB K (He.ga K "InvalidRanks") (A_InvalidRanks_init K) "value" && (xcB K (He.ga K "InvalidLimits") "ValueError" "ValueError.__new__" "ValueError" && (xiB K (He.ga K "InvalidLimits") (A_InvalidLimits_init K) "value" && (xcB K (He.ga K "InvalidEdit") "ValueError" "ValueError.__new__" "ValueError" && (xiB K (He.ga K "InvalidEdit") (A_InvalidEdit_init K) "value")))))))))))))))))))
def exB3 (K : PySem.W.Frag) : Bool := xcB K (He.ga K "InvalidLog") "ValueError" "ValueError.__new__" "ValueError" && (xiB K (He.ga K "InvalidLog") (A_InvalidLog_init K) "value" && (xcB K (He.ga K "InvalidFault") "ValueError" "ValueError.__new__" "ValueError" && (xiB K (He.ga K "InvalidFault") (A_InvalidFault_init K) "value" && (xcB K (He.ga K "InvalidCommand") "ValueError" "ValueError.__new__" "ValueError" && (xiB K (He.ga K "InvalidCommand") (A_InvalidCommand_init K) "value" && (xcB K (He.ga K "NoJob") "LookupError" "LookupError.__new__" "KeyError" && (xiB K (He.ga K "NoJob") (A_NoJob_init K) "value" && (xcB K (He.ga K "NoMove") "LookupError" "LookupError.__new__" "LookupError" && (xiB K (He.ga K "NoMove") (A_NoMove_init K) "value" && (xcB K (He.ga K "NotEnough") "ArithmeticError" "ArithmeticError.__new__" "ArithmeticError" && (xiB K (He.ga K "NotEnough") (A_NotEnough_init K) "name" && (xcB K (He.ga K "TooMany") "RuntimeError" "RuntimeError.__new__" "RuntimeError" && (xiB K (He.ga K "TooMany") (A_TooMany_init K) "number" && (ktB K && (btB K)))))))))))))))
def exB (K : PySem.W.Frag) : Bool := exB0 K && (exB1 K && (exB2 K && (exB3 K)))
theorem tx_of {K : PySem.W.Frag} {h : Heap} {mg : Str → Option Value} (X : K.In h) (G : h.Ns mainGlobals mg) (c : SaysL exB fnL K) : Tx K mg := by
  have z := c.all_
  unfold exB at z
  simp only [Bool.and_eq_true] at z
  obtain ⟨z0, z1, z2, z3⟩ := z
  unfold exB0 at z0
  simp only [Bool.and_eq_true] at z0
  obtain ⟨h_z_KeyError, h_z_LookupError, h_z_ArithmeticError, h_z_RuntimeError, h_z_len, h_z_int, h_z_isinstance, h_z_ValueError, h_z_range, h_z_max, h_z_enumerate, h_z_min, h_z_repr, h_m_law_draws, h_m_law_draw, h_m_law_plain_ones, h_m_law_kinds, h_m_law_bases, h_m_law, h_m_PoolError⟩ := z0
  unfold exB1 at z1
  simp only [Bool.and_eq_true] at z1
  obtain ⟨h_m_InvalidSizes, h_m_InvalidProgram, h_m_InvalidText, h_m_InvalidState, h_m_InvalidPosition, h_m_InvalidPaper, h_m_InvalidRanks, h_m_InvalidLimits, h_m_InvalidEdit, h_m_InvalidLog, h_m_InvalidFault, h_m_InvalidCommand, h_m_NoJob, h_m_NoMove, h_m_NotEnough, h_m_TooMany, h_p_PoolError, h_v_ArithmeticError, h_v_KeyError, h_v_LookupError⟩ := z1
  unfold exB2 at z2
  simp only [Bool.and_eq_true] at z2
  obtain ⟨h_v_RuntimeError, h_v_ValueError, h_x_InvalidSizes, h_i_InvalidSizes, h_x_InvalidProgram, h_i_InvalidProgram, h_x_InvalidText, h_i_InvalidText, h_x_InvalidState, h_i_InvalidState, h_x_InvalidPosition, h_i_InvalidPosition, h_x_InvalidPaper, h_i_InvalidPaper, h_x_InvalidRanks, h_i_InvalidRanks, h_x_InvalidLimits, h_i_InvalidLimits, h_x_InvalidEdit, h_i_InvalidEdit⟩ := z2
  unfold exB3 at z3
  simp only [Bool.and_eq_true] at z3
  obtain ⟨h_x_InvalidLog, h_i_InvalidLog, h_x_InvalidFault, h_i_InvalidFault, h_x_InvalidCommand, h_i_InvalidCommand, h_x_NoJob, h_i_NoJob, h_x_NoMove, h_i_NoMove, h_x_NotEnough, h_i_NotEnough, h_x_TooMany, h_i_TooMany, h_kt, h_bt⟩ := z3
  exact {
    z_KeyError := PySem.W.mg_none_of X G (He.eqO_ok h_z_KeyError)
    z_LookupError := PySem.W.mg_none_of X G (He.eqO_ok h_z_LookupError)
    z_ArithmeticError := PySem.W.mg_none_of X G (He.eqO_ok h_z_ArithmeticError)
    z_RuntimeError := PySem.W.mg_none_of X G (He.eqO_ok h_z_RuntimeError)
    z_len := PySem.W.mg_none_of X G (He.eqO_ok h_z_len)
    z_int := PySem.W.mg_none_of X G (He.eqO_ok h_z_int)
    z_isinstance := PySem.W.mg_none_of X G (He.eqO_ok h_z_isinstance)
    z_ValueError := PySem.W.mg_none_of X G (He.eqO_ok h_z_ValueError)
    z_range := PySem.W.mg_none_of X G (He.eqO_ok h_z_range)
    z_max := PySem.W.mg_none_of X G (He.eqO_ok h_z_max)
    z_enumerate := PySem.W.mg_none_of X G (He.eqO_ok h_z_enumerate)
    z_min := PySem.W.mg_none_of X G (He.eqO_ok h_z_min)
    z_repr := PySem.W.mg_none_of X G (He.eqO_ok h_z_repr)
    m_law_draws := PySem.W.mg_of X G (He.eqO_ok h_m_law_draws)
    m_law_draw := PySem.W.mg_of X G (He.eqO_ok h_m_law_draw)
    m_law_plain_ones := PySem.W.mg_of X G (He.eqO_ok h_m_law_plain_ones)
    m_law_kinds := PySem.W.mg_of X G (He.eqO_ok h_m_law_kinds)
    m_law_bases := PySem.W.mg_of X G (He.eqO_ok h_m_law_bases)
    m_law := PySem.W.mg_of X G (He.eqO_ok h_m_law)
    m_PoolError := PySem.W.mg_of X G (He.eqO_ok h_m_PoolError)
    m_InvalidSizes := PySem.W.mg_of X G (He.eqO_ok h_m_InvalidSizes)
    m_InvalidProgram := PySem.W.mg_of X G (He.eqO_ok h_m_InvalidProgram)
    m_InvalidText := PySem.W.mg_of X G (He.eqO_ok h_m_InvalidText)
    m_InvalidState := PySem.W.mg_of X G (He.eqO_ok h_m_InvalidState)
    m_InvalidPosition := PySem.W.mg_of X G (He.eqO_ok h_m_InvalidPosition)
    m_InvalidPaper := PySem.W.mg_of X G (He.eqO_ok h_m_InvalidPaper)
    m_InvalidRanks := PySem.W.mg_of X G (He.eqO_ok h_m_InvalidRanks)
    m_InvalidLimits := PySem.W.mg_of X G (He.eqO_ok h_m_InvalidLimits)
    m_InvalidEdit := PySem.W.mg_of X G (He.eqO_ok h_m_InvalidEdit)
    m_InvalidLog := PySem.W.mg_of X G (He.eqO_ok h_m_InvalidLog)
    m_InvalidFault := PySem.W.mg_of X G (He.eqO_ok h_m_InvalidFault)
    m_InvalidCommand := PySem.W.mg_of X G (He.eqO_ok h_m_InvalidCommand)
    m_NoJob := PySem.W.mg_of X G (He.eqO_ok h_m_NoJob)
    m_NoMove := PySem.W.mg_of X G (He.eqO_ok h_m_NoMove)
    m_NotEnough := PySem.W.mg_of X G (He.eqO_ok h_m_NotEnough)
    m_TooMany := PySem.W.mg_of X G (He.eqO_ok h_m_TooMany)
    p_PoolError := xpB_ok h_p_PoolError
    v_ArithmeticError := valIs_ok h_v_ArithmeticError
    v_KeyError := valIs_ok h_v_KeyError
    v_LookupError := valIs_ok h_v_LookupError
    v_RuntimeError := valIs_ok h_v_RuntimeError
    v_ValueError := valIs_ok h_v_ValueError
    x_InvalidSizes := xcB_ok h_x_InvalidSizes
    i_InvalidSizes := xiB_ok h_i_InvalidSizes
    x_InvalidProgram := xcB_ok h_x_InvalidProgram
    i_InvalidProgram := xiB_ok h_i_InvalidProgram
    x_InvalidText := xcB_ok h_x_InvalidText
    i_InvalidText := xiB_ok h_i_InvalidText
    x_InvalidState := xcB_ok h_x_InvalidState
    i_InvalidState := xiB_ok h_i_InvalidState
    x_InvalidPosition := xcB_ok h_x_InvalidPosition
    i_InvalidPosition := xiB_ok h_i_InvalidPosition
    x_InvalidPaper := xcB_ok h_x_InvalidPaper
    i_InvalidPaper := xiB_ok h_i_InvalidPaper
    x_InvalidRanks := xcB_ok h_x_InvalidRanks
    i_InvalidRanks := xiB_ok h_i_InvalidRanks
    x_InvalidLimits := xcB_ok h_x_InvalidLimits
    i_InvalidLimits := xiB_ok h_i_InvalidLimits
    x_InvalidEdit := xcB_ok h_x_InvalidEdit
    i_InvalidEdit := xiB_ok h_i_InvalidEdit
    x_InvalidLog := xcB_ok h_x_InvalidLog
    i_InvalidLog := xiB_ok h_i_InvalidLog
    x_InvalidFault := xcB_ok h_x_InvalidFault
    i_InvalidFault := xiB_ok h_i_InvalidFault
    x_InvalidCommand := xcB_ok h_x_InvalidCommand
    i_InvalidCommand := xiB_ok h_i_InvalidCommand
    x_NoJob := xcB_ok h_x_NoJob
    i_NoJob := xiB_ok h_i_NoJob
    x_NoMove := xcB_ok h_x_NoMove
    i_NoMove := xiB_ok h_i_NoMove
    x_NotEnough := xcB_ok h_x_NotEnough
    i_NotEnough := xiB_ok h_i_NotEnough
    x_TooMany := xcB_ok h_x_TooMany
    i_TooMany := xiB_ok h_i_TooMany
    kt := ktB_ok h_kt
    bt := btB_ok h_bt
    F_InvalidSizes_init := c.def_ 0 (d := d_InvalidSizes_init) rfl
    F_InvalidProgram_init := c.def_ 1 (d := d_InvalidProgram_init) rfl
    F_InvalidText_init := c.def_ 2 (d := d_InvalidText_init) rfl
    F_InvalidState_init := c.def_ 3 (d := d_InvalidState_init) rfl
    F_InvalidPosition_init := c.def_ 4 (d := d_InvalidPosition_init) rfl
    F_InvalidPaper_init := c.def_ 5 (d := d_InvalidPaper_init) rfl
    F_InvalidRanks_init := c.def_ 6 (d := d_InvalidRanks_init) rfl
    F_InvalidLimits_init := c.def_ 7 (d := d_InvalidLimits_init) rfl
    F_InvalidEdit_init := c.def_ 8 (d := d_InvalidEdit_init) rfl
    F_InvalidLog_init := c.def_ 9 (d := d_InvalidLog_init) rfl
    F_InvalidFault_init := c.def_ 10 (d := d_InvalidFault_init) rfl
    F_InvalidCommand_init := c.def_ 11 (d := d_InvalidCommand_init) rfl
    F_NoJob_init := c.def_ 12 (d := d_NoJob_init) rfl
    F_NoMove_init := c.def_ 13 (d := d_NoMove_init) rfl
    F_NotEnough_init := c.def_ 14 (d := d_NotEnough_init) rfl
    F_TooMany_init := c.def_ 15 (d := d_TooMany_init) rfl
    F_law_draws := c.def_ 16 (d := d_law_draws) rfl
    F_law_draw := c.def_ 17 (d := d_law_draw) rfl
    F_law_plain_ones := c.def_ 18 (d := d_law_plain_ones) rfl
    F_law_kinds := c.def_ 19 (d := d_law_kinds) rfl
    F_law_bases := c.def_ 20 (d := d_law_bases) rfl
    F_law := c.def_ 21 (d := d_law) rfl }
theorem sc_InvalidSizes_init : FnScope ["self", "value"] ["self", "value"] (defScope S_InvalidSizes_init) := ⟨rfl, rfl, rfl, by decide +kernel, rfl, by decide +kernel, by decide +kernel⟩
theorem ok_InvalidSizes_init {P : Program} {w : World} {K : PySem.W.Frag} {mg : Str → Option Value} {base : Heap} (T : Tx K mg) : FnOk P w K mg base CX0 1 (A_InvalidSizes_init K) (D_InvalidSizes_init K) ["self", "value"] (spXI (He.ga K "InvalidSizes") "value") := by
  refine T.F_InvalidSizes_init.ok sc_InvalidSizes_init spXI_len (fun cdv A outer s H vs Q E hr h => ⟨_, PSs.nox ?_, read_xi T.x_InvalidSizes T.i_InvalidSizes h⟩)
  exact pss_cons (ps_expr (pe_xinit (Bn := "ValueError") (newId := "ValueError.__new__") LpX.init_value rfl T.m_PoolError T.p_PoolError.s T.p_PoolError.t T.p_PoolError.r T.p_PoolError.v (by decide +kernel) (pa_cons (pv 0) (pa_cons (pv 1) pa_nil)))) (pss_one (ps_xst (pv 0) (pv 1)))
theorem bd_InvalidSizes_init {K : PySem.W.Frag} {mg : Str → Option Value} (T : Tx K mg) : Binds K (D_InvalidSizes_init K) ["self", "value"] [] := T.F_InvalidSizes_init.bindsN fun _ _ _ _ _ _ us hl => match us, hl with | [_, _], _ => rfl
theorem mk_InvalidSizes {X : Cx} {e : Expr} {ta : TA} {p pos : Pos} (T : Tx X.K X.mg) (hr : Room 2 X.A) (hg : Gl X "InvalidSizes") (ha : PA X [e] ta) (he : starEach [e] X.env = (false, eval e X.env) :: starEach [] X.env := by rfl) (hpl : (backTo pos (starEach [] X.env)).any (·.1) = false := by rfl) :
    PE X (.Call (.Name "InvalidSizes" p) [e] [] pos) (tXMk (He.ga X.K "InvalidSizes") (spXI (He.ga X.K "InvalidSizes") "value") ta) :=
  pe_xmk F.excBase_ValueError T.x_InvalidSizes T.i_InvalidSizes.i T.i_InvalidSizes.t (ok_InvalidSizes_init T) hr (bd_InvalidSizes_init T) pass0 hg T.m_InvalidSizes ha (by decide) he hpl
theorem sc_InvalidProgram_init : FnScope ["self", "value"] ["self", "value"] (defScope S_InvalidProgram_init) := ⟨rfl, rfl, rfl, by decide +kernel, rfl, by decide +kernel, by decide +kernel⟩
theorem ok_InvalidProgram_init {P : Program} {w : World} {K : PySem.W.Frag} {mg : Str → Option Value} {base : Heap} (T : Tx K mg) : FnOk P w K mg base CX0 1 (A_InvalidProgram_init K) (D_InvalidProgram_init K) ["self", "value"] (spXI (He.ga K "InvalidProgram") "value") := by
  refine T.F_InvalidProgram_init.ok sc_InvalidProgram_init spXI_len (fun cdv A outer s H vs Q E hr h => ⟨_, PSs.nox ?_, read_xi T.x_InvalidProgram T.i_InvalidProgram h⟩)
  exact pss_cons (ps_expr (pe_xinit (Bn := "ValueError") (newId := "ValueError.__new__") LpX.init_value rfl T.m_PoolError T.p_PoolError.s T.p_PoolError.t T.p_PoolError.r T.p_PoolError.v (by decide +kernel) (pa_cons (pv 0) (pa_cons (pv 1) pa_nil)))) (pss_one (ps_xst (pv 0) (pv 1)))
theorem bd_InvalidProgram_init {K : PySem.W.Frag} {mg : Str → Option Value} (T : Tx K mg) : Binds K (D_InvalidProgram_init K) ["self", "value"] [] := T.F_InvalidProgram_init.bindsN fun _ _ _ _ _ _ us hl => match us, hl with | [_, _], _ => rfl
theorem mk_InvalidProgram {X : Cx} {e : Expr} {ta : TA} {p pos : Pos} (T : Tx X.K X.mg) (hr : Room 2 X.A) (hg : Gl X "InvalidProgram") (ha : PA X [e] ta) (he : starEach [e] X.env = (false, eval e X.env) :: starEach [] X.env := by rfl) (hpl : (backTo pos (starEach [] X.env)).any (·.1) = false := by rfl) :
    PE X (.Call (.Name "InvalidProgram" p) [e] [] pos) (tXMk (He.ga X.K "InvalidProgram") (spXI (He.ga X.K "InvalidProgram") "value") ta) :=
  pe_xmk F.excBase_ValueError T.x_InvalidProgram T.i_InvalidProgram.i T.i_InvalidProgram.t (ok_InvalidProgram_init T) hr (bd_InvalidProgram_init T) pass0 hg T.m_InvalidProgram ha (by decide) he hpl
theorem sc_InvalidText_init : FnScope ["self", "value"] ["self", "value"] (defScope S_InvalidText_init) := ⟨rfl, rfl, rfl, by decide +kernel, rfl, by decide +kernel, by decide +kernel⟩
theorem ok_InvalidText_init {P : Program} {w : World} {K : PySem.W.Frag} {mg : Str → Option Value} {base : Heap} (T : Tx K mg) : FnOk P w K mg base CX0 1 (A_InvalidText_init K) (D_InvalidText_init K) ["self", "value"] (spXI (He.ga K "InvalidText") "value") := by
  refine T.F_InvalidText_init.ok sc_InvalidText_init spXI_len (fun cdv A outer s H vs Q E hr h => ⟨_, PSs.nox ?_, read_xi T.x_InvalidText T.i_InvalidText h⟩)
  exact pss_cons (ps_expr (pe_xinit (Bn := "ValueError") (newId := "ValueError.__new__") LpX.init_value rfl T.m_PoolError T.p_PoolError.s T.p_PoolError.t T.p_PoolError.r T.p_PoolError.v (by decide +kernel) (pa_cons (pv 0) (pa_cons (pv 1) pa_nil)))) (pss_one (ps_xst (pv 0) (pv 1)))
theorem bd_InvalidText_init {K : PySem.W.Frag} {mg : Str → Option Value} (T : Tx K mg) : Binds K (D_InvalidText_init K) ["self", "value"] [] := T.F_InvalidText_init.bindsN fun _ _ _ _ _ _ us hl => match us, hl with | [_, _], _ => rfl
theorem mk_InvalidText {X : Cx} {e : Expr} {ta : TA} {p pos : Pos} (T : Tx X.K X.mg) (hr : Room 2 X.A) (hg : Gl X "InvalidText") (ha : PA X [e] ta) (he : starEach [e] X.env = (false, eval e X.env) :: starEach [] X.env := by rfl) (hpl : (backTo pos (starEach [] X.env)).any (·.1) = false := by rfl) :
    PE X (.Call (.Name "InvalidText" p) [e] [] pos) (tXMk (He.ga X.K "InvalidText") (spXI (He.ga X.K "InvalidText") "value") ta) :=
  pe_xmk F.excBase_ValueError T.x_InvalidText T.i_InvalidText.i T.i_InvalidText.t (ok_InvalidText_init T) hr (bd_InvalidText_init T) pass0 hg T.m_InvalidText ha (by decide) he hpl
theorem sc_InvalidState_init : FnScope ["self", "value"] ["self", "value"] (defScope S_InvalidState_init) := ⟨rfl, rfl, rfl, by decide +kernel, rfl, by decide +kernel, by decide +kernel⟩
theorem ok_InvalidState_init {P : Program} {w : World} {K : PySem.W.Frag} {mg : Str → Option Value} {base : Heap} (T : Tx K mg) : FnOk P w K mg base CX0 1 (A_InvalidState_init K) (D_InvalidState_init K) ["self", "value"] (spXI (He.ga K "InvalidState") "value") := by
  refine T.F_InvalidState_init.ok sc_InvalidState_init spXI_len (fun cdv A outer s H vs Q E hr h => ⟨_, PSs.nox ?_, read_xi T.x_InvalidState T.i_InvalidState h⟩)
  exact pss_cons (ps_expr (pe_xinit (Bn := "ValueError") (newId := "ValueError.__new__") LpX.init_value rfl T.m_PoolError T.p_PoolError.s T.p_PoolError.t T.p_PoolError.r T.p_PoolError.v (by decide +kernel) (pa_cons (pv 0) (pa_cons (pv 1) pa_nil)))) (pss_one (ps_xst (pv 0) (pv 1)))
theorem bd_InvalidState_init {K : PySem.W.Frag} {mg : Str → Option Value} (T : Tx K mg) : Binds K (D_InvalidState_init K) ["self", "value"] [] := T.F_InvalidState_init.bindsN fun _ _ _ _ _ _ us hl => match us, hl with | [_, _], _ => rfl
theorem mk_InvalidState {X : Cx} {e : Expr} {ta : TA} {p pos : Pos} (T : Tx X.K X.mg) (hr : Room 2 X.A) (hg : Gl X "InvalidState") (ha : PA X [e] ta) (he : starEach [e] X.env = (false, eval e X.env) :: starEach [] X.env := by rfl) (hpl : (backTo pos (starEach [] X.env)).any (·.1) = false := by rfl) :
    PE X (.Call (.Name "InvalidState" p) [e] [] pos) (tXMk (He.ga X.K "InvalidState") (spXI (He.ga X.K "InvalidState") "value") ta) :=
  pe_xmk F.excBase_ValueError T.x_InvalidState T.i_InvalidState.i T.i_InvalidState.t (ok_InvalidState_init T) hr (bd_InvalidState_init T) pass0 hg T.m_InvalidState ha (by decide) he hpl
theorem sc_InvalidPosition_init : FnScope ["self", "value"] ["self", "value"] (defScope S_InvalidPosition_init) := ⟨rfl, rfl, rfl, by decide +kernel, rfl, by decide +kernel, by decide +kernel⟩
theorem ok_InvalidPosition_init {P : Program} {w : World} {K : PySem.W.Frag} {mg : Str → Option Value} {base : Heap} (T : Tx K mg) : FnOk P w K mg base CX0 1 (A_InvalidPosition_init K) (D_InvalidPosition_init K) ["self", "value"] (spXI (He.ga K "InvalidPosition") "value") := by
  refine T.F_InvalidPosition_init.ok sc_InvalidPosition_init spXI_len (fun cdv A outer s H vs Q E hr h => ⟨_, PSs.nox ?_, read_xi T.x_InvalidPosition T.i_InvalidPosition h⟩)
  exact pss_cons (ps_expr (pe_xinit (Bn := "ValueError") (newId := "ValueError.__new__") LpX.init_value rfl T.m_PoolError T.p_PoolError.s T.p_PoolError.t T.p_PoolError.r T.p_PoolError.v (by decide +kernel) (pa_cons (pv 0) (pa_cons (pv 1) pa_nil)))) (pss_one (ps_xst (pv 0) (pv 1)))
theorem bd_InvalidPosition_init {K : PySem.W.Frag} {mg : Str → Option Value} (T : Tx K mg) : Binds K (D_InvalidPosition_init K) ["self", "value"] [] := T.F_InvalidPosition_init.bindsN fun _ _ _ _ _ _ us hl => match us, hl with | [_, _], _ => rfl
theorem mk_InvalidPosition {X : Cx} {e : Expr} {ta : TA} {p pos : Pos} (T : Tx X.K X.mg) (hr : Room 2 X.A) (hg : Gl X "InvalidPosition") (ha : PA X [e] ta) (he : starEach [e] X.env = (false, eval e X.env) :: starEach [] X.env := by rfl) (hpl : (backTo pos (starEach [] X.env)).any (·.1) = false := by rfl) :
    PE X (.Call (.Name "InvalidPosition" p) [e] [] pos) (tXMk (He.ga X.K "InvalidPosition") (spXI (He.ga X.K "InvalidPosition") "value") ta) :=
  pe_xmk F.excBase_ValueError T.x_InvalidPosition T.i_InvalidPosition.i T.i_InvalidPosition.t (ok_InvalidPosition_init T) hr (bd_InvalidPosition_init T) pass0 hg T.m_InvalidPosition ha (by decide) he hpl
theorem sc_InvalidPaper_init : FnScope ["self", "value"] ["self", "value"] (defScope S_InvalidPaper_init) := ⟨rfl, rfl, rfl, by decide +kernel, rfl, by decide +kernel, by decide +kernel⟩
theorem ok_InvalidPaper_init {P : Program} {w : World} {K : PySem.W.Frag} {mg : Str → Option Value} {base : Heap} (T : Tx K mg) : FnOk P w K mg base CX0 1 (A_InvalidPaper_init K) (D_InvalidPaper_init K) ["self", "value"] (spXI (He.ga K "InvalidPaper") "value") := by
  refine T.F_InvalidPaper_init.ok sc_InvalidPaper_init spXI_len (fun cdv A outer s H vs Q E hr h => ⟨_, PSs.nox ?_, read_xi T.x_InvalidPaper T.i_InvalidPaper h⟩)
  exact pss_cons (ps_expr (pe_xinit (Bn := "ValueError") (newId := "ValueError.__new__") LpX.init_value rfl T.m_PoolError T.p_PoolError.s T.p_PoolError.t T.p_PoolError.r T.p_PoolError.v (by decide +kernel) (pa_cons (pv 0) (pa_cons (pv 1) pa_nil)))) (pss_one (ps_xst (pv 0) (pv 1)))
theorem bd_InvalidPaper_init {K : PySem.W.Frag} {mg : Str → Option Value} (T : Tx K mg) : Binds K (D_InvalidPaper_init K) ["self", "value"] [] := T.F_InvalidPaper_init.bindsN fun _ _ _ _ _ _ us hl => match us, hl with | [_, _], _ => rfl
theorem mk_InvalidPaper {X : Cx} {e : Expr} {ta : TA} {p pos : Pos} (T : Tx X.K X.mg) (hr : Room 2 X.A) (hg : Gl X "InvalidPaper") (ha : PA X [e] ta) (he : starEach [e] X.env = (false, eval e X.env) :: starEach [] X.env := by rfl) (hpl : (backTo pos (starEach [] X.env)).any (·.1) = false := by rfl) :
    PE X (.Call (.Name "InvalidPaper" p) [e] [] pos) (tXMk (He.ga X.K "InvalidPaper") (spXI (He.ga X.K "InvalidPaper") "value") ta) :=
  pe_xmk F.excBase_ValueError T.x_InvalidPaper T.i_InvalidPaper.i T.i_InvalidPaper.t (ok_InvalidPaper_init T) hr (bd_InvalidPaper_init T) pass0 hg T.m_InvalidPaper ha (by decide) he hpl
theorem sc_InvalidRanks_init : FnScope ["self", "value"] ["self", "value"] (defScope S_InvalidRanks_init) := ⟨rfl, rfl, rfl, by decide +kernel, rfl, by decide +kernel, by decide +kernel⟩
theorem ok_InvalidRanks_init {P : Program} {w : World} {K : PySem.W.Frag} {mg : Str → Option Value} {base : Heap} (T : Tx K mg) : FnOk P w K mg base CX0 1 (A_InvalidRanks_init K) (D_InvalidRanks_init K) ["self", "value"] (spXI (He.ga K "InvalidRanks") "value") := by
  refine T.F_InvalidRanks_init.ok sc_InvalidRanks_init spXI_len (fun cdv A outer s H vs Q E hr h => ⟨_, PSs.nox ?_, read_xi T.x_InvalidRanks T.i_InvalidRanks h⟩)
  exact pss_cons (ps_expr (pe_xinit (Bn := "ValueError") (newId := "ValueError.__new__") LpX.init_value rfl T.m_PoolError T.p_PoolError.s T.p_PoolError.t T.p_PoolError.r T.p_PoolError.v (by decide +kernel) (pa_cons (pv 0) (pa_cons (pv 1) pa_nil)))) (pss_one (ps_xst (pv 0) (pv 1)))
theorem bd_InvalidRanks_init {K : PySem.W.Frag} {mg : Str → Option Value} (T : Tx K mg) : Binds K (D_InvalidRanks_init K) ["self", "value"] [] := T.F_InvalidRanks_init.bindsN fun _ _ _ _ _ _ us hl => match us, hl with | [_, _], _ => rfl
theorem mk_InvalidRanks {X : Cx} {e : Expr} {ta : TA} {p pos : Pos} (T : Tx X.K X.mg) (hr : Room 2 X.A) (hg : Gl X "InvalidRanks") (ha : PA X [e] ta) (he : starEach [e] X.env = (false, eval e X.env) :: starEach [] X.env := by rfl) (hpl : (backTo pos (starEach [] X.env)).any (·.1) = false := by rfl) :
    PE X (.Call (.Name "InvalidRanks" p) [e] [] pos) (tXMk (He.ga X.K "InvalidRanks") (spXI (He.ga X.K "InvalidRanks") "value") ta) :=
  pe_xmk F.excBase_ValueError T.x_InvalidRanks T.i_InvalidRanks.i T.i_InvalidRanks.t (ok_InvalidRanks_init T) hr (bd_InvalidRanks_init T) pass0 hg T.m_InvalidRanks ha (by decide) he hpl
theorem sc_InvalidLimits_init : FnScope ["self", "value"] ["self", "value"] (defScope S_InvalidLimits_init) := ⟨rfl, rfl, rfl, by decide +kernel, rfl, by decide +kernel, by decide +kernel⟩
theorem ok_InvalidLimits_init {P : Program} {w : World} {K : PySem.W.Frag} {mg : Str → Option Value} {base : Heap} (T : Tx K mg) : FnOk P w K mg base CX0 1 (A_InvalidLimits_init K) (D_InvalidLimits_init K) ["self", "value"] (spXI (He.ga K "InvalidLimits") "value") := by
  refine T.F_InvalidLimits_init.ok sc_InvalidLimits_init spXI_len (fun cdv A outer s H vs Q E hr h => ⟨_, PSs.nox ?_, read_xi T.x_InvalidLimits T.i_InvalidLimits h⟩)
  exact pss_cons (ps_expr (pe_xinit (Bn := "ValueError") (newId := "ValueError.__new__") LpX.init_value rfl T.m_PoolError T.p_PoolError.s T.p_PoolError.t T.p_PoolError.r T.p_PoolError.v (by decide +kernel) (pa_cons (pv 0) (pa_cons (pv 1) pa_nil)))) (pss_one (ps_xst (pv 0) (pv 1)))
theorem bd_InvalidLimits_init {K : PySem.W.Frag} {mg : Str → Option Value} (T : Tx K mg) : Binds K (D_InvalidLimits_init K) ["self", "value"] [] := T.F_InvalidLimits_init.bindsN fun _ _ _ _ _ _ us hl => match us, hl with | [_, _], _ => rfl
theorem mk_InvalidLimits {X : Cx} {e : Expr} {ta : TA} {p pos : Pos} (T : Tx X.K X.mg) (hr : Room 2 X.A) (hg : Gl X "InvalidLimits") (ha : PA X [e] ta) (he : starEach [e] X.env = (false, eval e X.env) :: starEach [] X.env := by rfl) (hpl : (backTo pos (starEach [] X.env)).any (·.1) = false := by rfl) :
    PE X (.Call (.Name "InvalidLimits" p) [e] [] pos) (tXMk (He.ga X.K "InvalidLimits") (spXI (He.ga X.K "InvalidLimits") "value") ta) :=
  pe_xmk F.excBase_ValueError T.x_InvalidLimits T.i_InvalidLimits.i T.i_InvalidLimits.t (ok_InvalidLimits_init T) hr (bd_InvalidLimits_init T) pass0 hg T.m_InvalidLimits ha (by decide) he hpl
theorem sc_InvalidEdit_init : FnScope ["self", "value"] ["self", "value"] (defScope S_InvalidEdit_init) := ⟨rfl, rfl, rfl, by decide +kernel, rfl, by decide +kernel, by decide +kernel⟩
theorem ok_InvalidEdit_init {P : Program} {w : World} {K : PySem.W.Frag} {mg : Str → Option Value} {base : Heap} (T : Tx K mg) : FnOk P w K mg base CX0 1 (A_InvalidEdit_init K) (D_InvalidEdit_init K) ["self", "value"] (spXI (He.ga K "InvalidEdit") "value") := by
  refine T.F_InvalidEdit_init.ok sc_InvalidEdit_init spXI_len (fun cdv A outer s H vs Q E hr h => ⟨_, PSs.nox ?_, read_xi T.x_InvalidEdit T.i_InvalidEdit h⟩)
  exact pss_cons (ps_expr (pe_xinit (Bn := "ValueError") (newId := "ValueError.__new__") LpX.init_value rfl T.m_PoolError T.p_PoolError.s T.p_PoolError.t T.p_PoolError.r T.p_PoolError.v (by decide +kernel) (pa_cons (pv 0) (pa_cons (pv 1) pa_nil)))) (pss_one (ps_xst (pv 0) (pv 1)))
theorem bd_InvalidEdit_init {K : PySem.W.Frag} {mg : Str → Option Value} (T : Tx K mg) : Binds K (D_InvalidEdit_init K) ["self", "value"] [] := T.F_InvalidEdit_init.bindsN fun _ _ _ _ _ _ us hl => match us, hl with | [_, _], _ => rfl
theorem mk_InvalidEdit {X : Cx} {e : Expr} {ta : TA} {p pos : Pos} (T : Tx X.K X.mg) (hr : Room 2 X.A) (hg : Gl X "InvalidEdit") (ha : PA X [e] ta) (he : starEach [e] X.env = (false, eval e X.env) :: starEach [] X.env := by rfl) (hpl : (backTo pos (starEach [] X.env)).any (·.1) = false := by rfl) :
    PE X (.Call (.Name "InvalidEdit" p) [e] [] pos) (tXMk (He.ga X.K "InvalidEdit") (spXI (He.ga X.K "InvalidEdit") "value") ta) :=
  pe_xmk F.excBase_ValueError T.x_InvalidEdit T.i_InvalidEdit.i T.i_InvalidEdit.t (ok_InvalidEdit_init T) hr (bd_InvalidEdit_init T) pass0 hg T.m_InvalidEdit ha (by decide) he hpl
theorem sc_InvalidLog_init : FnScope ["self", "value"] ["self", "value"] (defScope S_InvalidLog_init) := ⟨rfl, rfl, rfl, by decide +kernel, rfl, by decide +kernel, by decide +kernel⟩
theorem ok_InvalidLog_init {P : Program} {w : World} {K : PySem.W.Frag} {mg : Str → Option Value} {base : Heap} (T : Tx K mg) : FnOk P w K mg base CX0 1 (A_InvalidLog_init K) (D_InvalidLog_init K) ["self", "value"] (spXI (He.ga K "InvalidLog") "value") := by
  refine T.F_InvalidLog_init.ok sc_InvalidLog_init spXI_len (fun cdv A outer s H vs Q E hr h => ⟨_, PSs.nox ?_, read_xi T.x_InvalidLog T.i_InvalidLog h⟩)
  exact pss_cons (ps_expr (pe_xinit (Bn := "ValueError") (newId := "ValueError.__new__") LpX.init_value rfl T.m_PoolError T.p_PoolError.s T.p_PoolError.t T.p_PoolError.r T.p_PoolError.v (by decide +kernel) (pa_cons (pv 0) (pa_cons (pv 1) pa_nil)))) (pss_one (ps_xst (pv 0) (pv 1)))
theorem bd_InvalidLog_init {K : PySem.W.Frag} {mg : Str → Option Value} (T : Tx K mg) : Binds K (D_InvalidLog_init K) ["self", "value"] [] := T.F_InvalidLog_init.bindsN fun _ _ _ _ _ _ us hl => match us, hl with | [_, _], _ => rfl
theorem mk_InvalidLog {X : Cx} {e : Expr} {ta : TA} {p pos : Pos} (T : Tx X.K X.mg) (hr : Room 2 X.A) (hg : Gl X "InvalidLog") (ha : PA X [e] ta) (he : starEach [e] X.env = (false, eval e X.env) :: starEach [] X.env := by rfl) (hpl : (backTo pos (starEach [] X.env)).any (·.1) = false := by rfl) :
    PE X (.Call (.Name "InvalidLog" p) [e] [] pos) (tXMk (He.ga X.K "InvalidLog") (spXI (He.ga X.K "InvalidLog") "value") ta) :=
  pe_xmk F.excBase_ValueError T.x_InvalidLog T.i_InvalidLog.i T.i_InvalidLog.t (ok_InvalidLog_init T) hr (bd_InvalidLog_init T) pass0 hg T.m_InvalidLog ha (by decide) he hpl
theorem sc_InvalidFault_init : FnScope ["self", "value"] ["self", "value"] (defScope S_InvalidFault_init) := ⟨rfl, rfl, rfl, by decide +kernel, rfl, by decide +kernel, by decide +kernel⟩
theorem ok_InvalidFault_init {P : Program} {w : World} {K : PySem.W.Frag} {mg : Str → Option Value} {base : Heap} (T : Tx K mg) : FnOk P w K mg base CX0 1 (A_InvalidFault_init K) (D_InvalidFault_init K) ["self", "value"] (spXI (He.ga K "InvalidFault") "value") := by
  refine T.F_InvalidFault_init.ok sc_InvalidFault_init spXI_len (fun cdv A outer s H vs Q E hr h => ⟨_, PSs.nox ?_, read_xi T.x_InvalidFault T.i_InvalidFault h⟩)
  exact pss_cons (ps_expr (pe_xinit (Bn := "ValueError") (newId := "ValueError.__new__") LpX.init_value rfl T.m_PoolError T.p_PoolError.s T.p_PoolError.t T.p_PoolError.r T.p_PoolError.v (by decide +kernel) (pa_cons (pv 0) (pa_cons (pv 1) pa_nil)))) (pss_one (ps_xst (pv 0) (pv 1)))
theorem bd_InvalidFault_init {K : PySem.W.Frag} {mg : Str → Option Value} (T : Tx K mg) : Binds K (D_InvalidFault_init K) ["self", "value"] [] := T.F_InvalidFault_init.bindsN fun _ _ _ _ _ _ us hl => match us, hl with | [_, _], _ => rfl
theorem mk_InvalidFault {X : Cx} {e : Expr} {ta : TA} {p pos : Pos} (T : Tx X.K X.mg) (hr : Room 2 X.A) (hg : Gl X "InvalidFault") (ha : PA X [e] ta) (he : starEach [e] X.env = (false, eval e X.env) :: starEach [] X.env := by rfl) (hpl : (backTo pos (starEach [] X.env)).any (·.1) = false := by rfl) :
    PE X (.Call (.Name "InvalidFault" p) [e] [] pos) (tXMk (He.ga X.K "InvalidFault") (spXI (He.ga X.K "InvalidFault") "value") ta) :=
  pe_xmk F.excBase_ValueError T.x_InvalidFault T.i_InvalidFault.i T.i_InvalidFault.t (ok_InvalidFault_init T) hr (bd_InvalidFault_init T) pass0 hg T.m_InvalidFault ha (by decide) he hpl
theorem sc_InvalidCommand_init : FnScope ["self", "value"] ["self", "value"] (defScope S_InvalidCommand_init) := ⟨rfl, rfl, rfl, by decide +kernel, rfl, by decide +kernel, by decide +kernel⟩
theorem ok_InvalidCommand_init {P : Program} {w : World} {K : PySem.W.Frag} {mg : Str → Option Value} {base : Heap} (T : Tx K mg) : FnOk P w K mg base CX0 1 (A_InvalidCommand_init K) (D_InvalidCommand_init K) ["self", "value"] (spXI (He.ga K "InvalidCommand") "value") := by
  refine T.F_InvalidCommand_init.ok sc_InvalidCommand_init spXI_len (fun cdv A outer s H vs Q E hr h => ⟨_, PSs.nox ?_, read_xi T.x_InvalidCommand T.i_InvalidCommand h⟩)
  exact pss_cons (ps_expr (pe_xinit (Bn := "ValueError") (newId := "ValueError.__new__") LpX.init_value rfl T.m_PoolError T.p_PoolError.s T.p_PoolError.t T.p_PoolError.r T.p_PoolError.v (by decide +kernel) (pa_cons (pv 0) (pa_cons (pv 1) pa_nil)))) (pss_one (ps_xst (pv 0) (pv 1)))
theorem bd_InvalidCommand_init {K : PySem.W.Frag} {mg : Str → Option Value} (T : Tx K mg) : Binds K (D_InvalidCommand_init K) ["self", "value"] [] := T.F_InvalidCommand_init.bindsN fun _ _ _ _ _ _ us hl => match us, hl with | [_, _], _ => rfl
theorem mk_InvalidCommand {X : Cx} {e : Expr} {ta : TA} {p pos : Pos} (T : Tx X.K X.mg) (hr : Room 2 X.A) (hg : Gl X "InvalidCommand") (ha : PA X [e] ta) (he : starEach [e] X.env = (false, eval e X.env) :: starEach [] X.env := by rfl) (hpl : (backTo pos (starEach [] X.env)).any (·.1) = false := by rfl) :
    PE X (.Call (.Name "InvalidCommand" p) [e] [] pos) (tXMk (He.ga X.K "InvalidCommand") (spXI (He.ga X.K "InvalidCommand") "value") ta) :=
  pe_xmk F.excBase_ValueError T.x_InvalidCommand T.i_InvalidCommand.i T.i_InvalidCommand.t (ok_InvalidCommand_init T) hr (bd_InvalidCommand_init T) pass0 hg T.m_InvalidCommand ha (by decide) he hpl
theorem sc_NoJob_init : FnScope ["self", "value"] ["self", "value"] (defScope S_NoJob_init) := ⟨rfl, rfl, rfl, by decide +kernel, rfl, by decide +kernel, by decide +kernel⟩
theorem ok_NoJob_init {P : Program} {w : World} {K : PySem.W.Frag} {mg : Str → Option Value} {base : Heap} (T : Tx K mg) : FnOk P w K mg base CX0 1 (A_NoJob_init K) (D_NoJob_init K) ["self", "value"] (spXI (He.ga K "NoJob") "value") := by
  refine T.F_NoJob_init.ok sc_NoJob_init spXI_len (fun cdv A outer s H vs Q E hr h => ⟨_, PSs.nox ?_, read_xi T.x_NoJob T.i_NoJob h⟩)
  exact pss_cons (ps_expr (pe_binit (Bn := "LookupError") (newId := "LookupError.__new__") LpX.init_key rfl T.z_KeyError (by decide +kernel) (by kernel_rfl) (by decide +kernel) T.v_KeyError (by decide +kernel) (pa_cons (pv 0) (pa_cons (pv 1) pa_nil)))) (pss_one (ps_xst (pv 0) (pv 1)))
theorem bd_NoJob_init {K : PySem.W.Frag} {mg : Str → Option Value} (T : Tx K mg) : Binds K (D_NoJob_init K) ["self", "value"] [] := T.F_NoJob_init.bindsN fun _ _ _ _ _ _ us hl => match us, hl with | [_, _], _ => rfl
theorem mk_NoJob {X : Cx} {e : Expr} {ta : TA} {p pos : Pos} (T : Tx X.K X.mg) (hr : Room 2 X.A) (hg : Gl X "NoJob") (ha : PA X [e] ta) (he : starEach [e] X.env = (false, eval e X.env) :: starEach [] X.env := by rfl) (hpl : (backTo pos (starEach [] X.env)).any (·.1) = false := by rfl) :
    PE X (.Call (.Name "NoJob" p) [e] [] pos) (tXMk (He.ga X.K "NoJob") (spXI (He.ga X.K "NoJob") "value") ta) :=
  pe_xmk F.excBase_LookupError T.x_NoJob T.i_NoJob.i T.i_NoJob.t (ok_NoJob_init T) hr (bd_NoJob_init T) pass0 hg T.m_NoJob ha (by decide) he hpl
theorem sc_NoMove_init : FnScope ["self", "value"] ["self", "value"] (defScope S_NoMove_init) := ⟨rfl, rfl, rfl, by decide +kernel, rfl, by decide +kernel, by decide +kernel⟩
theorem ok_NoMove_init {P : Program} {w : World} {K : PySem.W.Frag} {mg : Str → Option Value} {base : Heap} (T : Tx K mg) : FnOk P w K mg base CX0 1 (A_NoMove_init K) (D_NoMove_init K) ["self", "value"] (spXI (He.ga K "NoMove") "value") := by
  refine T.F_NoMove_init.ok sc_NoMove_init spXI_len (fun cdv A outer s H vs Q E hr h => ⟨_, PSs.nox ?_, read_xi T.x_NoMove T.i_NoMove h⟩)
  exact pss_cons (ps_expr (pe_binit (Bn := "LookupError") (newId := "LookupError.__new__") LpX.init_lookup rfl T.z_LookupError (by decide +kernel) (by kernel_rfl) (by decide +kernel) T.v_LookupError (by decide +kernel) (pa_cons (pv 0) (pa_cons (pv 1) pa_nil)))) (pss_one (ps_xst (pv 0) (pv 1)))
theorem bd_NoMove_init {K : PySem.W.Frag} {mg : Str → Option Value} (T : Tx K mg) : Binds K (D_NoMove_init K) ["self", "value"] [] := T.F_NoMove_init.bindsN fun _ _ _ _ _ _ us hl => match us, hl with | [_, _], _ => rfl
theorem mk_NoMove {X : Cx} {e : Expr} {ta : TA} {p pos : Pos} (T : Tx X.K X.mg) (hr : Room 2 X.A) (hg : Gl X "NoMove") (ha : PA X [e] ta) (he : starEach [e] X.env = (false, eval e X.env) :: starEach [] X.env := by rfl) (hpl : (backTo pos (starEach [] X.env)).any (·.1) = false := by rfl) :
    PE X (.Call (.Name "NoMove" p) [e] [] pos) (tXMk (He.ga X.K "NoMove") (spXI (He.ga X.K "NoMove") "value") ta) :=
  pe_xmk F.excBase_LookupError T.x_NoMove T.i_NoMove.i T.i_NoMove.t (ok_NoMove_init T) hr (bd_NoMove_init T) pass0 hg T.m_NoMove ha (by decide) he hpl
theorem sc_NotEnough_init : FnScope ["self", "name"] ["self", "name"] (defScope S_NotEnough_init) := ⟨rfl, rfl, rfl, by decide +kernel, rfl, by decide +kernel, by decide +kernel⟩
theorem ok_NotEnough_init {P : Program} {w : World} {K : PySem.W.Frag} {mg : Str → Option Value} {base : Heap} (T : Tx K mg) : FnOk P w K mg base CX0 1 (A_NotEnough_init K) (D_NotEnough_init K) ["self", "name"] (spXI (He.ga K "NotEnough") "name") := by
  refine T.F_NotEnough_init.ok sc_NotEnough_init spXI_len (fun cdv A outer s H vs Q E hr h => ⟨_, PSs.nox ?_, read_xi T.x_NotEnough T.i_NotEnough h⟩)
  exact pss_cons (ps_expr (pe_binit (Bn := "ArithmeticError") (newId := "ArithmeticError.__new__") LpX.init_arith rfl T.z_ArithmeticError (by decide +kernel) (by kernel_rfl) (by decide +kernel) T.v_ArithmeticError (by decide +kernel) (pa_cons (pv 0) (pa_cons (pv 1) pa_nil)))) (pss_one (ps_xst (pv 0) (pv 1)))
theorem bd_NotEnough_init {K : PySem.W.Frag} {mg : Str → Option Value} (T : Tx K mg) : Binds K (D_NotEnough_init K) ["self", "name"] [] := T.F_NotEnough_init.bindsN fun _ _ _ _ _ _ us hl => match us, hl with | [_, _], _ => rfl
theorem mk_NotEnough {X : Cx} {e : Expr} {ta : TA} {p pos : Pos} (T : Tx X.K X.mg) (hr : Room 2 X.A) (hg : Gl X "NotEnough") (ha : PA X [e] ta) (he : starEach [e] X.env = (false, eval e X.env) :: starEach [] X.env := by rfl) (hpl : (backTo pos (starEach [] X.env)).any (·.1) = false := by rfl) :
    PE X (.Call (.Name "NotEnough" p) [e] [] pos) (tXMk (He.ga X.K "NotEnough") (spXI (He.ga X.K "NotEnough") "name") ta) :=
  pe_xmk F.excBase_ArithmeticError T.x_NotEnough T.i_NotEnough.i T.i_NotEnough.t (ok_NotEnough_init T) hr (bd_NotEnough_init T) pass0 hg T.m_NotEnough ha (by decide) he hpl
theorem sc_TooMany_init : FnScope ["self", "number"] ["self", "number"] (defScope S_TooMany_init) := ⟨rfl, rfl, rfl, by decide +kernel, rfl, by decide +kernel, by decide +kernel⟩
theorem ok_TooMany_init {P : Program} {w : World} {K : PySem.W.Frag} {mg : Str → Option Value} {base : Heap} (T : Tx K mg) : FnOk P w K mg base CX0 1 (A_TooMany_init K) (D_TooMany_init K) ["self", "number"] (spXI (He.ga K "TooMany") "number") := by
  refine T.F_TooMany_init.ok sc_TooMany_init spXI_len (fun cdv A outer s H vs Q E hr h => ⟨_, PSs.nox ?_, read_xi T.x_TooMany T.i_TooMany h⟩)
  exact pss_cons (ps_expr (pe_binit (Bn := "RuntimeError") (newId := "RuntimeError.__new__") LpX.init_run rfl T.z_RuntimeError (by decide +kernel) (by kernel_rfl) (by decide +kernel) T.v_RuntimeError (by decide +kernel) (pa_cons (pv 0) (pa_cons (pv 1) pa_nil)))) (pss_one (ps_xst (pv 0) (pv 1)))
theorem bd_TooMany_init {K : PySem.W.Frag} {mg : Str → Option Value} (T : Tx K mg) : Binds K (D_TooMany_init K) ["self", "number"] [] := T.F_TooMany_init.bindsN fun _ _ _ _ _ _ us hl => match us, hl with | [_, _], _ => rfl
theorem mk_TooMany {X : Cx} {e : Expr} {ta : TA} {p pos : Pos} (T : Tx X.K X.mg) (hr : Room 2 X.A) (hg : Gl X "TooMany") (ha : PA X [e] ta) (he : starEach [e] X.env = (false, eval e X.env) :: starEach [] X.env := by rfl) (hpl : (backTo pos (starEach [] X.env)).any (·.1) = false := by rfl) :
    PE X (.Call (.Name "TooMany" p) [e] [] pos) (tXMk (He.ga X.K "TooMany") (spXI (He.ga X.K "TooMany") "number") ta) :=
  pe_xmk F.excBase_RuntimeError T.x_TooMany T.i_TooMany.i T.i_TooMany.t (ok_TooMany_init T) hr (bd_TooMany_init T) pass0 hg T.m_TooMany ha (by decide) he hpl
end Lp

set_option Elab.async false
set_option linter.all false
set_option maxRecDepth 100000
set_option maxHeartbeats 4000000
namespace Lp
open PySem PySem.Spec PyProof.Rows L2
/-! ### plain laws of data -/
theorem lay_ints : ∀ ns : List Int, PyData.canLayAll0 (ns.map PyData.int) = true
  | [] => rfl
  | _ :: ns => by
    show (true && PyData.canLayAll0 (ns.map PyData.int)) = true
    rw [lay_ints ns]; rfl
theorem dep_ints : ∀ ns : List Int, PyData.depthAll (ns.map PyData.int) = 0
  | [] => rfl
  | _ :: ns => by
    show max 0 (PyData.depthAll (ns.map PyData.int)) = 0
    rw [dep_ints ns]; rfl
theorem shaped_ints (ns : List Int) : SeqAt.shaped (.list (ns.map PyData.int)) = true := by
  unfold SeqAt.shaped
  rw [show PyData.canLay0 (.list (ns.map PyData.int)) = true from lay_ints ns, show PyData.depth (.list (ns.map PyData.int)) = 1 from by show PyData.depthAll _ + 1 = 1; rw [dep_ints]]
  rfl
theorem dpAll_ints {K : PySem.W.Frag} {H : Hp} : ∀ ns : List Int, DpAll K H (ns.map V.int) (ns.map PyData.int)
  | [] => .nil
  | n :: ns => .cons (.int n) (dpAll_ints ns)
/-! ### draws -/
def Dr (H : Hp) (p : Addr) : Prop := ∃ c s : Int, H p = some (.lst [.int c, .int s]) ∧ 0 ≤ s ∧ s < 2147483647
theorem Dr.same {H H' : Hp} {p : Addr} (s : Same H H') (d : Dr H p) : Dr H' p := by
  obtain ⟨c, z, h, a, b⟩ := d
  exact ⟨c, z, s _ _ h, a, b⟩
def spDraws (K : PySem.W.Frag) : Sp := fun vs H Q _ => ∃ (a : Addr) (ns : List Int) (k : Int), vs = [.ref a, .int k] ∧ SqL K H a (ns.map V.int) ∧ ns.length ≤ 63 ∧ 0 ≤ k ∧ k ≤ 1000 ∧
  ∀ p H', Same H H' → H p = none → Dr H' p → Q (.ref p) H'
def spDraw : Sp := fun vs H Q _ => ∃ (l : Addr) (n : Int), vs = [.ref l, .int n] ∧ Dr H l ∧ 0 < n ∧ n ≤ 1000000 ∧
  ∀ (r c s : Int), 0 ≤ r → r < n → 0 ≤ s → s < 2147483647 → Q (.int r) (upd H l (.lst [.int c, .int s]))
abbrev N_law_draws : List Str := ["_law_script", "_law_k", "_law_cell", "_law_seed"]
theorem sc_law_draws : FnScope N_law_draws ["_law_script", "_law_k"] (defScope S_law_draws) := ⟨rfl, rfl, rfl, by decide +kernel, rfl, by decide +kernel, by decide +kernel⟩
abbrev N_law_draw : List Str := ["_law_draws_here", "_law_upto", "_law_digit"]
theorem sc_law_draw : FnScope N_law_draw ["_law_draws_here", "_law_upto"] (defScope S_law_draw) := ⟨rfl, rfl, rfl, by decide +kernel, rfl, by decide +kernel, by decide +kernel⟩
section
variable {P : Program} {w : World} {K : PySem.W.Frag} {mg : Str → Option Value} {base : Heap}
theorem atI_ints {ns : List Int} {i : Int} (h0 : 0 ≤ i) (h1 : i < (ns.length : Int)) : ∃ n, atI (ns.map V.int) i = some (.int n) := by
  unfold atI ixN
  rw [if_pos h0, List.length_map, if_pos h1]
  have hl : i.toNat < ns.length := by omega
  exact ⟨ns[i.toNat], by simp [List.getElem?_eq_getElem hl]⟩
theorem ok_law_draws (T : Tx K mg) : FnOk P w K mg base CX0 1 (A_law_draws K) (D_law_draws K) ["_law_script", "_law_k"] (spDraws K) := by
  refine T.F_law_draws.ok sc_law_draws (fun vs H Q E h => ?_) (fun cdv A outer s H vs Q E hr h => ?_)
  · obtain ⟨a, ns, k, rfl, _⟩ := h
    rfl
  · obtain ⟨a, ns, k, rfl, hS, hl, k0, k1, q⟩ := h
    have hu64 := hr.units
    refine ⟨_, PSs.nox (pss_cons (ps_set (i := 2) sc_law_draws.nd rfl (by first | exact Or.inl rfl | exact Or.inr rfl) pe_int) (pss_mid (ps_if (pt_cmpR (op_neD hu64) (pv 0) (pe_lst pa_nil) (nomark _)) (pss_one (ps_set (i := 2) sc_law_draws.nd rfl (by first | exact Or.inl rfl | exact Or.inr rfl) (pe_ix ix_list (pv 0) (pe_op op_mod (pe_callTy call_int1 (by rfl) T.z_int (by decide +kernel) (pa_cons (pv 1) pa_nil)) (pe_callB call_len (by rfl) T.z_len (by decide +kernel) (pa_cons (pv 0) pa_nil))) (fun _ _ => rfl)))) pss_nil) (pss_mid (ps_if (pt_cmpR op_ge (pv 1) (pe_callB call_len (by rfl) T.z_len (by decide +kernel) (pa_cons (pv 0) pa_nil)) (nomark _)) (pss_one (ps_set (i := 2) sc_law_draws.nd rfl (by first | exact Or.inl rfl | exact Or.inr rfl) (pe_op op_mod (pe_callTy call_int1 (by rfl) T.z_int (by decide +kernel) (pa_cons (pv 2) pa_nil)) pe_int))) pss_nil) (pss_cons (ps_set (i := 3) sc_law_draws.nd rfl (by first | exact Or.inl rfl | exact Or.inr rfl) (pe_op op_mod (pe_op op_mul (pe_callTy call_int1 (by rfl) T.z_int (by decide +kernel) (pa_cons (pe_op op_add (pe_op op_add (pe_op op_mod (pe_callTy call_int1 (by rfl) T.z_int (by decide +kernel) (pa_cons (pv 2) pa_nil)) pe_int) (pe_op op_mul pe_int (pv 1))) pe_int) pa_nil)) pe_int) pe_int)) (pss_one (ps_ret (pe_lst (pa_cons (pe_op op_mul (pv 2) (pe_callTy call_int1 (by rfl) T.z_int (by decide +kernel) (pa_cons (pe_cmpR op_ge (pv 2) (pe_op op_pow pe_int pe_int) (nomark _)) pa_nil))) (pa_cons (pv 3) pa_nil))))))))), ?_⟩
    -- cell = 0; if script != []
    refine ⟨fun σ' H' => ∃ (cell : Int) (p : Addr), σ' = [some (.ref a), some (.int k), some (.int cell), none] ∧ Same H H', ?_, ?_⟩
    · refine ⟨_, rfl, by show 0 ≤ sizeLine; exact Nat.zero_le _, fun p hp => ?_⟩
      have s1 : Same H (upd H p (.lst [])) := same_new hp
      have hS1 : SqL K (upd H p (.lst [])) a (ns.map V.int) := s1.seq hS
      refine ⟨_, _, .lst hS1 (dpAll_ints ns), .lst (SqL.of upd_same) .nil, shaped_ints ns, rfl, _, rfl, ?_⟩
      refine ite2 (fun e => ?_) (fun _ => ?_)
      · have hpos : 0 < ns.length := by
          cases ns with
          | nil => cases e
          | cons _ _ => exact Nat.succ_pos _
        have m0 := Int.emod_nonneg k (show (ns.length : Int) ≠ 0 by omega)
        have m1 := Int.emod_lt_of_pos k (show (0 : Int) < (ns.length : Int) by omega)
        obtain ⟨n, hn⟩ := atI_ints (ns := ns) m0 m1
        refine ⟨_, rfl, _, rfl, .inl ⟨_, rfl, _, rfl, _, _, rfl, .inl ⟨_, hS1, rfl⟩, _, _, rfl, rfl, by rw [List.length_map]; omega, a, _, _, _, rfl, rfl, hS1, by rw [List.length_map]; exact hn, ?_⟩⟩
        exact ⟨n, p, rfl, s1⟩
      · exact ⟨0, p, rfl, s1⟩
    rintro σ1 H1 ⟨cell, p, rfl, s1⟩
    have hS1 : SqL K H1 a (ns.map V.int) := s1.seq hS
    -- if k >= len(script)
    refine ⟨fun σ' H' => ∃ (cell : Int), σ' = [some (.ref a), some (.int k), some (.int cell), none] ∧ H' = H1, ?_, ?_⟩
    · refine ⟨_, rfl, _, rfl, _, _, rfl, .inl ⟨_, hS1, rfl⟩, _, _, rfl, rfl, _, rfl, ?_⟩
      refine ite2 (fun _ => ?_) (fun _ => ?_)
      · refine ⟨_, rfl, .inl ⟨_, rfl, _, _, rfl, rfl, by show (0 : Int) < 1000003; decide, ?_⟩⟩
        exact ⟨_, rfl, rfl⟩
      · exact ⟨_, rfl, rfl⟩
    rintro σ2 H2 ⟨cell, rfl, rfl⟩
    have c0 := Int.emod_nonneg cell (show (2147483629 : Int) ≠ 0 by decide)
    have c1 := Int.emod_lt_of_pos cell (show (0 : Int) < 2147483629 by decide)
    -- seed = ..; return [..]
    refine ⟨_, rfl, .inl ⟨_, rfl, _, _, rfl, rfl, by show (0 : Int) < 2147483629; decide, _, rfl, _, _, rfl, rfl, .inl ⟨by decide, by decide⟩, _, _, rfl, rfl, _, _, rfl, rfl, .inl ⟨_, rfl, _, _, rfl, rfl, .inr ⟨by decide, by decide⟩, _, _, rfl, rfl, by show (0 : Int) < 2147483647; decide, ?_⟩⟩⟩
    refine ⟨_, rfl, _, rfl, _, _, rfl, rfl, ⟨by decide, by decide, by decide⟩, _, _, rfl, rfl, .inr ⟨_, rfl, _, _, rfl, rfl, .inr ?_, _, rfl, by show 2 ≤ sizeLine; decide, fun p2 hp2 => ?_⟩⟩
    · constructor <;> (split <;> decide)
    · refine q p2 _ (same_mut s1 (by
        cases e : H p2 with
        | none => rfl
        | some o => rw [s1 _ _ e] at hp2; cases hp2)) (by
        cases e : H p2 with
        | none => rfl
        | some o => rw [s1 _ _ e] at hp2; cases hp2) ⟨_, _, upd_same, ?_, ?_⟩
      · exact Int.emod_nonneg _ (by decide)
      · exact Int.emod_lt_of_pos _ (by decide)
theorem ok_law_draw (T : Tx K mg) : FnOk P w K mg base CX0 1 (A_law_draw K) (D_law_draw K) ["_law_draws_here", "_law_upto"] spDraw := by
  refine T.F_law_draw.ok sc_law_draw (fun vs H Q E h => ?_) (fun cdv A outer s H vs Q E hr h => ?_)
  · obtain ⟨a, n, rfl, _⟩ := h
    rfl
  · obtain ⟨l, n, rfl, ⟨c, z, hl, z0, z1⟩, n0, n1, q⟩ := h
    refine ⟨_, PSs.nox (pss_cons (ps_if (pt_cmpR op_gt (pe_ix ix_list (pv 0) pe_int (fun _ _ => rfl)) pe_int (nomark _)) (pss_cons (ps_set (i := 2) sc_law_draw.nd rfl (by first | exact Or.inl rfl | exact Or.inr rfl) (pe_op op_mod (pe_callTy call_int1 (by rfl) T.z_int (by decide +kernel) (pa_cons (pe_ix ix_list (pv 0) pe_int (fun _ _ => rfl)) pa_nil)) (pv 1))) (pss_cons (ps_asg (pe_op op_fdiv (pe_ix ix_list (pv 0) pe_int (fun _ _ => rfl)) (pv 1)) (pg_sub (pv 0) pe_int set_list)) (pss_one (ps_ret (pv 2))))) pss_nil) (pss_cons (ps_asg (pe_op op_mod (pe_callTy call_int1 (by rfl) T.z_int (by decide +kernel) (pa_cons (pe_op op_add (pe_op op_mul (pe_ix ix_list (pv 0) pe_int (fun _ _ => rfl)) pe_int) pe_int) pa_nil)) pe_int) (pg_sub (pv 0) pe_int set_list)) (pss_one (ps_ret (pe_op op_mod (pe_callTy call_int1 (by rfl) T.z_int (by decide +kernel) (pa_cons (pe_op op_fdiv (pe_op op_mod (pe_callTy call_int1 (by rfl) T.z_int (by decide +kernel) (pa_cons (pe_op op_mul (pe_ix ix_list (pv 0) pe_int (fun _ _ => rfl)) (pe_ix ix_list (pv 0) pe_int (fun _ _ => rfl))) pa_nil)) pe_int) pe_int) pa_nil)) (pv 1)))))), ?_⟩
    refine ⟨_, rfl, l, _, _, _, rfl, rfl, SqL.of hl, rfl, _, _, rfl, rfl, _, rfl, ?_⟩
    refine ite2 (fun _ => ?_) (fun _ => ?_)
    · refine ⟨_, rfl, l, _, _, _, rfl, rfl, SqL.of hl, rfl, .inl ⟨_, rfl, _, rfl, _, _, rfl, rfl, n0, ?_⟩⟩
      refine ⟨_, rfl, l, _, _, _, rfl, rfl, SqL.of hl, rfl, _, rfl, _, _, rfl, rfl, ⟨n0, by omega⟩, _, rfl, l, _, _, _, rfl, rfl, hl, rfl, _, rfl, ?_⟩
      exact q _ _ _ (Int.emod_nonneg _ (by omega)) (Int.emod_lt_of_pos _ n0) z0 z1
    · refine ⟨_, rfl, l, _, _, _, rfl, rfl, SqL.of hl, rfl, _, _, rfl, rfl, .inr ⟨by decide, by decide⟩, _, _, rfl, rfl, .inl ⟨_, rfl, _, _, rfl, rfl, by show (0 : Int) < 2147483647; decide, _, rfl, l, _, _, _, rfl, rfl, hl, rfl, ?_⟩⟩
      have y0 := Int.emod_nonneg (z * 48271 + 11) (show (2147483647 : Int) ≠ 0 by decide)
      have y1 := Int.emod_lt_of_pos (z * 48271 + 11) (show (0 : Int) < 2147483647 by decide)
      have hl' : (upd H l (.lst [.int c, .int ((z * 48271 + 11) % 2147483647)])) l = some (.lst [.int c, .int ((z * 48271 + 11) % 2147483647)]) := upd_same
      refine ⟨_, rfl, l, _, _, _, rfl, rfl, SqL.of hl', rfl, _, rfl, l, _, _, _, rfl, rfl, SqL.of hl', rfl, _, _, rfl, rfl, .inl ⟨by omega, by omega⟩, .inl ⟨_, rfl, _, _, rfl, rfl, by show (0 : Int) < 2147483629; decide, _, _, rfl, rfl, ⟨by decide, by decide⟩, .inl ⟨_, rfl, _, rfl, _, _, rfl, rfl, n0, ?_⟩⟩⟩
      exact q _ _ _ (Int.emod_nonneg _ (by omega)) (Int.emod_lt_of_pos _ n0) y0 y1
theorem bd_law_draws {K : PySem.W.Frag} {mg : Str → Option Value} (T : Tx K mg) : Binds K (D_law_draws K) ["_law_script", "_law_k"] [] := T.F_law_draws.bindsN fun _ _ _ _ _ _ us hl => match us, hl with | [_, _], _ => rfl
theorem bd_law_draw {K : PySem.W.Frag} {mg : Str → Option Value} (T : Tx K mg) : Binds K (D_law_draw K) ["_law_draws_here", "_law_upto"] [] := T.F_law_draw.bindsN fun _ _ _ _ _ _ us hl => match us, hl with | [_, _], _ => rfl
end
end Lp

set_option Elab.async false
set_option linter.all false
set_option maxRecDepth 100000
set_option maxHeartbeats 4000000
namespace Lp
open PySem PySem.Spec PyProof.Rows L2
/-! ### exceptions that stand -/
def XAt (H : Hp) (e C : Addr) (f : Str) (v : V) : Prop := ∃ dx, H e = some (exo e C (some dx)) ∧ H dx = some (exd dx [(f, v)])
theorem XAt.same {H H' : Hp} {e C : Addr} {f : Str} {v : V} (s : Same H H') (x : XAt H e C f v) : XAt H' e C f v := by
  obtain ⟨dx, h1, h2⟩ := x
  exact ⟨dx, s _ _ h1, s _ _ h2⟩
/-- the field's name of the i-th class -/
def fl (i : Nat) : Str := if i < 14 then "value" else if i = 14 then "name" else "number"
theorem xce {K : PySem.W.Frag} {mg : Str → Option Value} (T : Tx K mg) : ∀ i, i < 16 → XCe K (cl K i)
  | 0, _ => ⟨_, _, _, _, T.x_InvalidSizes⟩
  | 1, _ => ⟨_, _, _, _, T.x_InvalidProgram⟩
  | 2, _ => ⟨_, _, _, _, T.x_InvalidText⟩
  | 3, _ => ⟨_, _, _, _, T.x_InvalidState⟩
  | 4, _ => ⟨_, _, _, _, T.x_InvalidPosition⟩
  | 5, _ => ⟨_, _, _, _, T.x_InvalidPaper⟩
  | 6, _ => ⟨_, _, _, _, T.x_InvalidRanks⟩
  | 7, _ => ⟨_, _, _, _, T.x_InvalidLimits⟩
  | 8, _ => ⟨_, _, _, _, T.x_InvalidEdit⟩
  | 9, _ => ⟨_, _, _, _, T.x_InvalidLog⟩
  | 10, _ => ⟨_, _, _, _, T.x_InvalidFault⟩
  | 11, _ => ⟨_, _, _, _, T.x_InvalidCommand⟩
  | 12, _ => ⟨_, _, _, _, T.x_NoJob⟩
  | 13, _ => ⟨_, _, _, _, T.x_NoMove⟩
  | 14, _ => ⟨_, _, _, _, T.x_NotEnough⟩
  | 15, _ => ⟨_, _, _, _, T.x_TooMany⟩
  | _ + 16, h => absurd h (by omega)
/-! ### making several -/
def mks (f : Str) : List Addr → TA
  | [] => tNil
  | C :: Cs => tCons (tXMk C (spXI C f) (tCons (tVar 0) tNil)) (mks f Cs)
theorem read_mks {f : Str} {v : V} {σ : L2.St} (hσ : σ[0]? = some (some v)) : ∀ (Cs : List Addr) {F H : Hp} {Q : List V → Hp → Prop}, Same F H →
    (∀ es F' H', Gw F H F' H' → Paired (fun e C => XAt F' e C f v) es Cs → Q (es.map V.ref) H') → mks f Cs σ H Q
  | [], F, H, Q, s, k => k [] F H (Gw.refl s) .nil
  | C :: Cs, F, H, Q, s, k => by
    show tXMk C (spXI C f) (tCons (tVar 0) tNil) σ H fun x H1 => mks f Cs σ H1 fun xs H2 => Q (x :: xs) H2
    refine xmk_read ⟨v, hσ, fun a dx na nd ne => ?_⟩
    have nd' : (upd H dx (exd dx [(f, v)])) a = none := by rw [upd_ne (Ne.symm ne)]; exact na
    have g1 : Gw F H (upd (upd F dx (exd dx [(f, v)])) a (exo a C (some dx))) (upd (upd H dx (exd dx [(f, v)])) a (exo a C (some dx))) := (Gw.add s nd).trans (Gw.add (Gw.add s nd).fh nd')
    refine read_mks hσ Cs g1.fh fun es F' H' g p => ?_
    refine k (a :: es) F' H' (g1.trans g) (.cons (XAt.same g.ff ⟨dx, upd_same, ?_⟩) p)
    rw [upd_ne ne, upd_same]
section
variable {f : Str} {v : V} {F H F1 H1 : Hp} {D : Ends} {tz : TS} {Cs Ds : List Addr} {es : List Addr} {p : Addr}
theorem set_mks (s : Same F H) (hz : Cs.length ≤ 1000) (k : ∀ p es F' H', Gw F H F' H' → H' p = some (.lst (es.map V.ref)) → Paired (fun e C => XAt F' e C f v) es Cs → tz D [some v, some (.ref p)] H') :
    tSeq (tAsg (tLst (mks f Cs)) (gName 1)) tz D [some v, none] H := by
  show mks f Cs [some v, none] H _
  refine read_mks (v := v) rfl Cs s fun es F' H' g p => ?_
  exact ⟨by have e := p.length; rw [List.length_map, e, sizeLine_eq]; omega, fun q hq => k q es F' _ (g.trans (Gw.junk g.fh hq)) upd_same p⟩
theorem cat_mks (g : Gw F H F1 H1) (hp : H1 p = some (.lst (es.map V.ref))) (pr : Paired (fun e C => XAt F1 e C f v) es Ds) (hz : Ds.length + Cs.length ≤ 1000)
    (k : ∀ p es F' H', Gw F H F' H' → H' p = some (.lst (es.map V.ref)) → Paired (fun e C => XAt F' e C f v) es (Ds ++ Cs) → tz D [some v, some (.ref p)] H') :
    tSeq (tAsg (tOp rCat (tVar 1) (tLst (mks f Cs))) (gName 1)) tz D [some v, some (.ref p)] H1 := by
  refine ⟨_, rfl, ?_⟩
  show mks f Cs [some v, some (.ref p)] H1 _
  refine read_mks (v := v) rfl Cs g.fh fun es2 F' H' g2 p2 => ?_
  have e1 := pr.length
  have e2 := p2.length
  refine ⟨by rw [List.length_map, e2, sizeLine_eq]; omega, fun q hq => ?_⟩
  have hp' := g2.hh _ _ hp
  refine ⟨p, q, _, _, rfl, rfl, by rw [upd_ne (ne_of_none hp' hq)]; exact hp', upd_same, by rw [List.length_map, List.length_map, e1, e2, sizeLine_eq]; omega, fun r hr => ?_⟩
  have g3 := (g.trans g2).trans (Gw.junk (o := .lst (es2.map V.ref)) g2.fh hq)
  exact k r (es ++ es2) F' _ (g3.trans (Gw.junk g3.fh hr)) (by rw [upd_same, List.map_append]) (paired_app (paired_imp (fun a b z => z.same g2.ff) pr) p2)
theorem ret_mks (g : Gw F H F1 H1) (hp : H1 p = some (.lst (es.map V.ref))) (pr : Paired (fun e C => XAt F1 e C f v) es Ds) (hz : Ds.length + Cs.length ≤ 1000)
    (k : ∀ p es F' H', Gw F H F' H' → F' p = some (.lst (es.map V.ref)) → Paired (fun e C => XAt F' e C f v) es (Ds ++ Cs) → D.rt (.ref p) H') :
    tRet (tOp rCat (tVar 1) (tLst (mks f Cs))) D [some v, some (.ref p)] H1 := by
  refine ⟨_, rfl, ?_⟩
  show mks f Cs [some v, some (.ref p)] H1 _
  refine read_mks (v := v) rfl Cs g.fh fun es2 F' H' g2 p2 => ?_
  have e1 := pr.length
  have e2 := p2.length
  refine ⟨by rw [List.length_map, e2, sizeLine_eq]; omega, fun q hq => ?_⟩
  have hp' := g2.hh _ _ hp
  refine ⟨p, q, _, _, rfl, rfl, by rw [upd_ne (ne_of_none hp' hq)]; exact hp', upd_same, by rw [List.length_map, List.length_map, e1, e2, sizeLine_eq]; omega, fun r hr => ?_⟩
  have g3 := (g.trans g2).trans (Gw.junk (o := .lst (es2.map V.ref)) g2.fh hq)
  have g4 := Gw.add (o := .lst (es.map V.ref ++ es2.map V.ref)) g3.fh hr
  exact k r (es ++ es2) _ _ (g3.trans g4) (by rw [upd_same, List.map_append]) (paired_imp (fun a b z => z.same g4.ff) (paired_app (paired_imp (fun a b z => z.same g2.ff) pr) p2))
end
/-! ### asking for kinds -/
def isis (K : PySem.W.Frag) : List V → TA
  | [] => tNil
  | c :: cs => tCons (tCB (rXis K) (tCons (tVar 0) (tCons (tC c) tNil))) (isis K cs)
structure Ask (K : PySem.W.Frag) (C : Addr) (c : V × Value × Bool) : Prop where
  u : ∀ u, RelV c.1 u → u = c.2.1
  k : PySem.W.kitOne K (.ref C) c.2.1 = some c.2.2
theorem read_isis {K : PySem.W.Frag} {σ : L2.St} {H : Hp} {e C : Addr} {f : Str} {v : V} (hσ : σ[0]? = some (some (.ref e))) (hX : XCe K C) (x : XAt H e C f v) : ∀ (cs : List (V × Value × Bool)), (∀ c ∈ cs, Ask K C c) → ∀ {Q : List V → Hp → Prop},
    Q (cs.map fun c => V.bl c.2.2) H → isis K (cs.map (·.1)) σ H Q
  | [], _, Q, q => q
  | c :: cs, ok, Q, q => by
    obtain ⟨dx, h1, h2⟩ := id x
    have ok1 := ok c (List.mem_cons_self ..)
    show ∃ v, σ[0]? = some (some v) ∧ _
    exact ⟨_, hσ, e, C, dx, _, c.1, c.2.1, c.2.2, rfl, ok1.u, hX, h1, h2, ok1.k, read_isis hσ hX x cs (fun d hd => ok d (List.mem_cons_of_mem _ hd)) q⟩
/-- found = [isinstance(..), ..] -/
theorem first_isis {K : PySem.W.Frag} {F H : Hp} {e C : Addr} {f : Str} {v : V} {D : Ends} {tz : TS} (hX : XCe K C) (x : XAt F e C f v) (s : Same F H) (cs : List (V × Value × Bool)) (ok : ∀ c ∈ cs, Ask K C c) (hz : cs.length ≤ 1000)
    (k : ∀ p' H', Gw F H F H' → H' p' = some (.lst (cs.map fun c => V.bl c.2.2)) → tz D [some (.ref e), some (.ref p')] H') :
    tSeq (tAsg (tLst (isis K (cs.map (·.1)))) (gName 1)) tz D [some (.ref e), none] H := by
  show isis K (cs.map (·.1)) [some (.ref e), none] H _
  refine read_isis (σ := [some (.ref e), none]) rfl hX (x.same s) cs ok ?_
  exact ⟨by rw [List.length_map, sizeLine_eq]; omega, fun q hq => k q _ (Gw.junk s hq) upd_same⟩
/-- found = found + [isinstance(..), ..] -/
theorem more_isis {K : PySem.W.Frag} {F H Hc : Hp} {e C p : Addr} {f : Str} {v : V} {xs : List V} {D : Ends} {tz : TS} (hX : XCe K C) (x : XAt F e C f v) (g : Gw F H F Hc) (hp : Hc p = some (.lst xs)) (cs : List (V × Value × Bool)) (ok : ∀ c ∈ cs, Ask K C c) (hz : xs.length + cs.length ≤ 1000)
    (k : ∀ p' H', Gw F H F H' → H' p' = some (.lst (xs ++ cs.map fun c => V.bl c.2.2)) → tz D [some (.ref e), some (.ref p')] H') :
    tSeq (tAsg (tOp rCat (tVar 1) (tLst (isis K (cs.map (·.1))))) (gName 1)) tz D [some (.ref e), some (.ref p)] Hc := by
  refine ⟨_, rfl, ?_⟩
  refine read_isis (σ := [some (.ref e), some (.ref p)]) rfl hX (x.same g.fh) cs ok ?_
  refine ⟨by rw [List.length_map, sizeLine_eq]; omega, fun q hq => ?_⟩
  have g1 := g.trans (Gw.junk (o := .lst (cs.map fun c => V.bl c.2.2)) g.fh hq)
  have hp1 : (upd Hc q (.lst (cs.map fun c => V.bl c.2.2))) p = some (.lst xs) := by rw [upd_ne (ne_of_none hp hq)]; exact hp
  refine ⟨p, q, _, _, rfl, rfl, hp1, upd_same, by rw [List.length_map, sizeLine_eq]; omega, fun r hr => ?_⟩
  exact k r _ (g1.trans (Gw.junk g1.fh hr)) upd_same
theorem last_isis {K : PySem.W.Frag} {F H Hc : Hp} {e C p : Addr} {f : Str} {v : V} {xs : List V} {D : Ends} (hX : XCe K C) (x : XAt F e C f v) (g : Gw F H F Hc) (hp : Hc p = some (.lst xs)) (cs : List (V × Value × Bool)) (ok : ∀ c ∈ cs, Ask K C c) (hz : xs.length + cs.length ≤ 1000)
    (k : ∀ p' F' H', Gw F H F' H' → F' p' = some (.lst (xs ++ cs.map fun c => V.bl c.2.2)) → D.rt (.ref p') H') :
    tRet (tOp rCat (tVar 1) (tLst (isis K (cs.map (·.1))))) D [some (.ref e), some (.ref p)] Hc := by
  refine ⟨_, rfl, ?_⟩
  refine read_isis (σ := [some (.ref e), some (.ref p)]) rfl hX (x.same g.fh) cs ok ?_
  refine ⟨by rw [List.length_map, sizeLine_eq]; omega, fun q hq => ?_⟩
  have g1 := g.trans (Gw.junk (o := .lst (cs.map fun c => V.bl c.2.2)) g.fh hq)
  have hp1 : (upd Hc q (.lst (cs.map fun c => V.bl c.2.2))) p = some (.lst xs) := by rw [upd_ne (ne_of_none hp hq)]; exact hp
  refine ⟨p, q, _, _, rfl, rfl, hp1, upd_same, by rw [List.length_map, sizeLine_eq]; omega, fun r hr => ?_⟩
  exact k r _ _ (g1.trans (Gw.add g1.fh hr)) upd_same
def kindRow (i : Nat) : List Bool := (List.range 16).map fun j => decide (j = i)
def baseRow (i : Nat) : List Bool := (List.range 6).map (bT i)
def spKinds (K : PySem.W.Frag) (row : Nat → List Bool) : Sp := fun vs H Q _ => ∃ (F : Hp) (e : Addr) (i : Nat) (f : Str) (v : V), vs = [.ref e] ∧ Same F H ∧ i < 16 ∧ XAt F e (cl K i) f v ∧ ∀ p F' H', Gw F H F' H' → F' p = some (.lst ((row i).map V.bl)) → Q (.ref p) H'
abbrev N_law_kinds : List Str := ["_law_error", "_law_kinds_here"]
theorem sc_law_kinds : FnScope N_law_kinds ["_law_error"] (defScope S_law_kinds) := ⟨rfl, rfl, rfl, by decide +kernel, rfl, by decide +kernel, by decide +kernel⟩
abbrev N_law_bases : List Str := ["_law_error", "_law_bases_here"]
theorem sc_law_bases : FnScope N_law_bases ["_law_error"] (defScope S_law_bases) := ⟨rfl, rfl, rfl, by decide +kernel, rfl, by decide +kernel, by decide +kernel⟩
abbrev N_law_plain_ones : List Str := ["_law_thing", "_law_found"]
theorem sc_law_plain_ones : FnScope N_law_plain_ones ["_law_thing"] (defScope S_law_plain_ones) := ⟨rfl, rfl, rfl, by decide +kernel, rfl, by decide +kernel, by decide +kernel⟩
section
variable {P : Program} {w : World} {K : PySem.W.Frag} {mg : Str → Option Value} {base : Heap}
def ak (K : PySem.W.Frag) (i j : Nat) : V × Value × Bool := (.ref (cl K j), .ref (cl K j), decide (j = i))
theorem ak_ok (T : Tx K mg) {i j : Nat} (hi : i < 16) (hj : j < 16) : Ask K (cl K i) (ak K i j) := ⟨fun _ h => h, T.kt i j hi hj⟩
theorem ok_law_kinds (T : Tx K mg) : FnOk P w K mg base CX0 1 (A_law_kinds K) (D_law_kinds K) ["_law_error"] (spKinds K kindRow) := by
  refine T.F_law_kinds.ok sc_law_kinds (fun vs H Q E h => ?_) (fun cdv A outer s H vs Q E hr h => ?_)
  · obtain ⟨F, e, i, f, v, rfl, _⟩ := h
    rfl
  · obtain ⟨F, e, i, f, v, rfl, s0, hi, x, q⟩ := h
    have hX := xce T i hi
    have all : ∀ {js : List Nat}, (∀ j ∈ js, j < 16) → ∀ c ∈ js.map (ak K i), Ask K (cl K i) c := fun h c hc => by
      obtain ⟨j, hj, rfl⟩ := List.mem_map.mp hc
      exact ak_ok T hi (h j hj)
    refine ⟨_, PSs.nox (pss_cons (ps_set (i := 1) sc_law_kinds.nd rfl (by first | exact Or.inl rfl | exact Or.inr rfl) (pe_lst (pa_cons (pe_callB call_xis (by rfl) T.z_isinstance (by decide +kernel) (pa_cons (pv 0) (pa_cons (pe_glob (v := .ref _) rfl T.m_InvalidSizes rfl) pa_nil))) (pa_cons (pe_callB call_xis (by rfl) T.z_isinstance (by decide +kernel) (pa_cons (pv 0) (pa_cons (pe_glob (v := .ref _) rfl T.m_InvalidProgram rfl) pa_nil))) (pa_cons (pe_callB call_xis (by rfl) T.z_isinstance (by decide +kernel) (pa_cons (pv 0) (pa_cons (pe_glob (v := .ref _) rfl T.m_InvalidText rfl) pa_nil))) pa_nil))))) (pss_cons (ps_set (i := 1) sc_law_kinds.nd rfl (by first | exact Or.inl rfl | exact Or.inr rfl) (pe_op op_cat (pv 1) (pe_lst (pa_cons (pe_callB call_xis (by rfl) T.z_isinstance (by decide +kernel) (pa_cons (pv 0) (pa_cons (pe_glob (v := .ref _) rfl T.m_InvalidState rfl) pa_nil))) (pa_cons (pe_callB call_xis (by rfl) T.z_isinstance (by decide +kernel) (pa_cons (pv 0) (pa_cons (pe_glob (v := .ref _) rfl T.m_InvalidPosition rfl) pa_nil))) pa_nil))))) (pss_cons (ps_set (i := 1) sc_law_kinds.nd rfl (by first | exact Or.inl rfl | exact Or.inr rfl) (pe_op op_cat (pv 1) (pe_lst (pa_cons (pe_callB call_xis (by rfl) T.z_isinstance (by decide +kernel) (pa_cons (pv 0) (pa_cons (pe_glob (v := .ref _) rfl T.m_InvalidPaper rfl) pa_nil))) (pa_cons (pe_callB call_xis (by rfl) T.z_isinstance (by decide +kernel) (pa_cons (pv 0) (pa_cons (pe_glob (v := .ref _) rfl T.m_InvalidRanks rfl) pa_nil))) pa_nil))))) (pss_cons (ps_set (i := 1) sc_law_kinds.nd rfl (by first | exact Or.inl rfl | exact Or.inr rfl) (pe_op op_cat (pv 1) (pe_lst (pa_cons (pe_callB call_xis (by rfl) T.z_isinstance (by decide +kernel) (pa_cons (pv 0) (pa_cons (pe_glob (v := .ref _) rfl T.m_InvalidLimits rfl) pa_nil))) (pa_cons (pe_callB call_xis (by rfl) T.z_isinstance (by decide +kernel) (pa_cons (pv 0) (pa_cons (pe_glob (v := .ref _) rfl T.m_InvalidEdit rfl) pa_nil))) (pa_cons (pe_callB call_xis (by rfl) T.z_isinstance (by decide +kernel) (pa_cons (pv 0) (pa_cons (pe_glob (v := .ref _) rfl T.m_InvalidLog rfl) pa_nil))) pa_nil)))))) (pss_cons (ps_set (i := 1) sc_law_kinds.nd rfl (by first | exact Or.inl rfl | exact Or.inr rfl) (pe_op op_cat (pv 1) (pe_lst (pa_cons (pe_callB call_xis (by rfl) T.z_isinstance (by decide +kernel) (pa_cons (pv 0) (pa_cons (pe_glob (v := .ref _) rfl T.m_InvalidFault rfl) pa_nil))) (pa_cons (pe_callB call_xis (by rfl) T.z_isinstance (by decide +kernel) (pa_cons (pv 0) (pa_cons (pe_glob (v := .ref _) rfl T.m_InvalidCommand rfl) pa_nil))) pa_nil))))) (pss_cons (ps_set (i := 1) sc_law_kinds.nd rfl (by first | exact Or.inl rfl | exact Or.inr rfl) (pe_op op_cat (pv 1) (pe_lst (pa_cons (pe_callB call_xis (by rfl) T.z_isinstance (by decide +kernel) (pa_cons (pv 0) (pa_cons (pe_glob (v := .ref _) rfl T.m_NoJob rfl) pa_nil))) (pa_cons (pe_callB call_xis (by rfl) T.z_isinstance (by decide +kernel) (pa_cons (pv 0) (pa_cons (pe_glob (v := .ref _) rfl T.m_NoMove rfl) pa_nil))) pa_nil))))) (pss_one (ps_ret (pe_op op_cat (pv 1) (pe_lst (pa_cons (pe_callB call_xis (by rfl) T.z_isinstance (by decide +kernel) (pa_cons (pv 0) (pa_cons (pe_glob (v := .ref _) rfl T.m_NotEnough rfl) pa_nil))) (pa_cons (pe_callB call_xis (by rfl) T.z_isinstance (by decide +kernel) (pa_cons (pv 0) (pa_cons (pe_glob (v := .ref _) rfl T.m_TooMany rfl) pa_nil))) pa_nil)))))))))))), ?_⟩
    refine first_isis (e := e) hX x s0 ([0, 1, 2].map (ak K i)) (all (by decide)) (by simp) fun p0 H0 g0 h0 => ?_
    refine more_isis (e := e) hX x g0 h0 ([3, 4].map (ak K i)) (all (by decide)) (by simp) fun p1 H1 g1 h1 => ?_
    refine more_isis (e := e) hX x g1 h1 ([5, 6].map (ak K i)) (all (by decide)) (by simp) fun p2 H2 g2 h2 => ?_
    refine more_isis (e := e) hX x g2 h2 ([7, 8, 9].map (ak K i)) (all (by decide)) (by simp) fun p3 H3 g3 h3 => ?_
    refine more_isis (e := e) hX x g3 h3 ([10, 11].map (ak K i)) (all (by decide)) (by simp) fun p4 H4 g4 h4 => ?_
    refine more_isis (e := e) hX x g4 h4 ([12, 13].map (ak K i)) (all (by decide)) (by simp) fun p5 H5 g5 h5 => ?_
    exact last_isis (e := e) hX x g5 h5 ([14, 15].map (ak K i)) (all (by decide)) (by simp) fun p6 F' H6 g6 h6 => q p6 F' H6 g6 h6
def bk (K : PySem.W.Frag) (i j : Nat) : V × Value × Bool := (([.ref (He.ga K "PoolError"), .ty "ValueError", .ty "KeyError", .ty "LookupError", .ty "ArithmeticError", .ty "RuntimeError"] : List V).getD j .non, bs K j, bT i j)
theorem bk_ok (T : Tx K mg) {i j : Nat} (hi : i < 16) (hj : j < 6) : Ask K (cl K i) (bk K i j) := ⟨by
  match j, hj with
  | 0, _ => exact fun _ h => h
  | 1, _ => exact fun _ h => h
  | 2, _ => exact fun _ h => h
  | 3, _ => exact fun _ h => h
  | 4, _ => exact fun _ h => h
  | 5, _ => exact fun _ h => h
  | _ + 6, h => omega, T.bt i j hi hj⟩
theorem ok_law_bases (T : Tx K mg) : FnOk P w K mg base CX0 1 (A_law_bases K) (D_law_bases K) ["_law_error"] (spKinds K baseRow) := by
  refine T.F_law_bases.ok sc_law_bases (fun vs H Q E h => ?_) (fun cdv A outer s H vs Q E hr h => ?_)
  · obtain ⟨F, e, i, f, v, rfl, _⟩ := h
    rfl
  · obtain ⟨F, e, i, f, v, rfl, s0, hi, x, q⟩ := h
    have hX := xce T i hi
    have all : ∀ {js : List Nat}, (∀ j ∈ js, j < 6) → ∀ c ∈ js.map (bk K i), Ask K (cl K i) c := fun h c hc => by
      obtain ⟨j, hj, rfl⟩ := List.mem_map.mp hc
      exact bk_ok T hi (h j hj)
    refine ⟨_, PSs.nox (pss_cons (ps_set (i := 1) sc_law_bases.nd rfl (by first | exact Or.inl rfl | exact Or.inr rfl) (pe_lst (pa_cons (pe_callB call_xis (by rfl) T.z_isinstance (by decide +kernel) (pa_cons (pv 0) (pa_cons (pe_glob (v := .ref _) rfl T.m_PoolError rfl) pa_nil))) (pa_cons (pe_callB call_xis (by rfl) T.z_isinstance (by decide +kernel) (pa_cons (pv 0) (pa_cons (pe_bltn (v := .ty "ValueError") rfl T.z_ValueError (by decide +kernel) rfl) pa_nil))) (pa_cons (pe_callB call_xis (by rfl) T.z_isinstance (by decide +kernel) (pa_cons (pv 0) (pa_cons (pe_bltn (v := .ty "KeyError") rfl T.z_KeyError (by decide +kernel) rfl) pa_nil))) pa_nil))))) (pss_cons (ps_set (i := 1) sc_law_bases.nd rfl (by first | exact Or.inl rfl | exact Or.inr rfl) (pe_op op_cat (pv 1) (pe_lst (pa_cons (pe_callB call_xis (by rfl) T.z_isinstance (by decide +kernel) (pa_cons (pv 0) (pa_cons (pe_bltn (v := .ty "LookupError") rfl T.z_LookupError (by decide +kernel) rfl) pa_nil))) (pa_cons (pe_callB call_xis (by rfl) T.z_isinstance (by decide +kernel) (pa_cons (pv 0) (pa_cons (pe_bltn (v := .ty "ArithmeticError") rfl T.z_ArithmeticError (by decide +kernel) rfl) pa_nil))) pa_nil))))) (pss_one (ps_ret (pe_op op_cat (pv 1) (pe_lst (pa_cons (pe_callB call_xis (by rfl) T.z_isinstance (by decide +kernel) (pa_cons (pv 0) (pa_cons (pe_bltn (v := .ty "RuntimeError") rfl T.z_RuntimeError (by decide +kernel) rfl) pa_nil))) pa_nil))))))), ?_⟩
    refine first_isis (e := e) hX x s0 ([0, 1, 2].map (bk K i)) (all (by decide)) (by simp) fun p0 H0 g0 h0 => ?_
    refine more_isis (e := e) hX x g0 h0 ([3, 4].map (bk K i)) (all (by decide)) (by simp) fun p1 H1 g1 h1 => ?_
    exact last_isis (e := e) hX x g1 h1 ([5].map (bk K i)) (all (by decide)) (by simp) fun p6 F' H6 g6 h6 => q p6 F' H6 g6 h6
/-- twelve exceptions of one value -/
def spPlain (K : PySem.W.Frag) : Sp := fun vs H Q _ => ∃ (F : Hp) (v : V), vs = [v] ∧ Same F H ∧ ∀ p F' H' es, Gw F H F' H' → F' p = some (.lst (es.map V.ref)) → Paired (fun e C => XAt F' e C "value" v) es ((List.range 12).map (cl K)) → Q (.ref p) H'
theorem ok_law_plain_ones (T : Tx K mg) : FnOk P w K mg base CX0 3 (A_law_plain_ones K) (D_law_plain_ones K) ["_law_thing"] (spPlain K) := by
  refine T.F_law_plain_ones.ok sc_law_plain_ones (fun vs H Q E h => ?_) (fun cdv A outer s H vs Q E hr h => ?_)
  · obtain ⟨F, v, rfl, _⟩ := h
    rfl
  · obtain ⟨F, v, rfl, s0, q⟩ := h
    refine ⟨_, PSs.nox (pss_cons (ps_set (i := 1) sc_law_plain_ones.nd rfl (by first | exact Or.inl rfl | exact Or.inr rfl) (pe_lst (pa_cons (mk_InvalidSizes T (hr.mono (by decide)) rfl (pa_cons (pv 0) pa_nil)) (pa_cons (mk_InvalidProgram T (hr.mono (by decide)) rfl (pa_cons (pv 0) pa_nil)) (pa_cons (mk_InvalidText T (hr.mono (by decide)) rfl (pa_cons (pv 0) pa_nil)) (pa_cons (mk_InvalidState T (hr.mono (by decide)) rfl (pa_cons (pv 0) pa_nil)) pa_nil)))))) (pss_cons (ps_set (i := 1) sc_law_plain_ones.nd rfl (by first | exact Or.inl rfl | exact Or.inr rfl) (pe_op op_cat (pv 1) (pe_lst (pa_cons (mk_InvalidPosition T (hr.mono (by decide)) rfl (pa_cons (pv 0) pa_nil)) (pa_cons (mk_InvalidPaper T (hr.mono (by decide)) rfl (pa_cons (pv 0) pa_nil)) (pa_cons (mk_InvalidRanks T (hr.mono (by decide)) rfl (pa_cons (pv 0) pa_nil)) (pa_cons (mk_InvalidLimits T (hr.mono (by decide)) rfl (pa_cons (pv 0) pa_nil)) pa_nil))))))) (pss_one (ps_ret (pe_op op_cat (pv 1) (pe_lst (pa_cons (mk_InvalidEdit T (hr.mono (by decide)) rfl (pa_cons (pv 0) pa_nil)) (pa_cons (mk_InvalidLog T (hr.mono (by decide)) rfl (pa_cons (pv 0) pa_nil)) (pa_cons (mk_InvalidFault T (hr.mono (by decide)) rfl (pa_cons (pv 0) pa_nil)) (pa_cons (mk_InvalidCommand T (hr.mono (by decide)) rfl (pa_cons (pv 0) pa_nil)) pa_nil)))))))))), ?_⟩
    refine set_mks (Cs := [cl K 0, cl K 1, cl K 2, cl K 3]) s0 (by simp) fun l0 es0 F0 H0 g0 h0 p0 => ?_
    refine cat_mks (Cs := [cl K 4, cl K 5, cl K 6, cl K 7]) g0 h0 p0 (by simp) fun l1 es1 F1 H1 g1 h1 p1 => ?_
    exact ret_mks (Cs := [cl K 8, cl K 9, cl K 10, cl K 11]) g1 h1 p1 (by simp) fun l2 es2 F2 H2 g2 h2 p2 => q l2 F2 H2 es2 g2 h2 p2
theorem bd_law_kinds {K : PySem.W.Frag} {mg : Str → Option Value} (T : Tx K mg) : Binds K (D_law_kinds K) ["_law_error"] [] := T.F_law_kinds.bindsN fun _ _ _ _ _ _ us hl => match us, hl with | [_], _ => rfl
theorem bd_law_bases {K : PySem.W.Frag} {mg : Str → Option Value} (T : Tx K mg) : Binds K (D_law_bases K) ["_law_error"] [] := T.F_law_bases.bindsN fun _ _ _ _ _ _ us hl => match us, hl with | [_], _ => rfl
theorem bd_law_plain_ones {K : PySem.W.Frag} {mg : Str → Option Value} (T : Tx K mg) : Binds K (D_law_plain_ones K) ["_law_thing"] [] := T.F_law_plain_ones.bindsN fun _ _ _ _ _ _ us hl => match us, hl with | [_], _ => rfl
end
end Lp

set_option Elab.async false
set_option linter.all false
set_option maxRecDepth 100000
set_option maxHeartbeats 4000000
namespace Lp
open PySem PySem.Spec PyProof.Rows L2
def spLaw (K : PySem.W.Frag) : Sp := fun vs H Q _ => ∃ (a : Addr) (ns : List Int), vs = [.ref a] ∧ SqL K H a (ns.map V.int) ∧ ns.length ≤ 63 ∧ ∀ H', Q (.bl true) H'
abbrev N_law : List Str := ["_law_script", "_law_k", "_law_draws_here", "_law_thing", "_law_some", "_law_at", "_law_one", "_law_place", "_law_more", "_law_due", "_law_held"]
theorem sc_law : FnScope N_law ["_law_script"] (defScope S_law) := ⟨rfl, rfl, rfl, by decide +kernel, rfl, by decide +kernel, by decide +kernel⟩
section
variable {P : Program} {w : World} {K : PySem.W.Frag} {mg : Str → Option Value} {base : Heap}
/-- what can be shown, and its text compared -/
structure Shw (K : PySem.W.Frag) (F : Hp) (v : V) (d : PyData) : Prop where
  sh : Sh K F v d
  w : d.showable = true
  dp : d.depth ≤ 50
  ln : d.shown.length ≤ sizeLine
  ly : (PyData.str d.shown).canLay0 = true
theorem Shw.same {F F' : Hp} {v : V} {d : PyData} (s : Same F F') (h : Shw K F v d) : Shw K F' v d := ⟨sh_same s h.sh, h.w, h.dp, h.ln, h.ly⟩
def items (t1 t2 t3 t5 : Addr) : List V := [.non, .int 5, .str "a", .ref t1, .ref t2, .ref t3, .int (10 ^ (30 : Int).toNat), .bl true, .ref t5]
theorem menu {F : Hp} {t1 t2 t3 t4 t5 : Addr} (h1 : F t1 = some (.tup [.str "a", .int 1])) (h2 : F t2 = some (.lst [.int 1])) (h3 : F t3 = some (.dK [(Sum.inr "a", .int 1)])) (h4 : F t4 = some (.lst [])) (h5 : F t5 = some (.tup [.non, .ref t4])) {r : Int} (r0 : 0 ≤ r) (r1 : r < 9) :
    ∃ v d, atI (items t1 t2 t3 t5) r = some v ∧ Shw K F v d := by
  obtain rfl | rfl | rfl | rfl | rfl | rfl | rfl | rfl | rfl : r = 0 ∨ r = 1 ∨ r = 2 ∨ r = 3 ∨ r = 4 ∨ r = 5 ∨ r = 6 ∨ r = 7 ∨ r = 8 := by omega
  · exact ⟨_, .none, rfl, .inl .non, rfl, by decide, by decide +kernel, by decide +kernel⟩
  · exact ⟨_, .int 5, rfl, .inl (.int 5), by decide +kernel, by decide, by decide +kernel, by decide +kernel⟩
  · exact ⟨_, .str "a", rfl, .inl (.str "a"), rfl, by decide, by decide +kernel, by decide +kernel⟩
  · exact ⟨_, .tuple [.str "a", .int 1], rfl, .inl (.tup (SqT.of h1) (.cons (.str _) (.cons (.int _) .nil))), by decide +kernel, by decide +kernel, by decide +kernel, by decide +kernel⟩
  · exact ⟨_, .list [.int 1], rfl, .inl (.lst (SqL.of h2) (.cons (.int _) .nil)), by decide +kernel, by decide +kernel, by decide +kernel, by decide +kernel⟩
  · exact ⟨_, dD [(Sum.inr "a", .int 1)], rfl, .inr ⟨t3, _, rfl, .inl h3, by decide +kernel, rfl⟩, by decide +kernel, by decide +kernel, by decide +kernel, by decide +kernel⟩
  · exact ⟨_, .int (10 ^ (30 : Int).toNat), rfl, .inl (.int _), by decide +kernel, by decide, by decide +kernel, by decide +kernel⟩
  · exact ⟨_, .bool true, rfl, .inl (.bl true), rfl, by decide, by decide +kernel, by decide +kernel⟩
  · exact ⟨_, .tuple [.none, .list []], rfl, .inl (.tup (SqT.of h5) (.cons .non (.cons (.lst (SqL.of h4) .nil) .nil))), by decide +kernel, by decide +kernel, by decide +kernel, by decide +kernel⟩
theorem noat (T : Tx K mg) : ∀ i, i < 16 → PySem.W.findIn K (.ref (cl K i)) (fl i) = some none
  | 0, _ => T.i_InvalidSizes.n
  | 1, _ => T.i_InvalidProgram.n
  | 2, _ => T.i_InvalidText.n
  | 3, _ => T.i_InvalidState.n
  | 4, _ => T.i_InvalidPosition.n
  | 5, _ => T.i_InvalidPaper.n
  | 6, _ => T.i_InvalidRanks.n
  | 7, _ => T.i_InvalidLimits.n
  | 8, _ => T.i_InvalidEdit.n
  | 9, _ => T.i_InvalidLog.n
  | 10, _ => T.i_InvalidFault.n
  | 11, _ => T.i_InvalidCommand.n
  | 12, _ => T.i_NoJob.n
  | 13, _ => T.i_NoMove.n
  | 14, _ => T.i_NotEnough.n
  | 15, _ => T.i_TooMany.n
  | _ + 16, h => absurd h (by omega)
theorem paired_at {α β : Type} {R : α → β → Prop} : ∀ {l : List α} {m : List β} {i : Nat} {x : α}, Paired R l m → l[i]? = some x → ∃ y, m[i]? = some y ∧ R x y
  | _, _, _, _, .nil, e => by simp at e
  | _, _, 0, _, .cons r _, e => by simp at e; subst e; exact ⟨_, rfl, r⟩
  | _, _, i + 1, x, .cons _ t, e => by
    obtain ⟨y, h1, h2⟩ := paired_at (i := i) (x := x) t (by simpa using e)
    exact ⟨y, by simpa using h1, h2⟩
theorem look1 (f : Str) (v : V) : ([(f, v)] : List (Str × V)).lookup f = some v := by
  rw [lookup_put, if_pos rfl]
theorem kind_eq (j : Nat) : ((List.range 16).map fun i : Nat => V.bl (decide (V.int (0 + (i : Int)) = V.int (j : Int)))) = (kindRow j).map V.bl := by
  unfold kindRow
  rw [List.map_map]
  refine List.map_congr_left fun i _ => ?_
  show V.bl _ = V.bl _
  congr 1
  refine decide_eq_decide.mpr ⟨fun h => ?_, fun h => ?_⟩
  · have := V.int.inj h
    omega
  · rw [h, Int.zero_add]
theorem base_lo {j : Nat} (hj : j < 12) : baseRow j = [true, true, false, false, false, false] := by
  have e : ∀ k, bT j k = decide (k < 2) := fun k => by unfold bT; rw [if_pos hj]
  unfold baseRow
  rw [List.map_congr_left fun k _ => e k]
  rfl
theorem kind_eq12 (j : Nat) : ((List.range 16).map fun i : Nat => V.bl (decide (V.int (0 + (i : Int)) = V.int (12 + (0 + (j : Int)))))) = (kindRow (12 + j)).map V.bl := by
  rw [← kind_eq (12 + j)]
  refine List.map_congr_left fun i _ => ?_
  have e : (12 + (0 + (j : Int))) = ((12 + j : Nat) : Int) := by omega
  rw [e]
theorem ne_false {A B : Prop} {d : PyData} (h : d.canLay0 = true) (k : B) : ∃ b, V.bl (!PyData.eqv d d) = V.bl b ∧ if b = true then A else B := ⟨false, by rw [eqv_refl d h]; rfl, iteF k⟩
/-- four lists of truth values, by rows -/
def rD (row : Nat → List Bool) : PyData := .list ((List.range 4).map fun i => bD (row i))
theorem rD_lay (row : Nat → List Bool) : (rD row).canLay0 = true := lay_map (l := List.range 4) fun i _ => bD_lay (row i)
theorem rD_shaped (row : Nat → List Bool) : SeqAt.shaped (rD row) = true := shaped_of (rD_lay row) (Nat.le_trans (Nat.succ_le_succ (dep_map (l := List.range 4) fun i _ => bD_dep (row i))) (by decide))
def Row (row : Nat → List Bool) (i : Nat) (y : V) (F : Hp) : Prop := ∃ p, y = .ref p ∧ F p = some (.lst ((row i).map V.bl))
theorem Row.same {row : Nat → List Bool} (i : Nat) (y : V) (A B : Hp) (s : Same A B) (r : Row row i y A) : Row row i y B := by
  obtain ⟨p, e, h⟩ := r
  exact ⟨p, e, s _ _ h⟩
theorem rD_dp {H F : Hp} {row : Nat → List Bool} {D : Addr} {ys : List V} (s : Same F H) (h : H D = some (.lst ys)) (pr : Paired (fun i y => Row row i y F) (List.range 4) ys) : Dp K H (.ref D) (rD row) :=
  .lst (SqL.of h) (dpAll_paired (g := fun i => bD (row i)) (paired_imp (fun i y r => by
    obtain ⟨p, rfl, hp⟩ := r
    exact bD_dp (s _ _ hp)) pr))
theorem mk1 {f : Str} {v : V} {C : Addr} {σ : L2.St} {F H : Hp} {i : Nat} {Q : VK} (hσ : σ[i]? = some (some v)) (s : Same F H) (k : ∀ e F' H', Gw F H F' H' → XAt F' e C f v → Q (.ref e) H') : tXMk C (spXI C f) (tCons (tVar i) tNil) σ H Q := by
  refine xmk_read ⟨v, hσ, fun a dx na nd ne => ?_⟩
  have nd' : (upd H dx (exd dx [(f, v)])) a = none := by rw [upd_ne (Ne.symm ne)]; exact na
  have g2 := Gw.add (o := exo a C (some dx)) (Gw.add (o := exd dx [(f, v)]) s nd).fh nd'
  refine k a _ _ ((Gw.add s nd).trans g2) ⟨dx, upd_same, ?_⟩
  rw [upd_ne ne, upd_same]
theorem mk4 {f1 f2 f3 f4 : Str} {v : V} {C1 C2 C3 C4 : Addr} {σ : L2.St} {F H : Hp} {i o : Nat} {D : Ends} {tz : TS} (hσ : σ[i]? = some (some v)) (s : Same F H)
    (k : ∀ e1 e2 e3 e4 L F' H', Gw F H F' H' → F' L = some (.lst [.ref e1, .ref e2, .ref e3, .ref e4]) → XAt F' e1 C1 f1 v → XAt F' e2 C2 f2 v → XAt F' e3 C3 f3 v → XAt F' e4 C4 f4 v → tz D (σ.set o (some (.ref L))) H') :
    tSeq (tAsg (tLst (tCons (tXMk C1 (spXI C1 f1) (tCons (tVar i) tNil)) (tCons (tXMk C2 (spXI C2 f2) (tCons (tVar i) tNil)) (tCons (tXMk C3 (spXI C3 f3) (tCons (tVar i) tNil)) (tCons (tXMk C4 (spXI C4 f4) (tCons (tVar i) tNil)) tNil))))) (gName o)) tz D σ H := by
  refine r_seq (r_asg (r_lst (r_cons ?_)))
  refine mk1 hσ s fun e1 F1 H1 g1 x1 => ?_
  refine r_cons ?_
  refine mk1 hσ g1.fh fun e2 F2 H2 g2 x2 => ?_
  refine r_cons ?_
  refine mk1 hσ g2.fh fun e3 F3 H3 g3 x3 => ?_
  refine r_cons ?_
  refine mk1 hσ g3.fh fun e4 F4 H4 g4 x4 => ?_
  refine ⟨by show 4 ≤ sizeLine; decide, fun L hL => ?_⟩
  have g5 := Gw.add (o := .lst [.ref e1, .ref e2, .ref e3, .ref e4]) g4.fh hL
  exact k e1 e2 e3 e4 L _ _ (g1.trans (g2.trans (g3.trans (g4.trans g5)))) upd_same (x1.same (same_trans g2.ff (same_trans g3.ff (same_trans g4.ff g5.ff)))) (x2.same (same_trans g3.ff (same_trans g4.ff g5.ff))) (x3.same (same_trans g4.ff g5.ff)) (x4.same g5.ff)
theorem ok_law (T : Tx K mg) : FnG P w K mg base CX0 4 (A_law K) (D_law K) ["_law_script"] (spLaw K) := by
  refine okG T.F_law sc_law (fun vs H Q E h => ?_) (fun cdv A outer s H vs Q E gd hr h => ?_)
  · obtain ⟨a, ns, rfl, _⟩ := h
    rfl
  · obtain ⟨a, ns, rfl, hS, hl, q⟩ := h
    have hu64 := hr.units
    refine ⟨_, PSs.nox (pss_cons (ps_for PassesOwn.never rfl (pi_range1 rfl T.z_range (pa_cons (pe_callB (call_max2 rfl) (by rfl) T.z_max (by decide +kernel) (pa_cons pe_int (pa_cons (pe_callB (call_min2 rfl) (by rfl) T.z_min (by decide +kernel) (pa_cons pe_int (pa_cons (pe_callB call_len (by rfl) T.z_len (by decide +kernel) (pa_cons (pv 0) pa_nil)) pa_nil))) pa_nil))) pa_nil)) (pg_name (i := 1) sc_law.nd rfl (by first | exact Or.inl rfl | exact Or.inr rfl)) (pss_cons (ps_set (i := 2) sc_law.nd rfl (by first | exact Or.inl rfl | exact Or.inr rfl) (pe_call (ok_law_draws T) (hr.mono (by decide)) rfl T.m_law_draws T.F_law_draws.kp (bd_law_draws T) .nil pass0 (pa_cons (pv 0) (pa_cons (pv 1) pa_nil)))) (pss_cons (ps_set (i := 3) sc_law.nd rfl (by first | exact Or.inl rfl | exact Or.inr rfl) (pe_ix ix_list (pe_lst (pa_cons pe_non (pa_cons pe_int (pa_cons pe_str (pa_cons (pe_tup (pa_cons pe_str (pa_cons pe_int pa_nil))) (pa_cons (pe_lst (pa_cons pe_int pa_nil)) (pa_cons (pe_disp (pps_cons pe_str pe_int pps_nil) rfl rfl (by simp) (by decide)) (pa_cons (pe_op op_pow pe_int pe_int) (pa_cons pe_bl (pa_cons (pe_tup (pa_cons pe_non (pa_cons (pe_lst pa_nil) pa_nil))) pa_nil)))))))))) (pe_call (ok_law_draw T) (hr.mono (by decide)) rfl T.m_law_draw T.F_law_draw.kp (bd_law_draw T) .nil pass0 (pa_cons (pv 2) (pa_cons pe_int pa_nil))) (fun _ _ => rfl))) (pss_cons (ps_set (i := 4) sc_law.nd rfl (by first | exact Or.inl rfl | exact Or.inr rfl) (pe_call (ok_law_plain_ones T) (hr.mono (by decide)) rfl T.m_law_plain_ones T.F_law_plain_ones.kp (bd_law_plain_ones T) .nil pass0 (pa_cons (pv 3) pa_nil))) (pss_cons (ps_for PassesOwn.never rfl (pi_enum rfl T.z_enumerate (pa_cons (pv 4) pa_nil)) (pg_tup rfl (pgs_cons (pg_name (i := 5) sc_law.nd rfl (by first | exact Or.inl rfl | exact Or.inr rfl)) (pgs_cons (pg_name (i := 6) sc_law.nd rfl (by first | exact Or.inl rfl | exact Or.inr rfl)) pgs_nil))) (pss_cons (ps_if (PW.pt (pw_or (pt_cmpR op_ne (pe_callB (call_reprK (K0 := K) rfl gd hu64) (by rfl) T.z_repr (by decide +kernel) (pa_cons (pe_xfld (pv 6)) pa_nil)) (pe_callB (call_reprK (K0 := K) rfl gd hu64) (by rfl) T.z_repr (by decide +kernel) (pa_cons (pv 3) pa_nil)) (nomark _)) (pw_or1 (pt_cmpR (op_neD hu64) (pe_call (ok_law_kinds T) (hr.mono (by decide)) rfl T.m_law_kinds T.F_law_kinds.kp (bd_law_kinds T) .nil pass0 (pa_cons (pv 6) pa_nil)) (pe_lc (own := [("_law_place", 7)]) rfl sc_law.nd (pi_range1 rfl T.z_range (pa_cons pe_int pa_nil)) (blkOk_by (N := N_law) (sc := defScope S_law) (by decide +kernel)) (fun _ _ _ _ _ => (pg_name (i := 7) sc_law.nd rfl (by first | exact Or.inl rfl | exact Or.inr rfl))) (fun _ _ _ _ _ => pts_nil) (fun _ _ _ _ _ => (pe_cmpR op_eq (pv 7) (pv 5) (nomark _)))) (nomark _))))) (pss_one (ps_ret pe_bl)) pss_nil) (pss_one (ps_if (pt_cmpR (op_neD hu64) (pe_call (ok_law_bases T) (hr.mono (by decide)) rfl T.m_law_bases T.F_law_bases.kp (bd_law_bases T) .nil pass0 (pa_cons (pv 6) pa_nil)) (pe_lst (pa_cons pe_bl (pa_cons pe_bl (pa_cons pe_bl (pa_cons pe_bl (pa_cons pe_bl (pa_cons pe_bl pa_nil))))))) (nomark _)) (pss_one (ps_ret pe_bl)) pss_nil)))) (pss_cons (ps_set (i := 8) sc_law.nd rfl (by first | exact Or.inl rfl | exact Or.inr rfl) (pe_lst (pa_cons (mk_NoJob T (hr.mono (by decide)) rfl (pa_cons (pv 3) pa_nil)) (pa_cons (mk_NoMove T (hr.mono (by decide)) rfl (pa_cons (pv 3) pa_nil)) (pa_cons (mk_NotEnough T (hr.mono (by decide)) rfl (pa_cons (pv 3) pa_nil)) (pa_cons (mk_TooMany T (hr.mono (by decide)) rfl (pa_cons (pv 3) pa_nil)) pa_nil)))))) (pss_cons (ps_if (pt_cmpR (op_neD hu64) (pe_lc (own := [("_law_one", 6)]) rfl sc_law.nd (pi_list (pv 8)) (blkOk_by (N := N_law) (sc := defScope S_law) (by decide +kernel)) (fun _ _ _ _ _ => (pg_name (i := 6) sc_law.nd rfl (by first | exact Or.inl rfl | exact Or.inr rfl))) (fun _ _ _ _ _ => pts_nil) (fun _ _ _ _ _ => (pe_call (ok_law_kinds T) (hr.mono (by decide)) rfl T.m_law_kinds T.F_law_kinds.kp (bd_law_kinds T) .nil pass0 (pa_cons (pv 6) pa_nil)))) (pe_lc (own := [("_law_at", 5)]) rfl sc_law.nd (pi_range1 rfl T.z_range (pa_cons pe_int pa_nil)) (blkOk_by (N := N_law) (sc := defScope S_law) (by decide +kernel)) (fun _ _ _ _ _ => (pg_name (i := 5) sc_law.nd rfl (by first | exact Or.inl rfl | exact Or.inr rfl))) (fun _ _ _ _ _ => pts_nil) (fun _ _ _ _ _ => (pe_lc (own := [("_law_place", 7)]) rfl sc_law.nd (pi_range1 rfl T.z_range (pa_cons pe_int pa_nil)) (blkOk_by (by kernel_rfl)) (fun _ _ _ _ _ => (pg_name (i := 7) sc_law.nd rfl (by first | exact Or.inl rfl | exact Or.inr rfl))) (fun _ _ _ _ _ => pts_nil) (fun _ _ _ _ _ => (pe_cmpR op_eq (pv 7) (pe_op op_add pe_int (pv 5)) (nomark _)))))) (nomark _)) (pss_one (ps_ret pe_bl)) pss_nil) (pss_cons (ps_set (i := 9) sc_law.nd rfl (by first | exact Or.inl rfl | exact Or.inr rfl) (pe_lst (pa_cons (pe_lst (pa_cons pe_bl (pa_cons pe_bl (pa_cons pe_bl (pa_cons pe_bl (pa_cons pe_bl (pa_cons pe_bl pa_nil))))))) (pa_cons (pe_lst (pa_cons pe_bl (pa_cons pe_bl (pa_cons pe_bl (pa_cons pe_bl (pa_cons pe_bl (pa_cons pe_bl pa_nil))))))) pa_nil)))) (pss_cons (ps_set (i := 9) sc_law.nd rfl (by first | exact Or.inl rfl | exact Or.inr rfl) (pe_op op_cat (pv 9) (pe_lst (pa_cons (pe_lst (pa_cons pe_bl (pa_cons pe_bl (pa_cons pe_bl (pa_cons pe_bl (pa_cons pe_bl (pa_cons pe_bl pa_nil))))))) (pa_cons (pe_lst (pa_cons pe_bl (pa_cons pe_bl (pa_cons pe_bl (pa_cons pe_bl (pa_cons pe_bl (pa_cons pe_bl pa_nil))))))) pa_nil))))) (pss_cons (ps_if (pt_cmpR (op_neD hu64) (pe_lc (own := [("_law_one", 6)]) rfl sc_law.nd (pi_list (pv 8)) (blkOk_by (N := N_law) (sc := defScope S_law) (by decide +kernel)) (fun _ _ _ _ _ => (pg_name (i := 6) sc_law.nd rfl (by first | exact Or.inl rfl | exact Or.inr rfl))) (fun _ _ _ _ _ => pts_nil) (fun _ _ _ _ _ => (pe_call (ok_law_bases T) (hr.mono (by decide)) rfl T.m_law_bases T.F_law_bases.kp (bd_law_bases T) .nil pass0 (pa_cons (pv 6) pa_nil)))) (pv 9) (nomark _)) (pss_one (ps_ret pe_bl)) pss_nil) (pss_cons (ps_set (i := 10) sc_law.nd rfl (by first | exact Or.inl rfl | exact Or.inr rfl) (pe_lst (pa_cons (pe_xfld (pe_ix ix_list (pv 8) pe_int (fun _ _ => rfl))) (pa_cons (pe_xfld (pe_ix ix_list (pv 8) pe_int (fun _ _ => rfl))) (pa_cons (pe_xfld (pe_ix ix_list (pv 8) pe_int (fun _ _ => rfl))) (pa_cons (pe_xfld (pe_ix ix_list (pv 8) pe_int (fun _ _ => rfl))) pa_nil)))))) (pss_one (ps_if (pt_cmpR (op_neD hu64) (pe_lc (own := [("_law_one", 6)]) rfl sc_law.nd (pi_list (pv 10)) (blkOk_by (N := N_law) (sc := defScope S_law) (by decide +kernel)) (fun _ _ _ _ _ => (pg_name (i := 6) sc_law.nd rfl (by first | exact Or.inl rfl | exact Or.inr rfl))) (fun _ _ _ _ _ => pts_nil) (fun _ _ _ _ _ => (pe_callB (call_reprK (K0 := K) rfl gd hu64) (by rfl) T.z_repr (by decide +kernel) (pa_cons (pv 6) pa_nil)))) (pe_op op_rep (pe_lst (pa_cons (pe_callB (call_reprK (K0 := K) rfl gd hu64) (by rfl) T.z_repr (by decide +kernel) (pa_cons (pv 3) pa_nil)) pa_nil)) pe_int) (nomark _)) (pss_one (ps_ret pe_bl)) pss_nil))))))))))))) (pss_one (ps_ret pe_bl))), ?_⟩
    -- for k in range(max(1, min(20, len(script))))
    refine ⟨_, rfl, _, _, rfl, .inl ⟨_, hS, rfl⟩, _, _, rfl, _, _, rfl, _, rfl, ?b1, ?b2, for_range (fun i σ H' => ∃ o1 o2 o3 o4 o5 o6 o7 o8 o9 o10, σ = [some (.ref a), o1, o2, o3, o4, o5, o6, o7, o8, o9, o10] ∧ Same H H') ⟨_, _, _, _, _, _, _, _, _, _, rfl, same_refl H⟩ ?turn ?done⟩
    case b1 => split <;> omega
    case b2 => rw [List.length_map]; split <;> (try split) <;> omega
    case done =>
      rintro σ H' ⟨o1, o2, o3, o4, o5, o6, o7, o8, o9, o10, rfl, _⟩
      exact q H'
    case turn =>
      rintro i σ H0 hi ⟨o1, o2, o3, o4, o5, o6, o7, o8, o9, o10, rfl, s0⟩
      have hi1 : (i : Int) ≤ 1000 := by
        have := hi
        rw [List.length_map] at this
        revert this
        split <;> (try split) <;> omega
      -- draws
      refine ⟨_, rfl, _, rfl, a, ns, _, rfl, s0.seq hS, hl, by omega, by omega, fun pd H1 s1 nd dr => ?_⟩
      have g1 : Gw H0 H0 H0 H1 := ⟨same_refl _, s1, s1, fun _ e _ => e⟩
      -- the menu
      refine ⟨by show 2 ≤ sizeLine; decide, fun t1 n1 => ⟨by show 1 ≤ sizeLine; decide, fun t2 n2 => fun t3 n3 => ⟨upd_same, [(Sum.inr "a", .int 1)], rfl, by decide, ?_⟩⟩⟩
      rw [upd_upd]
      refine ⟨_, _, rfl, rfl, ⟨by decide, by decide, by decide⟩, by show 0 ≤ sizeLine; decide, fun t4 n4 => ⟨by show 2 ≤ sizeLine; decide, fun t5 n5 => ⟨by show 9 ≤ sizeLine; decide, fun L nL => ?_⟩⟩⟩
      obtain ⟨F6, a6, k1, k2, k3, k4, k5, kL⟩ : ∃ F6, Gw H0 H1 F6 (upd (upd (upd (upd (upd (upd H1 t1 (.tup [.str "a", .int 1])) t2 (.lst [.int 1])) t3 (.dK (mergeK [] [(Sum.inr "a", .int 1)]))) t4 (.lst [])) t5 (.tup [.non, .ref t4])) L (.lst (items t1 t2 t3 t5))) ∧
          F6 t1 = some (.tup [.str "a", .int 1]) ∧ F6 t2 = some (.lst [.int 1]) ∧ F6 t3 = some (.dK [(Sum.inr "a", .int 1)]) ∧ F6 t4 = some (.lst []) ∧ F6 t5 = some (.tup [.non, .ref t4]) ∧ F6 L = some (.lst (items t1 t2 t3 t5)) := by
        have b1 := Gw.add (o := .tup [.str "a", .int 1]) s1 n1
        have b2 := Gw.add (o := .lst [.int 1]) b1.fh n2
        have b3 := Gw.add (o := .dK (mergeK [] [(Sum.inr "a", .int 1)])) b2.fh n3
        have b4 := Gw.add (o := .lst []) b3.fh n4
        have b5 := Gw.add (o := .tup [.non, .ref t4]) b4.fh n5
        have b6 := Gw.add (o := .lst (items t1 t2 t3 t5)) b5.fh nL
        exact ⟨_, b1.trans (b2.trans (b3.trans (b4.trans (b5.trans b6)))), b6.ff _ _ (b5.ff _ _ (b4.ff _ _ (b3.ff _ _ (b2.ff _ _ upd_same)))), b6.ff _ _ (b5.ff _ _ (b4.ff _ _ (b3.ff _ _ upd_same))), b6.ff _ _ (b5.ff _ _ (b4.ff _ _ upd_same)), b6.ff _ _ (b5.ff _ _ upd_same), b6.ff _ _ upd_same, upd_same⟩
      have dr6 := dr.same a6.hh
      obtain ⟨c1, z1, hd1, _⟩ := id dr
      have f6 := a6.off nd hd1
      refine ⟨_, rfl, pd, 9, rfl, dr6, by decide, by decide, fun r c z r0 r1 z0 z1 => ?_⟩
      obtain ⟨v, d, hat, hw⟩ := menu (K := K) k1 k2 k3 k4 k5 r0 r1
      have g7 := (g1.trans a6).mut (o := .lst [.int c, .int z]) nd f6
      refine ⟨L, items t1 t2 t3 t5, r, v, rfl, rfl, SqL.of (g7.fh _ _ kL), hat, ?_⟩
      -- twelve exceptions
      refine ⟨_, rfl, F6, v, rfl, g7.fh, fun p F8 H8 es g8 hp8 pr8 => ?_⟩
      have g := g7.trans g8
      have hw8 := hw.same g8.ff
      have len : (es.map V.ref).length = 12 := by rw [List.length_map, pr8.length]; rfl
      refine ⟨_, rfl, p, es.map V.ref, rfl, SqL.of (g8.fh _ _ hp8), for_it walk_enum (fun j σ H' => ∃ o5 o6 o7 o8 o9 o10, σ = [some (.ref a), some (.int (0 + (i : Int))), some (.ref pd), some v, some (.ref p), o5, o6, o7, o8, o9, o10] ∧ Same F8 H') ⟨_, _, _, _, _, _, rfl, g8.fh⟩ (fun _ _ _ _ ⟨_, _, _, _, _, _, _, s⟩ => SqL.of (s _ _ hp8)) ?one ?rest⟩
      case one =>
        rintro j x σ H9 H9' hj ⟨o5, o6, o7, o8, o9, o10, rfl, s9⟩ ⟨T9, x1, y1, rfl, nT, rfl, e1, e2⟩
        have hj : j < 12 := by rw [len] at hj; exact hj
        cases (Option.some.inj e1)
        obtain ⟨e, he, rfl⟩ : ∃ e, es[j]? = some e ∧ V.ref e = y1 := by
          have e2 : (es.map V.ref)[j]? = some y1 := e2
          rw [List.getElem?_map] at e2
          cases h : es[j]? with
          | none => rw [h] at e2; cases e2
          | some e => rw [h] at e2; exact ⟨e, rfl, Option.some.inj e2⟩
        obtain ⟨C, hC, xa⟩ := paired_at pr8 he
        have eC : C = cl K j := by
          rw [List.getElem?_map, List.getElem?_range hj] at hC
          exact (Option.some.inj hC).symm
        subst eC
        have hf : fl j = "value" := by unfold fl; rw [if_pos (by omega)]
        have na := noat T j (by omega)
        rw [hf] at na
        have s10 : Same F8 (upd H9 T9 (.tup [.int (j : Nat), .ref e])) := same_mut s9 (same_off s9 nT)
        refine ⟨T9, _, rfl, SqT.of upd_same, rfl, _, _, rfl, _, _, rfl, rfl, ?_⟩
        -- repr(one.value) != repr(thing)
        obtain ⟨dx, hx1, hx2⟩ := xa.same s10
        have hwc := hw8.same s10
        refine ⟨_, rfl, e, cl K j, dx, _, v, rfl, xce T j (by omega), na, hx1, hx2, look1 _ _, v, d, rfl, hwc.sh, hwc.w, hwc.dp, hwc.ln, _, rfl, v, d, rfl, hwc.sh, hwc.w, hwc.dp, hwc.ln, rfl, false, by simp, iteF ?_⟩
        -- kinds(one) != [..]
        refine ⟨_, rfl, F8, e, j, "value", v, rfl, s10, by omega, xa, fun p1 F1 H1' g1' hp1 => ?_⟩
        refine ⟨16, rfl, by decide, by decide, fun D hD => lc_gw walk_range (fun _ => true) (fun i y _ => y = V.bl (decide (V.int (0 + (i : Int)) = V.int (j : Int)))) (fun _ _ _ _ _ h => h) g1'.fh hD (by decide) (fun _ _ => trivial) ?lcs ?lcd⟩
        case lcs =>
          rintro i9 x9 F H' H'' Qn Qs hi9 gw ⟨rfl, rfl⟩ kn ks
          exact ⟨rfl, yes_then ⟨_, rfl, _, rfl, rfl, kn rfl _ F _ (Gw.refl gw.fh) rfl⟩⟩
        case lcd =>
          intro ys F H' gw fD hH' pr
          have ey := paired_eq pr
          rw [filter_true, show (16 : Int).toNat = 16 from rfl, kind_eq j] at ey
          subst ey
          have hp1' := gw.fh _ _ (gw.ff _ _ hp1)
          refine ⟨_, _, bD_dp hp1', bD_dp hH', bD_shaped _, bD_shaped _, ne_false (bD_lay _) ?_⟩
          -- bases(one) != [..]
          have s11 : Same F8 H' := same_trans g1'.ff (same_trans gw.ff gw.fh)
          refine ⟨_, rfl, F8, e, j, "value", v, rfl, s11, by omega, xa, fun p2 F2 H2 g2 hp2 => ⟨by show 6 ≤ sizeLine; decide, fun p3 n3' => ?_⟩⟩
          have g3 := g2.trans (Gw.add (o := .lst [.bl true, .bl true, .bl false, .bl false, .bl false, .bl false]) g2.fh n3')
          have eb : baseRow j = [true, true, false, false, false, false] := base_lo hj
          rw [eb] at hp2
          refine ⟨_, bD [true, true, false, false, false, false], bD_dp (g3.fh _ _ (same_new (same_off g2.fh n3') _ _ hp2)), bD_dp upd_same, bD_shaped _, bD_shaped _, ne_false (bD_lay _) ?_⟩
          exact ⟨_, _, _, _, _, _, rfl, same_trans g3.ff g3.fh⟩
      case rest =>
        rintro σ H9 ⟨o5, o6, o7, o8, o9, o10, rfl, s9⟩
        -- more = [NoJob(thing), NoMove(thing), NotEnough(thing), TooMany(thing)]
        refine mk4 (C1 := cl K 12) (C2 := cl K 13) (C3 := cl K 14) (C4 := cl K 15) (f1 := "value") (f2 := "value") (f3 := "name") (f4 := "number") (v := v) (i := 3) rfl s9 fun e1 e2 e3 e4 L2' F2 H2 g2 hL x1 x2 x3 x4 => ?_
        have all : ∀ (i : Nat) (x : V), ([.ref e1, .ref e2, .ref e3, .ref e4] : List V)[i]? = some x → ∃ e f, x = .ref e ∧ XAt F2 e (cl K (12 + i)) f v ∧ 12 + i < 16 := by
          intro i x h
          match i, h with
          | 0, h => cases h; exact ⟨e1, _, rfl, x1, by omega⟩
          | 1, h => cases h; exact ⟨e2, _, rfl, x2, by omega⟩
          | 2, h => cases h; exact ⟨e3, _, rfl, x3, by omega⟩
          | 3, h => cases h; exact ⟨e4, _, rfl, x4, by omega⟩
          | _ + 4, h => cases h
        have hw2 := hw8.same g2.ff
        have gA := Gw.refl g2.fh
        -- [kinds(one) for one in more]
        refine ⟨_, rfl, L2', rfl, ⟨_, SqL.of (g2.fh _ _ hL)⟩, fun D1 hD1 => lc_gw (walk_list (xs := [.ref e1, .ref e2, .ref e3, .ref e4])) (fun _ => true) (Row fun i => kindRow (12 + i)) Row.same g2.fh hD1 (by show 4 < 100000; decide) (fun H' s' => SqL.of (s' _ _ (g2.fh _ _ hL))) ?c1s ?c1d⟩
        case c1s =>
          rintro i9 x9 F H' H'' Qn Qs hi9 gw ⟨rfl, hx⟩ kn ks
          obtain ⟨e, f, rfl, xa, hb⟩ := all i9 x9 hx
          exact ⟨rfl, yes_then ⟨_, rfl, F, e, 12 + i9, f, v, rfl, gw.fh, hb, xa.same gw.ff, fun p F' H4 g4 hp => kn rfl _ F' H4 g4 ⟨p, rfl, hp⟩⟩⟩
        case c1d =>
          intro ys1 F3 H3 gw1 fD1 hH3 pr1
          rw [filter_true] at pr1
          have gB := gw1.freeze hD1 fD1 hH3
          have pr1' : Paired (fun i y => Row (fun i => kindRow (12 + i)) i y (upd F3 D1 (.lst ys1))) (List.range 4) ys1 := paired_imp (fun i y r => r.same _ _ _ _ (same_new fD1)) pr1
          -- [[place == 12 + at ..] for at in range(4)]
          refine ⟨4, rfl, by decide, by decide, fun D2 hD2 => lc_gw walk_range (fun _ => true) (Row fun i => kindRow (12 + i)) Row.same gB.fh hD2 (by decide) (fun _ _ => trivial) ?c2s ?c2d⟩
          case c2s =>
            rintro i9 x9 F H' H'' Qn Qs hi9 gw ⟨rfl, rfl⟩ kn ks
            refine ⟨rfl, yes_then ⟨16, rfl, by decide, by decide, fun D3 hD3 => lc_gw walk_range (fun _ => true) (fun i y _ => y = V.bl (decide (V.int (0 + (i : Int)) = V.int (12 + (0 + (i9 : Int)))))) (fun _ _ _ _ _ h => h) gw.fh hD3 (by decide) (fun _ _ => trivial) ?c3s ?c3d⟩⟩
            case c3s =>
              rintro i8 x8 F8' H8' H8'' Qn' Qs' hi8 gw8 ⟨rfl, rfl⟩ kn' ks'
              exact ⟨rfl, yes_then ⟨_, rfl, _, rfl, _, _, rfl, rfl, rfl, kn' rfl _ F8' _ (Gw.refl gw8.fh) rfl⟩⟩
            case c3d =>
              intro ys3 F4 H4 gw4 fD3 hH4 pr4
              have ey := paired_eq pr4
              rw [filter_true, show (16 : Int).toNat = 16 from rfl, kind_eq12 i9] at ey
              subst ey
              exact kn rfl _ _ _ (gw4.freeze hD3 fD3 hH4) ⟨D3, rfl, upd_same⟩
          case c2d =>
            intro ys2 F4 H4 gw4 fD2 hH4 pr4
            rw [filter_true, show (4 : Int).toNat = 4 from rfl] at pr4
            have hD1' : H4 D1 = some (.lst ys1) := gw4.hh _ _ hH3
            refine ⟨rD _, rD _, rD_dp gw4.fh hD1' (paired_imp (fun i y r => r.same _ _ _ _ gw4.ff) pr1'), rD_dp gw4.fh hH4 pr4, rD_shaped _, rD_shaped _, ne_false (rD_lay _) ?_⟩
            have gC : Gw F2 H2 F4 H4 := gB.trans gw4
            -- due
            refine ⟨by show 6 ≤ sizeLine; decide, fun q1 m1 => ⟨by show 6 ≤ sizeLine; decide, fun q2 m2 => ⟨by show 2 ≤ sizeLine; decide, fun q3 m3 => ?_⟩⟩⟩
            refine ⟨_, rfl, by show 6 ≤ sizeLine; decide, fun q4 m4 => ⟨by show 6 ≤ sizeLine; decide, fun q5 m5 => ⟨by show 2 ≤ sizeLine; decide, fun q6 m6 => ?_⟩⟩⟩
            have d1 := Gw.add (o := .lst ((baseRow 12).map V.bl)) gC.fh m1
            have d2 := Gw.add (o := .lst ((baseRow 13).map V.bl)) d1.fh m2
            have d3 := Gw.add (o := .lst [.ref q1, .ref q2]) d2.fh m3
            have d4 := Gw.add (o := .lst ((baseRow 14).map V.bl)) d3.fh m4
            have d5 := Gw.add (o := .lst ((baseRow 15).map V.bl)) d4.fh m5
            have d6 := Gw.add (o := .lst [.ref q4, .ref q5]) d5.fh m6
            refine ⟨q3, q6, [.ref q1, .ref q2], [.ref q4, .ref q5], rfl, rfl, d6.hh _ _ (d5.hh _ _ (d4.hh _ _ upd_same)), upd_same, by show 4 ≤ sizeLine; decide, fun q7 m7 => ?_⟩
            have d7 := Gw.add (o := .lst ([.ref q1, .ref q2] ++ [.ref q4, .ref q5])) d6.fh m7
            obtain ⟨F5, H5, gD, r1, r2, r4, r5, h7, eH⟩ : ∃ F5 H5, Gw F2 H2 F5 H5 ∧ F5 q1 = some (.lst ((baseRow 12).map V.bl)) ∧ F5 q2 = some (.lst ((baseRow 13).map V.bl)) ∧ F5 q4 = some (.lst ((baseRow 14).map V.bl)) ∧ F5 q5 = some (.lst ((baseRow 15).map V.bl)) ∧ F5 q7 = some (.lst ([.ref q1, .ref q2] ++ [.ref q4, .ref q5])) ∧ H5 = upd (upd (upd (upd (upd (upd (upd H4 q1 (.lst ((baseRow 12).map V.bl))) q2 (.lst ((baseRow 13).map V.bl))) q3 (.lst [.ref q1, .ref q2])) q4 (.lst ((baseRow 14).map V.bl))) q5 (.lst ((baseRow 15).map V.bl))) q6 (.lst [.ref q4, .ref q5])) q7 (.lst ([.ref q1, .ref q2] ++ [.ref q4, .ref q5])) :=
              ⟨_, _, gC.trans (d1.trans (d2.trans (d3.trans (d4.trans (d5.trans (d6.trans d7)))))), d7.ff _ _ (d6.ff _ _ (d5.ff _ _ (d4.ff _ _ (d3.ff _ _ (d2.ff _ _ upd_same))))), d7.ff _ _ (d6.ff _ _ (d5.ff _ _ (d4.ff _ _ (d3.ff _ _ upd_same)))), d7.ff _ _ (d6.ff _ _ (d5.ff _ _ upd_same)), d7.ff _ _ (d6.ff _ _ upd_same), upd_same, rfl⟩
            have eG : upd (upd (upd (upd (upd (upd (upd H4 q1 (.lst [.bl false, .bl false, .bl true, .bl true, .bl false, .bl false])) q2 (.lst [.bl false, .bl false, .bl false, .bl true, .bl false, .bl false])) q3 (.lst [.ref q1, .ref q2])) q4 (.lst [.bl false, .bl false, .bl false, .bl false, .bl true, .bl false])) q5 (.lst [.bl false, .bl false, .bl false, .bl false, .bl false, .bl true])) q6 (.lst [.ref q4, .ref q5])) q7 (.lst ([.ref q1, .ref q2] ++ [.ref q4, .ref q5])) = H5 := eH.symm
            rw [eG]
            -- [bases(one) for one in more] != due
            refine ⟨_, rfl, L2', rfl, ⟨_, SqL.of (gD.fh _ _ (gD.ff _ _ hL))⟩, fun D4 hD4 => lc_gw (walk_list (xs := [.ref e1, .ref e2, .ref e3, .ref e4])) (fun _ => true) (Row fun i => baseRow (12 + i)) Row.same gD.fh hD4 (by show 4 < 100000; decide) (fun H' s' => SqL.of (s' _ _ (gD.fh _ _ (gD.ff _ _ hL)))) ?c4s ?c4d⟩
            case c4s =>
              rintro i9 x9 F H' H'' Qn Qs hi9 gw ⟨rfl, hx⟩ kn ks
              obtain ⟨e, f, rfl, xa, hb⟩ := all i9 x9 hx
              exact ⟨rfl, yes_then ⟨_, rfl, F, e, 12 + i9, f, v, rfl, gw.fh, hb, xa.same (same_trans gD.ff gw.ff), fun p F' H4 g4 hp => kn rfl _ F' H4 g4 ⟨p, rfl, hp⟩⟩⟩
            case c4d =>
              intro ys4 F6' H6 gw6 fD4 hH6 pr6
              rw [filter_true] at pr6
              have gE := gD.trans gw6
              have pr7 : Paired (fun i y => Row (fun i => baseRow (12 + i)) i y F6') (List.range 4) ([.ref q1, .ref q2] ++ [.ref q4, .ref q5]) :=
                .cons ⟨q1, rfl, gw6.ff _ _ r1⟩ (.cons ⟨q2, rfl, gw6.ff _ _ r2⟩ (.cons ⟨q4, rfl, gw6.ff _ _ r4⟩ (.cons ⟨q5, rfl, gw6.ff _ _ r5⟩ .nil)))
              refine ⟨_, rfl, rD _, rD _, rD_dp gw6.fh hH6 pr6, rD_dp gw6.fh (gw6.fh _ _ (gw6.ff _ _ h7)) pr7, rD_shaped _, rD_shaped _, ne_false (rD_lay _) ?_⟩
              -- held
              have hL6 := SqL.of (K := K) (gE.fh _ _ (gE.ff _ _ hL))
              obtain ⟨y1, a1, b1⟩ := x1.same (same_trans gE.ff gE.fh)
              obtain ⟨y2, a2, b2⟩ := x2.same (same_trans gE.ff gE.fh)
              obtain ⟨y3, a3, b3⟩ := x3.same (same_trans gE.ff gE.fh)
              obtain ⟨y4, a4, b4⟩ := x4.same (same_trans gE.ff gE.fh)
              refine ⟨_, rfl, L2', _, _, _, rfl, rfl, hL6, rfl, e1, cl K 12, y1, _, v, rfl, xce T 12 (by decide), noat T 12 (by decide), a1, b1, look1 _ _, ?_⟩
              refine ⟨_, rfl, L2', _, _, _, rfl, rfl, hL6, rfl, e2, cl K 13, y2, _, v, rfl, xce T 13 (by decide), noat T 13 (by decide), a2, b2, look1 _ _, ?_⟩
              refine ⟨_, rfl, L2', _, _, _, rfl, rfl, hL6, rfl, e3, cl K 14, y3, _, v, rfl, xce T 14 (by decide), noat T 14 (by decide), a3, b3, look1 _ _, ?_⟩
              refine ⟨_, rfl, L2', _, _, _, rfl, rfl, hL6, rfl, e4, cl K 15, y4, _, v, rfl, xce T 15 (by decide), noat T 15 (by decide), a4, b4, look1 _ _, by show 4 ≤ sizeLine; decide, fun q8 m8 => ?_⟩
              have d8 := Gw.add (o := .lst [v, v, v, v]) gE.fh m8
              have gF := gE.trans d8
              have hw9 := hw2.same gF.ff
              -- [repr(one) for one in held] != [repr(thing)] * 4
              refine ⟨_, rfl, q8, rfl, ⟨_, SqL.of upd_same⟩, fun D5 hD5 => lc_gw (walk_list (xs := [v, v, v, v])) (fun _ => true) (fun i y _ => y = V.str d.shown) (fun _ _ _ _ _ h => h) gF.fh hD5 (by show 4 < 100000; decide) (fun H' s' => SqL.of (s' _ _ upd_same)) ?c5s ?c5d⟩
              case c5s =>
                rintro i9 x9 F H' H'' Qn Qs hi9 gw ⟨rfl, hx⟩ kn ks
                have ex : x9 = v := by
                  match i9, hx with
                  | 0, h => exact (Option.some.inj h).symm
                  | 1, h => exact (Option.some.inj h).symm
                  | 2, h => exact (Option.some.inj h).symm
                  | 3, h => exact (Option.some.inj h).symm
                  | _ + 4, h => cases h
                subst ex
                have hwx := hw9.same (same_trans gw.ff gw.fh)
                exact ⟨rfl, yes_then ⟨_, rfl, _, d, rfl, hwx.sh, hwx.w, hwx.dp, hwx.ln, kn rfl _ F _ (Gw.refl gw.fh) rfl⟩⟩
              case c5d =>
                intro ys5 F7 H7 gw7 fD5 hH7 pr8'
                have ey := paired_eq pr8'
                rw [filter_true] at ey
                subst ey
                have hwx := hw9.same (same_trans gw7.ff gw7.fh)
                refine ⟨_, rfl, v, d, rfl, hwx.sh, hwx.w, hwx.dp, hwx.ln, by show 1 ≤ sizeLine; decide, fun q9 m9 => ⟨q9, 4, _, rfl, rfl, upd_same, by decide, by decide, by show 1 * 4 ≤ sizeLine; decide, fun q10 m10 => ?_⟩⟩
                have hl1 : (upd (upd H7 q9 (.lst [.str d.shown])) q10 (.lst (List.replicate (4 : Int).toNat [V.str d.shown]).flatten)) D5 = some (.lst ([d.shown, d.shown, d.shown, d.shown].map V.str)) := by
                  rw [upd_ne (ne_of_none (same_new m9 _ _ hH7) m10), upd_ne (ne_of_none hH7 m9)]
                  exact hH7
                have lyS : ∀ (zs : List Str), (∀ z ∈ zs, z = d.shown) → (PyData.list (zs.map PyData.str)).canLay0 = true := fun zs hz => lay_map (l := zs) fun z hz' => by rw [hz z hz']; exact hw.ly
                have ly4 := lyS [d.shown, d.shown, d.shown, d.shown] (by intro z hz; simp at hz; exact hz)
                have sh4 : SeqAt.shaped (.list ([d.shown, d.shown, d.shown, d.shown].map PyData.str)) = true := shaped_of ly4 (by show max 0 (max 0 (max 0 (max 0 0))) + 1 ≤ 64; decide)
                refine ⟨.list ([d.shown, d.shown, d.shown, d.shown].map PyData.str), .list ([d.shown, d.shown, d.shown, d.shown].map PyData.str), .lst (SqL.of hl1) (dpAll_map fun z _ => .str z), .lst (SqL.of (xs := [d.shown, d.shown, d.shown, d.shown].map V.str) upd_same) (dpAll_map fun z _ => .str z), sh4, sh4, ne_false ly4 ?_⟩
                refine ⟨_, _, _, _, _, _, _, _, _, _, rfl, ?_⟩
                have gG := gF.trans gw7
                exact same_trans s0 (same_mut (same_mut (same_trans g.ff (same_trans g2.ff (same_trans gG.ff gG.fh))) (same_off (same_trans g.ff (same_trans g2.ff (same_trans gG.ff gG.fh))) m9)) (same_off (same_mut (same_trans g.ff (same_trans g2.ff (same_trans gG.ff gG.fh))) (same_off (same_trans g.ff (same_trans g2.ff (same_trans gG.ff gG.fh))) m9)) m10))
end
end Lp

set_option Elab.async false
set_option linter.all false
set_option maxRecDepth 100000
namespace Lp
open PySem PySem.Spec PyProof.Rows L2
abbrev R : PySem.W.OpenRow := PySem.W.OpenLaw.row PySem.Challenge.rw_leastpools_k03_errors_and_fields
abbrev hk : PySem.W.Hook := hookL 4 exB fnL
def ob (s : PySem.W.SharedT) : He.AlD := obsLG 4 exB fnL (HandSHeadRun.getT s)
theorem ob_eq (s : PySem.W.SharedT) : ob s = hk.obs s.abs := obsLG_eq (HandSHeadRun.getT_eq s)
def names : List PySem.Str := (["__name__", "PoolError", "InvalidSizes", "InvalidProgram", "InvalidText", "InvalidState", "InvalidPosition", "InvalidPaper", "InvalidRanks", "InvalidLimits", "InvalidEdit", "InvalidLog", "InvalidFault", "InvalidCommand", "NoJob", "NoMove", "NotEnough", "TooMany", "_law_draws", "_law_draw", "_law_plain_ones", "_law_kinds", "_law_bases"] : List PySem.Str)
set_option maxHeartbeats 0 in
theorem run (w : World) : HandSHeadRun.RunEq R (PySem.W.view R.prog [24]) hk ob 6000 names w := by
  intro os
  kernel_rfl
end Lp
open PySem PySem.W PySem.Calls PyProof.Rows
set_option maxHeartbeats 0 in
theorem PySem.Challenge.cw_leastpools_k03_errors_and_fields_holds : PySem.Challenge.rw_leastpools_k03_errors_and_fields.Holds := by
  w_on; o_law
  refine HandSHeadRun.head_any (r := OpenLaw.row PySem.Challenge.rw_leastpools_k03_errors_and_fields) (q := view (OpenLaw.row PySem.Challenge.rw_leastpools_k03_errors_and_fields).prog [24]) (H := Lp.hk) (ob := Lp.ob) (M := 6000) (loose := Lp.names) (d := HandSHeadRun.topDef (OpenLaw.row PySem.Challenge.rw_leastpools_k03_errors_and_fields).prog 24) (kwd := []) Lp.ob_eq
    (by kernel_rfl) (fun s => by kernel_rfl) Lp.run (by kernel_rfl) (by kernel_rfl) (by kernel_rfl) (by rfl) (by first | assumption | decide +kernel) (by decide +kernel) ⟨rfl, rfl, rfl, rfl, rfl, by decide +kernel⟩ ?hw ?hc
  case hw => w_witness2
  case hc =>
    refine Lp.walk_G (l := PySem.Challenge.rw_leastpools_k03_errors_and_fields) (n := 63) (k := 4) (x := "_law_script") (CX := L2.CX0) rfl (by decide) (by kernel_rfl) ⟨rfl, by decide, by decide⟩ ?F (fun _ _ _ _ z => z)
    intro w mg fa h Y G hmg0
    obtain ⟨K, KX, c⟩ := Y
    have T := Lp.tx_of KX G c
    have hmg : mg ("law" : PySem.Str) = some (.ref fa) := by
      have e : (HandSHeadRun.topDef (OpenLaw.row PySem.Challenge.rw_leastpools_k03_errors_and_fields).prog 24).name = ("law" : PySem.Str) := by kernel_rfl
      rw [← e]
      exact hmg0
    have e := hmg.symm.trans T.m_law
    cases e
    exact ⟨K, Lp.D_law K, Lp.spLaw K, KX, fun s v => L2.FunD.bindsA (ps := ["_law_script"]) T.F_law (fun _ _ _ _ _ _ us hl => match us, hl with | [_], _ => rfl) s [v] rfl, fun H a ns hl hS => ⟨a, ns, rfl, hS, hl, fun _ => rfl⟩, fun base _ _ => Lp.ok_law T⟩
#print axioms PySem.Challenge.cw_leastpools_k03_errors_and_fields_holds
