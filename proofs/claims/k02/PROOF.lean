import PyProof.Rows.All
import Wide.All
import OpenK.AllK
import Wide.FinOn
import KE.KExcIs
import HandS.ForMost
import HandS.ForExc
import HandS.ExcInit
import HandS.ExcField
import HandS.ExcIs
import HandS.Defaults
import HandS.HeadEnd
import PyProof.ReprRoads
import PyProof.RowDictHeap
import KE.KStateDown
import HandS.More
import HandS.WordsExc
import HandS.Head0
import HandS.Head1
import HandS.Head2
import HandS.HeadHook1
import HandS.HeadHook2
import HandS.Walk
import HandS.Deep
import HandS.Evl
import KE.KOpsOwn
import HandS.Star
import HandS.Property
import HandS.IsInst
import HandS.TryMany
import HandS.CallSlots
import HandS.DictComp
import HandS.FStr
import HandS.HotCalls
import PyProof.ReprDict
import PySem.Challenge.RW_leastpools_k02_sizes_that_are_none
import HandS.StrMore
import HandS.Codes
set_option Elab.async false
set_option linter.all false
set_option maxRecDepth 100000
set_option maxHeartbeats 4000000
/-! exceptions of the program's own classes, over any base among five, as values -/
namespace PySem.LpX
open PySem PySem.W PySem.Calls PyProof.Rows PySem.HandSPX
open Builtin Builtin.ObjectAttr
/-- what is known of a base's __init__ -/
structure InitF (B initId : String) : Prop where
  plain : plainId initId = true
  entry : entryFor table initId = some Builtin.«BaseException.__init__»
  split : splitId initId = some (B, "__init__")
  kind : builtinKind initId = some .slot
  row : Manifest.signature? initId = some ⟨.positional, "*", B, .self, [⟨"args", .varPos, false⟩]⟩
  noStar : (B != "*") = true
theorem InitF.of {B newId initId : String} {bm : List Value} (F : ExcBaseFacts B newId initId bm) : InitF B initId := ⟨F.init.plain, F.initEntry, F.initSplit, F.initKind, F.initRow, F.noStar⟩
theorem init_key : InitF "KeyError" "KeyError.__init__" := ⟨excClass_KeyError.init.plain, excClass_KeyError.initEntry, excClass_KeyError.initSplit, excClass_KeyError.initKind, excClass_KeyError.initSig, excClass_KeyError.notStar⟩
theorem init_value : InitF "ValueError" "ValueError.__init__" := .of F.excBase_ValueError
theorem init_lookup : InitF "LookupError" "LookupError.__init__" := .of F.excBase_LookupError
theorem init_arith : InitF "ArithmeticError" "ArithmeticError.__init__" := .of F.excBase_ArithmeticError
theorem init_run : InitF "RuntimeError" "RuntimeError.__init__" := .of F.excBase_RuntimeError
abbrev tlV : List Value := [.type "ValueError", .type "Exception", .type "BaseException", .type "object"]
abbrev tlK : List Value := [.type "KeyError", .type "LookupError", .type "Exception", .type "BaseException", .type "object"]
abbrev tlL : List Value := [.type "LookupError", .type "Exception", .type "BaseException", .type "object"]
abbrev tlA : List Value := [.type "ArithmeticError", .type "Exception", .type "BaseException", .type "object"]
abbrev tlR : List Value := [.type "RuntimeError", .type "Exception", .type "BaseException", .type "object"]
def isTail (l : List Value) : Bool := l == tlV || (l == tlK || (l == tlL || (l == tlA || l == tlR)))
theorem isTail_or {l : List Value} (h : isTail l = true) : l = tlV ∨ l = tlK ∨ l = tlL ∨ l = tlA ∨ l = tlR := by
  unfold isTail at h
  simp only [Bool.or_eq_true, beq_iff_eq] at h
  exact h
/-- own classes, then one of the five tails -/
def tailOk : List Value → Bool
  | .ref _ :: r => tailOk r
  | l => isTail l
theorem tailOk_cases : ∀ l : List Value, tailOk l = true → (∃ c r, l = .ref c :: r ∧ tailOk r = true) ∨ isTail l = true
  | [], e => .inr e
  | .ref c :: r, e => .inl ⟨c, r, rfl, e⟩
  | .none :: _, e => .inr e
  | .ellipsis :: _, e => .inr e
  | .notImplemented :: _, e => .inr e
  | .bool _ :: _, e => .inr e
  | .int _ _ :: _, e => .inr e
  | .float _ _ :: _, e => .inr e
  | .str _ _ :: _, e => .inr e
  | .bytes _ _ :: _, e => .inr e
  | .type _ :: _, e => .inr e
  | .builtin _ :: _, e => .inr e
theorem pass_V (self : Value) : refuseLoop self "__setattr__" tlV = pure () := F.store_ValueError.passes self
theorem pass_K (self : Value) : refuseLoop self "__setattr__" tlK = pure () := by kernel_rfl
theorem pass_L (self : Value) : refuseLoop self "__setattr__" tlL = pure () := by kernel_rfl
theorem pass_A (self : Value) : refuseLoop self "__setattr__" tlA = pure () := by kernel_rfl
theorem pass_R (self : Value) : refuseLoop self "__setattr__" tlR = pure () := by kernel_rfl
theorem tail_pass (self : Value) : ∀ l : List Value, tailOk l = true → refuseLoop self "__setattr__" l = pure () := by
  intro l
  induction l with
  | nil => intro e; exact absurd e (by decide)
  | cons a r ih =>
    intro e
    rcases tailOk_cases (a :: r) e with ⟨c, r', q, h⟩ | q
    · obtain ⟨rfl, rfl⟩ := List.cons.inj q
      rw [refuseLoop_ref]; exact ih h
    · rcases isTail_or q with q | q | q | q | q <;> rw [q]
      · exact pass_V self
      · exact pass_K self
      · exact pass_L self
      · exact pass_A self
      · exact pass_R self
theorem tail_object : ∀ l : List Value, tailOk l = true → l.contains (.type "object") = true := by
  intro l
  induction l with
  | nil => intro e; exact absurd e (by decide)
  | cons a r ih =>
    intro e
    rcases tailOk_cases (a :: r) e with ⟨c, r', q, h⟩ | q
    · obtain ⟨rfl, rfl⟩ := List.cons.inj q
      rw [List.contains_cons, ih h, Bool.or_true]
    · rcases isTail_or q with q | q | q | q | q <;> rw [q] <;> decide +kernel
theorem tail_ne {l : List Value} (e : tailOk l = true) : l.isEmpty = false := by
  cases l with
  | nil => exact absurd e (by decide)
  | cons _ _ => rfl
/-- what bm must hold for __new__ of Bn -/
structure Bm (Bn : String) (bm : List Value) : Prop where
  hB : bm.contains (.type Bn) = true
  hA : bm.contains (.type "AttributeError") = false
  hN : bm.contains (.type "NameError") = false
section
variable {M : Model} {A : Around} {E : Value → Shared → Prop} {h : Heap} {g : Array GenState} {d : Drawn} {t : Nat} {os : OsState}
variable {nm q : Str} {C N : Addr} {bs bm bmB : List Value} {hdct : Bool} {sn : List Str} {sub : List Value} {ab : Bool} {col : Option Bool} {dd : Option Addr} {k0 k1 k2 k3 k5 : Option Value} {B newId initId : String}
theorem check_new_own (F : ExcBaseFacts B newId initId bmB) (hT : Bm B bm) {rest : List Value} {Q : Unit → Shared → Prop}
    (hC : h.get? C = some (excClassObj nm q C N bs bm hdct sn sub ab col dd k0 k1 k2 k3 k5 newId)) (hq : Q () ⟨h, g, d, t, os⟩) : wpAny M A (checkBuiltinCall newId ⟨.ref C :: rest, []⟩) Q E ⟨h, g, d, t, os⟩ := by
  have hcont : (Value.ref C :: bm).contains (.type B) = true := by rw [List.contains_cons, hT.hB, Bool.or_true]
  have hstar := F.noStar
  simp only [checkBuiltinCall, F.newKind, F.newSplit, F.newRow]
  repeat (first | refine wpAny_loadPart_at hC ?_ | (refine wpAny_isSubtype_exc hC ?_; rw [hcont]) | refine wpAny_staticBase_exc hC ?_ | refine wpAny_madeBy_exc hC ?_ | simp only [bne_self_eq_false, Bool.false_eq_true, if_false] | wp_step)
  exact hq
theorem check_init_own (F : InitF B initId) (hB : bm.contains (.type B) = true) {e : Addr} {oe : Obj} {rest : List Value} {Q : Unit → Shared → Prop}
    (hC : h.get? C = some (excClassObj nm q C N bs bm hdct sn sub ab col dd k0 k1 k2 k3 k5 newId)) (he : h.get? e = some oe) (hcls : oe.cls = .ref C) (hq : Q () ⟨h, g, d, t, os⟩) :
    wpAny M A (checkBuiltinCall initId ⟨.ref e :: rest, []⟩) Q E ⟨h, g, d, t, os⟩ := by
  have hcB : (Value.ref C :: bm).contains (.type B) = true := by rw [List.contains_cons, hB, Bool.or_true]
  have hshort := F.noStar
  simp only [checkBuiltinCall, F.kind, F.split, F.row]
  repeat (first | (with_reducible refine wpAny_loadPart_at he ?_; rw [hcls]) | with_reducible refine wpAny_loadPart_at hC ?_ | (with_reducible refine wpAny_isSubtype_exc hC ?_; rw [hcB]) | wp_step)
  refine wpAny_onRaise ?_
  rw [show ∀ (a b : String) (n : Nat), Bind.check ⟨.positional, "*", B, .self, [⟨"args", .varPos, false⟩]⟩ a b n (List.map (fun x => x.fst) ({ pos := Value.ref e :: rest } : Args).kw) = pure () from
    fun a b n => check_star_args _ _ _ _ _ _]
  exact wpAny_pure hq
end
section
variable {prog : Program} {w : World} {A : Around} {E : Value → Shared → Prop} {R : Result → Shared → Prop} {h : Heap} {g : Array GenState} {d : Drawn} {t : Nat} {os : OsState}
variable {nm q : Str} {C N : Addr} {bs bm bmB : List Value} {hdct : Bool} {sn : List Str} {sub : List Value} {ab : Bool} {col : Option Bool} {dd : Option Addr} {k0 k1 k2 k3 k5 : Option Value} {B newId initId : String}
theorem new_own (F : ExcBaseFacts B newId initId bmB) (hT : Bm B bm) {rest : List Value}
    (hC : h.get? C = some (excClassObj nm q C N bs bm hdct sn sub ab col dd k0 k1 k2 k3 k5 newId))
    (hq : R (.ok (.ret (.ref (h.objs.size + 1)))) ⟨(h.push { cls := .type "tuple", data := .seq rest.toArray }).push
      { cls := .ref C, data := .fields #[.ref h.objs.size, .none, .none, .none, .bool false, .none] }, g, d, t, os⟩) (hrest : rest.length ≤ sizeLine) :
    codeAny (model prog w) A (.builtin newId ⟨.ref C :: rest, []⟩) R ⟨h, g, d, t, os⟩ := by
  have hends := F.ends
  have hcB : (Value.ref C :: bm).contains (.type B) = true := by rw [List.contains_cons, hT.hB, Bool.or_true]
  have hcA : (Value.ref C :: bm).contains (.type "AttributeError") = false := by rw [List.contains_cons, hT.hA]; rfl
  have hcN : (Value.ref C :: bm).contains (.type "NameError") = false := by rw [List.contains_cons, hT.hN]; rfl
  refine codeAny_builtinAt F.entry ?_
  unfold Builtin.«BaseException.__new__»
  refine wpAt_bind ?_
  show wpAt _ _ _ (stack >>= _) _ _ _
  refine wpAt_bind (wpAt_stack fun p below => wpAt_of_wpAny ?_)
  wp_walk
  refine wpAt_of_wpAny ?_
  rw [F.owner]
  repeat (first | with_reducible refine wpAny_madeHere_exc F.canon hC ?_ | with_reducible refine wpAny_loadPart_at hC ?_ | (with_reducible refine wpAny_isSubtype_exc hC ?_; first | rw [hcB] | rw [hcA] | rw [hcN]) | wp_step)
  show R _ _
  rw [Heap.size_push]
  exact hq
theorem type_call_own (F : ExcBaseFacts B newId initId bmB) (hT : Bm B bm) {rest : List Value} {fI : Addr} {Q : Fin → Shared → Prop}
    (hC : h.get? C = some (excClassObj nm q C N bs bm hdct sn sub ab col dd k0 k1 k2 k3 k5 newId))
    (hi : W.Looks (model prog w) h (typeLookup (.ref C) "__init__") (some (.ref fI))) (hb : ∀ self, W.Looks (model prog w) h (bindSpecial (.ref fI) self) (.ref fI, [self])) (hrest : rest.length ≤ sizeLine)
    (hq : codeAny (model prog w) A (.call (.ref fI) ⟨.ref (h.objs.size + 1) :: rest, []⟩)
      (fun r s' => match r with | .ok (.ret v) => v = .none ∧ Q (.done (.ret (.ref (h.objs.size + 1)))) s' | .ok _ => False | .error e => E e s')
      ⟨(h.push (W.kdv_tup rest)).push (excO C h.objs.size), g, d, t, os⟩) :
    wpAny (model prog w) A (Builtin.«type.__call__» ⟨.ref C :: rest, []⟩) Q E ⟨h, g, d, t, os⟩ := by
  repeat (first | with_reducible refine wpAny_loadPart_at hC ?_ | with_reducible refine wpAny_madeBy_exc hC ?_ | wp_step)
  refine codeAny_call_builtin_code (Code.quiet_builtin _ F.quiet) (check_new_own F hT hC ?_)
  refine new_own F hT hC ?_ hrest
  show wpAny _ _ _ _ _ _
  have k : ∀ b o, h.get? b = some o → ((h.push (W.kdv_tup rest)).push (excO C h.objs.size)).get? b = some o := fun b o e => Heap.get?_push_of_some _ (Heap.get?_push_of_some _ e)
  have hC₁ := k _ _ hC
  have hget : ((h.push (W.kdv_tup rest)).push (excO C h.objs.size)).get? (h.objs.size + 1) = some (excO C h.objs.size) := by heap_get
  have hcC : (Value.ref C :: bm).contains (.ref C) = true := by simp
  have i1 := hi.keeps k
  have b1 := (hb (.ref (h.objs.size + 1))).keeps k
  unfold isInstance
  repeat (first | with_reducible refine wpAny_loadPart_at hget ?_ | (with_reducible refine wpAny_isSubtype_exc hC₁ ?_; rw [hcC]) | wp_step)
  show wpAny _ _ (typeLookup (.ref C) _) _ _ _
  refine i1.at ?_
  refine wpAny_holding (wpAny_bind (b1.at ?_))
  refine wpAny_bind (wpAny_call (codeAny_mono hq fun r s' z => ?_))
  rcases r with e | (v | _ | _ | _) <;> first | exact z | exact z.elim | skip
  obtain ⟨rfl, z⟩ := z
  first
    | exact wpAny_pure (wpAny_pure z)
    | (wp_walk; exact z)
theorem call_own (F : ExcBaseFacts B newId initId bmB) (hT : Bm B bm) {rest : List Value} {fI : Addr}
    (hC : h.get? C = some (excClassObj nm q C N bs bm hdct sn sub ab col dd k0 k1 k2 k3 k5 newId))
    (hi : W.Looks (model prog w) h (typeLookup (.ref C) "__init__") (some (.ref fI))) (hb : ∀ self, W.Looks (model prog w) h (bindSpecial (.ref fI) self) (.ref fI, [self])) (hrest : rest.length ≤ sizeLine)
    (hq : codeAny (model prog w) (A.under (.builtin "type.__call__" ⟨.ref C :: rest, []⟩)) (.call (.ref fI) ⟨.ref (h.objs.size + 1) :: rest, []⟩) (W.InitBack (h.objs.size + 1) R)
      ⟨(h.push (W.kdv_tup rest)).push (excO C h.objs.size), g, d, t, os⟩) :
    codeAny (model prog w) A (.call (.ref C) ⟨rest, []⟩) R ⟨h, g, d, t, os⟩ := by
  have f1 := tc_lookup
  have f2 := tc_bind (.ref C)
  have hTy : (⟨h, g, d, t, os⟩ : Shared).TypeIs (.ref C) "type" := ⟨_, hC, rfl⟩
  refine codeAny_of_tree ?_
  show wpAny _ _ (callAny (.ref C) _) _ _ _
  repeat (any_goals (first | assumption | with_reducible refine wpAny_loadPart_at hC ?_ | wp_step))
  refine ⟨rfl, ?_⟩
  refine codeAny_call_builtin_at (Code.quiet_builtin _ (by decide +kernel)) entry_typeCall (wpAny_check_type_call_sub hC (type_call_own F hT hC hi hb hrest ?_))
  refine codeAny_mono hq fun r s' z => ?_
  rcases r with e | (v | _ | _ | _) <;> exact z
theorem init_base (F : InitF B initId) (hB : bm.contains (.type B) = true) {e t0 : Addr} {rest : List Value}
    (hC : h.get? C = some (excClassObj nm q C N bs bm hdct sn sub ab col dd k0 k1 k2 k3 k5 newId)) (he : h.get? e = some (excO C t0)) (hrest : rest.length ≤ sizeLine)
    (hq : ∀ h' t1, (∀ b o, b ≠ e → h.get? b = some o → h'.get? b = some o) → h'.get? e = some (excO C t1) → R (.ok (.ret .none)) ⟨h', g, d, t, os⟩) :
    codeAny (model prog w) A (.call (.builtin initId) ⟨.ref e :: rest, []⟩) R ⟨h, g, d, t, os⟩ := by
  refine codeAny_call_builtin F.plain F.entry (check_init_own F hB hC he rfl ?_)
  wp_walk
  refine hq _ h.objs.size (fun b o hb ho => ?_) ?_
  · rw [Heap.get?_update_other _ _ (Ne.symm hb)]
    exact Heap.get?_push_of_some _ ho
  · rw [Heap.get?_update_self _ (Heap.get?_push_of_some _ he) rfl]
    rfl
end
section
variable {prog : Program} {w : World} {A : Around} {E : Value → Shared → Prop} {R : Result → Shared → Prop} {hp : Heap} {g : Array GenState} {d : Drawn} {t : Nat} {os : OsState}
theorem exc_osa {K : W.Frag} {name : Str} {tk : Tok} {v : Value} {x C : Addr} {fv : Array Value} {cd : ClassData}
    (X : K.In hp) (hx : hp.get? x = some { cls := .ref C, data := .fields fv }) (hcd : W.clsIn K C = some cd) (hm : tailOk cd.mro = true) (hh : cd.hasDict = true) (ha : W.findIn K (.ref C) name = some none)
    (hq : ∀ h' tk' dx, (∀ b o, b ≠ x → hp.get? b = some o → h'.get? b = some o) → hp.objs.size ≤ dx → dx ≠ x → h'.get? x = some { cls := .ref C, dict := some dx, data := .fields fv } →
      h'.Ns1 dx (fun y => if y = name then some v else none) → R (.ok (.ret .none)) ⟨h', g, d, tk', os⟩) :
    codeAny (model prog w) A (.call (.builtin "object.__setattr__") ⟨[.ref x, .str name tk, v], []⟩) R ⟨hp, g, d, t, os⟩ := by
  have I : W.InstAt hp x { cls := .ref C, data := .fields fv } C none := ⟨hx, rfl, rfl, trivial⟩
  have SF := F.store_object
  have ne := tail_ne hm
  have hob : cd.mro.contains (.type "object") = true := tail_object _ hm
  have hxs : x ≠ hp.objs.size := Nat.ne_of_lt (Heap.lt_size hx)
  have sub : W.Looks (model prog w) hp (isInstance (.ref x) (.type "object")) true := I.type.andThen (W.looks_mroIn X (by unfold W.mroIn; rw [hcd, Option.bind_some, if_neg (by rw [ne]; decide), hob]))
  refine codeAny_call_builtin SF.slot.plain SF.entry (@W.check_slot (model prog w) _ _ ⟨hp, g, d, t, os⟩ "object.__setattr__" "object" "__setattr__" (.ref x) [.str name tk, v] [] _ SF.kind SF.split sub (SF.args (.ref x) (.str name tk) v) ?_)
  have hmr : W.Looks (model prog w) hp (mroOf (.ref C)) cd.mro := (W.looks_clsIn X hcd).andThen .now
  have L3 : W.Looks (model prog w) hp (storeTaker? none) none := .now
  have hcls : W.Looks (model prog w) hp (classData C) cd := W.looks_clsIn X hcd
  rw [W.osa_eq, refuse_eq]
  refine wpAny_bind (wpAny_bind (I.type.at (wpAny_bind (hmr.at ?_))))
  rw [tail_pass _ _ hm]
  refine wpAny_pure (wpAny_bind (I.type.at (wpAny_bind ((W.looks_findIn X ha).at (wpAny_bind (L3.at ?_))))))
  show wpAny _ _ (storeInOwnDict (.ref x) (.ref C) (.str name tk) name v false) _ _ _
  obtain ⟨nm, bs, mro, ns, qn, hd, sn, sb, ab, col, del⟩ := cd
  dsimp only at hh
  subst hh
  unfold storeInOwnDict ownDictForStores
  repeat (first | with_reducible refine store_in_new ?_ ?_ | with_reducible refine wpAny_loadPart_at hx ?_ | with_reducible refine hcls.at ?_ | wp_step)
  · exact ⟨_, #[], _, (Heap.get?_update_ne _ _ _ _ hxs.symm).trans (Heap.get?_push_at rfl rfl), rfl, fun e he => absurd he (by simp), fun _ => rfl⟩
  · intro h' tk' hn' hs
    have hx₁ : (hp.push { cls := .type "dict", data := .dict #[] }).get? x = some { cls := .ref C, data := .fields fv } := Heap.get?_push_of_some _ hx
    refine hq h' tk' hp.objs.size (fun b o hb ho => ?_) (Nat.le_refl _) hxs.symm ?_ hn'
    · exact (hs.2 b (Nat.ne_of_lt (Heap.lt_size ho))).trans ((Heap.get?_update_ne _ _ _ _ hb).trans (Heap.get?_push_of_some _ ho))
    · exact (hs.2 x hxs).trans (Heap.get?_update_self _ hx₁ rfl)
end
end PySem.LpX

set_option Elab.async false
set_option linter.all false
set_option maxRecDepth 100000
set_option maxHeartbeats 4000000
namespace Lp
open PySem PySem.Spec PyProof.Rows L2
/-! ### an own exception class, as the written part has it -/
structure XC (K : PySem.W.Frag) (C : Addr) (Bn newId B initId : String) : Prop where
  cls : ∃ nm q N bs bm sn sub ab col dd k0 k1 k2 k3 k5, K.lookup C = some (excClassObj nm q C N bs bm true sn sub ab col dd k0 k1 k2 k3 k5 newId) ∧ LpX.tailOk bm = true ∧ LpX.Bm Bn bm ∧ bm.contains (.type B) = true
  sa : PySem.W.findIn K (.ref C) "__setattr__" = some (some (.builtin "object.__setattr__"))
  kC : PySem.W.keepIn K (.ref C) = true
  ga : PySem.W.findIn K (.ref C) "__getattribute__" = some (some (.builtin "BaseException.__getattribute__"))
  gg : PySem.W.findIn K (.ref C) "__getattr__" = some none
  exC : PySem.W.subIn K (.ref C) (.type "BaseException") = some true
  tyC : PySem.W.typeIn K (.ref C) = some (.type "type")
  ha : PySem.W.findIn K (.ref C) "__class__" = some (some (.builtin "object.__class__"))
  hn : PySem.W.specialIn K (.builtin "object.__class__") "__get__" = some (some (.builtin "getset_descriptor.__get__"))
  ht : PySem.W.takesIn K (.builtin "object.__class__") = some true
  hm : PySem.W.mroIn K C (.type "object") = some true
theorem XC.cl {K : PySem.W.Frag} {C : Addr} {Bn newId B initId : String} (T : XC K C Bn newId B initId) : ∃ cd, PySem.W.clsIn K C = some cd ∧ LpX.tailOk cd.mro = true ∧ cd.hasDict = true := by
  obtain ⟨nm, q, N, bs, bm, sn, sub, ab, col, dd, k0, k1, k2, k3, k5, hC, hbm, _⟩ := T.cls
  exact ⟨{ name := nm, bases := bs, mro := .ref C :: bm, ns := N, qualname := q, hasDict := true, slotNames := sn, subclasses := sub, abstract := ab, collection := col, hasDel := false }, by unfold PySem.W.clsIn; rw [hC] <;> rfl, hbm, rfl⟩
section
variable {X : Cx} {pins : List (Addr × Obj)} {σ : L2.St} {H : Hp} {s : Shared} {a C dx : Addr} {f : Str} {y : V} {u : Value} {fs : List (Str × V)} {Q : Unit → Shared → Prop} {E : Value → Shared → Prop} {A : Around} {Bn newId B initId : String}
theorem xst_new (T : XC X.K C Bn newId B initId) (I : Inv X pins σ H s) (e : H a = some (exo a C none)) (hno : PySem.W.findIn X.K (.ref C) f = some none) (ry : RelV y u)
    (h : ∀ dx s', H dx = none → dx ≠ a → Inv X pins σ (upd (upd H dx (exd dx [(f, y)])) a (exo a C (some dx))) s' → Q () s') : wpAny (model X.prog X.w) A (setAttr (.ref a) f u) Q E s := by
  obtain ⟨cd, hcl, htl, hdt⟩ := T.cl
  obtain ⟨t1, ho⟩ := exo_at I.hok e
  obtain ⟨hp, g, d, t, os⟩ := s
  refine PySem.W.set_plain I.kIn (ox := { cls := .ref C, dict := none, data := .fields #[.ref t1, .none, .none, .none, .bool false, .none] }) (od := none) ⟨ho, rfl, rfl, trivial⟩ T.sa ?_
  refine LpX.exc_osa I.kIn ho hcl htl hdt hno (fun h' tk' dx k dn dne hx hn => ?_)
  have fr : H dx = none := I.hok.fresh dn
  have off : ∀ {b : Addr} {o : Obj}, hp.get? b = some o → b ≠ dx := fun {b o} q => Nat.ne_of_lt (Nat.lt_of_lt_of_le (Heap.lt_size q) dn)
  have na : ∀ {b : Addr}, H b = none → b ≠ a := fun {b} n z => by rw [z, e] at n; cases n
  refine h dx _ fr dne (I.un (t' := tk') (h' := h') ?_ fun b o q => ?_)
  · refine ⟨fun b o q n _ _ => k b o (na n) q, fun b o q n _ _ => ⟨o.slots, k b o (na n) q⟩, fun b o q n _ => ?_, fun b o q _ => ?_, fun b xs q => ?_, fun b o v q => ?_, fun b ps q => ⟨#[], ?_⟩⟩
    · rw [upd_ne (na n), upd_ne (off q)]; exact n
    · by_cases hb : b = a
      · exact ⟨_, by rw [hb]; exact hx⟩
      · exact ⟨o, k b o hb q⟩
    · rw [upd_ne (at_ne e q exo_tup), upd_ne (ne_of_none q fr)]; exact q
    · rw [upd_ne (at_ne e q exo_frz), upd_ne (ne_of_none q fr)]; exact q
    · rw [upd_ne (at_ne e q exo_tbl), upd_ne (ne_of_none q fr), q]; simp
  · by_cases hb : b = a
    · subst hb
      rw [upd_same] at q
      cases q
      exact exo_ok hx
    · rw [upd_ne hb] at q
      by_cases hd : b = dx
      · subst hd
        rw [upd_same] at q
        cases q
        exact exd_ok hn (relO_put (fs := []) ry fun g => True.intro)
      · rw [upd_ne hd] at q
        refine (I.hok b o q).stay (fun c v hc z => k c v (fun zc => ?_) z) (fun c z => ?_) (fun c xs z => ?_)
        · rcases hc with hc | hc
          · exact hb (hc.symm.trans zc)
          · rw [zc, e] at hc; exact absurd (Option.some.inj hc) exo_own
        · rw [upd_ne (at_ne e z exo_own), upd_ne (ne_of_none z fr)]; exact z
        · rw [upd_ne (at_ne e z exo_tup), upd_ne (ne_of_none z fr)]; exact z
theorem xinit_ok {us : List Value} {Q : Value → Shared → Prop} (F : LpX.InitF B initId) (T : XC X.K C Bn newId B initId) (I : Inv X pins σ H s) (e : H a = some (exo a C none)) (hl : us.length ≤ sizeLine) (h : ∀ s', Inv X pins σ H s' → Q .none s') :
    wpAny (model X.prog X.w) A (call (.builtin initId) (.ref a :: us)) Q E s := by
  obtain ⟨nm, q, N, bs, bm, sn, sub, ab, col, dd, k0, k1, k2, k3, k5, hC, _, _, hB⟩ := T.cls
  obtain ⟨t1, ho⟩ := exo_at I.hok e
  obtain ⟨hp, g, d, t, os⟩ := s
  refine wpAny_call (LpX.init_base F hB (I.kIn _ _ hC) ho hl fun h' t2 k hx => ?_)
  have J := I.write (t' := t) (x := a) (e := a) (o := exo a C none) (by rw [e]; exact True.intro) (.inl rfl) k ⟨_, hx⟩ (exo_ok hx)
  have eu : upd H a (exo a C none) = H := by
    funext b
    by_cases hb : b = a
    · rw [hb, upd_same, e]
    · rw [upd_ne hb]
  rw [eu] at J
  exact h _ J
end
/-! ### readings and rules -/
def tXI (K : PySem.W.Frag) (Bn newId B initId : String) (ta : TA) : TE := fun σ H Q => ta σ H fun vs H1 => ∃ (a C : Addr) (ws : List V), vs = .ref a :: ws ∧ ws.length ≤ 1000 ∧ XC K C Bn newId B initId ∧ H1 a = some (exo a C none) ∧ Q .non H1
def tXst (K : PySem.W.Frag) (Bn newId B initId : String) (f : Str) (to te : TE) : TS := fun D σ H => te σ H fun y H1 => to σ H1 fun x H2 => ∃ a C : Addr, x = .ref a ∧ XC K C Bn newId B initId ∧ PySem.W.findIn K (.ref C) f = some none ∧
  H2 a = some (exo a C none) ∧ ∀ dx, H2 dx = none → dx ≠ a → D.nx σ (upd (upd H2 dx (exd dx [(f, y)])) a (exo a C (some dx)))
section
variable {X : Cx} {o e : Expr} {es : List Expr} {to te : TE} {ta : TA} {f x : Str} {p p' p1 p2 pos : Pos} {Bn newId B initId : String}
/-- P.__init__(self, ..), P a class of the program's own -/
theorem pe_xinit {P : Addr} {pl : Sem Bool} (F : LpX.InitF B initId) (hg : Gl X x) (hm : X.mg x = some (.ref P)) (hs : PySem.W.specialIn X.K (.ref P) "__getattribute__" = some (some (.builtin "type.__getattribute__"))) (ht : PySem.W.typeIn X.K (.ref P) = some (.type "type"))
    (hr : PySem.W.readsIn X.K P (.type "type") = true) (hv : PySem.W.findCls X.K (.ref P) (.type "type") "__init__" = some (.val (.builtin initId))) (hh : PySem.W.handedIn (.builtin initId) = true) (ha : PA X (e :: es) ta) (hdb : (x == ("__debug__" : Str)) = false := by decide)
    (hc : eval (.Call (.Attribute (.Name x p1) "__init__" p2) (e :: es) [] pos) X.env = (do
      let ov ← eval (.Name x p1) X.env
      standAt p2.atName
      let (f, first) ← holding [ov] (getMethod ov "__init__" pl)
      callWith pos f first (backTo pos (starEach (e :: es) X.env)) (backToKw pos (keywordEach [] X.env))) := by rfl)
    (he : starEach (e :: es) X.env = (false, eval e X.env) :: starEach es X.env := by rfl) (hpl : (backTo pos (starEach es X.env)).any (·.1) = false := by rfl) :
    PE X (.Call (.Attribute (.Name x p1) "__init__" p2) (e :: es) [] pos) (tXI X.K Bn newId B initId ta) := by
  refine ⟨fun pins s σ H Q I h => ?_⟩
  refine PySem.W.methodCall_KW (ld_glob I hg hm ?_ hdb) hc
  obtain ⟨m, fr⟩ := I.fr
  refine PySem.W.method_of_cls fr I.ok.mod.kin hs (PySem.W.cls_val fr I.ok.mod.kin ht hr hv hh ?_)
  refine PyProof.Rows.callWith_method1 (thn (ha.run pos pins _ σ H _ (I.tok _) h) fun us s1 ⟨vs, H1, I1, r1, a, C, ws, ev, hl, T, ea, q⟩ => ?_) he hpl
  subst ev
  cases r1 with
  | @cons _ u0 _ ur ra rw' =>
    obtain rfl : u0 = Value.ref a := ra
    have hlen : ur.length ≤ sizeLine := by rw [← Paired.length rw', sizeLine_eq]; omega
    exact xinit_ok F T I1 ea hlen fun s' J => ⟨.non, H1, J, rfl, q⟩
/-- B.__init__(self, ..), B a built-in class -/
theorem pe_binit {pl : Sem Bool} (F : LpX.InitF B initId) (hg : Gl X x) (hm : X.mg x = none) (hb : bootBuiltins x = some (.type B)) (hty : typeOf (.type B) = pure (.type "type")) (hst : Manifest.isStub B = false)
    (hv : PySem.W.findCls X.K (.type B) (.type "type") "__init__" = some (.val (.builtin initId))) (hh : PySem.W.handedIn (.builtin initId) = true) (ha : PA X (e :: es) ta) (hdb : (x == ("__debug__" : Str)) = false := by decide) (hnm : x ≠ "__name__" := by decide)
    (hc : eval (.Call (.Attribute (.Name x p1) "__init__" p2) (e :: es) [] pos) X.env = (do
      let ov ← eval (.Name x p1) X.env
      standAt p2.atName
      let (f, first) ← holding [ov] (getMethod ov "__init__" pl)
      callWith pos f first (backTo pos (starEach (e :: es) X.env)) (backToKw pos (keywordEach [] X.env))) := by rfl)
    (he : starEach (e :: es) X.env = (false, eval e X.env) :: starEach es X.env := by rfl) (hpl : (backTo pos (starEach es X.env)).any (·.1) = false := by rfl) :
    PE X (.Call (.Attribute (.Name x p1) "__init__" p2) (e :: es) [] pos) (tXI X.K Bn newId B initId ta) := by
  refine ⟨fun pins s σ H Q I h => ?_⟩
  refine PySem.W.methodCall_KW (ld_blt I hg hm hb ?_ hnm hdb) hc
  obtain ⟨m, fr⟩ := I.fr
  refine PySem.W.method_type fr I.ok.mod.kin hty hst hv hh ?_
  refine PyProof.Rows.callWith_method1 (thn (ha.run pos pins _ σ H _ (I.tok _) h) fun us s1 ⟨vs, H1, I1, r1, a, C, ws, ev, hl, T, ea, q⟩ => ?_) he hpl
  subst ev
  cases r1 with
  | @cons _ u0 _ ur ra rw' =>
    obtain rfl : u0 = Value.ref a := ra
    have hlen : ur.length ≤ sizeLine := by rw [← Paired.length rw', sizeLine_eq]; omega
    exact xinit_ok F T I1 ea hlen fun s' J => ⟨.non, H1, J, rfl, q⟩
theorem ps_xst (ho : PE X o to) (he : PE X e te) (hs : swapsWith e (some (.Attribute o f p')) pos.line X.env = pure false := by rfl) : PS X (.Assign [.Attribute o f p'] e pos) (tXst X.K Bn newId B initId f to te) := by
  refine ⟨fun pins s σ H D I h => ?_⟩
  refine plainObj_wpAny_Assign_Attribute (thn (he.run pins s σ H _ I h) fun v s1 ⟨y, H1, I1, r1, q1⟩ => thn (ho.run pins s1 σ H1 _ I1 q1) fun u s2 ⟨x, H2, I2, r2, a, C, ex, T, hno, ea, q⟩ => ?_) hs
  subst ex
  obtain rfl : u = Value.ref a := r2
  exact xst_new T I2 ea hno r1 fun dx s' n ne J => ⟨σ, _, J, q dx n ne⟩
/-- C(e, ..) as a value, C's own __init__ keeping sp -/
def tXMk (C : Addr) (sp : Sp) (ta : TA) : TE := fun σ H Q => ta σ H fun vs H1 => vs.length ≤ 1000 ∧ ∀ a, H1 a = none → sp (.ref a :: vs) (upd H1 a (exo a C none)) (fun v H2 => v = .non ∧ Q (.ref a) H2) (fun _ _ _ => False)
theorem pe_xmk {CX : CXT} {C fI : Addr} {k : Nat} {fd : FuncData} {ps : List Str} {sp : Sp} {i' : String} {bm' : List Value} (F : ExcBaseFacts Bn newId i' bm') (T : XC X.K C Bn newId B initId) (iC : PySem.W.findIn X.K (.ref C) "__init__" = some (some (.ref fI))) (tI : PySem.W.typeIn X.K (.ref fI) = some (.type "function"))
    (F1 : FnOk X.prog X.w X.K X.mg X.base CX k fI fd ps sp) (hr : Room (k + 1) X.A) (hb : Binds X.K fd ps []) (hx : Passes CX X (fun _ _ _ => False)) (hg : Gl X x) (hm : X.mg x = some (.ref C)) (ha : PA X (e :: es) ta)
    (hdb : (x == ("__debug__" : Str)) = false := by decide) (he : starEach (e :: es) X.env = (false, eval e X.env) :: starEach es X.env := by rfl) (hpl : (backTo pos (starEach es X.env)).any (·.1) = false := by rfl) :
    PE X (.Call (.Name x p) (e :: es) [] pos) (tXMk C sp ta) := by
  refine ⟨fun pins s σ H Q I h => ?_⟩
  obtain ⟨nm, q, N, bs, bm, sn, sub, ab, col, dd, k0, k1, k2, k3, k5, hC, _, hBm, _⟩ := T.cls
  refine wpAny_Call_Name_kw (ld_glob I hg hm ?_ hdb)
  refine PySem.W.callWith_K (h₀ := X.base) I.ok.mod.kin T.kC (thn (ha.run pos pins s σ H _ I h) fun us s1 ⟨vs, H1, I1, r1, hz, q1⟩ => ⟨I1.kIn, ?_⟩) he hpl
  obtain ⟨hp, g, dr, tk, os⟩ := s1
  have up : hp.objs.size ≤ hp.objs.size + 1 := Nat.le_succ _
  have hq := q1 (hp.objs.size + 1) (I1.hok.fresh up)
  have kk : ∀ b o, hp.get? b = some o → ((hp.push (PySem.W.kdv_tup us)).push (PySem.HandSPX.excO C hp.objs.size)).get? b = some o := fun b o e => Heap.get?_push_of_some _ (Heap.get?_push_of_some _ e)
  have hget : ((hp.push (PySem.W.kdv_tup us)).push (PySem.HandSPX.excO C hp.objs.size)).get? (hp.objs.size + 1) = some (PySem.HandSPX.excO C hp.objs.size) := by heap_get
  have I2 := I1.laid (t' := tk) (a := hp.objs.size + 1) (o := exo (hp.objs.size + 1) C none) (h' := (hp.push (PySem.W.kdv_tup us)).push (PySem.HandSPX.excO C hp.objs.size)) kk up (exo_ok hget)
  have r2 : Vals (V.ref (hp.objs.size + 1) :: vs) (Value.ref (hp.objs.size + 1) :: us) := .cons rfl r1
  have hl : (Value.ref (hp.objs.size + 1) :: us).length = ps.length := (r2.length.symm.trans (F1.len _ _ _ _ hq))
  have hus : us.length ≤ sizeLine := by rw [← Paired.length r1, sizeLine_eq]; omega
  have hb1 := hb _ (Value.ref (hp.objs.size + 1) :: us) I2.kIn (by simpa using hl)
  rw [List.append_nil] at hb1
  refine wpAny_call (LpX.call_own F hBm (I1.kIn _ _ hC) (PySem.W.looks_findIn I1.kIn iC) (fun self => PySem.W.bind_fn I1.kIn self tI) hus
    (codeAny_mono (F1.run _ X.stack _ _ ⟨Value.ref (hp.objs.size + 1) :: us, []⟩ (Value.ref (hp.objs.size + 1) :: us) _ _ (fun _ _ _ => False) (hr.make C us []) (I2.env0.make C us []) hb1 r2 hq) fun r s' hq' => ?_))
  cases r with
  | error er => exact hx pins σ _ _ er s' I2 hq'
  | ok fl =>
    cases fl with
    | ret u =>
      obtain ⟨v, H', I3, rv, ev, q3⟩ := I2.after hq'
      subst ev
      exact ⟨rv, ⟨V.ref (hp.objs.size + 1), H', I3, rfl, q3⟩⟩
    | next => exact False.elim hq'
    | brk => exact False.elim hq'
    | cont => exact False.elim hq'
/-- e.f, e an exception with its dict -/
def XCe (K : PySem.W.Frag) (C : Addr) : Prop := ∃ Bn newId B initId, XC K C Bn newId B initId
def tXfld (K : PySem.W.Frag) (te : TE) (f : Str) : TE := fun σ H Q => te σ H fun x H1 => ∃ (a C dx : Addr) (fs : List (Str × V)) (v : V), x = .ref a ∧ XCe K C ∧ PySem.W.findIn K (.ref C) f = some none ∧ H1 a = some (exo a C (some dx)) ∧ H1 dx = some (exd dx fs) ∧ fs.lookup f = some v ∧ Q v H1
theorem XC.hd {K : PySem.W.Frag} {C : Addr} (T : XC K C Bn newId B initId) : PySem.W.hasDictIn K C = true := by
  obtain ⟨cd, hc, _, hd⟩ := T.cl
  unfold PySem.W.hasDictIn
  rw [hc]
  exact hd
theorem pe_xfld (he : PE X e te) (hb : attributeBase e f X.env (eval e X.env) = eval e X.env := by rfl) : PE X (.Attribute e f pos) (tXfld X.K te f) := by
  refine ⟨fun pins s σ H Q I h => ?_⟩
  refine attr_of hb (thn (he.run pins s σ H _ I h) fun u s1 hh => ?_)
  obtain ⟨x, H1, I1, rx, a, C, dx, fs, v, ex, ⟨Bn, newId, B, initId, T⟩, hno, ea, ed, l, q⟩ := hh
  subst ex
  obtain rfl : u = Value.ref a := rx
  obtain ⟨t1, ho⟩ := exo_at I1.hok ea
  obtain ⟨mA, hns, hr⟩ := exd_at I1.hok ed
  obtain ⟨od, hod, hl⟩ := lookIn_ns hns
  obtain ⟨u, hu, ru⟩ := RelO.some_of (v := v) (o := mA f) (by rw [← l]; exact hr f)
  have J : PySem.W.InstAt s1.heap a { cls := .ref C, dict := some dx, data := .fields #[.ref t1, .none, .none, .none, .bool false, .none] } C (some od) := ⟨ho, rfl, rfl, hod⟩
  exact HandSPX.exc_get I1.kIn J T.ga T.gg T.exC (PySem.W.findObj_own T.hd hno rfl (by rw [hl, hu])) (handed_of ru) ⟨v, H1, I1.tok _, ru, q⟩
/-- isinstance(e, c) -/
def rXis (K : PySem.W.Frag) : List V → Hp → VK → Prop := fun xs H Q => ∃ (a C dx : Addr) (fs : List (Str × V)) (c : V) (cv : Value) (b : Bool), xs = [.ref a, c] ∧ (∀ u, RelV c u → u = cv) ∧ XCe K C ∧ H a = some (exo a C (some dx)) ∧ H dx = some (exd dx fs) ∧ PySem.W.kitOne K (.ref C) cv = some b ∧ Q (.bl b) H
theorem call_xis : CallR X (.builtin "isinstance") (rXis X.K) := by
  intro pins s σ H xs us Q I r h
  obtain ⟨a, C, dx, fs, c, cv, b, rfl, hcv, ⟨Bn, newId, B, initId, T⟩, ea, ed, e, q⟩ := h
  cases r with
  | cons rx rr =>
    cases rr with
    | cons rt rr =>
      cases rr
      cases rx
      have ec := hcv _ rt
      subst ec
      obtain ⟨t1, ho⟩ := exo_at I.hok ea
      obtain ⟨mA, hns, hr⟩ := exd_at I.hok ed
      obtain ⟨od, hod, hl⟩ := lookIn_ns hns
      have J : PySem.W.InstAt s.heap a { cls := .ref C, dict := some dx, data := .fields #[.ref t1, .none, .none, .none, .bool false, .none] } C (some od) := ⟨ho, rfl, rfl, hod⟩
      obtain ⟨cd, hcl, _⟩ := T.cl
      exact PySem.W.kia_one (PySem.W.kitx_exc (by rw [hcl]; rfl) T.ga T.gg T.exC T.ha T.hn T.ht T.hm) I.kIn J e (fun z => nomatch z) fun tk => ⟨.bl b, H, I.kept (t' := tk) fun _ _ z => z, rfl, q⟩
end
end Lp

set_option Elab.async false
set_option linter.all false
set_option maxRecDepth 100000
set_option maxHeartbeats 4000000
namespace Lp
open PySem PySem.Spec PyProof.Rows L2
/-! ### a def's promise where nothing is being shown (no repr runs around it) -/
structure FnG (P : Program) (w : World) (K : PySem.W.Frag) (mg : Str → Option Value) (base : Heap) (CX : CXT) (k : Nat) (f : Addr) (fd : FuncData) (ps : List Str) (sp : Sp) : Prop where
  len : ∀ vs H Q E, sp vs H Q E → vs.length = ps.length
  run : ∀ (A : Around) (outer : List Env) (s : Shared) (H : Hp) (args : Args) (us : List Value) (vs : List V) (Q : VK) (E : XK), A.guards = some [] → Room k A → Env0 P w K mg base A outer s H → BindsTo s fd args (ps.zip us) → Vals vs us →
    sp vs H Q E → codeAny (model P w) A (.call (.ref f) args) (CR CX outer P w H s Q E) s
section
variable {P : Program} {w : World} {K : PySem.W.Frag} {mg : Str → Option Value} {base : Heap} {CX : CXT} {f : Addr} {fd : FuncData} {ps : List Str} {sp : Sp}
theorem FnG.of {k : Nat} (F : FnOk P w K mg base CX k f fd ps sp) : FnG P w K mg base CX k f fd ps sp := ⟨F.len, fun A o s H a us vs Q E _ => F.run A o s H a us vs Q E⟩
theorem FnG.mono {j k : Nat} (F : FnG P w K mg base CX j f fd ps sp) (h : j ≤ k) : FnG P w K mg base CX k f fd ps sp := ⟨F.len, fun A o s H a us vs Q E g hr => F.run A o s H a us vs Q E g (hr.mono h)⟩
theorem guards_deeper (A : Around) (e : Env) : (A.deeper e).guards = A.guards := by first | rfl | simp [Around.deeper]
/-- a body read at one context of a call -/
theorem body_at {k : Nat} {name qual : Str} {params : Arguments} {body : List Stmt} {scope : Scope} {dV kV doc pm cdv ct oc : Value} {an od : Option Addr} {osl : Array (Option Value)} {N : List Str}
    (lk : K.lookup f = some ⟨oc, od, .func (PySem.W.fnOf name qual params body scope dV kV doc pm an cdv ct), osl⟩) (hcd : PySem.W.codeIn K cdv qual = true) (S : FnScope N ps scope)
    {A : Around} {outer : List Env} {s : Shared} {H : Hp} {args : Args} {us : List Value} {vs : List V} {Q : VK} {E : XK} (hl : vs.length = ps.length) (hr : Room (k + 1) A) (e0 : Env0 P w K mg base A outer s H)
    (hb : BindsTo s (PySem.W.fnOf name qual params body scope dV kV doc pm an cdv ct) args (ps.zip us)) (r : Vals vs us)
    {t : TS} (ht : PSs (cxOf CX P w K mg base N qual scope f cdv A outer s H E) body t) (hq : t { nx := fun _ H' => Q .non H', rt := Q } (start N vs) H) :
    codeAny (model P w) A (.call (.ref f) args) (CR CX outer P w H s Q E) s := by
  have stays : ∀ b o, base.get? b = some o → s.heap.get? b = some o := fun b o e => (e0.bs b o e).1
  have KX : K.In s.heap := e0.mod.kin.keeps stays
  have kinds : ∀ y ∈ ps.zip us, scope.names.lookup y.1 = some .local ∨ (scope.names.lookup y.1 = some .cell ∧ ((cellsFrom (s.heap.objs.size + 1) scope.names []).lookup y.1).isSome = true) := by
    rintro ⟨n, v⟩ hy
    rcases S.par n (List.of_mem_zip hy).1 with q | q
    · exact .inl q
    · exact .inr ⟨q, PySem.W.cellsFrom_some _ _ _ (.inl q)⟩
  refine codeAny_call_function hr.depth (KX _ _ lk) rfl S.co S.gen rfl (PySem.W.codeRec_of KX hcd) (hb _ _ _ _ ?_)
  refine wpAny_newFunctionEnv_cells S.kind kinds fun env he s1 x => ?_
  subst he
  refine ⟨(e0.mod.nolimit.keeps stays).keeps x.toInCall.keep, codeAny_func ?_⟩
  have I := inv_start (CX := CX) (E := E) S hr.hd e0 hl r x
  refine wpAny_mono (ht.run [] s1 (start N vs) H _ I hq) (fun fl s' hs => ?_) fun e s' hs => hs
  cases fl with
  | ret u => exact let ⟨v, _, H', J, rv, q⟩ := hs; ⟨v, H', J.os, J.bare, J.base, J.hok, rv, q⟩
  | next => exact let ⟨_, H', J, q⟩ := hs; ⟨V.non, H', J.os, J.bare, J.base, J.hok, rfl, q⟩
  | brk => exact False.elim (let ⟨_, _, _, q⟩ := hs; q)
  | cont => exact False.elim (let ⟨_, _, _, q⟩ := hs; q)
theorem okG {x qual : Str} {params : Arguments} {body : List Stmt} {scope : Scope} {dvs : List V} {kws : List (Str × V)} {N : List Str} {k : Nat} (F : FunD K x qual params body scope dvs kws f fd) (S : FnScope N ps scope) (len : ∀ vs H Q E, sp vs H Q E → vs.length = ps.length)
    (hbody : ∀ (cdv : Value) (A : Around) (outer : List Env) (s : Shared) (H : Hp) (vs : List V) (Q : VK) (E : XK), A.guards = some [] → Room k (A.deeper (envOfC qual scope s.heap.objs.size f cdv)) → sp vs H Q E →
      ∃ t, PSs (cxOf CX P w K mg base N qual scope f cdv A outer s H E) body t ∧ t { nx := fun _ H' => Q .non H', rt := Q } (start N vs) H) : FnG P w K mg base CX (k + 1) f fd ps sp := by
  obtain ⟨oc, od, dV, kV, doc, pm, an, cdv, ct, osl, rfl, lk, hcd, _, _⟩ := F.ex
  refine ⟨len, fun A outer s H args us vs Q E hg hr e0 hb r hsp => ?_⟩
  obtain ⟨t, ht, hq⟩ := hbody cdv A outer s H vs Q E hg (hr.deeper _) hsp
  exact body_at lk hcd S (len _ _ _ _ hsp) hr e0 hb r ht hq
end
section
variable {X : Cx} {CX : CXT} {k : Nat} {f : Addr} {fd : FuncData} {ps : List Str} {sp : Sp} {E : XK} {x : Str} {p pos : Pos} {e : Expr} {es : List Expr} {t : TA} {ds : List Value} {dvs : List V}
theorem pe_callGd (F : FnG X.prog X.w X.K X.mg X.base CX k f fd ps sp) (gd : X.A.guards = some []) (hr : Room k X.A) (hg : Gl X x) (hm : X.mg x = some (.ref f)) (hk : PySem.W.keepIn X.K (.ref f) = true) (hb : Binds X.K fd ps ds) (hd : Vals dvs ds) (hx : Passes CX X E)
    (ha : PA X (e :: es) t) (hdb : (x == ("__debug__" : Str)) = false := by decide) (he : starEach (e :: es) X.env = (false, eval e X.env) :: starEach es X.env := by rfl) (hpl : (backTo pos (starEach es X.env)).any (·.1) = false := by rfl) :
    PE X (.Call (.Name x p) (e :: es) [] pos) (tCall sp dvs E t) := by
  refine ⟨fun pins s σ H Q I h => ?_⟩
  refine wpAny_Call_Name_kw (ld_glob I hg hm ?_ hdb)
  refine PySem.W.callWith_K (h₀ := X.base) I.ok.mod.kin hk (thn (ha.run pos pins s σ H _ I h) fun us s1 ⟨vs, H1, I1, r, q⟩ => ⟨I1.kIn, ?_⟩) he hpl
  have r2 : Vals (vs ++ dvs) (us ++ ds) := r.append hd
  have hl : (us ++ ds).length = ps.length := r2.length.symm.trans (F.len _ _ _ _ q)
  refine wpAny_call (codeAny_mono (F.run X.A X.stack s1 H1 ⟨us, []⟩ (us ++ ds) (vs ++ dvs) Q E gd hr I1.env0 (hb s1 us I1.kIn hl) r2 q) fun r s' hq => ?_)
  rcases r with er | (_ | _ | _ | u)
  · exact hx pins σ H1 s1 er s' I1 hq
  · exact False.elim hq
  · exact False.elim hq
  · exact False.elim hq
  · exact I1.after hq
end
/-! ### the law's end -/
theorem end_at {P : Program} {w : World} {K : PySem.W.Frag} {mg mb : Str → Option Value} {CX : CXT} {k : Nat} {fa a : Addr} {fd : FuncData} {x : Str} {sp : Sp} {s₁ : Shared} {vs : List Value} {H : Hp}
    (KX : K.In s₁.heap) (hns : s₁.heap.Ns mainGlobals mg) (hb : s₁.heap.Ns builtinsNs mb) (hbb : ∀ x : Str, x ≠ "__name__" → mb x = bootBuiltins x) (hlim : s₁.heap.NoLimit) (hg : s₁.gens = #[])
    (ha : s₁.heap.get? a = some { cls := .type "list", data := .seq vs.toArray }) (hr : Room k callerA)
    (F : ∀ base : Heap, K.In base → base.Ns mainGlobals mg → FnG P w K mg base CX k fa fd [x] sp) (hbind : ∀ (s : Shared) (u : Value), BindsTo s fd ⟨[u], []⟩ [(x, u)])
    (hsp : sp [.ref a] H (fun v _ => v = .bl true) fun _ _ _ => False) (hCX : ∀ e s', CX [] H s₁ (fun _ _ _ => False) e s' → False)
    (hO : Only H) (hok : HOk P w H s₁.heap) (hA : ∀ b, H b ≠ none → b = a) (hK : H a ≠ none → K.lookup a = none) :
    codeAny (model P w) callerA (.call (.ref fa) ⟨[.ref a], []⟩) (fun r s' => r = .ok (.ret (.bool true)) ∧ OldK s₁.heap s'.heap ∧ s'.os = s₁.os ∧ AllBare s'.gens) s₁ := by
  have free_of : ∀ {b : Addr} {o : Obj}, s₁.heap.get? b = some o → (∀ its n, o.data ≠ .seq its n) → H b = none := fun {b o} e d => by
    cases q : H b with
    | none => rfl
    | some u =>
      obtain rfl : b = a := hA b (by rw [q]; simp)
      rw [ha] at e
      exact absurd (congrArg Obj.data (Option.some.inj e)).symm (d _ _)
  have nsK : ∀ {b : Addr} {m : Str → Option Value}, s₁.heap.Ns b m → (hidT s₁.heap H).Ns b m := fun {b m} ⟨o, es, ep, e, d, r⟩ => ⟨o, es, ep, hidT_get e (free_of e (fun _ _ z => by rw [d] at z; cases z)), d, r⟩
  have kB : K.In (hidT s₁.heap H) := fun b o e => hidT_get (KX b o e) (by
    cases q : H b with
    | none => rfl
    | some u =>
      obtain rfl : b = a := hA b (by rw [q]; simp)
      rw [hK (by rw [q]; simp)] at e
      cases e)
  have e0 : Env0 P w K mg (hidT s₁.heap H) callerA [] s₁ H := ⟨rfl, ⟨kB, nsK hns, ⟨mb, nsK hb, hbb⟩, let ⟨mc, h1, h2⟩ := hlim; ⟨mc, nsK h1, h2⟩⟩, fun b o e => of_hidT e, Nat.le_of_eq (hidT_size _ _), trivial, fun b hb => absurd (show b ∈ ([] : List Addr) from hb) (by simp), hok, .of_eq hg⟩
  refine codeAny_mono ((F _ kB (nsK hns)).run callerA [] s₁ H ⟨[.ref a], []⟩ [.ref a] [.ref a] _ _ rfl hr e0 (hbind s₁ (.ref a)) (.cons rfl .nil) hsp) fun r s' h => ?_
  rcases r with er | (_ | _ | _ | u)
  · exact (hCX er s' h).elim
  · exact False.elim h
  · exact False.elim h
  · exact False.elim h
  · obtain ⟨v, H', os, bare, un, hok', r', q⟩ := h
    obtain rfl : v = .bl true := q
    obtain rfl : u = Value.bool true := r'
    refine ⟨rfl, OldK.of_keep fun b o e => ?_, os, bare⟩
    rcases hO b with z | ⟨ob, xs, z⟩
    · exact un.keep b o e z (by intro y; exact absurd (show b ∈ ([] : List Addr) from y) (by simp)) (by simp)
    · obtain ⟨e1, _⟩ := hok b _ z
      obtain ⟨e2, _⟩ := hok' b _ (un.frzs b ob _ z)
      rw [e] at e1
      cases e1
      exact e2
/-- a law by a promise over FnG -/
theorem walk_G {l : PySem.W.OpenLaw} {n k : Nat} {q : Program} {loose : List Str} {XP : (Str → Option Value) → Heap → Prop} {YP : World → Heap → Prop} {d : DefRec} {CX : CXT} {x : Str}
    (hn : l.most = some n) (hn2 : n ≤ sizeLine) (hdf : d.params.defaults = []) (hr : Room k callerA)
    (F : ∀ (w : World) (mg : Str → Option Value) (fa : Addr) (h : Heap), YP w h → h.Ns mainGlobals mg → mg d.name = some (.ref fa) →
      ∃ (K : PySem.W.Frag) (fd : FuncData) (sp : Sp), K.In h ∧ (∀ (s : Shared) (u : Value), BindsTo s fd ⟨[u], []⟩ [(x, u)]) ∧
        (∀ (H : Hp) (a : Addr) (ns : List Int), ns.length ≤ n → SqL K H a (ns.map V.int) → sp [.ref a] H (fun v _ => v = .bl true) fun _ _ _ => False) ∧
        ∀ base : Heap, K.In base → base.Ns mainGlobals mg → FnG l.prog w K mg base CX k fa fd [x] sp)
    (hCX : ∀ (H : Hp) (s : Shared) (e : Value) (s' : Shared), CX [] H s (fun _ _ _ => False) e s' → False) :
    PySem.W.WalkO q loose XP YP l.row.toRowW d [] (fun f vs => PySem.call f vs) := by
  refine Att.attach_call hn hdf fun w s₀ s₁ mg mb fa o pm cd doc a vs ns G Y ho hd hcd hmg hobj hints hlen hg => ?_
  obtain ⟨K, fd, sp, KX, hb, hsp, hF⟩ := F w mg fa _ Y G.T.g hmg
  have rv := vals_ints hints
  have lenV := hints.length
  have hl := Nat.le_trans hlen hn2
  cases hk : K.lookup a with
  | some o =>
    have e := KX a o hk
    rw [hobj] at e
    cases e
    refine end_at (H := fun _ => none) KX G.T.g G.T.b G.T.builtins G.T.nolimit hg hobj hr hF hb (hsp _ a ns hlen (.inr ⟨_, vs.toArray, _, hk, rfl, rfl, rfl, by rw [List.size_toArray, lenV]; exact hl, by simpa using rv⟩)) (fun e s' => hCX _ s₁ e s') (fun _ => .inl rfl) (fun b u z => nomatch z) (fun b z => absurd rfl z) fun z => absurd rfl z
  | none =>
    have on : ∀ b, b = a → (fun b => if b = a then some (HO.frz { cls := .type "list", data := .seq vs.toArray } (.lst (ns.map V.int))) else none : Hp) b = some (.frz { cls := .type "list", data := .seq vs.toArray } (.lst (ns.map V.int))) := fun b hb => if_pos hb
    have off : ∀ b, b ≠ a → (fun b => if b = a then some (HO.frz { cls := .type "list", data := .seq vs.toArray } (.lst (ns.map V.int))) else none : Hp) b = none := fun b hb => if_neg hb
    refine end_at (H := fun b => if b = a then some (.frz { cls := .type "list", data := .seq vs.toArray } (.lst (ns.map V.int))) else none) KX G.T.g G.T.b G.T.builtins G.T.nolimit hg hobj hr hF hb
      (hsp _ a ns hlen (.inl (.inr ⟨_, on a rfl⟩))) (fun e s' => hCX _ s₁ e s') (fun b => ?_) (fun b u z => ?_) (fun b z => ?_) fun _ => hk
    · by_cases hb : b = a
      · exact .inr ⟨_, _, on b hb⟩
      · exact .inl (off b hb)
    · by_cases hb : b = a
      · cases (on b hb).symm.trans z
        subst hb
        exact ⟨hobj, by rw [List.length_map]; exact hl, vs, _, rv, hobj⟩
      · cases (off b hb).symm.trans z
    · by_cases hb : b = a
      · exact hb
      · exact absurd (off b hb) z
end Lp

set_option Elab.async false
set_option linter.all false
set_option maxRecDepth 100000
set_option maxHeartbeats 4000000
namespace Lp
open PySem PySem.Spec PyProof.Rows L2
def kD : Key → PyData
  | .inl i => .int i
  | .inr x => .str x
def vD : V → PyData
  | .bl b => .bool b
  | .int i => .int i
  | .str x => .str x
  | _ => .none
def flD : V → Bool
  | .non => true
  | .bl _ => true
  | .int _ => true
  | .str _ => true
  | _ => false
def dD (kvs : List (Key × V)) : PyData := .dict (kvs.map fun p => (kD p.1, vD p.2))
theorem reads_flat {h : Heap} {v : V} {u : Value} (f : flD v = true) (r : RelV v u) : Reads h u (vD v) [] := by
  cases v with
  | non => cases r; exact .none
  | bl b => cases r; exact .bool b
  | int i => obtain ⟨t, rfl⟩ := r; exact .int i t
  | str x => obtain ⟨t, rfl⟩ := r; exact .str x t
  | byt b => cases f
  | flt b => cases f
  | ref a => cases f
  | ty n => cases f
theorem reads_key {P : Program} {w : World} {h : Heap} (k : Key) (v : Value) (e : (mixKind P w).is k v = true) : Reads h v (kD k) [] := by
  rcases keyIs_shape e with ⟨i, t, rfl, rfl⟩ | ⟨x, t, rfl, rfl⟩
  · exact .int i t
  · exact .str x t
theorem pairs_flat {h : Heap} : ∀ {kvs : List (Key × V)} {vs : List (Key × Value)}, (∀ p ∈ kvs, flD p.2 = true) → KV kvs vs → PyProof.V.PairsRead h kD vs (kvs.map fun p => (kD p.1, vD p.2)) []
  | [], [], _, _ => .nil
  | [], _ :: _, _, h => nomatch (show Paired _ _ _ from h)
  | _ :: _, [], _, h => nomatch (show Paired _ _ _ from h)
  | (k, v) :: kvs, (k', u) :: vs, f, h => by
    cases (show Paired _ _ _ from h) with
    | cons r t =>
      obtain ⟨e, r2⟩ := r
      have e' : k = k' := e
      subst e'
      exact PyProof.V.PairsRead.cons (as := []) (bs := []) (reads_flat (f _ (List.mem_cons_self ..)) r2) (pairs_flat (fun p hp => f p (List.mem_cons_of_mem _ hp)) t)
/-- what can be shown: data without dicts, or a dict of plain values -/
def Sh (K : PySem.W.Frag) (H : Hp) (v : V) (d : PyData) : Prop := Dp K H v d ∨ ∃ a kvs, v = .ref a ∧ Rd H a (.dK kvs) ∧ (∀ p ∈ kvs, flD p.2 = true) ∧ d = dD kvs
section
variable {X : Cx} {pins : List (Addr × Obj)} {σ : L2.St} {H : Hp} {s : Shared}
mutual
theorem dp_noDict {K : PySem.W.Frag} : ∀ (d : PyData) (v : V), Dp K H v d → d.hasDict = false
  | .none, _, _ => rfl
  | .bool _, _, _ => rfl
  | .int _, _, _ => rfl
  | .str _, _, _ => rfl
  | .list ds, _, h => by
    cases h with
    | lst _ ha => exact dpAll_noDict ds _ ha
  | .tuple ds, _, h => by
    cases h with
    | tup _ ha => exact dpAll_noDict ds _ ha
  | .dict _, _, h => by cases h
theorem dpAll_noDict {K : PySem.W.Frag} : ∀ (ds : List PyData) (vs : List V), DpAll K H vs ds → PyData.hasDictAll ds = false
  | [], _, _ => rfl
  | d :: ds, _, h => by
    cases h with
    | cons h1 h2 =>
      show (d.hasDict || PyData.hasDictAll ds) = false
      rw [dp_noDict d _ h1, dpAll_noDict ds _ h2]
      rfl
end
theorem Sh.reads (I : Inv X pins σ H s) {v : V} {d : PyData} {u : Value} (h : Sh X.K H v d) (r : RelV v u) : ∃ as, Reads s.heap u d as ∧ (d.hasDict = true → sysModules ∉ as) := by
  rcases h with h | ⟨a, kvs, rfl, hr, hf, rfl⟩
  · obtain ⟨as, q⟩ := Dp.reads I d v u h r
    exact ⟨as, q, fun z => by rw [dp_noDict d v h] at z; cases z⟩
  · obtain rfl : u = Value.ref a := r
    obtain ⟨_, hne, vs, kv, hd⟩ := hr.ok I.hok
    refine ⟨[a], PyProof.V.reads_dictOf (bs := []) (fun k key e => reads_key k key e) hd (pairs_flat hf kv), fun _ z => ?_⟩
    rw [List.mem_singleton] at z
    rw [← z] at hne
    simp at hne
def rRepr (K : PySem.W.Frag) : List V → Hp → VK → Prop := fun xs H Q => ∃ v d, xs = [v] ∧ Sh K H v d ∧ d.showable = true ∧ d.depth ≤ 50 ∧ d.shown.length ≤ sizeLine ∧ Q (.str d.shown) H
theorem call_repr (gd : X.A.guards = some []) (hu : X.A.units + 64 < cLine) : CallR X (.builtin "repr") (rRepr X.K) := by
  intro pins s σ H xs us Q I r h
  obtain ⟨v, d, rfl, hs, hw, hdp, hz, q⟩ := h
  cases r with
  | @cons _ u _ _ rx rr =>
    cases rr
    obtain ⟨as, rd, hsm⟩ := hs.reads I rx
    have out : ∀ (h' : Heap) (t' : Nat) (tk : Tok), (∀ b o, s.heap.get? b = some o → h'.get? b = some o) → EP X pins σ Q (.str d.shown tk) { s with heap := h', toks := t' } := fun h' t' tk k => ⟨.str d.shown, H, I.kept (t' := t') k, ⟨tk, rfl⟩, q⟩
    cases rd with
    | none => exact PySem.P.repr_of_none (out s.heap _ _ fun _ _ z => z)
    | bool b => exact PySem.P.repr_of_bool (out s.heap _ _ fun _ _ z => z)
    | int i t => exact PySem.P.repr_of_int (of_decide_eq_true hw) (out s.heap _ _ fun _ _ z => z)
    | str x t => exact PySem.P.repr_of_str (out s.heap _ _ fun _ _ z => z) hz
    | list h1 h2 h3 h4 => exact repr_of_reads' (.list h1 h2 h3 h4) hw hsm gd (by omega) (fun _ _ z => z) (fun h' u tk k => out h' tk u k) hz
    | tuple h1 h2 h3 h4 => exact repr_of_reads' (.tuple h1 h2 h3 h4) hw hsm gd (by omega) (fun _ _ z => z) (fun h' u tk k => out h' tk u k) hz
    | dict h1 h2 h3 h4 h5 => exact repr_of_reads' (.dict h1 h2 h3 h4 h5) hw hsm gd (by omega) (fun _ _ z => z) (fun h' u tk k => out h' tk u k) hz
theorem call_reprK {K0 : PySem.W.Frag} (hK : X.K = K0) (gd : X.A.guards = some []) (hu : X.A.units + 64 < cLine) : CallR X (.builtin "repr") (rRepr K0) := by
  subst hK
  exact call_repr gd hu
end
end Lp

set_option Elab.async false
set_option linter.all false
set_option maxRecDepth 100000
set_option maxHeartbeats 4000000
namespace Lp
open PySem PySem.Spec PyProof.Rows L2
/-! ### the head's facts: one Bool of the written part, and the defs -/
def obsL (ex : PySem.W.Frag → Bool) (fn : List He.DefD) (K : PySem.W.Frag) : He.AlD := (ex K && fn.all fun d => d.ok K, fn.map fun d => He.fnW K d.at_)
def SaysL (ex : PySem.W.Frag → Bool) (fn : List He.DefD) (K : PySem.W.Frag) : Prop := obsL ex fn K = He.valD fn
def obsLG (n : Nat) (ex : PySem.W.Frag → Bool) (fn : List He.DefD) (g : Addr → Option Obj) : He.AlD := obsL ex fn (He.frG g (cStatics :: He.asD g n))
def hookL (n : Nat) (ex : PySem.W.Frag → Bool) (fn : List He.DefD) : PySem.W.Hook where
  α := He.AlD
  obs := fun s => obsLG n ex fn s.heap.get?
  val := fun _ => He.valD fn
  says := fun _ h => ∃ K : PySem.W.Frag, K.In h ∧ SaysL ex fn K
  of := fun _ _ e => ⟨_, He.frG_in, e⟩
  keeps := fun _ _ _ ⟨K, hK, c⟩ k => ⟨K, PySem.W.Frag.In.keeps hK k, c⟩
theorem obsLG_eq {n : Nat} {ex : PySem.W.Frag → Bool} {fn : List He.DefD} {g : Addr → Option Obj} {s : Shared} (h : ∀ a, g a = s.heap.get? a) : obsLG n ex fn g = (hookL n ex fn).obs s := by
  have e : g = s.heap.get? := funext h
  rw [e] <;> rfl
/-- the function object at a place -/
def fdAt (K : PySem.W.Frag) (f : Addr) : FuncData := match K.lookup f with
  | some ⟨_, _, .func fd, _⟩ => fd
  | _ => PySem.W.fnOf "" "" ⟨[], [], none, [], [], none, []⟩ [] ⟨.function, [], false, false, []⟩ .none .none .none .none none .none .none
theorem fdAt_eq {K : PySem.W.Frag} {x qual : Str} {params : Arguments} {body : List Stmt} {scope : Scope} {dvs : List V} {kws : List (Str × V)} {f : Addr} {fd : FuncData} (F : FunD K x qual params body scope dvs kws f fd) : FunD K x qual params body scope dvs kws f (fdAt K f) := by
  have e : fdAt K f = fd := by
    obtain ⟨oc, od, dV, kV, doc, pm, an, cdv, ct, osl, _, lk, _⟩ := F.ex
    unfold fdAt
    rw [lk]
  rw [e]
  exact F
section
variable {ex : PySem.W.Frag → Bool} {fn : List He.DefD} {K : PySem.W.Frag}
theorem SaysL.all_ (c : SaysL ex fn K) : ex K = true := (Bool.and_eq_true_iff.mp (show (ex K && fn.all fun d => d.ok K) = true from congrArg (fun z : He.AlD => z.1) c)).1
theorem SaysL.def_ (c : SaysL ex fn K) (i : Nat) {d : He.DefD} (h : fn[i]? = some d := by rfl) : FunD K d.name d.qual d.params d.body d.scope (d.dvs K) (d.kws K) (He.fAd K d.at_) (fdAt K (He.fAd K d.at_)) := by
  have c2 := (Bool.and_eq_true_iff.mp (show (ex K && fn.all fun d => d.ok K) = true from congrArg (fun z : He.AlD => z.1) c)).2
  have e : fn.map (fun d => He.fnW K d.at_) = fn.map He.DefD.val := congrArg (fun z : He.AlD => z.2) c
  have e2 : (fn.map fun d => He.fnW K d.at_)[i]? = (fn.map He.DefD.val)[i]? := by rw [e]
  rw [List.getElem?_map, List.getElem?_map, h] at e2
  obtain ⟨fd, q⟩ := He.DefD.funD (Option.some.inj e2) (List.all_eq_true.mp c2 d (List.mem_of_getElem? h))
  exact fdAt_eq q
end
/-! ### exception classes by Bools -/
def clsB (K : PySem.W.Frag) (C : Addr) (Bn newId B : String) : Bool := match K.lookup C with
  | some ⟨.type "type", _, .cls cd, sl⟩ => (match cd.mro, sl.toList with
    | .ref C' :: bm, [_, _, _, _, some (.builtin n), _] => (C' == C && n == newId) && ((!cd.hasDel && cd.hasDict) && ((LpX.tailOk bm && bm.contains (.type Bn)) && ((!bm.contains (.type "AttributeError") && !bm.contains (.type "NameError")) && bm.contains (.type B))))
    | _, _ => false)
  | _ => false
theorem clsB_ok {K : PySem.W.Frag} {C : Addr} {Bn newId B : String} (q : clsB K C Bn newId B = true) : ∃ nm q N bs bm sn sub ab col dd k0 k1 k2 k3 k5, K.lookup C = some (excClassObj nm q C N bs bm true sn sub ab col dd k0 k1 k2 k3 k5 newId) ∧ LpX.tailOk bm = true ∧ LpX.Bm Bn bm ∧ bm.contains (.type B) = true := by
  unfold clsB at q
  split at q
  · rename_i dd cd sl ho
    split at q
    · rename_i C' bm k0 k1 k2 k3 n k5 hm hs
      simp only [Bool.and_eq_true, beq_iff_eq, Bool.not_eq_true'] at q
      obtain ⟨⟨rfl, rfl⟩, ⟨hdel, hdct⟩, ⟨h1, h2⟩, ⟨h3, h4⟩, h5⟩ := q
      obtain ⟨nm, bs, mro, ns, qn, hd, sn, sub, ab, col, del⟩ := cd
      dsimp only at hm hdel hdct
      subst hm hdel hdct
      obtain ⟨l⟩ := sl
      simp only at hs
      subst hs
      exact ⟨nm, qn, ns, bs, bm, sn, sub, ab, col, dd, k0, k1, k2, k3, k5, ho, h1, ⟨h2, h3, h4⟩, h5⟩
    · cases q
  · cases q
def xcB (K : PySem.W.Frag) (C : Addr) (Bn newId B : String) : Bool := clsB K C Bn newId B && (decide (PySem.W.findIn K (.ref C) "__setattr__" = some (some (.builtin "object.__setattr__"))) && (PySem.W.keepIn K (.ref C) &&
  (decide (PySem.W.findIn K (.ref C) "__getattribute__" = some (some (.builtin "BaseException.__getattribute__"))) && (decide (PySem.W.findIn K (.ref C) "__getattr__" = some none) && (decide (PySem.W.subIn K (.ref C) (.type "BaseException") = some true) &&
  (decide (PySem.W.typeIn K (.ref C) = some (.type "type")) && (decide (PySem.W.findIn K (.ref C) "__class__" = some (some (.builtin "object.__class__"))) && (decide (PySem.W.specialIn K (.builtin "object.__class__") "__get__" = some (some (.builtin "getset_descriptor.__get__"))) &&
  (decide (PySem.W.takesIn K (.builtin "object.__class__") = some true) && decide (PySem.W.mroIn K C (.type "object") = some true))))))))))
theorem xcB_ok {K : PySem.W.Frag} {C : Addr} {Bn newId B initId : String} (h : xcB K C Bn newId B = true) : XC K C Bn newId B initId := by
  unfold xcB at h
  simp only [Bool.and_eq_true, decide_eq_true_eq] at h
  obtain ⟨h1, h2, h3, h4, h5, h6, h7, h8, h9, h10, h11⟩ := h
  exact ⟨clsB_ok h1, h2, h3, h4, h5, h6, h7, h8, h9, h10, h11⟩
/-- an own class whose __init__ comes from a built-in base -/
structure XP (K : PySem.W.Frag) (P : Addr) (initId : String) : Prop where
  s : PySem.W.specialIn K (.ref P) "__getattribute__" = some (some (.builtin "type.__getattribute__"))
  t : PySem.W.typeIn K (.ref P) = some (.type "type")
  r : PySem.W.readsIn K P (.type "type") = true
  v : PySem.W.findCls K (.ref P) (.type "type") "__init__" = some (.val (.builtin initId))
def valIs (o : Option PySem.W.CFound) (u : Value) : Bool := match o with
  | some (.val v) => decide (v = u)
  | _ => false
theorem valIs_ok {o : Option PySem.W.CFound} {u : Value} (h : valIs o u = true) : o = some (.val u) := by
  unfold valIs at h
  split at h
  · rw [of_decide_eq_true h]
  · cases h
def xpB (K : PySem.W.Frag) (P : Addr) (initId : String) : Bool := decide (PySem.W.specialIn K (.ref P) "__getattribute__" = some (some (.builtin "type.__getattribute__"))) && (decide (PySem.W.typeIn K (.ref P) = some (.type "type")) && (PySem.W.readsIn K P (.type "type") && valIs (PySem.W.findCls K (.ref P) (.type "type") "__init__") (.builtin initId)))
theorem xpB_ok {K : PySem.W.Frag} {P : Addr} {initId : String} (h : xpB K P initId = true) : XP K P initId := by
  unfold xpB at h
  simp only [Bool.and_eq_true, decide_eq_true_eq] at h
  exact ⟨h.1, h.2.1, h.2.2.1, valIs_ok h.2.2.2⟩
/-- the own __init__ of an exception class, found -/
structure XI (K : PySem.W.Frag) (C fI : Addr) (f : Str) : Prop where
  i : PySem.W.findIn K (.ref C) "__init__" = some (some (.ref fI))
  t : PySem.W.typeIn K (.ref fI) = some (.type "function")
  n : PySem.W.findIn K (.ref C) f = some none
def xiB (K : PySem.W.Frag) (C fI : Addr) (f : Str) : Bool := decide (PySem.W.findIn K (.ref C) "__init__" = some (some (.ref fI))) && (decide (PySem.W.typeIn K (.ref fI) = some (.type "function")) && decide (PySem.W.findIn K (.ref C) f = some none))
theorem xiB_ok {K : PySem.W.Frag} {C fI : Addr} {f : Str} (h : xiB K C fI f = true) : XI K C fI f := by
  unfold xiB at h
  simp only [Bool.and_eq_true, decide_eq_true_eq] at h
  exact ⟨h.1, h.2.1, h.2.2⟩
/-- C.__init__(self, v): the field is stored -/
def spXI (C : Addr) (f : Str) : Sp := fun vs H Q _ => ∃ (a : Addr) (v : V), vs = [.ref a, v] ∧ H a = some (exo a C none) ∧ ∀ dx, H dx = none → dx ≠ a → Q .non (upd (upd H dx (exd dx [(f, v)])) a (exo a C (some dx)))
theorem spXI_len {C : Addr} {f : Str} {n : Str} (vs : List V) (H : Hp) (Q : VK) (E : XK) (h : spXI C f vs H Q E) : vs.length = (["self", n] : List Str).length := by
  obtain ⟨a, v, rfl, _⟩ := h
  rfl
theorem read_xi {K : PySem.W.Frag} {C fI : Addr} {f : Str} {Bn newId B initId : String} {n : Str} (T : XC K C Bn newId B initId) (S : XI K C fI f) {vs : List V} {H : Hp} {Q : VK} {E : XK} (h : spXI C f vs H Q E) :
    tSeq (tDrop (tXI K Bn newId B initId (tCons (tVar 0) (tCons (tVar 1) tNil)))) (tXst K Bn newId B initId f (tVar 0) (tVar 1)) { nx := fun _ H' => Q .non H', rt := Q } (start ["self", n] vs) H := by
  obtain ⟨a, v, rfl, ha, k⟩ := h
  exact ⟨_, rfl, _, rfl, a, C, _, rfl, by show 1 ≤ 1000; decide, T, ha, _, rfl, _, rfl, a, C, rfl, T, S.n, ha, k⟩
/-- C(v): a new exception that bears v -/
def rXMk (C : Addr) (f : Str) (v : V) (H : Hp) (Q : VK) : Prop := ∀ a dx, H a = none → H dx = none → dx ≠ a → Q (.ref a) (upd (upd H dx (exd dx [(f, v)])) a (exo a C (some dx)))
theorem xmk_read {C : Addr} {f : Str} {te : TE} {σ : L2.St} {H : Hp} {Q : VK} (h : te σ H fun v H1 => rXMk C f v H1 Q) : tXMk C (spXI C f) (tCons te tNil) σ H Q := by
  show te σ H fun v H1 => _
  exact (show te σ H (fun v H1 => ([v] : List V).length ≤ 1000 ∧ ∀ a, H1 a = none → spXI C f (.ref a :: [v]) (upd H1 a (exo a C none)) (fun v H2 => v = .non ∧ Q (.ref a) H2) (fun _ _ _ => False)) from by
    have e : (fun (v : V) (H1 : Hp) => ([v] : List V).length ≤ 1000 ∧ ∀ a, H1 a = none → spXI C f (.ref a :: [v]) (upd H1 a (exo a C none)) (fun v H2 => v = .non ∧ Q (.ref a) H2) (fun _ _ _ => False)) = fun v H1 => rXMk C f v H1 Q := by
      funext v H1
      refine propext ⟨fun ⟨_, z⟩ a dx na nd ne => ?_, fun z => ⟨by show 1 ≤ 1000; decide, fun a na => ⟨a, v, rfl, upd_same, fun dx nd ne => ⟨rfl, ?_⟩⟩⟩⟩
      · obtain ⟨a', v', e1, e2, k⟩ := z a na
        cases e1
        have q := (k dx (by rw [upd_ne ne]; exact nd) ne).2
        have e3 : upd (upd (upd H1 a (exo a C none)) dx (exd dx [(f, v)])) a (exo a C (some dx)) = upd (upd H1 dx (exd dx [(f, v)])) a (exo a C (some dx)) := by
          funext b
          by_cases hb : b = a
          · rw [hb, upd_same, upd_same]
          · rw [upd_ne hb, upd_ne hb]
            by_cases hd : b = dx
            · rw [hd, upd_same, upd_same]
            · rw [upd_ne hd, upd_ne hd, upd_ne hb]
        rw [e3] at q
        exact q
      · have e3 : upd (upd (upd H1 a (exo a C none)) dx (exd dx [(f, v)])) a (exo a C (some dx)) = upd (upd H1 dx (exd dx [(f, v)])) a (exo a C (some dx)) := by
          funext b
          by_cases hb : b = a
          · rw [hb, upd_same, upd_same]
          · rw [upd_ne hb, upd_ne hb]
            by_cases hd : b = dx
            · rw [hd, upd_same, upd_same]
            · rw [upd_ne hd, upd_ne hd, upd_ne hb]
        rw [e3]
        rw [upd_ne ne] at nd
        exact z a dx na nd ne
    rw [e]
    exact h)
/-- a statement, then the rest: what lies between them is said once -/
def tMid (t u : TS) : TS := fun D σ H => ∃ M : L2.St → Hp → Prop, t { D with nx := M } σ H ∧ ∀ σ' H', M σ' H' → u D σ' H'
theorem pss_mid {X : Cx} {st : Stmt} {rest : List Stmt} {t u : TS} (h1 : PS X st t) (h2 : PSs X rest u) : PSs X (st :: rest) (tMid t u) := by
  refine ⟨fun pins s σ H D I h => ?_⟩
  obtain ⟨M, hm, hu⟩ := h
  refine wpAny_execs_cons (thn (h1.run pins s σ H { D with nx := M } I hm) fun f s1 q => ?_)
  rcases f with _ | _ | _ | v
  · obtain ⟨σ', H', I', q⟩ := q
    exact h2.run pins s1 σ' H' D I' (hu σ' H' q)
  · exact q
  · exact q
  · exact q
theorem ps_dead {X : Cx} {st : Stmt} : PS X st (fun _ _ _ => False) := ⟨fun _ _ _ _ _ _ h => False.elim h⟩
end Lp

set_option Elab.async false
set_option linter.all false
set_option maxRecDepth 100000
set_option maxHeartbeats 4000000
namespace Lp
open PySem PySem.Spec PyProof.Rows L2
/-! ### growth: F is the part of the heap H that will not change any more -/
theorem same_refl (H : Hp) : Same H H := fun _ _ e => e
theorem same_trans {H1 H2 H3 : Hp} (a : Same H1 H2) (b : Same H2 H3) : Same H1 H3 := fun x o e => b x o (a x o e)
theorem same_new {H : Hp} {p : Addr} {o : HO} (h : H p = none) : Same H (upd H p o) := fun b u e => by
  rw [upd_ne (ne_of_none e h)]
  exact e
theorem same_mut {H H' : Hp} {p : Addr} {o : HO} (s : Same H H') (h : H p = none) : Same H (upd H' p o) := fun b u e => by
  rw [upd_ne (ne_of_none e h)]
  exact s b u e
theorem same_off {H H' : Hp} {p : Addr} (s : Same H H') (h : H' p = none) : H p = none := by
  cases e : H p with
  | none => rfl
  | some o => rw [s _ _ e] at h; cases h
structure Gw (F H F' H' : Hp) : Prop where
  ff : Same F F'
  fh : Same F' H'
  hh : Same H H'
  new : ∀ a, F a = none → H a ≠ none → F' a = none
section
variable {F H F' H' F1 H1 F2 H2 : Hp} {p : Addr} {o : HO}
theorem Gw.refl (s : Same F H) : Gw F H F H := ⟨same_refl F, s, same_refl H, fun _ e _ => e⟩
theorem Gw.trans (a : Gw F H F1 H1) (b : Gw F1 H1 F2 H2) : Gw F H F2 H2 := ⟨same_trans a.ff b.ff, b.fh, same_trans a.hh b.hh, fun x n h => b.new x (a.new x n h) (by
  cases e : H x with
  | none => exact absurd e h
  | some o => rw [a.hh _ _ e]; simp)⟩
/-- a new object that will not change -/
theorem Gw.add (s : Same F H) (n : H p = none) : Gw F H (upd F p o) (upd H p o) := ⟨same_new (same_off s n), fun b u e => by
  by_cases hb : b = p
  · rw [hb, upd_same] at e ⊢; exact e
  · rw [upd_ne hb] at e ⊢; exact s _ _ e, same_new n, fun x e h => by
  by_cases hx : x = p
  · rw [hx] at h; exact absurd n h
  · rw [upd_ne hx]; exact e⟩
/-- a new object -/
theorem Gw.junk (s : Same F H) (n : H p = none) : Gw F H F (upd H p o) := ⟨same_refl F, same_mut s (same_off s n), same_new n, fun _ e _ => e⟩
/-- an object that is newer than H, and may change, changes -/
theorem Gw.mut (g : Gw F H F' H') (h0 : H p = none) (hf : F' p = none) : Gw F H F' (upd H' p o) := ⟨g.ff, same_mut g.fh hf, same_mut g.hh h0, g.new⟩
/-- from now on it does not -/
theorem Gw.freeze (g : Gw F H F' H') (h0 : H p = none) (hf : F' p = none) (hp : H' p = some o) : Gw F H (upd F' p o) H' := ⟨same_mut g.ff (same_off g.ff hf), fun b u e => by
  by_cases hb : b = p
  · rw [hb, upd_same] at e; rw [hb, hp]; exact e
  · rw [upd_ne hb] at e; exact g.fh _ _ e, g.hh, fun x e h => by
  by_cases hx : x = p
  · rw [hx] at h; exact absurd h0 h
  · rw [upd_ne hx]; exact g.new x e h⟩
theorem Gw.off (g : Gw F H F' H') (hf : F p = none) (hp : H p = some o) : F' p = none := g.new p hf (by rw [hp]; simp)
theorem Gw.src (g : Gw F H F' H') (s : Same F H) : Same F H' := same_trans g.ff g.fh
end
theorem paired_app {α β : Type} {R : α → β → Prop} : ∀ {a c : List α} {b d : List β}, Paired R a b → Paired R c d → Paired R (a ++ c) (b ++ d)
  | _, _, _, _, .nil, s => s
  | _, _, _, _, .cons r t, s => .cons r (paired_app t s)
theorem paired_imp {α β : Type} {R S : α → β → Prop} (h : ∀ a b, R a b → S a b) : ∀ {a : List α} {b : List β}, Paired R a b → Paired S a b
  | _, _, .nil => .nil
  | _, _, .cons r t => .cons (h _ _ r) (paired_imp h t)
/-- a comprehension: f tells which turns give, R what they give -/
theorem lc_gw {J : It} {n : Nat} {G : Hp → Prop} {Y : Nat → Hp → V → Hp → Prop} (w : Walk J n G Y) {g : TG} {tt : TT} {te : TE} {vs : List Nat} {σ : L2.St} {F0 H1 : Hp} {D : Addr} {Qd : Hp → Prop} (f : Nat → Bool) (R : Nat → V → Hp → Prop) (Rm : ∀ i y A B, Same A B → R i y A → R i y B)
    (s0 : Same F0 H1) (hD : H1 D = none) (hn : n < 100000) (hG : ∀ H, Same H1 H → G H)
    (hs : ∀ i x F H H' (Qn : V → Hp → Prop) (Qs : Hp → Prop), i < n → Gw F0 H1 F H → Y i H x H' → (f i = true → ∀ y F' H4, Gw F H F' H4 → R i y F' → Qn y H4) → (f i = false → ∀ F' H4, Gw F H F' H4 → Qs H4) →
      g x (wipe σ vs) H' fun σ2 H2 => wipe σ2 vs = wipe σ vs ∧ tt σ2 H2 fun b H3 => if b = true then te σ2 H3 Qn else Qs H3)
    (hd : ∀ ys F H, Gw F0 H1 F H → F D = none → H D = some (.lst ys) → Paired (fun i y => R i y F) ((List.range n).filter f) ys → Qd H) :
    ∃ W : Nat → Nat → Hp → Prop, (∃ m, W 0 m (upd H1 D (.lst []))) ∧ ∀ i m H, W i m H →
      (J.stop i H ∧ Qd H) ∨ (J.go i H ∧ ∃ Nx : Hp → Prop, (∀ H', Nx H' → ∃ m', m' < m ∧ W (i + 1) m' H') ∧ ∀ x H', J.yld i H x H' → g x (wipe σ vs) H' fun σ2 H2 => wipe σ2 vs = wipe σ vs ∧ tt σ2 H2 fun b H3 =>
        if b = true then te σ2 H3 fun y H4 => ∃ acc, H4 D = some (.lst acc) ∧ acc.length < sizeLine ∧ Nx (upd H4 D (.lst (acc ++ [y]))) else Nx H3) := by
  have ext : ∀ {k : Nat}, (List.range (k + 1)).filter f = (List.range k).filter f ++ (if f k = true then [k] else []) := fun {k} => by
    rw [List.range_succ, List.filter_append]
    by_cases e : f k = true
    · simp [e]
    · simp [e]
  refine lc_it w (fun i H => ∃ F ys, Gw F0 H1 F H ∧ F D = none ∧ H D = some (.lst ys) ∧ Paired (fun i y => R i y F) ((List.range i).filter f) ys) ⟨F0, [], Gw.junk s0 hD, same_off s0 hD, upd_same, .nil⟩ (fun i H _ ⟨F, ys, gw, _⟩ => hG H gw.hh) ?_ (fun H ⟨F, ys, gw, fD, hH, pr⟩ => hd ys F H gw fD hH pr)
  rintro i x H H' hi ⟨F, ys, gw, fD, hH, pr⟩ hy
  refine hs i x F H H' _ _ hi gw hy (fun hf y F' H4 g4 r => ?_) (fun hf F' H4 g4 => ?_)
  · have len : ys.length ≤ i := by
      rw [← pr.length]
      have := List.length_filter_le f (List.range i)
      rw [List.length_range] at this
      exact this
    refine ⟨ys, g4.hh _ _ hH, Nat.lt_of_le_of_lt len (Nat.lt_trans hi (Nat.lt_of_lt_of_le hn (by decide))), F', ys ++ [y], (gw.trans g4).mut hD (g4.off fD hH), g4.off fD hH, upd_same, ?_⟩
    rw [ext, if_pos hf]
    exact paired_app (paired_imp (fun a b q => Rm _ _ _ _ g4.ff q) pr) (.cons r .nil)
  · refine ⟨F', ys, gw.trans g4, g4.off fD hH, g4.hh _ _ hH, ?_⟩
    rw [ext, if_neg (by rw [hf]; decide), List.append_nil]
    exact paired_imp (fun a b q => Rm _ _ _ _ g4.ff q) pr
/-- deep data stays -/
theorem sqL_same {K : PySem.W.Frag} {H H' : Hp} {a : Addr} {xs : List V} (s : Same H H') (h : SqL K H a xs) : SqL K H' a xs := s.seq h
mutual
theorem dp_same {K : PySem.W.Frag} {H H' : Hp} (s : Same H H') : ∀ (d : PyData) (v : V), Dp K H v d → Dp K H' v d
  | .none, _, h => by cases h; exact .non
  | .bool _, _, h => by cases h; exact .bl _
  | .int _, _, h => by cases h; exact .int _
  | .str _, _, h => by cases h; exact .str _
  | .list ds, _, h => by
    cases h with
    | lst a b => exact .lst (Evl.ex_l s a) (dpAll_same s ds _ b)
  | .tuple ds, _, h => by
    cases h with
    | tup a b => exact .tup (Evl.ex_t s a) (dpAll_same s ds _ b)
  | .dict _, _, h => by cases h
theorem dpAll_same {K : PySem.W.Frag} {H H' : Hp} (s : Same H H') : ∀ (ds : List PyData) (vs : List V), DpAll K H vs ds → DpAll K H' vs ds
  | [], _, h => by cases h; exact .nil
  | d :: ds, _, h => by
    cases h with
    | cons a b => exact .cons (dp_same s d _ a) (dpAll_same s ds _ b)
end
theorem sh_same {K : PySem.W.Frag} {H H' : Hp} (s : Same H H') {d : PyData} {v : V} (h : Sh K H v d) : Sh K H' v d := by
  rcases h with h | ⟨a, kvs, e, hr, hf, hd⟩
  · exact .inl (dp_same s d v h)
  · exact .inr ⟨a, kvs, e, Evl.ex_rd s hr, hf, hd⟩
end Lp

set_option Elab.async false
set_option linter.all false
set_option maxRecDepth 100000
set_option maxHeartbeats 4000000
namespace Lp
open PySem PySem.Spec PyProof.Rows L2
/-! ### plain laws of data -/
theorem lay_map {α : Type} {f : α → PyData} : ∀ {l : List α}, (∀ x ∈ l, (f x).canLay0 = true) → PyData.canLayAll0 (l.map f) = true
  | [], _ => rfl
  | a :: l, h => by
    show ((f a).canLay0 && PyData.canLayAll0 (l.map f)) = true
    rw [h a (List.mem_cons_self ..), lay_map fun x hx => h x (List.mem_cons_of_mem _ hx)]
    rfl
theorem dep_map {α : Type} {f : α → PyData} {n : Nat} : ∀ {l : List α}, (∀ x ∈ l, (f x).depth ≤ n) → PyData.depthAll (l.map f) ≤ n
  | [], _ => Nat.zero_le _
  | a :: l, h => by
    show max (f a).depth (PyData.depthAll (l.map f)) ≤ n
    exact Nat.max_le.mpr ⟨h a (List.mem_cons_self ..), dep_map fun x hx => h x (List.mem_cons_of_mem _ hx)⟩
theorem shaped_of {d : PyData} (h1 : d.canLay0 = true) (h2 : d.depth ≤ 64) : SeqAt.shaped d = true := by
  unfold SeqAt.shaped
  rw [h1, decide_eq_true h2]
  rfl
mutual
theorem eqv_refl : ∀ d : PyData, d.canLay0 = true → PyData.eqv d d = true
  | .none, _ => rfl
  | .bool b, _ => by show (b == b) = true; exact beq_self_eq_true b
  | .int i, _ => by show (i == i) = true; exact beq_self_eq_true i
  | .str x, _ => by show (x == x) = true; exact beq_self_eq_true x
  | .list xs, h => eqvAll_refl xs h
  | .tuple xs, h => eqvAll_refl xs h
  | .dict _, h => by cases h
theorem eqvAll_refl : ∀ ds : List PyData, PyData.canLayAll0 ds = true → PyData.eqvAll ds ds = true
  | [], _ => rfl
  | d :: ds, h => by
    obtain ⟨h1, h2⟩ := Bool.and_eq_true_iff.mp (show (d.canLay0 && PyData.canLayAll0 ds) = true from h)
    show (PyData.eqv d d && PyData.eqvAll ds ds) = true
    rw [eqv_refl d h1, eqvAll_refl ds h2]
    rfl
end
theorem dpAll_map {K : PySem.W.Frag} {H : Hp} {α : Type} {f : α → V} {g : α → PyData} : ∀ {l : List α}, (∀ x ∈ l, Dp K H (f x) (g x)) → DpAll K H (l.map f) (l.map g)
  | [], _ => .nil
  | a :: l, h => .cons (h a (List.mem_cons_self ..)) (dpAll_map fun x hx => h x (List.mem_cons_of_mem _ hx))
theorem dpAll_paired {K : PySem.W.Frag} {H : Hp} {α : Type} {g : α → PyData} : ∀ {l : List α} {vs : List V}, Paired (fun x v => Dp K H v (g x)) l vs → DpAll K H vs (l.map g)
  | _, _, .nil => .nil
  | _, _, .cons r t => .cons r (dpAll_paired t)
theorem paired_eq {α β : Type} {g : α → β} : ∀ {l : List α} {ys : List β}, Paired (fun x y => y = g x) l ys → ys = l.map g
  | _, _, .nil => rfl
  | _, _, .cons r t => by rw [r, paired_eq t]; rfl
def bD (bs : List Bool) : PyData := .list (bs.map PyData.bool)
theorem bD_lay (bs : List Bool) : (bD bs).canLay0 = true := lay_map (l := bs) fun _ _ => rfl
theorem bD_dep (bs : List Bool) : (bD bs).depth ≤ 1 := Nat.succ_le_succ (dep_map (l := bs) fun _ _ => Nat.le_refl 0)
theorem bD_shaped (bs : List Bool) : SeqAt.shaped (bD bs) = true := shaped_of (bD_lay bs) (Nat.le_trans (bD_dep bs) (by decide))
theorem bD_dp {K : PySem.W.Frag} {H : Hp} {p : Addr} {bs : List Bool} (h : H p = some (.lst (bs.map V.bl))) : Dp K H (.ref p) (bD bs) := .lst (SqL.of h) (dpAll_map fun b _ => .bl b)
def bbD (rows : List (List Bool)) : PyData := .list (rows.map bD)
theorem bbD_lay (rows : List (List Bool)) : (bbD rows).canLay0 = true := lay_map (l := rows) fun r _ => bD_lay r
theorem bbD_shaped (rows : List (List Bool)) : SeqAt.shaped (bbD rows) = true := shaped_of (bbD_lay rows) (Nat.le_trans (Nat.succ_le_succ (dep_map (l := rows) fun r _ => bD_dep r)) (by decide))
def sD (z : Str) (n : Nat) : PyData := .list ((List.replicate n z).map PyData.str)
section
variable {t u : TS} {D : Ends} {σ : L2.St} {H : Hp} {te ta tb : TE} {tr : TA} {Q : VK} {g : TG} {r : R2}
theorem r_seq (h : t { D with nx := u D } σ H) : tSeq t u D σ H := h
theorem r_asg (h : te σ H fun v H1 => g v σ H1 D.nx) : tAsg te g D σ H := h
theorem r_lst (h : tr σ H fun xs H1 => xs.length ≤ sizeLine ∧ ∀ p, H1 p = none → Q (.ref p) (upd H1 p (.lst xs))) : tLst tr σ H Q := h
theorem r_cons {QA : List V → Hp → Prop} (h : te σ H fun x H1 => tr σ H1 fun xs H2 => QA (x :: xs) H2) : tCons te tr σ H QA := h
theorem r_op (h : ta σ H fun x H1 => tb σ H1 fun y H2 => r x y H2 Q) : tOp r ta tb σ H Q := h
theorem r_ret (h : te σ H D.rt) : tRet te D σ H := h
end
theorem yes_then {te : TE} {σ : L2.St} {H : Hp} {Qn : VK} {Qs : Hp → Prop} (h : te σ H Qn) : tYes σ H fun b H3 => if b = true then te σ H3 Qn else Qs H3 := by
  show if true = true then te σ H Qn else Qs H
  rw [if_pos rfl]
  exact h
theorem filter_true {n : Nat} : (List.range n).filter (fun _ => true) = List.range n := List.filter_eq_self.mpr fun _ _ => rfl
end Lp

set_option Elab.async false
set_option linter.all false
set_option maxRecDepth 100000
set_option maxHeartbeats 4000000
namespace Lp
open PySem PySem.Spec PyProof.Rows L2
/-! ### own methods that the machine calls -/
section
variable {X : Cx} {CX : CXT} {k : Nat} {f C : Addr} {sp : Sp} {E : XK} {pins : List (Addr × Obj)} {σ : L2.St} {H : Hp} {s : Shared} {Q : VK} {us : List Value} {vs : List V}
theorem run_at (F : FnR X.prog X.w X.K X.mg X.base CX k f sp) (hr : Room k X.A) (hx : Passes CX X E) (I : Inv X pins σ H s) (r : Vals vs us) (h : sp vs H Q E) : wpAny (model X.prog X.w) X.A (call (.ref f) us) (EP X pins σ Q) X.xe s := by
  refine wpAny_call (codeAny_mono (F X.A X.stack s H us vs Q E hr I.env0 r h) fun r s' hq => ?_)
  rcases r with er | (_ | _ | _ | u)
  · exact hx pins σ H s er s' I hq
  · exact False.elim hq
  · exact False.elim hq
  · exact False.elim hq
  · exact I.after hq
theorem run_in1 (F : FnR X.prog X.w X.K X.mg X.base CX k f sp) (hr : Room (k + 1) X.A) (hx : Passes CX X E) (I : Inv X pins σ H s) (r : Vals vs us) (h : sp vs H Q E) : wpAny (model X.prog X.w) X.A.in1 (call (.ref f) us) (EP X pins σ Q) X.xe s := by
  refine wpAny_call (codeAny_mono (F X.A.in1 X.stack s H us vs Q E hr.in1 I.env0.in1 r h) fun r s' hq => ?_)
  rcases r with er | (_ | _ | _ | u)
  · exact hx pins σ H s er s' I hq
  · exact False.elim hq
  · exact False.elim hq
  · exact False.elim hq
  · exact I.after hq
/-- the object of an instance -/
theorem ins_at (I : Inv X pins σ H s) {a dx : Addr} {fs : List (Str × V)} (h : H a = some (.ins C dx fs)) : ∃ ox od, PySem.W.InstAt s.heap a ox C od := by
  obtain ⟨mA, J, _⟩ := ins_get I.hok h
  obtain ⟨od, J, _⟩ := J.look
  exact ⟨_, _, J⟩
theorem relV_noNI {v : V} {u : Value} (r : RelV v u) : u ≠ .notImplemented := by
  intro e
  subst e
  cases v with
  | non => cases r
  | bl b => cases r
  | int i => obtain ⟨t, e⟩ := r; cases e
  | str x => obtain ⟨t, e⟩ := r; cases e
  | byt b => obtain ⟨t, e⟩ := r; cases e
  | flt b => obtain ⟨t, e⟩ := r; cases e
  | ref a => cases r
  | ty n => cases r
theorem back_of {u : Value} {s' : Shared} (h : EP X pins σ Q u s') : PySem.W.CmpBack (EP X pins σ Q) u s' := by
  have ne : u ≠ .notImplemented := by
    obtain ⟨v, H', _, r, _⟩ := h
    exact relV_noNI r
  unfold PySem.W.CmpBack
  split
  · exact absurd rfl ne
  · exact h
def rOwn2 (C : Addr) (sp : Sp) (E : XK) : R2 := fun x y H Q => ∃ a dx fs, x = .ref a ∧ H a = some (.ins C dx fs) ∧ sp [.ref a, y] H Q E
/-- o[i] by an own __getitem__ -/
theorem pe_ixOwn {a b : Expr} {ta tb : TE} {pos : Pos} (M : Meth X.K C "__getitem__" f) (hfi : PySem.W.fnIn X.K f = true) (F : FnR X.prog X.w X.K X.mg X.base CX k f sp) (hr : Room (k + 1) X.A) (hx : Passes CX X E) (ha : PE X a ta) (hb : PE X b tb)
    (hsl : ∀ x i, subscripted b true (.ref x) i = runValue (.builtin "lifetime.subscript" ⟨[.ref x, i], []⟩) := by intro _ _; with_unfolding_all rfl) : PE X (.Subscript a b pos) (tOp (rOwn2 C sp E) ta tb) := by
  refine ⟨fun pins s σ H Q I h => ?_⟩
  refine Subscript_ (binT ha hb I h fun v u s2 x y H2 I2 rx ry q => ?_)
  obtain ⟨p, dx, fs, rfl, hp, q⟩ := q
  obtain rfl : v = Value.ref p := rx
  obtain ⟨ox, od, J⟩ := ins_at I2 hp
  obtain ⟨m, fr⟩ := I2.fr
  exact PySem.W.sub_K fr I2.ok.mod.kin J M.at_ hfi M.fn (run_in1 (vs := [.ref p, y]) F hr hx I2 (.cons rfl (.cons ry .nil)) q) (hsl _ _)
/-- x in o by an own __contains__ -/
def rOwnIn (C : Addr) (sp : Sp) (E : XK) : R2 := fun x y H Q => ∃ a dx fs, y = .ref a ∧ H a = some (.ins C dx fs) ∧ sp [.ref a, x] H (fun v H' => ∃ b, v = .bl b ∧ Q (.bl b) H') E
theorem op_inOwn (M : Meth X.K C "__contains__" f) (F : FnR X.prog X.w X.K X.mg X.base CX k f sp) (hr : Room k X.A) (hx : Passes CX X E) : OpR X (compareOp .In) (rOwnIn C sp E) := by
  intro pins s σ H x y v u Q I rx ry h
  obtain ⟨p, dx, fs, rfl, hp, q⟩ := h
  obtain rfl : u = Value.ref p := ry
  obtain ⟨ox, od, J⟩ := ins_at I hp
  obtain ⟨m, fr⟩ := I.fr
  refine PySem.W.in_K fr I.ok.mod.kin J M.at_ M.fn (thn (run_at (vs := [.ref p, x]) F hr hx I (.cons rfl (.cons rx .nil)) q) fun r s1 ⟨z, H1, I1, rz, b, ez, q1⟩ => ?_)
  subst ez
  obtain rfl : r = Value.bool b := rz
  exact wpAny_truthy_bool ⟨.bl b, H1, I1, rfl, q1⟩
/-- len(o) by an own __len__ -/
def rOwnLen (C : Addr) (sp : Sp) (E : XK) : List V → Hp → VK → Prop := fun xs H Q => ∃ a dx fs, xs = [.ref a] ∧ H a = some (.ins C dx fs) ∧ sp [.ref a] H (fun v H' => ∃ n : Nat, v = .int n ∧ n < 2 ^ 63 ∧ Q (.int n) H') E
theorem call_lenOwn (M : Meth X.K C "__len__" f) (F : FnR X.prog X.w X.K X.mg X.base CX k f sp) (hr : Room (k + 1) X.A) (hx : Passes CX X E) : CallR X (.builtin "len") (rOwnLen C sp E) := by
  intro pins s σ H xs us Q I r h
  obtain ⟨p, dx, fs, rfl, hp, q⟩ := h
  cases r with
  | @cons _ u _ _ rx rr =>
    cases rr
    obtain rfl : u = Value.ref p := rx
    obtain ⟨ox, od, J⟩ := ins_at I hp
    obtain ⟨m, fr⟩ := I.fr
    refine PySem.W.len_K fr I.ok.mod.kin J M.at_ M.fn (thn (run_in1 (vs := [.ref p]) F hr hx I (.cons rfl .nil) q) fun r s1 ⟨z, H1, I1, rz, n, ez, hn, q1⟩ => ?_)
    subst ez
    obtain ⟨t, rfl⟩ := rz
    exact ⟨⟨by omega, by omega⟩, ⟨.int n, H1, I1.tok _, ⟨_, rfl⟩, q1⟩⟩
/-- o op p by an own method, both of one class -/
def rOwnBin (C : Addr) (sp : Sp) (E : XK) : R2 := fun x y H Q => ∃ a dx fs b dy gs, x = .ref a ∧ H a = some (.ins C dx fs) ∧ y = .ref b ∧ H b = some (.ins C dy gs) ∧ sp [.ref a, .ref b] H Q E
theorem op_binOwn {op : Operator} {m : Str} (hc : PySem.W.selfFirst X.K C = true) (hm : PySem.dunder op.info.2 = m) (M : Meth X.K C m f) (F : FnR X.prog X.w X.K X.mg X.base CX k f sp) (hr : Room k X.A) (hx : Passes CX X E) : OpR X (binaryOp op) (rOwnBin C sp E) := by
  subst hm
  intro pins s σ H x y v u Q I rx ry h
  obtain ⟨p, dx, fs, b, dy, gs, rfl, hp, rfl, hb, q⟩ := h
  obtain rfl : v = Value.ref p := rx
  obtain rfl : u = Value.ref b := ry
  obtain ⟨ox, od, J⟩ := ins_at I hp
  obtain ⟨oy, od', J'⟩ := ins_at I hb
  obtain ⟨m, fr⟩ := I.fr
  exact PySem.W.binop_K fr I.ok.mod.kin J J'.type hc M.at_ M.fn (thn (run_at (vs := [.ref p, .ref b]) F hr hx I (.cons rfl (.cons rfl .nil)) q) fun r s1 z => back_of z)
end
end Lp

set_option Elab.async false
set_option linter.all false
set_option maxRecDepth 100000
set_option maxHeartbeats 4000000
namespace Lp
open PySem PySem.Spec PyProof.Rows L2
/-! ### raise C(v), C an own exception class over any of the five bases -/
def tMkX (C : Addr) (f : Str) (te : TE) : L2.St → Hp → XK → Prop := fun σ H Q => te σ H fun v H1 => ∀ d, H1 d = none → Q (.ref C) (some d) (upd H1 d (.xd [(f, v)]))
section
variable {X : Cx} {x f : Str} {e : Expr} {te : TE} {p pos : Pos} {Bn newId B initId : String}
theorem pmk_x {CX : CXT} {C fI : Addr} {k : Nat} {fd : FuncData} {ps : List Str} {i' : String} {bm' : List Value} (F : ExcBaseFacts Bn newId i' bm') (T : XC X.K C Bn newId B initId) (iC : PySem.W.findIn X.K (.ref C) "__init__" = some (some (.ref fI))) (tI : PySem.W.typeIn X.K (.ref fI) = some (.type "function"))
    (F1 : FnOk X.prog X.w X.K X.mg X.base CX k fI fd ps (spXI C f)) (hr : Room (k + 1) X.A) (hb : Binds X.K fd ps []) (hx : Passes CX X (fun _ _ _ => False)) (hg : Gl X x) (hm : X.mg x = some (.ref C)) (ha : PE X e te)
    (hdb : (x == ("__debug__" : Str)) = false := by decide) (hs : starEach [e] X.env = (false, eval e X.env) :: starEach [] X.env := by rfl) (hpl : (backTo pos (starEach [] X.env)).any (·.1) = false := by rfl) :
    PMk X (.Call (.Name x p) [e] [] pos) (tMkX C f te) := by
  intro pins s σ H Q I h
  obtain ⟨nm, q, N, bs, bm, sn, sub, ab, col, dd, k0, k1, k2, k3, k5, hC, _, hBm, _⟩ := T.cls
  refine wpAny_Call_Name_kw (ld_glob I hg hm ?_ hdb)
  have hpa : PA X [e] (tCons te tNil) := pa_cons ha pa_nil hs
  refine PySem.W.callWith_K (h₀ := X.base) I.ok.mod.kin T.kC (thn (hpa.run pos pins s σ H (fun vs H1 => ∃ v, vs = [v] ∧ ∀ d, H1 d = none → Q (.ref C) (some d) (upd H1 d (.xd [(f, v)]))) I ?_) fun us s1 ⟨vs, H1, I1, r1, v, ev, q1⟩ => ⟨I1.kIn, ?_⟩) hs hpl
  · have e0 : (fun (y : V) (H1 : Hp) => ∃ v, ([y] : List V) = [v] ∧ ∀ d, H1 d = none → Q (.ref C) (some d) (upd H1 d (.xd [(f, v)]))) = fun y H1 => ∀ d, H1 d = none → Q (.ref C) (some d) (upd H1 d (.xd [(f, y)])) := by
      funext y H1
      exact propext ⟨fun ⟨v, e1, z⟩ => by cases e1; exact z, fun z => ⟨y, rfl, z⟩⟩
    show te σ H (fun (y : V) (H1 : Hp) => ∃ v, ([y] : List V) = [v] ∧ ∀ d, H1 d = none → Q (.ref C) (some d) (upd H1 d (.xd [(f, v)])))
    rw [e0]
    exact h
  subst ev
  obtain ⟨hp, g, dr, tk, os⟩ := s1
  have up : hp.objs.size ≤ hp.objs.size + 1 := Nat.le_succ _
  have na : H1 (hp.objs.size + 1) = none := I1.hok.fresh up
  have kk : ∀ b o, hp.get? b = some o → ((hp.push (PySem.W.kdv_tup us)).push (PySem.HandSPX.excO C hp.objs.size)).get? b = some o := fun b o e => Heap.get?_push_of_some _ (Heap.get?_push_of_some _ e)
  have hget : ((hp.push (PySem.W.kdv_tup us)).push (PySem.HandSPX.excO C hp.objs.size)).get? (hp.objs.size + 1) = some (PySem.HandSPX.excO C hp.objs.size) := by heap_get
  have I2 := I1.laid (t' := tk) (a := hp.objs.size + 1) (o := exo (hp.objs.size + 1) C none) (h' := (hp.push (PySem.W.kdv_tup us)).push (PySem.HandSPX.excO C hp.objs.size)) kk up (exo_ok hget)
  have hq : spXI C f [.ref (hp.objs.size + 1), v] (upd H1 (hp.objs.size + 1) (exo (hp.objs.size + 1) C none)) (fun z H2 => z = .non ∧ ∃ d, H1 d = none ∧ d ≠ hp.objs.size + 1 ∧ H2 = upd (upd (upd H1 (hp.objs.size + 1) (exo (hp.objs.size + 1) C none)) d (exd d [(f, v)])) (hp.objs.size + 1) (exo (hp.objs.size + 1) C (some d))) (fun _ _ _ => False) :=
    ⟨_, v, rfl, upd_same, fun dx nd ne => ⟨rfl, dx, by rw [upd_ne ne] at nd; exact nd, ne, rfl⟩⟩
  have r2 : Vals (V.ref (hp.objs.size + 1) :: [v]) (Value.ref (hp.objs.size + 1) :: us) := .cons rfl r1
  have hl : (Value.ref (hp.objs.size + 1) :: us).length = ps.length := (r2.length.symm.trans (F1.len _ _ _ _ hq))
  have hus : us.length ≤ sizeLine := by rw [← Paired.length r1, sizeLine_eq]; show 1 ≤ 16777216; decide
  have hb1 := hb _ (Value.ref (hp.objs.size + 1) :: us) I2.kIn (by simpa using hl)
  rw [List.append_nil] at hb1
  refine wpAny_call (LpX.call_own F hBm (I1.kIn _ _ hC) (PySem.W.looks_findIn I1.kIn iC) (fun self => PySem.W.bind_fn I1.kIn self tI) hus
    (codeAny_mono (F1.run _ X.stack _ _ ⟨Value.ref (hp.objs.size + 1) :: us, []⟩ (Value.ref (hp.objs.size + 1) :: us) _ _ (fun _ _ _ => False) (hr.make C us []) (I2.env0.make C us []) hb1 r2 hq) fun r s' hq' => ?_))
  rcases r with er | (_ | _ | _ | u)
  · exact hx pins σ _ _ er s' I2 hq'
  · exact False.elim hq'
  · exact False.elim hq'
  · exact False.elim hq'
  · obtain ⟨z, H2, os2, bare2, un2, hok2, rv, ez, d, nd, ne, eH⟩ := hq'
    subst ez
    subst eH
    obtain ⟨h2, g2, d2, t2, os'⟩ := s'
    refine ⟨rv, mk_end (fs := [(f, v)]) (d := d) (raises_own T.exC T.tyC) I1 up kk un2 hok2 os2 bare2 upd_same (by rw [upd_ne ne, upd_same]) nd ?_⟩
    have eF : upd (del (upd (upd (upd H1 (hp.objs.size + 1) (exo (hp.objs.size + 1) C none)) d (exd d [(f, v)])) (hp.objs.size + 1) (exo (hp.objs.size + 1) C (some d))) (hp.objs.size + 1)) d (.xd [(f, v)]) = upd H1 d (.xd [(f, v)]) := by
      funext b
      by_cases hbd : b = d
      · rw [hbd, upd_same, upd_same]
      · rw [upd_ne hbd, upd_ne hbd]
        by_cases hba : b = hp.objs.size + 1
        · rw [hba, del_same, na]
        · rw [del_ne hba, upd_ne hba, upd_ne hbd, upd_ne hba]
    rw [eF]
    exact q1 d nd
/-- isinstance(e, c), e the exception that the suite holds, with its dict -/
def rIsS (K : PySem.W.Frag) (a : Addr) (cls : Value) (d : Option Addr) : List V → Hp → VK → Prop := fun xs H Q => ∃ (D dd : Addr) (fs : List (Str × V)) (c : V) (cv : Value) (b : Bool), xs = [.ref a, c] ∧ cls = .ref D ∧ d = some dd ∧ H dd = some (.xd fs) ∧ XCe K D ∧ (∀ u, RelV c u → u = cv) ∧ PySem.W.kitOne K (.ref D) cv = some b ∧ Q (.bl b) H
theorem call_isS {a : Addr} {oe : Obj} {cls : Value} {d : Option Addr} {pn : List (Addr × Obj)} (hz : Zc cls d oe) (hf : ∃ vs, oe.data = .fields vs) : CallR (X.suite a ((a, oe) :: pn)) (.builtin "isinstance") (rIsS X.K a cls d) := by
  intro pins s σ H xs us Q I r h
  obtain ⟨D, dd, fs, c, cv, b, rfl, ec, ed, hd, ⟨Bn, newId, B, initId, T⟩, hcv, hk, q⟩ := h
  subst ec
  subst ed
  cases r with
  | cons rx rr =>
    cases rr with
    | cons rt rr =>
      cases rr
      cases rx
      have e1 := hcv _ rt
      subst e1
      obtain ⟨hget, _⟩ := I.pin (a, oe) (List.mem_append.mpr (.inl List.mem_cons_self))
      obtain ⟨vs, hv⟩ := hf
      have hx : ObjOk X.prog X.w H s.heap dd (.xd fs) := I.hok dd _ hd
      obtain ⟨mA, hns, _⟩ := hx
      obtain ⟨od, ho, _⟩ := lookIn_ns hns
      have J : PySem.W.InstAt s.heap a oe D (some od) := ⟨hget, hz.1, by unfold PySem.W.notCls; rw [hv] <;> rfl, by rw [hz.2]; exact ho⟩
      obtain ⟨cd, hcl, _⟩ := T.cl
      exact PySem.W.kia_one (PySem.W.kitx_exc (by rw [hcl]; rfl) T.ga T.gg T.exC T.ha T.hn T.ht T.hm) I.kIn J hk (fun z => nomatch z) fun tk => ⟨.bl b, H, I.kept (t' := tk) fun _ _ z => z, rfl, q⟩
theorem XC.xf {K : PySem.W.Frag} {C : Addr} (T : XC K C Bn newId B initId) : XfC K C := ⟨T.ga, T.gg, T.exC, T.hd⟩
/-- an error of the class C is what «except D» names, or not -/
theorem exm_x {K : PySem.W.Frag} {C D : Addr} {b : Bool} {Bn' newId' B' initId' : String} (T : XC K D Bn' newId' B' initId') (h : PySem.W.subIn K (.ref C) (.ref D) = some b) : PySem.W.exmOne K (.ref C) (.ref D) = some b := PySem.W.exm_ref T.exC T.hd T.tyC h
end
end Lp

set_option Elab.async false
set_option linter.all false
set_option maxRecDepth 100000
set_option maxHeartbeats 4000000
namespace PySem.W
open PySem PySem.Calls PyProof.Rows
section
variable {prog : Program} {w : World} {A : Around} {E : Value → Shared → Prop} {s : Shared} {K : Frag} {x C L f : Addr} {h₀ : Heap} {m : Str → Option Value} {ox : Obj} {od : Option Obj} {T : String}
/-- o op b, b of a built-in class T (an object or not), o's own method in Python -/
theorem lp_binT {op : Operator} {b : Value} {fo ro rc : Option Value} {Q : Value → Shared → Prop} (X : K.In s.heap) (I : InstAt s.heap x ox C od) (hb : Looks (model prog w) s.heap (typeOf b) (.type T)) (hc : selfFirst K C = true)
    (hs : findIn K (.ref C) (PySem.dunder op.info.2) = some (some (.ref f))) (hf : isFn K (.ref f) = true) (hr : findIn K (.ref C) (dunderR op.info.2) = some rc) (hp : rc = none ∨ ∃ g : Addr, rc = some (.ref g))
    (h1 : findIn K (.type T) (PySem.dunder op.info.2) = some fo) (h2 : findIn K (.type T) (dunderR op.info.2) = some ro) (hsub : subIn K (.type T) (.ref C) = some false)
    (h : wpAny (model prog w) A (call (.ref f) [.ref x, b]) (CmpBack Q) E s) : wpAny (model prog w) A (binaryOp op (.ref x) b) Q E s := by
  obtain ⟨cd, tl, hcd, hmro⟩ := ksp_first hc
  rcases hi : op.info with ⟨sym, nm⟩
  rw [hi] at hs hr h1 h2
  have own := ksp_try X I hs hf h
  obtain ⟨hh, g, d, tt, os⟩ := s
  have T1 : Looks (model prog w) hh (typeOf (.ref x)) (.ref C) := I.type
  have S1 : Looks (model prog w) hh (fillsNumberSlot (.ref C) nm) true := fills_K X hcd hmro hs
  have S2 : Looks (model prog w) hh (fillsNumberSlot (.type T) nm) ((fo.isSome && !isSeqSlot fo) || (ro.isSome && !isSeqSlot ro)) := ksp_fillsT X h1 h2
  have B1 : Looks (model prog w) hh (isSubtype (.type T) (.ref C)) false := looks_subIn X hsub
  have P1 : Looks (model prog w) hh (numberSlotInPython (.ref C) nm) true := ksp_inPy X hs hr hp
  have P2 : Looks (model prog w) hh (numberSlotInPython (.type T) nm) false := Looks.of_pure rfl
  have Z1 : Looks (model prog w) hh (typeLookup (.type T) (dunderR nm)) ro := looks_findIn X h2
  generalize ((fo.isSome && !isSeqSlot fo) || (ro.isSome && !isSeqSlot ro)) = other at S2
  have apart : (Value.ref C == Value.type T) = false := Bool.eq_false_iff.mpr fun q => by cases beq_iff_eq.mp q
  simp only [binaryOp, hi]
  refine wpAny_holding (wpAny_bind ?_)
  unfold binaryOp1
  refine wpAny_bind (T1.at (wpAny_bind (hb.at (wpAny_bind (S1.at ?_)))))
  simp only [apart, Bool.false_eq_true, if_false]
  cases other
  all_goals
    ksp_lk
    refine wpAny_mono own (fun r s' z => ?_) fun _ _ e => e
    obtain ⟨v, rfl, hq⟩ := z
    ksp_lk
    exact hq
end
end PySem.W
namespace Lp
open PySem PySem.Spec PyProof.Rows L2
section
variable {X : Cx} {CX : CXT} {k : Nat} {f C : Addr} {sp : Sp} {E : L2.St → XK} {pins : List (Addr × Obj)} {σ : L2.St} {H : Hp} {s : Shared} {Q : VK} {us : List Value} {vs : List V}
theorem run_atS {E : XK} (F : FnR X.prog X.w X.K X.mg X.base CX k f sp) (hr : Room k X.A) (hx : PassesAt CX X σ E) (I : Inv X pins σ H s) (r : Vals vs us) (h : sp vs H Q E) : wpAny (model X.prog X.w) X.A (call (.ref f) us) (EP X pins σ Q) X.xe s := by
  refine wpAny_call (codeAny_mono (F X.A X.stack s H us vs Q E hr I.env0 r h) fun r s' hq => ?_)
  rcases r with er | (_ | _ | _ | u)
  · exact hx pins H s er s' I hq
  · exact False.elim hq
  · exact False.elim hq
  · exact False.elim hq
  · exact I.after hq
/-- what stands at the right of an own operator: an instance of the same class, or something of a built-in class -/
structure Oth (K : PySem.W.Frag) (C : Addr) (nm T : String) : Prop where
  f : ∃ fo, PySem.W.findIn K (.type T) (PySem.dunder nm) = some fo
  r : ∃ ro, PySem.W.findIn K (.type T) (dunderR nm) = some ro
  s : PySem.W.subIn K (.type T) (.ref C) = some false
def OthV (K : PySem.W.Frag) (H : Hp) (C : Addr) (nm : String) (y : V) : Prop := (∃ b dy gs, y = .ref b ∧ H b = some (.ins C dy gs)) ∨ ∃ T, TyX K H y (.type T) ∧ Oth K C nm T
structure BinC (K : PySem.W.Frag) (C : Addr) (nm : String) (f : Addr) : Prop where
  first : PySem.W.selfFirst K C = true
  at_ : PySem.W.findIn K (.ref C) (PySem.dunder nm) = some (some (.ref f))
  fn : PySem.W.isFn K (.ref f) = true
  nor : PySem.W.findIn K (.ref C) (dunderR nm) = some none
def tBinS (K : PySem.W.Frag) (C : Addr) (nm : String) (sp : Sp) (E : L2.St → XK) (ta tb : TE) : TE := fun σ H Q => ta σ H fun x H1 => tb σ H1 fun y H2 => ∃ a dx fs, x = .ref a ∧ H2 a = some (.ins C dx fs) ∧ OthV K H2 C nm y ∧ sp [.ref a, y] H2 Q (E σ)
theorem bin_run {op : Operator} {nm : String} {E : XK} {a dx : Addr} {fs : List (Str × V)} {y : V} {u : Value} (hn : op.info.2 = nm) (B : BinC X.K C nm f) (F : FnR X.prog X.w X.K X.mg X.base CX k f sp) (hr : Room k X.A) (hx : PassesAt CX X σ E) (I : Inv X pins σ H s)
    (ha : H a = some (.ins C dx fs)) (ho : OthV X.K H C nm y) (ry : RelV y u) (h : sp [.ref a, y] H Q E) : wpAny (model X.prog X.w) X.A (binaryOp op (.ref a) u) (EP X pins σ Q) X.xe s := by
  subst hn
  obtain ⟨ox, od, J⟩ := ins_at I ha
  obtain ⟨m, fr⟩ := I.fr
  have own := thn (run_atS (vs := [.ref a, y]) F hr hx I (.cons rfl (.cons ry .nil)) h) fun r s1 z => back_of z
  rcases ho with ⟨b, dy, gs, rfl, hb⟩ | ⟨T, ty, ⟨fo, h1⟩, ⟨ro, h2⟩, h3⟩
  · obtain rfl : u = Value.ref b := ry
    obtain ⟨oy, od', J'⟩ := ins_at I hb
    exact PySem.W.binop_K fr I.ok.mod.kin J J'.type B.first B.at_ B.fn own
  · obtain ⟨PP, kit, hP, _⟩ := kit_of I ry ty
    exact PySem.W.lp_binT I.kIn J (kit.ty _ _ I.kIn hP) B.first B.at_ B.fn B.nor (.inl rfl) h1 h2 h3 own
theorem pe_binS {op : Operator} {nm : String} {a b : Expr} {ta tb : TE} {pos : Pos} (hn : op.info.2 = nm) (B : BinC X.K C nm f) (F : FnR X.prog X.w X.K X.mg X.base CX k f sp) (hr : Room k X.A) (hx : ∀ σ, PassesAt CX X σ (E σ)) (ha : PE X a ta) (hb : PE X b tb) :
    PE X (.BinOp a op b pos) (tBinS X.K C nm sp E ta tb) := by
  refine ⟨fun pins s σ H Q I h => ?_⟩
  refine wpAny_BinOp (binT ha hb I h fun v u s2 x y H2 I2 rx ry q => ?_)
  obtain ⟨p, dx, fs, rfl, hp, ho, q⟩ := q
  obtain rfl : v = Value.ref p := rx
  exact bin_run hn B F hr (hx σ) I2 hp ho ry q
theorem run_fnRS {E : XK} (F : FnR X.prog X.w X.K X.mg X.base CX k f sp) (hr : Room k X.A) (hx : PassesAt CX X σ E) (I : Inv X pins σ H s) (r : Vals vs us) (h : sp vs H Q E) :
    codeAny (model X.prog X.w) X.A (.call (.ref f) ⟨us, []⟩) (fun r s' => match r with | .ok (.ret v) => EP X pins σ Q v s' | .ok _ => False | .error e => X.xe e s') s := by
  refine codeAny_mono (F X.A X.stack s H us vs Q E hr I.env0 r h) fun r s' hq => ?_
  rcases r with er | (_ | _ | _ | u)
  · exact hx pins H s er s' I hq
  · exact False.elim hq
  · exact False.elim hq
  · exact False.elim hq
  · exact I.after hq
/-- o.m(e, ..) whose error is wished for at the slots -/
def tMethSS (C : Addr) (m : Str) (sp : Sp) (E : L2.St → XK) (ta : TE) (t : TA) : TE := fun σ H Q => ta σ H fun x H1 => ∃ a dx fs, x = .ref a ∧ H1 a = some (.ins C dx fs) ∧ fs.lookup m = none ∧ t σ H1 fun vs H2 => sp (x :: vs) H2 Q (E σ)
theorem pe_methSS {m : Str} {o e : Expr} {es : List Expr} {ta : TE} {t : TA} {apos pos : Pos} {pl : Sem Bool} (c : Cls X.K C) (hm : Meth X.K C m f) (F : FnR X.prog X.w X.K X.mg X.base CX k f sp) (hr : Room k X.A) (hx : ∀ σ, PassesAt CX X σ (E σ)) (he : PE X o ta) (ha : PA X (e :: es) t)
    (hst : starEach (e :: es) X.env = (false, eval e X.env) :: starEach es X.env := by rfl) (hpl : (backTo pos (starEach es X.env)).any (·.1) = false := by rfl)
    (ht : eval (.Call (.Attribute o m apos) (e :: es) [] pos) X.env = (do
      let ov ← eval o X.env
      standAt apos.atName
      let (f, first) ← holding [ov] (getMethod ov m pl)
      callWith pos f first (backTo pos (starEach (e :: es) X.env)) (backToKw pos (keywordEach [] X.env))) := by rfl) : PE X (.Call (.Attribute o m apos) (e :: es) [] pos) (tMethSS C m sp E ta t) := by
  refine ⟨fun pins s σ H Q I h => ?_⟩
  refine PySem.W.methodCall_KW (pl := pl) (thn (he.run pins s σ H _ I h) fun u s1 ⟨x, H1, I1, rx, a, dx, fs, ex, ea, l, q⟩ => ?_) ht
  subst ex
  obtain rfl : u = Value.ref a := rx
  refine getmeth_ok I1 ea c hm l ?_
  refine PySem.W.callWith_K (first := [.ref a]) (h₀ := X.base) I.ok.mod.kin hm.kp (thn (ha.run pos pins s1 σ H1 _ I1 q) fun us s2 ⟨vs, H2, I2, r, q2⟩ => ⟨I2.kIn, ?_⟩) hst hpl
  exact run_atS (us := .ref a :: us) (vs := .ref a :: vs) F hr (hx σ) I2 (.cons rfl r) q2
/-- C(e, ..) whose __init__ may raise, wished for at the slots -/
def tMakeSS (C : Addr) (sp : Sp) (E : L2.St → XK) (t : TA) : TE := fun σ H Q => t σ H fun vs H1 => ∀ x dx, H1 x = none → H1 dx = none → dx ≠ x → sp (.ref x :: vs) (upd (upd H1 dx (.own x)) x (.ins C dx [])) (fun v H2 => v = .non ∧ Q (.ref x) H2) (E σ)
theorem run_makeS {E : XK} (M : Mk X.K C f) (F : FnR X.prog X.w X.K X.mg X.base CX k f sp) (hr : Room (k + 1) X.A) (hx : ∀ (H : Hp) (s : Shared), Inv X pins σ H s → ∀ er s', CX X.stack H s E er s' → X.xe er s') (I : Inv X pins σ H s) (r : Vals vs us)
    (h : ∀ x dx, H x = none → H dx = none → dx ≠ x → sp (.ref x :: vs) (upd (upd H dx (.own x)) x (.ins C dx [])) (fun v H2 => v = .non ∧ Q (.ref x) H2) E) : wpAny (model X.prog X.w) X.A (call (.ref C) us) (EP X pins σ Q) X.xe s := by
  have hq := h (s.heap.objs.size + 1) s.heap.objs.size (I.hok.fresh (Nat.le_succ _)) (I.hok.fresh (Nat.le_refl _)) (Nat.ne_of_lt (Nat.lt_succ_self _))
  have I2 := Inv.made (C := C) I
  have r2 : Vals (V.ref (s.heap.objs.size + 1) :: vs) (Value.ref (s.heap.objs.size + 1) :: us) := .cons rfl r
  refine wpAny_call (make_map (f := f) I.kIn M.makes M.init (beq_iff_eq.mp M.fn) (codeAny_mono (F _ X.stack _ _ (Value.ref (s.heap.objs.size + 1) :: us) _ _ E (hr.make C us []) (I2.env0.make C us []) r2 hq) fun r s' hq' => ?_))
  rcases r with er | (_ | _ | _ | u)
  · exact hx _ _ I2 er s' hq'
  · exact False.elim hq'
  · exact False.elim hq'
  · exact False.elim hq'
  · obtain ⟨v, H', I3, rv, ev, q3⟩ := I2.after hq'
    subst ev
    exact ⟨rv, ⟨V.ref (s.heap.objs.size + 1), H', I3, rfl, q3⟩⟩
theorem pe_makeSS {x : Str} {e : Expr} {es : List Expr} {t : TA} {p pos : Pos} (M : Mk X.K C f) (F : FnR X.prog X.w X.K X.mg X.base CX k f sp) (hr : Room (k + 1) X.A) (hx : ∀ σ, PassesAt CX X σ (E σ)) (hg : Gl X x) (hm : X.mg x = some (.ref C)) (ha : PA X (e :: es) t)
    (hdb : (x == ("__debug__" : Str)) = false := by decide) (he : starEach (e :: es) X.env = (false, eval e X.env) :: starEach es X.env := by rfl) (hpl : (backTo pos (starEach es X.env)).any (·.1) = false := by rfl) :
    PE X (.Call (.Name x p) (e :: es) [] pos) (tMakeSS C sp E t) := by
  refine ⟨fun pins s σ H Q I h => ?_⟩
  refine wpAny_Call_Name_kw (ld_glob I hg hm ?_ hdb)
  refine PySem.W.callWith_K (h₀ := X.base) I.ok.mod.kin M.kp (thn (ha.run pos pins s σ H _ I h) fun us s1 ⟨vs, H1, I1, r, q⟩ => ⟨I1.kIn, ?_⟩) he hpl
  exact run_makeS M F hr (fun H s I er s' z => hx σ pins H s er s' I z) I1 r q
/-- o(e, ..), o an instance -/
def tCallOS (C : Addr) (sp : Sp) (E : L2.St → XK) (tf : TE) (t : TA) : TE := fun σ H Q => tf σ H fun y H1 => ∃ a, y = V.ref a ∧ t σ H1 fun vs H2 => (∃ dx fs, H2 a = some (.ins C dx fs)) ∧ sp (V.ref a :: vs) H2 Q (E σ)
theorem pe_callOS {fe e : Expr} {es : List Expr} {tf : TE} {t : TA} {pos : Pos} (c : StX.CallO X.K C f) (F : FnR X.prog X.w X.K X.mg X.base CX k f sp) (hr : Room k X.A) (hx : ∀ σ, PassesAt CX X σ (E σ)) (hf : PE X fe tf) (ha : PA X (e :: es) t)
    (ht : eval (.Call fe (e :: es) [] pos) X.env = (do callWith pos (← eval fe X.env) [] (backTo pos (starEach (e :: es) X.env)) (backToKw pos (keywordEach [] X.env))) := by rfl)
    (he : starEach (e :: es) X.env = (false, eval e X.env) :: starEach es X.env := by rfl) (hpl : (backTo pos (starEach es X.env)).any (·.1) = false := by rfl) : PE X (.Call fe (e :: es) [] pos) (tCallOS C sp E tf t) := by
  refine ⟨fun pins s σ H Q I h => ?_⟩
  refine Call_ (thn (hf.run pins s σ H _ I h) fun u s1 ⟨y, H1, I1, ry, a, ey, q⟩ => ?_) ht
  subst ey
  obtain rfl : u = Value.ref a := ry
  refine StX.callO_with (thn (ha.run pos pins s1 σ H1 _ I1 q) fun us s2 ⟨vs, H2, I2, r, ⟨dx, fs, hi⟩, q2⟩ => ?_) he hpl
  obtain ⟨ox, od, J, hd⟩ := StX.insC_at (C := C) I2 (.inr ⟨dx, fs, hi⟩)
  exact ⟨⟨C, ox, od, J, hd⟩, wpAny_call (PySem.W.kco_code I2.kIn J hd c.at_ c.fn c.fi (run_fnRS (us := .ref a :: us) (vs := .ref a :: vs) F hr (hx σ) I2 (.cons rfl r) q2))⟩
/-- the dict or list that a statement leaves is locked for good -/
def tFrz (t : TS) : TS := fun D σ H => t { D with nx := fun σ' H' => ∃ d u, H' d = some u ∧ Mut (some u) ∧ ∀ od, D.nx σ' (upd H' d (.frz od u)) } σ H
theorem ps_frz {st : Stmt} {t : TS} (h : PS X st t) : PS X st (tFrz t) := by
  refine ⟨fun pins s σ H D I hw => thn (h.run pins s σ H _ I hw) fun fl s1 q => ?_⟩
  rcases fl with _ | _ | _ | v
  · obtain ⟨σ', H', I', d, u, hd, mu, q⟩ := q
    obtain ⟨od, I1⟩ := I'.lock hd mu
    exact ⟨σ', _, I1, q od⟩
  · exact q
  · exact q
  · exact q
end
end Lp
namespace Lp
open PySem PySem.Spec PyProof.Rows L2
/-- what isinstance asks of an own class -/
structure OwnC (K : PySem.W.Frag) (C : Addr) : Prop where
  ha : PySem.W.findIn K (.ref C) "__class__" = some (some (.builtin "object.__class__"))
  hn : PySem.W.specialIn K (.builtin "object.__class__") "__get__" = some (some (.builtin "getset_descriptor.__get__"))
  ht : PySem.W.takesIn K (.builtin "object.__class__") = some true
  hm : PySem.W.mroIn K C (.type "object") = some true
  sf : PySem.W.selfFirst K C = true
  ns : PySem.W.noSeq K C = true
def ownB (K : PySem.W.Frag) (C : Addr) : Bool := decide (PySem.W.findIn K (.ref C) "__class__" = some (some (.builtin "object.__class__"))) && (decide (PySem.W.specialIn K (.builtin "object.__class__") "__get__" = some (some (.builtin "getset_descriptor.__get__"))) &&
  (decide (PySem.W.takesIn K (.builtin "object.__class__") = some true) && (decide (PySem.W.mroIn K C (.type "object") = some true) && (PySem.W.selfFirst K C && PySem.W.noSeq K C))))
theorem ownB_ok {K : PySem.W.Frag} {C : Addr} (h : ownB K C = true) : OwnC K C := by
  unfold ownB at h
  simp only [Bool.and_eq_true, decide_eq_true_eq] at h
  exact ⟨h.1, h.2.1, h.2.2.1, h.2.2.2.1, h.2.2.2.2.1, h.2.2.2.2.2⟩
theorem tyIns {K : PySem.W.Frag} {H : Hp} {a C dx : Addr} {fs : List (Str × V)} (c : Cls K C) (o : OwnC K C) (h : H a = some (.ins C dx fs)) : TyX K H (.ref a) (.ref C) := .base (.ins h c o.ha o.hn o.ht o.hm)
theorem raw0 {P : Program} {w : World} {K : PySem.W.Frag} {mg : Str → Option Value} {base : Heap} {CX : CXT} {k : Nat} {f : Addr} {fd : FuncData} {ps : List Str} {sp : Sp} (F : FnOk P w K mg base CX k f fd ps sp) (hb : Binds K fd ps []) : FnR P w K mg base CX k f sp :=
  (F.raw hb .nil).imp fun vs H Q E h => by rw [List.append_nil]; exact h
end Lp

set_option Elab.async false
set_option linter.all false
set_option maxRecDepth 100000
set_option maxHeartbeats 4000000
namespace Lp
open PySem PySem.Spec PyProof.Rows L2
/-- an own class that is none of the built-in ones -/
def NotB (K : PySem.W.Frag) (C : Addr) : Prop := ∀ T ∈ ["int", "str", "dict", "list", "tuple", "bool"], PySem.W.mroIn K C (.type T) = some false
def notB (K : PySem.W.Frag) (C : Addr) : Bool := ["int", "str", "dict", "list", "tuple", "bool"].all fun T => decide (PySem.W.mroIn K C (.type T) = some false)
theorem notB_ok {K : PySem.W.Frag} {C : Addr} (h : notB K C = true) : NotB K C := fun T hT => of_decide_eq_true (List.all_eq_true.mp h T hT)
/-- a built-in value is no instance of an own class -/
theorem kit_no {K : PySem.W.Frag} {C : Addr} {T : String} (h : ((PySem.W.clsIn K C).isSome && PySem.W.typeIn K (.ref C) == some (.type "type")) = true) (hT : T ∈ ["NoneType", "int", "str", "dict", "list", "tuple", "bool"]) : PySem.W.kitOne K (.type T) (.ref C) = some false := by
  have e : PySem.W.kitOne K (.type T) (.ref C) = PySem.W.subIn K (.type T) (.ref C) := by
    show (if (Value.type T == Value.ref C) = true then some true else if _ = true then PySem.W.subIn K (.type T) (.ref C) else none) = _
    rw [if_neg (by simp), if_pos h]
  rw [e]
  simp only [List.mem_cons, List.not_mem_nil, or_false] at hT
  rcases hT with rfl | rfl | rfl | rfl | rfl | rfl | rfl <;> rfl
theorem kit_self {K : PySem.W.Frag} {C : Addr} : PySem.W.kitOne K (.ref C) (.ref C) = some true := by
  show (if (Value.ref C == Value.ref C) = true then some true else _) = _
  rw [if_pos (beq_self_eq_true _)]
theorem kit_own {K : PySem.W.Frag} {C : Addr} (n : NotB K C) {T : String} (hm : PySem.W.kitMeta T = true) (hT : T ∈ ["int", "str", "dict", "list", "tuple", "bool"]) : PySem.W.kitOne K (.ref C) (.type T) = some false := by
  show (if (Value.ref C == Value.type T) = true then some true else if _ = true then PySem.W.subIn K (.ref C) (.type T) else none) = _
  rw [if_neg (by simp), if_pos hm]
  exact n T hT
theorem pe_dead {X : Cx} {e : Expr} : PE X e (fun _ _ _ => False) := ⟨fun _ _ _ _ _ _ h => False.elim h⟩
theorem r_nil {σ : L2.St} {H : Hp} {Q : List V → Hp → Prop} (h : Q [] H) : tNil σ H Q := h
section
variable {X : Cx}
/-- a dict that is locked, or is locked here for a while -/
def tLockR (t : TE) : TE := fun σ H Q => t σ H Q ∨ tLockE t σ H Q
theorem pe_lockR {e : Expr} {t : TE} (h : PE X e t) : PE X e (tLockR t) :=
  ⟨fun pins s σ H Q I q => q.elim (h.run pins s σ H Q I) ((pe_lock h).run pins s σ H Q I)⟩
theorem Same.unlock {H H' : Hp} {d : Addr} {od : Obj} {u : HO} (h : H d = some u) (s : Same (upd H d (.frz od u)) H') : Same H (upd H' d u) := fun b o e => by
  by_cases hb : b = d
  · rw [hb] at e ⊢
    rw [h] at e
    rw [upd_same]
    exact e
  · rw [upd_ne hb]
    exact s b o (by rw [upd_ne hb]; exact e)
theorem lockR_of {t : TE} {σ : L2.St} {H : Hp} {Q : VK} {d : Addr} {u : HO} {v : V} (hd : Rd H d u) (mu : Mut (some u)) (h : ∀ (o : Obj) (H1 : Hp) (Q1 : VK), H1 d = some (.frz o u) → (∀ H', Same H1 H' → Q1 v H') → t σ H1 Q1) (q : ∀ H', Same H H' → Q v H') : tLockR t σ H Q := by
  rcases hd with hd | ⟨o, hd⟩
  · refine .inr ⟨d, u, hd, mu, fun od => h od _ _ upd_same fun H' s => ⟨s _ _ upd_same, q _ (Same.unlock hd s)⟩⟩
  · exact .inl (h o H Q hd q)
/-- the value of a key of a dict -/
theorem valV_at : ∀ {kvs : List (Key × V)} {i : Nat} {k : Key} {v : V}, (kvs.map (·.1)).Nodup → kvs[i]? = some (k, v) → valV kvs k = some v
  | [], _, _, _, _, h => by simp at h
  | p :: r, 0, k, v, _, h => by
    simp at h
    subst h
    exact valV_pos rfl
  | p :: r, i + 1, k, v, nd, h => by
    obtain ⟨n1, n2⟩ := List.nodup_cons.mp (show (p.1 :: r.map (·.1)).Nodup from nd)
    have h' : r[i]? = some (k, v) := by simpa using h
    rw [valV_neg fun e => n1 (by rw [e]; exact List.mem_map.mpr ⟨_, List.mem_of_getElem? h', rfl⟩)]
    exact valV_at n2 h'

def puts (l : List (Key × V)) : List (Key × V) := l.foldl (fun a p => putK a p.1 p.2) []
theorem puts_snoc (l : List (Key × V)) (p : Key × V) : puts (l ++ [p]) = putK (puts l) p.1 p.2 := by
  unfold puts
  rw [List.foldl_append]
  rfl
theorem puts_len (l : List (Key × V)) : (puts l).length ≤ l.length := by
  suffices h : ∀ (l a : List (Key × V)), (l.foldl (fun a p => putK a p.1 p.2) a).length ≤ a.length + l.length by
    have := h l []
    rw [List.length_nil, Nat.zero_add] at this
    exact this
  intro l
  induction l with
  | nil => intro a; simp
  | cons p r ih =>
    intro a
    have h1 := ih (putK a p.1 p.2)
    have h2 := length_putK a p.1 p.2
    show (r.foldl _ (putK a p.1 p.2)).length ≤ a.length + (r.length + 1)
    omega
theorem putK_new {kvs : List (Key × V)} {k : Key} {v : V} (h : k ∉ kvs.map (·.1)) : putK kvs k v = kvs ++ [(k, v)] := by
  unfold putK
  rw [if_neg]
  intro q
  obtain ⟨p, hp, e⟩ := List.any_eq_true.mp q
  exact h (List.mem_map.mpr ⟨p, hp, of_decide_eq_true e⟩)
theorem puts_nodup {l : List (Key × V)} (nd : (l.map (·.1)).Nodup) : puts l = l := by
  suffices h : ∀ (l a : List (Key × V)), ((a ++ l).map (·.1)).Nodup → l.foldl (fun a p => putK a p.1 p.2) a = a ++ l by
    exact h l [] nd
  intro l
  induction l with
  | nil => intro a _; simp
  | cons p r ih =>
    intro a nd
    have hn : p.1 ∉ a.map (·.1) := fun hm => by
      rw [List.map_append, List.nodup_append] at nd
      exact nd.2.2 _ hm _ (List.mem_map.mpr ⟨p, List.mem_cons_self .., rfl⟩) rfl
    show r.foldl _ (putK a p.1 p.2) = a ++ p :: r
    rw [putK_new hn, ih _ (by rw [List.append_assoc]; exact nd), List.append_assoc]
    rfl
/-- a dict comprehension: f tells which turns give, key and R what they give -/
theorem dc_gw {J : It} {n : Nat} {G : Hp → Prop} {Y : Nat → Hp → V → Hp → Prop} (w : Walk J n G Y) {g : TG} {tt : TT} {tk tv : TE} {vs : List Nat} {σ : L2.St} {F0 H1 : Hp} {D : Addr} {Qd : Hp → Prop} (f : Nat → Bool) (key : Nat → Key) (R : Nat → V → Hp → Prop) (Rm : ∀ i y A B, Same A B → R i y A → R i y B)
    (s0 : Same F0 H1) (hD : H1 D = none) (hn : n < 100000) (hG : ∀ H, Same H1 H → G H)
    (hs : ∀ i x F H H' (Qn : V → V → Hp → Prop) (Qs : Hp → Prop), i < n → Gw F0 H1 F H → Y i H x H' → (f i = true → ∀ z F' H4, Gw F H F' H4 → R i z F' → Qn (kV (key i)) z H4) → (f i = false → ∀ F' H4, Gw F H F' H4 → Qs H4) →
      g x (wipe σ vs) H' fun σ2 H2 => wipe σ2 vs = wipe σ vs ∧ tt σ2 H2 fun b H3 => if b = true then tk σ2 H3 fun y H4 => tv σ2 H4 fun z H5 => Qn y z H5 else Qs H3)
    (hd : ∀ ys F H, Gw F0 H1 F H → F D = none → Paired (fun i y => R i y F) ((List.range n).filter f) ys → H D = some (.dK (puts ((((List.range n).filter f).map key).zip ys))) → Qd H) :
    ∃ W : Nat → Nat → Hp → Prop, (∃ m, W 0 m (upd H1 D (.dK []))) ∧ ∀ i m H, W i m H →
      (J.stop i H ∧ Qd H) ∨ (J.go i H ∧ ∃ Nx : Hp → Prop, (∀ H', Nx H' → ∃ m', m' < m ∧ W (i + 1) m' H') ∧ ∀ x H', J.yld i H x H' → g x (wipe σ vs) H' fun σ2 H2 => wipe σ2 vs = wipe σ vs ∧ tt σ2 H2 fun b H3 =>
        if b = true then tk σ2 H3 fun y H4 => tv σ2 H4 fun z H5 => ∃ kvs k, y = kV k ∧ H5 D = some (.dK kvs) ∧ kvs.length < sizeLine ∧ Nx (upd H5 D (.dK (putK kvs k z))) else Nx H3) := by
  have ext : ∀ {k : Nat}, (List.range (k + 1)).filter f = (List.range k).filter f ++ (if f k = true then [k] else []) := fun {k} => by
    rw [List.range_succ, List.filter_append]
    by_cases e : f k = true
    · simp [e]
    · simp [e]
  let Pv : Nat → Hp → Prop := fun i H => ∃ F ys, Gw F0 H1 F H ∧ F D = none ∧ Paired (fun i y => R i y F) ((List.range i).filter f) ys ∧ H D = some (.dK (puts ((((List.range i).filter f).map key).zip ys)))
  refine ⟨fun i m H => m = n - i ∧ i ≤ n ∧ Pv i H, ⟨n, by simp, Nat.zero_le _, F0, [], Gw.junk s0 hD, same_off s0 hD, .nil, upd_same⟩, ?_⟩
  rintro i m H ⟨rfl, hi, F, ys, gw, fD, pr, hH⟩
  have q := hG H gw.hh
  by_cases hlt : i < n
  · refine .inr ⟨w.goes i H hlt q, Pv (i + 1), fun H' p' => ⟨n - (i + 1), by omega, rfl, hlt, p'⟩, fun x H' hy => ?_⟩
    refine hs i x F H H' (fun y z H5 => ∃ kvs k, y = kV k ∧ H5 D = some (.dK kvs) ∧ kvs.length < sizeLine ∧ Pv (i + 1) (upd H5 D (.dK (putK kvs k z)))) (Pv (i + 1)) hlt gw (w.yields i H x H' hlt q hy) (fun hf z F' H4 g4 r => ?_) (fun hf F' H4 g4 => ?_)
    · have len : ((((List.range i).filter f).map key).zip ys).length ≤ i := by
        rw [List.length_zip, ← pr.length, List.length_map]
        have := List.length_filter_le f (List.range i)
        rw [List.length_range] at this
        omega
      have len2 := puts_len ((((List.range i).filter f).map key).zip ys)
      refine ⟨_, key i, rfl, g4.hh _ _ hH, Nat.lt_of_le_of_lt len2 (Nat.lt_of_le_of_lt len (Nat.lt_trans hlt (Nat.lt_of_lt_of_le hn (by decide)))), F', ys ++ [z], (gw.trans g4).mut hD (g4.off fD hH), g4.off fD hH, ?_, ?_⟩
      · rw [ext, if_pos hf]
        exact paired_app (paired_imp (fun a b q => Rm _ _ _ _ g4.ff q) pr) (.cons r .nil)
      · rw [upd_same, ext, if_pos hf, List.map_append, List.zip_append (by rw [List.length_map]; exact pr.length)]
        show _ = some (HO.dK (puts (_ ++ [(key i, z)])))
        rw [puts_snoc]
    · refine ⟨F', ys, gw.trans g4, g4.off fD hH, ?_, ?_⟩
      · rw [ext, if_neg (by rw [hf]; decide), List.append_nil]
        exact paired_imp (fun a b q => Rm _ _ _ _ g4.ff q) pr
      · rw [ext, if_neg (by rw [hf]; decide), List.append_nil]
        exact g4.hh _ _ hH
  · have e : i = n := by omega
    subst e
    exact .inl ⟨w.stops H q, hd ys F H gw fD pr hH⟩
end
end Lp

set_option Elab.async false
set_option linter.all false
set_option maxRecDepth 100000
set_option maxHeartbeats 4000000
namespace Lp
open PySem PySem.Spec PyProof.Rows L2
/-! ### a dict of plain values shown while other things are being shown -/
theorem reprK_flat {P : Program} {w : World} {h : Heap} {v : V} {u : Value} (f : flD v = true) (r : RelV v u) (sw : (vD v).showable = true) (hz : (vD v).shown.length ≤ sizeLine) : ReprK P w [] h 0 u (vD v).shown := by
  cases v with
  | non => cases r; exact .of_is .none _ _ _
  | bl b => cases r; exact .of_is (.bool b) _ _ _
  | int i => obtain ⟨t, rfl⟩ := r; exact .of_is (.int t (of_decide_eq_true sw)) _ _ _
  | str x => obtain ⟨t, rfl⟩ := r; exact .of_is (.str x t hz) _ _ _
  | byt b => cases f
  | flt b => cases f
  | ref a => cases f
  | ty n => cases f
theorem reprK_key {P : Program} {w : World} {h : Heap} (k : Key) (v : Value) (e : (mixKind P w).is k v = true) (sw : (kD k).showable = true) (hz : (kD k).shown.length ≤ sizeLine) : ReprK P w [] h 0 v (kD k).shown := by
  rcases keyIs_shape e with ⟨i, t, rfl, rfl⟩ | ⟨x, t, rfl, rfl⟩
  · exact .of_is (.int t (of_decide_eq_true sw)) _ _ _
  · exact .of_is (.str x t hz) _ _ _
theorem entries_flat {P : Program} {w : World} {h : Heap} : ∀ {es : List DictEntry} {vs : List (Key × Value)} {kvs : List (Key × V)}, Pairs (mixKind P w) es vs → KV kvs vs → (∀ p ∈ kvs, flD p.2 = true) → PyData.showableKv (kvs.map fun p => (kD p.1, vD p.2)) = true →
    (∀ t ∈ PyData.shownKv (kvs.map fun p => (kD p.1, vD p.2)), t.length ≤ sizeLine) → ReprEntriesK P w [] h 0 es (PyData.shownKv (kvs.map fun p => (kD p.1, vD p.2)))
  | _, _, [], .nil, _, _, _, _ => .nil
  | _, _, p :: kvs, .nil, k, _, _, _ => nomatch (show Paired _ _ _ from k)
  | _, _, [], .cons _ _ _, k, _, _, _ => nomatch (show Paired _ _ _ from k)
  | e :: es, (k', u) :: vs, (k, v) :: kvs, .cons hk hv hp, kv, hf, sw, hz => by
    cases (show Paired _ _ _ from kv) with
    | cons r t =>
      obtain ⟨e1, r2⟩ := r
      have e1' : k = k' := e1
      subst e1'
      obtain ⟨sw1, sw3⟩ := Bool.and_eq_true_iff.mp (show (((kD k).showable && (vD v).showable) && PyData.showableKv (kvs.map fun p => (kD p.1, vD p.2))) = true from sw)
      obtain ⟨sw1, sw2⟩ := Bool.and_eq_true_iff.mp sw1
      have l0 : ((kD k).shown ++ ": " ++ (vD v).shown).length ≤ sizeLine := hz _ (List.mem_cons_self ..)
      rw [strLen_append, strLen_append] at l0
      refine ReprEntriesK.cons (reprK_key k _ hk sw1 (by omega)) ?_ (entries_flat hp t (fun p h => hf p (List.mem_cons_of_mem _ h)) sw3 fun x hx => hz x (List.mem_cons_of_mem _ hx))
      rw [hv]
      exact reprK_flat (hf _ (List.mem_cons_self ..)) r2 sw2 (show (vD v).shown.length ≤ sizeLine by omega)
section
variable {X : Cx} {pins : List (Addr × Obj)} {σ : L2.St} {H : Hp} {s : Shared}
theorem dict_shown (I : Inv X pins σ H s) {a : Addr} {kvs : List (Key × V)} (hr : Rd H a (.dK kvs)) (hf : ∀ p ∈ kvs, flD p.2 = true) (hw : (dD kvs).showable = true) (hz : (dD kvs).shown.length ≤ sizeLine) {A : Around} {g : List Code} {E : Value → Shared → Prop} {s' : Shared} {Q : Value → Shared → Prop}
    (hg : A.guards = some g) (hc : Clear g a) (hu : A.units + 1 < cLine) (hk0 : ∀ b o, s.heap.get? b = some o → s'.heap.get? b = some o)
    (hQ : ∀ h' u tk, (∀ b o, s'.heap.get? b = some o → h'.get? b = some o) → Q (.str (dD kvs).shown u) { s' with heap := h', toks := tk }) : wpAny (model X.prog X.w) A (call (.builtin "dict.__repr__") [.ref a]) Q E s' := by
  obtain ⟨_, hne, vs, kv, hd⟩ := hr.ok I.hok
  obtain ⟨o, es, ep, ho, hx, hdat, _, hp, _⟩ := hd
  have hz' : (dictText (PyData.shownKv (kvs.map fun p => (kD p.1, vD p.2)))).length ≤ sizeLine := by simpa only [dD, PyData.shown, PyData.shownKv_eq] using hz
  have hE := entries_flat (h := s.heap) hp kv hf (by simpa [dD, PyData.showable] using hw) (fun t ht => Nat.le_trans (dictText_mem_le ht) hz')
  simp only [dD, PyData.shown, PyData.shownKv_eq] at hQ
  exact call_dict_reprK ho hx.1 hdat hne (by simp) hE hg (fun b hb => by rw [List.mem_singleton.mp hb]; exact hc) hu hk0 (by rw [← PyData.shownKv_eq] at *; exact hQ) hz'
/-- {d} in an f-string, d a dict of plain values -/
def tFmtD (g : List Code) (te : TE) : TE := fun σ H Q => te σ H fun x H1 => ∃ a kvs, x = .ref a ∧ Rd H1 a (.dK kvs) ∧ (∀ p ∈ kvs, flD p.2 = true) ∧ (dD kvs).showable = true ∧ (dD kvs).shown.length ≤ sizeLine ∧ Clear g a ∧ Q (.str (dD kvs).shown) H1
theorem pe_fmtD {g : List Code} {e : Expr} {te : TE} {pos : Pos} (gd : X.A.guards = some g) (hu : X.A.units + 64 < cLine) (he : PE X e te) : PE X (.FormattedValue e (-1) none pos) (tFmtD g te) := by
  refine ⟨fun pins s σ H Q I h => ?_⟩
  refine wpAny_FormattedValue_plain (thn (he.run pins s σ H _ I h) fun v s1 hv => ?_)
  obtain ⟨x, H1, I1, r1, a, kvs, rfl, hr, hf, hw, hz, hc, q⟩ := hv
  obtain rfl : v = Value.ref a := r1
  obtain ⟨_, hne, vs, kv, hd⟩ := hr.ok I1.hok
  have ty : s1.TypeIs (.ref a) "dict" := by
    obtain ⟨o, es, ep, ho, hx, _⟩ := hd
    exact ⟨o, ho, hx.1⟩
  refine wpAny_formatField_slot (fun _ _ => nofun) (by omega) ty F.slot_dict_format F.slot_dict_str F.slot_dict_repr ?_
  refine dict_shown (A := X.A.in1.in1) I1 hr hf hw hz gd hc (by show X.A.units + 1 + 1 + 1 < cLine; omega) (fun _ _ z => z) fun h' u tk hk => ⟨_, _, rfl, .str (dD kvs).shown, H1, I1.kept (t' := tk) hk, ⟨u, rfl⟩, q⟩
end
end Lp

set_option Elab.async false
set_option linter.all false
set_option maxRecDepth 100000
set_option maxHeartbeats 4000000
namespace PySem.W
open PySem PySem.Calls PyProof.Rows
theorem lp_ifBoundBy {M : Model} {A : Around} {E : Value → Shared → Prop} {s : Shared} {K : Frag} {x C f : Addr} {ox : Obj} {od : Option Obj} {name : Str} {last : Value → List Value → Sem Value} {Q : Option Value → Shared → Prop} (X : K.In s.heap) (I : InstAt s.heap x ox C od)
    (hs : findIn K (.ref C) name = some (some (.ref f))) (hf : isFn K (.ref f) = true) (h : wpAny M A (last (.ref f) [.ref x]) (fun v => Q (some v)) E s) : wpAny M A (callSpecialIfBoundBy? last (.ref x) name) Q E s := by
  simp only [callSpecialIfBoundBy?, bindSpecialIfBound?]
  refine wpAny_holding (wpAny_bind (wpAny_bind (wpAny_bind (I.type.here ((looks_findIn X hs).here ?_)))))
  refine wpAny_bind (wpAny_askSetting (wpAny_ite ?_))
  have fin : wpAny M A (last (.ref f) [.ref x] >>= fun v => pure (some v)) Q E s := wpAny_bind (wpAny_mono h (fun v s' h' => wpAny_pure h') fun _ _ h' => h')
  split
  · exact wpAny_bind ((bind_fn X _ (beq_iff_eq.mp hf)).here (wpAny_pure (by exact fin)))
  · exact wpAny_tryCatch (wpAny_bind ((bind_fn X _ (beq_iff_eq.mp hf)).here (wpAny_pure (by exact fin))))
/-- repr of an instance within something that is shown, by its own __repr__ -/
theorem lp_reprUnder {M : Model} {A : Around} {E : Value → Shared → Prop} {s : Shared} {K : Frag} {x C f : Addr} {ox : Obj} {od : Option Obj} {b : Nat} {Q : Str → Shared → Prop} (hb : b ≤ sizeLine) (hu : A.units < cLine) (X : K.In s.heap) (I : InstAt s.heap x ox C od)
    (hs : findIn K (.ref C) "__repr__" = some (some (.ref f))) (hf : isFn K (.ref f) = true) (h : wpAny M A (call (.ref f) [.ref x]) (fun v s' => ∃ z u, v = .str z u ∧ Q z s') E s) : wpAny M A (pyReprUnder b (.ref x)) Q E s := by
  refine wpAny_pyReprUnder_ref hb ?_
  unfold pyReprObjUnder pyReprObjBy
  refine wpAny_bind (wpAny_cRoomFor hu ?_)
  refine wpAny_bind (wpAny_bind (I.type.here ((looks_findIn X hs).here ?_)))
  show wpAny _ _ (if (some (Value.ref f)).isNone = true then _ else _) _ _ _
  rw [if_neg (by simp)]
  refine wpAny_bind (lp_ifBoundBy (name := Str.ofString "__repr__") X I hs hf ?_)
  refine wpAny_mono h (fun v s' hv => ?_) fun _ _ z => z
  obtain ⟨z, u, rfl, hq⟩ := hv
  exact wpAny_bind (wpAny_isInstance (T := "str") (b := true) rfl isSubtype_str_str (wpAny_pure ⟨z, u, rfl, hq⟩))
end PySem.W
namespace Lp
open PySem PySem.Spec PyProof.Rows L2
/-! ### methods that run while something is shown, or an exception is handled -/
abbrev SpG := List Code → Sp
def Heat (A : Around) (outer : List Env) (H : Hp) (s : Shared) : Prop := A.handled = none ∨ ∃ p, L2H.PinOk outer H s p
structure FnU (P : Program) (w : World) (K : PySem.W.Frag) (mg : Str → Option Value) (base : Heap) (k : Nat) (f : Addr) (sp : SpG) : Prop where
  run : ∀ (g : List Code) (A : Around) (outer : List Env) (s : Shared) (H : Hp) (us : List Value) (vs : List V) (Q : VK), A.guards = some g → L2H.RoomH k A → Heat A outer H s → Env0 P w K mg base A outer s H → Vals vs us → sp g vs H Q E0 →
    codeAny (model P w) A (.call (.ref f) ⟨us, []⟩) (CR CX0 outer P w H s Q E0) s
section
variable {P : Program} {w : World} {K : PySem.W.Frag} {mg : Str → Option Value} {base : Heap} {CX : CXT} {f : Addr} {fd : FuncData} {ps : List Str}
theorem body_atH {k : Nat} {name qual : Str} {params : Arguments} {body : List Stmt} {scope : Scope} {dV kV doc pm cdv ct oc : Value} {an od : Option Addr} {osl : Array (Option Value)} {N : List Str}
    (lk : K.lookup f = some ⟨oc, od, .func (PySem.W.fnOf name qual params body scope dV kV doc pm an cdv ct), osl⟩) (hcd : PySem.W.codeIn K cdv qual = true) (S : FnScope N ps scope)
    {A : Around} {outer : List Env} {s : Shared} {H : Hp} {args : Args} {us : List Value} {vs : List V} {Q : VK} {E : XK} {p : Addr × Obj} (hl : vs.length = ps.length) (hr : L2H.RoomH (k + 1) A) (hpin : L2H.PinOk outer H s p) (e0 : Env0 P w K mg base A outer s H)
    (hb : BindsTo s (PySem.W.fnOf name qual params body scope dV kV doc pm an cdv ct) args (ps.zip us)) (r : Vals vs us)
    {t : TS} (ht : PSs (L2H.cxH CX P w K mg base N qual scope f cdv A outer s H E p) body t) (hq : t { nx := fun _ H' => Q .non H', rt := Q } (start N vs) H) :
    codeAny (model P w) A (.call (.ref f) args) (CR CX outer P w H s Q E) s := by
  have stays : ∀ b o, base.get? b = some o → s.heap.get? b = some o := fun b o e => (e0.bs b o e).1
  have KX : K.In s.heap := e0.mod.kin.keeps stays
  have kinds : ∀ y ∈ ps.zip us, scope.names.lookup y.1 = some .local ∨ (scope.names.lookup y.1 = some .cell ∧ ((cellsFrom (s.heap.objs.size + 1) scope.names []).lookup y.1).isSome = true) := by
    rintro ⟨n, v⟩ hy
    rcases S.par n (List.of_mem_zip hy).1 with q | q
    · exact .inl q
    · exact .inr ⟨q, PySem.W.cellsFrom_some _ _ _ (.inl q)⟩
  refine codeAny_call_function hr.depth (KX _ _ lk) rfl S.co S.gen rfl (PySem.W.codeRec_of KX hcd) (hb _ _ _ _ ?_)
  refine wpAny_newFunctionEnv_cells S.kind kinds fun env he s1 x => ?_
  subst he
  refine ⟨(e0.mod.nolimit.keeps stays).keeps x.toInCall.keep, codeAny_func ?_⟩
  have I := L2H.inv_startH (CX := CX) (E := E) S hpin e0 hl r x
  refine wpAny_mono (ht.run [] s1 (start N vs) H _ I hq) (fun fl s' hs => ?_) fun e s' hs => hs
  cases fl with
  | ret u => exact let ⟨v, _, H', J, rv, q⟩ := hs; ⟨v, H', J.os, J.bare, J.base, J.hok, rv, q⟩
  | next => exact let ⟨_, H', J, q⟩ := hs; ⟨V.non, H', J.os, J.bare, J.base, J.hok, rfl, q⟩
  | brk => exact False.elim (let ⟨_, _, _, q⟩ := hs; q)
  | cont => exact False.elim (let ⟨_, _, _, q⟩ := hs; q)
theorem okU {sp : SpG} {x qual : Str} {params : Arguments} {body : List Stmt} {scope : Scope} {dvs : List V} {kws : List (Str × V)} {N : List Str} {k : Nat} (F : FunD K x qual params body scope dvs kws f fd) (S : FnScope N ps scope) (hbd : Binds K fd ps []) (len : ∀ g vs H Q E, sp g vs H Q E → vs.length = ps.length)
    (hc : ∀ (g : List Code) (cdv : Value) (A : Around) (outer : List Env) (s : Shared) (H : Hp) (vs : List V) (Q : VK), A.guards = some g → L2H.RoomH k (A.deeper (envOfC qual scope s.heap.objs.size f cdv)) → sp g vs H Q E0 →
      ∃ t, PSs (cxOf CX0 P w K mg base N qual scope f cdv A outer s H E0) body t ∧ t { nx := fun _ H' => Q .non H', rt := Q } (start N vs) H)
    (hh : ∀ (g : List Code) (cdv : Value) (A : Around) (outer : List Env) (s : Shared) (H : Hp) (vs : List V) (Q : VK) (p : Addr × Obj), A.guards = some g → L2H.RoomH k (A.deeper (envOfC qual scope s.heap.objs.size f cdv)) → sp g vs H Q E0 →
      ∃ t, PSs (L2H.cxH CX0 P w K mg base N qual scope f cdv A outer s H E0 p) body t ∧ t { nx := fun _ H' => Q .non H', rt := Q } (start N vs) H) : FnU P w K mg base (k + 1) f sp := by
  obtain ⟨oc, od, dV, kV, doc, pm, an, cdv, ct, osl, rfl, lk, hcd, _, _⟩ := F.ex
  refine ⟨fun g A outer s H us vs Q hg hr heat e0 r hsp => ?_⟩
  have hl := len _ _ _ _ _ hsp
  have KX : K.In s.heap := e0.mod.kin.keeps fun b o e => (e0.bs b o e).1
  have b := hbd s us KX (by rw [List.append_nil, ← r.length]; exact hl)
  rw [List.append_nil] at b
  rcases heat with h0 | ⟨p, hp⟩
  · obtain ⟨t, ht, hq⟩ := hc g cdv A outer s H vs Q hg (hr.deeper _) hsp
    exact body_at lk hcd S hl ⟨h0, hr.dp, hr.un⟩ e0 b r ht hq
  · obtain ⟨t, ht, hq⟩ := hh g cdv A outer s H vs Q p hg (hr.deeper _) hsp
    exact body_atH lk hcd S hl hr hp e0 b r ht hq
end
section
variable {X : Cx} {pins : List (Addr × Obj)} {σ : L2.St} {H : Hp} {s : Shared} {k : Nat} {f C : Addr} {sp : SpG}
theorem heat_at (ht : X.A.handled = none ∨ X.pn ≠ []) (I : Inv X pins σ H s) : Heat X.A X.stack H s := by
  rcases ht with h | h
  · exact .inl h
  · obtain ⟨p, l, e⟩ := List.exists_cons_of_ne_nil h
    have P1 := I.pin p (List.mem_append_left _ (by rw [e]; exact List.mem_cons_self ..))
    exact .inr ⟨p, ⟨P1.1, P1.2.1, fun hm => (List.mem_cons.mp (I.stkSub p.1 hm)).elim P1.2.2.1 P1.2.2.2.1, P1.2.2.2.2⟩⟩
/-- repr of a list that holds one instance -/
def rReprL (C : Addr) (sp : SpG) : List V → Hp → VK → Prop := fun xs H Q => ∃ p b dx fs z, xs = [.ref p] ∧ H p = some (.lst [.ref b]) ∧ H b = some (.ins C dx fs) ∧ (listText [z]).length ≤ sizeLine ∧
  ∀ rest, sp [.builtin "list.__repr__.loop" ⟨.ref p :: rest, []⟩] [.ref b] H (fun v H' => v = .str z ∧ Same H H' ∧ Q (.str (listText [z])) H') E0
theorem call_reprL (gd : X.A.guards = some []) (hr : L2H.RoomH (k + 1) X.A) (ht : X.A.handled = none ∨ X.pn ≠ []) (hs : PySem.W.findIn X.K (.ref C) "__repr__" = some (some (.ref f))) (hf : PySem.W.isFn X.K (.ref f) = true)
    (F : FnU X.prog X.w X.K X.mg X.base k f sp) : CallR X (.builtin "repr") (rReprL C sp) := by
  intro pins s σ H xs us Q I r h
  obtain ⟨p, b, dx, fs, z, rfl, hp, hb, hz, hsp⟩ := h
  obtain ⟨u, rfl, ru⟩ := vals1 r
  obtain rfl : u = Value.ref p := ru
  obtain ⟨_, its, n, rv, hget⟩ := (show ObjOk X.prog X.w H s.heap p (.lst [.ref b]) from I.hok p _ hp)
  obtain ⟨u2, rfl, ru2⟩ := vals1 rv
  obtain rfl : u2 = Value.ref b := ru2
  have hun := hr.un
  have hX : (listText [z]).length = (textFrom 0 "[" [z]).length + 1 := by
    show (textFrom 0 "[" [z] ++ "]").length = _
    rw [strLen_append]; rfl
  have hL := (textFrom_len [z] 0 "[").2.1 z (List.mem_cons_self ..)
  refine call_repr_slot (by omega) ⟨_, hget, rfl⟩ PySem.F.slot_list_repr.toG ?_
  refine wpAny_call (codeAny_call_builtin PySem.F.slot_list_repr.plain PySem.F.entry_list_repr (PySem.F.slot_list_repr.check _ _ _ _ _ _ _ _ ⟨_, hget, rfl⟩ (PySem.F.args_list_repr_1 _) ?_))
  refine wpAny_list_repr_head (A := X.A.in1.in1) (b := 0) gd (fun v rest kw hm => nomatch hm) hget rfl ?_
  refine wpAny_bind (m := newList []) (wpAny_newObj_type ?_)
  refine wpAny_pure ⟨PySem.F.quiet_list_repr_loop _, ?_⟩
  have I1 : Inv X pins σ H { s with heap := s.heap.push { cls := .type "list", data := .seq #[] } } := I.kept (t' := s.toks) fun b ob e => Heap.get?_push_of_some _ e
  have hget1 := Heap.get?_push_of_some (o := { cls := .type "list", data := .seq #[] }) hget
  have hP : (s.heap.push { cls := .type "list", data := .seq #[] }).get? s.heap.objs.size = some { cls := .type "list", data := .seq #[] } := Heap.get?_push_size _ rfl
  have hPn : H s.heap.objs.size = none := I.hok.fresh (Nat.le_refl _)
  have fpP := I.fpOk (H' := H) (Nat.le_refl _) hPn
  generalize s.heap.objs.size = Pa at *
  generalize (s.heap.push { cls := .type "list", data := .seq #[] }) = h1 at *
  have hne : p ≠ Pa := ne_of_none hp hPn
  refine codeAny_builtin PySem.F.entry_list_repr_loop ?_
  show wpAny _ _ (Builtin.«list.__repr__.loop» ⟨[.ref p, .int (0 : Nat) 0, .ref Pa, .int (0 : Nat) 0], []⟩) _ _ _
  rw [repr_loop_tree]
  refine wpAny_bind (wpAny_listItems hget1 rfl ?_)
  have hsome : ([Value.ref b].toArray)[((0 : Nat) : Int).toNat]? = some (Value.ref b) := rfl
  simp only [hsome]
  have env' : Env0 X.prog X.w X.K X.mg X.base (X.A.in1.under (Code.builtin "list.__repr__.loop" { pos := [Value.ref p, rawInt 0, Value.ref Pa, rawInt (0 : Nat)] })) X.stack { s with heap := h1 } H := by
    have e := I1.env0
    exact ⟨by first | exact e.frames | (simpa [Around.under, Code.envs, Code.isFrame, pushEnvs] using e.frames), e.mod, e.bs, e.bsz, e.funs, e.frf, e.hok, e.bare⟩
  have hg' : (X.A.in1.under (Code.builtin "list.__repr__.loop" { pos := [Value.ref p, rawInt 0, Value.ref Pa, rawInt (0 : Nat)] })).guards = some [Code.builtin "list.__repr__.loop" { pos := [Value.ref p, rawInt 0, Value.ref Pa, rawInt (0 : Nat)] }] := guards_under_guard (isGuard_list_loop _) gd
  have hu' : (X.A.in1.under (Code.builtin "list.__repr__.loop" { pos := [Value.ref p, rawInt 0, Value.ref Pa, rawInt (0 : Nat)] })).units = X.A.units + 2 := units_under_list_loop _ _
  have hd' : (X.A.in1.under (Code.builtin "list.__repr__.loop" { pos := [Value.ref p, rawInt 0, Value.ref Pa, rawInt (0 : Nat)] })).depth ≤ X.A.depth + 1 := by simp [Around.under, Code.weight, Code.isCreation, Code.isGuard, Code.isCaller, Code.frames, Code.isFrame, guardIds]
  have hh' : (X.A.in1.under (Code.builtin "list.__repr__.loop" { pos := [Value.ref p, rawInt 0, Value.ref Pa, rawInt (0 : Nat)] })).handled = X.A.handled := by first | rfl | simp [Around.under]
  have hr' : L2H.RoomH k (X.A.in1.under (Code.builtin "list.__repr__.loop" { pos := [Value.ref p, rawInt 0, Value.ref Pa, rawInt (0 : Nat)] })) := ⟨by have := hr.dp; omega, by rw [hu']; omega⟩
  have heat' : Heat (X.A.in1.under (Code.builtin "list.__repr__.loop" { pos := [Value.ref p, rawInt 0, Value.ref Pa, rawInt (0 : Nat)] })) X.stack H { s with heap := h1 } := by
    rcases heat_at ht I1 with q | q
    · exact .inl (hh'.trans q)
    · exact .inr q
  have hrun := F.run _ _ X.stack { s with heap := h1 } H [.ref b] [.ref b] _ hg' hr' heat' env' (.cons rfl .nil) (hsp _)
  obtain ⟨ox, od, J⟩ := ins_at I1 hb
  refine wpAny_bind (wpAny_holding (PySem.W.lp_reprUnder (b := ((0 : Nat) : Int).toNat + 1) (by show 0 + 1 ≤ _; decide) (by rw [hu']; omega) I1.kIn J hs hf (wpAny_call (codeAny_mono hrun fun r s' hq => ?_))))
  rcases r with er | (_ | _ | _ | u)
  · exact False.elim hq
  · exact False.elim hq
  · exact False.elim hq
  · exact False.elim hq
  obtain ⟨v, H2, os, bare, un, hok, rv2, rfl, sm, q⟩ := hq
  have hP2 := un.keep Pa _ hP hPn (fun hm => (List.mem_cons.mp (I.stkSub Pa hm)).elim fpP.2.1 fpP.2.2.1) (by simp)
  have hfree : H2 Pa = none := un.free Pa _ hP hPn (by simp)
  obtain ⟨t, rfl⟩ := rv2
  obtain ⟨hh2, gg2, dd2, tt2, oo2⟩ := s'
  obtain rfl : oo2 = s.os := os
  have I2 := I1.call (h' := hh2) (g' := gg2) (d' := dd2) (t' := tt2) (ch := []) un hok bare (fun b z => absurd z (by simp))
  refine ⟨z, t, rfl, ?_⟩
  refine wpAny_bind (wpAny_mkStr ?_ (by omega))
  refine wpAny_bind ?_
  show wpAny _ _ (updateSeq Pa _) _ _ _
  refine wpAny_updateSeq hP2 rfl (wpAny_pure ⟨PySem.F.quiet_list_repr_loop _, ?_⟩) (by show 0 ≤ _; omega)
  have fpP2 : FpOk X pins H2 Pa := ⟨hfree, fpP.2⟩
  have I3 := I2.turnedL (t' := tt2 + 1) (ch := [Pa]) (h' := hh2.update Pa (Obj.mapSeq fun x => x.push (.str z tt2))) (fun b o hb e => (Heap.get?_update_other _ _ (fun h : Pa = b => hb (by rw [← h]; exact List.mem_singleton.mpr rfl))).trans e) (fun b hb => by rw [List.mem_singleton.mp hb]; exact fpP2)
  obtain ⟨_, its3, n3, rv3, hget3⟩ := (show ObjOk X.prog X.w H2 _ p (.lst [.ref b]) from I3.hok p _ (sm _ _ hp))
  obtain ⟨u3, rfl, ru3⟩ := vals1 rv3
  obtain rfl : u3 = Value.ref b := ru3
  have hP3 : (hh2.update Pa (Obj.mapSeq fun x => x.push (.str z tt2))).get? Pa = _ := Heap.get?_update_self _ hP2 rfl
  refine codeAny_builtin PySem.F.entry_list_repr_loop ?_
  show wpAny _ _ (Builtin.«list.__repr__.loop» ⟨[.ref p, .int (1 : Nat) 0, .ref Pa, .int _ 0], []⟩) _ _ _
  rw [repr_loop_tree]
  refine wpAny_bind (wpAny_listItems hget3 rfl ?_)
  have hnone : ([Value.ref b].toArray)[((1 : Nat) : Int).toNat]? = none := rfl
  simp only [hnone]
  unfold reprEnd
  refine wpAny_bind (wpAny_listItems hP3 rfl ?_)
  have hfold : (forIn (((#[] : Array Value).push (.str z tt2)).toList.zipIdx) ("[" : Str) reprBody : Sem Str) = pure (textFrom 0 "[" [z]) := repr_fold [(z, tt2)] 0 "["
  rw [hfold]
  refine wpAny_bind (wpAny_pure ?_)
  refine wpAny_bind (wpAny_mkStr (wpAny_pure ?_) hz)
  exact ⟨_, _, rfl, .str (listText [z]), H2, I3.tok _, ⟨_, rfl⟩, q⟩
end
end Lp

set_option Elab.async false
set_option linter.all false
set_option maxRecDepth 100000
set_option maxHeartbeats 4000000
namespace Lp
open PySem PySem.Spec PyProof.Rows L2
/-- f(e, .., k = v, ..) of a def with defaults and no keyword-only parameters -/
theorem kbinds1 {K : PySem.W.Frag} {x qual : Str} {params : Arguments} {body : List Stmt} {scope : Scope} {dvs : List V} {kws : List (Str × V)} {f : Addr} {fd : FuncData} {ps : List Str} (F : FunD K x qual params body scope dvs kws f fd) (n : Nat) (ks : List Str)
    (g : {α : Type} → List α → List α → List α → List α) (hd : dvs ≠ []) (hrel : ∀ {vs ds zs : List V} {us its ws : List Value}, Vals vs us → Vals ds its → Vals zs ws → Vals (g vs ds zs) (g us its ws))
    (h : ∀ (T : Addr) (kV doc pm : Value) (an : Option Addr) (cdv ct : Value) (us its ws : List Value), us.length = n → its.length = dvs.length → ws.length = ks.length →
      ∃ k, bindArgs (PySem.W.fnOf x qual params body scope (.ref T) kV doc pm an cdv ct) ⟨us, ks.zip ws⟩ = seqItems? (.ref T) >>= k ∧ k (some its.toArray) = pure (ps.zip (g us its ws))) :
    ∃ its : List Value, KBn K fd ps n ks (fun us ws => g us its ws) (fun vs zs => g vs dvs zs) := by
  obtain ⟨oc, od, dV, kV, doc, pm, an, cdv, ct, osl, rfl, lk, hcd, hD, hK⟩ := F.ex
  rcases hD with ⟨e, _⟩ | ⟨_, T, o, its, m, rfl, lT, oT, rT⟩
  · exact absurd e hd
  · refine ⟨its, ⟨fun s us ws X l1 l2 => ?_, fun r1 r2 => hrel r1 rT r2⟩⟩
    obtain ⟨k, e1, e2⟩ := h T kV doc pm an cdv ct us its ws l1 rT.length.symm l2
    refine BindsTo.of_looks fun M => ?_
    rw [e1]
    exact looks_items X lT oT (.of_pure e2)
theorem callO_ofK {M : Model} {A : Around} {E : Value → Shared → Prop} {s : Shared} {a : Addr} {pos : Pos} {Q : Value → Shared → Prop} {args : List (Bool × Sem Value)} {kws : List (Option Str × Sem Value)} (hplain : (args.any (·.1) || kws.any (·.1.isNone)) = false)
    (h : wpAny M A (evalArgs (.ref a) true args kws) (fun z s₁ => (∃ C ox od, PySem.W.InstAt s₁.heap a ox C od ∧ ox.data = .plain) ∧ wpAny M A (call (.ref a) ([] ++ z.pos) z.kw) Q E s₁) E s) : wpAny M A (callWith pos (.ref a) [] args kws) Q E s := by
  unfold callWith
  refine wpAny_bind (wpAny_holding (wpAny_mono h (fun z s₁ h₁ => wpAny_bind (wpAny_standAt ?_)) fun _ _ y => y))
  obtain ⟨⟨C, ox, od, J, hd⟩, h₁⟩ := h₁
  have L := PySem.W.kco_keeper (M := M) J hd
  simp only [hplain]
  refine wpAny_bind (L.here ?_)
  have tail : ∀ {t : Sem Value}, wpAny M A t Q E s₁ → wpAny M A (t >>= fun r => holding [r] point >>= fun _ => pure r) Q E s₁ :=
    fun ht => wpAny_bind (wpAny_mono ht (fun r s₂ hr => wpAny_bind (wpAny_holding (wpAny_point (wpAny_pure hr)))) fun _ _ y => y)
  exact tail (wpAny_operateT h₁)
section
variable {X : Cx} {CX : CXT} {k : Nat} {f C : Addr} {sp : Sp} {E : L2.St → XK} {pins : List (Addr × Obj)} {σ : L2.St} {H : Hp} {s : Shared} {Q : VK}
/-- o(e, .., k = v, ..), o an instance, whose error is wished for at the slots -/
def tCallOKS (C : Addr) (n m : Nat) (sp : Sp) (gV : List V → List V → List V) (E : L2.St → XK) (tf : TE) (t tk : TA) : TE := fun σ H Q => tf σ H fun y H1 => ∃ a, y = V.ref a ∧ t σ H1 fun vs H2 => tk σ H2 fun zs H3 =>
  (∃ dx fs, H3 a = some (.ins C dx fs)) ∧ vs.length + 1 = n ∧ zs.length = m ∧ sp (gV (V.ref a :: vs) zs) H3 Q (E σ)
theorem pe_callOKS {fd : FuncData} {ps ks : List Str} {n : Nat} {g : List Value → List Value → List Value} {gV : List V → List V → List V} {fe e : Expr} {es : List Expr} {kws : List Keyword} {tf : TE} {t tk : TA} {pos : Pos} (c : StX.CallO X.K C f) (F : FnOk X.prog X.w X.K X.mg X.base CX k f fd ps sp)
    (hb : KBn X.K fd ps n ks g gV) (hr : Room k X.A) (hx : ∀ σ, PassesAt CX X σ (E σ)) (hf : PE X fe tf) (ha : PA X (e :: es) t) (hkw : PK X kws tk)
    (hall : (backToKw pos (keywordEach kws X.env)).all (·.1.isSome) = true := by rfl) (hks : (backToKw pos (keywordEach kws X.env)).filterMap (·.1) = ks := by rfl)
    (ht : eval (.Call fe (e :: es) kws pos) X.env = (do callWith pos (← eval fe X.env) [] (backTo pos (starEach (e :: es) X.env)) (backToKw pos (keywordEach kws X.env))) := by rfl)
    (he : starEach (e :: es) X.env = (false, eval e X.env) :: starEach es X.env := by rfl) (hpl : ((backTo pos (starEach (e :: es) X.env)).any (·.1) || (backToKw pos (keywordEach kws X.env)).any (·.1.isNone)) = false := by rfl) :
    PE X (.Call fe (e :: es) kws pos) (tCallOKS C n ks.length sp gV E tf t tk) := by
  refine ⟨fun pins s σ H Q I h => ?_⟩
  rw [ht]
  refine wpAny_bind (thn (hf.run pins s σ H _ I h) fun u s1 ⟨y, H1, I1, ry, a, ey, q⟩ => ?_)
  subst ey
  obtain rfl : u = Value.ref a := ry
  refine callO_ofK hpl (evalArgs_kw2 hall (thn (ha.run pos pins s1 σ H1 _ I1 q) fun us s2 ⟨vs, H2, I2, r, q2⟩ => ?_) he)
  refine thn (hkw.run pos pins s2 σ H2 _ I2 q2) fun ws s3 ⟨zs, H3, I3, rz, ⟨dx, fs, hi⟩, l1, l2, q3⟩ => ?_
  obtain ⟨ox, od, J, hd⟩ := StX.insC_at (C := C) I3 (.inr ⟨dx, fs, hi⟩)
  refine ⟨⟨C, ox, od, J, hd⟩, wpAny_call (PySem.W.kco_code I3.kIn J hd c.at_ c.fn c.fi ?_)⟩
  have r' : Vals (V.ref a :: vs) (Value.ref a :: us) := .cons rfl r
  have r2 := hb.rel r' rz
  rw [hks]
  refine codeAny_mono (F.run X.A X.stack s3 H3 ⟨Value.ref a :: us, ks.zip ws⟩ (g (Value.ref a :: us) ws) _ Q (E σ) hr I3.env0 (hb.to s3 (Value.ref a :: us) ws I3.kIn (by rw [← r'.length]; exact l1) (rz.length.symm.trans l2)) r2 q3) fun r s' hq => ?_
  rcases r with er | (_ | _ | _ | u)
  · exact hx σ pins H3 s3 er s' I3 hq
  · exact False.elim hq
  · exact False.elim hq
  · exact False.elim hq
  · exact I3.after hq
end
/-- pe_binS with the written part named -/
theorem pe_binSK {X : Cx} {CX : CXT} {k : Nat} {f C : Addr} {E : L2.St → XK} {K0 : PySem.W.Frag} {sp : Sp} {op : Operator} {nm : String} {a b : Expr} {ta tb : TE} {pos : Pos} (hK : X.K = K0) (hn : op.info.2 = nm) (B : BinC X.K C nm f) (F : FnR X.prog X.w X.K X.mg X.base CX k f sp) (hr : Room k X.A) (hx : ∀ σ, PassesAt CX X σ (E σ)) (ha : PE X a ta) (hb : PE X b tb) :
    PE X (.BinOp a op b pos) (tBinS K0 C nm sp E ta tb) := by
  subst hK
  exact pe_binS hn B F hr hx ha hb
/-- what stands at the right of an own operator -/
theorem oth_of {K : PySem.W.Frag} {C : Addr} {nm T : String} (hn : nm ∈ ["add", "sub", "and", "or", "mul"]) (hT : T ∈ ["NoneType", "int", "str", "dict", "list", "tuple", "bool"]) : Oth K C nm T := by
  simp only [List.mem_cons, List.not_mem_nil, or_false] at hn hT
  rcases hn with rfl | rfl | rfl | rfl | rfl <;> rcases hT with rfl | rfl | rfl | rfl | rfl | rfl | rfl <;> exact ⟨⟨_, rfl⟩, ⟨_, rfl⟩, rfl⟩
end Lp

set_option Elab.async false
set_option linter.all false
set_option maxRecDepth 100000
set_option maxHeartbeats 4000000
namespace Lp
open PySem PySem.Spec PyProof.Rows L2
theorem passF {X : Cx} (σ : L2.St) : PassesAt (CX X.prog X.w) X σ E0 := fun _ _ _ _ _ _ c => by
  obtain ⟨_, _, _, _, _, _, _, _, _, _, _, _, h⟩ := c
  exact False.elim h
section
variable {X : Cx} {CX : CXT} {k : Nat} {f C : Addr} {sp : Sp} {E : XK}
/-- o == y by an own __eq__, y of the same class or of a built-in one -/
def rOwnEq (K : PySem.W.Frag) (C : Addr) (sp : Sp) (E : XK) : R2 := fun x y H Q => ∃ a dx fs t, x = .ref a ∧ H a = some (.ins C dx fs) ∧ TyX K H y t ∧ PySem.W.notFirst K C t = true ∧ sp [.ref a, y] H Q E
theorem op_eqOwn (M : Meth X.K C "__eq__" f) (F : FnR X.prog X.w X.K X.mg X.base CX k f sp) (hr : Room k X.A) (hx : Passes CX X E) : OpR X (compareOp .Eq) (rOwnEq X.K C sp E) := by
  intro pins s σ H x y u v Q I r1 r2 h
  obtain ⟨a, dx, fs, t, rfl, ha, ty, hn, q⟩ := h
  obtain rfl : u = Value.ref a := r1
  obtain ⟨ox, od, J⟩ := ins_at I ha
  obtain ⟨m, fr⟩ := I.fr
  obtain ⟨PP, kit, hP, _⟩ := kit_of I r2 ty
  have own := thn (run_at (vs := [.ref a, y]) F hr hx I (.cons rfl (.cons r2 .nil)) q) fun r s1 z => back_of z
  show wpAny _ _ (richCompare .Eq (.ref a) v) _ _ _
  exact PySem.W.cmp_K (op := .Eq) (by have := hr.un; omega) fr I.ok.mod.kin J (kit.ty _ _ I.kIn hP) hn M.at_ M.fn own
end
theorem notFirst_of {K : PySem.W.Frag} {C : Addr} {T : String} (hT : T ∈ ["NoneType", "int", "str", "dict", "list", "tuple", "bool"]) : PySem.W.notFirst K C (.type T) = true := by
  simp only [List.mem_cons, List.not_mem_nil, or_false] at hT
  rcases hT with rfl | rfl | rfl | rfl | rfl | rfl | rfl <;> rfl
theorem notFirst_self {K : PySem.W.Frag} {C : Addr} : PySem.W.notFirst K C (.ref C) = true := by
  unfold PySem.W.notFirst
  rw [beq_self_eq_true]
  rfl
end Lp

set_option Elab.async false
set_option linter.all false
set_option maxRecDepth 100000
set_option maxHeartbeats 4000000
namespace Lp
open PySem PySem.Spec PyProof.Rows L2
def top (i : Nat) : Stmt := PySem.Challenge.pw_leastpools_k02_sizes_that_are_none.main.body.getD i (.Pass ⟨0, 0, 0, 0⟩)
abbrev S_wall : Stmt := top 0
abbrev S_InvalidSizes_init : Stmt := inClass (top 3) 0
abbrev S_NotEnough_init : Stmt := inClass (top 4) 0
abbrev S_is_word : Stmt := top 8
abbrev S_is_integer : Stmt := top 9
abbrev S_are_amounts : Stmt := top 10
abbrev S_Sizes_init : Stmt := inClass (top 11) 0
abbrev S_Sizes_getitem : Stmt := inClass (top 11) 1
abbrev S_Sizes_contains : Stmt := inClass (top 11) 2
abbrev S_Sizes_iter : Stmt := inClass (top 11) 3
abbrev S_Sizes_len : Stmt := inClass (top 11) 4
abbrev S_Sizes_eq : Stmt := inClass (top 11) 5
abbrev S_Sizes_names : Stmt := inClass (top 11) 6
abbrev S_Sizes_fits : Stmt := inClass (top 11) 7
abbrev S_Sizes_add : Stmt := inClass (top 11) 8
abbrev S_Sizes_sub : Stmt := inClass (top 11) 9
abbrev S_Sizes_and : Stmt := inClass (top 11) 10
abbrev S_Sizes_or : Stmt := inClass (top 11) 11
abbrev S_Sizes_mul : Stmt := inClass (top 11) 12
abbrev S_Sizes_call : Stmt := inClass (top 11) 13
abbrev S_Sizes_total : Stmt := inClass (top 11) 14
abbrev S_Sizes_by_name : Stmt := inClass (top 11) 15
abbrev S_Sizes_str : Stmt := inClass (top 11) 16
abbrev S_Sizes_repr : Stmt := inClass (top 11) 17
abbrev S_check_sizes : Stmt := top 12
abbrev S_law_draws : Stmt := top 14
abbrev S_law_draw : Stmt := top 15
abbrev S_law_heard : Stmt := top 16
abbrev S_law : Stmt := top 17
abbrev A_InvalidSizes_init (K : PySem.W.Frag) : Addr := He.fAd K ("InvalidSizes", some "__init__")
abbrev D_InvalidSizes_init (K : PySem.W.Frag) : FuncData := fdAt K (A_InvalidSizes_init K)
def d_InvalidSizes_init : He.DefD := ⟨("InvalidSizes", some "__init__"), "__init__", "InvalidSizes.__init__", defArgs S_InvalidSizes_init, defBody S_InvalidSizes_init, defScope S_InvalidSizes_init, [], []⟩
abbrev A_NotEnough_init (K : PySem.W.Frag) : Addr := He.fAd K ("NotEnough", some "__init__")
abbrev D_NotEnough_init (K : PySem.W.Frag) : FuncData := fdAt K (A_NotEnough_init K)
def d_NotEnough_init : He.DefD := ⟨("NotEnough", some "__init__"), "__init__", "NotEnough.__init__", defArgs S_NotEnough_init, defBody S_NotEnough_init, defScope S_NotEnough_init, [], []⟩
abbrev A_is_word (K : PySem.W.Frag) : Addr := He.fAd K ("is_word", none)
abbrev D_is_word (K : PySem.W.Frag) : FuncData := fdAt K (A_is_word K)
def d_is_word : He.DefD := ⟨("is_word", none), "is_word", "is_word", defArgs S_is_word, defBody S_is_word, defScope S_is_word, [], []⟩
abbrev A_is_integer (K : PySem.W.Frag) : Addr := He.fAd K ("is_integer", none)
abbrev D_is_integer (K : PySem.W.Frag) : FuncData := fdAt K (A_is_integer K)
def d_is_integer : He.DefD := ⟨("is_integer", none), "is_integer", "is_integer", defArgs S_is_integer, defBody S_is_integer, defScope S_is_integer, [.int 0], []⟩
abbrev A_are_amounts (K : PySem.W.Frag) : Addr := He.fAd K ("are_amounts", none)
abbrev D_are_amounts (K : PySem.W.Frag) : FuncData := fdAt K (A_are_amounts K)
def d_are_amounts : He.DefD := ⟨("are_amounts", none), "are_amounts", "are_amounts", defArgs S_are_amounts, defBody S_are_amounts, defScope S_are_amounts, [], []⟩
abbrev A_Sizes_init (K : PySem.W.Frag) : Addr := He.fAd K ("Sizes", some "__init__")
abbrev D_Sizes_init (K : PySem.W.Frag) : FuncData := fdAt K (A_Sizes_init K)
def d_Sizes_init : He.DefD := ⟨("Sizes", some "__init__"), "__init__", "Sizes.__init__", defArgs S_Sizes_init, defBody S_Sizes_init, defScope S_Sizes_init, [], []⟩
abbrev A_Sizes_getitem (K : PySem.W.Frag) : Addr := He.fAd K ("Sizes", some "__getitem__")
abbrev D_Sizes_getitem (K : PySem.W.Frag) : FuncData := fdAt K (A_Sizes_getitem K)
def d_Sizes_getitem : He.DefD := ⟨("Sizes", some "__getitem__"), "__getitem__", "Sizes.__getitem__", defArgs S_Sizes_getitem, defBody S_Sizes_getitem, defScope S_Sizes_getitem, [], []⟩
abbrev A_Sizes_contains (K : PySem.W.Frag) : Addr := He.fAd K ("Sizes", some "__contains__")
abbrev D_Sizes_contains (K : PySem.W.Frag) : FuncData := fdAt K (A_Sizes_contains K)
def d_Sizes_contains : He.DefD := ⟨("Sizes", some "__contains__"), "__contains__", "Sizes.__contains__", defArgs S_Sizes_contains, defBody S_Sizes_contains, defScope S_Sizes_contains, [], []⟩
abbrev A_Sizes_iter (K : PySem.W.Frag) : Addr := He.fAd K ("Sizes", some "__iter__")
abbrev D_Sizes_iter (K : PySem.W.Frag) : FuncData := fdAt K (A_Sizes_iter K)
def d_Sizes_iter : He.DefD := ⟨("Sizes", some "__iter__"), "__iter__", "Sizes.__iter__", defArgs S_Sizes_iter, defBody S_Sizes_iter, defScope S_Sizes_iter, [], []⟩
abbrev A_Sizes_len (K : PySem.W.Frag) : Addr := He.fAd K ("Sizes", some "__len__")
abbrev D_Sizes_len (K : PySem.W.Frag) : FuncData := fdAt K (A_Sizes_len K)
def d_Sizes_len : He.DefD := ⟨("Sizes", some "__len__"), "__len__", "Sizes.__len__", defArgs S_Sizes_len, defBody S_Sizes_len, defScope S_Sizes_len, [], []⟩
abbrev A_Sizes_eq (K : PySem.W.Frag) : Addr := He.fAd K ("Sizes", some "__eq__")
abbrev D_Sizes_eq (K : PySem.W.Frag) : FuncData := fdAt K (A_Sizes_eq K)
def d_Sizes_eq : He.DefD := ⟨("Sizes", some "__eq__"), "__eq__", "Sizes.__eq__", defArgs S_Sizes_eq, defBody S_Sizes_eq, defScope S_Sizes_eq, [], []⟩
abbrev A_Sizes_fits (K : PySem.W.Frag) : Addr := He.fAd K ("Sizes", some "fits")
abbrev D_Sizes_fits (K : PySem.W.Frag) : FuncData := fdAt K (A_Sizes_fits K)
def d_Sizes_fits : He.DefD := ⟨("Sizes", some "fits"), "fits", "Sizes.fits", defArgs S_Sizes_fits, defBody S_Sizes_fits, defScope S_Sizes_fits, [], []⟩
abbrev A_Sizes_add (K : PySem.W.Frag) : Addr := He.fAd K ("Sizes", some "__add__")
abbrev D_Sizes_add (K : PySem.W.Frag) : FuncData := fdAt K (A_Sizes_add K)
def d_Sizes_add : He.DefD := ⟨("Sizes", some "__add__"), "__add__", "Sizes.__add__", defArgs S_Sizes_add, defBody S_Sizes_add, defScope S_Sizes_add, [], []⟩
abbrev A_Sizes_sub (K : PySem.W.Frag) : Addr := He.fAd K ("Sizes", some "__sub__")
abbrev D_Sizes_sub (K : PySem.W.Frag) : FuncData := fdAt K (A_Sizes_sub K)
def d_Sizes_sub : He.DefD := ⟨("Sizes", some "__sub__"), "__sub__", "Sizes.__sub__", defArgs S_Sizes_sub, defBody S_Sizes_sub, defScope S_Sizes_sub, [], []⟩
abbrev A_Sizes_and (K : PySem.W.Frag) : Addr := He.fAd K ("Sizes", some "__and__")
abbrev D_Sizes_and (K : PySem.W.Frag) : FuncData := fdAt K (A_Sizes_and K)
def d_Sizes_and : He.DefD := ⟨("Sizes", some "__and__"), "__and__", "Sizes.__and__", defArgs S_Sizes_and, defBody S_Sizes_and, defScope S_Sizes_and, [], []⟩
abbrev A_Sizes_or (K : PySem.W.Frag) : Addr := He.fAd K ("Sizes", some "__or__")
abbrev D_Sizes_or (K : PySem.W.Frag) : FuncData := fdAt K (A_Sizes_or K)
def d_Sizes_or : He.DefD := ⟨("Sizes", some "__or__"), "__or__", "Sizes.__or__", defArgs S_Sizes_or, defBody S_Sizes_or, defScope S_Sizes_or, [], []⟩
abbrev A_Sizes_mul (K : PySem.W.Frag) : Addr := He.fAd K ("Sizes", some "__mul__")
abbrev D_Sizes_mul (K : PySem.W.Frag) : FuncData := fdAt K (A_Sizes_mul K)
def d_Sizes_mul : He.DefD := ⟨("Sizes", some "__mul__"), "__mul__", "Sizes.__mul__", defArgs S_Sizes_mul, defBody S_Sizes_mul, defScope S_Sizes_mul, [], []⟩
abbrev A_Sizes_call (K : PySem.W.Frag) : Addr := He.fAd K ("Sizes", some "__call__")
abbrev D_Sizes_call (K : PySem.W.Frag) : FuncData := fdAt K (A_Sizes_call K)
def d_Sizes_call : He.DefD := ⟨("Sizes", some "__call__"), "__call__", "Sizes.__call__", defArgs S_Sizes_call, defBody S_Sizes_call, defScope S_Sizes_call, [.int 1], []⟩
abbrev A_Sizes_by_name (K : PySem.W.Frag) : Addr := He.fAd K ("Sizes", some "by_name")
abbrev D_Sizes_by_name (K : PySem.W.Frag) : FuncData := fdAt K (A_Sizes_by_name K)
def d_Sizes_by_name : He.DefD := ⟨("Sizes", some "by_name"), "by_name", "Sizes.by_name", defArgs S_Sizes_by_name, defBody S_Sizes_by_name, defScope S_Sizes_by_name, [], []⟩
abbrev A_Sizes_str (K : PySem.W.Frag) : Addr := He.fAd K ("Sizes", some "__str__")
abbrev D_Sizes_str (K : PySem.W.Frag) : FuncData := fdAt K (A_Sizes_str K)
def d_Sizes_str : He.DefD := ⟨("Sizes", some "__str__"), "__str__", "Sizes.__str__", defArgs S_Sizes_str, defBody S_Sizes_str, defScope S_Sizes_str, [], []⟩
abbrev A_Sizes_repr (K : PySem.W.Frag) : Addr := He.fAd K ("Sizes", some "__repr__")
abbrev D_Sizes_repr (K : PySem.W.Frag) : FuncData := fdAt K (A_Sizes_repr K)
def d_Sizes_repr : He.DefD := ⟨("Sizes", some "__repr__"), "__repr__", "Sizes.__repr__", defArgs S_Sizes_repr, defBody S_Sizes_repr, defScope S_Sizes_repr, [], []⟩
abbrev A_check_sizes (K : PySem.W.Frag) : Addr := He.fAd K ("check_sizes", none)
abbrev D_check_sizes (K : PySem.W.Frag) : FuncData := fdAt K (A_check_sizes K)
def d_check_sizes : He.DefD := ⟨("check_sizes", none), "check_sizes", "check_sizes", defArgs S_check_sizes, defBody S_check_sizes, defScope S_check_sizes, [], []⟩
abbrev A_law_draws (K : PySem.W.Frag) : Addr := He.fAd K ("_law_draws", none)
abbrev D_law_draws (K : PySem.W.Frag) : FuncData := fdAt K (A_law_draws K)
def d_law_draws : He.DefD := ⟨("_law_draws", none), "_law_draws", "_law_draws", defArgs S_law_draws, defBody S_law_draws, defScope S_law_draws, [], []⟩
abbrev A_law_draw (K : PySem.W.Frag) : Addr := He.fAd K ("_law_draw", none)
abbrev D_law_draw (K : PySem.W.Frag) : FuncData := fdAt K (A_law_draw K)
def d_law_draw : He.DefD := ⟨("_law_draw", none), "_law_draw", "_law_draw", defArgs S_law_draw, defBody S_law_draw, defScope S_law_draw, [], []⟩
abbrev A_law_heard (K : PySem.W.Frag) : Addr := He.fAd K ("_law_heard", none)
abbrev D_law_heard (K : PySem.W.Frag) : FuncData := fdAt K (A_law_heard K)
def d_law_heard : He.DefD := ⟨("_law_heard", none), "_law_heard", "_law_heard", defArgs S_law_heard, defBody S_law_heard, defScope S_law_heard, [], []⟩
abbrev A_law (K : PySem.W.Frag) : Addr := He.fAd K ("law", none)
abbrev D_law (K : PySem.W.Frag) : FuncData := fdAt K (A_law K)
def d_law : He.DefD := ⟨("law", none), "law", "law", defArgs S_law, defBody S_law, defScope S_law, [], []⟩
structure Tx (K : PySem.W.Frag) (mg : Str → Option Value) : Prop where
  z_ArithmeticError : mg "ArithmeticError" = none
  z_isinstance : mg "isinstance" = none
  z_str : mg "str" = none
  z_len : mg "len" = none
  z_int : mg "int" = none
  z_bool : mg "bool" = none
  z_dict : mg "dict" = none
  z_all : mg "all" = none
  z_sorted : mg "sorted" = none
  z_iter : mg "iter" = none
  z_min : mg "min" = none
  z_max : mg "max" = none
  z_repr : mg "repr" = none
  z_ValueError : mg "ValueError" = none
  z_range : mg "range" = none
  m_is_word : mg "is_word" = some (.ref (He.ga K "is_word"))
  m_is_integer : mg "is_integer" = some (.ref (He.ga K "is_integer"))
  m_are_amounts : mg "are_amounts" = some (.ref (He.ga K "are_amounts"))
  m_check_sizes : mg "check_sizes" = some (.ref (He.ga K "check_sizes"))
  m_law_draws : mg "_law_draws" = some (.ref (He.ga K "_law_draws"))
  m_law_draw : mg "_law_draw" = some (.ref (He.ga K "_law_draw"))
  m_law_heard : mg "_law_heard" = some (.ref (He.ga K "_law_heard"))
  m_law : mg "law" = some (.ref (He.ga K "law"))
  m_PoolError : mg "PoolError" = some (.ref (He.ga K "PoolError"))
  m_InvalidSizes : mg "InvalidSizes" = some (.ref (He.ga K "InvalidSizes"))
  m_NotEnough : mg "NotEnough" = some (.ref (He.ga K "NotEnough"))
  m_Sizes : mg "Sizes" = some (.ref (He.ga K "Sizes"))
  p_PoolError : XP K (He.ga K "PoolError") "ValueError.__init__"
  v_ArithmeticError : PySem.W.findCls K (.type "ArithmeticError") (.type "type") "__init__" = some (.val (.builtin "ArithmeticError.__init__"))
  v_ValueError : PySem.W.findCls K (.type "ValueError") (.type "type") "__init__" = some (.val (.builtin "ValueError.__init__"))
  x_InvalidSizes : XC K (He.ga K "InvalidSizes") "ValueError" "ValueError.__new__" "ValueError" "ValueError.__init__"
  i_InvalidSizes : XI K (He.ga K "InvalidSizes") (A_InvalidSizes_init K) "value"
  x_NotEnough : XC K (He.ga K "NotEnough") "ArithmeticError" "ArithmeticError.__new__" "ArithmeticError" "ArithmeticError.__init__"
  i_NotEnough : XI K (He.ga K "NotEnough") (A_NotEnough_init K) "name"
  c_LETTERS : ∃ u, mg "LETTERS" = some u ∧ RelV (.str "abcdefghijklmnopqrstuvwxyz") u
  c_MOST_LETTERS : ∃ u, mg "MOST_LETTERS" = some u ∧ RelV (.int 8) u
  cl_Sizes : Cls K (He.ga K "Sizes")
  kc_Sizes : OwnC K (He.ga K "Sizes")
  ct_Sizes : ((PySem.W.clsIn K (He.ga K "Sizes")).isSome && PySem.W.typeIn K (.ref (He.ga K "Sizes")) == some (.type "type")) = true
  nb_Sizes : NotB K (He.ga K "Sizes")
  ro_Sizes_add : PySem.W.findIn K (.ref (He.ga K "Sizes")) "__radd__" = some none
  ro_Sizes_sub : PySem.W.findIn K (.ref (He.ga K "Sizes")) "__rsub__" = some none
  ro_Sizes_and : PySem.W.findIn K (.ref (He.ga K "Sizes")) "__rand__" = some none
  ro_Sizes_or : PySem.W.findIn K (.ref (He.ga K "Sizes")) "__ror__" = some none
  ro_Sizes_mul : PySem.W.findIn K (.ref (He.ga K "Sizes")) "__rmul__" = some none
  mk_Sizes : Mk K (He.ga K "Sizes") (A_Sizes_init K)
  mt_Sizes_getitem : Meth K (He.ga K "Sizes") "__getitem__" (A_Sizes_getitem K)
  mt_Sizes_contains : Meth K (He.ga K "Sizes") "__contains__" (A_Sizes_contains K)
  mt_Sizes_iter : Meth K (He.ga K "Sizes") "__iter__" (A_Sizes_iter K)
  mt_Sizes_len : Meth K (He.ga K "Sizes") "__len__" (A_Sizes_len K)
  mt_Sizes_eq : Meth K (He.ga K "Sizes") "__eq__" (A_Sizes_eq K)
  mt_Sizes_fits : Meth K (He.ga K "Sizes") "fits" (A_Sizes_fits K)
  mt_Sizes_add : Meth K (He.ga K "Sizes") "__add__" (A_Sizes_add K)
  mt_Sizes_sub : Meth K (He.ga K "Sizes") "__sub__" (A_Sizes_sub K)
  mt_Sizes_and : Meth K (He.ga K "Sizes") "__and__" (A_Sizes_and K)
  mt_Sizes_or : Meth K (He.ga K "Sizes") "__or__" (A_Sizes_or K)
  mt_Sizes_mul : Meth K (He.ga K "Sizes") "__mul__" (A_Sizes_mul K)
  mt_Sizes_call : Meth K (He.ga K "Sizes") "__call__" (A_Sizes_call K)
  mt_Sizes_by_name : Meth K (He.ga K "Sizes") "by_name" (A_Sizes_by_name K)
  mt_Sizes_str : Meth K (He.ga K "Sizes") "__str__" (A_Sizes_str K)
  mt_Sizes_repr : Meth K (He.ga K "Sizes") "__repr__" (A_Sizes_repr K)
  na_Sizes_kept : NoAttr K (He.ga K "Sizes") "kept"
  ic_IS_PE : PySem.W.kitOne K (.ref (He.ga K "InvalidSizes")) (.ref (He.ga K "PoolError")) = some true
  ic_IS_VE : PySem.W.kitOne K (.ref (He.ga K "InvalidSizes")) (.type "ValueError") = some true
  sb_IS : PySem.W.subIn K (.ref (He.ga K "InvalidSizes")) (.ref (He.ga K "InvalidSizes")) = some true
  F_InvalidSizes_init : FunD K "__init__" "InvalidSizes.__init__" (defArgs S_InvalidSizes_init) (defBody S_InvalidSizes_init) (defScope S_InvalidSizes_init) [] [] (A_InvalidSizes_init K) (D_InvalidSizes_init K)
  F_NotEnough_init : FunD K "__init__" "NotEnough.__init__" (defArgs S_NotEnough_init) (defBody S_NotEnough_init) (defScope S_NotEnough_init) [] [] (A_NotEnough_init K) (D_NotEnough_init K)
  F_is_word : FunD K "is_word" "is_word" (defArgs S_is_word) (defBody S_is_word) (defScope S_is_word) [] [] (A_is_word K) (D_is_word K)
  F_is_integer : FunD K "is_integer" "is_integer" (defArgs S_is_integer) (defBody S_is_integer) (defScope S_is_integer) [.int 0] [] (A_is_integer K) (D_is_integer K)
  F_are_amounts : FunD K "are_amounts" "are_amounts" (defArgs S_are_amounts) (defBody S_are_amounts) (defScope S_are_amounts) [] [] (A_are_amounts K) (D_are_amounts K)
  F_Sizes_init : FunD K "__init__" "Sizes.__init__" (defArgs S_Sizes_init) (defBody S_Sizes_init) (defScope S_Sizes_init) [] [] (A_Sizes_init K) (D_Sizes_init K)
  F_Sizes_getitem : FunD K "__getitem__" "Sizes.__getitem__" (defArgs S_Sizes_getitem) (defBody S_Sizes_getitem) (defScope S_Sizes_getitem) [] [] (A_Sizes_getitem K) (D_Sizes_getitem K)
  F_Sizes_contains : FunD K "__contains__" "Sizes.__contains__" (defArgs S_Sizes_contains) (defBody S_Sizes_contains) (defScope S_Sizes_contains) [] [] (A_Sizes_contains K) (D_Sizes_contains K)
  F_Sizes_iter : FunD K "__iter__" "Sizes.__iter__" (defArgs S_Sizes_iter) (defBody S_Sizes_iter) (defScope S_Sizes_iter) [] [] (A_Sizes_iter K) (D_Sizes_iter K)
  F_Sizes_len : FunD K "__len__" "Sizes.__len__" (defArgs S_Sizes_len) (defBody S_Sizes_len) (defScope S_Sizes_len) [] [] (A_Sizes_len K) (D_Sizes_len K)
  F_Sizes_eq : FunD K "__eq__" "Sizes.__eq__" (defArgs S_Sizes_eq) (defBody S_Sizes_eq) (defScope S_Sizes_eq) [] [] (A_Sizes_eq K) (D_Sizes_eq K)
  F_Sizes_fits : FunD K "fits" "Sizes.fits" (defArgs S_Sizes_fits) (defBody S_Sizes_fits) (defScope S_Sizes_fits) [] [] (A_Sizes_fits K) (D_Sizes_fits K)
  F_Sizes_add : FunD K "__add__" "Sizes.__add__" (defArgs S_Sizes_add) (defBody S_Sizes_add) (defScope S_Sizes_add) [] [] (A_Sizes_add K) (D_Sizes_add K)
  F_Sizes_sub : FunD K "__sub__" "Sizes.__sub__" (defArgs S_Sizes_sub) (defBody S_Sizes_sub) (defScope S_Sizes_sub) [] [] (A_Sizes_sub K) (D_Sizes_sub K)
  F_Sizes_and : FunD K "__and__" "Sizes.__and__" (defArgs S_Sizes_and) (defBody S_Sizes_and) (defScope S_Sizes_and) [] [] (A_Sizes_and K) (D_Sizes_and K)
  F_Sizes_or : FunD K "__or__" "Sizes.__or__" (defArgs S_Sizes_or) (defBody S_Sizes_or) (defScope S_Sizes_or) [] [] (A_Sizes_or K) (D_Sizes_or K)
  F_Sizes_mul : FunD K "__mul__" "Sizes.__mul__" (defArgs S_Sizes_mul) (defBody S_Sizes_mul) (defScope S_Sizes_mul) [] [] (A_Sizes_mul K) (D_Sizes_mul K)
  F_Sizes_call : FunD K "__call__" "Sizes.__call__" (defArgs S_Sizes_call) (defBody S_Sizes_call) (defScope S_Sizes_call) [.int 1] [] (A_Sizes_call K) (D_Sizes_call K)
  F_Sizes_by_name : FunD K "by_name" "Sizes.by_name" (defArgs S_Sizes_by_name) (defBody S_Sizes_by_name) (defScope S_Sizes_by_name) [] [] (A_Sizes_by_name K) (D_Sizes_by_name K)
  F_Sizes_str : FunD K "__str__" "Sizes.__str__" (defArgs S_Sizes_str) (defBody S_Sizes_str) (defScope S_Sizes_str) [] [] (A_Sizes_str K) (D_Sizes_str K)
  F_Sizes_repr : FunD K "__repr__" "Sizes.__repr__" (defArgs S_Sizes_repr) (defBody S_Sizes_repr) (defScope S_Sizes_repr) [] [] (A_Sizes_repr K) (D_Sizes_repr K)
  F_check_sizes : FunD K "check_sizes" "check_sizes" (defArgs S_check_sizes) (defBody S_check_sizes) (defScope S_check_sizes) [] [] (A_check_sizes K) (D_check_sizes K)
  F_law_draws : FunD K "_law_draws" "_law_draws" (defArgs S_law_draws) (defBody S_law_draws) (defScope S_law_draws) [] [] (A_law_draws K) (D_law_draws K)
  F_law_draw : FunD K "_law_draw" "_law_draw" (defArgs S_law_draw) (defBody S_law_draw) (defScope S_law_draw) [] [] (A_law_draw K) (D_law_draw K)
  F_law_heard : FunD K "_law_heard" "_law_heard" (defArgs S_law_heard) (defBody S_law_heard) (defScope S_law_heard) [] [] (A_law_heard K) (D_law_heard K)
  F_law : FunD K "law" "law" (defArgs S_law) (defBody S_law) (defScope S_law) [] [] (A_law K) (D_law K)
def fnL : List He.DefD := ([d_InvalidSizes_init, d_NotEnough_init, d_is_word, d_is_integer, d_are_amounts, d_Sizes_init, d_Sizes_getitem, d_Sizes_contains, d_Sizes_iter, d_Sizes_len, d_Sizes_eq, d_Sizes_fits, d_Sizes_add, d_Sizes_sub, d_Sizes_and, d_Sizes_or, d_Sizes_mul, d_Sizes_call, d_Sizes_by_name, d_Sizes_str, d_Sizes_repr, d_check_sizes, d_law_draws, d_law_draw, d_law_heard] : List He.DefD) ++ ([d_law] : List He.DefD)
def exB0 (K : PySem.W.Frag) : Bool := He.eqO (PySem.W.nsIn K mainGlobals "ArithmeticError") (some none) && (He.eqO (PySem.W.nsIn K mainGlobals "isinstance") (some none) && (He.eqO (PySem.W.nsIn K mainGlobals "str") (some none) && (He.eqO (PySem.W.nsIn K mainGlobals "len") (some none) && (He.eqO (PySem.W.nsIn K mainGlobals "int") (some none) && (He.eqO (PySem.W.nsIn K mainGlobals "bool") (some none) && (He.eqO (PySem.W.nsIn K mainGlobals "dict") (some none) && (He.eqO (PySem.W.nsIn K mainGlobals "all") (some none) && (He.eqO (PySem.W.nsIn K mainGlobals "sorted") (some none) && (He.eqO (PySem.W.nsIn K mainGlobals "iter") (some none) && (He.eqO (PySem.W.nsIn K mainGlobals "min") (some none) && (He.eqO (PySem.W.nsIn K mainGlobals "max") (some none) && (He.eqO (PySem.W.nsIn K mainGlobals "repr") (some none) && (He.eqO (PySem.W.nsIn K mainGlobals "ValueError") (some none) && (He.eqO (PySem.W.nsIn K mainGlobals "range") (some none) && (He.eqO (PySem.W.nsIn K mainGlobals "is_word") (some (some (.ref (He.ga K "is_word")))) && (He.eqO (PySem.W.nsIn K mainGlobals "is_integer") (some (some (.ref (He.ga K "is_integer")))) && (He.eqO (PySem.W.nsIn K mainGlobals "are_amounts") (some (some (.ref (He.ga K "are_amounts")))) && (He.eqO (PySem.W.nsIn K mainGlobals "check_sizes") (some (some (.ref (He.ga K "check_sizes")))) && (He.eqO (PySem.W.nsIn K mainGlobals "_law_draws") (some (some (.ref (He.ga K "_law_draws")))))))))))))))))))))))
def exB1 (K : PySem.W.Frag) : Bool := He.eqO (PySem.W.nsIn K mainGlobals "_law_draw") (some (some (.ref (He.ga K "_law_draw")))) && (He.eqO (PySem.W.nsIn K mainGlobals "_law_heard") (some (some (.ref (He.ga K "_law_heard")))) && (He.eqO (PySem.W.nsIn K mainGlobals "law") (some (some (.ref (He.ga K "law")))) && (He.eqO (PySem.W.nsIn K mainGlobals "PoolError") (some (some (.ref (He.ga K "PoolError")))) && (He.eqO (PySem.W.nsIn K mainGlobals "InvalidSizes") (some (some (.ref (He.ga K "InvalidSizes")))) && (He.eqO (PySem.W.nsIn K mainGlobals "NotEnough") (some (some (.ref (He.ga K "NotEnough")))) && (He.eqO (PySem.W.nsIn K mainGlobals "Sizes") (some (some (.ref (He.ga K "Sizes")))) && (xpB K (He.ga K "PoolError") "ValueError.__init__" && (valIs (PySem.W.findCls K (.type "ArithmeticError") (.type "type") "__init__") (.builtin "ArithmeticError.__init__") && (valIs (PySem.W.findCls K (.type "ValueError") (.type "type") "__init__") (.builtin "ValueError.__init__") && (xcB K (He.ga K "InvalidSizes") "ValueError" "ValueError.__new__" "ValueError" && (xiB K (He.ga K "InvalidSizes") (A_InvalidSizes_init K) "value" && (xcB K (He.ga K "NotEnough") "ArithmeticError" "ArithmeticError.__new__" "ArithmeticError" && (xiB K (He.ga K "NotEnough") (A_NotEnough_init K) "name" && ((He.Fa.str "LETTERS" "abcdefghijklmnopqrstuvwxyz").ok K && ((He.Fa.int "MOST_LETTERS" 8).ok K && ((He.Fa.cls "Sizes").ok K && (ownB K (He.ga K "Sizes") && (((PySem.W.clsIn K (He.ga K "Sizes")).isSome && PySem.W.typeIn K (.ref (He.ga K "Sizes")) == some (.type "type")) && (notB K (He.ga K "Sizes"))))))))))))))))))))
def exB2 (K : PySem.W.Frag) : Bool := He.eqO (PySem.W.findIn K (.ref (He.ga K "Sizes")) "__radd__") (some none) && (He.eqO (PySem.W.findIn K (.ref (He.ga K "Sizes")) "__rsub__") (some none) && (He.eqO (PySem.W.findIn K (.ref (He.ga K "Sizes")) "__rand__") (some none) && (He.eqO (PySem.W.findIn K (.ref (He.ga K "Sizes")) "__ror__") (some none) && (He.eqO (PySem.W.findIn K (.ref (He.ga K "Sizes")) "__rmul__") (some none) && ((He.Fa.mkr "Sizes").ok K && ((He.Fa.meth "Sizes" "__getitem__").ok K && ((He.Fa.meth "Sizes" "__contains__").ok K && ((He.Fa.meth "Sizes" "__iter__").ok K && ((He.Fa.meth "Sizes" "__len__").ok K && ((He.Fa.meth "Sizes" "__eq__").ok K && ((He.Fa.meth "Sizes" "fits").ok K && ((He.Fa.meth "Sizes" "__add__").ok K && ((He.Fa.meth "Sizes" "__sub__").ok K && ((He.Fa.meth "Sizes" "__and__").ok K && ((He.Fa.meth "Sizes" "__or__").ok K && ((He.Fa.meth "Sizes" "__mul__").ok K && ((He.Fa.meth "Sizes" "__call__").ok K && ((He.Fa.meth "Sizes" "by_name").ok K && ((He.Fa.meth "Sizes" "__str__").ok K)))))))))))))))))))
def exB3 (K : PySem.W.Frag) : Bool := (He.Fa.meth "Sizes" "__repr__").ok K && ((He.Fa.noat "Sizes" "kept").ok K && (decide (PySem.W.kitOne K (.ref (He.ga K "InvalidSizes")) (.ref (He.ga K "PoolError")) = some true) && (decide (PySem.W.kitOne K (.ref (He.ga K "InvalidSizes")) (.type "ValueError") = some true) && (decide (PySem.W.subIn K (.ref (He.ga K "InvalidSizes")) (.ref (He.ga K "InvalidSizes")) = some true)))))
def exB (K : PySem.W.Frag) : Bool := exB0 K && (exB1 K && (exB2 K && (exB3 K)))
theorem tx_of {K : PySem.W.Frag} {h : Heap} {mg : Str → Option Value} (X : K.In h) (G : h.Ns mainGlobals mg) (c : SaysL exB fnL K) : Tx K mg := by
  have z := c.all_
  unfold exB at z
  simp only [Bool.and_eq_true] at z
  obtain ⟨z0, z1, z2, z3⟩ := z
  unfold exB0 at z0
  simp only [Bool.and_eq_true] at z0
  obtain ⟨h_z_ArithmeticError, h_z_isinstance, h_z_str, h_z_len, h_z_int, h_z_bool, h_z_dict, h_z_all, h_z_sorted, h_z_iter, h_z_min, h_z_max, h_z_repr, h_z_ValueError, h_z_range, h_m_is_word, h_m_is_integer, h_m_are_amounts, h_m_check_sizes, h_m_law_draws⟩ := z0
  unfold exB1 at z1
  simp only [Bool.and_eq_true] at z1
  obtain ⟨h_m_law_draw, h_m_law_heard, h_m_law, h_m_PoolError, h_m_InvalidSizes, h_m_NotEnough, h_m_Sizes, h_p_PoolError, h_v_ArithmeticError, h_v_ValueError, h_x_InvalidSizes, h_i_InvalidSizes, h_x_NotEnough, h_i_NotEnough, h_c_LETTERS, h_c_MOST_LETTERS, h_cl_Sizes, h_kc_Sizes, h_ct_Sizes, h_nb_Sizes⟩ := z1
  unfold exB2 at z2
  simp only [Bool.and_eq_true] at z2
  obtain ⟨h_ro_Sizes_add, h_ro_Sizes_sub, h_ro_Sizes_and, h_ro_Sizes_or, h_ro_Sizes_mul, h_mk_Sizes, h_mt_Sizes_getitem, h_mt_Sizes_contains, h_mt_Sizes_iter, h_mt_Sizes_len, h_mt_Sizes_eq, h_mt_Sizes_fits, h_mt_Sizes_add, h_mt_Sizes_sub, h_mt_Sizes_and, h_mt_Sizes_or, h_mt_Sizes_mul, h_mt_Sizes_call, h_mt_Sizes_by_name, h_mt_Sizes_str⟩ := z2
  unfold exB3 at z3
  simp only [Bool.and_eq_true] at z3
  obtain ⟨h_mt_Sizes_repr, h_na_Sizes_kept, h_ic_IS_PE, h_ic_IS_VE, h_sb_IS⟩ := z3
  exact {
    z_ArithmeticError := PySem.W.mg_none_of X G (He.eqO_ok h_z_ArithmeticError)
    z_isinstance := PySem.W.mg_none_of X G (He.eqO_ok h_z_isinstance)
    z_str := PySem.W.mg_none_of X G (He.eqO_ok h_z_str)
    z_len := PySem.W.mg_none_of X G (He.eqO_ok h_z_len)
    z_int := PySem.W.mg_none_of X G (He.eqO_ok h_z_int)
    z_bool := PySem.W.mg_none_of X G (He.eqO_ok h_z_bool)
    z_dict := PySem.W.mg_none_of X G (He.eqO_ok h_z_dict)
    z_all := PySem.W.mg_none_of X G (He.eqO_ok h_z_all)
    z_sorted := PySem.W.mg_none_of X G (He.eqO_ok h_z_sorted)
    z_iter := PySem.W.mg_none_of X G (He.eqO_ok h_z_iter)
    z_min := PySem.W.mg_none_of X G (He.eqO_ok h_z_min)
    z_max := PySem.W.mg_none_of X G (He.eqO_ok h_z_max)
    z_repr := PySem.W.mg_none_of X G (He.eqO_ok h_z_repr)
    z_ValueError := PySem.W.mg_none_of X G (He.eqO_ok h_z_ValueError)
    z_range := PySem.W.mg_none_of X G (He.eqO_ok h_z_range)
    m_is_word := PySem.W.mg_of X G (He.eqO_ok h_m_is_word)
    m_is_integer := PySem.W.mg_of X G (He.eqO_ok h_m_is_integer)
    m_are_amounts := PySem.W.mg_of X G (He.eqO_ok h_m_are_amounts)
    m_check_sizes := PySem.W.mg_of X G (He.eqO_ok h_m_check_sizes)
    m_law_draws := PySem.W.mg_of X G (He.eqO_ok h_m_law_draws)
    m_law_draw := PySem.W.mg_of X G (He.eqO_ok h_m_law_draw)
    m_law_heard := PySem.W.mg_of X G (He.eqO_ok h_m_law_heard)
    m_law := PySem.W.mg_of X G (He.eqO_ok h_m_law)
    m_PoolError := PySem.W.mg_of X G (He.eqO_ok h_m_PoolError)
    m_InvalidSizes := PySem.W.mg_of X G (He.eqO_ok h_m_InvalidSizes)
    m_NotEnough := PySem.W.mg_of X G (He.eqO_ok h_m_NotEnough)
    m_Sizes := PySem.W.mg_of X G (He.eqO_ok h_m_Sizes)
    p_PoolError := xpB_ok h_p_PoolError
    v_ArithmeticError := valIs_ok h_v_ArithmeticError
    v_ValueError := valIs_ok h_v_ValueError
    x_InvalidSizes := xcB_ok h_x_InvalidSizes
    i_InvalidSizes := xiB_ok h_i_InvalidSizes
    x_NotEnough := xcB_ok h_x_NotEnough
    i_NotEnough := xiB_ok h_i_NotEnough
    c_LETTERS := (let ⟨t, e⟩ := He.str_ok X G h_c_LETTERS; ⟨_, e, t, rfl⟩)
    c_MOST_LETTERS := (let ⟨t, e⟩ := He.int_ok X G h_c_MOST_LETTERS; ⟨_, e, t, rfl⟩)
    cl_Sizes := He.cls_ok h_cl_Sizes
    kc_Sizes := ownB_ok h_kc_Sizes
    ct_Sizes := Bool.and_eq_true_iff.mpr h_ct_Sizes
    nb_Sizes := notB_ok h_nb_Sizes
    ro_Sizes_add := He.eqO_ok h_ro_Sizes_add
    ro_Sizes_sub := He.eqO_ok h_ro_Sizes_sub
    ro_Sizes_and := He.eqO_ok h_ro_Sizes_and
    ro_Sizes_or := He.eqO_ok h_ro_Sizes_or
    ro_Sizes_mul := He.eqO_ok h_ro_Sizes_mul
    mk_Sizes := He.mkr_ok h_mk_Sizes
    mt_Sizes_getitem := He.meth_ok h_mt_Sizes_getitem
    mt_Sizes_contains := He.meth_ok h_mt_Sizes_contains
    mt_Sizes_iter := He.meth_ok h_mt_Sizes_iter
    mt_Sizes_len := He.meth_ok h_mt_Sizes_len
    mt_Sizes_eq := He.meth_ok h_mt_Sizes_eq
    mt_Sizes_fits := He.meth_ok h_mt_Sizes_fits
    mt_Sizes_add := He.meth_ok h_mt_Sizes_add
    mt_Sizes_sub := He.meth_ok h_mt_Sizes_sub
    mt_Sizes_and := He.meth_ok h_mt_Sizes_and
    mt_Sizes_or := He.meth_ok h_mt_Sizes_or
    mt_Sizes_mul := He.meth_ok h_mt_Sizes_mul
    mt_Sizes_call := He.meth_ok h_mt_Sizes_call
    mt_Sizes_by_name := He.meth_ok h_mt_Sizes_by_name
    mt_Sizes_str := He.meth_ok h_mt_Sizes_str
    mt_Sizes_repr := He.meth_ok h_mt_Sizes_repr
    na_Sizes_kept := He.eqO_ok h_na_Sizes_kept
    ic_IS_PE := of_decide_eq_true h_ic_IS_PE
    ic_IS_VE := of_decide_eq_true h_ic_IS_VE
    sb_IS := of_decide_eq_true h_sb_IS
    F_InvalidSizes_init := c.def_ 0 (d := d_InvalidSizes_init) rfl
    F_NotEnough_init := c.def_ 1 (d := d_NotEnough_init) rfl
    F_is_word := c.def_ 2 (d := d_is_word) rfl
    F_is_integer := c.def_ 3 (d := d_is_integer) rfl
    F_are_amounts := c.def_ 4 (d := d_are_amounts) rfl
    F_Sizes_init := c.def_ 5 (d := d_Sizes_init) rfl
    F_Sizes_getitem := c.def_ 6 (d := d_Sizes_getitem) rfl
    F_Sizes_contains := c.def_ 7 (d := d_Sizes_contains) rfl
    F_Sizes_iter := c.def_ 8 (d := d_Sizes_iter) rfl
    F_Sizes_len := c.def_ 9 (d := d_Sizes_len) rfl
    F_Sizes_eq := c.def_ 10 (d := d_Sizes_eq) rfl
    F_Sizes_fits := c.def_ 11 (d := d_Sizes_fits) rfl
    F_Sizes_add := c.def_ 12 (d := d_Sizes_add) rfl
    F_Sizes_sub := c.def_ 13 (d := d_Sizes_sub) rfl
    F_Sizes_and := c.def_ 14 (d := d_Sizes_and) rfl
    F_Sizes_or := c.def_ 15 (d := d_Sizes_or) rfl
    F_Sizes_mul := c.def_ 16 (d := d_Sizes_mul) rfl
    F_Sizes_call := c.def_ 17 (d := d_Sizes_call) rfl
    F_Sizes_by_name := c.def_ 18 (d := d_Sizes_by_name) rfl
    F_Sizes_str := c.def_ 19 (d := d_Sizes_str) rfl
    F_Sizes_repr := c.def_ 20 (d := d_Sizes_repr) rfl
    F_check_sizes := c.def_ 21 (d := d_check_sizes) rfl
    F_law_draws := c.def_ 22 (d := d_law_draws) rfl
    F_law_draw := c.def_ 23 (d := d_law_draw) rfl
    F_law_heard := c.def_ 24 (d := d_law_heard) rfl
    F_law := c.def_ 25 (d := d_law) rfl }
theorem sc_InvalidSizes_init : FnScope ["self", "value"] ["self", "value"] (defScope S_InvalidSizes_init) := ⟨rfl, rfl, rfl, by decide +kernel, rfl, by decide +kernel, by decide +kernel⟩
theorem ok_InvalidSizes_init {P : Program} {w : World} {K : PySem.W.Frag} {mg : Str → Option Value} {base : Heap} (T : Tx K mg) : FnOk P w K mg base CX0 1 (A_InvalidSizes_init K) (D_InvalidSizes_init K) ["self", "value"] (spXI (He.ga K "InvalidSizes") "value") := by
  refine T.F_InvalidSizes_init.ok sc_InvalidSizes_init spXI_len (fun cdv A outer s H vs Q E hr h => ⟨_, PSs.nox ?_, read_xi T.x_InvalidSizes T.i_InvalidSizes h⟩)
  exact pss_cons (ps_expr (pe_xinit (Bn := "ValueError") (newId := "ValueError.__new__") LpX.init_value rfl T.m_PoolError T.p_PoolError.s T.p_PoolError.t T.p_PoolError.r T.p_PoolError.v (by decide +kernel) (pa_cons (pv 0) (pa_cons (pv 1) pa_nil)))) (pss_one (ps_xst (pv 0) (pv 1)))
theorem bd_InvalidSizes_init {K : PySem.W.Frag} {mg : Str → Option Value} (T : Tx K mg) : Binds K (D_InvalidSizes_init K) ["self", "value"] [] := T.F_InvalidSizes_init.bindsN fun _ _ _ _ _ _ us hl => match us, hl with | [_, _], _ => rfl
theorem mk_InvalidSizes {X : Cx} {e : Expr} {ta : TA} {p pos : Pos} (T : Tx X.K X.mg) (hr : Room 2 X.A) (hg : Gl X "InvalidSizes") (ha : PA X [e] ta) (he : starEach [e] X.env = (false, eval e X.env) :: starEach [] X.env := by rfl) (hpl : (backTo pos (starEach [] X.env)).any (·.1) = false := by rfl) :
    PE X (.Call (.Name "InvalidSizes" p) [e] [] pos) (tXMk (He.ga X.K "InvalidSizes") (spXI (He.ga X.K "InvalidSizes") "value") ta) :=
  pe_xmk F.excBase_ValueError T.x_InvalidSizes T.i_InvalidSizes.i T.i_InvalidSizes.t (ok_InvalidSizes_init T) hr (bd_InvalidSizes_init T) pass0 hg T.m_InvalidSizes ha (by decide) he hpl
theorem sc_NotEnough_init : FnScope ["self", "name"] ["self", "name"] (defScope S_NotEnough_init) := ⟨rfl, rfl, rfl, by decide +kernel, rfl, by decide +kernel, by decide +kernel⟩
theorem ok_NotEnough_init {P : Program} {w : World} {K : PySem.W.Frag} {mg : Str → Option Value} {base : Heap} (T : Tx K mg) : FnOk P w K mg base CX0 1 (A_NotEnough_init K) (D_NotEnough_init K) ["self", "name"] (spXI (He.ga K "NotEnough") "name") := by
  refine T.F_NotEnough_init.ok sc_NotEnough_init spXI_len (fun cdv A outer s H vs Q E hr h => ⟨_, PSs.nox ?_, read_xi T.x_NotEnough T.i_NotEnough h⟩)
  exact pss_cons (ps_expr (pe_binit (Bn := "ArithmeticError") (newId := "ArithmeticError.__new__") LpX.init_arith rfl T.z_ArithmeticError (by decide +kernel) (by kernel_rfl) (by decide +kernel) T.v_ArithmeticError (by decide +kernel) (pa_cons (pv 0) (pa_cons (pv 1) pa_nil)))) (pss_one (ps_xst (pv 0) (pv 1)))
theorem bd_NotEnough_init {K : PySem.W.Frag} {mg : Str → Option Value} (T : Tx K mg) : Binds K (D_NotEnough_init K) ["self", "name"] [] := T.F_NotEnough_init.bindsN fun _ _ _ _ _ _ us hl => match us, hl with | [_, _], _ => rfl
theorem mk_NotEnough {X : Cx} {e : Expr} {ta : TA} {p pos : Pos} (T : Tx X.K X.mg) (hr : Room 2 X.A) (hg : Gl X "NotEnough") (ha : PA X [e] ta) (he : starEach [e] X.env = (false, eval e X.env) :: starEach [] X.env := by rfl) (hpl : (backTo pos (starEach [] X.env)).any (·.1) = false := by rfl) :
    PE X (.Call (.Name "NotEnough" p) [e] [] pos) (tXMk (He.ga X.K "NotEnough") (spXI (He.ga X.K "NotEnough") "name") ta) :=
  pe_xmk F.excBase_ArithmeticError T.x_NotEnough T.i_NotEnough.i T.i_NotEnough.t (ok_NotEnough_init T) hr (bd_NotEnough_init T) pass0 hg T.m_NotEnough ha (by decide) he hpl
theorem pm_InvalidSizes {X : Cx} {e : Expr} {te : TE} {p pos : Pos} (T : Tx X.K X.mg) (hr : Room 2 X.A) (hg : Gl X "InvalidSizes") (ha : PE X e te) (he : starEach [e] X.env = (false, eval e X.env) :: starEach [] X.env := by rfl) (hpl : (backTo pos (starEach [] X.env)).any (·.1) = false := by rfl) :
    PMk X (.Call (.Name "InvalidSizes" p) [e] [] pos) (tMkX (He.ga X.K "InvalidSizes") "value" te) :=
  pmk_x F.excBase_ValueError T.x_InvalidSizes T.i_InvalidSizes.i T.i_InvalidSizes.t (ok_InvalidSizes_init T) hr (bd_InvalidSizes_init T) pass0 hg T.m_InvalidSizes ha (by decide) he hpl
theorem pm_NotEnough {X : Cx} {e : Expr} {te : TE} {p pos : Pos} (T : Tx X.K X.mg) (hr : Room 2 X.A) (hg : Gl X "NotEnough") (ha : PE X e te) (he : starEach [e] X.env = (false, eval e X.env) :: starEach [] X.env := by rfl) (hpl : (backTo pos (starEach [] X.env)).any (·.1) = false := by rfl) :
    PMk X (.Call (.Name "NotEnough" p) [e] [] pos) (tMkX (He.ga X.K "NotEnough") "name" te) :=
  pmk_x F.excBase_ArithmeticError T.x_NotEnough T.i_NotEnough.i T.i_NotEnough.t (ok_NotEnough_init T) hr (bd_NotEnough_init T) pass0 hg T.m_NotEnough ha (by decide) he hpl
end Lp

set_option Elab.async false
set_option linter.all false
set_option maxRecDepth 100000
set_option maxHeartbeats 4000000
namespace Lp
open PySem PySem.Spec PyProof.Rows L2
abbrev CS (K : PySem.W.Frag) : Addr := He.ga K "Sizes"
abbrev CI (K : PySem.W.Frag) : Addr := He.ga K "InvalidSizes"
/-! ### is_word -/
def isWord (s : Str) : Bool := (decide (0 < s.length) && decide (s.length ≤ 8)) && decide (Txt.stripChars s "abcdefghijklmnopqrstuvwxyz" = "")
/-- something that is no text -/
def NoStr (K : PySem.W.Frag) (H : Hp) (v : V) : Prop := ∃ t, TyX K H v t ∧ PySem.W.kitOne K t (.type "str") = some false
def spIsWord (K : PySem.W.Frag) : Sp := fun vs H Q _ => ∃ v, vs = [v] ∧ ((∃ s, v = .str s ∧ s.length ≤ sizeLine ∧ Q (.bl (isWord s)) H) ∨ (NoStr K H v ∧ Q (.bl false) H))
abbrev N_is_word : List Str := ["thing"]
theorem sc_is_word : FnScope N_is_word ["thing"] (defScope S_is_word) := ⟨rfl, rfl, rfl, by decide +kernel, rfl, by decide +kernel, by decide +kernel⟩
section
variable {P : Program} {w : World} {K : PySem.W.Frag} {mg : Str → Option Value} {base : Heap}
theorem ok_is_word (T : Tx K mg) : FnOk P w K mg base CX0 1 (A_is_word K) (D_is_word K) ["thing"] (spIsWord K) := by
  refine T.F_is_word.ok sc_is_word (fun vs H Q E h => ?_) (fun cdv A outer s H vs Q E hr h => ?_)
  · obtain ⟨v, rfl, _⟩ := h
    rfl
  · obtain ⟨v, rfl, h⟩ := h
    refine ⟨_, PSs.nox (pss_one (ps_ret (pe_and (pe_callB call_isi (by rfl) T.z_isinstance (by decide +kernel) (pa_cons (pv 0) (pa_cons (pe_bltn (v := .ty "str") rfl T.z_str (by decide +kernel) rfl) pa_nil))) (pe_and (pe_chain op_lt op_le pe_int (pe_callB call_len (by rfl) T.z_len (by decide +kernel) (pa_cons (pv 0) pa_nil)) (C8.pe_gc rfl T.c_MOST_LETTERS)) (pe_one (pe_cmpR op_eq (pe_bm PySem.F.plainAttrs_str PySem.F.slot_str_strip PySem.F.type_str_strip mt_stripChars (pv 0) (pa_cons (C8.pe_gc rfl T.c_LETTERS) pa_nil)) pe_str (nomark _))))))), ?_⟩
    rcases h with ⟨z, rfl, hz, q⟩ | ⟨⟨t, ty, hk⟩, q⟩
    · refine ⟨_, rfl, _, _, _, _, true, rfl, .ty "str", .base (.str z), kit_ty (by decide +kernel), _, rfl, ?_⟩
      refine iteT ?_
      refine ⟨_, rfl, _, _, rfl, ⟨hz, rfl⟩, _, _, rfl, rfl, _, rfl, ?_⟩
      by_cases h0 : 0 < z.length
      · rw [if_pos (decide_eq_true (show (0 : Int) < (z.length : Int) by omega))]
        refine ⟨_, _, rfl, rfl, _, rfl, ?_⟩
        by_cases h8 : z.length ≤ 8
        · rw [if_pos (decide_eq_true (show (z.length : Int) ≤ 8 by omega))]
          refine ⟨_, rfl, ?_, _, _, rfl, rfl, hz, rfl, ?_⟩
          · exact rfl
          · have e : isWord z = decide (V.str (Txt.stripChars z "abcdefghijklmnopqrstuvwxyz") = V.str "") := by
              unfold isWord
              rw [decide_eq_true h0, decide_eq_true h8]
              show decide _ = decide _
              exact decide_eq_decide.mpr ⟨fun e => by rw [e], fun e => V.str.inj e⟩
            rw [e] at q
            exact q
        · rw [if_neg (by rw [decide_eq_false (show ¬ (z.length : Int) ≤ 8 by omega)]; decide)]
          have e : isWord z = false := by unfold isWord; rw [decide_eq_false h8, Bool.and_false, Bool.false_and]
          rw [e] at q
          exact q
      · rw [if_neg (by rw [decide_eq_false (show ¬ (0 : Int) < (z.length : Int) by omega)]; decide)]
        have e : isWord z = false := by unfold isWord; rw [decide_eq_false h0, Bool.false_and, Bool.false_and]
        rw [e] at q
        exact ⟨_, rfl, iteF q⟩
    · refine ⟨_, rfl, _, _, _, _, false, rfl, .ty "str", ty, hk, _, rfl, ?_⟩
      exact iteF q
theorem bd_is_word {K : PySem.W.Frag} {mg : Str → Option Value} (T : Tx K mg) : Binds K (D_is_word K) ["thing"] [] := T.F_is_word.bindsN fun _ _ _ _ _ _ us hl => match us, hl with | [_], _ => rfl

/-! ### is_integer -/
def spIsInt (K : PySem.W.Frag) : Sp := fun vs H Q _ => ∃ v l, vs = [v, .int l] ∧ ((∃ n, v = .int n ∧ Q (.bl (decide (l ≤ n))) H) ∨ ((∃ b, v = .bl b) ∧ Q (.bl false) H) ∨ ((∃ t, TyX K H v t ∧ PySem.W.kitOne K t (.type "int") = some false) ∧ Q (.bl false) H))
abbrev N_is_integer : List Str := ["thing", "least"]
theorem sc_is_integer : FnScope N_is_integer ["thing", "least"] (defScope S_is_integer) := ⟨rfl, rfl, rfl, by decide +kernel, rfl, by decide +kernel, by decide +kernel⟩
theorem ok_is_integer (T : Tx K mg) : FnOk P w K mg base CX0 1 (A_is_integer K) (D_is_integer K) ["thing", "least"] (spIsInt K) := by
  refine T.F_is_integer.ok sc_is_integer (fun vs H Q E h => ?_) (fun cdv A outer s H vs Q E hr h => ?_)
  · obtain ⟨v, l, rfl, _⟩ := h
    rfl
  · obtain ⟨v, l, rfl, h⟩ := h
    refine ⟨_, PSs.nox (pss_one (ps_ret (pe_and (pe_callB call_isi (by rfl) T.z_isinstance (by decide +kernel) (pa_cons (pv 0) (pa_cons (pe_bltn (v := .ty "int") rfl T.z_int (by decide +kernel) rfl) pa_nil))) (pe_and (pe_not (pe_callB call_isi (by rfl) T.z_isinstance (by decide +kernel) (pa_cons (pv 0) (pa_cons (pe_bltn (v := .ty "bool") rfl T.z_bool (by decide +kernel) rfl) pa_nil)))) (pe_one (pe_cmpR op_ge (pv 0) (pv 1) (nomark _))))))), ?_⟩
    rcases h with ⟨n, rfl, q⟩ | ⟨⟨b, rfl⟩, q⟩ | ⟨⟨t, ty, hk⟩, q⟩
    · refine ⟨_, rfl, _, _, _, _, true, rfl, .ty "int", .base (.int n), kit_ty (by decide +kernel), _, rfl, ?_⟩
      refine iteT ?_
      refine ⟨_, rfl, _, _, _, _, false, rfl, .ty "bool", .base (.int n), kit_ty (by decide +kernel), _, rfl, _, rfl, ?_⟩
      refine iteT ?_
      exact ⟨_, rfl, _, rfl, _, _, rfl, rfl, q⟩
    · refine ⟨_, rfl, _, _, _, _, true, rfl, .ty "int", .base (.bl b), kit_ty (by decide +kernel), _, rfl, ?_⟩
      refine iteT ?_
      refine ⟨_, rfl, _, _, _, _, true, rfl, .ty "bool", .base (.bl b), kit_ty (by decide +kernel), _, rfl, _, rfl, ?_⟩
      exact iteF q
    · refine ⟨_, rfl, _, _, _, _, false, rfl, .ty "int", ty, hk, _, rfl, ?_⟩
      exact iteF q
theorem bd1_is_integer {K : PySem.W.Frag} {mg : Str → Option Value} (T : Tx K mg) : ∃ ds, Vals [.int 0] ds ∧ Binds K (D_is_integer K) ["thing", "least"] ds := T.F_is_integer.binds1 1 0 (by decide) (by decide) fun _ _ _ _ _ _ _ us its h1 h2 => match us, its, h1, h2 with | [_], [_], _, _ => ⟨_, rfl, rfl⟩
theorem bd2_is_integer {K : PySem.W.Frag} {mg : Str → Option Value} (T : Tx K mg) : ∃ ds, Vals [] ds ∧ Binds K (D_is_integer K) ["thing", "least"] ds := T.F_is_integer.binds1 2 1 (by decide) (by decide) fun _ _ _ _ _ _ _ us its h1 h2 => match us, its, h1, h2 with | [_, _], [_], _, _ => ⟨_, rfl, rfl⟩
end
end Lp

set_option Elab.async false
set_option linter.all false
set_option maxRecDepth 100000
set_option maxHeartbeats 4000000
namespace Lp
open PySem PySem.Spec PyProof.Rows L2
/-! ### are_amounts -/
def okKey : Key → Bool
  | .inl _ => false
  | .inr s => isWord s
def okAmt : V → Bool
  | .int n => decide (0 ≤ n)
  | _ => false
def amts (kvs : List (Key × V)) : Bool := kvs.all fun p => okKey p.1 && okAmt p.2
/-- keys that are not too long, values that are plain -/
def KOk : Key → Prop
  | .inl _ => True
  | .inr s => s.length ≤ sizeLine
def VOk : V → Prop
  | .non => True
  | .bl _ => True
  | .int _ => True
  | .str _ => True
  | _ => False
def KvOk (kvs : List (Key × V)) : Prop := kvs.length < 100000 ∧ (kvs.map (·.1)).Nodup ∧ ∀ p ∈ kvs, KOk p.1 ∧ VOk p.2
def NoDic (K : PySem.W.Frag) (H : Hp) (v : V) : Prop := ∃ t, TyX K H v t ∧ PySem.W.kitOne K t (.type "dict") = some false
def spAmts (K : PySem.W.Frag) : Sp := fun vs H Q _ => ∃ v, vs = [v] ∧ ((NoDic K H v ∧ Q (.bl false) H) ∨ ∃ d kvs, v = .ref d ∧ Rd H d (.dK kvs) ∧ KvOk kvs ∧ ∀ H', Same H H' → Q (.bl (amts kvs)) H')
theorem noStr_int (K : PySem.W.Frag) (H : Hp) (i : Int) : NoStr K H (.int i) := ⟨_, .base (.int i), kit_ty (by decide +kernel)⟩
theorem isWord_sp {K : PySem.W.Frag} {H : Hp} {Q : VK} {E : XK} {k : Key} (h : KOk k) (q : Q (.bl (okKey k)) H) : spIsWord K [kV k] H Q E := by
  cases k with
  | inl i => exact ⟨_, rfl, .inr ⟨noStr_int K H i, q⟩⟩
  | inr s => exact ⟨_, rfl, .inl ⟨s, rfl, h, q⟩⟩
theorem isInt_sp {K : PySem.W.Frag} {H : Hp} {Q : VK} {E : XK} {v : V} (h : VOk v) (q : Q (.bl (okAmt v)) H) : spIsInt K [v, .int 0] H Q E := by
  cases v with
  | non => exact ⟨_, _, rfl, .inr (.inr ⟨⟨_, .base .non, kit_ty (by decide +kernel)⟩, q⟩)⟩
  | bl b => exact ⟨_, _, rfl, .inr (.inl ⟨⟨b, rfl⟩, q⟩)⟩
  | int n => exact ⟨_, _, rfl, .inl ⟨n, rfl, q⟩⟩
  | str s => exact ⟨_, _, rfl, .inr (.inr ⟨⟨_, .base (.str s), kit_ty (by decide +kernel)⟩, q⟩)⟩
  | byt b => exact False.elim h
  | flt b => exact False.elim h
  | ref a => exact False.elim h
  | ty n => exact False.elim h
def amtAt (kvs : List (Key × V)) (i : Nat) : Bool := match kvs[i]? with
  | some x => okKey x.1 && okAmt x.2
  | none => true
theorem amtAt_eq {kvs : List (Key × V)} {i : Nat} {k : Key} {v : V} (h : kvs[i]? = some (k, v)) : amtAt kvs i = (okKey k && okAmt v) := by
  unfold amtAt
  rw [h]
theorem all_amts (kvs : List (Key × V)) : ((List.range kvs.length).map (amtAt kvs)).all id = amts kvs := by
  have e : (List.range kvs.length).map (amtAt kvs) = kvs.map fun p => okKey p.1 && okAmt p.2 := by
    refine List.ext_getElem? fun i => ?_
    rw [List.getElem?_map, List.getElem?_map]
    by_cases h : i < kvs.length
    · rw [List.getElem?_range h, List.getElem?_eq_getElem h]
      show some (amtAt kvs i) = some _
      rw [amtAt_eq (List.getElem?_eq_getElem h)]
      rfl
    · rw [List.getElem?_eq_none (by rw [List.length_range]; omega), List.getElem?_eq_none (by omega)]
      rfl
  rw [e, List.all_map]
  rfl
abbrev N_are_amounts : List Str := ["thing", "name"]
theorem sc_are_amounts : FnScope N_are_amounts ["thing"] (defScope S_are_amounts) := ⟨rfl, rfl, rfl, by decide +kernel, rfl, by decide +kernel, by decide +kernel⟩
section
variable {P : Program} {w : World} {K : PySem.W.Frag} {mg : Str → Option Value} {base : Heap}
theorem ok_are_amounts (T : Tx K mg) : FnOk P w K mg base CX0 2 (A_are_amounts K) (D_are_amounts K) ["thing"] (spAmts K) := by
  refine T.F_are_amounts.ok sc_are_amounts (fun vs H Q E h => ?_) (fun cdv A outer s H vs Q E hr h => ?_)
  · obtain ⟨v, rfl, _⟩ := h
    rfl
  · obtain ⟨v, rfl, h⟩ := h
    have hu : (A.deeper (envOfC "are_amounts" (defScope S_are_amounts) s.heap.objs.size (A_are_amounts K) cdv)).units + 1 < cLine := by have := hr.units; omega
    refine ⟨_, PSs.nox (pss_one (ps_ret (pe_and (pe_callB call_isi (by rfl) T.z_isinstance (by decide +kernel) (pa_cons (pv 0) (pa_cons (pe_bltn (v := .ty "dict") rfl T.z_dict (by decide +kernel) rfl) pa_nil))) (pe_one (pe_lockR (pe_callB (cr_all rfl) (by rfl) T.z_all (by decide +kernel) (pa_cons (pe_lc (own := [("name", 1)]) rfl sc_are_amounts.nd (pi_keys (pv 0)) (blkOk_by (N := N_are_amounts) (sc := defScope S_are_amounts) (by decide +kernel)) (fun _ _ _ _ _ => (pg_name (i := 1) sc_are_amounts.nd rfl (by first | exact Or.inl rfl | exact Or.inr rfl))) (fun _ _ _ _ _ => pts_nil) (fun _ _ _ _ _ => (pe_and (pe_call (ok_is_word T) (hr.mono (by decide)) rfl T.m_is_word T.F_is_word.kp (bd_is_word T) .nil pass0 (pa_cons (pv 1) pa_nil)) (pe_one (pe_call (ok_is_integer T) (hr.mono (by decide)) rfl T.m_is_integer T.F_is_integer.kp (bd1_is_integer T).choose_spec.2 (bd1_is_integer T).choose_spec.1 pass0 (pa_cons (pe_dget hu (pv 0) (pv 1) (fun _ _ => rfl)) pa_nil)))))) pa_nil))))))), ?_⟩
    rcases h with ⟨⟨t, ty, hk⟩, q⟩ | ⟨d, kvs, rfl, hd, ⟨hn, nd, ok⟩, q⟩
    · refine ⟨_, rfl, _, _, _, _, false, rfl, .ty "dict", ty, hk, _, rfl, ?_⟩
      exact iteF q
    · have ty : TyX K H (.ref d) (.type "dict") := by
        rcases hd with hd | ⟨o, hd⟩
        · exact .base (.dK hd)
        · exact .fDict hd
      refine ⟨_, rfl, _, _, _, _, true, rfl, .ty "dict", ty, kit_ty (by decide +kernel), _, rfl, ?_⟩
      refine iteT (lockR_of hd trivial (fun o H1 Q1 h1 q1 => ?_) q)
      refine ⟨_, rfl, d, o, rfl, .inl ⟨kvs, h1, fun D hD => lc_gw walk_keys (fun _ => true) (fun i y _ => y = V.bl (amtAt kvs i)) (fun _ _ _ _ _ h => h) (same_refl H1) hD hn (fun H' s' => s' _ _ h1) ?lcs ?lcd⟩⟩
      case lcs =>
        rintro i x F H2 H3 Qn Qs hi gw ⟨rfl, k, v, e, rfl⟩ qn qs
        have hkv := ok _ (List.mem_of_getElem? e)
        refine ⟨rfl, yes_then ?_⟩
        have fin : ∀ b, (okKey k && okAmt v) = b → Qn (.bl b) H3 := fun b eb => qn rfl _ F H3 (Gw.refl gw.fh) (by rw [amtAt_eq e, eb])
        refine ⟨_, rfl, r_nil ?_⟩
        refine isWord_sp hkv.1 ⟨_, rfl, ?_⟩
        cases ek : okKey k with
        | false => exact iteF (fin false (by rw [ek]; rfl))
        | true =>
          refine iteT ⟨_, rfl, _, rfl, d, v, rfl, .inl ⟨kvs, k, .inr ⟨o, gw.hh _ _ h1⟩, rfl, (valV_at nd e).symm⟩, r_nil ?_⟩
          exact isInt_sp hkv.2 (fin _ (by rw [ek]; rfl))
      case lcd =>
        intro ys F H' gw fD hH pr
        rw [filter_true] at pr
        have e := paired_eq pr
        refine ⟨D, (List.range kvs.length).map (amtAt kvs), rfl, SqL.of (by rw [hH, e, List.map_map]; rfl), ?_⟩
        rw [all_amts]
        exact q1 _ gw.hh
theorem bd_are_amounts {K : PySem.W.Frag} {mg : Str → Option Value} (T : Tx K mg) : Binds K (D_are_amounts K) ["thing"] [] := T.F_are_amounts.bindsN fun _ _ _ _ _ _ us hl => match us, hl with | [_], _ => rfl
end
end Lp

set_option Elab.async false
set_option linter.all false
set_option maxRecDepth 100000
set_option maxHeartbeats 4000000
namespace Lp
open PySem PySem.Spec PyProof.Rows L2
/-- InvalidSizes(v) goes out -/
def Rz (K : PySem.W.Frag) (v : V) (H : Hp) (E : XK) : Prop := ∀ d H', Same H H' → H d = none → H' d = some (.xd [("value", v)]) → E (.ref (CI K)) (some d) H'
/-! ### check_sizes -/
def NoSz (K : PySem.W.Frag) (H : Hp) (v : V) : Prop := ∃ T, TyX K H v (.type T) ∧ T ∈ ["NoneType", "int", "str", "dict", "list", "tuple", "bool"]
def spChk (K : PySem.W.Frag) : Sp := fun vs H Q E => ∃ v, vs = [v] ∧ ((∃ a dx fs, v = .ref a ∧ H a = some (.ins (CS K) dx fs) ∧ Q .non H) ∨ (NoSz K H v ∧ Rz K v H E))
abbrev N_check_sizes : List Str := ["thing"]
theorem sc_check_sizes : FnScope N_check_sizes ["thing"] (defScope S_check_sizes) := ⟨rfl, rfl, rfl, by decide +kernel, rfl, by decide +kernel, by decide +kernel⟩
section
variable {P : Program} {w : World} {K : PySem.W.Frag} {mg : Str → Option Value} {base : Heap}
theorem ok_check_sizes (T : Tx K mg) : FnOk P w K mg base (CX P w) 3 (A_check_sizes K) (D_check_sizes K) ["thing"] (spChk K) := by
  refine T.F_check_sizes.ok sc_check_sizes (fun vs H Q E h => ?_) (fun cdv A outer s H vs Q E hr h => ?_)
  · obtain ⟨v, rfl, _⟩ := h
    rfl
  · obtain ⟨v, rfl, h⟩ := h
    refine ⟨_, (pss_one (ps_if (pt_not (pt_val (pe_callB call_isi (by rfl) T.z_isinstance (by decide +kernel) (pa_cons (pv 0) (pa_cons (pe_glob (v := .ref _) rfl T.m_Sizes rfl) pa_nil))))) (pss_one (ps_raise rfl (takes_of rfl rfl rfl rfl) (pm_InvalidSizes T (hr.mono (by decide)) rfl (pv 0)))) pss_nil)), ?_⟩
    rcases h with ⟨a, dx, fs, rfl, ha, q⟩ | ⟨⟨T0, ty, hT⟩, hz⟩
    · refine ⟨_, rfl, _, _, _, _, true, rfl, .own _, tyIns T.cl_Sizes T.kc_Sizes ha, kit_self, _, rfl, ?_⟩
      exact iteF q
    · refine ⟨_, rfl, _, _, _, _, false, rfl, .own _, ty, kit_no T.ct_Sizes hT, _, rfl, ?_⟩
      refine iteT ?_
      exact ⟨_, rfl, fun d hd => hz d _ (same_new hd) hd upd_same⟩
theorem bd_check_sizes {K : PySem.W.Frag} {mg : Str → Option Value} (T : Tx K mg) : Binds K (D_check_sizes K) ["thing"] [] := T.F_check_sizes.bindsN fun _ _ _ _ _ _ us hl => match us, hl with | [_], _ => rfl
end
/-! ### Sizes -/
/-- pools and amounts as a dict -/
def kvm (m : List (Str × Int)) : List (Key × V) := m.map fun p => (Sum.inr p.1, V.int p.2)
def lk : List (Str × Int) → Str → Option Int
  | [], _ => none
  | p :: m, y => if p.1 = y then some p.2 else lk m y
def val (m : List (Str × Int)) (y : Str) : Int := (lk m y).getD 0
def SrcOk (m : List (Str × Int)) : Prop := (m.map (·.1)).Nodup ∧ m.length < 64 ∧ ∀ p ∈ m, isWord p.1 = true ∧ p.1.length ≤ sizeLine ∧ 0 ≤ p.2
/-- what Sizes keeps of a dict: the positive amounts, by name -/
def Made (src m : List (Str × Int)) : Prop := ∃ ys : List Str, ys.Perm (src.map (·.1)) ∧ sortedS ys = true ∧ m = (ys.filter fun y => decide (0 < val src y)).map fun y => (y, val src y)
/-- what gives no sizes -/
def NoAmt (K : PySem.W.Frag) (H : Hp) (v : V) : Prop := NoDic K H v ∨ ∃ d kvs, v = .ref d ∧ Rd H d (.dK kvs) ∧ KvOk kvs ∧ amts kvs = false
def spSzInit (K : PySem.W.Frag) : Sp := fun vs H Q E => ∃ x dx v, vs = [.ref x, v] ∧ H x = some (.ins (CS K) dx []) ∧ ((NoAmt K H v ∧ Rz K v H E) ∨ ∃ d src, v = .ref d ∧ Rd H d (.dK (kvm src)) ∧ SrcOk src ∧
  ∀ m H' dk od, (∀ b o, b ≠ x → H b = some o → H' b = some o) → H' x = some (.ins (CS K) dx [("kept", .ref dk)]) → H' dk = some (.frz od (.dK (kvm m))) → H dk = none → Made src m → Q .non H')
theorem kvm_keys (m : List (Str × Int)) : (kvm m).map (·.1) = (m.map (·.1)).map Sum.inr := by
  unfold kvm
  rw [List.map_map, List.map_map]
  rfl
theorem inr_nodup {l : List Str} (h : l.Nodup) : (l.map (Sum.inr : Str → Key)).Nodup := List.Pairwise.map _ (fun a b ne e => ne (Sum.inr.inj e)) h
theorem kvm_nodup {m : List (Str × Int)} (h : (m.map (·.1)).Nodup) : ((kvm m).map (·.1)).Nodup := by
  rw [kvm_keys]
  exact inr_nodup h
theorem kvm_ok {m : List (Str × Int)} (h : SrcOk m) : KvOk (kvm m) := by
  obtain ⟨nd, l, q⟩ := h
  refine ⟨by unfold kvm; rw [List.length_map]; omega, kvm_nodup nd, fun p hp => ?_⟩
  obtain ⟨r, hr, rfl⟩ := List.mem_map.mp hp
  exact ⟨(q r hr).2.1, trivial⟩
theorem kvm_amts {m : List (Str × Int)} (h : SrcOk m) : amts (kvm m) = true := by
  refine List.all_eq_true.mpr fun p hp => ?_
  obtain ⟨r, hr, rfl⟩ := List.mem_map.mp hp
  obtain ⟨h1, _, h2⟩ := h.2.2 r hr
  show (isWord r.1 && decide (0 ≤ r.2)) = true
  rw [h1, decide_eq_true h2]
  rfl
theorem valV_kvm : ∀ (m : List (Str × Int)) (y : Str), valV (kvm m) (Sum.inr y) = (lk m y).map V.int
  | [], y => rfl
  | p :: m, y => by
    show valV ((Sum.inr p.1, V.int p.2) :: kvm m) (Sum.inr y) = (if p.1 = y then some p.2 else lk m y).map V.int
    by_cases e : p.1 = y
    · rw [valV_pos (by rw [e]), if_pos e]
      rfl
    · rw [valV_neg fun z => e (Sum.inr.inj z), valV_kvm m y, if_neg e]
theorem lk_in : ∀ {m : List (Str × Int)} {y : Str}, y ∈ m.map (·.1) → lk m y = some (val m y)
  | [], y, h => by simp at h
  | p :: m, y, h => by
    unfold val
    show (if p.1 = y then some p.2 else lk m y) = some ((if p.1 = y then some p.2 else lk m y).getD 0)
    by_cases e : p.1 = y
    · rw [if_pos e]; rfl
    · rw [if_neg e]
      have h' : y ∈ m.map (·.1) := by
        rcases List.mem_cons.mp (show y ∈ p.1 :: m.map (·.1) from h) with z | z
        · exact absurd z.symm e
        · exact z
      rw [lk_in h']
      rfl
theorem dget_kvm {H : Hp} {d : Addr} {m : List (Str × Int)} {y : Str} (h : Rd H d (.dK (kvm m))) (hy : y ∈ m.map (·.1)) : DGet H d (.str y) (some (.int (val m y))) :=
  .inl ⟨_, Sum.inr y, h, rfl, by rw [valV_kvm, lk_in hy]; rfl⟩
theorem rd_same {H H' : Hp} {d : Addr} {u : HO} (s : Same H H') (h : Rd H d u) : Rd H' d u := Evl.ex_rd s h
/-- filtered turns, as what they stand for -/
theorem range_filter {α β : Type} (ys : List α) (p : α → Bool) (f : Nat → Bool) (g : Nat → β) (h : α → β) (hf : ∀ i y, ys[i]? = some y → f i = p y) (hg : ∀ i y, ys[i]? = some y → g i = h y) :
    ((List.range ys.length).filter f).map g = (ys.filter p).map h := by
  suffices q : ∀ n, n ≤ ys.length → ((List.range n).filter f).map g = ((ys.take n).filter p).map h by
    have := q ys.length (Nat.le_refl _)
    rwa [List.take_length] at this
  intro n
  induction n with
  | zero => intro _; simp
  | succ n ih =>
    intro hn
    have hy : ys[n]? = some ys[n] := List.getElem?_eq_getElem hn
    rw [List.range_succ, List.filter_append, List.map_append, ih (by omega), List.take_succ, hy, List.filter_append, List.map_append]
    congr 1
    have e := hf n _ hy
    by_cases z : f n = true
    · have z2 : p ys[n] = true := by rw [← e]; exact z
      simp [z, z2, hg n _ hy]
    · have z2 : ¬ p ys[n] = true := by rw [← e]; exact z
      simp [z, z2]
abbrev N_Sizes_init : List Str := ["self", "amounts", "name"]
theorem sc_Sizes_init : FnScope N_Sizes_init ["self", "amounts"] (defScope S_Sizes_init) := ⟨rfl, rfl, rfl, by decide +kernel, rfl, by decide +kernel, by decide +kernel⟩
section
variable {P : Program} {w : World} {K : PySem.W.Frag} {mg : Str → Option Value} {base : Heap}
theorem ok_Sizes_init (T : Tx K mg) : FnOk P w K mg base (CX P w) 3 (A_Sizes_init K) (D_Sizes_init K) ["self", "amounts"] (spSzInit K) := by
  refine T.F_Sizes_init.ok sc_Sizes_init (fun vs H Q E h => ?_) (fun cdv A outer s H vs Q E hr h => ?_)
  · obtain ⟨x, dx, v, rfl, _⟩ := h
    rfl
  · obtain ⟨x, dx, v, rfl, hx, h⟩ := h
    have hu : (A.deeper (envOfC "Sizes.__init__" (defScope S_Sizes_init) s.heap.objs.size (A_Sizes_init K) cdv)).units + 1 < cLine := by have := hr.units; omega
    refine ⟨_, (pss_cons (ps_if (pt_not (pt_val (pe_call (ok_are_amounts T) (hr.mono (by decide)) rfl T.m_are_amounts T.F_are_amounts.kp (bd_are_amounts T) .nil pass0 (pa_cons (pv 1) pa_nil)))) (pss_one (ps_raise rfl (takes_of rfl rfl rfl rfl) (pm_InvalidSizes T (hr.mono (by decide)) rfl (pv 1)))) pss_nil) (pss_one (ps_frz (ps_fld (pv 0) (pe_dc (own := [("name", 2)]) rfl sc_Sizes_init.nd (pi_list (pe_callB (call_sortedD rfl) (by rfl) T.z_sorted (by decide +kernel) (pa_cons (pv 1) pa_nil))) (blkOk_by (N := N_Sizes_init) (sc := defScope S_Sizes_init) (by decide +kernel)) (fun _ _ _ _ _ => (pg_name (i := 2) sc_Sizes_init.nd rfl (by first | exact Or.inl rfl | exact Or.inr rfl))) (fun _ _ _ _ _ => (pts_one (pt_cmpR op_gt (pe_dget hu (pv 1) (pv 2) (fun _ _ => rfl)) pe_int (nomark _)))) (fun _ _ _ _ _ => (pv 2)) (fun _ _ _ _ _ => (pe_dget hu (pv 1) (pv 2) (fun _ _ => rfl)))) rfl)))), ?_⟩
    rcases h with ⟨no, hz⟩ | ⟨d, src, rfl, hd, ok, q⟩
    · have go : ∀ b H', b = false → Same H H' → (fun v H1 => ∃ c, v = V.bl c ∧ True) (V.bl b) H' := fun _ _ _ _ => ⟨_, rfl, trivial⟩
      refine ⟨_, rfl, r_nil ?_⟩
      rcases no with no | ⟨d, kvs, rfl, hd, hk, hb⟩
      · refine ⟨_, rfl, .inl ⟨no, _, rfl, iteT ⟨_, rfl, fun d hd => hz d _ (same_new hd) hd upd_same⟩⟩⟩
      · refine ⟨_, rfl, .inr ⟨d, kvs, rfl, hd, hk, fun H1 s1 => ⟨_, rfl, ?_⟩⟩⟩
        rw [hb]
        exact iteT ⟨_, rfl, fun d hd => hz d _ (same_trans s1 (same_new hd)) (same_off s1 hd) upd_same⟩
    · refine ⟨_, rfl, r_nil ⟨_, rfl, .inr ⟨d, _, rfl, hd, kvm_ok ok, fun H1 s1 => ⟨_, rfl, ?_⟩⟩⟩⟩
      rw [kvm_amts ok]
      refine iteF ?_
      refine ⟨_, rfl, d, kvm src, src.map (·.1), rfl, rd_same s1 hd, kvm_keys src, by rw [List.length_map]; exact ok.2.1, fun ys p hp hs hN => ?_⟩
      have hl : ys.length = src.length := by rw [hp.length_eq, List.length_map]
      have hin : ∀ {i : Nat} {y : Str}, ys[i]? = some y → y ∈ src.map (·.1) := fun e => hp.mem_iff.mp (List.mem_of_getElem? e)
      have hD2 : Same H1 (upd H1 p (.lst (ys.map V.str))) := same_new hN
      refine ⟨p, rfl, ⟨_, SqL.of upd_same⟩, fun D hD => dc_gw (walk_list (xs := ys.map V.str)) (fun i => decide (0 < val src (ys.getD i ""))) (fun i => Sum.inr (ys.getD i "")) (fun i y _ => y = V.int (val src (ys.getD i ""))) (fun _ _ _ _ _ h => h) (same_refl _) hD (by rw [List.length_map, hl]; have := ok.2.1; omega) (fun H' s' => SqL.of (s' _ _ upd_same)) ?lcs ?lcd⟩
      case lcs =>
        rintro i xv F H2 H3 Qn Qs hi gw ⟨rfl, e⟩ qn qs
        obtain ⟨y, e1, rfl⟩ : ∃ y, ys[i]? = some y ∧ xv = V.str y := by
          rw [List.getElem?_map] at e
          cases e1 : ys[i]? with
          | none => rw [e1] at e; cases e
          | some y => rw [e1] at e; exact ⟨y, rfl, (Option.some.inj e).symm⟩
        have ey : ys.getD i "" = y := by rw [List.getD_eq_getElem?_getD, e1]; rfl
        rw [ey] at qn qs
        have dg := dget_kvm (rd_same (same_trans s1 (same_trans hD2 gw.hh)) hd) (hin e1)
        refine ⟨rfl, ?_⟩
        refine ⟨_, rfl, _, rfl, d, _, rfl, dg, _, _, rfl, rfl, _, rfl, ?_⟩
        cases ev : decide (0 < val src y) with
        | true => exact iteT ⟨_, rfl, _, rfl, _, rfl, d, _, rfl, dg, qn ev _ F H3 (Gw.refl gw.fh) rfl⟩
        | false => exact iteF (qs ev F H3 (Gw.refl gw.fh))
      case lcd =>
        intro zs F H' gw fD pr hH
        have ez := paired_eq (g := fun i => V.int (val src (ys.getD i ""))) pr
        have nd : ys.Nodup := hp.nodup_iff.mpr ok.1
        have em : puts ((((List.range (ys.map V.str).length).filter fun i => decide (0 < val src (ys.getD i ""))).map fun i => (Sum.inr (ys.getD i "") : Key)).zip zs) = kvm ((ys.filter fun y => decide (0 < val src y)).map fun y => (y, val src y)) := by
          have gd : ∀ i y, ys[i]? = some y → ys.getD i "" = y := fun i y e1 => by rw [List.getD_eq_getElem?_getD, e1]; rfl
          rw [ez, List.zip_map', List.length_map, range_filter ys (fun y => decide (0 < val src y)) _ _ (fun y => ((Sum.inr y : Key), V.int (val src y))) (fun i y e1 => by rw [gd i y e1]) (fun i y e1 => by rw [gd i y e1])]
          have e3 : (ys.filter fun y => decide (0 < val src y)).map (fun y => ((Sum.inr y : Key), V.int (val src y))) = kvm ((ys.filter fun y => decide (0 < val src y)).map fun y => (y, val src y)) := by
            unfold kvm
            rw [List.map_map]
            rfl
          rw [e3]
          refine puts_nodup (kvm_nodup ?_)
          rw [List.map_map]
          have e4 : (ys.filter fun y => decide (0 < val src y)).map ((fun p : Str × Int => p.1) ∘ fun y => (y, val src y)) = ys.filter fun y => decide (0 < val src y) := by
            show List.map id _ = _
            rw [List.map_id]
          rw [e4]
          exact List.Pairwise.filter _ nd
        rw [em] at hH
        have sH : Same H H' := same_trans s1 (same_trans hD2 gw.hh)
        have hx' := sH _ _ hx
        have ne : D ≠ x := fun z => by
          rw [z, hx'] at hH
          cases hH
        refine ⟨_, rfl, x, _, _, [], rfl, hx', T.cl_Sizes, T.na_Sizes_kept, by decide, D, .dK _, by rw [upd_ne ne]; exact hH, trivial, fun od => ?_⟩
        refine q _ _ D od (fun b o hb e => ?_) (by rw [upd_ne ne.symm, upd_same]; rfl) upd_same (same_off (same_trans s1 hD2) hD) ⟨ys, hp, hs, rfl⟩
        have hbD : b ≠ D := ne_of_none e (same_off (same_trans s1 hD2) hD)
        rw [upd_ne hbD, upd_ne hb]
        exact sH _ _ e
theorem bd_Sizes_init {K : PySem.W.Frag} {mg : Str → Option Value} (T : Tx K mg) : Binds K (D_Sizes_init K) ["self", "amounts"] [] := T.F_Sizes_init.bindsN fun _ _ _ _ _ _ us hl => match us, hl with | [_, _], _ => rfl
end
end Lp

set_option Elab.async false
set_option linter.all false
set_option maxRecDepth 100000
set_option maxHeartbeats 4000000
namespace Lp
open PySem PySem.Spec PyProof.Rows L2
/-! ### operators and fits with something that is no Sizes -/
def spNoSz (K : PySem.W.Frag) : Sp := fun vs H Q E => ∃ a v, vs = [.ref a, v] ∧ NoSz K H v ∧ Rz K v H E
abbrev N_Sizes_add : List Str := ["self", "other", "name"]
theorem sc_Sizes_add : FnScope N_Sizes_add ["self", "other"] (defScope S_Sizes_add) := ⟨rfl, rfl, rfl, by decide +kernel, rfl, by decide +kernel, by decide +kernel⟩
abbrev N_Sizes_sub : List Str := ["self", "other", "name"]
theorem sc_Sizes_sub : FnScope N_Sizes_sub ["self", "other"] (defScope S_Sizes_sub) := ⟨rfl, rfl, rfl, by decide +kernel, rfl, by decide +kernel, by decide +kernel⟩
abbrev N_Sizes_and : List Str := ["self", "other", "name"]
theorem sc_Sizes_and : FnScope N_Sizes_and ["self", "other"] (defScope S_Sizes_and) := ⟨rfl, rfl, rfl, by decide +kernel, rfl, by decide +kernel, by decide +kernel⟩
abbrev N_Sizes_or : List Str := ["self", "other", "name"]
theorem sc_Sizes_or : FnScope N_Sizes_or ["self", "other"] (defScope S_Sizes_or) := ⟨rfl, rfl, rfl, by decide +kernel, rfl, by decide +kernel, by decide +kernel⟩
abbrev N_Sizes_fits : List Str := ["self", "other", "name"]
theorem sc_Sizes_fits : FnScope N_Sizes_fits ["self", "other"] (defScope S_Sizes_fits) := ⟨rfl, rfl, rfl, by decide +kernel, rfl, by decide +kernel, by decide +kernel⟩
section
variable {P : Program} {w : World} {K : PySem.W.Frag} {mg : Str → Option Value} {base : Heap}
theorem ok_Sizes_add (T : Tx K mg) : FnOk P w K mg base (CX P w) 4 (A_Sizes_add K) (D_Sizes_add K) ["self", "other"] (spNoSz K) := by
  refine T.F_Sizes_add.ok sc_Sizes_add (fun vs H Q E h => ?_) (fun cdv A outer s H vs Q E hr h => ?_)
  · obtain ⟨a, v, rfl, _⟩ := h
    rfl
  · obtain ⟨a, v, rfl, h⟩ := h
    exact ⟨_, (pss_cons (ps_expr (pe_call (ok_check_sizes T) (hr.mono (by decide)) rfl T.m_check_sizes T.F_check_sizes.kp (bd_check_sizes T) .nil (passes_call (takes_of rfl rfl rfl rfl) (fun _ _ _ _ z => z)) (pa_cons (pv 1) pa_nil))) (pss_one ps_dead)), _, rfl, r_nil ⟨_, rfl, .inr h⟩⟩
theorem bd_Sizes_add {K : PySem.W.Frag} {mg : Str → Option Value} (T : Tx K mg) : Binds K (D_Sizes_add K) ["self", "other"] [] := T.F_Sizes_add.bindsN fun _ _ _ _ _ _ us hl => match us, hl with | [_, _], _ => rfl
theorem ok_Sizes_sub (T : Tx K mg) : FnOk P w K mg base (CX P w) 4 (A_Sizes_sub K) (D_Sizes_sub K) ["self", "other"] (spNoSz K) := by
  refine T.F_Sizes_sub.ok sc_Sizes_sub (fun vs H Q E h => ?_) (fun cdv A outer s H vs Q E hr h => ?_)
  · obtain ⟨a, v, rfl, _⟩ := h
    rfl
  · obtain ⟨a, v, rfl, h⟩ := h
    exact ⟨_, (pss_cons (ps_expr (pe_call (ok_check_sizes T) (hr.mono (by decide)) rfl T.m_check_sizes T.F_check_sizes.kp (bd_check_sizes T) .nil (passes_call (takes_of rfl rfl rfl rfl) (fun _ _ _ _ z => z)) (pa_cons (pv 1) pa_nil))) (pss_cons ps_dead (pss_one ps_dead))), _, rfl, r_nil ⟨_, rfl, .inr h⟩⟩
theorem bd_Sizes_sub {K : PySem.W.Frag} {mg : Str → Option Value} (T : Tx K mg) : Binds K (D_Sizes_sub K) ["self", "other"] [] := T.F_Sizes_sub.bindsN fun _ _ _ _ _ _ us hl => match us, hl with | [_, _], _ => rfl
theorem ok_Sizes_and (T : Tx K mg) : FnOk P w K mg base (CX P w) 4 (A_Sizes_and K) (D_Sizes_and K) ["self", "other"] (spNoSz K) := by
  refine T.F_Sizes_and.ok sc_Sizes_and (fun vs H Q E h => ?_) (fun cdv A outer s H vs Q E hr h => ?_)
  · obtain ⟨a, v, rfl, _⟩ := h
    rfl
  · obtain ⟨a, v, rfl, h⟩ := h
    exact ⟨_, (pss_cons (ps_expr (pe_call (ok_check_sizes T) (hr.mono (by decide)) rfl T.m_check_sizes T.F_check_sizes.kp (bd_check_sizes T) .nil (passes_call (takes_of rfl rfl rfl rfl) (fun _ _ _ _ z => z)) (pa_cons (pv 1) pa_nil))) (pss_one ps_dead)), _, rfl, r_nil ⟨_, rfl, .inr h⟩⟩
theorem bd_Sizes_and {K : PySem.W.Frag} {mg : Str → Option Value} (T : Tx K mg) : Binds K (D_Sizes_and K) ["self", "other"] [] := T.F_Sizes_and.bindsN fun _ _ _ _ _ _ us hl => match us, hl with | [_, _], _ => rfl
theorem ok_Sizes_or (T : Tx K mg) : FnOk P w K mg base (CX P w) 4 (A_Sizes_or K) (D_Sizes_or K) ["self", "other"] (spNoSz K) := by
  refine T.F_Sizes_or.ok sc_Sizes_or (fun vs H Q E h => ?_) (fun cdv A outer s H vs Q E hr h => ?_)
  · obtain ⟨a, v, rfl, _⟩ := h
    rfl
  · obtain ⟨a, v, rfl, h⟩ := h
    exact ⟨_, (pss_cons (ps_expr (pe_call (ok_check_sizes T) (hr.mono (by decide)) rfl T.m_check_sizes T.F_check_sizes.kp (bd_check_sizes T) .nil (passes_call (takes_of rfl rfl rfl rfl) (fun _ _ _ _ z => z)) (pa_cons (pv 1) pa_nil))) (pss_one ps_dead)), _, rfl, r_nil ⟨_, rfl, .inr h⟩⟩
theorem bd_Sizes_or {K : PySem.W.Frag} {mg : Str → Option Value} (T : Tx K mg) : Binds K (D_Sizes_or K) ["self", "other"] [] := T.F_Sizes_or.bindsN fun _ _ _ _ _ _ us hl => match us, hl with | [_, _], _ => rfl
theorem ok_Sizes_fits (T : Tx K mg) : FnOk P w K mg base (CX P w) 4 (A_Sizes_fits K) (D_Sizes_fits K) ["self", "other"] (spNoSz K) := by
  refine T.F_Sizes_fits.ok sc_Sizes_fits (fun vs H Q E h => ?_) (fun cdv A outer s H vs Q E hr h => ?_)
  · obtain ⟨a, v, rfl, _⟩ := h
    rfl
  · obtain ⟨a, v, rfl, h⟩ := h
    exact ⟨_, (pss_cons (ps_expr (pe_call (ok_check_sizes T) (hr.mono (by decide)) rfl T.m_check_sizes T.F_check_sizes.kp (bd_check_sizes T) .nil (passes_call (takes_of rfl rfl rfl rfl) (fun _ _ _ _ z => z)) (pa_cons (pv 1) pa_nil))) (pss_one ps_dead)), _, rfl, r_nil ⟨_, rfl, .inr h⟩⟩
theorem bd_Sizes_fits {K : PySem.W.Frag} {mg : Str → Option Value} (T : Tx K mg) : Binds K (D_Sizes_fits K) ["self", "other"] [] := T.F_Sizes_fits.bindsN fun _ _ _ _ _ _ us hl => match us, hl with | [_, _], _ => rfl
/-! ### many times, and calls -/
def NoInt0 (K : PySem.W.Frag) (H : Hp) (v : V) : Prop := (∃ n, v = .int n ∧ n < 0) ∨ (∃ b, v = .bl b) ∨ ∃ t, TyX K H v t ∧ PySem.W.kitOne K t (.type "int") = some false
theorem noInt0_sp {K : PySem.W.Frag} {H : Hp} {Q : VK} {E : XK} {v : V} (h : NoInt0 K H v) (q : Q (.bl false) H) : spIsInt K [v, .int 0] H Q E := by
  rcases h with ⟨n, rfl, h⟩ | h | h
  · refine ⟨_, _, rfl, .inl ⟨n, rfl, ?_⟩⟩
    rw [decide_eq_false (by omega)]
    exact q
  · exact ⟨_, _, rfl, .inr (.inl ⟨h, q⟩)⟩
  · exact ⟨_, _, rfl, .inr (.inr ⟨h, q⟩)⟩
def spMul (K : PySem.W.Frag) : Sp := fun vs H Q E => ∃ a v, vs = [.ref a, v] ∧ NoInt0 K H v ∧ Rz K v H E
abbrev N_Sizes_mul : List Str := ["self", "many", "name"]
theorem sc_Sizes_mul : FnScope N_Sizes_mul ["self", "many"] (defScope S_Sizes_mul) := ⟨rfl, rfl, rfl, by decide +kernel, rfl, by decide +kernel, by decide +kernel⟩
theorem ok_Sizes_mul (T : Tx K mg) : FnOk P w K mg base (CX P w) 3 (A_Sizes_mul K) (D_Sizes_mul K) ["self", "many"] (spMul K) := by
  refine T.F_Sizes_mul.ok sc_Sizes_mul (fun vs H Q E h => ?_) (fun cdv A outer s H vs Q E hr h => ?_)
  · obtain ⟨a, v, rfl, _⟩ := h
    rfl
  · obtain ⟨a, v, rfl, h, hz⟩ := h
    exact ⟨_, (pss_cons (ps_if (pt_not (pt_val (pe_call (ok_is_integer T) (hr.mono (by decide)) rfl T.m_is_integer T.F_is_integer.kp (bd1_is_integer T).choose_spec.2 (bd1_is_integer T).choose_spec.1 pass0 (pa_cons (pv 1) pa_nil)))) (pss_one (ps_raise rfl (takes_of rfl rfl rfl rfl) (pm_InvalidSizes T (hr.mono (by decide)) rfl (pv 1)))) pss_nil) (pss_one ps_dead)), _, rfl, r_nil (noInt0_sp h ⟨_, rfl, iteT ⟨_, rfl, fun d hd => hz d _ (same_new hd) hd upd_same⟩⟩)⟩
theorem bd_Sizes_mul {K : PySem.W.Frag} {mg : Str → Option Value} (T : Tx K mg) : Binds K (D_Sizes_mul K) ["self", "many"] [] := T.F_Sizes_mul.bindsN fun _ _ _ _ _ _ us hl => match us, hl with | [_, _], _ => rfl
def NoWord (K : PySem.W.Frag) (H : Hp) (v : V) : Prop := (∃ s, v = .str s ∧ s.length ≤ sizeLine ∧ isWord s = false) ∨ NoStr K H v
theorem noWord_sp {K : PySem.W.Frag} {H : Hp} {Q : VK} {E : XK} {v : V} (h : NoWord K H v) (q : Q (.bl false) H) : spIsWord K [v] H Q E := by
  rcases h with ⟨s, rfl, l, h⟩ | h
  · refine ⟨_, rfl, .inl ⟨s, rfl, l, ?_⟩⟩
    rw [h]
    exact q
  · exact ⟨_, rfl, .inr ⟨h, q⟩⟩
def spSzCall (K : PySem.W.Frag) : Sp := fun vs H Q E => ∃ a n v, vs = [.ref a, n, v] ∧ ((NoWord K H n ∧ Rz K n H E) ∨ ((∃ s, n = .str s ∧ s.length ≤ sizeLine ∧ isWord s = true) ∧ NoInt0 K H v ∧ Rz K v H E))
abbrev N_Sizes_call : List Str := ["self", "name", "by"]
theorem sc_Sizes_call : FnScope N_Sizes_call ["self", "name", "by"] (defScope S_Sizes_call) := ⟨rfl, rfl, rfl, by decide +kernel, rfl, by decide +kernel, by decide +kernel⟩
theorem ok_Sizes_call (T : Tx K mg) : FnOk P w K mg base (CX P w) 3 (A_Sizes_call K) (D_Sizes_call K) ["self", "name", "by"] (spSzCall K) := by
  refine T.F_Sizes_call.ok sc_Sizes_call (fun vs H Q E h => ?_) (fun cdv A outer s H vs Q E hr h => ?_)
  · obtain ⟨a, n, v, rfl, _⟩ := h
    rfl
  · obtain ⟨a, n, v, rfl, h⟩ := h
    refine ⟨_, (pss_cons (ps_if (pt_not (pt_val (pe_call (ok_is_word T) (hr.mono (by decide)) rfl T.m_is_word T.F_is_word.kp (bd_is_word T) .nil pass0 (pa_cons (pv 1) pa_nil)))) (pss_one (ps_raise rfl (takes_of rfl rfl rfl rfl) (pm_InvalidSizes T (hr.mono (by decide)) rfl (pv 1)))) pss_nil) (pss_cons (ps_if (pt_not (pt_val (pe_call (ok_is_integer T) (hr.mono (by decide)) rfl T.m_is_integer T.F_is_integer.kp (bd1_is_integer T).choose_spec.2 (bd1_is_integer T).choose_spec.1 pass0 (pa_cons (pv 2) pa_nil)))) (pss_one (ps_raise rfl (takes_of rfl rfl rfl rfl) (pm_InvalidSizes T (hr.mono (by decide)) rfl (pv 2)))) pss_nil) (pss_one ps_dead))), ?_⟩
    rcases h with ⟨h, hz⟩ | ⟨⟨z, rfl, l, e⟩, h, hz⟩
    · exact ⟨_, rfl, r_nil (noWord_sp h ⟨_, rfl, iteT ⟨_, rfl, fun d hd => hz d _ (same_new hd) hd upd_same⟩⟩)⟩
    · refine ⟨_, rfl, r_nil ⟨_, rfl, .inl ⟨z, rfl, l, _, rfl, ?_⟩⟩⟩
      rw [e]
      exact iteF ⟨_, rfl, r_nil (noInt0_sp h ⟨_, rfl, iteT ⟨_, rfl, fun d hd => hz d _ (same_new hd) hd upd_same⟩⟩)⟩
theorem bd2_Sizes_call {K : PySem.W.Frag} {mg : Str → Option Value} (T : Tx K mg) : ∃ ds, Vals [.int 1] ds ∧ Binds K (D_Sizes_call K) ["self", "name", "by"] ds := T.F_Sizes_call.binds1 2 0 (by decide) (by decide) fun _ _ _ _ _ _ _ us its h1 h2 => match us, its, h1, h2 with | [_, _], [_], _, _ => ⟨_, rfl, rfl⟩
theorem bd3_Sizes_call {K : PySem.W.Frag} {mg : Str → Option Value} (T : Tx K mg) : ∃ ds, Vals [] ds ∧ Binds K (D_Sizes_call K) ["self", "name", "by"] ds := T.F_Sizes_call.binds1 3 1 (by decide) (by decide) fun _ _ _ _ _ _ _ us its h1 h2 => match us, its, h1, h2 with | [_, _, _], [_], _, _ => ⟨_, rfl, rfl⟩
/-! ### by_name, == -/
/-- an object of the class Sizes that keeps m -/
def SzAt (K : PySem.W.Frag) (F : Hp) (a : Addr) (m : List (Str × Int)) : Prop := ∃ dx dk od, F a = some (.ins (CS K) dx [("kept", .ref dk)]) ∧ F dx = some (.own a) ∧ F dk = some (.frz od (.dK (kvm m)))
theorem SzAt.same {F F' : Hp} {a : Addr} {m : List (Str × Int)} (s : Same F F') (h : SzAt K F a m) : SzAt K F' a m := by
  obtain ⟨dx, dk, od, h1, h2, h3⟩ := h
  exact ⟨dx, dk, od, s _ _ h1, s _ _ h2, s _ _ h3⟩
def spByName (K : PySem.W.Frag) : Sp := fun vs H Q E => ∃ a m, vs = [.ref a] ∧ SzAt K H a m ∧ ∀ p, H p = none → Q (.ref p) (upd H p (.dK (kvm m)))
abbrev N_Sizes_by_name : List Str := ["self"]
theorem sc_Sizes_by_name : FnScope N_Sizes_by_name ["self"] (defScope S_Sizes_by_name) := ⟨rfl, rfl, rfl, by decide +kernel, rfl, by decide +kernel, by decide +kernel⟩
theorem ok_Sizes_by_name (T : Tx K mg) : FnOk P w K mg base CX0 1 (A_Sizes_by_name K) (D_Sizes_by_name K) ["self"] (spByName K) := by
  refine T.F_Sizes_by_name.ok sc_Sizes_by_name (fun vs H Q E h => ?_) (fun cdv A outer s H vs Q E hr h => ?_)
  · obtain ⟨a, m, rfl, _⟩ := h
    rfl
  · obtain ⟨a, m, rfl, ⟨dx, dk, od, h1, h2, h3⟩, q⟩ := h
    refine ⟨_, PSs.nox (pss_one (ps_ret (pe_callTy call_dictD (by rfl) T.z_dict (by decide +kernel) (pa_cons (pe_fld (pv 0) rfl) pa_nil)))), ?_⟩
    refine ⟨_, rfl, a, _, dx, _, _, rfl, h1, T.cl_Sizes, T.na_Sizes_kept, rfl, dk, _, rfl, .inr ⟨od, h3⟩, q⟩
theorem bd_Sizes_by_name {K : PySem.W.Frag} {mg : Str → Option Value} (T : Tx K mg) : Binds K (D_Sizes_by_name K) ["self"] [] := T.F_Sizes_by_name.bindsN fun _ _ _ _ _ _ us hl => match us, hl with | [_], _ => rfl
def spSzEqNo (K : PySem.W.Frag) : Sp := fun vs H Q E => ∃ a v, vs = [.ref a, v] ∧ NoSz K H v ∧ Q (.bl false) H
abbrev N_Sizes_eq : List Str := ["self", "other"]
theorem sc_Sizes_eq : FnScope N_Sizes_eq ["self", "other"] (defScope S_Sizes_eq) := ⟨rfl, rfl, rfl, by decide +kernel, rfl, by decide +kernel, by decide +kernel⟩
theorem ok_Sizes_eq (T : Tx K mg) : FnOk P w K mg base CX0 1 (A_Sizes_eq K) (D_Sizes_eq K) ["self", "other"] (spSzEqNo K) := by
  refine T.F_Sizes_eq.ok sc_Sizes_eq (fun vs H Q E h => ?_) (fun cdv A outer s H vs Q E hr h => ?_)
  · obtain ⟨a, v, rfl, _⟩ := h
    rfl
  · obtain ⟨a, v, rfl, ⟨T0, ty, hT⟩, q⟩ := h
    refine ⟨_, PSs.nox (pss_one (ps_ret (pe_and (pe_callB call_isi (by rfl) T.z_isinstance (by decide +kernel) (pa_cons (pv 1) (pa_cons (pe_glob (v := .ref _) rfl T.m_Sizes rfl) pa_nil))) (pe_one pe_dead)))), ?_⟩
    refine ⟨_, rfl, _, _, _, _, false, rfl, .own _, ty, kit_no T.ct_Sizes hT, _, rfl, ?_⟩
    exact iteF q
theorem bd_Sizes_eq {K : PySem.W.Frag} {mg : Str → Option Value} (T : Tx K mg) : Binds K (D_Sizes_eq K) ["self", "other"] [] := T.F_Sizes_eq.bindsN fun _ _ _ _ _ _ us hl => match us, hl with | [_, _], _ => rfl
end
end Lp

set_option Elab.async false
set_option linter.all false
set_option maxRecDepth 100000
set_option maxHeartbeats 4000000
namespace Lp
open PySem PySem.Spec PyProof.Rows L2
/-! ### Sizes.__repr__ -/
def szText (m : List (Str × Int)) : Str := Str.empty ++ "Sizes(" ++ (dD (kvm m)).shown ++ ")"
structure SzShow (m : List (Str × Int)) : Prop where
  w : (dD (kvm m)).showable = true
  l : (szText m).length ≤ sizeLine
def spSzRepr (K : PySem.W.Frag) : SpG := fun g vs H Q _ => ∃ a dx dk od m, vs = [.ref a] ∧ H a = some (.ins (CS K) dx [("kept", .ref dk)]) ∧ H dk = some (.frz od (.dK (kvm m))) ∧ SzShow m ∧ Clear g dk ∧ Q (.str (szText m)) H
theorem kvm_flat (m : List (Str × Int)) : ∀ p ∈ kvm m, flD p.2 = true := fun p hp => by
  obtain ⟨r, _, rfl⟩ := List.mem_map.mp hp
  rfl
abbrev N_Sizes_repr : List Str := ["self"]
theorem sc_Sizes_repr : FnScope N_Sizes_repr ["self"] (defScope S_Sizes_repr) := ⟨rfl, rfl, rfl, by decide +kernel, rfl, by decide +kernel, by decide +kernel⟩
theorem bd_Sizes_repr {K : PySem.W.Frag} {mg : Str → Option Value} (T : Tx K mg) : Binds K (D_Sizes_repr K) ["self"] [] := T.F_Sizes_repr.bindsN fun _ _ _ _ _ _ us hl => match us, hl with | [_], _ => rfl
section
variable {P : Program} {w : World} {K : PySem.W.Frag} {mg : Str → Option Value} {base : Heap}
theorem ok_Sizes_repr (T : Tx K mg) : FnU P w K mg base 1 (A_Sizes_repr K) (spSzRepr K) := by
  refine okU T.F_Sizes_repr sc_Sizes_repr (bd_Sizes_repr T) (fun g vs H Q E h => ?_) (fun g cdv A outer s H vs Q gd hr h => ?_) (fun g cdv A outer s H vs Q p gd hr h => ?_)
  · obtain ⟨a, dx, dk, od, m, rfl, _⟩ := h
    rfl
  · obtain ⟨a, dx, dk, od, m, rfl, h1, h2, sh, cl, q⟩ := h
    have hu64 : (A.deeper (envOfC "Sizes.__repr__" (defScope S_Sizes_repr) s.heap.objs.size (A_Sizes_repr K) cdv)).units + 64 < cLine := by have := hr.un; omega
    have l := sh.l
    unfold szText at l
    rw [strLen_append, strLen_append] at l
    refine ⟨_, PSs.nox (pss_one (ps_ret (pe_joined (.cons pe_str (.cons (pe_fmtD (g := g) gd hu64 (pe_fld (pv 0) rfl)) (.cons pe_str .nil)))))), ?_⟩
    refine ⟨_, rfl, by omega, ?_⟩
    refine ⟨_, rfl, a, _, dx, _, _, rfl, h1, T.cl_Sizes, T.na_Sizes_kept, rfl, dk, kvm m, rfl, .inr ⟨od, h2⟩, kvm_flat m, sh.w, by omega, cl, _, rfl, by rw [strLen_append]; omega, ?_⟩
    exact ⟨_, rfl, by rw [strLen_append, strLen_append]; omega, q⟩
  · obtain ⟨a, dx, dk, od, m, rfl, h1, h2, sh, cl, q⟩ := h
    have hu64 : (A.deeper (envOfC "Sizes.__repr__" (defScope S_Sizes_repr) s.heap.objs.size (A_Sizes_repr K) cdv)).units + 64 < cLine := by have := hr.un; omega
    have l := sh.l
    unfold szText at l
    rw [strLen_append, strLen_append] at l
    refine ⟨_, PSs.nox (pss_one (ps_ret (pe_joined (.cons pe_str (.cons (pe_fmtD (g := g) gd hu64 (pe_fld (pv 0) rfl)) (.cons pe_str .nil)))))), ?_⟩
    refine ⟨_, rfl, by omega, ?_⟩
    refine ⟨_, rfl, a, _, dx, _, _, rfl, h1, T.cl_Sizes, T.na_Sizes_kept, rfl, dk, kvm m, rfl, .inr ⟨od, h2⟩, kvm_flat m, sh.w, by omega, cl, _, rfl, by rw [strLen_append]; omega, ?_⟩
    exact ⟨_, rfl, by rw [strLen_append, strLen_append]; omega, q⟩
end
end Lp

set_option Elab.async false
set_option linter.all false
set_option maxRecDepth 100000
set_option maxHeartbeats 4000000
namespace Lp
open PySem PySem.Spec PyProof.Rows L2
theorem fnIn_of {K : PySem.W.Frag} {x qual : Str} {params : Arguments} {body : List Stmt} {scope : Scope} {dvs : List V} {kws : List (Str × V)} {f : Addr} {fd : FuncData} (F : FunD K x qual params body scope dvs kws f fd) : PySem.W.fnIn K f = true := by
  obtain ⟨oc, od, dV, kV, doc, pm, an, cdv, ct, osl, rfl, lk, _⟩ := F.ex
  unfold PySem.W.fnIn
  rw [lk]
/-! ### what repr shows here -/
def Rp (K : PySem.W.Frag) (H : Hp) (v : V) (z : Str) : Prop := (∃ d, Sh K H v d ∧ d.showable = true ∧ d.depth ≤ 50 ∧ d.shown.length ≤ sizeLine ∧ z = d.shown) ∨
  ∃ p b dx dk od m, v = .ref p ∧ H p = some (.lst [.ref b]) ∧ H b = some (.ins (CS K) dx [("kept", .ref dk)]) ∧ H dk = some (.frz od (.dK (kvm m))) ∧ SzShow m ∧ (listText [szText m]).length ≤ sizeLine ∧ z = listText [szText m]
theorem Rp.same {K : PySem.W.Frag} {H H' : Hp} {v : V} {z : Str} (s : Same H H') (h : Rp K H v z) : Rp K H' v z := by
  rcases h with ⟨d, h, q⟩ | ⟨p, b, dx, dk, od, m, e, h1, h2, h3, q⟩
  · exact .inl ⟨d, sh_same s h, q⟩
  · exact .inr ⟨p, b, dx, dk, od, m, e, s _ _ h1, s _ _ h2, s _ _ h3, q⟩
def rReprA (K : PySem.W.Frag) : List V → Hp → VK → Prop := fun xs H Q => ∃ v z, xs = [v] ∧ Rp K H v z ∧ Q (.str z) H
theorem call_reprA {X : Cx} {K0 : PySem.W.Frag} (hK : X.K = K0) (T : Tx X.K X.mg) (gd : X.A.guards = some []) (hr : L2H.RoomH 2 X.A) (ht : X.A.handled = none ∨ X.pn ≠ []) : CallR X (.builtin "repr") (rReprA K0) := by
  subst hK
  intro pins s σ H xs us Q I r h
  obtain ⟨v, z, rfl, h, q⟩ := h
  rcases h with ⟨d, h1, h2, h3, h4, rfl⟩ | ⟨p, b, dx, dk, od, m, rfl, h1, h2, h3, h4, h5, rfl⟩
  · exact call_repr gd (by have := hr.un; omega) pins s σ H _ us Q I r ⟨v, d, rfl, h1, h2, h3, h4, q⟩
  · refine call_reprL gd hr ht T.mt_Sizes_repr.at_ T.mt_Sizes_repr.fn (ok_Sizes_repr T) pins s σ H _ us Q I r ⟨p, b, dx, _, szText m, rfl, h1, h2, h5, fun rest => ⟨b, dx, dk, od, m, rfl, h2, h3, h4, ?_, rfl, same_refl H, q⟩⟩
    intro id v' rest' kw' hm
    cases List.mem_singleton.mp hm
    intro e
    cases e
    rw [h1] at h3
    cases h3
/-! ### _law_heard -/
def Bad (K : PySem.W.Frag) (H : Hp) (way : Int) (v : V) : Prop := (way = 0 ∧ NoAmt K H v) ∨ ((way = 1 ∨ way = 2 ∨ way = 3 ∨ way = 4 ∨ way = 5) ∧ NoSz K H v) ∨ (way = 6 ∧ NoInt0 K H v ∧ NoSz K H v) ∨ (way = 7 ∧ NoWord K H v) ∨ (way = 8 ∧ NoInt0 K H v)
def spHeard (K : PySem.W.Frag) : Sp := fun vs H Q _ => ∃ way a m v z, vs = [.int way, .ref a, v] ∧ SzAt K H a m ∧ Bad K H way v ∧ Rp K H v z ∧ ∀ H' p, Same H H' → H p = none → H' p = some (.lst [.str z, .bl true, .bl true]) → Q (.ref p) H'
abbrev N_law_heard : List Str := ["_law_way", "_law_sizes", "_law_thing", "e"]
theorem sc_law_heard : FnScope N_law_heard ["_law_way", "_law_sizes", "_law_thing"] (defScope S_law_heard) := ⟨rfl, rfl, rfl, by decide +kernel, rfl, by decide +kernel, by decide +kernel⟩
section
variable {P : Program} {w : World} {K : PySem.W.Frag} {mg : Str → Option Value} {base : Heap}
theorem kb_call (T : Tx K mg) : KBn K (D_Sizes_call K) ["self", "name", "by"] 2 ["by"] (fun us ws => us ++ ws) (fun vs zs => vs ++ zs) := by
  obtain ⟨its, h⟩ := kbinds1 (ps := ["self", "name", "by"]) T.F_Sizes_call 2 ["by"] (fun us _ ws => us ++ ws) (by decide) (fun r1 _ r2 => r1.append r2) (fun _ _ _ _ _ _ _ us its ws h1 h2 h3 => match us, its, ws, h1, h2, h3 with | [_, _], [_], [_], _, _, _ => ⟨_, rfl, rfl⟩)
  exact h
def sui (K : PySem.W.Frag) : Addr → Value → Option Addr → TS := fun a cls d =>
  tRet (tLst (tCons (tCB (rReprA K) (tCons (tXf a cls d (He.ga K "InvalidSizes") "value" (tVar 3)) tNil)) (tCons (tCB (rIsS K a cls d) (tCons (tVar 3) (tCons (tC (V.ref (He.ga K "PoolError"))) tNil))) (tCons (tCB (rIsS K a cls d) (tCons (tVar 3) (tCons (tC (V.ty "ValueError")) tNil))) tNil))))
theorem sui_end (T : Tx K mg) {H : Hp} {v : V} {z : Str} {D : Ends} {x0 x1 x2 : Option V} {o : Option V} (hz : Rp K H v z) (q : ∀ H' p, Same H H' → H p = none → H' p = some (.lst [.str z, .bl true, .bl true]) → D.rt (.ref p) H') :
    Rz K v H (WE (wAs K (.ref (CI K)) 3 (sui K) (fun _ _ _ _ => False) D) [x0, x1, x2, o]) := by
  intro d H' s hd hd'
  refine ⟨true, exm_x T.x_InvalidSizes T.sb_IS, fun _ e he => ?_, fun z => nomatch z⟩
  refine r_ret (r_lst (r_cons ?_))
  have xc : XCe K (CI K) := ⟨_, _, _, _, T.x_InvalidSizes⟩
  refine ⟨_, rfl, rfl, rfl, d, _, v, rfl, hd', rfl, v, z, rfl, hz.same s, ?_⟩
  refine ⟨_, rfl, CI K, d, _, _, .ref (He.ga K "PoolError"), true, rfl, rfl, rfl, hd', xc, fun u r => r, T.ic_IS_PE, ?_⟩
  refine ⟨_, rfl, CI K, d, _, _, .type "ValueError", true, rfl, rfl, rfl, hd', xc, fun u r => r, T.ic_IS_VE, ?_⟩
  refine ⟨by show 3 ≤ sizeLine; decide, fun p hp => q _ p (same_trans s (same_new hp)) (same_off s hp) upd_same⟩
theorem r_way {n k : Int} {t u : TS} {D : Ends} {σ : L2.St} {H : Hp} (hσ : σ[0]? = some (some (.int n))) (h1 : n = k → t D σ H) (h2 : n ≠ k → u D σ H) : tIfS (tTest (tOp rEq (tVar 0) (tC (V.int k)))) t u D σ H := by
  refine ⟨_, hσ, rfl, _, rfl, ?_⟩
  show if decide (V.int n = V.int k) = true then t D σ H else u D σ H
  by_cases e : n = k
  · rw [if_pos (decide_eq_true (by rw [e]))]
    exact h1 e
  · rw [if_neg (by rw [decide_eq_false (fun z => e (V.int.inj z))]; decide)]
    exact h2 e
theorem Rz.same {v : V} {H H1 : Hp} {E : XK} (s : Same H H1) (h : Rz K v H E) : Rz K v H1 E := fun d H' s1 hd hd' => h d H' (same_trans s s1) (same_off s hd) hd'
theorem tyx_same {H H' : Hp} {v : V} {t : Value} (s : Same H H') (h : TyX K H v t) : TyX K H' v t := by
  cases h with
  | base b =>
    cases b with
    | non => exact .base .non
    | bl y => exact .base (.bl y)
    | int i => exact .base (.int i)
    | str y => exact .base (.str y)
    | flt y => exact .base (.flt y)
    | lst e => exact .base (.lst (s _ _ e))
    | frz e => exact .base (.frz (s _ _ e))
    | tup e => exact .base (.tup (s _ _ e))
    | dK e => exact .base (.dK (s _ _ e))
    | dT e => exact .base (.dT (s _ _ e))
    | ins e c1 c2 c3 c4 c5 => exact .base (.ins (s _ _ e) c1 c2 c3 c4 c5)
  | byt b => exact .byt b
  | set e => exact .set (s _ _ e)
  | kList e c => exact .kList e c
  | kTuple e c => exact .kTuple e c
  | kDict e c => exact .kDict e c
  | fTuple e => exact .fTuple (s _ _ e)
  | fDict e => exact .fDict (s _ _ e)
theorem NoAmt.same {v : V} {H H' : Hp} (s : Same H H') (h : NoAmt K H v) : NoAmt K H' v := by
  rcases h with ⟨t, ty, h⟩ | ⟨d, kvs, e, hd, q⟩
  · exact .inl ⟨t, tyx_same s ty, h⟩
  · exact .inr ⟨d, kvs, e, rd_same s hd, q⟩
theorem ok_law_heard (T : Tx K mg) : FnG P w K mg base CX0 5 (A_law_heard K) (D_law_heard K) ["_law_way", "_law_sizes", "_law_thing"] (spHeard K) := by
  refine okG T.F_law_heard sc_law_heard (fun vs H Q E h => ?_) (fun cdv A outer s H vs Q E gd hr h => ?_)
  · obtain ⟨way, a, m, v, z, rfl, _⟩ := h
    rfl
  · obtain ⟨way, a, m, v, z, rfl, hs, hb, hz, q⟩ := h
    have hu64 := hr.units
    refine ⟨_, PSs.nox (pss_mid (ps_try_as (i := 3) rfl rfl sc_law_heard.nd rfl rfl ⟨rfl, by decide, .inl T.m_InvalidSizes⟩ takes0 (fun W pn xe tk _ => (pss_one (ps_if (pt_cmpR op_eq (pv 0) pe_int (nomark _)) (pss_one (ps_expr (pe_makeSS T.mk_Sizes (raw0 (ok_Sizes_init T) (bd_Sizes_init T)) (hr.mono (by decide)) (fun σ => passAt tk σ) rfl T.m_Sizes (pa_cons (pv 2) pa_nil)))) (pss_one (ps_if (pt_cmpR op_eq (pv 0) pe_int (nomark _)) (pss_one (ps_expr (pe_binSK (K0 := K) (sp := spNoSz K) (C := CS K) (nm := "add") rfl rfl ⟨T.kc_Sizes.sf, T.mt_Sizes_add.at_, T.mt_Sizes_add.fn, T.ro_Sizes_add⟩ (raw0 (ok_Sizes_add T) (bd_Sizes_add T)) (hr.mono (by decide)) (fun σ => passAt tk σ) (pv 1) (pv 2)))) (pss_one (ps_if (pt_cmpR op_eq (pv 0) pe_int (nomark _)) (pss_one (ps_expr (pe_binSK (K0 := K) (sp := spNoSz K) (C := CS K) (nm := "sub") rfl rfl ⟨T.kc_Sizes.sf, T.mt_Sizes_sub.at_, T.mt_Sizes_sub.fn, T.ro_Sizes_sub⟩ (raw0 (ok_Sizes_sub T) (bd_Sizes_sub T)) (hr.mono (by decide)) (fun σ => passAt tk σ) (pv 1) (pv 2)))) (pss_one (ps_if (pt_cmpR op_eq (pv 0) pe_int (nomark _)) (pss_one (ps_expr (pe_binSK (K0 := K) (sp := spNoSz K) (C := CS K) (nm := "and") rfl rfl ⟨T.kc_Sizes.sf, T.mt_Sizes_and.at_, T.mt_Sizes_and.fn, T.ro_Sizes_and⟩ (raw0 (ok_Sizes_and T) (bd_Sizes_and T)) (hr.mono (by decide)) (fun σ => passAt tk σ) (pv 1) (pv 2)))) (pss_one (ps_if (pt_cmpR op_eq (pv 0) pe_int (nomark _)) (pss_one (ps_expr (pe_binSK (K0 := K) (sp := spNoSz K) (C := CS K) (nm := "or") rfl rfl ⟨T.kc_Sizes.sf, T.mt_Sizes_or.at_, T.mt_Sizes_or.fn, T.ro_Sizes_or⟩ (raw0 (ok_Sizes_or T) (bd_Sizes_or T)) (hr.mono (by decide)) (fun σ => passAt tk σ) (pv 1) (pv 2)))) (pss_one (ps_if (pt_cmpR op_eq (pv 0) pe_int (nomark _)) (pss_one (ps_expr (pe_methSS T.cl_Sizes T.mt_Sizes_fits (raw0 (ok_Sizes_fits T) (bd_Sizes_fits T)) (hr.mono (by decide)) (fun σ => passAt tk σ) (pv 1) (pa_cons (pv 2) pa_nil)))) (pss_one (ps_if (pt_cmpR op_eq (pv 0) pe_int (nomark _)) (pss_one (ps_expr (pe_binSK (K0 := K) (sp := spMul K) (C := CS K) (nm := "mul") rfl rfl ⟨T.kc_Sizes.sf, T.mt_Sizes_mul.at_, T.mt_Sizes_mul.fn, T.ro_Sizes_mul⟩ (raw0 (ok_Sizes_mul T) (bd_Sizes_mul T)) (hr.mono (by decide)) (fun σ => passAt tk σ) (pv 1) (pv 2)))) (pss_one (ps_if (pt_cmpR op_eq (pv 0) pe_int (nomark _)) (pss_one (ps_expr (pe_callOS ⟨T.mt_Sizes_call.at_, T.mt_Sizes_call.fn, fnIn_of T.F_Sizes_call⟩ ((ok_Sizes_call T).raw (bd2_Sizes_call T).choose_spec.2 (bd2_Sizes_call T).choose_spec.1) (hr.mono (by decide)) (fun σ => passAt tk σ) (pv 1) (pa_cons (pv 2) pa_nil)))) (pss_one (ps_expr (pe_callOKS ⟨T.mt_Sizes_call.at_, T.mt_Sizes_call.fn, fnIn_of T.F_Sizes_call⟩ (ok_Sizes_call T) (kb_call T) (hr.mono (by decide)) (fun σ => passAt tk σ) (pv 1) (pa_cons pe_str pa_nil) (pk_cons (pv 2) pk_nil))))))))))))))))))))) (fun a oe cls d pn hz hf => (pss_one (ps_ret (pe_lst (pa_cons (pe_callB (call_reprA (K0 := K) rfl T gd ⟨(hr.mono (show 2 ≤ 4 by decide)).dp, (hr.mono (show 2 ≤ 4 by decide)).un⟩ (.inr (by simp))) (by rfl) T.z_repr (by decide +kernel) (pa_cons (pe_xf T.x_InvalidSizes.xf T.i_InvalidSizes.n hz hf (pv 3)) pa_nil)) (pa_cons (pe_callB (call_isS hz hf) (by rfl) T.z_isinstance (by decide +kernel) (pa_cons (pv 3) (pa_cons (pe_glob (v := .ref _) rfl T.m_PoolError rfl) pa_nil))) (pa_cons (pe_callB (call_isS hz hf) (by rfl) T.z_isinstance (by decide +kernel) (pa_cons (pv 3) (pa_cons (pe_bltn (v := .ty "ValueError") rfl T.z_ValueError (by decide +kernel) rfl) pa_nil))) pa_nil)))))))) (pss_one (ps_ret pe_non))), ?_⟩
    refine ⟨fun _ _ => False, ?_, fun _ _ h => h.elim⟩
    have hE : ∀ D : Ends, D.rt = Q → Rz K v H (WE (wAs K (.ref (CI K)) 3 (sui K) (fun _ _ _ _ => False) D) (L2.start N_law_heard [.int way, .ref a, v])) := fun D eD => sui_end T hz (by rw [eD]; exact q)
    obtain ⟨dx, dk, od, ha, _, _⟩ := hs
    rcases hb with ⟨rfl, h⟩ | ⟨h5, h⟩ | ⟨rfl, h, h'⟩ | ⟨rfl, h⟩ | ⟨rfl, h⟩
    · refine r_way rfl (fun _ => ⟨_, rfl, r_nil fun x dx' hx hdx ne => ?_⟩) (fun e => absurd rfl e)
      have s1 : Same H (upd (upd H dx' (.own x)) x (.ins (CS K) dx' [])) := same_trans (same_new hdx) (same_new (by rw [upd_ne ne.symm]; exact hx))
      refine ⟨x, dx', v, rfl, upd_same, .inl ⟨h.same s1, ?_⟩⟩
      exact (hE _ rfl).same s1
    · obtain ⟨T0, ty, hT⟩ := id h
      rcases h5 with rfl | rfl | rfl | rfl | rfl
      · exact r_way rfl (fun e => absurd e (by decide)) (fun _ => r_way rfl (fun _ => ⟨_, rfl, _, rfl, a, dx, _, rfl, ha, .inr ⟨T0, ty, oth_of (by decide) hT⟩, a, v, rfl, h, hE _ rfl⟩) (fun e => absurd rfl e))
      · exact r_way rfl (fun e => absurd e (by decide)) (fun _ => r_way rfl (fun e => absurd e (by decide)) (fun _ => r_way rfl (fun _ => ⟨_, rfl, _, rfl, a, dx, _, rfl, ha, .inr ⟨T0, ty, oth_of (by decide) hT⟩, a, v, rfl, h, hE _ rfl⟩) (fun e => absurd rfl e)))
      · exact r_way rfl (fun e => absurd e (by decide)) (fun _ => r_way rfl (fun e => absurd e (by decide)) (fun _ => r_way rfl (fun e => absurd e (by decide)) (fun _ => r_way rfl (fun _ => ⟨_, rfl, _, rfl, a, dx, _, rfl, ha, .inr ⟨T0, ty, oth_of (by decide) hT⟩, a, v, rfl, h, hE _ rfl⟩) (fun e => absurd rfl e))))
      · exact r_way rfl (fun e => absurd e (by decide)) (fun _ => r_way rfl (fun e => absurd e (by decide)) (fun _ => r_way rfl (fun e => absurd e (by decide)) (fun _ => r_way rfl (fun e => absurd e (by decide)) (fun _ => r_way rfl (fun _ => ⟨_, rfl, _, rfl, a, dx, _, rfl, ha, .inr ⟨T0, ty, oth_of (by decide) hT⟩, a, v, rfl, h, hE _ rfl⟩) (fun e => absurd rfl e)))))
      · exact r_way rfl (fun e => absurd e (by decide)) (fun _ => r_way rfl (fun e => absurd e (by decide)) (fun _ => r_way rfl (fun e => absurd e (by decide)) (fun _ => r_way rfl (fun e => absurd e (by decide)) (fun _ => r_way rfl (fun e => absurd e (by decide)) (fun _ => r_way rfl (fun _ => ⟨_, rfl, a, dx, _, rfl, ha, rfl, _, rfl, r_nil ⟨a, v, rfl, h, hE _ rfl⟩⟩) (fun e => absurd rfl e))))))
    · obtain ⟨T0, ty, hT⟩ := id h'
      exact r_way rfl (fun e => absurd e (by decide)) (fun _ => r_way rfl (fun e => absurd e (by decide)) (fun _ => r_way rfl (fun e => absurd e (by decide)) (fun _ => r_way rfl (fun e => absurd e (by decide)) (fun _ => r_way rfl (fun e => absurd e (by decide)) (fun _ => r_way rfl (fun e => absurd e (by decide)) (fun _ => r_way rfl (fun _ => ⟨_, rfl, _, rfl, a, dx, _, rfl, ha, .inr ⟨T0, ty, oth_of (by decide) hT⟩, a, v, rfl, h, hE _ rfl⟩) (fun e => absurd rfl e)))))))
    · exact r_way rfl (fun e => absurd e (by decide)) (fun _ => r_way rfl (fun e => absurd e (by decide)) (fun _ => r_way rfl (fun e => absurd e (by decide)) (fun _ => r_way rfl (fun e => absurd e (by decide)) (fun _ => r_way rfl (fun e => absurd e (by decide)) (fun _ => r_way rfl (fun e => absurd e (by decide)) (fun _ => r_way rfl (fun e => absurd e (by decide)) (fun _ => r_way rfl (fun _ => ⟨_, rfl, a, rfl, _, rfl, r_nil ⟨⟨dx, _, ha⟩, a, v, _, rfl, .inl ⟨h, hE _ rfl⟩⟩⟩) (fun e => absurd rfl e))))))))
    · exact r_way rfl (fun e => absurd e (by decide)) (fun _ => r_way rfl (fun e => absurd e (by decide)) (fun _ => r_way rfl (fun e => absurd e (by decide)) (fun _ => r_way rfl (fun e => absurd e (by decide)) (fun _ => r_way rfl (fun e => absurd e (by decide)) (fun _ => r_way rfl (fun e => absurd e (by decide)) (fun _ => r_way rfl (fun e => absurd e (by decide)) (fun _ => r_way rfl (fun e => absurd e (by decide)) (fun _ => ⟨_, rfl, a, rfl, _, rfl, r_nil ⟨⟨dx, _, ha⟩, rfl, rfl, a, _, v, rfl, .inr ⟨⟨_, rfl, by decide +kernel, by decide +kernel⟩, h, hE _ rfl⟩⟩⟩))))))))
theorem bd_law_heard {K : PySem.W.Frag} {mg : Str → Option Value} (T : Tx K mg) : Binds K (D_law_heard K) ["_law_way", "_law_sizes", "_law_thing"] [] := T.F_law_heard.bindsN fun _ _ _ _ _ _ us hl => match us, hl with | [_, _, _], _ => rfl
end
end Lp

set_option Elab.async false
set_option linter.all false
set_option maxRecDepth 100000
set_option maxHeartbeats 4000000
namespace Lp
open PySem PySem.Spec PyProof.Rows L2
/-! ### plain laws of data -/
theorem lay_ints : ∀ ns : List Int, PyData.canLayAll0 (ns.map PyData.int) = true
  | [] => rfl
  | _ :: ns => by
    show (true && PyData.canLayAll0 (ns.map PyData.int)) = true
    rw [lay_ints ns]; rfl
theorem dep_ints : ∀ ns : List Int, PyData.depthAll (ns.map PyData.int) = 0
  | [] => rfl
  | _ :: ns => by
    show max 0 (PyData.depthAll (ns.map PyData.int)) = 0
    rw [dep_ints ns]; rfl
theorem shaped_ints (ns : List Int) : SeqAt.shaped (.list (ns.map PyData.int)) = true := by
  unfold SeqAt.shaped
  rw [show PyData.canLay0 (.list (ns.map PyData.int)) = true from lay_ints ns, show PyData.depth (.list (ns.map PyData.int)) = 1 from by show PyData.depthAll _ + 1 = 1; rw [dep_ints]]
  rfl
theorem dpAll_ints {K : PySem.W.Frag} {H : Hp} : ∀ ns : List Int, DpAll K H (ns.map V.int) (ns.map PyData.int)
  | [] => .nil
  | n :: ns => .cons (.int n) (dpAll_ints ns)
/-! ### draws -/
def Dr (H : Hp) (p : Addr) : Prop := ∃ c s : Int, H p = some (.lst [.int c, .int s]) ∧ 0 ≤ s ∧ s < 2147483647
theorem Dr.same {H H' : Hp} {p : Addr} (s : Same H H') (d : Dr H p) : Dr H' p := by
  obtain ⟨c, z, h, a, b⟩ := d
  exact ⟨c, z, s _ _ h, a, b⟩
def spDraws (K : PySem.W.Frag) : Sp := fun vs H Q _ => ∃ (a : Addr) (ns : List Int) (k : Int), vs = [.ref a, .int k] ∧ SqL K H a (ns.map V.int) ∧ ns.length ≤ 63 ∧ 0 ≤ k ∧ k ≤ 1000 ∧
  ∀ p H', Same H H' → H p = none → Dr H' p → Q (.ref p) H'
def spDraw : Sp := fun vs H Q _ => ∃ (l : Addr) (n : Int), vs = [.ref l, .int n] ∧ Dr H l ∧ 0 < n ∧ n ≤ 1000000 ∧
  ∀ (r c s : Int), 0 ≤ r → r < n → 0 ≤ s → s < 2147483647 → Q (.int r) (upd H l (.lst [.int c, .int s]))
abbrev N_law_draws : List Str := ["_law_script", "_law_k", "_law_cell", "_law_seed"]
theorem sc_law_draws : FnScope N_law_draws ["_law_script", "_law_k"] (defScope S_law_draws) := ⟨rfl, rfl, rfl, by decide +kernel, rfl, by decide +kernel, by decide +kernel⟩
abbrev N_law_draw : List Str := ["_law_draws_here", "_law_upto", "_law_digit"]
theorem sc_law_draw : FnScope N_law_draw ["_law_draws_here", "_law_upto"] (defScope S_law_draw) := ⟨rfl, rfl, rfl, by decide +kernel, rfl, by decide +kernel, by decide +kernel⟩
section
variable {P : Program} {w : World} {K : PySem.W.Frag} {mg : Str → Option Value} {base : Heap}
theorem atI_ints {ns : List Int} {i : Int} (h0 : 0 ≤ i) (h1 : i < (ns.length : Int)) : ∃ n, atI (ns.map V.int) i = some (.int n) := by
  unfold atI ixN
  rw [if_pos h0, List.length_map, if_pos h1]
  have hl : i.toNat < ns.length := by omega
  exact ⟨ns[i.toNat], by simp [List.getElem?_eq_getElem hl]⟩
theorem ok_law_draws (T : Tx K mg) : FnOk P w K mg base CX0 1 (A_law_draws K) (D_law_draws K) ["_law_script", "_law_k"] (spDraws K) := by
  refine T.F_law_draws.ok sc_law_draws (fun vs H Q E h => ?_) (fun cdv A outer s H vs Q E hr h => ?_)
  · obtain ⟨a, ns, k, rfl, _⟩ := h
    rfl
  · obtain ⟨a, ns, k, rfl, hS, hl, k0, k1, q⟩ := h
    have hu64 := hr.units
    refine ⟨_, PSs.nox (pss_cons (ps_set (i := 2) sc_law_draws.nd rfl (by first | exact Or.inl rfl | exact Or.inr rfl) pe_int) (pss_mid (ps_if (pt_cmpR (op_neD hu64) (pv 0) (pe_lst pa_nil) (nomark _)) (pss_one (ps_set (i := 2) sc_law_draws.nd rfl (by first | exact Or.inl rfl | exact Or.inr rfl) (pe_ix ix_list (pv 0) (pe_op op_mod (pe_callTy call_int1 (by rfl) T.z_int (by decide +kernel) (pa_cons (pv 1) pa_nil)) (pe_callB call_len (by rfl) T.z_len (by decide +kernel) (pa_cons (pv 0) pa_nil))) (fun _ _ => rfl)))) pss_nil) (pss_mid (ps_if (pt_cmpR op_ge (pv 1) (pe_callB call_len (by rfl) T.z_len (by decide +kernel) (pa_cons (pv 0) pa_nil)) (nomark _)) (pss_one (ps_set (i := 2) sc_law_draws.nd rfl (by first | exact Or.inl rfl | exact Or.inr rfl) (pe_op op_mod (pe_callTy call_int1 (by rfl) T.z_int (by decide +kernel) (pa_cons (pv 2) pa_nil)) pe_int))) pss_nil) (pss_cons (ps_set (i := 3) sc_law_draws.nd rfl (by first | exact Or.inl rfl | exact Or.inr rfl) (pe_op op_mod (pe_op op_mul (pe_callTy call_int1 (by rfl) T.z_int (by decide +kernel) (pa_cons (pe_op op_add (pe_op op_add (pe_op op_mod (pe_callTy call_int1 (by rfl) T.z_int (by decide +kernel) (pa_cons (pv 2) pa_nil)) pe_int) (pe_op op_mul pe_int (pv 1))) pe_int) pa_nil)) pe_int) pe_int)) (pss_one (ps_ret (pe_lst (pa_cons (pe_op op_mul (pv 2) (pe_callTy call_int1 (by rfl) T.z_int (by decide +kernel) (pa_cons (pe_cmpR op_ge (pv 2) (pe_op op_pow pe_int pe_int) (nomark _)) pa_nil))) (pa_cons (pv 3) pa_nil))))))))), ?_⟩
    -- cell = 0; if script != []
    refine ⟨fun σ' H' => ∃ (cell : Int) (p : Addr), σ' = [some (.ref a), some (.int k), some (.int cell), none] ∧ Same H H', ?_, ?_⟩
    · refine ⟨_, rfl, by show 0 ≤ sizeLine; exact Nat.zero_le _, fun p hp => ?_⟩
      have s1 : Same H (upd H p (.lst [])) := same_new hp
      have hS1 : SqL K (upd H p (.lst [])) a (ns.map V.int) := s1.seq hS
      refine ⟨_, _, .lst hS1 (dpAll_ints ns), .lst (SqL.of upd_same) .nil, shaped_ints ns, rfl, _, rfl, ?_⟩
      refine ite2 (fun e => ?_) (fun _ => ?_)
      · have hpos : 0 < ns.length := by
          cases ns with
          | nil => cases e
          | cons _ _ => exact Nat.succ_pos _
        have m0 := Int.emod_nonneg k (show (ns.length : Int) ≠ 0 by omega)
        have m1 := Int.emod_lt_of_pos k (show (0 : Int) < (ns.length : Int) by omega)
        obtain ⟨n, hn⟩ := atI_ints (ns := ns) m0 m1
        refine ⟨_, rfl, _, rfl, .inl ⟨_, rfl, _, rfl, _, _, rfl, .inl ⟨_, hS1, rfl⟩, _, _, rfl, rfl, by rw [List.length_map]; omega, a, _, _, _, rfl, rfl, hS1, by rw [List.length_map]; exact hn, ?_⟩⟩
        exact ⟨n, p, rfl, s1⟩
      · exact ⟨0, p, rfl, s1⟩
    rintro σ1 H1 ⟨cell, p, rfl, s1⟩
    have hS1 : SqL K H1 a (ns.map V.int) := s1.seq hS
    -- if k >= len(script)
    refine ⟨fun σ' H' => ∃ (cell : Int), σ' = [some (.ref a), some (.int k), some (.int cell), none] ∧ H' = H1, ?_, ?_⟩
    · refine ⟨_, rfl, _, rfl, _, _, rfl, .inl ⟨_, hS1, rfl⟩, _, _, rfl, rfl, _, rfl, ?_⟩
      refine ite2 (fun _ => ?_) (fun _ => ?_)
      · refine ⟨_, rfl, .inl ⟨_, rfl, _, _, rfl, rfl, by show (0 : Int) < 1000003; decide, ?_⟩⟩
        exact ⟨_, rfl, rfl⟩
      · exact ⟨_, rfl, rfl⟩
    rintro σ2 H2 ⟨cell, rfl, rfl⟩
    have c0 := Int.emod_nonneg cell (show (2147483629 : Int) ≠ 0 by decide)
    have c1 := Int.emod_lt_of_pos cell (show (0 : Int) < 2147483629 by decide)
    -- seed = ..; return [..]
    refine ⟨_, rfl, .inl ⟨_, rfl, _, _, rfl, rfl, by show (0 : Int) < 2147483629; decide, _, rfl, _, _, rfl, rfl, .inl ⟨by decide, by decide⟩, _, _, rfl, rfl, _, _, rfl, rfl, .inl ⟨_, rfl, _, _, rfl, rfl, .inr ⟨by decide, by decide⟩, _, _, rfl, rfl, by show (0 : Int) < 2147483647; decide, ?_⟩⟩⟩
    refine ⟨_, rfl, _, rfl, _, _, rfl, rfl, ⟨by decide, by decide, by decide⟩, _, _, rfl, rfl, .inr ⟨_, rfl, _, _, rfl, rfl, .inr ?_, _, rfl, by show 2 ≤ sizeLine; decide, fun p2 hp2 => ?_⟩⟩
    · constructor <;> (split <;> decide)
    · refine q p2 _ (same_mut s1 (by
        cases e : H p2 with
        | none => rfl
        | some o => rw [s1 _ _ e] at hp2; cases hp2)) (by
        cases e : H p2 with
        | none => rfl
        | some o => rw [s1 _ _ e] at hp2; cases hp2) ⟨_, _, upd_same, ?_, ?_⟩
      · exact Int.emod_nonneg _ (by decide)
      · exact Int.emod_lt_of_pos _ (by decide)
theorem ok_law_draw (T : Tx K mg) : FnOk P w K mg base CX0 1 (A_law_draw K) (D_law_draw K) ["_law_draws_here", "_law_upto"] spDraw := by
  refine T.F_law_draw.ok sc_law_draw (fun vs H Q E h => ?_) (fun cdv A outer s H vs Q E hr h => ?_)
  · obtain ⟨a, n, rfl, _⟩ := h
    rfl
  · obtain ⟨l, n, rfl, ⟨c, z, hl, z0, z1⟩, n0, n1, q⟩ := h
    refine ⟨_, PSs.nox (pss_cons (ps_if (pt_cmpR op_gt (pe_ix ix_list (pv 0) pe_int (fun _ _ => rfl)) pe_int (nomark _)) (pss_cons (ps_set (i := 2) sc_law_draw.nd rfl (by first | exact Or.inl rfl | exact Or.inr rfl) (pe_op op_mod (pe_callTy call_int1 (by rfl) T.z_int (by decide +kernel) (pa_cons (pe_ix ix_list (pv 0) pe_int (fun _ _ => rfl)) pa_nil)) (pv 1))) (pss_cons (ps_asg (pe_op op_fdiv (pe_ix ix_list (pv 0) pe_int (fun _ _ => rfl)) (pv 1)) (pg_sub (pv 0) pe_int set_list)) (pss_one (ps_ret (pv 2))))) pss_nil) (pss_cons (ps_asg (pe_op op_mod (pe_callTy call_int1 (by rfl) T.z_int (by decide +kernel) (pa_cons (pe_op op_add (pe_op op_mul (pe_ix ix_list (pv 0) pe_int (fun _ _ => rfl)) pe_int) pe_int) pa_nil)) pe_int) (pg_sub (pv 0) pe_int set_list)) (pss_one (ps_ret (pe_op op_mod (pe_callTy call_int1 (by rfl) T.z_int (by decide +kernel) (pa_cons (pe_op op_fdiv (pe_op op_mod (pe_callTy call_int1 (by rfl) T.z_int (by decide +kernel) (pa_cons (pe_op op_mul (pe_ix ix_list (pv 0) pe_int (fun _ _ => rfl)) (pe_ix ix_list (pv 0) pe_int (fun _ _ => rfl))) pa_nil)) pe_int) pe_int) pa_nil)) (pv 1)))))), ?_⟩
    refine ⟨_, rfl, l, _, _, _, rfl, rfl, SqL.of hl, rfl, _, _, rfl, rfl, _, rfl, ?_⟩
    refine ite2 (fun _ => ?_) (fun _ => ?_)
    · refine ⟨_, rfl, l, _, _, _, rfl, rfl, SqL.of hl, rfl, .inl ⟨_, rfl, _, rfl, _, _, rfl, rfl, n0, ?_⟩⟩
      refine ⟨_, rfl, l, _, _, _, rfl, rfl, SqL.of hl, rfl, _, rfl, _, _, rfl, rfl, ⟨n0, by omega⟩, _, rfl, l, _, _, _, rfl, rfl, hl, rfl, _, rfl, ?_⟩
      exact q _ _ _ (Int.emod_nonneg _ (by omega)) (Int.emod_lt_of_pos _ n0) z0 z1
    · refine ⟨_, rfl, l, _, _, _, rfl, rfl, SqL.of hl, rfl, _, _, rfl, rfl, .inr ⟨by decide, by decide⟩, _, _, rfl, rfl, .inl ⟨_, rfl, _, _, rfl, rfl, by show (0 : Int) < 2147483647; decide, _, rfl, l, _, _, _, rfl, rfl, hl, rfl, ?_⟩⟩
      have y0 := Int.emod_nonneg (z * 48271 + 11) (show (2147483647 : Int) ≠ 0 by decide)
      have y1 := Int.emod_lt_of_pos (z * 48271 + 11) (show (0 : Int) < 2147483647 by decide)
      have hl' : (upd H l (.lst [.int c, .int ((z * 48271 + 11) % 2147483647)])) l = some (.lst [.int c, .int ((z * 48271 + 11) % 2147483647)]) := upd_same
      refine ⟨_, rfl, l, _, _, _, rfl, rfl, SqL.of hl', rfl, _, rfl, l, _, _, _, rfl, rfl, SqL.of hl', rfl, _, _, rfl, rfl, .inl ⟨by omega, by omega⟩, .inl ⟨_, rfl, _, _, rfl, rfl, by show (0 : Int) < 2147483629; decide, _, _, rfl, rfl, ⟨by decide, by decide⟩, .inl ⟨_, rfl, _, rfl, _, _, rfl, rfl, n0, ?_⟩⟩⟩
      exact q _ _ _ (Int.emod_nonneg _ (by omega)) (Int.emod_lt_of_pos _ n0) y0 y1
theorem bd_law_draws {K : PySem.W.Frag} {mg : Str → Option Value} (T : Tx K mg) : Binds K (D_law_draws K) ["_law_script", "_law_k"] [] := T.F_law_draws.bindsN fun _ _ _ _ _ _ us hl => match us, hl with | [_, _], _ => rfl
theorem bd_law_draw {K : PySem.W.Frag} {mg : Str → Option Value} (T : Tx K mg) : Binds K (D_law_draw K) ["_law_draws_here", "_law_upto"] [] := T.F_law_draw.bindsN fun _ _ _ _ _ _ us hl => match us, hl with | [_, _], _ => rfl
end

end Lp

set_option Elab.async false
set_option linter.all false
set_option maxRecDepth 100000
set_option maxHeartbeats 4000000
namespace Lp
open PySem PySem.Spec PyProof.Rows L2
variable {K : PySem.W.Frag}
/-! ### the menus -/
def RpL (K : PySem.W.Frag) (H : Hp) (v : V) (z : Str) : Prop := Rp K H v z ∧ (PyData.str z).canLay0 = true
theorem RpL.same {H H' : Hp} {v : V} {z : Str} (s : Same H H') (h : RpL K H v z) : RpL K H' v z := ⟨h.1.same s, h.2⟩
def wItems : List V := [.str "a", .str "conn", .str "abcdefgh", .str "take", .str "zz"]
def oItems (t1 t2 : Addr) : List V := [.str "", .str "A", .str "a b", .str "abcdefghi", .str "a1", .str "a_", .non, .int 5, .ref t1, .ref t2, .bl true, .str "a-"]
theorem word_str {H : Hp} {Q : VK} {E : XK} {z : Str} {b : Bool} (l : z.length ≤ sizeLine) (e : isWord z = b) (q : Q (.bl b) H) : spIsWord K [.str z] H Q E := ⟨_, rfl, .inl ⟨z, rfl, l, by rw [e]; exact q⟩⟩
theorem noStr_of {H : Hp} {v : V} {T : String} (ty : TyX K H v (.type T)) (h : kitB T "str" = some false) : NoStr K H v := ⟨_, ty, kit_ty h⟩
theorem word_item {H : Hp} {t1 t2 : Addr} (h1 : H t1 = some (.tup [.str "a"])) (h2 : H t2 = some (.lst [.str "a"])) {i : Nat} {x : V} (e : (wItems ++ oItems t1 t2)[i]? = some x) {Q : VK} {E : XK} (q : Q (.bl (decide (i < 5))) H) : spIsWord K [x] H Q E := by
  match i, e with
  | 0, e => cases e; exact word_str (by decide +kernel) (by decide +kernel) q
  | 1, e => cases e; exact word_str (by decide +kernel) (by decide +kernel) q
  | 2, e => cases e; exact word_str (by decide +kernel) (by decide +kernel) q
  | 3, e => cases e; exact word_str (by decide +kernel) (by decide +kernel) q
  | 4, e => cases e; exact word_str (by decide +kernel) (by decide +kernel) q
  | 5, e => cases e; exact word_str (by decide +kernel) (by decide +kernel) q
  | 6, e => cases e; exact word_str (by decide +kernel) (by decide +kernel) q
  | 7, e => cases e; exact word_str (by decide +kernel) (by decide +kernel) q
  | 8, e => cases e; exact word_str (by decide +kernel) (by decide +kernel) q
  | 9, e => cases e; exact word_str (by decide +kernel) (by decide +kernel) q
  | 10, e => cases e; exact word_str (by decide +kernel) (by decide +kernel) q
  | 11, e => cases e; exact ⟨_, rfl, .inr ⟨noStr_of (.base .non) (by decide +kernel), q⟩⟩
  | 12, e => cases e; exact ⟨_, rfl, .inr ⟨noStr_of (.base (.int 5)) (by decide +kernel), q⟩⟩
  | 13, e => cases e; exact ⟨_, rfl, .inr ⟨noStr_of (.base (.tup h1)) (by decide +kernel), q⟩⟩
  | 14, e => cases e; exact ⟨_, rfl, .inr ⟨noStr_of (.base (.lst h2)) (by decide +kernel), q⟩⟩
  | 15, e => cases e; exact ⟨_, rfl, .inr ⟨noStr_of (.base (.bl true)) (by decide +kernel), q⟩⟩
  | 16, e => cases e; exact word_str (by decide +kernel) (by decide +kernel) q
  | _ + 17, e => simp [wItems, oItems] at e
theorem rpl_of {H : Hp} {v : V} {d : PyData} (h : Sh K H v d) (h1 : d.showable = true) (h2 : d.depth ≤ 50) (h3 : d.shown.length ≤ sizeLine) (h4 : (PyData.str d.shown).canLay0 = true) : ∃ z, RpL K H v z := ⟨d.shown, .inl ⟨d, h, h1, h2, h3, rfl⟩, h4⟩
theorem noWord_s {H : Hp} {z : Str} (l : z.length ≤ sizeLine) (e : isWord z = false) : NoWord K H (.str z) := .inl ⟨z, rfl, l, e⟩
/-- others -/
theorem menu_o {H : Hp} {t1 t2 : Addr} (h1 : H t1 = some (.tup [.str "a"])) (h2 : H t2 = some (.lst [.str "a"])) {r : Int} (r0 : 0 ≤ r) (r1 : r < 12) : ∃ v z, atI (oItems t1 t2) r = some v ∧ NoWord K H v ∧ RpL K H v z := by
  have st : ∀ z : Str, z.length ≤ sizeLine → isWord z = false → (PyData.str z).showable = true → (PyData.str z).shown.length ≤ sizeLine → (PyData.str (PyData.str z).shown).canLay0 = true → ∃ y, NoWord K H (.str z) ∧ RpL K H (.str z) y := fun z a b c d e => by
    obtain ⟨y, hy⟩ := rpl_of (K := K) (H := H) (.inl (.str z)) c (by show 0 ≤ 50; decide) d e
    exact ⟨y, noWord_s a b, hy⟩
  have go : ∀ {v : V}, atI (oItems t1 t2) r = some v → (∃ y, NoWord K H v ∧ RpL K H v y) → ∃ v z, atI (oItems t1 t2) r = some v ∧ NoWord K H v ∧ RpL K H v z := fun e ⟨y, h⟩ => ⟨_, y, e, h⟩
  obtain rfl | rfl | rfl | rfl | rfl | rfl | rfl | rfl | rfl | rfl | rfl | rfl : r = 0 ∨ r = 1 ∨ r = 2 ∨ r = 3 ∨ r = 4 ∨ r = 5 ∨ r = 6 ∨ r = 7 ∨ r = 8 ∨ r = 9 ∨ r = 10 ∨ r = 11 := by omega
  · exact go rfl (st _ (by decide +kernel) (by decide +kernel) (by decide +kernel) (by decide +kernel) (by decide +kernel))
  · exact go rfl (st _ (by decide +kernel) (by decide +kernel) (by decide +kernel) (by decide +kernel) (by decide +kernel))
  · exact go rfl (st _ (by decide +kernel) (by decide +kernel) (by decide +kernel) (by decide +kernel) (by decide +kernel))
  · exact go rfl (st _ (by decide +kernel) (by decide +kernel) (by decide +kernel) (by decide +kernel) (by decide +kernel))
  · exact go rfl (st _ (by decide +kernel) (by decide +kernel) (by decide +kernel) (by decide +kernel) (by decide +kernel))
  · exact go rfl (st _ (by decide +kernel) (by decide +kernel) (by decide +kernel) (by decide +kernel) (by decide +kernel))
  · obtain ⟨y, hy⟩ := rpl_of (K := K) (H := H) (d := .none) (.inl .non) (by decide +kernel) (by decide +kernel) (by decide +kernel) (by decide +kernel)
    exact go rfl ⟨y, .inr (noStr_of (.base .non) (by decide +kernel)), hy⟩
  · obtain ⟨y, hy⟩ := rpl_of (K := K) (H := H) (d := .int 5) (.inl (.int 5)) (by decide +kernel) (by decide +kernel) (by decide +kernel) (by decide +kernel)
    exact go rfl ⟨y, .inr (noStr_of (.base (.int 5)) (by decide +kernel)), hy⟩
  · obtain ⟨y, hy⟩ := rpl_of (K := K) (H := H) (d := .tuple [.str "a"]) (.inl (.tup (SqT.of h1) (.cons (.str _) .nil))) (by decide +kernel) (by decide +kernel) (by decide +kernel) (by decide +kernel)
    exact go rfl ⟨y, .inr (noStr_of (.base (.tup h1)) (by decide +kernel)), hy⟩
  · obtain ⟨y, hy⟩ := rpl_of (K := K) (H := H) (d := .list [.str "a"]) (.inl (.lst (SqL.of h2) (.cons (.str _) .nil))) (by decide +kernel) (by decide +kernel) (by decide +kernel) (by decide +kernel)
    exact go rfl ⟨y, .inr (noStr_of (.base (.lst h2)) (by decide +kernel)), hy⟩
  · obtain ⟨y, hy⟩ := rpl_of (K := K) (H := H) (d := .bool true) (.inl (.bl true)) (by decide +kernel) (by decide +kernel) (by decide +kernel) (by decide +kernel)
    exact go rfl ⟨y, .inr (noStr_of (.base (.bl true)) (by decide +kernel)), hy⟩
  · exact go rfl (st _ (by decide +kernel) (by decide +kernel) (by decide +kernel) (by decide +kernel) (by decide +kernel))
/-- what gives no sizes -/
def bItems (l0 t2 d1 d2 d3 d4 d5 d6 d7 : Addr) : List V := [.non, .int 5, .ref l0, .ref t2, .str "a", .ref d1, .ref d2, .ref d3, .ref d4, .ref d5, .ref d6, .ref d7]
theorem noDic_of {H : Hp} {v : V} {T : String} (ty : TyX K H v (.type T)) (h : kitB T "dict" = some false) : NoAmt K H v := .inl ⟨_, ty, kit_ty h⟩
theorem bad_dict {H : Hp} {d : Addr} {kvs : List (Key × V)} (h : H d = some (.dK kvs)) (h0 : KvOk kvs) (h1 : amts kvs = false) (hf : ∀ p ∈ kvs, flD p.2 = true) (s1 : (dD kvs).showable = true) (s2 : (dD kvs).depth ≤ 50) (s3 : (dD kvs).shown.length ≤ sizeLine) (s4 : (PyData.str (dD kvs).shown).canLay0 = true) :
    ∃ z, NoAmt K H (.ref d) ∧ RpL K H (.ref d) z := by
  obtain ⟨z, hz⟩ := rpl_of (K := K) (H := H) (v := .ref d) (d := dD kvs) (.inr ⟨d, kvs, rfl, .inl h, hf, rfl⟩) s1 s2 s3 s4
  exact ⟨z, .inr ⟨d, kvs, rfl, .inl h, h0, h1⟩, hz⟩
theorem kv1 {k : Key} {v : V} (h1 : KOk k) (h2 : VOk v) : KvOk [(k, v)] := ⟨by show 1 < 100000; decide, by simp, fun p hp => by rw [List.mem_singleton.mp hp]; exact ⟨h1, h2⟩⟩
theorem fl1 {k : Key} {v : V} (h : flD v = true) : ∀ p ∈ [(k, v)], flD p.2 = true := fun p hp => by rw [List.mem_singleton.mp hp]; exact h
theorem menu_b {H : Hp} {l0 t1 t2 d1 d2 d3 d4 d5 d6 d7 : Addr} (h0 : H l0 = some (.lst [])) (h1 : H t1 = some (.tup [.str "a", .int 1])) (h2 : H t2 = some (.tup [.ref t1])) (k1 : H d1 = some (.dK [(Sum.inr "a", .int (-1))])) (k2 : H d2 = some (.dK [(Sum.inr "a", .bl true)])) (k3 : H d3 = some (.dK [(Sum.inr "a", .str "1")]))
    (k4 : H d4 = some (.dK [(Sum.inr "A", .int 1)])) (k5 : H d5 = some (.dK [(Sum.inr "", .int 0)])) (k6 : H d6 = some (.dK [(Sum.inl 1, .int 1)])) (k7 : H d7 = some (.dK [(Sum.inr "a", .non)])) {r : Int} (r0 : 0 ≤ r) (r1 : r < 12) : ∃ v z, atI (bItems l0 t2 d1 d2 d3 d4 d5 d6 d7) r = some v ∧ NoAmt K H v ∧ RpL K H v z := by
  have go : ∀ {v : V}, atI (bItems l0 t2 d1 d2 d3 d4 d5 d6 d7) r = some v → (∃ y, NoAmt K H v ∧ RpL K H v y) → ∃ v z, atI (bItems l0 t2 d1 d2 d3 d4 d5 d6 d7) r = some v ∧ NoAmt K H v ∧ RpL K H v z := fun e ⟨y, h⟩ => ⟨_, y, e, h⟩
  obtain rfl | rfl | rfl | rfl | rfl | rfl | rfl | rfl | rfl | rfl | rfl | rfl : r = 0 ∨ r = 1 ∨ r = 2 ∨ r = 3 ∨ r = 4 ∨ r = 5 ∨ r = 6 ∨ r = 7 ∨ r = 8 ∨ r = 9 ∨ r = 10 ∨ r = 11 := by omega
  · obtain ⟨y, hy⟩ := rpl_of (K := K) (H := H) (d := .none) (.inl .non) (by decide +kernel) (by decide +kernel) (by decide +kernel) (by decide +kernel)
    exact go rfl ⟨y, noDic_of (.base .non) (by decide +kernel), hy⟩
  · obtain ⟨y, hy⟩ := rpl_of (K := K) (H := H) (d := .int 5) (.inl (.int 5)) (by decide +kernel) (by decide +kernel) (by decide +kernel) (by decide +kernel)
    exact go rfl ⟨y, noDic_of (.base (.int 5)) (by decide +kernel), hy⟩
  · obtain ⟨y, hy⟩ := rpl_of (K := K) (H := H) (d := .list []) (.inl (.lst (SqL.of h0) .nil)) (by decide +kernel) (by decide +kernel) (by decide +kernel) (by decide +kernel)
    exact go rfl ⟨y, noDic_of (.base (.lst h0)) (by decide +kernel), hy⟩
  · obtain ⟨y, hy⟩ := rpl_of (K := K) (H := H) (d := .tuple [.tuple [.str "a", .int 1]]) (.inl (.tup (SqT.of h2) (.cons (.tup (SqT.of h1) (.cons (.str _) (.cons (.int _) .nil))) .nil))) (by decide +kernel) (by decide +kernel) (by decide +kernel) (by decide +kernel)
    exact go rfl ⟨y, noDic_of (.base (.tup h2)) (by decide +kernel), hy⟩
  · obtain ⟨y, hy⟩ := rpl_of (K := K) (H := H) (d := .str "a") (.inl (.str "a")) (by decide +kernel) (by decide +kernel) (by decide +kernel) (by decide +kernel)
    exact go rfl ⟨y, noDic_of (.base (.str "a")) (by decide +kernel), hy⟩
  · exact go rfl (bad_dict k1 (kv1 (by show Str.length _ ≤ _; decide +kernel) trivial) (by decide +kernel) (fl1 rfl) (by decide +kernel) (by decide +kernel) (by decide +kernel) (by decide +kernel))
  · exact go rfl (bad_dict k2 (kv1 (by show Str.length _ ≤ _; decide +kernel) trivial) (by decide +kernel) (fl1 rfl) (by decide +kernel) (by decide +kernel) (by decide +kernel) (by decide +kernel))
  · exact go rfl (bad_dict k3 (kv1 (by show Str.length _ ≤ _; decide +kernel) trivial) (by decide +kernel) (fl1 rfl) (by decide +kernel) (by decide +kernel) (by decide +kernel) (by decide +kernel))
  · exact go rfl (bad_dict k4 (kv1 (by show Str.length _ ≤ _; decide +kernel) trivial) (by decide +kernel) (fl1 rfl) (by decide +kernel) (by decide +kernel) (by decide +kernel) (by decide +kernel))
  · exact go rfl (bad_dict k5 (kv1 (by show Str.length _ ≤ _; decide +kernel) trivial) (by decide +kernel) (fl1 rfl) (by decide +kernel) (by decide +kernel) (by decide +kernel) (by decide +kernel))
  · exact go rfl (bad_dict k6 (kv1 trivial trivial) (by decide +kernel) (fl1 rfl) (by decide +kernel) (by decide +kernel) (by decide +kernel) (by decide +kernel))
  · exact go rfl (bad_dict k7 (kv1 (by show Str.length _ ≤ _; decide +kernel) trivial) (by decide +kernel) (fl1 rfl) (by decide +kernel) (by decide +kernel) (by decide +kernel) (by decide +kernel))
/-- the sizes of the law -/
structure MOk (m : List (Str × Int)) : Prop where
  s : SzShow m
  l : (listText [szText m]).length ≤ sizeLine
  c : (PyData.str (listText [szText m])).canLay0 = true
  d1 : (dD (kvm m)).depth ≤ 50
  d2 : (dD (kvm m)).shown.length ≤ sizeLine
  d3 : (PyData.str (dD (kvm m)).shown).canLay0 = true
theorem mok {n : Int} (n0 : 0 ≤ n) (n1 : n < 4) {m : List (Str × Int)} (h : Made [("conn", 2), ("disk", n)] m) : MOk m := by
  obtain ⟨ys, hp, _, rfl⟩ := h
  have hy : ys = (["conn", "disk"] : List Str) ∨ ys = (["disk", "conn"] : List Str) := by
    have hl : ys.length = 2 := hp.length_eq
    match ys, hl with
    | [a, b], _ =>
      have ha : a ∈ (["conn", "disk"] : List Str) := hp.mem_iff.mp (List.mem_cons_self ..)
      have hb : b ∈ (["conn", "disk"] : List Str) := hp.mem_iff.mp (List.mem_cons_of_mem _ (List.mem_cons_self ..))
      have nd : [a, b].Nodup := hp.nodup_iff.mpr (show (["conn", "disk"] : List Str).Nodup by decide +kernel)
      have ne : a ≠ b := fun e => by rw [e] at nd; simp at nd
      simp only [List.mem_cons, List.not_mem_nil, or_false] at ha hb
      rcases ha with rfl | rfl <;> rcases hb with rfl | rfl
      · exact absurd rfl ne
      · exact .inl rfl
      · exact .inr rfl
      · exact absurd rfl ne
  obtain rfl | rfl | rfl | rfl : n = 0 ∨ n = 1 ∨ n = 2 ∨ n = 3 := by omega
  all_goals
    rcases hy with rfl | rfl
    all_goals exact ⟨⟨by decide +kernel, by decide +kernel⟩, by decide +kernel, by decide +kernel, by decide +kernel, by decide +kernel, by decide +kernel⟩
theorem noSz_of {H : Hp} {v : V} {T : String} (ty : TyX K H v (.type T)) (hT : T ∈ ["NoneType", "int", "str", "dict", "list", "tuple", "bool"]) : NoSz K H v := ⟨T, ty, hT⟩
/-- other operands -/
def pItems (d l t : Addr) : List V := [.non, .int 5, .ref d, .str "conn", .ref l, .ref t]
theorem menu_p {H : Hp} {a d l t : Addr} {m : List (Str × Int)} (hs : SzAt K H a m) (hm : MOk m) (h1 : H d = some (.dK [])) (h2 : H l = some (.lst [.ref a])) (h3 : H t = some (.tup [.str "conn", .int 1])) {r : Int} (r0 : 0 ≤ r) (r1 : r < 6) : ∃ v z, atI (pItems d l t) r = some v ∧ NoSz K H v ∧ RpL K H v z := by
  have go : ∀ {v : V}, atI (pItems d l t) r = some v → (∃ y, NoSz K H v ∧ RpL K H v y) → ∃ v z, atI (pItems d l t) r = some v ∧ NoSz K H v ∧ RpL K H v z := fun e ⟨y, h⟩ => ⟨_, y, e, h⟩
  obtain rfl | rfl | rfl | rfl | rfl | rfl : r = 0 ∨ r = 1 ∨ r = 2 ∨ r = 3 ∨ r = 4 ∨ r = 5 := by omega
  · obtain ⟨y, hy⟩ := rpl_of (K := K) (H := H) (d := .none) (.inl .non) (by decide +kernel) (by decide +kernel) (by decide +kernel) (by decide +kernel)
    exact go rfl ⟨y, noSz_of (.base .non) (by decide), hy⟩
  · obtain ⟨y, hy⟩ := rpl_of (K := K) (H := H) (d := .int 5) (.inl (.int 5)) (by decide +kernel) (by decide +kernel) (by decide +kernel) (by decide +kernel)
    exact go rfl ⟨y, noSz_of (.base (.int 5)) (by decide), hy⟩
  · obtain ⟨y, hy⟩ := rpl_of (K := K) (H := H) (v := .ref d) (d := dD []) (.inr ⟨d, [], rfl, .inl h1, fun p hp => (nomatch hp), rfl⟩) (by decide +kernel) (by decide +kernel) (by decide +kernel) (by decide +kernel)
    exact go rfl ⟨y, noSz_of (.base (.dK h1)) (by decide), hy⟩
  · obtain ⟨y, hy⟩ := rpl_of (K := K) (H := H) (d := .str "conn") (.inl (.str "conn")) (by decide +kernel) (by decide +kernel) (by decide +kernel) (by decide +kernel)
    exact go rfl ⟨y, noSz_of (.base (.str "conn")) (by decide), hy⟩
  · obtain ⟨dx, dk, od, a1, _, a3⟩ := hs
    exact go rfl ⟨listText [szText m], noSz_of (.base (.lst h2)) (by decide), .inr ⟨l, a, dx, dk, od, m, rfl, h2, a1, a3, hm.s, hm.l, rfl⟩, hm.c⟩
  · obtain ⟨y, hy⟩ := rpl_of (K := K) (H := H) (d := .tuple [.str "conn", .int 1]) (.inl (.tup (SqT.of h3) (.cons (.str _) (.cons (.int _) .nil)))) (by decide +kernel) (by decide +kernel) (by decide +kernel) (by decide +kernel)
    exact go rfl ⟨y, noSz_of (.base (.tup h3)) (by decide), hy⟩
/-- other numbers -/
def qItems (l d : Addr) : List V := [.int (-1), .non, .bl true, .str "2", .ref l, .ref d]
theorem noInt0_of {H : Hp} {v : V} {T : String} (ty : TyX K H v (.type T)) (h : kitB T "int" = some false) : NoInt0 K H v := .inr (.inr ⟨_, ty, kit_ty h⟩)
theorem menu_q {H : Hp} {l d : Addr} {m : List (Str × Int)} (hm : MOk m) (h1 : H l = some (.lst [.int 1])) (h2 : H d = some (.dK (kvm m))) {r : Int} (r0 : 0 ≤ r) (r1 : r < 6) : ∃ v z, atI (qItems l d) r = some v ∧ NoInt0 K H v ∧ NoSz K H v ∧ RpL K H v z := by
  have go : ∀ {v : V}, atI (qItems l d) r = some v → (∃ y, NoInt0 K H v ∧ NoSz K H v ∧ RpL K H v y) → ∃ v z, atI (qItems l d) r = some v ∧ NoInt0 K H v ∧ NoSz K H v ∧ RpL K H v z := fun e ⟨y, h⟩ => ⟨_, y, e, h⟩
  obtain rfl | rfl | rfl | rfl | rfl | rfl : r = 0 ∨ r = 1 ∨ r = 2 ∨ r = 3 ∨ r = 4 ∨ r = 5 := by omega
  · obtain ⟨y, hy⟩ := rpl_of (K := K) (H := H) (d := .int (-1)) (.inl (.int (-1))) (by decide +kernel) (by decide +kernel) (by decide +kernel) (by decide +kernel)
    exact go rfl ⟨y, .inl ⟨-1, rfl, by decide⟩, noSz_of (.base (.int (-1))) (by decide), hy⟩
  · obtain ⟨y, hy⟩ := rpl_of (K := K) (H := H) (d := .none) (.inl .non) (by decide +kernel) (by decide +kernel) (by decide +kernel) (by decide +kernel)
    exact go rfl ⟨y, noInt0_of (.base .non) (by decide +kernel), noSz_of (.base .non) (by decide), hy⟩
  · obtain ⟨y, hy⟩ := rpl_of (K := K) (H := H) (d := .bool true) (.inl (.bl true)) (by decide +kernel) (by decide +kernel) (by decide +kernel) (by decide +kernel)
    exact go rfl ⟨y, .inr (.inl ⟨true, rfl⟩), noSz_of (.base (.bl true)) (by decide), hy⟩
  · obtain ⟨y, hy⟩ := rpl_of (K := K) (H := H) (d := .str "2") (.inl (.str "2")) (by decide +kernel) (by decide +kernel) (by decide +kernel) (by decide +kernel)
    exact go rfl ⟨y, noInt0_of (.base (.str "2")) (by decide +kernel), noSz_of (.base (.str "2")) (by decide), hy⟩
  · obtain ⟨y, hy⟩ := rpl_of (K := K) (H := H) (d := .list [.int 1]) (.inl (.lst (SqL.of h1) (.cons (.int _) .nil))) (by decide +kernel) (by decide +kernel) (by decide +kernel) (by decide +kernel)
    exact go rfl ⟨y, noInt0_of (.base (.lst h1)) (by decide +kernel), noSz_of (.base (.lst h1)) (by decide), hy⟩
  · obtain ⟨y, hy⟩ := rpl_of (K := K) (H := H) (v := .ref d) (d := dD (kvm m)) (.inr ⟨d, kvm m, rfl, .inl h2, kvm_flat m, rfl⟩) hm.s.w hm.d1 hm.d2 hm.d3
    exact go rfl ⟨y, noInt0_of (.base (.dK h2)) (by decide +kernel), noSz_of (.base (.dK h2)) (by decide), hy⟩
end Lp

set_option Elab.async false
set_option linter.all false
set_option maxRecDepth 100000
set_option maxHeartbeats 4000000
namespace Lp
open PySem PySem.Spec PyProof.Rows L2
def spLaw (K : PySem.W.Frag) : Sp := fun vs H Q _ => ∃ (a : Addr) (ns : List Int), vs = [.ref a] ∧ SqL K H a (ns.map V.int) ∧ ns.length ≤ 63 ∧ ∀ H', Q (.bl true) H'
abbrev N_law : List Str := ["_law_script", "_law_words", "_law_others", "_law_one", "_law_k", "_law_draws_here", "_law_sizes", "_law_bad", "_law_thing", "_law_odd", "_law_way"]
theorem sc_law : FnScope N_law ["_law_script"] (defScope S_law) := ⟨rfl, rfl, rfl, by decide +kernel, rfl, by decide +kernel, by decide +kernel⟩
theorem ne_false {A B : Prop} {d : PyData} (h : d.canLay0 = true) (k : B) : ∃ b, V.bl (!PyData.eqv d d) = V.bl b ∧ if b = true then A else B := ⟨false, by rw [eqv_refl d h]; rfl, iteF k⟩
section
variable {P : Program} {w : World} {K : PySem.W.Frag} {mg : Str → Option Value} {base : Heap}
theorem Gw.more {F H F' H' H2 : Hp} (g : Gw F H F' H') (s : Same H' H2) : Gw F H F' H2 := ⟨g.ff, same_trans g.fh s, same_trans g.hh s, g.new⟩
/-- Sizes(d) -/
theorem mk_sz {F H : Hp} (s : Same F H) {d : Addr} {src : List (Str × Int)} (hd : Rd H d (.dK (kvm src))) (ok : SrcOk src) {Q : Addr → Hp → Prop} {E : XK} (q : ∀ x m F' H', Gw F H F' H' → SzAt K F' x m → Made src m → Q x H') :
    ∀ x dx, H x = none → H dx = none → dx ≠ x → spSzInit K [.ref x, .ref d] (upd (upd H dx (.own x)) x (.ins (CS K) dx [])) (fun v H2 => v = .non ∧ Q x H2) E := by
  intro x dx hx hdx ne
  have s1 : Same H (upd (upd H dx (.own x)) x (.ins (CS K) dx [])) := same_trans (same_new hdx) (same_new (by rw [upd_ne ne.symm]; exact hx))
  refine ⟨x, dx, .ref d, rfl, upd_same, .inr ⟨d, src, rfl, rd_same s1 hd, ok, fun m H' dk od keep hx' hk hn made => ⟨rfl, ?_⟩⟩⟩
  have n1 : dk ≠ x := fun e => by rw [e, upd_same] at hn; cases hn
  have n2 : dk ≠ dx := fun e => by rw [e, upd_ne ne, upd_same] at hn; cases hn
  have hdk : H dk = none := by rw [upd_ne n1, upd_ne n2] at hn; exact hn
  have hdx' : H' dx = some (.own x) := keep _ _ ne (by rw [upd_ne ne]; exact upd_same)
  have g : Gw F H F H' := ⟨same_refl F, fun b o e => keep b o (ne_of_none (s _ _ e) hx) (s1 _ _ (s _ _ e)), fun b o e => keep b o (ne_of_none e hx) (s1 _ _ e), fun _ e _ => e⟩
  have g1 := g.freeze hdx (same_off s hdx) hdx'
  have g2 := g1.freeze hx (by rw [upd_ne ne.symm]; exact same_off s hx) hx'
  have g3 := g2.freeze hdk (by rw [upd_ne n1, upd_ne n2]; exact same_off s hdk) hk
  refine q x m _ H' g3 ⟨dx, dk, od, ?_, ?_, upd_same⟩ made
  · rw [upd_ne n1.symm, upd_same]
  · rw [upd_ne n2.symm, upd_ne ne, upd_same]
/-- a row that _law_heard gives -/
def hD (z : Str) : PyData := .list [.str z, .bool true, .bool true]
theorem hD_dp {H : Hp} {p : Addr} {z : Str} (h : H p = some (.lst [.str z, .bl true, .bl true])) : Dp K H (.ref p) (hD z) := .lst (SqL.of h) (.cons (.str z) (.cons (.bl true) (.cons (.bl true) .nil)))
theorem hD_lay {z : Str} (h : (PyData.str z).canLay0 = true) : (hD z).canLay0 = true := by
  show ((PyData.str z).canLay0 && (true && (true && true))) = true
  rw [h]
  rfl
theorem hD_dep (z : Str) : (hD z).depth ≤ 1 := Nat.le_refl _
theorem hD_shaped {z : Str} (h : (PyData.str z).canLay0 = true) : SeqAt.shaped (hD z) = true := shaped_of (hD_lay h) (Nat.le_trans (hD_dep z) (by decide))
def hhD (z : Str) (n : Nat) : PyData := .list (List.replicate n (hD z))
theorem hhD_lay {z : Str} (n : Nat) (h : (PyData.str z).canLay0 = true) : (hhD z n).canLay0 = true := by
  have e : hhD z n = .list ((List.replicate n ()).map fun _ => hD z) := by
    unfold hhD
    rw [List.map_replicate]
  rw [e]
  exact lay_map fun _ _ => hD_lay h
theorem hhD_shaped {z : Str} (n : Nat) (h : (PyData.str z).canLay0 = true) : SeqAt.shaped (hhD z n) = true := by
  have e : hhD z n = .list ((List.replicate n ()).map fun _ => hD z) := by
    unfold hhD
    rw [List.map_replicate]
  refine shaped_of (hhD_lay n h) ?_
  rw [e]
  exact Nat.le_trans (Nat.succ_le_succ (dep_map fun _ _ => hD_dep z)) (by decide)
/-- a turn's row -/
def Row (z : Str) : Nat → V → Hp → Prop := fun _ y F => ∃ p, y = .ref p ∧ F p = some (.lst [.str z, .bl true, .bl true])
theorem Row.same {z : Str} : ∀ i y A B, Same A B → Row z i y A → Row z i y B := fun _ _ _ _ s ⟨p, e, h⟩ => ⟨p, e, s _ _ h⟩
theorem row_gw {F H H9 : Hp} {p : Addr} {o : HO} (s : Same F H) (s9 : Same H H9) (n : H p = none) (h : H9 p = some o) : Gw F H (upd F p o) H9 := ((Gw.refl s).more s9).freeze n (same_off s n) h
theorem row_dp {z : Str} {F : Hp} : ∀ {l : List Nat} {ys : List V}, Paired (fun i y => Row z i y F) l ys → DpAll K F ys (List.replicate l.length (hD z))
  | _, _, .nil => .nil
  | _, _, .cons ⟨p, e, h⟩ t => by
    rw [e]
    exact .cons (hD_dp h) (row_dp t)
theorem rep_dp {z : Str} {F : Hp} {p : Addr} (h : F p = some (.lst [.str z, .bl true, .bl true])) : ∀ n : Nat, DpAll K F (List.replicate n [V.ref p]).flatten (List.replicate n (hD z))
  | 0 => .nil
  | n + 1 => .cons (hD_dp h) (rep_dp h n)
theorem NoSz.same {v : V} {H H' : Hp} (s : Same H H') (h : NoSz K H v) : NoSz K H' v := by
  obtain ⟨t, ty, h⟩ := h
  exact ⟨t, tyx_same s ty, h⟩
theorem NoInt0.same {v : V} {H H' : Hp} (s : Same H H') (h : NoInt0 K H v) : NoInt0 K H' v := by
  rcases h with h | h | ⟨t, ty, h⟩
  · exact .inl h
  · exact .inr (.inl h)
  · exact .inr (.inr ⟨t, tyx_same s ty, h⟩)
theorem NoWord.same {v : V} {H H' : Hp} (s : Same H H') (h : NoWord K H v) : NoWord K H' v := by
  rcases h with h | ⟨t, ty, h⟩
  · exact .inl h
  · exact .inr ⟨t, tyx_same s ty, h⟩
theorem ok_law (T : Tx K mg) : FnG P w K mg base CX0 6 (A_law K) (D_law K) ["_law_script"] (spLaw K) := by
  refine okG T.F_law sc_law (fun vs H Q E h => ?_) (fun cdv A outer s H vs Q E gd hr h => ?_)
  · obtain ⟨a, ns, rfl, _⟩ := h
    rfl
  · obtain ⟨a, ns, rfl, hS, hl, q⟩ := h
    have hu64 := hr.units
    refine ⟨_, PSs.nox (pss_cons (ps_set (i := 1) sc_law.nd rfl (by first | exact Or.inl rfl | exact Or.inr rfl) (pe_lst (pa_cons pe_str (pa_cons pe_str (pa_cons pe_str (pa_cons pe_str (pa_cons pe_str pa_nil))))))) (pss_cons (ps_set (i := 2) sc_law.nd rfl (by first | exact Or.inl rfl | exact Or.inr rfl) (pe_lst (pa_cons pe_str (pa_cons pe_str (pa_cons pe_str (pa_cons pe_str (pa_cons pe_str (pa_cons pe_str (pa_cons pe_non (pa_cons pe_int (pa_cons (pe_tup (pa_cons pe_str pa_nil)) (pa_cons (pe_lst (pa_cons pe_str pa_nil)) (pa_cons pe_bl (pa_cons pe_str pa_nil)))))))))))))) (pss_cons (ps_if (pt_cmpR (op_neD hu64) (pe_lc (own := [("_law_one", 3)]) rfl sc_law.nd (pi_list (pe_op op_cat (pv 1) (pv 2))) (blkOk_by (N := N_law) (sc := defScope S_law) (by decide +kernel)) (fun _ _ _ _ _ => (pg_name (i := 3) sc_law.nd rfl (by first | exact Or.inl rfl | exact Or.inr rfl))) (fun _ _ _ _ _ => pts_nil) (fun _ _ _ _ _ => (pe_call (ok_is_word T) (hr.mono (by decide)) rfl T.m_is_word T.F_is_word.kp (bd_is_word T) .nil pass0 (pa_cons (pv 3) pa_nil)))) (pe_op op_cat (pe_op op_rep (pe_lst (pa_cons pe_bl pa_nil)) pe_int) (pe_op op_rep (pe_lst (pa_cons pe_bl pa_nil)) pe_int)) (nomark _)) (pss_one (ps_ret pe_bl)) pss_nil) (pss_cons (ps_for PassesOwn.never rfl (pi_range1 rfl T.z_range (pa_cons (pe_callB (call_max2 rfl) (by rfl) T.z_max (by decide +kernel) (pa_cons pe_int (pa_cons (pe_callB (call_min2 rfl) (by rfl) T.z_min (by decide +kernel) (pa_cons pe_int (pa_cons (pe_callB call_len (by rfl) T.z_len (by decide +kernel) (pa_cons (pv 0) pa_nil)) pa_nil))) pa_nil))) pa_nil)) (pg_name (i := 4) sc_law.nd rfl (by first | exact Or.inl rfl | exact Or.inr rfl)) (pss_cons (ps_set (i := 5) sc_law.nd rfl (by first | exact Or.inl rfl | exact Or.inr rfl) (pe_call (ok_law_draws T) (hr.mono (by decide)) rfl T.m_law_draws T.F_law_draws.kp (bd_law_draws T) .nil pass0 (pa_cons (pv 0) (pa_cons (pv 4) pa_nil)))) (pss_cons (ps_set (i := 6) sc_law.nd rfl (by first | exact Or.inl rfl | exact Or.inr rfl) (pe_makeSS T.mk_Sizes (raw0 (ok_Sizes_init T) (bd_Sizes_init T)) (hr.mono (by decide)) (fun σ => passF σ) rfl T.m_Sizes (pa_cons (pe_disp (pps_cons pe_str pe_int (pps_cons pe_str (pe_call (ok_law_draw T) (hr.mono (by decide)) rfl T.m_law_draw T.F_law_draw.kp (bd_law_draw T) .nil pass0 (pa_cons (pv 5) (pa_cons pe_int pa_nil))) pps_nil)) rfl rfl (by simp) (by decide)) pa_nil))) (pss_cons (ps_set (i := 7) sc_law.nd rfl (by first | exact Or.inl rfl | exact Or.inr rfl) (pe_lst (pa_cons pe_non (pa_cons pe_int (pa_cons (pe_lst pa_nil) (pa_cons (pe_tup (pa_cons (pe_tup (pa_cons pe_str (pa_cons pe_int pa_nil))) pa_nil)) (pa_cons pe_str (pa_cons (pe_disp (pps_cons pe_str (pe_un un_neg pe_int) pps_nil) rfl rfl (by simp) (by decide)) (pa_cons (pe_disp (pps_cons pe_str pe_bl pps_nil) rfl rfl (by simp) (by decide)) (pa_cons (pe_disp (pps_cons pe_str pe_str pps_nil) rfl rfl (by simp) (by decide)) (pa_cons (pe_disp (pps_cons pe_str pe_int pps_nil) rfl rfl (by simp) (by decide)) (pa_cons (pe_disp (pps_cons pe_str pe_int pps_nil) rfl rfl (by simp) (by decide)) pa_nil)))))))))))) (pss_cons (ps_set (i := 7) sc_law.nd rfl (by first | exact Or.inl rfl | exact Or.inr rfl) (pe_op op_cat (pv 7) (pe_lst (pa_cons (pe_disp (pps_cons pe_int pe_int pps_nil) rfl rfl (by simp) (by decide)) (pa_cons (pe_disp (pps_cons pe_str pe_non pps_nil) rfl rfl (by simp) (by decide)) pa_nil))))) (pss_cons (ps_set (i := 8) sc_law.nd rfl (by first | exact Or.inl rfl | exact Or.inr rfl) (pe_ix ix_list (pv 7) (pe_call (ok_law_draw T) (hr.mono (by decide)) rfl T.m_law_draw T.F_law_draw.kp (bd_law_draw T) .nil pass0 (pa_cons (pv 5) (pa_cons pe_int pa_nil))) (fun _ _ => rfl))) (pss_cons (ps_if (pt_cmpR (op_neD hu64) (pe_callGd (ok_law_heard T) gd (hr.mono (by decide)) rfl T.m_law_heard T.F_law_heard.kp (bd_law_heard T) .nil pass0 (pa_cons pe_int (pa_cons (pv 6) (pa_cons (pv 8) pa_nil)))) (pe_lst (pa_cons (pe_callB (call_reprA (K0 := K) rfl T gd ⟨(hr.mono (show 2 ≤ 5 by decide)).dp, (hr.mono (show 2 ≤ 5 by decide)).un⟩ (.inl hr.hd)) (by rfl) T.z_repr (by decide +kernel) (pa_cons (pv 8) pa_nil)) (pa_cons pe_bl (pa_cons pe_bl pa_nil)))) (nomark _)) (pss_one (ps_ret pe_bl)) pss_nil) (pss_cons (ps_set (i := 9) sc_law.nd rfl (by first | exact Or.inl rfl | exact Or.inr rfl) (pe_ix ix_list (pe_lst (pa_cons pe_non (pa_cons pe_int (pa_cons pe_dnewK (pa_cons pe_str (pa_cons (pe_lst (pa_cons (pv 6) pa_nil)) (pa_cons (pe_tup (pa_cons pe_str (pa_cons pe_int pa_nil))) pa_nil))))))) (pe_call (ok_law_draw T) (hr.mono (by decide)) rfl T.m_law_draw T.F_law_draw.kp (bd_law_draw T) .nil pass0 (pa_cons (pv 5) (pa_cons pe_int pa_nil))) (fun _ _ => rfl))) (pss_cons (ps_for PassesOwn.never rfl (pi_list (pe_lst (pa_cons (pv 6) (pa_cons (pe_makeSS T.mk_Sizes (raw0 (ok_Sizes_init T) (bd_Sizes_init T)) (hr.mono (by decide)) (fun σ => passF σ) rfl T.m_Sizes (pa_cons pe_dnewK pa_nil)) pa_nil)))) (pg_name (i := 3) sc_law.nd rfl (by first | exact Or.inl rfl | exact Or.inr rfl)) (pss_one (ps_if (pt_cmpR (op_neD hu64) (pe_lc (own := [("_law_way", 10)]) rfl sc_law.nd (pi_range2 rfl T.z_range (pa_cons pe_int (pa_cons pe_int pa_nil))) (blkOk_by (N := N_law) (sc := defScope S_law) (by decide +kernel)) (fun _ _ _ _ _ => (pg_name (i := 10) sc_law.nd rfl (by first | exact Or.inl rfl | exact Or.inr rfl))) (fun _ _ _ _ _ => pts_nil) (fun _ _ _ _ _ => (pe_callGd (ok_law_heard T) gd (hr.mono (by decide)) rfl T.m_law_heard T.F_law_heard.kp (bd_law_heard T) .nil pass0 (pa_cons (pv 10) (pa_cons (pv 3) (pa_cons (pv 9) pa_nil)))))) (pe_op op_rep (pe_lst (pa_cons (pe_lst (pa_cons (pe_callB (call_reprA (K0 := K) rfl T gd ⟨(hr.mono (show 2 ≤ 5 by decide)).dp, (hr.mono (show 2 ≤ 5 by decide)).un⟩ (.inl hr.hd)) (by rfl) T.z_repr (by decide +kernel) (pa_cons (pv 9) pa_nil)) (pa_cons pe_bl (pa_cons pe_bl pa_nil)))) pa_nil)) pe_int) (nomark _)) (pss_one (ps_ret pe_bl)) pss_nil))) (pss_cons (ps_set (i := 9) sc_law.nd rfl (by first | exact Or.inl rfl | exact Or.inr rfl) (pe_ix ix_list (pe_lst (pa_cons (pe_un un_neg pe_int) (pa_cons pe_non (pa_cons pe_bl (pa_cons pe_str (pa_cons (pe_lst (pa_cons pe_int pa_nil)) (pa_cons (pe_meth0 (pv 6) T.cl_Sizes T.mt_Sizes_by_name (ok_Sizes_by_name T) (hr.mono (by decide)) (bd_Sizes_by_name T) .nil pass0) pa_nil))))))) (pe_call (ok_law_draw T) (hr.mono (by decide)) rfl T.m_law_draw T.F_law_draw.kp (bd_law_draw T) .nil pass0 (pa_cons (pv 5) (pa_cons pe_int pa_nil))) (fun _ _ => rfl))) (pss_cons (ps_if (pt_cmpR (op_neD hu64) (pe_lc (own := [("_law_way", 10)]) rfl sc_law.nd (pi_list (pe_lst (pa_cons pe_int (pa_cons pe_int pa_nil)))) (blkOk_by (N := N_law) (sc := defScope S_law) (by decide +kernel)) (fun _ _ _ _ _ => (pg_name (i := 10) sc_law.nd rfl (by first | exact Or.inl rfl | exact Or.inr rfl))) (fun _ _ _ _ _ => pts_nil) (fun _ _ _ _ _ => (pe_callGd (ok_law_heard T) gd (hr.mono (by decide)) rfl T.m_law_heard T.F_law_heard.kp (bd_law_heard T) .nil pass0 (pa_cons (pv 10) (pa_cons (pv 6) (pa_cons (pv 9) pa_nil)))))) (pe_op op_rep (pe_lst (pa_cons (pe_lst (pa_cons (pe_callB (call_reprA (K0 := K) rfl T gd ⟨(hr.mono (show 2 ≤ 5 by decide)).dp, (hr.mono (show 2 ≤ 5 by decide)).un⟩ (.inl hr.hd)) (by rfl) T.z_repr (by decide +kernel) (pa_cons (pv 9) pa_nil)) (pa_cons pe_bl (pa_cons pe_bl pa_nil)))) pa_nil)) pe_int) (nomark _)) (pss_one (ps_ret pe_bl)) pss_nil) (pss_cons (ps_set (i := 9) sc_law.nd rfl (by first | exact Or.inl rfl | exact Or.inr rfl) (pe_ix ix_list (pv 2) (pe_call (ok_law_draw T) (hr.mono (by decide)) rfl T.m_law_draw T.F_law_draw.kp (bd_law_draw T) .nil pass0 (pa_cons (pv 5) (pa_cons pe_int pa_nil))) (fun _ _ => rfl))) (pss_one (ps_if (PW.pt (pw_or (pt_cmpR (op_neD hu64) (pe_callGd (ok_law_heard T) gd (hr.mono (by decide)) rfl T.m_law_heard T.F_law_heard.kp (bd_law_heard T) .nil pass0 (pa_cons pe_int (pa_cons (pv 6) (pa_cons (pv 9) pa_nil)))) (pe_lst (pa_cons (pe_callB (call_reprA (K0 := K) rfl T gd ⟨(hr.mono (show 2 ≤ 5 by decide)).dp, (hr.mono (show 2 ≤ 5 by decide)).un⟩ (.inl hr.hd)) (by rfl) T.z_repr (by decide +kernel) (pa_cons (pv 9) pa_nil)) (pa_cons pe_bl (pa_cons pe_bl pa_nil)))) (nomark _)) (pw_or (pt_cmpR (op_eqOwn T.mt_Sizes_eq (raw0 (ok_Sizes_eq T) (bd_Sizes_eq T)) (hr.mono (by decide)) pass0) (pv 6) (pe_meth0 (pv 6) T.cl_Sizes T.mt_Sizes_by_name (ok_Sizes_by_name T) (hr.mono (by decide)) (bd_Sizes_by_name T) .nil pass0) (nomark _)) (pw_or1 (pt_cmpR (op_eqOwn T.mt_Sizes_eq (raw0 (ok_Sizes_eq T) (bd_Sizes_eq T)) (hr.mono (by decide)) pass0) (pv 6) pe_non (nomark _)))))) (pss_one (ps_ret pe_bl)) pss_nil)))))))))))))) (pss_one (ps_ret pe_bl)))))), ?_⟩
    -- words, others
    refine ⟨by show 5 ≤ sizeLine; decide, fun L1 n1 => ?_⟩
    refine ⟨by show 1 ≤ sizeLine; decide, fun t1 n2 => ⟨by show 1 ≤ sizeLine; decide, fun t2 n3 => ⟨by show 12 ≤ sizeLine; decide, fun L2 n4 => ?_⟩⟩⟩
    obtain ⟨F0, a0, k1, k2, kw, ko⟩ : ∃ F0, Gw H H F0 (upd (upd (upd (upd H L1 (.lst wItems)) t1 (.tup [.str "a"])) t2 (.lst [.str "a"])) L2 (.lst (oItems t1 t2))) ∧ F0 t1 = some (.tup [.str "a"]) ∧ F0 t2 = some (.lst [.str "a"]) ∧ F0 L1 = some (.lst wItems) ∧ F0 L2 = some (.lst (oItems t1 t2)) := by
      have b1 := Gw.add (o := .lst wItems) (same_refl H) n1
      have b2 := Gw.add (o := .tup [.str "a"]) b1.fh n2
      have b3 := Gw.add (o := .lst [.str "a"]) b2.fh n3
      have b4 := Gw.add (o := .lst (oItems t1 t2)) b3.fh n4
      exact ⟨_, b1.trans (b2.trans (b3.trans b4)), b4.ff _ _ (b3.ff _ _ upd_same), b4.ff _ _ upd_same, b4.ff _ _ (b3.ff _ _ (b2.ff _ _ upd_same)), upd_same⟩
    -- [is_word(one) for one in words + others]
    refine ⟨_, rfl, _, rfl, L1, L2, wItems, oItems t1 t2, rfl, rfl, a0.fh _ _ kw, a0.fh _ _ ko, by show 5 + 12 ≤ sizeLine; decide, fun L3 n5 => ?_⟩
    have a1 := a0.trans (Gw.add (o := .lst (wItems ++ oItems t1 t2)) a0.fh n5)
    have f1 : Same F0 (upd F0 L3 (.lst (wItems ++ oItems t1 t2))) := same_new (same_off a0.fh n5)
    refine ⟨L3, rfl, ⟨_, SqL.of upd_same⟩, fun D hD => lc_gw (walk_list (xs := wItems ++ oItems t1 t2)) (fun _ => true) (fun i y _ => y = V.bl (decide (i < 5))) (fun _ _ _ _ _ h => h) a1.fh hD (by show 17 < 100000; decide) (fun H' s' => SqL.of (s' _ _ upd_same)) ?c1s ?c1d⟩
    case c1s =>
      rintro i x F H2 H3 Qn Qs hi gw ⟨rfl, e⟩ kn ks
      have sF : Same F0 H3 := same_trans f1 (same_trans gw.ff gw.fh)
      exact ⟨rfl, yes_then ⟨_, rfl, r_nil (word_item (sF _ _ k1) (sF _ _ k2) e (kn rfl _ F _ (Gw.refl gw.fh) rfl))⟩⟩
    case c1d =>
      intro ys F H' gw fD hH' pr
      have ey := paired_eq pr
      rw [filter_true] at ey
      have eb : ys = ((List.range 17).map fun i => decide (i < 5)).map V.bl := by rw [ey, List.map_map]; rfl
      subst eb
      refine ⟨by show 1 ≤ sizeLine; decide, fun p1 m1 => ⟨p1, 5, [.bl true], rfl, rfl, upd_same, by decide, by decide, by show 1 * 5 ≤ sizeLine; decide, fun p2 m2 => ⟨by show 1 ≤ sizeLine; decide, fun p3 m3 => ⟨p3, 12, [.bl false], rfl, rfl, upd_same, by decide, by decide, by show 1 * 12 ≤ sizeLine; decide, fun p4 m4 => ?_⟩⟩⟩⟩
      have c1 := Gw.add (o := .lst [.bl true]) gw.fh m1
      have c2 := Gw.add (o := .lst (List.replicate (5 : Int).toNat [V.bl true]).flatten) c1.fh m2
      have c3 := Gw.add (o := .lst [.bl false]) c2.fh m3
      have c4 := Gw.add (o := .lst (List.replicate (12 : Int).toNat [V.bl false]).flatten) c3.fh m4
      refine ⟨p2, p4, _, _, rfl, rfl, c4.fh _ _ (c4.ff _ _ (c3.ff _ _ upd_same)), upd_same, by decide, fun p5 m5 => ?_⟩
      have c5 := Gw.add (o := .lst ((List.replicate (5 : Int).toNat [V.bl true]).flatten ++ (List.replicate (12 : Int).toNat [V.bl false]).flatten)) c4.fh m5
      have gA := gw.trans (c1.trans (c2.trans (c3.trans (c4.trans c5))))
      refine ⟨_, _, bD_dp (bs := (List.range 17).map fun i => decide (i < 5)) ((c1.trans (c2.trans (c3.trans (c4.trans c5)))).hh _ _ hH'), bD_dp (bs := (List.range 17).map fun i => decide (i < 5)) upd_same, bD_shaped _, bD_shaped _, ne_false (bD_lay _) ?_⟩
      -- for k in range(max(1, min(30, len(script))))
      have sA : Same (upd F0 L3 (.lst (wItems ++ oItems t1 t2))) (upd (upd (upd (upd (upd H' p1 (.lst [.bl true])) p2 (.lst (List.replicate (5 : Int).toNat [V.bl true]).flatten)) p3 (.lst [.bl false])) p4 (.lst (List.replicate (12 : Int).toNat [V.bl false]).flatten)) p5 (.lst ((List.replicate (5 : Int).toNat [V.bl true]).flatten ++ (List.replicate (12 : Int).toNat [V.bl false]).flatten))) := same_trans gA.ff gA.fh
      have hS1 : SqL K (upd F0 L3 (.lst (wItems ++ oItems t1 t2))) a (ns.map V.int) := (same_trans a0.ff f1).seq hS
      generalize upd F0 L3 (.lst (wItems ++ oItems t1 t2)) = Fw at *
      refine ⟨_, rfl, _, _, rfl, .inl ⟨_, sA.seq hS1, rfl⟩, _, _, rfl, _, _, rfl, _, rfl, ?b1, ?b2, for_range (fun i σ H' => ∃ o3 o4 o5 o6 o7 o8 o9 o10, σ = [some (.ref a), some (.ref L1), some (.ref L2), o3, o4, o5, o6, o7, o8, o9, o10] ∧ Same Fw H') ⟨_, _, _, _, _, _, _, _, rfl, sA⟩ ?turn ?done⟩
      case b1 => split <;> omega
      case b2 => rw [List.length_map]; split <;> (try split) <;> omega
      case done =>
        rintro σ H' ⟨o3, o4, o5, o6, o7, o8, o9, o10, rfl, _⟩
        exact q H'
      case turn =>
        rintro i σ H0 hi ⟨o3, o4, o5, o6, o7, o8, o9, o10, rfl, s0⟩
        have hi1 : (i : Int) ≤ 1000 := by
          have := hi
          rw [List.length_map] at this
          revert this
          split <;> (try split) <;> omega
        -- draws
        refine ⟨_, rfl, _, rfl, a, ns, _, rfl, s0.seq hS1, hl, by omega, by omega, fun pd H1 s1 nd dr => ?_⟩
        have g1 : Gw H0 H0 H0 H1 := ⟨same_refl _, s1, s1, fun _ e _ => e⟩
        obtain ⟨c0, z0, hd0, hz0, hz1⟩ := dr
        -- sizes = Sizes({'conn': 2, 'disk': draw(draws, 4)})
        refine fun pD nD => ⟨_, rfl, pd, 4, rfl, ⟨c0, z0, ?dr1, hz0, hz1⟩, by decide, by decide, fun r c1 z1 r0 r1 y0 y1 => ⟨?e1, [(Sum.inr "conn", .int 2), (Sum.inr "disk", .int r)], rfl, by show 2 ≤ 15; decide, ?_⟩⟩
        case dr1 => rw [upd_ne (ne_of_none hd0 nD)]; exact hd0
        case e1 => rw [upd_ne (ne_of_none hd0 nD).symm, upd_same]
        have nD0 : H0 pD = none := same_off s1 nD
        have nPd : pd ≠ pD := ne_of_none hd0 nD
        have gA := (((g1.trans (Gw.junk (o := .dK []) s1 nD)).mut (p := pd) (o := .lst [.int c1, .int z1]) nd nd).mut (p := pD) (o := .dK (mergeK [] [(Sum.inr "conn", .int 2), (Sum.inr "disk", .int r)])) nD0 nD0).freeze nD0 nD0 upd_same
        have hpdA : upd (upd (upd H1 pD (.dK [])) pd (.lst [.int c1, .int z1])) pD (.dK (mergeK [] [(Sum.inr "conn", .int 2), (Sum.inr "disk", .int r)])) pd = some (.lst [.int c1, .int z1]) := by rw [upd_ne nPd, upd_same]
        have fpdA : upd H0 pD (.dK (mergeK [] [(Sum.inr "conn", .int 2), (Sum.inr "disk", .int r)])) pd = none := by rw [upd_ne nPd]; exact nd
        refine r_nil (mk_sz (src := [("conn", 2), ("disk", r)]) gA.fh (.inl upd_same) ⟨show (["conn", "disk"] : List Str).Nodup by decide +kernel, by show 2 < 64; decide, fun p hp => ?sok⟩ fun x m FB HB gB hx made => ?_)
        case sok =>
          simp only [List.mem_cons, List.not_mem_nil, or_false] at hp
          rcases hp with rfl | rfl
          · exact ⟨by decide +kernel, by decide +kernel, by decide⟩
          · exact ⟨by show isWord "disk" = true; decide +kernel, by show Str.length "disk" ≤ sizeLine; decide +kernel, r0⟩
        have hm := mok r0 r1 made
        have hpdB := gB.hh _ _ hpdA
        have fpdB := gB.off fpdA hpdA
        have gB := gA.trans gB
        -- bad = [..]
        refine ⟨by show 0 ≤ sizeLine; decide, fun l0 m0 => ⟨by show 2 ≤ sizeLine; decide, fun t3 m1 => ⟨by show 1 ≤ sizeLine; decide, fun t4 m2 => fun d1 m3 => ⟨_, rfl, upd_same, [(Sum.inr "a", .int (-1))], rfl, by show 1 ≤ 15; decide, ?_⟩⟩⟩⟩
        rw [upd_upd]
        refine fun d2 m4 => ⟨upd_same, [(Sum.inr "a", .bl true)], rfl, by show 1 ≤ 15; decide, ?_⟩
        rw [upd_upd]
        refine fun d3 m5 => ⟨upd_same, [(Sum.inr "a", .str "1")], rfl, by show 1 ≤ 15; decide, ?_⟩
        rw [upd_upd]
        refine fun d4 m6 => ⟨upd_same, [(Sum.inr "A", .int 1)], rfl, by show 1 ≤ 15; decide, ?_⟩
        rw [upd_upd]
        refine fun d5 m7 => ⟨upd_same, [(Sum.inr "", .int 0)], rfl, by show 1 ≤ 15; decide, ?_⟩
        rw [upd_upd]
        refine ⟨by show 10 ≤ sizeLine; decide, fun Lb m8 => ?_⟩
        -- bad = bad + [..]
        refine ⟨_, rfl, fun d6 m9 => ⟨upd_same, [(Sum.inl 1, .int 1)], rfl, by show 1 ≤ 15; decide, ?_⟩⟩
        rw [upd_upd]
        refine fun d7 m10 => ⟨upd_same, [(Sum.inr "a", .non)], rfl, by show 1 ≤ 15; decide, ?_⟩
        rw [upd_upd]
        refine ⟨by show 2 ≤ sizeLine; decide, fun Lc m11 => ?_⟩
        obtain ⟨FC, gC, fl0, ft3, ft4, fd1, fd2, fd3, fd4, fd5, fLb, fd6, fd7, fLc⟩ : ∃ F', Gw FB HB F' (upd (upd (upd (upd (upd (upd (upd (upd (upd (upd (upd (upd HB l0 (.lst [])) t3 (.tup [.str "a", .int 1])) t4 (.tup [.ref t3])) d1 (.dK [(Sum.inr "a", .int (-1))])) d2 (.dK [(Sum.inr "a", .bl true)])) d3 (.dK [(Sum.inr "a", .str "1")])) d4 (.dK [(Sum.inr "A", .int 1)])) d5 (.dK [(Sum.inr "", .int 0)])) Lb (.lst [.non, .int 5, .ref l0, .ref t4, .str "a", .ref d1, .ref d2, .ref d3, .ref d4, .ref d5])) d6 (.dK [(Sum.inl 1, .int 1)])) d7 (.dK [(Sum.inr "a", .non)])) Lc (.lst [.ref d6, .ref d7])) ∧ F' l0 = some (.lst []) ∧ F' t3 = some (.tup [.str "a", .int 1]) ∧ F' t4 = some (.tup [.ref t3]) ∧ F' d1 = some (.dK [(Sum.inr "a", .int (-1))]) ∧ F' d2 = some (.dK [(Sum.inr "a", .bl true)]) ∧ F' d3 = some (.dK [(Sum.inr "a", .str "1")]) ∧ F' d4 = some (.dK [(Sum.inr "A", .int 1)]) ∧ F' d5 = some (.dK [(Sum.inr "", .int 0)]) ∧ F' Lb = some (.lst [.non, .int 5, .ref l0, .ref t4, .str "a", .ref d1, .ref d2, .ref d3, .ref d4, .ref d5]) ∧ F' d6 = some (.dK [(Sum.inl 1, .int 1)]) ∧ F' d7 = some (.dK [(Sum.inr "a", .non)]) ∧ F' Lc = some (.lst [.ref d6, .ref d7]) := by
          have b1 := Gw.add (o := .lst []) gB.fh m0
          have b2 := Gw.add (o := .tup [.str "a", .int 1]) b1.fh m1
          have b3 := Gw.add (o := .tup [.ref t3]) b2.fh m2
          have b4 := Gw.add (o := .dK [(Sum.inr "a", .int (-1))]) b3.fh m3
          have b5 := Gw.add (o := .dK [(Sum.inr "a", .bl true)]) b4.fh m4
          have b6 := Gw.add (o := .dK [(Sum.inr "a", .str "1")]) b5.fh m5
          have b7 := Gw.add (o := .dK [(Sum.inr "A", .int 1)]) b6.fh m6
          have b8 := Gw.add (o := .dK [(Sum.inr "", .int 0)]) b7.fh m7
          have b9 := Gw.add (o := .lst [.non, .int 5, .ref l0, .ref t4, .str "a", .ref d1, .ref d2, .ref d3, .ref d4, .ref d5]) b8.fh m8
          have b10 := Gw.add (o := .dK [(Sum.inl 1, .int 1)]) b9.fh m9
          have b11 := Gw.add (o := .dK [(Sum.inr "a", .non)]) b10.fh m10
          have b12 := Gw.add (o := .lst [.ref d6, .ref d7]) b11.fh m11
          exact ⟨_, b1.trans (b2.trans (b3.trans (b4.trans (b5.trans (b6.trans (b7.trans (b8.trans (b9.trans (b10.trans (b11.trans (b12))))))))))), (b12.ff _ _ (b11.ff _ _ (b10.ff _ _ (b9.ff _ _ (b8.ff _ _ (b7.ff _ _ (b6.ff _ _ (b5.ff _ _ (b4.ff _ _ (b3.ff _ _ (b2.ff _ _ upd_same))))))))))), (b12.ff _ _ (b11.ff _ _ (b10.ff _ _ (b9.ff _ _ (b8.ff _ _ (b7.ff _ _ (b6.ff _ _ (b5.ff _ _ (b4.ff _ _ (b3.ff _ _ upd_same)))))))))), (b12.ff _ _ (b11.ff _ _ (b10.ff _ _ (b9.ff _ _ (b8.ff _ _ (b7.ff _ _ (b6.ff _ _ (b5.ff _ _ (b4.ff _ _ upd_same))))))))), (b12.ff _ _ (b11.ff _ _ (b10.ff _ _ (b9.ff _ _ (b8.ff _ _ (b7.ff _ _ (b6.ff _ _ (b5.ff _ _ upd_same)))))))), (b12.ff _ _ (b11.ff _ _ (b10.ff _ _ (b9.ff _ _ (b8.ff _ _ (b7.ff _ _ (b6.ff _ _ upd_same))))))), (b12.ff _ _ (b11.ff _ _ (b10.ff _ _ (b9.ff _ _ (b8.ff _ _ (b7.ff _ _ upd_same)))))), (b12.ff _ _ (b11.ff _ _ (b10.ff _ _ (b9.ff _ _ (b8.ff _ _ upd_same))))), (b12.ff _ _ (b11.ff _ _ (b10.ff _ _ (b9.ff _ _ upd_same)))), (b12.ff _ _ (b11.ff _ _ (b10.ff _ _ upd_same))), (b12.ff _ _ (b11.ff _ _ upd_same)), (b12.ff _ _ upd_same), upd_same⟩
        refine ⟨Lb, Lc, _, _, rfl, rfl, gC.fh _ _ fLb, gC.fh _ _ fLc, by show 10 + 2 ≤ sizeLine; decide, fun Ld m12 => ?_⟩
        have gD := gC.trans (Gw.add (o := .lst (bItems l0 t4 d1 d2 d3 d4 d5 d6 d7)) gC.fh m12)
        have sC : Same FC (upd FC Ld (.lst (bItems l0 t4 d1 d2 d3 d4 d5 d6 d7))) := same_new (same_off gC.fh m12)
        have fLd : upd FC Ld (.lst (bItems l0 t4 d1 d2 d3 d4 d5 d6 d7)) Ld = some (.lst (bItems l0 t4 d1 d2 d3 d4 d5 d6 d7)) := upd_same
        have hpdD := gD.hh _ _ hpdB
        have fpdD := gD.off fpdB hpdB
        have xD := hx.same gD.ff
        have gT := gB.trans gD
        have mb := fun {r : Int} (r0 : 0 ≤ r) (r1 : r < 12) => menu_b (K := K) (H := upd FC Ld (.lst (bItems l0 t4 d1 d2 d3 d4 d5 d6 d7))) (sC _ _ fl0) (sC _ _ ft3) (sC _ _ ft4) (sC _ _ fd1) (sC _ _ fd2) (sC _ _ fd3) (sC _ _ fd4) (sC _ _ fd5) (sC _ _ fd6) (sC _ _ fd7) r0 r1
        have cD := gD.ff
        clear gC fl0 ft3 ft4 fd1 fd2 fd3 fd4 fd5 fd6 fd7 fLb fLc
        generalize upd FC Ld (.lst (bItems l0 t4 d1 d2 d3 d4 d5 d6 d7)) = FD at *
        -- thing = bad[draw(draws, 12)]
        refine ⟨_, rfl, _, rfl, pd, 12, rfl, ⟨c1, z1, hpdD, y0, y1⟩, by decide, by decide, fun r2 c2 z2 r20 r21 y20 y21 => ?_⟩
        obtain ⟨v, z, hat, nov, rpv⟩ := mb r20 r21
        have gT2 := gT.mut (p := pd) (o := .lst [.int c2, .int z2]) nd fpdD
        refine ⟨Ld, bItems l0 t4 d1 d2 d3 d4 d5 d6 d7, r2, v, rfl, rfl, SqL.of (gT2.fh _ _ fLd), hat, ?_⟩
        -- heard(0, sizes, thing) != [repr(thing), True, True]
        refine ⟨_, rfl, _, rfl, r_nil ⟨0, x, m, v, z, rfl, xD.same gT2.fh, .inl ⟨rfl, nov.same gT2.fh⟩, rpv.1.same gT2.fh, fun H5 p5 s5 n5' h5 => ?_⟩⟩
        have s5' := same_trans gT2.fh s5
        refine ⟨_, rfl, v, z, rfl, rpv.1.same s5', by show 3 ≤ sizeLine; decide, fun p6 n6 => ?_⟩
        refine ⟨_, _, hD_dp (same_new n6 _ _ h5), hD_dp upd_same, hD_shaped rpv.2, hD_shaped rpv.2, ne_false (hD_lay rpv.2) ?_⟩
        have gT3 := gT2.more (same_trans s5 (same_new (o := .lst [.str z, .bl true, .bl true]) n6))
        have hpd3 : upd H5 p6 (.lst [.str z, .bl true, .bl true]) pd = some (.lst [.int c2, .int z2]) := same_new n6 _ _ (s5 _ _ upd_same)
        have n5 := n5'
        generalize upd H5 p6 (.lst [.str z, .bl true, .bl true]) = H6 at *
        -- odd = [..][draw(draws, 6)]
        refine fun dE e1 => ⟨_, rfl, by show 1 ≤ sizeLine; decide, fun lE e2 => ⟨by show 2 ≤ sizeLine; decide, fun tE e3 => ⟨by show 6 ≤ sizeLine; decide, fun Le e4 => ?_⟩⟩⟩
        obtain ⟨FE, gE, fdE, flE, ftE, fLe⟩ : ∃ F', Gw FD H6 F' (upd (upd (upd (upd H6 dE (.dK [])) lE (.lst [.ref x])) tE (.tup [.str "conn", .int 1])) Le (.lst (pItems dE lE tE))) ∧ F' dE = some (.dK []) ∧ F' lE = some (.lst [.ref x]) ∧ F' tE = some (.tup [.str "conn", .int 1]) ∧ F' Le = some (.lst (pItems dE lE tE)) := by
          have b1 := Gw.add (o := .dK []) gT3.fh e1
          have b2 := Gw.add (o := .lst [.ref x]) b1.fh e2
          have b3 := Gw.add (o := .tup [.str "conn", .int 1]) b2.fh e3
          have b4 := Gw.add (o := .lst (pItems dE lE tE)) b3.fh e4
          exact ⟨_, b1.trans (b2.trans (b3.trans (b4))), (b4.ff _ _ (b3.ff _ _ (b2.ff _ _ upd_same))), (b4.ff _ _ (b3.ff _ _ upd_same)), (b4.ff _ _ upd_same), upd_same⟩
        have hpdE := gE.hh _ _ hpd3
        have fpdE := gE.off fpdD hpd3
        have xE := xD.same gE.ff
        have gT4 := gT3.trans gE
        refine ⟨_, rfl, pd, 6, rfl, ⟨c2, z2, hpdE, y20, y21⟩, by decide, by decide, fun r3 c3 z3 r30 r31 y30 y31 => ?_⟩
        obtain ⟨v2, w2, hat2, nov2, rpv2⟩ := menu_p (K := K) xE hm fdE flE ftE r30 r31
        have gT5 := gT4.mut (p := pd) (o := .lst [.int c3, .int z3]) nd fpdE
        refine ⟨Le, pItems dE lE tE, r3, v2, rfl, rfl, SqL.of (gT5.fh _ _ fLe), hat2, ?_⟩
        -- for one in [sizes, Sizes({})]
        refine ⟨_, rfl, fun dG e5 => r_nil (mk_sz (F := upd FE dG (.dK [])) (src := []) ?sG (.inl upd_same) ⟨by decide, by decide, fun p hp => (nomatch hp)⟩ fun x2 m2 FG HG gG hx2 made2 => ?_)⟩
        case sG => exact (Gw.add gT5.fh e5).fh
        have gX := Gw.add (o := .dK []) gT5.fh e5
        have hpdX : upd _ dG (.dK []) pd = some (.lst [.int c3, .int z3]) := gX.hh _ _ upd_same
        have fpdX := gX.off fpdE upd_same
        refine ⟨by show 2 ≤ sizeLine; decide, fun LG e6 => ?_⟩
        have gY := gG.trans (Gw.add (o := .lst [.ref x, .ref x2]) gG.fh e6)
        have hpdY := gY.hh _ _ hpdX
        have fpdY := gY.off fpdX hpdX
        have gT6 := gT5.trans (gX.trans gY)
        have fLG : upd FG LG (.lst [.ref x, .ref x2]) LG = some (.lst [.ref x, .ref x2]) := upd_same
        have sY := same_trans gX.ff gY.ff
        have xY := xE.same sY
        have x2Y : SzAt K (upd FG LG (.lst [.ref x, .ref x2])) x2 m2 := hx2.same (same_new (same_off gG.fh e6))
        generalize upd FG LG (.lst [.ref x, .ref x2]) = FH at *
        refine ⟨LG, rfl, ⟨_, SqL.of upd_same⟩, for_it (walk_list (xs := [.ref x, .ref x2])) (fun _ σ H' => ∃ o3 o7 o8 o10, σ = [some (.ref a), some (.ref L1), some (.ref L2), o3, some (.int (0 + (i : Int))), some (.ref pd), some (.ref x), o7, o8, some v2, o10] ∧ Gw H0 H0 FH H' ∧ H' pd = some (.lst [.int c3, .int z3])) ⟨_, _, _, _, rfl, gT6, hpdY⟩ (fun _ _ _ _ ⟨_, _, _, _, _, g', _⟩ => SqL.of (g'.fh _ _ fLG)) ?one ?rest⟩
        case one =>
          rintro jj xv σ H7 H7' hj ⟨o3, o7, o8, o10, rfl, g7, hpd7⟩ ⟨rfl, exv⟩
          obtain ⟨y, my, rfl, hy⟩ : ∃ y my, xv = .ref y ∧ SzAt K FH y my := by
            match jj, exv with
            | 0, e => cases e; exact ⟨x, m, rfl, xY⟩
            | 1, e => cases e; exact ⟨x2, m2, rfl, x2Y⟩
            | _ + 2, e => cases e
          refine ⟨1, 6, rfl, ⟨by decide, by decide, by decide, by decide⟩, fun D hD => lc_gw walk_range (fun _ => true) (Row w2) Row.same g7.fh hD (by decide) (fun _ _ => trivial) ?c2s ?c2d⟩
          case c2s =>
            rintro i9 x9 F H' H'' Qn Qs hi9 gw ⟨rfl, rfl⟩ kn ks
            have sF : Same FE H'' := same_trans sY (same_trans gw.ff gw.fh)
            refine ⟨rfl, yes_then ⟨_, rfl, _, rfl, _, rfl, r_nil ⟨_, y, my, v2, w2, rfl, hy.same (same_trans gw.ff gw.fh), .inr (.inl ⟨?ways, nov2.same sF⟩), rpv2.1.same sF, fun H9 p9 s9 n9 h9 => ?_⟩⟩⟩
            case ways =>
              have : i9 < 5 := hi9
              omega
            exact kn rfl _ (upd F p9 (.lst [.str w2, .bl true, .bl true])) H9 (row_gw gw.fh s9 n9 h9) ⟨p9, rfl, upd_same⟩
          case c2d =>
            intro ys F H' gw fD hH' pr
            rw [filter_true] at pr
            have sF : Same FE H' := same_trans sY (same_trans gw.ff gw.fh)
            refine ⟨_, rfl, v2, w2, rfl, rpv2.1.same sF, by show 3 ≤ sizeLine; decide, fun q1 u1 => ⟨by show 1 ≤ sizeLine; decide, fun q2 u2 => ⟨q2, 5, [.ref q1], rfl, rfl, upd_same, by decide, by decide, by show 1 * 5 ≤ sizeLine; decide, fun q3 u3 => ?_⟩⟩⟩
            obtain ⟨F9, g9, fq1, fq2, fq3⟩ : ∃ F', Gw F H' F' (upd (upd (upd H' q1 (.lst [.str w2, .bl true, .bl true])) q2 (.lst [.ref q1])) q3 (.lst (List.replicate (5 : Int).toNat [V.ref q1]).flatten)) ∧ F' q1 = some (.lst [.str w2, .bl true, .bl true]) ∧ F' q2 = some (.lst [.ref q1]) ∧ F' q3 = some (.lst (List.replicate (5 : Int).toNat [V.ref q1]).flatten) := by
              have b1 := Gw.add (o := .lst [.str w2, .bl true, .bl true]) gw.fh u1
              have b2 := Gw.add (o := .lst [.ref q1]) b1.fh u2
              have b3 := Gw.add (o := .lst (List.replicate (5 : Int).toNat [V.ref q1]).flatten) b2.fh u3
              exact ⟨_, b1.trans (b2.trans (b3)), (b3.ff _ _ (b2.ff _ _ upd_same)), (b3.ff _ _ upd_same), upd_same⟩
            refine ⟨hhD w2 5, hhD w2 5, .lst (SqL.of (g9.hh _ _ hH')) (dpAll_same (same_trans g9.ff g9.fh) _ _ (row_dp pr)), .lst (SqL.of (g9.fh _ _ fq3)) (rep_dp (g9.fh _ _ fq1) 5), hhD_shaped 5 rpv2.2, hhD_shaped 5 rpv2.2, ne_false (hhD_lay 5 rpv2.2) ?_⟩
            exact ⟨_, _, _, _, rfl, g7.more (same_trans gw.hh g9.hh), g9.hh _ _ (gw.hh _ _ hpd7)⟩
        case rest =>
          rintro σ H7 ⟨o3, o7, o8, o10, rfl, g7, hpd7⟩
          -- odd = [-1, None, True, '2', [1], sizes.by_name()][draw(draws, 6)]
          refine ⟨_, rfl, by show 1 ≤ sizeLine; decide, fun lI i1 => ?_⟩
          have sI : Same FH (upd H7 lI (.lst [.int 1])) := same_trans g7.fh (same_new i1)
          obtain ⟨dx, dk, od, hx1, _, _⟩ := id xY
          refine ⟨_, rfl, x, dx, _, rfl, sI _ _ hx1, rfl, r_nil ⟨x, m, rfl, xY.same sI, fun dI i2 => ⟨by show 6 ≤ sizeLine; decide, fun LI i3 => ?_⟩⟩⟩
          obtain ⟨FI, gI, flI, fdI, fLI⟩ : ∃ F', Gw FH H7 F' (upd (upd (upd H7 lI (.lst [.int 1])) dI (.dK (kvm m))) LI (.lst (qItems lI dI))) ∧ F' lI = some (.lst [.int 1]) ∧ F' dI = some (.dK (kvm m)) ∧ F' LI = some (.lst (qItems lI dI)) := by
            have b1 := Gw.add (o := .lst [.int 1]) g7.fh i1
            have b2 := Gw.add (o := .dK (kvm m)) b1.fh i2
            have b3 := Gw.add (o := .lst (qItems lI dI)) b2.fh i3
            exact ⟨_, b1.trans (b2.trans (b3)), (b3.ff _ _ (b2.ff _ _ upd_same)), (b3.ff _ _ upd_same), upd_same⟩
          have fpd7 := g7.new pd nd
          have fpdH : FH pd = none := fpdY
          have hpdI := gI.hh _ _ hpd7
          have fpdI := gI.off fpdH hpd7
          have gT8 := g7.trans gI
          refine ⟨_, rfl, pd, 6, rfl, ⟨c3, z3, hpdI, y30, y31⟩, by decide, by decide, fun r4 c4 z4 r40 r41 y40 y41 => ?_⟩
          obtain ⟨v3, w3, hat3, no3, no3', rp3⟩ := menu_q (K := K) hm flI fdI r40 r41
          have gT9 := gT8.mut (p := pd) (o := .lst [.int c4, .int z4]) nd fpdI
          refine ⟨LI, qItems lI dI, r4, v3, rfl, rfl, SqL.of (gT9.fh _ _ fLI), hat3, ?_⟩
          -- [heard(way, sizes, odd) for way in [6, 8]] != [[repr(odd), True, True]] * 2
          refine ⟨by show 2 ≤ sizeLine; decide, fun LJ i4 => ?_⟩
          have gJ := Gw.add (o := .lst [.int 6, .int 8]) gT9.fh i4
          have xI := xY.same gI.ff
          have hpdJ := gJ.hh _ _ (upd_same (a := pd) (o := .lst [.int c4, .int z4]))
          have fpdJ := gJ.off fpdI (upd_same (a := pd) (o := .lst [.int c4, .int z4]))
          have gT10 := gT9.trans gJ
          have fLJ : upd FI LJ (.lst [.int 6, .int 8]) LJ = some (.lst [.int 6, .int 8]) := upd_same
          have sIJ : Same FI (upd FI LJ (.lst [.int 6, .int 8])) := gJ.ff
          refine ⟨LJ, rfl, ⟨_, SqL.of upd_same⟩, fun D hD => lc_gw (walk_list (xs := [.int 6, .int 8])) (fun _ => true) (Row w3) Row.same gJ.fh hD (by show 2 < 100000; decide) (fun H' s' => SqL.of (s' _ _ upd_same)) ?c3s ?c3d⟩
          case c3s =>
            rintro i9 x9 F H' H'' Qn Qs hi9 gw ⟨rfl, e9⟩ kn ks
            have sF : Same FI H'' := same_trans sIJ (same_trans gw.ff gw.fh)
            obtain ⟨wy, rfl, hw⟩ : ∃ wy, x9 = .int wy ∧ (wy = 6 ∨ wy = 8) := by
              match i9, e9 with
              | 0, e => cases e; exact ⟨6, rfl, .inl rfl⟩
              | 1, e => cases e; exact ⟨8, rfl, .inr rfl⟩
              | _ + 2, e => cases e
            refine ⟨rfl, yes_then ⟨_, rfl, _, rfl, _, rfl, r_nil ⟨_, x, m, v3, w3, rfl, xI.same sF, ?ways, rp3.1.same sF, fun H9 p9 s9 n9 h9 => ?_⟩⟩⟩
            case ways =>
              rcases hw with rfl | rfl
              · exact .inr (.inr (.inl ⟨rfl, no3.same sF, no3'.same sF⟩))
              · exact .inr (.inr (.inr (.inr ⟨rfl, no3.same sF⟩)))
            exact kn rfl _ (upd F p9 (.lst [.str w3, .bl true, .bl true])) H9 (row_gw gw.fh s9 n9 h9) ⟨p9, rfl, upd_same⟩
          case c3d =>
            intro ys F H' gw fD hH' pr
            rw [filter_true] at pr
            have sF : Same FI H' := same_trans sIJ (same_trans gw.ff gw.fh)
            refine ⟨_, rfl, v3, w3, rfl, rp3.1.same sF, by show 3 ≤ sizeLine; decide, fun q1 u1 => ⟨by show 1 ≤ sizeLine; decide, fun q2 u2 => ⟨q2, 2, [.ref q1], rfl, rfl, upd_same, by decide, by decide, by show 1 * 2 ≤ sizeLine; decide, fun q3 u3 => ?_⟩⟩⟩
            obtain ⟨F9, g9, fq1, fq2, fq3⟩ : ∃ F', Gw F H' F' (upd (upd (upd H' q1 (.lst [.str w3, .bl true, .bl true])) q2 (.lst [.ref q1])) q3 (.lst (List.replicate (2 : Int).toNat [V.ref q1]).flatten)) ∧ F' q1 = some (.lst [.str w3, .bl true, .bl true]) ∧ F' q2 = some (.lst [.ref q1]) ∧ F' q3 = some (.lst (List.replicate (2 : Int).toNat [V.ref q1]).flatten) := by
              have b1 := Gw.add (o := .lst [.str w3, .bl true, .bl true]) gw.fh u1
              have b2 := Gw.add (o := .lst [.ref q1]) b1.fh u2
              have b3 := Gw.add (o := .lst (List.replicate (2 : Int).toNat [V.ref q1]).flatten) b2.fh u3
              exact ⟨_, b1.trans (b2.trans (b3)), (b3.ff _ _ (b2.ff _ _ upd_same)), (b3.ff _ _ upd_same), upd_same⟩
            refine ⟨hhD w3 2, hhD w3 2, .lst (SqL.of (g9.hh _ _ hH')) (dpAll_same (same_trans g9.ff g9.fh) _ _ (row_dp pr)), .lst (SqL.of (g9.fh _ _ fq3)) (rep_dp (g9.fh _ _ fq1) 2), hhD_shaped 2 rp3.2, hhD_shaped 2 rp3.2, ne_false (hhD_lay 2 rp3.2) ?_⟩
            -- odd = others[draw(draws, 12)]
            have gT11 := gT10.more (same_trans gw.hh g9.hh)
            have hpd11 := g9.hh _ _ (gw.hh _ _ hpdJ)
            refine ⟨_, rfl, _, rfl, pd, 12, rfl, ⟨c4, z4, hpd11, y40, y41⟩, by decide, by decide, fun r5 c5 z5 r50 r51 y50 y51 => ?_⟩
            have gT12 := gT11.mut (p := pd) (o := .lst [.int c5, .int z5]) nd fpdJ
            have sO := same_trans f1 (same_trans s0 gT12.hh)
            obtain ⟨v4, w4, hat4, no4, rp4⟩ := menu_o (K := K) (sO _ _ k1) (sO _ _ k2) r50 r51
            refine ⟨L2, oItems t1 t2, r5, v4, rfl, rfl, SqL.of (sO _ _ ko), hat4, ?_⟩
            -- heard(7, sizes, odd) != .. or sizes == sizes.by_name() or sizes == None
            have xJ := (xI.same sIJ).same gT12.fh
            refine ⟨_, rfl, _, rfl, r_nil ⟨7, x, m, v4, w4, rfl, xJ, .inr (.inr (.inr (.inl ⟨rfl, no4⟩))), rp4.1, fun H9 p9 s9 n9 h9 => ?_⟩⟩
            refine ⟨_, rfl, v4, w4, rfl, rp4.1.same s9, by show 3 ≤ sizeLine; decide, fun q4 u4 => ?_⟩
            refine ⟨Lp.hD w4, Lp.hD w4, hD_dp (same_new u4 _ _ h9), hD_dp upd_same, hD_shaped rp4.2, hD_shaped rp4.2, ne_false (hD_lay rp4.2) ?_⟩
            have s10 := same_trans s9 (same_new (o := .lst [.str w4, .bl true, .bl true]) u4)
            have xL := xJ.same s10
            obtain ⟨dx', dk', od', hxL, _, _⟩ := id xL
            refine ⟨_, rfl, _, rfl, x, dx', _, rfl, hxL, rfl, r_nil ⟨x, m, rfl, xL, fun q5 u5 => ?_⟩⟩
            refine ⟨x, dx', _, _, rfl, same_new u5 _ _ hxL, .base (.dK upd_same), notFirst_of (by decide), x, _, rfl, ⟨"dict", .base (.dK upd_same), by decide⟩, ?_⟩
            refine ⟨false, rfl, iteF ?_⟩
            refine ⟨_, rfl, x, dx', _, _, rfl, same_new u5 _ _ hxL, .base .non, notFirst_of (by decide), x, _, rfl, ⟨"NoneType", .base .non, by decide⟩, ?_⟩
            refine ⟨false, rfl, iteF ?_⟩
            exact ⟨_, _, _, _, _, _, _, _, rfl, same_trans s0 (same_trans gT12.hh (same_trans s10 (same_new u5)))⟩
end
end Lp

set_option Elab.async false
set_option linter.all false
set_option maxRecDepth 100000
namespace Lp
open PySem PySem.Spec PyProof.Rows L2
abbrev R : PySem.W.OpenRow := PySem.W.OpenLaw.row PySem.Challenge.rw_leastpools_k02_sizes_that_are_none
abbrev hk : PySem.W.Hook := hookL 4 exB fnL
def ob (s : PySem.W.SharedT) : He.AlD := obsLG 4 exB fnL (HandSHeadRun.getT s)
theorem ob_eq (s : PySem.W.SharedT) : ob s = hk.obs s.abs := obsLG_eq (HandSHeadRun.getT_eq s)
def names : List PySem.Str := (["_wall", "__name__", "PoolError", "InvalidSizes", "NotEnough", "LETTERS", "MOST_LETTERS", "is_word", "is_integer", "are_amounts", "Sizes", "check_sizes", "_law_draws", "_law_draw", "_law_heard"] : List PySem.Str)
set_option maxHeartbeats 0 in
theorem run (w : World) : HandSHeadRun.RunEq R (PySem.W.view R.prog [17]) hk ob 40000 names w := by
  intro os
  kernel_rfl
end Lp
open PySem PySem.W PySem.Calls PyProof.Rows
set_option maxHeartbeats 0 in
theorem PySem.Challenge.cw_leastpools_k02_sizes_that_are_none_holds : PySem.Challenge.rw_leastpools_k02_sizes_that_are_none.Holds := by
  w_on; o_law
  refine HandSHeadRun.head_any (r := OpenLaw.row PySem.Challenge.rw_leastpools_k02_sizes_that_are_none) (q := view (OpenLaw.row PySem.Challenge.rw_leastpools_k02_sizes_that_are_none).prog [17]) (H := Lp.hk) (ob := Lp.ob) (M := 40000) (loose := Lp.names) (d := HandSHeadRun.topDef (OpenLaw.row PySem.Challenge.rw_leastpools_k02_sizes_that_are_none).prog 17) (kwd := []) Lp.ob_eq
    (by kernel_rfl) (fun s => by kernel_rfl) Lp.run (by kernel_rfl) (by kernel_rfl) (by kernel_rfl) (by rfl) (by first | assumption | decide +kernel) (by decide +kernel) ⟨rfl, rfl, rfl, rfl, rfl, by decide +kernel⟩ ?hw ?hc
  case hw => w_witness2
  case hc =>
    refine Lp.walk_G (l := PySem.Challenge.rw_leastpools_k02_sizes_that_are_none) (n := 63) (k := 6) (x := "_law_script") (CX := L2.CX0) rfl (by decide) (by kernel_rfl) ⟨rfl, by decide, by decide⟩ ?F (fun _ _ _ _ z => z)
    intro w mg fa h Y G hmg0
    obtain ⟨K, KX, c⟩ := Y
    have T := Lp.tx_of KX G c
    have hmg : mg ("law" : PySem.Str) = some (.ref fa) := by
      have e : (HandSHeadRun.topDef (OpenLaw.row PySem.Challenge.rw_leastpools_k02_sizes_that_are_none).prog 17).name = ("law" : PySem.Str) := by kernel_rfl
      rw [← e]
      exact hmg0
    have e := hmg.symm.trans T.m_law
    cases e
    exact ⟨K, Lp.D_law K, Lp.spLaw K, KX, fun s v => L2.FunD.bindsA (ps := ["_law_script"]) T.F_law (fun _ _ _ _ _ _ us hl => match us, hl with | [_], _ => rfl) s [v] rfl, fun H a ns hl hS => ⟨a, ns, rfl, hS, hl, fun _ => rfl⟩, fun base _ _ => Lp.ok_law T⟩
#print axioms PySem.Challenge.cw_leastpools_k02_sizes_that_are_none_holds
