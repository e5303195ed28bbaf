import PyProof.Rows.All
import Wide.All
import OpenK.AllK
import Wide.FinOn
import KE.KExcIs
import HandS.ForMost
import HandS.ForExc
import HandS.ExcInit
import HandS.ExcField
import HandS.ExcIs
import HandS.Defaults
import HandS.HeadEnd
import PyProof.ReprRoads
import PyProof.RowDictHeap
import KE.KStateDown
import HandS.More
import HandS.WordsExc
import HandS.Head0
import HandS.Head1
import HandS.Head2
import HandS.HeadHook1
import HandS.HeadHook2
import HandS.Walk
import HandS.Deep
import HandS.Evl
import KE.KOpsOwn
import HandS.Star
import HandS.Property
import HandS.IsInst
import HandS.TryMany
import HandS.CallSlots
import HandS.DictComp
import HandS.FStr
import HandS.HotCalls
import PyProof.ReprDict
import HandS.DeepEq
import HandS.ListItems
import HandS.OwnEq
import KE.KDictList
import KE.KCallOwn
import HandS.Sort
import PySem.Challenge.RW_leastpools_k01_sizes_told
import HandS.StrMore
import HandS.Codes
import HandS.Small
import HandS.Flow
import HandS.Style
set_option Elab.async false
set_option linter.all false
set_option maxRecDepth 100000
set_option maxHeartbeats 4000000
/-! exceptions of the program's own classes, over any base among five, as values -/
namespace PySem.LpX
open PySem PySem.W PySem.Calls PyProof.Rows PySem.HandSPX
open Builtin Builtin.ObjectAttr
/-- what is known of a base's __init__ -/
structure InitF (B initId : String) : Prop where
  plain : plainId initId = true
  entry : entryFor table initId = some Builtin.«BaseException.__init__»
  split : splitId initId = some (B, "__init__")
  kind : builtinKind initId = some .slot
  row : Manifest.signature? initId = some ⟨.positional, "*", B, .self, [⟨"args", .varPos, false⟩]⟩
  noStar : (B != "*") = true
theorem InitF.of {B newId initId : String} {bm : List Value} (F : ExcBaseFacts B newId initId bm) : InitF B initId := ⟨F.init.plain, F.initEntry, F.initSplit, F.initKind, F.initRow, F.noStar⟩
theorem init_key : InitF "KeyError" "KeyError.__init__" := ⟨excClass_KeyError.init.plain, excClass_KeyError.initEntry, excClass_KeyError.initSplit, excClass_KeyError.initKind, excClass_KeyError.initSig, excClass_KeyError.notStar⟩
theorem init_value : InitF "ValueError" "ValueError.__init__" := .of F.excBase_ValueError
theorem init_lookup : InitF "LookupError" "LookupError.__init__" := .of F.excBase_LookupError
theorem init_arith : InitF "ArithmeticError" "ArithmeticError.__init__" := .of F.excBase_ArithmeticError
theorem init_run : InitF "RuntimeError" "RuntimeError.__init__" := .of F.excBase_RuntimeError
abbrev tlV : List Value := [.type "ValueError", .type "Exception", .type "BaseException", .type "object"]
abbrev tlK : List Value := [.type "KeyError", .type "LookupError", .type "Exception", .type "BaseException", .type "object"]
abbrev tlL : List Value := [.type "LookupError", .type "Exception", .type "BaseException", .type "object"]
abbrev tlA : List Value := [.type "ArithmeticError", .type "Exception", .type "BaseException", .type "object"]
abbrev tlR : List Value := [.type "RuntimeError", .type "Exception", .type "BaseException", .type "object"]
def isTail (l : List Value) : Bool := l == tlV || (l == tlK || (l == tlL || (l == tlA || l == tlR)))
theorem isTail_or {l : List Value} (h : isTail l = true) : l = tlV ∨ l = tlK ∨ l = tlL ∨ l = tlA ∨ l = tlR := by
  unfold isTail at h
  simp only [Bool.or_eq_true, beq_iff_eq] at h
  exact h
/-- own classes, then one of the five tails -/
def tailOk : List Value → Bool
  | .ref _ :: r => tailOk r
  | l => isTail l
theorem tailOk_cases : ∀ l : List Value, tailOk l = true → (∃ c r, l = .ref c :: r ∧ tailOk r = true) ∨ isTail l = true
  | [], e => .inr e
  | .ref c :: r, e => .inl ⟨c, r, rfl, e⟩
  | .none :: _, e => .inr e
  | .ellipsis :: _, e => .inr e
  | .notImplemented :: _, e => .inr e
  | .bool _ :: _, e => .inr e
  | .int _ _ :: _, e => .inr e
  | .float _ _ :: _, e => .inr e
  | .str _ _ :: _, e => .inr e
  | .bytes _ _ :: _, e => .inr e
  | .type _ :: _, e => .inr e
  | .builtin _ :: _, e => .inr e
theorem pass_V (self : Value) : refuseLoop self "__setattr__" tlV = pure () := F.store_ValueError.passes self
theorem pass_K (self : Value) : refuseLoop self "__setattr__" tlK = pure () := by kernel_rfl
theorem pass_L (self : Value) : refuseLoop self "__setattr__" tlL = pure () := by kernel_rfl
theorem pass_A (self : Value) : refuseLoop self "__setattr__" tlA = pure () := by kernel_rfl
theorem pass_R (self : Value) : refuseLoop self "__setattr__" tlR = pure () := by kernel_rfl
theorem tail_pass (self : Value) : ∀ l : List Value, tailOk l = true → refuseLoop self "__setattr__" l = pure () := by
  intro l
  induction l with
  | nil => intro e; exact absurd e (by decide)
  | cons a r ih =>
    intro e
    rcases tailOk_cases (a :: r) e with ⟨c, r', q, h⟩ | q
    · obtain ⟨rfl, rfl⟩ := List.cons.inj q
      rw [refuseLoop_ref]; exact ih h
    · rcases isTail_or q with q | q | q | q | q <;> rw [q]
      · exact pass_V self
      · exact pass_K self
      · exact pass_L self
      · exact pass_A self
      · exact pass_R self
theorem tail_object : ∀ l : List Value, tailOk l = true → l.contains (.type "object") = true := by
  intro l
  induction l with
  | nil => intro e; exact absurd e (by decide)
  | cons a r ih =>
    intro e
    rcases tailOk_cases (a :: r) e with ⟨c, r', q, h⟩ | q
    · obtain ⟨rfl, rfl⟩ := List.cons.inj q
      rw [List.contains_cons, ih h, Bool.or_true]
    · rcases isTail_or q with q | q | q | q | q <;> rw [q] <;> decide +kernel
theorem tail_ne {l : List Value} (e : tailOk l = true) : l.isEmpty = false := by
  cases l with
  | nil => exact absurd e (by decide)
  | cons _ _ => rfl
/-- what bm must hold for __new__ of Bn -/
structure Bm (Bn : String) (bm : List Value) : Prop where
  hB : bm.contains (.type Bn) = true
  hA : bm.contains (.type "AttributeError") = false
  hN : bm.contains (.type "NameError") = false
section
variable {M : Model} {A : Around} {E : Value → Shared → Prop} {h : Heap} {g : Array GenState} {d : Drawn} {t : Nat} {os : OsState}
variable {nm q : Str} {C N : Addr} {bs bm bmB : List Value} {hdct : Bool} {sn : List Str} {sub : List Value} {ab : Bool} {col : Option Bool} {dd : Option Addr} {k0 k1 k2 k3 k5 : Option Value} {B newId initId : String}
theorem check_new_own (F : ExcBaseFacts B newId initId bmB) (hT : Bm B bm) {rest : List Value} {Q : Unit → Shared → Prop}
    (hC : h.get? C = some (excClassObj nm q C N bs bm hdct sn sub ab col dd k0 k1 k2 k3 k5 newId)) (hq : Q () ⟨h, g, d, t, os⟩) : wpAny M A (checkBuiltinCall newId ⟨.ref C :: rest, []⟩) Q E ⟨h, g, d, t, os⟩ := by
  have hcont : (Value.ref C :: bm).contains (.type B) = true := by rw [List.contains_cons, hT.hB, Bool.or_true]
  have hstar := F.noStar
  simp only [checkBuiltinCall, F.newKind, F.newSplit, F.newRow]
  repeat (first | refine wpAny_loadPart_at hC ?_ | (refine wpAny_isSubtype_exc hC ?_; rw [hcont]) | refine wpAny_staticBase_exc hC ?_ | refine wpAny_madeBy_exc hC ?_ | simp only [bne_self_eq_false, Bool.false_eq_true, if_false] | wp_step)
  exact hq
theorem check_init_own (F : InitF B initId) (hB : bm.contains (.type B) = true) {e : Addr} {oe : Obj} {rest : List Value} {Q : Unit → Shared → Prop}
    (hC : h.get? C = some (excClassObj nm q C N bs bm hdct sn sub ab col dd k0 k1 k2 k3 k5 newId)) (he : h.get? e = some oe) (hcls : oe.cls = .ref C) (hq : Q () ⟨h, g, d, t, os⟩) :
    wpAny M A (checkBuiltinCall initId ⟨.ref e :: rest, []⟩) Q E ⟨h, g, d, t, os⟩ := by
  have hcB : (Value.ref C :: bm).contains (.type B) = true := by rw [List.contains_cons, hB, Bool.or_true]
  have hshort := F.noStar
  simp only [checkBuiltinCall, F.kind, F.split, F.row]
  repeat (first | (with_reducible refine wpAny_loadPart_at he ?_; rw [hcls]) | with_reducible refine wpAny_loadPart_at hC ?_ | (with_reducible refine wpAny_isSubtype_exc hC ?_; rw [hcB]) | wp_step)
  refine wpAny_onRaise ?_
  rw [show ∀ (a b : String) (n : Nat), Bind.check ⟨.positional, "*", B, .self, [⟨"args", .varPos, false⟩]⟩ a b n (List.map (fun x => x.fst) ({ pos := Value.ref e :: rest } : Args).kw) = pure () from
    fun a b n => check_star_args _ _ _ _ _ _]
  exact wpAny_pure hq
end
section
variable {prog : Program} {w : World} {A : Around} {E : Value → Shared → Prop} {R : Result → Shared → Prop} {h : Heap} {g : Array GenState} {d : Drawn} {t : Nat} {os : OsState}
variable {nm q : Str} {C N : Addr} {bs bm bmB : List Value} {hdct : Bool} {sn : List Str} {sub : List Value} {ab : Bool} {col : Option Bool} {dd : Option Addr} {k0 k1 k2 k3 k5 : Option Value} {B newId initId : String}
theorem new_own (F : ExcBaseFacts B newId initId bmB) (hT : Bm B bm) {rest : List Value}
    (hC : h.get? C = some (excClassObj nm q C N bs bm hdct sn sub ab col dd k0 k1 k2 k3 k5 newId))
    (hq : R (.ok (.ret (.ref (h.objs.size + 1)))) ⟨(h.push { cls := .type "tuple", data := .seq rest.toArray }).push
      { cls := .ref C, data := .fields #[.ref h.objs.size, .none, .none, .none, .bool false, .none] }, g, d, t, os⟩) (hrest : rest.length ≤ sizeLine) :
    codeAny (model prog w) A (.builtin newId ⟨.ref C :: rest, []⟩) R ⟨h, g, d, t, os⟩ := by
  have hends := F.ends
  have hcB : (Value.ref C :: bm).contains (.type B) = true := by rw [List.contains_cons, hT.hB, Bool.or_true]
  have hcA : (Value.ref C :: bm).contains (.type "AttributeError") = false := by rw [List.contains_cons, hT.hA]; rfl
  have hcN : (Value.ref C :: bm).contains (.type "NameError") = false := by rw [List.contains_cons, hT.hN]; rfl
  refine codeAny_builtinAt F.entry ?_
  unfold Builtin.«BaseException.__new__»
  refine wpAt_bind ?_
  show wpAt _ _ _ (stack >>= _) _ _ _
  refine wpAt_bind (wpAt_stack fun p below => wpAt_of_wpAny ?_)
  wp_walk
  refine wpAt_of_wpAny ?_
  rw [F.owner]
  repeat (first | with_reducible refine wpAny_madeHere_exc F.canon hC ?_ | with_reducible refine wpAny_loadPart_at hC ?_ | (with_reducible refine wpAny_isSubtype_exc hC ?_; first | rw [hcB] | rw [hcA] | rw [hcN]) | wp_step)
  show R _ _
  rw [Heap.size_push]
  exact hq
theorem type_call_own (F : ExcBaseFacts B newId initId bmB) (hT : Bm B bm) {rest : List Value} {fI : Addr} {Q : Fin → Shared → Prop}
    (hC : h.get? C = some (excClassObj nm q C N bs bm hdct sn sub ab col dd k0 k1 k2 k3 k5 newId))
    (hi : W.Looks (model prog w) h (typeLookup (.ref C) "__init__") (some (.ref fI))) (hb : ∀ self, W.Looks (model prog w) h (bindSpecial (.ref fI) self) (.ref fI, [self])) (hrest : rest.length ≤ sizeLine)
    (hq : codeAny (model prog w) A (.call (.ref fI) ⟨.ref (h.objs.size + 1) :: rest, []⟩)
      (fun r s' => match r with | .ok (.ret v) => v = .none ∧ Q (.done (.ret (.ref (h.objs.size + 1)))) s' | .ok _ => False | .error e => E e s')
      ⟨(h.push (W.kdv_tup rest)).push (excO C h.objs.size), g, d, t, os⟩) :
    wpAny (model prog w) A (Builtin.«type.__call__» ⟨.ref C :: rest, []⟩) Q E ⟨h, g, d, t, os⟩ := by
  repeat (first | with_reducible refine wpAny_loadPart_at hC ?_ | with_reducible refine wpAny_madeBy_exc hC ?_ | wp_step)
  refine codeAny_call_builtin_code (Code.quiet_builtin _ F.quiet) (check_new_own F hT hC ?_)
  refine new_own F hT hC ?_ hrest
  show wpAny _ _ _ _ _ _
  have k : ∀ b o, h.get? b = some o → ((h.push (W.kdv_tup rest)).push (excO C h.objs.size)).get? b = some o := fun b o e => Heap.get?_push_of_some _ (Heap.get?_push_of_some _ e)
  have hC₁ := k _ _ hC
  have hget : ((h.push (W.kdv_tup rest)).push (excO C h.objs.size)).get? (h.objs.size + 1) = some (excO C h.objs.size) := by heap_get
  have hcC : (Value.ref C :: bm).contains (.ref C) = true := by simp
  have i1 := hi.keeps k
  have b1 := (hb (.ref (h.objs.size + 1))).keeps k
  unfold isInstance
  repeat (first | with_reducible refine wpAny_loadPart_at hget ?_ | (with_reducible refine wpAny_isSubtype_exc hC₁ ?_; rw [hcC]) | wp_step)
  show wpAny _ _ (typeLookup (.ref C) _) _ _ _
  refine i1.at ?_
  refine wpAny_holding (wpAny_bind (b1.at ?_))
  refine wpAny_bind (wpAny_call (codeAny_mono hq fun r s' z => ?_))
  rcases r with e | (v | _ | _ | _) <;> first | exact z | exact z.elim | skip
  obtain ⟨rfl, z⟩ := z
  first
    | exact wpAny_pure (wpAny_pure z)
    | (wp_walk; exact z)
theorem call_own (F : ExcBaseFacts B newId initId bmB) (hT : Bm B bm) {rest : List Value} {fI : Addr}
    (hC : h.get? C = some (excClassObj nm q C N bs bm hdct sn sub ab col dd k0 k1 k2 k3 k5 newId))
    (hi : W.Looks (model prog w) h (typeLookup (.ref C) "__init__") (some (.ref fI))) (hb : ∀ self, W.Looks (model prog w) h (bindSpecial (.ref fI) self) (.ref fI, [self])) (hrest : rest.length ≤ sizeLine)
    (hq : codeAny (model prog w) (A.under (.builtin "type.__call__" ⟨.ref C :: rest, []⟩)) (.call (.ref fI) ⟨.ref (h.objs.size + 1) :: rest, []⟩) (W.InitBack (h.objs.size + 1) R)
      ⟨(h.push (W.kdv_tup rest)).push (excO C h.objs.size), g, d, t, os⟩) :
    codeAny (model prog w) A (.call (.ref C) ⟨rest, []⟩) R ⟨h, g, d, t, os⟩ := by
  have f1 := tc_lookup
  have f2 := tc_bind (.ref C)
  have hTy : (⟨h, g, d, t, os⟩ : Shared).TypeIs (.ref C) "type" := ⟨_, hC, rfl⟩
  refine codeAny_of_tree ?_
  show wpAny _ _ (callAny (.ref C) _) _ _ _
  repeat (any_goals (first | assumption | with_reducible refine wpAny_loadPart_at hC ?_ | wp_step))
  refine ⟨rfl, ?_⟩
  refine codeAny_call_builtin_at (Code.quiet_builtin _ (by decide +kernel)) entry_typeCall (wpAny_check_type_call_sub hC (type_call_own F hT hC hi hb hrest ?_))
  refine codeAny_mono hq fun r s' z => ?_
  rcases r with e | (v | _ | _ | _) <;> exact z
theorem init_base (F : InitF B initId) (hB : bm.contains (.type B) = true) {e t0 : Addr} {rest : List Value}
    (hC : h.get? C = some (excClassObj nm q C N bs bm hdct sn sub ab col dd k0 k1 k2 k3 k5 newId)) (he : h.get? e = some (excO C t0)) (hrest : rest.length ≤ sizeLine)
    (hq : ∀ h' t1, (∀ b o, b ≠ e → h.get? b = some o → h'.get? b = some o) → h'.get? e = some (excO C t1) → R (.ok (.ret .none)) ⟨h', g, d, t, os⟩) :
    codeAny (model prog w) A (.call (.builtin initId) ⟨.ref e :: rest, []⟩) R ⟨h, g, d, t, os⟩ := by
  refine codeAny_call_builtin F.plain F.entry (check_init_own F hB hC he rfl ?_)
  wp_walk
  refine hq _ h.objs.size (fun b o hb ho => ?_) ?_
  · rw [Heap.get?_update_other _ _ (Ne.symm hb)]
    exact Heap.get?_push_of_some _ ho
  · rw [Heap.get?_update_self _ (Heap.get?_push_of_some _ he) rfl]
    rfl
end
section
variable {prog : Program} {w : World} {A : Around} {E : Value → Shared → Prop} {R : Result → Shared → Prop} {hp : Heap} {g : Array GenState} {d : Drawn} {t : Nat} {os : OsState}
theorem exc_osa {K : W.Frag} {name : Str} {tk : Tok} {v : Value} {x C : Addr} {fv : Array Value} {cd : ClassData}
    (X : K.In hp) (hx : hp.get? x = some { cls := .ref C, data := .fields fv }) (hcd : W.clsIn K C = some cd) (hm : tailOk cd.mro = true) (hh : cd.hasDict = true) (ha : W.findIn K (.ref C) name = some none)
    (hq : ∀ h' tk' dx, (∀ b o, b ≠ x → hp.get? b = some o → h'.get? b = some o) → hp.objs.size ≤ dx → dx ≠ x → h'.get? x = some { cls := .ref C, dict := some dx, data := .fields fv } →
      h'.Ns1 dx (fun y => if y = name then some v else none) → R (.ok (.ret .none)) ⟨h', g, d, tk', os⟩) :
    codeAny (model prog w) A (.call (.builtin "object.__setattr__") ⟨[.ref x, .str name tk, v], []⟩) R ⟨hp, g, d, t, os⟩ := by
  have I : W.InstAt hp x { cls := .ref C, data := .fields fv } C none := ⟨hx, rfl, rfl, trivial⟩
  have SF := F.store_object
  have ne := tail_ne hm
  have hob : cd.mro.contains (.type "object") = true := tail_object _ hm
  have hxs : x ≠ hp.objs.size := Nat.ne_of_lt (Heap.lt_size hx)
  have sub : W.Looks (model prog w) hp (isInstance (.ref x) (.type "object")) true := I.type.andThen (W.looks_mroIn X (by unfold W.mroIn; rw [hcd, Option.bind_some, if_neg (by rw [ne]; decide), hob]))
  refine codeAny_call_builtin SF.slot.plain SF.entry (@W.check_slot (model prog w) _ _ ⟨hp, g, d, t, os⟩ "object.__setattr__" "object" "__setattr__" (.ref x) [.str name tk, v] [] _ SF.kind SF.split sub (SF.args (.ref x) (.str name tk) v) ?_)
  have hmr : W.Looks (model prog w) hp (mroOf (.ref C)) cd.mro := (W.looks_clsIn X hcd).andThen .now
  have L3 : W.Looks (model prog w) hp (storeTaker? none) none := .now
  have hcls : W.Looks (model prog w) hp (classData C) cd := W.looks_clsIn X hcd
  rw [W.osa_eq, refuse_eq]
  refine wpAny_bind (wpAny_bind (I.type.at (wpAny_bind (hmr.at ?_))))
  rw [tail_pass _ _ hm]
  refine wpAny_pure (wpAny_bind (I.type.at (wpAny_bind ((W.looks_findIn X ha).at (wpAny_bind (L3.at ?_))))))
  show wpAny _ _ (storeInOwnDict (.ref x) (.ref C) (.str name tk) name v false) _ _ _
  obtain ⟨nm, bs, mro, ns, qn, hd, sn, sb, ab, col, del⟩ := cd
  dsimp only at hh
  subst hh
  unfold storeInOwnDict ownDictForStores
  repeat (first | with_reducible refine store_in_new ?_ ?_ | with_reducible refine wpAny_loadPart_at hx ?_ | with_reducible refine hcls.at ?_ | wp_step)
  · exact ⟨_, #[], _, (Heap.get?_update_ne _ _ _ _ hxs.symm).trans (Heap.get?_push_at rfl rfl), rfl, fun e he => absurd he (by simp), fun _ => rfl⟩
  · intro h' tk' hn' hs
    have hx₁ : (hp.push { cls := .type "dict", data := .dict #[] }).get? x = some { cls := .ref C, data := .fields fv } := Heap.get?_push_of_some _ hx
    refine hq h' tk' hp.objs.size (fun b o hb ho => ?_) (Nat.le_refl _) hxs.symm ?_ hn'
    · exact (hs.2 b (Nat.ne_of_lt (Heap.lt_size ho))).trans ((Heap.get?_update_ne _ _ _ _ hb).trans (Heap.get?_push_of_some _ ho))
    · exact (hs.2 x hxs).trans (Heap.get?_update_self _ hx₁ rfl)
end
end PySem.LpX

set_option Elab.async false
set_option linter.all false
set_option maxRecDepth 100000
set_option maxHeartbeats 4000000
namespace Lp
open PySem PySem.Spec PyProof.Rows L2
/-! ### an own exception class, as the written part has it -/
structure XC (K : PySem.W.Frag) (C : Addr) (Bn newId B initId : String) : Prop where
  cls : ∃ nm q N bs bm sn sub ab col dd k0 k1 k2 k3 k5, K.lookup C = some (excClassObj nm q C N bs bm true sn sub ab col dd k0 k1 k2 k3 k5 newId) ∧ LpX.tailOk bm = true ∧ LpX.Bm Bn bm ∧ bm.contains (.type B) = true
  sa : PySem.W.findIn K (.ref C) "__setattr__" = some (some (.builtin "object.__setattr__"))
  kC : PySem.W.keepIn K (.ref C) = true
  ga : PySem.W.findIn K (.ref C) "__getattribute__" = some (some (.builtin "BaseException.__getattribute__"))
  gg : PySem.W.findIn K (.ref C) "__getattr__" = some none
  exC : PySem.W.subIn K (.ref C) (.type "BaseException") = some true
  tyC : PySem.W.typeIn K (.ref C) = some (.type "type")
  ha : PySem.W.findIn K (.ref C) "__class__" = some (some (.builtin "object.__class__"))
  hn : PySem.W.specialIn K (.builtin "object.__class__") "__get__" = some (some (.builtin "getset_descriptor.__get__"))
  ht : PySem.W.takesIn K (.builtin "object.__class__") = some true
  hm : PySem.W.mroIn K C (.type "object") = some true
theorem XC.cl {K : PySem.W.Frag} {C : Addr} {Bn newId B initId : String} (T : XC K C Bn newId B initId) : ∃ cd, PySem.W.clsIn K C = some cd ∧ LpX.tailOk cd.mro = true ∧ cd.hasDict = true := by
  obtain ⟨nm, q, N, bs, bm, sn, sub, ab, col, dd, k0, k1, k2, k3, k5, hC, hbm, _⟩ := T.cls
  exact ⟨{ name := nm, bases := bs, mro := .ref C :: bm, ns := N, qualname := q, hasDict := true, slotNames := sn, subclasses := sub, abstract := ab, collection := col, hasDel := false }, by unfold PySem.W.clsIn; rw [hC] <;> rfl, hbm, rfl⟩
section
variable {X : Cx} {pins : List (Addr × Obj)} {σ : L2.St} {H : Hp} {s : Shared} {a C dx : Addr} {f : Str} {y : V} {u : Value} {fs : List (Str × V)} {Q : Unit → Shared → Prop} {E : Value → Shared → Prop} {A : Around} {Bn newId B initId : String}
theorem xst_new (T : XC X.K C Bn newId B initId) (I : Inv X pins σ H s) (e : H a = some (exo a C none)) (hno : PySem.W.findIn X.K (.ref C) f = some none) (ry : RelV y u)
    (h : ∀ dx s', H dx = none → dx ≠ a → Inv X pins σ (upd (upd H dx (exd dx [(f, y)])) a (exo a C (some dx))) s' → Q () s') : wpAny (model X.prog X.w) A (setAttr (.ref a) f u) Q E s := by
  obtain ⟨cd, hcl, htl, hdt⟩ := T.cl
  obtain ⟨t1, ho⟩ := exo_at I.hok e
  obtain ⟨hp, g, d, t, os⟩ := s
  refine PySem.W.set_plain I.kIn (ox := { cls := .ref C, dict := none, data := .fields #[.ref t1, .none, .none, .none, .bool false, .none] }) (od := none) ⟨ho, rfl, rfl, trivial⟩ T.sa ?_
  refine LpX.exc_osa I.kIn ho hcl htl hdt hno (fun h' tk' dx k dn dne hx hn => ?_)
  have fr : H dx = none := I.hok.fresh dn
  have off : ∀ {b : Addr} {o : Obj}, hp.get? b = some o → b ≠ dx := fun {b o} q => Nat.ne_of_lt (Nat.lt_of_lt_of_le (Heap.lt_size q) dn)
  have na : ∀ {b : Addr}, H b = none → b ≠ a := fun {b} n z => by rw [z, e] at n; cases n
  refine h dx _ fr dne (I.un (t' := tk') (h' := h') ?_ fun b o q => ?_)
  · refine ⟨fun b o q n _ _ => k b o (na n) q, fun b o q n _ _ => ⟨o.slots, k b o (na n) q⟩, fun b o q n _ => ?_, fun b o q _ => ?_, fun b xs q => ?_, fun b o v q => ?_, fun b ps q => ⟨#[], ?_⟩⟩
    · rw [upd_ne (na n), upd_ne (off q)]; exact n
    · by_cases hb : b = a
      · exact ⟨_, by rw [hb]; exact hx⟩
      · exact ⟨o, k b o hb q⟩
    · rw [upd_ne (at_ne e q exo_tup), upd_ne (ne_of_none q fr)]; exact q
    · rw [upd_ne (at_ne e q exo_frz), upd_ne (ne_of_none q fr)]; exact q
    · rw [upd_ne (at_ne e q exo_tbl), upd_ne (ne_of_none q fr), q]; simp
  · by_cases hb : b = a
    · subst hb
      rw [upd_same] at q
      cases q
      exact exo_ok hx
    · rw [upd_ne hb] at q
      by_cases hd : b = dx
      · subst hd
        rw [upd_same] at q
        cases q
        exact exd_ok hn (relO_put (fs := []) ry fun g => True.intro)
      · rw [upd_ne hd] at q
        refine (I.hok b o q).stay (fun c v hc z => k c v (fun zc => ?_) z) (fun c z => ?_) (fun c xs z => ?_)
        · rcases hc with hc | hc
          · exact hb (hc.symm.trans zc)
          · rw [zc, e] at hc; exact absurd (Option.some.inj hc) exo_own
        · rw [upd_ne (at_ne e z exo_own), upd_ne (ne_of_none z fr)]; exact z
        · rw [upd_ne (at_ne e z exo_tup), upd_ne (ne_of_none z fr)]; exact z
theorem xinit_ok {us : List Value} {Q : Value → Shared → Prop} (F : LpX.InitF B initId) (T : XC X.K C Bn newId B initId) (I : Inv X pins σ H s) (e : H a = some (exo a C none)) (hl : us.length ≤ sizeLine) (h : ∀ s', Inv X pins σ H s' → Q .none s') :
    wpAny (model X.prog X.w) A (call (.builtin initId) (.ref a :: us)) Q E s := by
  obtain ⟨nm, q, N, bs, bm, sn, sub, ab, col, dd, k0, k1, k2, k3, k5, hC, _, _, hB⟩ := T.cls
  obtain ⟨t1, ho⟩ := exo_at I.hok e
  obtain ⟨hp, g, d, t, os⟩ := s
  refine wpAny_call (LpX.init_base F hB (I.kIn _ _ hC) ho hl fun h' t2 k hx => ?_)
  have J := I.write (t' := t) (x := a) (e := a) (o := exo a C none) (by rw [e]; exact True.intro) (.inl rfl) k ⟨_, hx⟩ (exo_ok hx)
  have eu : upd H a (exo a C none) = H := by
    funext b
    by_cases hb : b = a
    · rw [hb, upd_same, e]
    · rw [upd_ne hb]
  rw [eu] at J
  exact h _ J
end
/-! ### readings and rules -/
def tXI (K : PySem.W.Frag) (Bn newId B initId : String) (ta : TA) : TE := fun σ H Q => ta σ H fun vs H1 => ∃ (a C : Addr) (ws : List V), vs = .ref a :: ws ∧ ws.length ≤ 1000 ∧ XC K C Bn newId B initId ∧ H1 a = some (exo a C none) ∧ Q .non H1
def tXst (K : PySem.W.Frag) (Bn newId B initId : String) (f : Str) (to te : TE) : TS := fun D σ H => te σ H fun y H1 => to σ H1 fun x H2 => ∃ a C : Addr, x = .ref a ∧ XC K C Bn newId B initId ∧ PySem.W.findIn K (.ref C) f = some none ∧
  H2 a = some (exo a C none) ∧ ∀ dx, H2 dx = none → dx ≠ a → D.nx σ (upd (upd H2 dx (exd dx [(f, y)])) a (exo a C (some dx)))
section
variable {X : Cx} {o e : Expr} {es : List Expr} {to te : TE} {ta : TA} {f x : Str} {p p' p1 p2 pos : Pos} {Bn newId B initId : String}
/-- P.__init__(self, ..), P a class of the program's own -/
theorem pe_xinit {P : Addr} {pl : Sem Bool} (F : LpX.InitF B initId) (hg : Gl X x) (hm : X.mg x = some (.ref P)) (hs : PySem.W.specialIn X.K (.ref P) "__getattribute__" = some (some (.builtin "type.__getattribute__"))) (ht : PySem.W.typeIn X.K (.ref P) = some (.type "type"))
    (hr : PySem.W.readsIn X.K P (.type "type") = true) (hv : PySem.W.findCls X.K (.ref P) (.type "type") "__init__" = some (.val (.builtin initId))) (hh : PySem.W.handedIn (.builtin initId) = true) (ha : PA X (e :: es) ta) (hdb : (x == ("__debug__" : Str)) = false := by decide)
    (hc : eval (.Call (.Attribute (.Name x p1) "__init__" p2) (e :: es) [] pos) X.env = (do
      let ov ← eval (.Name x p1) X.env
      standAt p2.atName
      let (f, first) ← holding [ov] (getMethod ov "__init__" pl)
      callWith pos f first (backTo pos (starEach (e :: es) X.env)) (backToKw pos (keywordEach [] X.env))) := by rfl)
    (he : starEach (e :: es) X.env = (false, eval e X.env) :: starEach es X.env := by rfl) (hpl : (backTo pos (starEach es X.env)).any (·.1) = false := by rfl) :
    PE X (.Call (.Attribute (.Name x p1) "__init__" p2) (e :: es) [] pos) (tXI X.K Bn newId B initId ta) := by
  refine ⟨fun pins s σ H Q I h => ?_⟩
  refine PySem.W.methodCall_KW (ld_glob I hg hm ?_ hdb) hc
  obtain ⟨m, fr⟩ := I.fr
  refine PySem.W.method_of_cls fr I.ok.mod.kin hs (PySem.W.cls_val fr I.ok.mod.kin ht hr hv hh ?_)
  refine PyProof.Rows.callWith_method1 (thn (ha.run pos pins _ σ H _ (I.tok _) h) fun us s1 ⟨vs, H1, I1, r1, a, C, ws, ev, hl, T, ea, q⟩ => ?_) he hpl
  subst ev
  cases r1 with
  | @cons _ u0 _ ur ra rw' =>
    obtain rfl : u0 = Value.ref a := ra
    have hlen : ur.length ≤ sizeLine := by rw [← Paired.length rw', sizeLine_eq]; omega
    exact xinit_ok F T I1 ea hlen fun s' J => ⟨.non, H1, J, rfl, q⟩
/-- B.__init__(self, ..), B a built-in class -/
theorem pe_binit {pl : Sem Bool} (F : LpX.InitF B initId) (hg : Gl X x) (hm : X.mg x = none) (hb : bootBuiltins x = some (.type B)) (hty : typeOf (.type B) = pure (.type "type")) (hst : Manifest.isStub B = false)
    (hv : PySem.W.findCls X.K (.type B) (.type "type") "__init__" = some (.val (.builtin initId))) (hh : PySem.W.handedIn (.builtin initId) = true) (ha : PA X (e :: es) ta) (hdb : (x == ("__debug__" : Str)) = false := by decide) (hnm : x ≠ "__name__" := by decide)
    (hc : eval (.Call (.Attribute (.Name x p1) "__init__" p2) (e :: es) [] pos) X.env = (do
      let ov ← eval (.Name x p1) X.env
      standAt p2.atName
      let (f, first) ← holding [ov] (getMethod ov "__init__" pl)
      callWith pos f first (backTo pos (starEach (e :: es) X.env)) (backToKw pos (keywordEach [] X.env))) := by rfl)
    (he : starEach (e :: es) X.env = (false, eval e X.env) :: starEach es X.env := by rfl) (hpl : (backTo pos (starEach es X.env)).any (·.1) = false := by rfl) :
    PE X (.Call (.Attribute (.Name x p1) "__init__" p2) (e :: es) [] pos) (tXI X.K Bn newId B initId ta) := by
  refine ⟨fun pins s σ H Q I h => ?_⟩
  refine PySem.W.methodCall_KW (ld_blt I hg hm hb ?_ hnm hdb) hc
  obtain ⟨m, fr⟩ := I.fr
  refine PySem.W.method_type fr I.ok.mod.kin hty hst hv hh ?_
  refine PyProof.Rows.callWith_method1 (thn (ha.run pos pins _ σ H _ (I.tok _) h) fun us s1 ⟨vs, H1, I1, r1, a, C, ws, ev, hl, T, ea, q⟩ => ?_) he hpl
  subst ev
  cases r1 with
  | @cons _ u0 _ ur ra rw' =>
    obtain rfl : u0 = Value.ref a := ra
    have hlen : ur.length ≤ sizeLine := by rw [← Paired.length rw', sizeLine_eq]; omega
    exact xinit_ok F T I1 ea hlen fun s' J => ⟨.non, H1, J, rfl, q⟩
theorem ps_xst (ho : PE X o to) (he : PE X e te) (hs : swapsWith e (some (.Attribute o f p')) pos.line X.env = pure false := by rfl) : PS X (.Assign [.Attribute o f p'] e pos) (tXst X.K Bn newId B initId f to te) := by
  refine ⟨fun pins s σ H D I h => ?_⟩
  refine plainObj_wpAny_Assign_Attribute (thn (he.run pins s σ H _ I h) fun v s1 ⟨y, H1, I1, r1, q1⟩ => thn (ho.run pins s1 σ H1 _ I1 q1) fun u s2 ⟨x, H2, I2, r2, a, C, ex, T, hno, ea, q⟩ => ?_) hs
  subst ex
  obtain rfl : u = Value.ref a := r2
  exact xst_new T I2 ea hno r1 fun dx s' n ne J => ⟨σ, _, J, q dx n ne⟩
/-- C(e, ..) as a value, C's own __init__ keeping sp -/
def tXMk (C : Addr) (sp : Sp) (ta : TA) : TE := fun σ H Q => ta σ H fun vs H1 => vs.length ≤ 1000 ∧ ∀ a, H1 a = none → sp (.ref a :: vs) (upd H1 a (exo a C none)) (fun v H2 => v = .non ∧ Q (.ref a) H2) (fun _ _ _ => False)
theorem pe_xmk {CX : CXT} {C fI : Addr} {k : Nat} {fd : FuncData} {ps : List Str} {sp : Sp} {i' : String} {bm' : List Value} (F : ExcBaseFacts Bn newId i' bm') (T : XC X.K C Bn newId B initId) (iC : PySem.W.findIn X.K (.ref C) "__init__" = some (some (.ref fI))) (tI : PySem.W.typeIn X.K (.ref fI) = some (.type "function"))
    (F1 : FnOk X.prog X.w X.K X.mg X.base CX k fI fd ps sp) (hr : Room (k + 1) X.A) (hb : Binds X.K fd ps []) (hx : Passes CX X (fun _ _ _ => False)) (hg : Gl X x) (hm : X.mg x = some (.ref C)) (ha : PA X (e :: es) ta)
    (hdb : (x == ("__debug__" : Str)) = false := by decide) (he : starEach (e :: es) X.env = (false, eval e X.env) :: starEach es X.env := by rfl) (hpl : (backTo pos (starEach es X.env)).any (·.1) = false := by rfl) :
    PE X (.Call (.Name x p) (e :: es) [] pos) (tXMk C sp ta) := by
  refine ⟨fun pins s σ H Q I h => ?_⟩
  obtain ⟨nm, q, N, bs, bm, sn, sub, ab, col, dd, k0, k1, k2, k3, k5, hC, _, hBm, _⟩ := T.cls
  refine wpAny_Call_Name_kw (ld_glob I hg hm ?_ hdb)
  refine PySem.W.callWith_K (h₀ := X.base) I.ok.mod.kin T.kC (thn (ha.run pos pins s σ H _ I h) fun us s1 ⟨vs, H1, I1, r1, hz, q1⟩ => ⟨I1.kIn, ?_⟩) he hpl
  obtain ⟨hp, g, dr, tk, os⟩ := s1
  have up : hp.objs.size ≤ hp.objs.size + 1 := Nat.le_succ _
  have hq := q1 (hp.objs.size + 1) (I1.hok.fresh up)
  have kk : ∀ b o, hp.get? b = some o → ((hp.push (PySem.W.kdv_tup us)).push (PySem.HandSPX.excO C hp.objs.size)).get? b = some o := fun b o e => Heap.get?_push_of_some _ (Heap.get?_push_of_some _ e)
  have hget : ((hp.push (PySem.W.kdv_tup us)).push (PySem.HandSPX.excO C hp.objs.size)).get? (hp.objs.size + 1) = some (PySem.HandSPX.excO C hp.objs.size) := by heap_get
  have I2 := I1.laid (t' := tk) (a := hp.objs.size + 1) (o := exo (hp.objs.size + 1) C none) (h' := (hp.push (PySem.W.kdv_tup us)).push (PySem.HandSPX.excO C hp.objs.size)) kk up (exo_ok hget)
  have r2 : Vals (V.ref (hp.objs.size + 1) :: vs) (Value.ref (hp.objs.size + 1) :: us) := .cons rfl r1
  have hl : (Value.ref (hp.objs.size + 1) :: us).length = ps.length := (r2.length.symm.trans (F1.len _ _ _ _ hq))
  have hus : us.length ≤ sizeLine := by rw [← Paired.length r1, sizeLine_eq]; omega
  have hb1 := hb _ (Value.ref (hp.objs.size + 1) :: us) I2.kIn (by simpa using hl)
  rw [List.append_nil] at hb1
  refine wpAny_call (LpX.call_own F hBm (I1.kIn _ _ hC) (PySem.W.looks_findIn I1.kIn iC) (fun self => PySem.W.bind_fn I1.kIn self tI) hus
    (codeAny_mono (F1.run _ X.stack _ _ ⟨Value.ref (hp.objs.size + 1) :: us, []⟩ (Value.ref (hp.objs.size + 1) :: us) _ _ (fun _ _ _ => False) (hr.make C us []) (I2.env0.make C us []) hb1 r2 hq) fun r s' hq' => ?_))
  cases r with
  | error er => exact hx pins σ _ _ er s' I2 hq'
  | ok fl =>
    cases fl with
    | ret u =>
      obtain ⟨v, H', I3, rv, ev, q3⟩ := I2.after hq'
      subst ev
      exact ⟨rv, ⟨V.ref (hp.objs.size + 1), H', I3, rfl, q3⟩⟩
    | next => exact False.elim hq'
    | brk => exact False.elim hq'
    | cont => exact False.elim hq'
/-- e.f, e an exception with its dict -/
def XCe (K : PySem.W.Frag) (C : Addr) : Prop := ∃ Bn newId B initId, XC K C Bn newId B initId
def tXfld (K : PySem.W.Frag) (te : TE) (f : Str) : TE := fun σ H Q => te σ H fun x H1 => ∃ (a C dx : Addr) (fs : List (Str × V)) (v : V), x = .ref a ∧ XCe K C ∧ PySem.W.findIn K (.ref C) f = some none ∧ H1 a = some (exo a C (some dx)) ∧ H1 dx = some (exd dx fs) ∧ fs.lookup f = some v ∧ Q v H1
theorem XC.hd {K : PySem.W.Frag} {C : Addr} (T : XC K C Bn newId B initId) : PySem.W.hasDictIn K C = true := by
  obtain ⟨cd, hc, _, hd⟩ := T.cl
  unfold PySem.W.hasDictIn
  rw [hc]
  exact hd
theorem pe_xfld (he : PE X e te) (hb : attributeBase e f X.env (eval e X.env) = eval e X.env := by rfl) : PE X (.Attribute e f pos) (tXfld X.K te f) := by
  refine ⟨fun pins s σ H Q I h => ?_⟩
  refine attr_of hb (thn (he.run pins s σ H _ I h) fun u s1 hh => ?_)
  obtain ⟨x, H1, I1, rx, a, C, dx, fs, v, ex, ⟨Bn, newId, B, initId, T⟩, hno, ea, ed, l, q⟩ := hh
  subst ex
  obtain rfl : u = Value.ref a := rx
  obtain ⟨t1, ho⟩ := exo_at I1.hok ea
  obtain ⟨mA, hns, hr⟩ := exd_at I1.hok ed
  obtain ⟨od, hod, hl⟩ := lookIn_ns hns
  obtain ⟨u, hu, ru⟩ := RelO.some_of (v := v) (o := mA f) (by rw [← l]; exact hr f)
  have J : PySem.W.InstAt s1.heap a { cls := .ref C, dict := some dx, data := .fields #[.ref t1, .none, .none, .none, .bool false, .none] } C (some od) := ⟨ho, rfl, rfl, hod⟩
  exact HandSPX.exc_get I1.kIn J T.ga T.gg T.exC (PySem.W.findObj_own T.hd hno rfl (by rw [hl, hu])) (handed_of ru) ⟨v, H1, I1.tok _, ru, q⟩
/-- isinstance(e, c) -/
def rXis (K : PySem.W.Frag) : List V → Hp → VK → Prop := fun xs H Q => ∃ (a C dx : Addr) (fs : List (Str × V)) (c : V) (cv : Value) (b : Bool), xs = [.ref a, c] ∧ (∀ u, RelV c u → u = cv) ∧ XCe K C ∧ H a = some (exo a C (some dx)) ∧ H dx = some (exd dx fs) ∧ PySem.W.kitOne K (.ref C) cv = some b ∧ Q (.bl b) H
theorem call_xis : CallR X (.builtin "isinstance") (rXis X.K) := by
  intro pins s σ H xs us Q I r h
  obtain ⟨a, C, dx, fs, c, cv, b, rfl, hcv, ⟨Bn, newId, B, initId, T⟩, ea, ed, e, q⟩ := h
  cases r with
  | cons rx rr =>
    cases rr with
    | cons rt rr =>
      cases rr
      cases rx
      have ec := hcv _ rt
      subst ec
      obtain ⟨t1, ho⟩ := exo_at I.hok ea
      obtain ⟨mA, hns, hr⟩ := exd_at I.hok ed
      obtain ⟨od, hod, hl⟩ := lookIn_ns hns
      have J : PySem.W.InstAt s.heap a { cls := .ref C, dict := some dx, data := .fields #[.ref t1, .none, .none, .none, .bool false, .none] } C (some od) := ⟨ho, rfl, rfl, hod⟩
      obtain ⟨cd, hcl, _⟩ := T.cl
      exact PySem.W.kia_one (PySem.W.kitx_exc (by rw [hcl]; rfl) T.ga T.gg T.exC T.ha T.hn T.ht T.hm) I.kIn J e (fun z => nomatch z) fun tk => ⟨.bl b, H, I.kept (t' := tk) fun _ _ z => z, rfl, q⟩
end
end Lp

set_option Elab.async false
set_option linter.all false
set_option maxRecDepth 100000
set_option maxHeartbeats 4000000
namespace Lp
open PySem PySem.Spec PyProof.Rows L2
/-! ### a def's promise where nothing is being shown (no repr runs around it) -/
structure FnG (P : Program) (w : World) (K : PySem.W.Frag) (mg : Str → Option Value) (base : Heap) (CX : CXT) (k : Nat) (f : Addr) (fd : FuncData) (ps : List Str) (sp : Sp) : Prop where
  len : ∀ vs H Q E, sp vs H Q E → vs.length = ps.length
  run : ∀ (A : Around) (outer : List Env) (s : Shared) (H : Hp) (args : Args) (us : List Value) (vs : List V) (Q : VK) (E : XK), A.guards = some [] → Room k A → Env0 P w K mg base A outer s H → BindsTo s fd args (ps.zip us) → Vals vs us →
    sp vs H Q E → codeAny (model P w) A (.call (.ref f) args) (CR CX outer P w H s Q E) s
section
variable {P : Program} {w : World} {K : PySem.W.Frag} {mg : Str → Option Value} {base : Heap} {CX : CXT} {f : Addr} {fd : FuncData} {ps : List Str} {sp : Sp}
theorem FnG.of {k : Nat} (F : FnOk P w K mg base CX k f fd ps sp) : FnG P w K mg base CX k f fd ps sp := ⟨F.len, fun A o s H a us vs Q E _ => F.run A o s H a us vs Q E⟩
theorem FnG.mono {j k : Nat} (F : FnG P w K mg base CX j f fd ps sp) (h : j ≤ k) : FnG P w K mg base CX k f fd ps sp := ⟨F.len, fun A o s H a us vs Q E g hr => F.run A o s H a us vs Q E g (hr.mono h)⟩
theorem guards_deeper (A : Around) (e : Env) : (A.deeper e).guards = A.guards := by first | rfl | simp [Around.deeper]
/-- a body read at one context of a call -/
theorem body_at {k : Nat} {name qual : Str} {params : Arguments} {body : List Stmt} {scope : Scope} {dV kV doc pm cdv ct oc : Value} {an od : Option Addr} {osl : Array (Option Value)} {N : List Str}
    (lk : K.lookup f = some ⟨oc, od, .func (PySem.W.fnOf name qual params body scope dV kV doc pm an cdv ct), osl⟩) (hcd : PySem.W.codeIn K cdv qual = true) (S : FnScope N ps scope)
    {A : Around} {outer : List Env} {s : Shared} {H : Hp} {args : Args} {us : List Value} {vs : List V} {Q : VK} {E : XK} (hl : vs.length = ps.length) (hr : Room (k + 1) A) (e0 : Env0 P w K mg base A outer s H)
    (hb : BindsTo s (PySem.W.fnOf name qual params body scope dV kV doc pm an cdv ct) args (ps.zip us)) (r : Vals vs us)
    {t : TS} (ht : PSs (cxOf CX P w K mg base N qual scope f cdv A outer s H E) body t) (hq : t { nx := fun _ H' => Q .non H', rt := Q } (start N vs) H) :
    codeAny (model P w) A (.call (.ref f) args) (CR CX outer P w H s Q E) s := by
  have stays : ∀ b o, base.get? b = some o → s.heap.get? b = some o := fun b o e => (e0.bs b o e).1
  have KX : K.In s.heap := e0.mod.kin.keeps stays
  have kinds : ∀ y ∈ ps.zip us, scope.names.lookup y.1 = some .local ∨ (scope.names.lookup y.1 = some .cell ∧ ((cellsFrom (s.heap.objs.size + 1) scope.names []).lookup y.1).isSome = true) := by
    rintro ⟨n, v⟩ hy
    rcases S.par n (List.of_mem_zip hy).1 with q | q
    · exact .inl q
    · exact .inr ⟨q, PySem.W.cellsFrom_some _ _ _ (.inl q)⟩
  refine codeAny_call_function hr.depth (KX _ _ lk) rfl S.co S.gen rfl (PySem.W.codeRec_of KX hcd) (hb _ _ _ _ ?_)
  refine wpAny_newFunctionEnv_cells S.kind kinds fun env he s1 x => ?_
  subst he
  refine ⟨(e0.mod.nolimit.keeps stays).keeps x.toInCall.keep, codeAny_func ?_⟩
  have I := inv_start (CX := CX) (E := E) S hr.hd e0 hl r x
  refine wpAny_mono (ht.run [] s1 (start N vs) H _ I hq) (fun fl s' hs => ?_) fun e s' hs => hs
  cases fl with
  | ret u => exact let ⟨v, _, H', J, rv, q⟩ := hs; ⟨v, H', J.os, J.bare, J.base, J.hok, rv, q⟩
  | next => exact let ⟨_, H', J, q⟩ := hs; ⟨V.non, H', J.os, J.bare, J.base, J.hok, rfl, q⟩
  | brk => exact False.elim (let ⟨_, _, _, q⟩ := hs; q)
  | cont => exact False.elim (let ⟨_, _, _, q⟩ := hs; q)
theorem okG {x qual : Str} {params : Arguments} {body : List Stmt} {scope : Scope} {dvs : List V} {kws : List (Str × V)} {N : List Str} {k : Nat} (F : FunD K x qual params body scope dvs kws f fd) (S : FnScope N ps scope) (len : ∀ vs H Q E, sp vs H Q E → vs.length = ps.length)
    (hbody : ∀ (cdv : Value) (A : Around) (outer : List Env) (s : Shared) (H : Hp) (vs : List V) (Q : VK) (E : XK), A.guards = some [] → Room k (A.deeper (envOfC qual scope s.heap.objs.size f cdv)) → sp vs H Q E →
      ∃ t, PSs (cxOf CX P w K mg base N qual scope f cdv A outer s H E) body t ∧ t { nx := fun _ H' => Q .non H', rt := Q } (start N vs) H) : FnG P w K mg base CX (k + 1) f fd ps sp := by
  obtain ⟨oc, od, dV, kV, doc, pm, an, cdv, ct, osl, rfl, lk, hcd, _, _⟩ := F.ex
  refine ⟨len, fun A outer s H args us vs Q E hg hr e0 hb r hsp => ?_⟩
  obtain ⟨t, ht, hq⟩ := hbody cdv A outer s H vs Q E hg (hr.deeper _) hsp
  exact body_at lk hcd S (len _ _ _ _ hsp) hr e0 hb r ht hq
end
section
variable {X : Cx} {CX : CXT} {k : Nat} {f : Addr} {fd : FuncData} {ps : List Str} {sp : Sp} {E : XK} {x : Str} {p pos : Pos} {e : Expr} {es : List Expr} {t : TA} {ds : List Value} {dvs : List V}
theorem pe_callGd (F : FnG X.prog X.w X.K X.mg X.base CX k f fd ps sp) (gd : X.A.guards = some []) (hr : Room k X.A) (hg : Gl X x) (hm : X.mg x = some (.ref f)) (hk : PySem.W.keepIn X.K (.ref f) = true) (hb : Binds X.K fd ps ds) (hd : Vals dvs ds) (hx : Passes CX X E)
    (ha : PA X (e :: es) t) (hdb : (x == ("__debug__" : Str)) = false := by decide) (he : starEach (e :: es) X.env = (false, eval e X.env) :: starEach es X.env := by rfl) (hpl : (backTo pos (starEach es X.env)).any (·.1) = false := by rfl) :
    PE X (.Call (.Name x p) (e :: es) [] pos) (tCall sp dvs E t) := by
  refine ⟨fun pins s σ H Q I h => ?_⟩
  refine wpAny_Call_Name_kw (ld_glob I hg hm ?_ hdb)
  refine PySem.W.callWith_K (h₀ := X.base) I.ok.mod.kin hk (thn (ha.run pos pins s σ H _ I h) fun us s1 ⟨vs, H1, I1, r, q⟩ => ⟨I1.kIn, ?_⟩) he hpl
  have r2 : Vals (vs ++ dvs) (us ++ ds) := r.append hd
  have hl : (us ++ ds).length = ps.length := r2.length.symm.trans (F.len _ _ _ _ q)
  refine wpAny_call (codeAny_mono (F.run X.A X.stack s1 H1 ⟨us, []⟩ (us ++ ds) (vs ++ dvs) Q E gd hr I1.env0 (hb s1 us I1.kIn hl) r2 q) fun r s' hq => ?_)
  rcases r with er | (_ | _ | _ | u)
  · exact hx pins σ H1 s1 er s' I1 hq
  · exact False.elim hq
  · exact False.elim hq
  · exact False.elim hq
  · exact I1.after hq
end
/-! ### the law's end -/
theorem end_at {P : Program} {w : World} {K : PySem.W.Frag} {mg mb : Str → Option Value} {CX : CXT} {k : Nat} {fa a : Addr} {fd : FuncData} {x : Str} {sp : Sp} {s₁ : Shared} {vs : List Value} {H : Hp}
    (KX : K.In s₁.heap) (hns : s₁.heap.Ns mainGlobals mg) (hb : s₁.heap.Ns builtinsNs mb) (hbb : ∀ x : Str, x ≠ "__name__" → mb x = bootBuiltins x) (hlim : s₁.heap.NoLimit) (hg : s₁.gens = #[])
    (ha : s₁.heap.get? a = some { cls := .type "list", data := .seq vs.toArray }) (hr : Room k callerA)
    (F : ∀ base : Heap, K.In base → base.Ns mainGlobals mg → FnG P w K mg base CX k fa fd [x] sp) (hbind : ∀ (s : Shared) (u : Value), BindsTo s fd ⟨[u], []⟩ [(x, u)])
    (hsp : sp [.ref a] H (fun v _ => v = .bl true) fun _ _ _ => False) (hCX : ∀ e s', CX [] H s₁ (fun _ _ _ => False) e s' → False)
    (hO : Only H) (hok : HOk P w H s₁.heap) (hA : ∀ b, H b ≠ none → b = a) (hK : H a ≠ none → K.lookup a = none) :
    codeAny (model P w) callerA (.call (.ref fa) ⟨[.ref a], []⟩) (fun r s' => r = .ok (.ret (.bool true)) ∧ OldK s₁.heap s'.heap ∧ s'.os = s₁.os ∧ AllBare s'.gens) s₁ := by
  have free_of : ∀ {b : Addr} {o : Obj}, s₁.heap.get? b = some o → (∀ its n, o.data ≠ .seq its n) → H b = none := fun {b o} e d => by
    cases q : H b with
    | none => rfl
    | some u =>
      obtain rfl : b = a := hA b (by rw [q]; simp)
      rw [ha] at e
      exact absurd (congrArg Obj.data (Option.some.inj e)).symm (d _ _)
  have nsK : ∀ {b : Addr} {m : Str → Option Value}, s₁.heap.Ns b m → (hidT s₁.heap H).Ns b m := fun {b m} ⟨o, es, ep, e, d, r⟩ => ⟨o, es, ep, hidT_get e (free_of e (fun _ _ z => by rw [d] at z; cases z)), d, r⟩
  have kB : K.In (hidT s₁.heap H) := fun b o e => hidT_get (KX b o e) (by
    cases q : H b with
    | none => rfl
    | some u =>
      obtain rfl : b = a := hA b (by rw [q]; simp)
      rw [hK (by rw [q]; simp)] at e
      cases e)
  have e0 : Env0 P w K mg (hidT s₁.heap H) callerA [] s₁ H := ⟨rfl, ⟨kB, nsK hns, ⟨mb, nsK hb, hbb⟩, let ⟨mc, h1, h2⟩ := hlim; ⟨mc, nsK h1, h2⟩⟩, fun b o e => of_hidT e, Nat.le_of_eq (hidT_size _ _), trivial, fun b hb => absurd (show b ∈ ([] : List Addr) from hb) (by simp), hok, .of_eq hg⟩
  refine codeAny_mono ((F _ kB (nsK hns)).run callerA [] s₁ H ⟨[.ref a], []⟩ [.ref a] [.ref a] _ _ rfl hr e0 (hbind s₁ (.ref a)) (.cons rfl .nil) hsp) fun r s' h => ?_
  rcases r with er | (_ | _ | _ | u)
  · exact (hCX er s' h).elim
  · exact False.elim h
  · exact False.elim h
  · exact False.elim h
  · obtain ⟨v, H', os, bare, un, hok', r', q⟩ := h
    obtain rfl : v = .bl true := q
    obtain rfl : u = Value.bool true := r'
    refine ⟨rfl, OldK.of_keep fun b o e => ?_, os, bare⟩
    rcases hO b with z | ⟨ob, xs, z⟩
    · exact un.keep b o e z (by intro y; exact absurd (show b ∈ ([] : List Addr) from y) (by simp)) (by simp)
    · obtain ⟨e1, _⟩ := hok b _ z
      obtain ⟨e2, _⟩ := hok' b _ (un.frzs b ob _ z)
      rw [e] at e1
      cases e1
      exact e2
/-- a law by a promise over FnG -/
theorem walk_G {l : PySem.W.OpenLaw} {n k : Nat} {q : Program} {loose : List Str} {XP : (Str → Option Value) → Heap → Prop} {YP : World → Heap → Prop} {d : DefRec} {CX : CXT} {x : Str}
    (hn : l.most = some n) (hn2 : n ≤ sizeLine) (hdf : d.params.defaults = []) (hr : Room k callerA)
    (F : ∀ (w : World) (mg : Str → Option Value) (fa : Addr) (h : Heap), YP w h → h.Ns mainGlobals mg → mg d.name = some (.ref fa) →
      ∃ (K : PySem.W.Frag) (fd : FuncData) (sp : Sp), K.In h ∧ (∀ (s : Shared) (u : Value), BindsTo s fd ⟨[u], []⟩ [(x, u)]) ∧
        (∀ (H : Hp) (a : Addr) (ns : List Int), ns.length ≤ n → SqL K H a (ns.map V.int) → sp [.ref a] H (fun v _ => v = .bl true) fun _ _ _ => False) ∧
        ∀ base : Heap, K.In base → base.Ns mainGlobals mg → FnG l.prog w K mg base CX k fa fd [x] sp)
    (hCX : ∀ (H : Hp) (s : Shared) (e : Value) (s' : Shared), CX [] H s (fun _ _ _ => False) e s' → False) :
    PySem.W.WalkO q loose XP YP l.row.toRowW d [] (fun f vs => PySem.call f vs) := by
  refine Att.attach_call hn hdf fun w s₀ s₁ mg mb fa o pm cd doc a vs ns G Y ho hd hcd hmg hobj hints hlen hg => ?_
  obtain ⟨K, fd, sp, KX, hb, hsp, hF⟩ := F w mg fa _ Y G.T.g hmg
  have rv := vals_ints hints
  have lenV := hints.length
  have hl := Nat.le_trans hlen hn2
  cases hk : K.lookup a with
  | some o =>
    have e := KX a o hk
    rw [hobj] at e
    cases e
    refine end_at (H := fun _ => none) KX G.T.g G.T.b G.T.builtins G.T.nolimit hg hobj hr hF hb (hsp _ a ns hlen (.inr ⟨_, vs.toArray, _, hk, rfl, rfl, rfl, by rw [List.size_toArray, lenV]; exact hl, by simpa using rv⟩)) (fun e s' => hCX _ s₁ e s') (fun _ => .inl rfl) (fun b u z => nomatch z) (fun b z => absurd rfl z) fun z => absurd rfl z
  | none =>
    have on : ∀ b, b = a → (fun b => if b = a then some (HO.frz { cls := .type "list", data := .seq vs.toArray } (.lst (ns.map V.int))) else none : Hp) b = some (.frz { cls := .type "list", data := .seq vs.toArray } (.lst (ns.map V.int))) := fun b hb => if_pos hb
    have off : ∀ b, b ≠ a → (fun b => if b = a then some (HO.frz { cls := .type "list", data := .seq vs.toArray } (.lst (ns.map V.int))) else none : Hp) b = none := fun b hb => if_neg hb
    refine end_at (H := fun b => if b = a then some (.frz { cls := .type "list", data := .seq vs.toArray } (.lst (ns.map V.int))) else none) KX G.T.g G.T.b G.T.builtins G.T.nolimit hg hobj hr hF hb
      (hsp _ a ns hlen (.inl (.inr ⟨_, on a rfl⟩))) (fun e s' => hCX _ s₁ e s') (fun b => ?_) (fun b u z => ?_) (fun b z => ?_) fun _ => hk
    · by_cases hb : b = a
      · exact .inr ⟨_, _, on b hb⟩
      · exact .inl (off b hb)
    · by_cases hb : b = a
      · cases (on b hb).symm.trans z
        subst hb
        exact ⟨hobj, by rw [List.length_map]; exact hl, vs, _, rv, hobj⟩
      · cases (off b hb).symm.trans z
    · by_cases hb : b = a
      · exact hb
      · exact absurd (off b hb) z
end Lp

set_option Elab.async false
set_option linter.all false
set_option maxRecDepth 100000
set_option maxHeartbeats 4000000
namespace Lp
open PySem PySem.Spec PyProof.Rows L2
def kD : Key → PyData
  | .inl i => .int i
  | .inr x => .str x
def vD : V → PyData
  | .bl b => .bool b
  | .int i => .int i
  | .str x => .str x
  | _ => .none
def flD : V → Bool
  | .non => true
  | .bl _ => true
  | .int _ => true
  | .str _ => true
  | _ => false
def dD (kvs : List (Key × V)) : PyData := .dict (kvs.map fun p => (kD p.1, vD p.2))
theorem reads_flat {h : Heap} {v : V} {u : Value} (f : flD v = true) (r : RelV v u) : Reads h u (vD v) [] := by
  cases v with
  | non => cases r; exact .none
  | bl b => cases r; exact .bool b
  | int i => obtain ⟨t, rfl⟩ := r; exact .int i t
  | str x => obtain ⟨t, rfl⟩ := r; exact .str x t
  | byt b => cases f
  | flt b => cases f
  | ref a => cases f
  | ty n => cases f
theorem reads_key {P : Program} {w : World} {h : Heap} (k : Key) (v : Value) (e : (mixKind P w).is k v = true) : Reads h v (kD k) [] := by
  rcases keyIs_shape e with ⟨i, t, rfl, rfl⟩ | ⟨x, t, rfl, rfl⟩
  · exact .int i t
  · exact .str x t
theorem pairs_flat {h : Heap} : ∀ {kvs : List (Key × V)} {vs : List (Key × Value)}, (∀ p ∈ kvs, flD p.2 = true) → KV kvs vs → PyProof.V.PairsRead h kD vs (kvs.map fun p => (kD p.1, vD p.2)) []
  | [], [], _, _ => .nil
  | [], _ :: _, _, h => nomatch (show Paired _ _ _ from h)
  | _ :: _, [], _, h => nomatch (show Paired _ _ _ from h)
  | (k, v) :: kvs, (k', u) :: vs, f, h => by
    cases (show Paired _ _ _ from h) with
    | cons r t =>
      obtain ⟨e, r2⟩ := r
      have e' : k = k' := e
      subst e'
      exact PyProof.V.PairsRead.cons (as := []) (bs := []) (reads_flat (f _ (List.mem_cons_self ..)) r2) (pairs_flat (fun p hp => f p (List.mem_cons_of_mem _ hp)) t)
/-- what can be shown: data without dicts, or a dict of plain values -/
def Sh (K : PySem.W.Frag) (H : Hp) (v : V) (d : PyData) : Prop := Dp K H v d ∨ ∃ a kvs, v = .ref a ∧ Rd H a (.dK kvs) ∧ (∀ p ∈ kvs, flD p.2 = true) ∧ d = dD kvs
section
variable {X : Cx} {pins : List (Addr × Obj)} {σ : L2.St} {H : Hp} {s : Shared}
mutual
theorem dp_noDict {K : PySem.W.Frag} : ∀ (d : PyData) (v : V), Dp K H v d → d.hasDict = false
  | .none, _, _ => rfl
  | .bool _, _, _ => rfl
  | .int _, _, _ => rfl
  | .str _, _, _ => rfl
  | .list ds, _, h => by
    cases h with
    | lst _ ha => exact dpAll_noDict ds _ ha
  | .tuple ds, _, h => by
    cases h with
    | tup _ ha => exact dpAll_noDict ds _ ha
  | .dict _, _, h => by cases h
theorem dpAll_noDict {K : PySem.W.Frag} : ∀ (ds : List PyData) (vs : List V), DpAll K H vs ds → PyData.hasDictAll ds = false
  | [], _, _ => rfl
  | d :: ds, _, h => by
    cases h with
    | cons h1 h2 =>
      show (d.hasDict || PyData.hasDictAll ds) = false
      rw [dp_noDict d _ h1, dpAll_noDict ds _ h2]
      rfl
end
theorem Sh.reads (I : Inv X pins σ H s) {v : V} {d : PyData} {u : Value} (h : Sh X.K H v d) (r : RelV v u) : ∃ as, Reads s.heap u d as ∧ (d.hasDict = true → sysModules ∉ as) := by
  rcases h with h | ⟨a, kvs, rfl, hr, hf, rfl⟩
  · obtain ⟨as, q⟩ := Dp.reads I d v u h r
    exact ⟨as, q, fun z => by rw [dp_noDict d v h] at z; cases z⟩
  · obtain rfl : u = Value.ref a := r
    obtain ⟨_, hne, vs, kv, hd⟩ := hr.ok I.hok
    refine ⟨[a], PyProof.V.reads_dictOf (bs := []) (fun k key e => reads_key k key e) hd (pairs_flat hf kv), fun _ z => ?_⟩
    rw [List.mem_singleton] at z
    rw [← z] at hne
    simp at hne
def rRepr (K : PySem.W.Frag) : List V → Hp → VK → Prop := fun xs H Q => ∃ v d, xs = [v] ∧ Sh K H v d ∧ d.showable = true ∧ d.depth ≤ 50 ∧ d.shown.length ≤ sizeLine ∧ Q (.str d.shown) H
theorem call_repr (gd : X.A.guards = some []) (hu : X.A.units + 64 < cLine) : CallR X (.builtin "repr") (rRepr X.K) := by
  intro pins s σ H xs us Q I r h
  obtain ⟨v, d, rfl, hs, hw, hdp, hz, q⟩ := h
  cases r with
  | @cons _ u _ _ rx rr =>
    cases rr
    obtain ⟨as, rd, hsm⟩ := hs.reads I rx
    have out : ∀ (h' : Heap) (t' : Nat) (tk : Tok), (∀ b o, s.heap.get? b = some o → h'.get? b = some o) → EP X pins σ Q (.str d.shown tk) { s with heap := h', toks := t' } := fun h' t' tk k => ⟨.str d.shown, H, I.kept (t' := t') k, ⟨tk, rfl⟩, q⟩
    cases rd with
    | none => exact PySem.P.repr_of_none (out s.heap _ _ fun _ _ z => z)
    | bool b => exact PySem.P.repr_of_bool (out s.heap _ _ fun _ _ z => z)
    | int i t => exact PySem.P.repr_of_int (of_decide_eq_true hw) (out s.heap _ _ fun _ _ z => z)
    | str x t => exact PySem.P.repr_of_str (out s.heap _ _ fun _ _ z => z) hz
    | list h1 h2 h3 h4 => exact repr_of_reads' (.list h1 h2 h3 h4) hw hsm gd (by omega) (fun _ _ z => z) (fun h' u tk k => out h' tk u k) hz
    | tuple h1 h2 h3 h4 => exact repr_of_reads' (.tuple h1 h2 h3 h4) hw hsm gd (by omega) (fun _ _ z => z) (fun h' u tk k => out h' tk u k) hz
    | dict h1 h2 h3 h4 h5 => exact repr_of_reads' (.dict h1 h2 h3 h4 h5) hw hsm gd (by omega) (fun _ _ z => z) (fun h' u tk k => out h' tk u k) hz
theorem call_reprK {K0 : PySem.W.Frag} (hK : X.K = K0) (gd : X.A.guards = some []) (hu : X.A.units + 64 < cLine) : CallR X (.builtin "repr") (rRepr K0) := by
  subst hK
  exact call_repr gd hu
end
end Lp

set_option Elab.async false
set_option linter.all false
set_option maxRecDepth 100000
set_option maxHeartbeats 4000000
namespace Lp
open PySem PySem.Spec PyProof.Rows L2
/-! ### the head's facts: one Bool of the written part, and the defs -/
def obsL (ex : PySem.W.Frag → Bool) (fn : List He.DefD) (K : PySem.W.Frag) : He.AlD := (ex K && fn.all fun d => d.ok K, fn.map fun d => He.fnW K d.at_)
def SaysL (ex : PySem.W.Frag → Bool) (fn : List He.DefD) (K : PySem.W.Frag) : Prop := obsL ex fn K = He.valD fn
def obsLG (n : Nat) (ex : PySem.W.Frag → Bool) (fn : List He.DefD) (g : Addr → Option Obj) : He.AlD := obsL ex fn (He.frG g (cStatics :: He.asD g n))
def hookL (n : Nat) (ex : PySem.W.Frag → Bool) (fn : List He.DefD) : PySem.W.Hook where
  α := He.AlD
  obs := fun s => obsLG n ex fn s.heap.get?
  val := fun _ => He.valD fn
  says := fun _ h => ∃ K : PySem.W.Frag, K.In h ∧ SaysL ex fn K
  of := fun _ _ e => ⟨_, He.frG_in, e⟩
  keeps := fun _ _ _ ⟨K, hK, c⟩ k => ⟨K, PySem.W.Frag.In.keeps hK k, c⟩
theorem obsLG_eq {n : Nat} {ex : PySem.W.Frag → Bool} {fn : List He.DefD} {g : Addr → Option Obj} {s : Shared} (h : ∀ a, g a = s.heap.get? a) : obsLG n ex fn g = (hookL n ex fn).obs s := by
  have e : g = s.heap.get? := funext h
  rw [e] <;> rfl
/-- the function object at a place -/
def fdAt (K : PySem.W.Frag) (f : Addr) : FuncData := match K.lookup f with
  | some ⟨_, _, .func fd, _⟩ => fd
  | _ => PySem.W.fnOf "" "" ⟨[], [], none, [], [], none, []⟩ [] ⟨.function, [], false, false, []⟩ .none .none .none .none none .none .none
theorem fdAt_eq {K : PySem.W.Frag} {x qual : Str} {params : Arguments} {body : List Stmt} {scope : Scope} {dvs : List V} {kws : List (Str × V)} {f : Addr} {fd : FuncData} (F : FunD K x qual params body scope dvs kws f fd) : FunD K x qual params body scope dvs kws f (fdAt K f) := by
  have e : fdAt K f = fd := by
    obtain ⟨oc, od, dV, kV, doc, pm, an, cdv, ct, osl, _, lk, _⟩ := F.ex
    unfold fdAt
    rw [lk]
  rw [e]
  exact F
section
variable {ex : PySem.W.Frag → Bool} {fn : List He.DefD} {K : PySem.W.Frag}
theorem SaysL.all_ (c : SaysL ex fn K) : ex K = true := (Bool.and_eq_true_iff.mp (show (ex K && fn.all fun d => d.ok K) = true from congrArg (fun z : He.AlD => z.1) c)).1
theorem SaysL.def_ (c : SaysL ex fn K) (i : Nat) {d : He.DefD} (h : fn[i]? = some d := by rfl) : FunD K d.name d.qual d.params d.body d.scope (d.dvs K) (d.kws K) (He.fAd K d.at_) (fdAt K (He.fAd K d.at_)) := by
  have c2 := (Bool.and_eq_true_iff.mp (show (ex K && fn.all fun d => d.ok K) = true from congrArg (fun z : He.AlD => z.1) c)).2
  have e : fn.map (fun d => He.fnW K d.at_) = fn.map He.DefD.val := congrArg (fun z : He.AlD => z.2) c
  have e2 : (fn.map fun d => He.fnW K d.at_)[i]? = (fn.map He.DefD.val)[i]? := by rw [e]
  rw [List.getElem?_map, List.getElem?_map, h] at e2
  obtain ⟨fd, q⟩ := He.DefD.funD (Option.some.inj e2) (List.all_eq_true.mp c2 d (List.mem_of_getElem? h))
  exact fdAt_eq q
end
/-! ### exception classes by Bools -/
def clsB (K : PySem.W.Frag) (C : Addr) (Bn newId B : String) : Bool := match K.lookup C with
  | some ⟨.type "type", _, .cls cd, sl⟩ => (match cd.mro, sl.toList with
    | .ref C' :: bm, [_, _, _, _, some (.builtin n), _] => (C' == C && n == newId) && ((!cd.hasDel && cd.hasDict) && ((LpX.tailOk bm && bm.contains (.type Bn)) && ((!bm.contains (.type "AttributeError") && !bm.contains (.type "NameError")) && bm.contains (.type B))))
    | _, _ => false)
  | _ => false
theorem clsB_ok {K : PySem.W.Frag} {C : Addr} {Bn newId B : String} (q : clsB K C Bn newId B = true) : ∃ nm q N bs bm sn sub ab col dd k0 k1 k2 k3 k5, K.lookup C = some (excClassObj nm q C N bs bm true sn sub ab col dd k0 k1 k2 k3 k5 newId) ∧ LpX.tailOk bm = true ∧ LpX.Bm Bn bm ∧ bm.contains (.type B) = true := by
  unfold clsB at q
  split at q
  · rename_i dd cd sl ho
    split at q
    · rename_i C' bm k0 k1 k2 k3 n k5 hm hs
      simp only [Bool.and_eq_true, beq_iff_eq, Bool.not_eq_true'] at q
      obtain ⟨⟨rfl, rfl⟩, ⟨hdel, hdct⟩, ⟨h1, h2⟩, ⟨h3, h4⟩, h5⟩ := q
      obtain ⟨nm, bs, mro, ns, qn, hd, sn, sub, ab, col, del⟩ := cd
      dsimp only at hm hdel hdct
      subst hm hdel hdct
      obtain ⟨l⟩ := sl
      simp only at hs
      subst hs
      exact ⟨nm, qn, ns, bs, bm, sn, sub, ab, col, dd, k0, k1, k2, k3, k5, ho, h1, ⟨h2, h3, h4⟩, h5⟩
    · cases q
  · cases q
def xcB (K : PySem.W.Frag) (C : Addr) (Bn newId B : String) : Bool := clsB K C Bn newId B && (decide (PySem.W.findIn K (.ref C) "__setattr__" = some (some (.builtin "object.__setattr__"))) && (PySem.W.keepIn K (.ref C) &&
  (decide (PySem.W.findIn K (.ref C) "__getattribute__" = some (some (.builtin "BaseException.__getattribute__"))) && (decide (PySem.W.findIn K (.ref C) "__getattr__" = some none) && (decide (PySem.W.subIn K (.ref C) (.type "BaseException") = some true) &&
  (decide (PySem.W.typeIn K (.ref C) = some (.type "type")) && (decide (PySem.W.findIn K (.ref C) "__class__" = some (some (.builtin "object.__class__"))) && (decide (PySem.W.specialIn K (.builtin "object.__class__") "__get__" = some (some (.builtin "getset_descriptor.__get__"))) &&
  (decide (PySem.W.takesIn K (.builtin "object.__class__") = some true) && decide (PySem.W.mroIn K C (.type "object") = some true))))))))))
theorem xcB_ok {K : PySem.W.Frag} {C : Addr} {Bn newId B initId : String} (h : xcB K C Bn newId B = true) : XC K C Bn newId B initId := by
  unfold xcB at h
  simp only [Bool.and_eq_true, decide_eq_true_eq] at h
  obtain ⟨h1, h2, h3, h4, h5, h6, h7, h8, h9, h10, h11⟩ := h
  exact ⟨clsB_ok h1, h2, h3, h4, h5, h6, h7, h8, h9, h10, h11⟩
/-- an own class whose __init__ comes from a built-in base -/
structure XP (K : PySem.W.Frag) (P : Addr) (initId : String) : Prop where
  s : PySem.W.specialIn K (.ref P) "__getattribute__" = some (some (.builtin "type.__getattribute__"))
  t : PySem.W.typeIn K (.ref P) = some (.type "type")
  r : PySem.W.readsIn K P (.type "type") = true
  v : PySem.W.findCls K (.ref P) (.type "type") "__init__" = some (.val (.builtin initId))
def valIs (o : Option PySem.W.CFound) (u : Value) : Bool := match o with
  | some (.val v) => decide (v = u)
  | _ => false
theorem valIs_ok {o : Option PySem.W.CFound} {u : Value} (h : valIs o u = true) : o = some (.val u) := by
  unfold valIs at h
  split at h
  · rw [of_decide_eq_true h]
  · cases h
def xpB (K : PySem.W.Frag) (P : Addr) (initId : String) : Bool := decide (PySem.W.specialIn K (.ref P) "__getattribute__" = some (some (.builtin "type.__getattribute__"))) && (decide (PySem.W.typeIn K (.ref P) = some (.type "type")) && (PySem.W.readsIn K P (.type "type") && valIs (PySem.W.findCls K (.ref P) (.type "type") "__init__") (.builtin initId)))
theorem xpB_ok {K : PySem.W.Frag} {P : Addr} {initId : String} (h : xpB K P initId = true) : XP K P initId := by
  unfold xpB at h
  simp only [Bool.and_eq_true, decide_eq_true_eq] at h
  exact ⟨h.1, h.2.1, h.2.2.1, valIs_ok h.2.2.2⟩
/-- the own __init__ of an exception class, found -/
structure XI (K : PySem.W.Frag) (C fI : Addr) (f : Str) : Prop where
  i : PySem.W.findIn K (.ref C) "__init__" = some (some (.ref fI))
  t : PySem.W.typeIn K (.ref fI) = some (.type "function")
  n : PySem.W.findIn K (.ref C) f = some none
def xiB (K : PySem.W.Frag) (C fI : Addr) (f : Str) : Bool := decide (PySem.W.findIn K (.ref C) "__init__" = some (some (.ref fI))) && (decide (PySem.W.typeIn K (.ref fI) = some (.type "function")) && decide (PySem.W.findIn K (.ref C) f = some none))
theorem xiB_ok {K : PySem.W.Frag} {C fI : Addr} {f : Str} (h : xiB K C fI f = true) : XI K C fI f := by
  unfold xiB at h
  simp only [Bool.and_eq_true, decide_eq_true_eq] at h
  exact ⟨h.1, h.2.1, h.2.2⟩
/-- C.__init__(self, v): the field is stored -/
def spXI (C : Addr) (f : Str) : Sp := fun vs H Q _ => ∃ (a : Addr) (v : V), vs = [.ref a, v] ∧ H a = some (exo a C none) ∧ ∀ dx, H dx = none → dx ≠ a → Q .non (upd (upd H dx (exd dx [(f, v)])) a (exo a C (some dx)))
theorem spXI_len {C : Addr} {f : Str} {n : Str} (vs : List V) (H : Hp) (Q : VK) (E : XK) (h : spXI C f vs H Q E) : vs.length = (["self", n] : List Str).length := by
  obtain ⟨a, v, rfl, _⟩ := h
  rfl
theorem read_xi {K : PySem.W.Frag} {C fI : Addr} {f : Str} {Bn newId B initId : String} {n : Str} (T : XC K C Bn newId B initId) (S : XI K C fI f) {vs : List V} {H : Hp} {Q : VK} {E : XK} (h : spXI C f vs H Q E) :
    tSeq (tDrop (tXI K Bn newId B initId (tCons (tVar 0) (tCons (tVar 1) tNil)))) (tXst K Bn newId B initId f (tVar 0) (tVar 1)) { nx := fun _ H' => Q .non H', rt := Q } (start ["self", n] vs) H := by
  obtain ⟨a, v, rfl, ha, k⟩ := h
  exact ⟨_, rfl, _, rfl, a, C, _, rfl, by show 1 ≤ 1000; decide, T, ha, _, rfl, _, rfl, a, C, rfl, T, S.n, ha, k⟩
/-- C(v): a new exception that bears v -/
def rXMk (C : Addr) (f : Str) (v : V) (H : Hp) (Q : VK) : Prop := ∀ a dx, H a = none → H dx = none → dx ≠ a → Q (.ref a) (upd (upd H dx (exd dx [(f, v)])) a (exo a C (some dx)))
theorem xmk_read {C : Addr} {f : Str} {te : TE} {σ : L2.St} {H : Hp} {Q : VK} (h : te σ H fun v H1 => rXMk C f v H1 Q) : tXMk C (spXI C f) (tCons te tNil) σ H Q := by
  show te σ H fun v H1 => _
  exact (show te σ H (fun v H1 => ([v] : List V).length ≤ 1000 ∧ ∀ a, H1 a = none → spXI C f (.ref a :: [v]) (upd H1 a (exo a C none)) (fun v H2 => v = .non ∧ Q (.ref a) H2) (fun _ _ _ => False)) from by
    have e : (fun (v : V) (H1 : Hp) => ([v] : List V).length ≤ 1000 ∧ ∀ a, H1 a = none → spXI C f (.ref a :: [v]) (upd H1 a (exo a C none)) (fun v H2 => v = .non ∧ Q (.ref a) H2) (fun _ _ _ => False)) = fun v H1 => rXMk C f v H1 Q := by
      funext v H1
      refine propext ⟨fun ⟨_, z⟩ a dx na nd ne => ?_, fun z => ⟨by show 1 ≤ 1000; decide, fun a na => ⟨a, v, rfl, upd_same, fun dx nd ne => ⟨rfl, ?_⟩⟩⟩⟩
      · obtain ⟨a', v', e1, e2, k⟩ := z a na
        cases e1
        have q := (k dx (by rw [upd_ne ne]; exact nd) ne).2
        have e3 : upd (upd (upd H1 a (exo a C none)) dx (exd dx [(f, v)])) a (exo a C (some dx)) = upd (upd H1 dx (exd dx [(f, v)])) a (exo a C (some dx)) := by
          funext b
          by_cases hb : b = a
          · rw [hb, upd_same, upd_same]
          · rw [upd_ne hb, upd_ne hb]
            by_cases hd : b = dx
            · rw [hd, upd_same, upd_same]
            · rw [upd_ne hd, upd_ne hd, upd_ne hb]
        rw [e3] at q
        exact q
      · have e3 : upd (upd (upd H1 a (exo a C none)) dx (exd dx [(f, v)])) a (exo a C (some dx)) = upd (upd H1 dx (exd dx [(f, v)])) a (exo a C (some dx)) := by
          funext b
          by_cases hb : b = a
          · rw [hb, upd_same, upd_same]
          · rw [upd_ne hb, upd_ne hb]
            by_cases hd : b = dx
            · rw [hd, upd_same, upd_same]
            · rw [upd_ne hd, upd_ne hd, upd_ne hb]
        rw [e3]
        rw [upd_ne ne] at nd
        exact z a dx na nd ne
    rw [e]
    exact h)
/-- a statement, then the rest: what lies between them is said once -/
def tMid (t u : TS) : TS := fun D σ H => ∃ M : L2.St → Hp → Prop, t { D with nx := M } σ H ∧ ∀ σ' H', M σ' H' → u D σ' H'
theorem pss_mid {X : Cx} {st : Stmt} {rest : List Stmt} {t u : TS} (h1 : PS X st t) (h2 : PSs X rest u) : PSs X (st :: rest) (tMid t u) := by
  refine ⟨fun pins s σ H D I h => ?_⟩
  obtain ⟨M, hm, hu⟩ := h
  refine wpAny_execs_cons (thn (h1.run pins s σ H { D with nx := M } I hm) fun f s1 q => ?_)
  rcases f with _ | _ | _ | v
  · obtain ⟨σ', H', I', q⟩ := q
    exact h2.run pins s1 σ' H' D I' (hu σ' H' q)
  · exact q
  · exact q
  · exact q
theorem ps_dead {X : Cx} {st : Stmt} : PS X st (fun _ _ _ => False) := ⟨fun _ _ _ _ _ _ h => False.elim h⟩
end Lp

set_option Elab.async false
set_option linter.all false
set_option maxRecDepth 100000
set_option maxHeartbeats 4000000
namespace Lp
open PySem PySem.Spec PyProof.Rows L2
/-! ### growth: F is the part of the heap H that will not change any more -/
theorem same_refl (H : Hp) : Same H H := fun _ _ e => e
theorem same_trans {H1 H2 H3 : Hp} (a : Same H1 H2) (b : Same H2 H3) : Same H1 H3 := fun x o e => b x o (a x o e)
theorem same_new {H : Hp} {p : Addr} {o : HO} (h : H p = none) : Same H (upd H p o) := fun b u e => by
  rw [upd_ne (ne_of_none e h)]
  exact e
theorem same_mut {H H' : Hp} {p : Addr} {o : HO} (s : Same H H') (h : H p = none) : Same H (upd H' p o) := fun b u e => by
  rw [upd_ne (ne_of_none e h)]
  exact s b u e
theorem same_off {H H' : Hp} {p : Addr} (s : Same H H') (h : H' p = none) : H p = none := by
  cases e : H p with
  | none => rfl
  | some o => rw [s _ _ e] at h; cases h
structure Gw (F H F' H' : Hp) : Prop where
  ff : Same F F'
  fh : Same F' H'
  hh : Same H H'
  new : ∀ a, F a = none → H a ≠ none → F' a = none
section
variable {F H F' H' F1 H1 F2 H2 : Hp} {p : Addr} {o : HO}
theorem Gw.refl (s : Same F H) : Gw F H F H := ⟨same_refl F, s, same_refl H, fun _ e _ => e⟩
theorem Gw.trans (a : Gw F H F1 H1) (b : Gw F1 H1 F2 H2) : Gw F H F2 H2 := ⟨same_trans a.ff b.ff, b.fh, same_trans a.hh b.hh, fun x n h => b.new x (a.new x n h) (by
  cases e : H x with
  | none => exact absurd e h
  | some o => rw [a.hh _ _ e]; simp)⟩
/-- a new object that will not change -/
theorem Gw.add (s : Same F H) (n : H p = none) : Gw F H (upd F p o) (upd H p o) := ⟨same_new (same_off s n), fun b u e => by
  by_cases hb : b = p
  · rw [hb, upd_same] at e ⊢; exact e
  · rw [upd_ne hb] at e ⊢; exact s _ _ e, same_new n, fun x e h => by
  by_cases hx : x = p
  · rw [hx] at h; exact absurd n h
  · rw [upd_ne hx]; exact e⟩
/-- a new object -/
theorem Gw.junk (s : Same F H) (n : H p = none) : Gw F H F (upd H p o) := ⟨same_refl F, same_mut s (same_off s n), same_new n, fun _ e _ => e⟩
/-- an object that is newer than H, and may change, changes -/
theorem Gw.mut (g : Gw F H F' H') (h0 : H p = none) (hf : F' p = none) : Gw F H F' (upd H' p o) := ⟨g.ff, same_mut g.fh hf, same_mut g.hh h0, g.new⟩
/-- from now on it does not -/
theorem Gw.freeze (g : Gw F H F' H') (h0 : H p = none) (hf : F' p = none) (hp : H' p = some o) : Gw F H (upd F' p o) H' := ⟨same_mut g.ff (same_off g.ff hf), fun b u e => by
  by_cases hb : b = p
  · rw [hb, upd_same] at e; rw [hb, hp]; exact e
  · rw [upd_ne hb] at e; exact g.fh _ _ e, g.hh, fun x e h => by
  by_cases hx : x = p
  · rw [hx] at h; exact absurd h0 h
  · rw [upd_ne hx]; exact g.new x e h⟩
theorem Gw.off (g : Gw F H F' H') (hf : F p = none) (hp : H p = some o) : F' p = none := g.new p hf (by rw [hp]; simp)
theorem Gw.src (g : Gw F H F' H') (s : Same F H) : Same F H' := same_trans g.ff g.fh
end
theorem paired_app {α β : Type} {R : α → β → Prop} : ∀ {a c : List α} {b d : List β}, Paired R a b → Paired R c d → Paired R (a ++ c) (b ++ d)
  | _, _, _, _, .nil, s => s
  | _, _, _, _, .cons r t, s => .cons r (paired_app t s)
theorem paired_imp {α β : Type} {R S : α → β → Prop} (h : ∀ a b, R a b → S a b) : ∀ {a : List α} {b : List β}, Paired R a b → Paired S a b
  | _, _, .nil => .nil
  | _, _, .cons r t => .cons (h _ _ r) (paired_imp h t)
/-- a comprehension: f tells which turns give, R what they give -/
theorem lc_gw {J : It} {n : Nat} {G : Hp → Prop} {Y : Nat → Hp → V → Hp → Prop} (w : Walk J n G Y) {g : TG} {tt : TT} {te : TE} {vs : List Nat} {σ : L2.St} {F0 H1 : Hp} {D : Addr} {Qd : Hp → Prop} (f : Nat → Bool) (R : Nat → V → Hp → Prop) (Rm : ∀ i y A B, Same A B → R i y A → R i y B)
    (s0 : Same F0 H1) (hD : H1 D = none) (hn : n < 100000) (hG : ∀ H, Same H1 H → G H)
    (hs : ∀ i x F H H' (Qn : V → Hp → Prop) (Qs : Hp → Prop), i < n → Gw F0 H1 F H → Y i H x H' → (f i = true → ∀ y F' H4, Gw F H F' H4 → R i y F' → Qn y H4) → (f i = false → ∀ F' H4, Gw F H F' H4 → Qs H4) →
      g x (wipe σ vs) H' fun σ2 H2 => wipe σ2 vs = wipe σ vs ∧ tt σ2 H2 fun b H3 => if b = true then te σ2 H3 Qn else Qs H3)
    (hd : ∀ ys F H, Gw F0 H1 F H → F D = none → H D = some (.lst ys) → Paired (fun i y => R i y F) ((List.range n).filter f) ys → Qd H) :
    ∃ W : Nat → Nat → Hp → Prop, (∃ m, W 0 m (upd H1 D (.lst []))) ∧ ∀ i m H, W i m H →
      (J.stop i H ∧ Qd H) ∨ (J.go i H ∧ ∃ Nx : Hp → Prop, (∀ H', Nx H' → ∃ m', m' < m ∧ W (i + 1) m' H') ∧ ∀ x H', J.yld i H x H' → g x (wipe σ vs) H' fun σ2 H2 => wipe σ2 vs = wipe σ vs ∧ tt σ2 H2 fun b H3 =>
        if b = true then te σ2 H3 fun y H4 => ∃ acc, H4 D = some (.lst acc) ∧ acc.length < sizeLine ∧ Nx (upd H4 D (.lst (acc ++ [y]))) else Nx H3) := by
  have ext : ∀ {k : Nat}, (List.range (k + 1)).filter f = (List.range k).filter f ++ (if f k = true then [k] else []) := fun {k} => by
    rw [List.range_succ, List.filter_append]
    by_cases e : f k = true
    · simp [e]
    · simp [e]
  refine lc_it w (fun i H => ∃ F ys, Gw F0 H1 F H ∧ F D = none ∧ H D = some (.lst ys) ∧ Paired (fun i y => R i y F) ((List.range i).filter f) ys) ⟨F0, [], Gw.junk s0 hD, same_off s0 hD, upd_same, .nil⟩ (fun i H _ ⟨F, ys, gw, _⟩ => hG H gw.hh) ?_ (fun H ⟨F, ys, gw, fD, hH, pr⟩ => hd ys F H gw fD hH pr)
  rintro i x H H' hi ⟨F, ys, gw, fD, hH, pr⟩ hy
  refine hs i x F H H' _ _ hi gw hy (fun hf y F' H4 g4 r => ?_) (fun hf F' H4 g4 => ?_)
  · have len : ys.length ≤ i := by
      rw [← pr.length]
      have := List.length_filter_le f (List.range i)
      rw [List.length_range] at this
      exact this
    refine ⟨ys, g4.hh _ _ hH, Nat.lt_of_le_of_lt len (Nat.lt_trans hi (Nat.lt_of_lt_of_le hn (by decide))), F', ys ++ [y], (gw.trans g4).mut hD (g4.off fD hH), g4.off fD hH, upd_same, ?_⟩
    rw [ext, if_pos hf]
    exact paired_app (paired_imp (fun a b q => Rm _ _ _ _ g4.ff q) pr) (.cons r .nil)
  · refine ⟨F', ys, gw.trans g4, g4.off fD hH, g4.hh _ _ hH, ?_⟩
    rw [ext, if_neg (by rw [hf]; decide), List.append_nil]
    exact paired_imp (fun a b q => Rm _ _ _ _ g4.ff q) pr
/-- deep data stays -/
theorem sqL_same {K : PySem.W.Frag} {H H' : Hp} {a : Addr} {xs : List V} (s : Same H H') (h : SqL K H a xs) : SqL K H' a xs := s.seq h
mutual
theorem dp_same {K : PySem.W.Frag} {H H' : Hp} (s : Same H H') : ∀ (d : PyData) (v : V), Dp K H v d → Dp K H' v d
  | .none, _, h => by cases h; exact .non
  | .bool _, _, h => by cases h; exact .bl _
  | .int _, _, h => by cases h; exact .int _
  | .str _, _, h => by cases h; exact .str _
  | .list ds, _, h => by
    cases h with
    | lst a b => exact .lst (Evl.ex_l s a) (dpAll_same s ds _ b)
  | .tuple ds, _, h => by
    cases h with
    | tup a b => exact .tup (Evl.ex_t s a) (dpAll_same s ds _ b)
  | .dict _, _, h => by cases h
theorem dpAll_same {K : PySem.W.Frag} {H H' : Hp} (s : Same H H') : ∀ (ds : List PyData) (vs : List V), DpAll K H vs ds → DpAll K H' vs ds
  | [], _, h => by cases h; exact .nil
  | d :: ds, _, h => by
    cases h with
    | cons a b => exact .cons (dp_same s d _ a) (dpAll_same s ds _ b)
end
theorem sh_same {K : PySem.W.Frag} {H H' : Hp} (s : Same H H') {d : PyData} {v : V} (h : Sh K H v d) : Sh K H' v d := by
  rcases h with h | ⟨a, kvs, e, hr, hf, hd⟩
  · exact .inl (dp_same s d v h)
  · exact .inr ⟨a, kvs, e, Evl.ex_rd s hr, hf, hd⟩
end Lp

set_option Elab.async false
set_option linter.all false
set_option maxRecDepth 100000
set_option maxHeartbeats 4000000
namespace Lp
open PySem PySem.Spec PyProof.Rows L2
/-! ### plain laws of data -/
theorem lay_map {α : Type} {f : α → PyData} : ∀ {l : List α}, (∀ x ∈ l, (f x).canLay0 = true) → PyData.canLayAll0 (l.map f) = true
  | [], _ => rfl
  | a :: l, h => by
    show ((f a).canLay0 && PyData.canLayAll0 (l.map f)) = true
    rw [h a (List.mem_cons_self ..), lay_map fun x hx => h x (List.mem_cons_of_mem _ hx)]
    rfl
theorem dep_map {α : Type} {f : α → PyData} {n : Nat} : ∀ {l : List α}, (∀ x ∈ l, (f x).depth ≤ n) → PyData.depthAll (l.map f) ≤ n
  | [], _ => Nat.zero_le _
  | a :: l, h => by
    show max (f a).depth (PyData.depthAll (l.map f)) ≤ n
    exact Nat.max_le.mpr ⟨h a (List.mem_cons_self ..), dep_map fun x hx => h x (List.mem_cons_of_mem _ hx)⟩
theorem shaped_of {d : PyData} (h1 : d.canLay0 = true) (h2 : d.depth ≤ 64) : SeqAt.shaped d = true := by
  unfold SeqAt.shaped
  rw [h1, decide_eq_true h2]
  rfl
mutual
theorem eqv_refl : ∀ d : PyData, d.canLay0 = true → PyData.eqv d d = true
  | .none, _ => rfl
  | .bool b, _ => by show (b == b) = true; exact beq_self_eq_true b
  | .int i, _ => by show (i == i) = true; exact beq_self_eq_true i
  | .str x, _ => by show (x == x) = true; exact beq_self_eq_true x
  | .list xs, h => eqvAll_refl xs h
  | .tuple xs, h => eqvAll_refl xs h
  | .dict _, h => by cases h
theorem eqvAll_refl : ∀ ds : List PyData, PyData.canLayAll0 ds = true → PyData.eqvAll ds ds = true
  | [], _ => rfl
  | d :: ds, h => by
    obtain ⟨h1, h2⟩ := Bool.and_eq_true_iff.mp (show (d.canLay0 && PyData.canLayAll0 ds) = true from h)
    show (PyData.eqv d d && PyData.eqvAll ds ds) = true
    rw [eqv_refl d h1, eqvAll_refl ds h2]
    rfl
end
theorem dpAll_map {K : PySem.W.Frag} {H : Hp} {α : Type} {f : α → V} {g : α → PyData} : ∀ {l : List α}, (∀ x ∈ l, Dp K H (f x) (g x)) → DpAll K H (l.map f) (l.map g)
  | [], _ => .nil
  | a :: l, h => .cons (h a (List.mem_cons_self ..)) (dpAll_map fun x hx => h x (List.mem_cons_of_mem _ hx))
theorem dpAll_paired {K : PySem.W.Frag} {H : Hp} {α : Type} {g : α → PyData} : ∀ {l : List α} {vs : List V}, Paired (fun x v => Dp K H v (g x)) l vs → DpAll K H vs (l.map g)
  | _, _, .nil => .nil
  | _, _, .cons r t => .cons r (dpAll_paired t)
theorem paired_eq {α β : Type} {g : α → β} : ∀ {l : List α} {ys : List β}, Paired (fun x y => y = g x) l ys → ys = l.map g
  | _, _, .nil => rfl
  | _, _, .cons r t => by rw [r, paired_eq t]; rfl
def bD (bs : List Bool) : PyData := .list (bs.map PyData.bool)
theorem bD_lay (bs : List Bool) : (bD bs).canLay0 = true := lay_map (l := bs) fun _ _ => rfl
theorem bD_dep (bs : List Bool) : (bD bs).depth ≤ 1 := Nat.succ_le_succ (dep_map (l := bs) fun _ _ => Nat.le_refl 0)
theorem bD_shaped (bs : List Bool) : SeqAt.shaped (bD bs) = true := shaped_of (bD_lay bs) (Nat.le_trans (bD_dep bs) (by decide))
theorem bD_dp {K : PySem.W.Frag} {H : Hp} {p : Addr} {bs : List Bool} (h : H p = some (.lst (bs.map V.bl))) : Dp K H (.ref p) (bD bs) := .lst (SqL.of h) (dpAll_map fun b _ => .bl b)
def bbD (rows : List (List Bool)) : PyData := .list (rows.map bD)
theorem bbD_lay (rows : List (List Bool)) : (bbD rows).canLay0 = true := lay_map (l := rows) fun r _ => bD_lay r
theorem bbD_shaped (rows : List (List Bool)) : SeqAt.shaped (bbD rows) = true := shaped_of (bbD_lay rows) (Nat.le_trans (Nat.succ_le_succ (dep_map (l := rows) fun r _ => bD_dep r)) (by decide))
def sD (z : Str) (n : Nat) : PyData := .list ((List.replicate n z).map PyData.str)
section
variable {t u : TS} {D : Ends} {σ : L2.St} {H : Hp} {te ta tb : TE} {tr : TA} {Q : VK} {g : TG} {r : R2}
theorem r_seq (h : t { D with nx := u D } σ H) : tSeq t u D σ H := h
theorem r_asg (h : te σ H fun v H1 => g v σ H1 D.nx) : tAsg te g D σ H := h
theorem r_lst (h : tr σ H fun xs H1 => xs.length ≤ sizeLine ∧ ∀ p, H1 p = none → Q (.ref p) (upd H1 p (.lst xs))) : tLst tr σ H Q := h
theorem r_cons {QA : List V → Hp → Prop} (h : te σ H fun x H1 => tr σ H1 fun xs H2 => QA (x :: xs) H2) : tCons te tr σ H QA := h
theorem r_op (h : ta σ H fun x H1 => tb σ H1 fun y H2 => r x y H2 Q) : tOp r ta tb σ H Q := h
theorem r_ret (h : te σ H D.rt) : tRet te D σ H := h
end
theorem yes_then {te : TE} {σ : L2.St} {H : Hp} {Qn : VK} {Qs : Hp → Prop} (h : te σ H Qn) : tYes σ H fun b H3 => if b = true then te σ H3 Qn else Qs H3 := by
  show if true = true then te σ H Qn else Qs H
  rw [if_pos rfl]
  exact h
theorem filter_true {n : Nat} : (List.range n).filter (fun _ => true) = List.range n := List.filter_eq_self.mpr fun _ _ => rfl
end Lp

set_option Elab.async false
set_option linter.all false
set_option maxRecDepth 100000
set_option maxHeartbeats 4000000
namespace Lp
open PySem PySem.Spec PyProof.Rows L2
/-! ### own methods that the machine calls -/
section
variable {X : Cx} {CX : CXT} {k : Nat} {f C : Addr} {sp : Sp} {E : XK} {pins : List (Addr × Obj)} {σ : L2.St} {H : Hp} {s : Shared} {Q : VK} {us : List Value} {vs : List V}
theorem run_at (F : FnR X.prog X.w X.K X.mg X.base CX k f sp) (hr : Room k X.A) (hx : Passes CX X E) (I : Inv X pins σ H s) (r : Vals vs us) (h : sp vs H Q E) : wpAny (model X.prog X.w) X.A (call (.ref f) us) (EP X pins σ Q) X.xe s := by
  refine wpAny_call (codeAny_mono (F X.A X.stack s H us vs Q E hr I.env0 r h) fun r s' hq => ?_)
  rcases r with er | (_ | _ | _ | u)
  · exact hx pins σ H s er s' I hq
  · exact False.elim hq
  · exact False.elim hq
  · exact False.elim hq
  · exact I.after hq
theorem run_in1 (F : FnR X.prog X.w X.K X.mg X.base CX k f sp) (hr : Room (k + 1) X.A) (hx : Passes CX X E) (I : Inv X pins σ H s) (r : Vals vs us) (h : sp vs H Q E) : wpAny (model X.prog X.w) X.A.in1 (call (.ref f) us) (EP X pins σ Q) X.xe s := by
  refine wpAny_call (codeAny_mono (F X.A.in1 X.stack s H us vs Q E hr.in1 I.env0.in1 r h) fun r s' hq => ?_)
  rcases r with er | (_ | _ | _ | u)
  · exact hx pins σ H s er s' I hq
  · exact False.elim hq
  · exact False.elim hq
  · exact False.elim hq
  · exact I.after hq
/-- the object of an instance -/
theorem ins_at (I : Inv X pins σ H s) {a dx : Addr} {fs : List (Str × V)} (h : H a = some (.ins C dx fs)) : ∃ ox od, PySem.W.InstAt s.heap a ox C od := by
  obtain ⟨mA, J, _⟩ := ins_get I.hok h
  obtain ⟨od, J, _⟩ := J.look
  exact ⟨_, _, J⟩
theorem relV_noNI {v : V} {u : Value} (r : RelV v u) : u ≠ .notImplemented := by
  intro e
  subst e
  cases v with
  | non => cases r
  | bl b => cases r
  | int i => obtain ⟨t, e⟩ := r; cases e
  | str x => obtain ⟨t, e⟩ := r; cases e
  | byt b => obtain ⟨t, e⟩ := r; cases e
  | flt b => obtain ⟨t, e⟩ := r; cases e
  | ref a => cases r
  | ty n => cases r
theorem back_of {u : Value} {s' : Shared} (h : EP X pins σ Q u s') : PySem.W.CmpBack (EP X pins σ Q) u s' := by
  have ne : u ≠ .notImplemented := by
    obtain ⟨v, H', _, r, _⟩ := h
    exact relV_noNI r
  unfold PySem.W.CmpBack
  split
  · exact absurd rfl ne
  · exact h
def rOwn2 (C : Addr) (sp : Sp) (E : XK) : R2 := fun x y H Q => ∃ a dx fs, x = .ref a ∧ H a = some (.ins C dx fs) ∧ sp [.ref a, y] H Q E
/-- o[i] by an own __getitem__ -/
theorem pe_ixOwn {a b : Expr} {ta tb : TE} {pos : Pos} (M : Meth X.K C "__getitem__" f) (hfi : PySem.W.fnIn X.K f = true) (F : FnR X.prog X.w X.K X.mg X.base CX k f sp) (hr : Room (k + 1) X.A) (hx : Passes CX X E) (ha : PE X a ta) (hb : PE X b tb)
    (hsl : ∀ x i, subscripted b true (.ref x) i = runValue (.builtin "lifetime.subscript" ⟨[.ref x, i], []⟩) := by intro _ _; with_unfolding_all rfl) : PE X (.Subscript a b pos) (tOp (rOwn2 C sp E) ta tb) := by
  refine ⟨fun pins s σ H Q I h => ?_⟩
  refine Subscript_ (binT ha hb I h fun v u s2 x y H2 I2 rx ry q => ?_)
  obtain ⟨p, dx, fs, rfl, hp, q⟩ := q
  obtain rfl : v = Value.ref p := rx
  obtain ⟨ox, od, J⟩ := ins_at I2 hp
  obtain ⟨m, fr⟩ := I2.fr
  exact PySem.W.sub_K fr I2.ok.mod.kin J M.at_ hfi M.fn (run_in1 (vs := [.ref p, y]) F hr hx I2 (.cons rfl (.cons ry .nil)) q) (hsl _ _)
/-- x in o by an own __contains__ -/
def rOwnIn (C : Addr) (sp : Sp) (E : XK) : R2 := fun x y H Q => ∃ a dx fs, y = .ref a ∧ H a = some (.ins C dx fs) ∧ sp [.ref a, x] H (fun v H' => ∃ b, v = .bl b ∧ Q (.bl b) H') E
theorem op_inOwn (M : Meth X.K C "__contains__" f) (F : FnR X.prog X.w X.K X.mg X.base CX k f sp) (hr : Room k X.A) (hx : Passes CX X E) : OpR X (compareOp .In) (rOwnIn C sp E) := by
  intro pins s σ H x y v u Q I rx ry h
  obtain ⟨p, dx, fs, rfl, hp, q⟩ := h
  obtain rfl : u = Value.ref p := ry
  obtain ⟨ox, od, J⟩ := ins_at I hp
  obtain ⟨m, fr⟩ := I.fr
  refine PySem.W.in_K fr I.ok.mod.kin J M.at_ M.fn (thn (run_at (vs := [.ref p, x]) F hr hx I (.cons rfl (.cons rx .nil)) q) fun r s1 ⟨z, H1, I1, rz, b, ez, q1⟩ => ?_)
  subst ez
  obtain rfl : r = Value.bool b := rz
  exact wpAny_truthy_bool ⟨.bl b, H1, I1, rfl, q1⟩
/-- len(o) by an own __len__ -/
def rOwnLen (C : Addr) (sp : Sp) (E : XK) : List V → Hp → VK → Prop := fun xs H Q => ∃ a dx fs, xs = [.ref a] ∧ H a = some (.ins C dx fs) ∧ sp [.ref a] H (fun v H' => ∃ n : Nat, v = .int n ∧ n < 2 ^ 63 ∧ Q (.int n) H') E
theorem call_lenOwn (M : Meth X.K C "__len__" f) (F : FnR X.prog X.w X.K X.mg X.base CX k f sp) (hr : Room (k + 1) X.A) (hx : Passes CX X E) : CallR X (.builtin "len") (rOwnLen C sp E) := by
  intro pins s σ H xs us Q I r h
  obtain ⟨p, dx, fs, rfl, hp, q⟩ := h
  cases r with
  | @cons _ u _ _ rx rr =>
    cases rr
    obtain rfl : u = Value.ref p := rx
    obtain ⟨ox, od, J⟩ := ins_at I hp
    obtain ⟨m, fr⟩ := I.fr
    refine PySem.W.len_K fr I.ok.mod.kin J M.at_ M.fn (thn (run_in1 (vs := [.ref p]) F hr hx I (.cons rfl .nil) q) fun r s1 ⟨z, H1, I1, rz, n, ez, hn, q1⟩ => ?_)
    subst ez
    obtain ⟨t, rfl⟩ := rz
    exact ⟨⟨by omega, by omega⟩, ⟨.int n, H1, I1.tok _, ⟨_, rfl⟩, q1⟩⟩
/-- o op p by an own method, both of one class -/
def rOwnBin (C : Addr) (sp : Sp) (E : XK) : R2 := fun x y H Q => ∃ a dx fs b dy gs, x = .ref a ∧ H a = some (.ins C dx fs) ∧ y = .ref b ∧ H b = some (.ins C dy gs) ∧ sp [.ref a, .ref b] H Q E
theorem op_binOwn {op : Operator} {m : Str} (hc : PySem.W.selfFirst X.K C = true) (hm : PySem.dunder op.info.2 = m) (M : Meth X.K C m f) (F : FnR X.prog X.w X.K X.mg X.base CX k f sp) (hr : Room k X.A) (hx : Passes CX X E) : OpR X (binaryOp op) (rOwnBin C sp E) := by
  subst hm
  intro pins s σ H x y v u Q I rx ry h
  obtain ⟨p, dx, fs, b, dy, gs, rfl, hp, rfl, hb, q⟩ := h
  obtain rfl : v = Value.ref p := rx
  obtain rfl : u = Value.ref b := ry
  obtain ⟨ox, od, J⟩ := ins_at I hp
  obtain ⟨oy, od', J'⟩ := ins_at I hb
  obtain ⟨m, fr⟩ := I.fr
  exact PySem.W.binop_K fr I.ok.mod.kin J J'.type hc M.at_ M.fn (thn (run_at (vs := [.ref p, .ref b]) F hr hx I (.cons rfl (.cons rfl .nil)) q) fun r s1 z => back_of z)
end
end Lp

set_option Elab.async false
set_option linter.all false
set_option maxRecDepth 100000
set_option maxHeartbeats 4000000
namespace Lp
open PySem PySem.Spec PyProof.Rows L2
/-! ### raise C(v), C an own exception class over any of the five bases -/
def tMkX (C : Addr) (f : Str) (te : TE) : L2.St → Hp → XK → Prop := fun σ H Q => te σ H fun v H1 => ∀ d, H1 d = none → Q (.ref C) (some d) (upd H1 d (.xd [(f, v)]))
section
variable {X : Cx} {x f : Str} {e : Expr} {te : TE} {p pos : Pos} {Bn newId B initId : String}
theorem pmk_x {CX : CXT} {C fI : Addr} {k : Nat} {fd : FuncData} {ps : List Str} {i' : String} {bm' : List Value} (F : ExcBaseFacts Bn newId i' bm') (T : XC X.K C Bn newId B initId) (iC : PySem.W.findIn X.K (.ref C) "__init__" = some (some (.ref fI))) (tI : PySem.W.typeIn X.K (.ref fI) = some (.type "function"))
    (F1 : FnOk X.prog X.w X.K X.mg X.base CX k fI fd ps (spXI C f)) (hr : Room (k + 1) X.A) (hb : Binds X.K fd ps []) (hx : Passes CX X (fun _ _ _ => False)) (hg : Gl X x) (hm : X.mg x = some (.ref C)) (ha : PE X e te)
    (hdb : (x == ("__debug__" : Str)) = false := by decide) (hs : starEach [e] X.env = (false, eval e X.env) :: starEach [] X.env := by rfl) (hpl : (backTo pos (starEach [] X.env)).any (·.1) = false := by rfl) :
    PMk X (.Call (.Name x p) [e] [] pos) (tMkX C f te) := by
  intro pins s σ H Q I h
  obtain ⟨nm, q, N, bs, bm, sn, sub, ab, col, dd, k0, k1, k2, k3, k5, hC, _, hBm, _⟩ := T.cls
  refine wpAny_Call_Name_kw (ld_glob I hg hm ?_ hdb)
  have hpa : PA X [e] (tCons te tNil) := pa_cons ha pa_nil hs
  refine PySem.W.callWith_K (h₀ := X.base) I.ok.mod.kin T.kC (thn (hpa.run pos pins s σ H (fun vs H1 => ∃ v, vs = [v] ∧ ∀ d, H1 d = none → Q (.ref C) (some d) (upd H1 d (.xd [(f, v)]))) I ?_) fun us s1 ⟨vs, H1, I1, r1, v, ev, q1⟩ => ⟨I1.kIn, ?_⟩) hs hpl
  · have e0 : (fun (y : V) (H1 : Hp) => ∃ v, ([y] : List V) = [v] ∧ ∀ d, H1 d = none → Q (.ref C) (some d) (upd H1 d (.xd [(f, v)]))) = fun y H1 => ∀ d, H1 d = none → Q (.ref C) (some d) (upd H1 d (.xd [(f, y)])) := by
      funext y H1
      exact propext ⟨fun ⟨v, e1, z⟩ => by cases e1; exact z, fun z => ⟨y, rfl, z⟩⟩
    show te σ H (fun (y : V) (H1 : Hp) => ∃ v, ([y] : List V) = [v] ∧ ∀ d, H1 d = none → Q (.ref C) (some d) (upd H1 d (.xd [(f, v)])))
    rw [e0]
    exact h
  subst ev
  obtain ⟨hp, g, dr, tk, os⟩ := s1
  have up : hp.objs.size ≤ hp.objs.size + 1 := Nat.le_succ _
  have na : H1 (hp.objs.size + 1) = none := I1.hok.fresh up
  have kk : ∀ b o, hp.get? b = some o → ((hp.push (PySem.W.kdv_tup us)).push (PySem.HandSPX.excO C hp.objs.size)).get? b = some o := fun b o e => Heap.get?_push_of_some _ (Heap.get?_push_of_some _ e)
  have hget : ((hp.push (PySem.W.kdv_tup us)).push (PySem.HandSPX.excO C hp.objs.size)).get? (hp.objs.size + 1) = some (PySem.HandSPX.excO C hp.objs.size) := by heap_get
  have I2 := I1.laid (t' := tk) (a := hp.objs.size + 1) (o := exo (hp.objs.size + 1) C none) (h' := (hp.push (PySem.W.kdv_tup us)).push (PySem.HandSPX.excO C hp.objs.size)) kk up (exo_ok hget)
  have hq : spXI C f [.ref (hp.objs.size + 1), v] (upd H1 (hp.objs.size + 1) (exo (hp.objs.size + 1) C none)) (fun z H2 => z = .non ∧ ∃ d, H1 d = none ∧ d ≠ hp.objs.size + 1 ∧ H2 = upd (upd (upd H1 (hp.objs.size + 1) (exo (hp.objs.size + 1) C none)) d (exd d [(f, v)])) (hp.objs.size + 1) (exo (hp.objs.size + 1) C (some d))) (fun _ _ _ => False) :=
    ⟨_, v, rfl, upd_same, fun dx nd ne => ⟨rfl, dx, by rw [upd_ne ne] at nd; exact nd, ne, rfl⟩⟩
  have r2 : Vals (V.ref (hp.objs.size + 1) :: [v]) (Value.ref (hp.objs.size + 1) :: us) := .cons rfl r1
  have hl : (Value.ref (hp.objs.size + 1) :: us).length = ps.length := (r2.length.symm.trans (F1.len _ _ _ _ hq))
  have hus : us.length ≤ sizeLine := by rw [← Paired.length r1, sizeLine_eq]; show 1 ≤ 16777216; decide
  have hb1 := hb _ (Value.ref (hp.objs.size + 1) :: us) I2.kIn (by simpa using hl)
  rw [List.append_nil] at hb1
  refine wpAny_call (LpX.call_own F hBm (I1.kIn _ _ hC) (PySem.W.looks_findIn I1.kIn iC) (fun self => PySem.W.bind_fn I1.kIn self tI) hus
    (codeAny_mono (F1.run _ X.stack _ _ ⟨Value.ref (hp.objs.size + 1) :: us, []⟩ (Value.ref (hp.objs.size + 1) :: us) _ _ (fun _ _ _ => False) (hr.make C us []) (I2.env0.make C us []) hb1 r2 hq) fun r s' hq' => ?_))
  rcases r with er | (_ | _ | _ | u)
  · exact hx pins σ _ _ er s' I2 hq'
  · exact False.elim hq'
  · exact False.elim hq'
  · exact False.elim hq'
  · obtain ⟨z, H2, os2, bare2, un2, hok2, rv, ez, d, nd, ne, eH⟩ := hq'
    subst ez
    subst eH
    obtain ⟨h2, g2, d2, t2, os'⟩ := s'
    refine ⟨rv, mk_end (fs := [(f, v)]) (d := d) (raises_own T.exC T.tyC) I1 up kk un2 hok2 os2 bare2 upd_same (by rw [upd_ne ne, upd_same]) nd ?_⟩
    have eF : upd (del (upd (upd (upd H1 (hp.objs.size + 1) (exo (hp.objs.size + 1) C none)) d (exd d [(f, v)])) (hp.objs.size + 1) (exo (hp.objs.size + 1) C (some d))) (hp.objs.size + 1)) d (.xd [(f, v)]) = upd H1 d (.xd [(f, v)]) := by
      funext b
      by_cases hbd : b = d
      · rw [hbd, upd_same, upd_same]
      · rw [upd_ne hbd, upd_ne hbd]
        by_cases hba : b = hp.objs.size + 1
        · rw [hba, del_same, na]
        · rw [del_ne hba, upd_ne hba, upd_ne hbd, upd_ne hba]
    rw [eF]
    exact q1 d nd
/-- isinstance(e, c), e the exception that the suite holds, with its dict -/
def rIsS (K : PySem.W.Frag) (a : Addr) (cls : Value) (d : Option Addr) : List V → Hp → VK → Prop := fun xs H Q => ∃ (D dd : Addr) (fs : List (Str × V)) (c : V) (cv : Value) (b : Bool), xs = [.ref a, c] ∧ cls = .ref D ∧ d = some dd ∧ H dd = some (.xd fs) ∧ XCe K D ∧ (∀ u, RelV c u → u = cv) ∧ PySem.W.kitOne K (.ref D) cv = some b ∧ Q (.bl b) H
theorem call_isS {a : Addr} {oe : Obj} {cls : Value} {d : Option Addr} {pn : List (Addr × Obj)} (hz : Zc cls d oe) (hf : ∃ vs, oe.data = .fields vs) : CallR (X.suite a ((a, oe) :: pn)) (.builtin "isinstance") (rIsS X.K a cls d) := by
  intro pins s σ H xs us Q I r h
  obtain ⟨D, dd, fs, c, cv, b, rfl, ec, ed, hd, ⟨Bn, newId, B, initId, T⟩, hcv, hk, q⟩ := h
  subst ec
  subst ed
  cases r with
  | cons rx rr =>
    cases rr with
    | cons rt rr =>
      cases rr
      cases rx
      have e1 := hcv _ rt
      subst e1
      obtain ⟨hget, _⟩ := I.pin (a, oe) (List.mem_append.mpr (.inl List.mem_cons_self))
      obtain ⟨vs, hv⟩ := hf
      have hx : ObjOk X.prog X.w H s.heap dd (.xd fs) := I.hok dd _ hd
      obtain ⟨mA, hns, _⟩ := hx
      obtain ⟨od, ho, _⟩ := lookIn_ns hns
      have J : PySem.W.InstAt s.heap a oe D (some od) := ⟨hget, hz.1, by unfold PySem.W.notCls; rw [hv] <;> rfl, by rw [hz.2]; exact ho⟩
      obtain ⟨cd, hcl, _⟩ := T.cl
      exact PySem.W.kia_one (PySem.W.kitx_exc (by rw [hcl]; rfl) T.ga T.gg T.exC T.ha T.hn T.ht T.hm) I.kIn J hk (fun z => nomatch z) fun tk => ⟨.bl b, H, I.kept (t' := tk) fun _ _ z => z, rfl, q⟩
theorem XC.xf {K : PySem.W.Frag} {C : Addr} (T : XC K C Bn newId B initId) : XfC K C := ⟨T.ga, T.gg, T.exC, T.hd⟩
/-- an error of the class C is what «except D» names, or not -/
theorem exm_x {K : PySem.W.Frag} {C D : Addr} {b : Bool} {Bn' newId' B' initId' : String} (T : XC K D Bn' newId' B' initId') (h : PySem.W.subIn K (.ref C) (.ref D) = some b) : PySem.W.exmOne K (.ref C) (.ref D) = some b := PySem.W.exm_ref T.exC T.hd T.tyC h
end
end Lp

set_option Elab.async false
set_option linter.all false
set_option maxRecDepth 100000
set_option maxHeartbeats 4000000
namespace PySem.W
open PySem PySem.Calls PyProof.Rows
section
variable {prog : Program} {w : World} {A : Around} {E : Value → Shared → Prop} {s : Shared} {K : Frag} {x C L f : Addr} {h₀ : Heap} {m : Str → Option Value} {ox : Obj} {od : Option Obj} {T : String}
/-- o op b, b of a built-in class T (an object or not), o's own method in Python -/
theorem lp_binT {op : Operator} {b : Value} {fo ro rc : Option Value} {Q : Value → Shared → Prop} (X : K.In s.heap) (I : InstAt s.heap x ox C od) (hb : Looks (model prog w) s.heap (typeOf b) (.type T)) (hc : selfFirst K C = true)
    (hs : findIn K (.ref C) (PySem.dunder op.info.2) = some (some (.ref f))) (hf : isFn K (.ref f) = true) (hr : findIn K (.ref C) (dunderR op.info.2) = some rc) (hp : rc = none ∨ ∃ g : Addr, rc = some (.ref g))
    (h1 : findIn K (.type T) (PySem.dunder op.info.2) = some fo) (h2 : findIn K (.type T) (dunderR op.info.2) = some ro) (hsub : subIn K (.type T) (.ref C) = some false)
    (h : wpAny (model prog w) A (call (.ref f) [.ref x, b]) (CmpBack Q) E s) : wpAny (model prog w) A (binaryOp op (.ref x) b) Q E s := by
  obtain ⟨cd, tl, hcd, hmro⟩ := ksp_first hc
  rcases hi : op.info with ⟨sym, nm⟩
  rw [hi] at hs hr h1 h2
  have own := ksp_try X I hs hf h
  obtain ⟨hh, g, d, tt, os⟩ := s
  have T1 : Looks (model prog w) hh (typeOf (.ref x)) (.ref C) := I.type
  have S1 : Looks (model prog w) hh (fillsNumberSlot (.ref C) nm) true := fills_K X hcd hmro hs
  have S2 : Looks (model prog w) hh (fillsNumberSlot (.type T) nm) ((fo.isSome && !isSeqSlot fo) || (ro.isSome && !isSeqSlot ro)) := ksp_fillsT X h1 h2
  have B1 : Looks (model prog w) hh (isSubtype (.type T) (.ref C)) false := looks_subIn X hsub
  have P1 : Looks (model prog w) hh (numberSlotInPython (.ref C) nm) true := ksp_inPy X hs hr hp
  have P2 : Looks (model prog w) hh (numberSlotInPython (.type T) nm) false := Looks.of_pure rfl
  have Z1 : Looks (model prog w) hh (typeLookup (.type T) (dunderR nm)) ro := looks_findIn X h2
  generalize ((fo.isSome && !isSeqSlot fo) || (ro.isSome && !isSeqSlot ro)) = other at S2
  have apart : (Value.ref C == Value.type T) = false := Bool.eq_false_iff.mpr fun q => by cases beq_iff_eq.mp q
  simp only [binaryOp, hi]
  refine wpAny_holding (wpAny_bind ?_)
  unfold binaryOp1
  refine wpAny_bind (T1.at (wpAny_bind (hb.at (wpAny_bind (S1.at ?_)))))
  simp only [apart, Bool.false_eq_true, if_false]
  cases other
  all_goals
    ksp_lk
    refine wpAny_mono own (fun r s' z => ?_) fun _ _ e => e
    obtain ⟨v, rfl, hq⟩ := z
    ksp_lk
    exact hq
end
end PySem.W
namespace Lp
open PySem PySem.Spec PyProof.Rows L2
section
variable {X : Cx} {CX : CXT} {k : Nat} {f C : Addr} {sp : Sp} {E : L2.St → XK} {pins : List (Addr × Obj)} {σ : L2.St} {H : Hp} {s : Shared} {Q : VK} {us : List Value} {vs : List V}
theorem run_atS {E : XK} (F : FnR X.prog X.w X.K X.mg X.base CX k f sp) (hr : Room k X.A) (hx : PassesAt CX X σ E) (I : Inv X pins σ H s) (r : Vals vs us) (h : sp vs H Q E) : wpAny (model X.prog X.w) X.A (call (.ref f) us) (EP X pins σ Q) X.xe s := by
  refine wpAny_call (codeAny_mono (F X.A X.stack s H us vs Q E hr I.env0 r h) fun r s' hq => ?_)
  rcases r with er | (_ | _ | _ | u)
  · exact hx pins H s er s' I hq
  · exact False.elim hq
  · exact False.elim hq
  · exact False.elim hq
  · exact I.after hq
/-- what stands at the right of an own operator: an instance of the same class, or something of a built-in class -/
structure Oth (K : PySem.W.Frag) (C : Addr) (nm T : String) : Prop where
  f : ∃ fo, PySem.W.findIn K (.type T) (PySem.dunder nm) = some fo
  r : ∃ ro, PySem.W.findIn K (.type T) (dunderR nm) = some ro
  s : PySem.W.subIn K (.type T) (.ref C) = some false
def OthV (K : PySem.W.Frag) (H : Hp) (C : Addr) (nm : String) (y : V) : Prop := (∃ b dy gs, y = .ref b ∧ H b = some (.ins C dy gs)) ∨ ∃ T, TyX K H y (.type T) ∧ Oth K C nm T
structure BinC (K : PySem.W.Frag) (C : Addr) (nm : String) (f : Addr) : Prop where
  first : PySem.W.selfFirst K C = true
  at_ : PySem.W.findIn K (.ref C) (PySem.dunder nm) = some (some (.ref f))
  fn : PySem.W.isFn K (.ref f) = true
  nor : PySem.W.findIn K (.ref C) (dunderR nm) = some none
def tBinS (K : PySem.W.Frag) (C : Addr) (nm : String) (sp : Sp) (E : L2.St → XK) (ta tb : TE) : TE := fun σ H Q => ta σ H fun x H1 => tb σ H1 fun y H2 => ∃ a dx fs, x = .ref a ∧ H2 a = some (.ins C dx fs) ∧ OthV K H2 C nm y ∧ sp [.ref a, y] H2 Q (E σ)
theorem bin_run {op : Operator} {nm : String} {E : XK} {a dx : Addr} {fs : List (Str × V)} {y : V} {u : Value} (hn : op.info.2 = nm) (B : BinC X.K C nm f) (F : FnR X.prog X.w X.K X.mg X.base CX k f sp) (hr : Room k X.A) (hx : PassesAt CX X σ E) (I : Inv X pins σ H s)
    (ha : H a = some (.ins C dx fs)) (ho : OthV X.K H C nm y) (ry : RelV y u) (h : sp [.ref a, y] H Q E) : wpAny (model X.prog X.w) X.A (binaryOp op (.ref a) u) (EP X pins σ Q) X.xe s := by
  subst hn
  obtain ⟨ox, od, J⟩ := ins_at I ha
  obtain ⟨m, fr⟩ := I.fr
  have own := thn (run_atS (vs := [.ref a, y]) F hr hx I (.cons rfl (.cons ry .nil)) h) fun r s1 z => back_of z
  rcases ho with ⟨b, dy, gs, rfl, hb⟩ | ⟨T, ty, ⟨fo, h1⟩, ⟨ro, h2⟩, h3⟩
  · obtain rfl : u = Value.ref b := ry
    obtain ⟨oy, od', J'⟩ := ins_at I hb
    exact PySem.W.binop_K fr I.ok.mod.kin J J'.type B.first B.at_ B.fn own
  · obtain ⟨PP, kit, hP, _⟩ := kit_of I ry ty
    exact PySem.W.lp_binT I.kIn J (kit.ty _ _ I.kIn hP) B.first B.at_ B.fn B.nor (.inl rfl) h1 h2 h3 own
theorem pe_binS {op : Operator} {nm : String} {a b : Expr} {ta tb : TE} {pos : Pos} (hn : op.info.2 = nm) (B : BinC X.K C nm f) (F : FnR X.prog X.w X.K X.mg X.base CX k f sp) (hr : Room k X.A) (hx : ∀ σ, PassesAt CX X σ (E σ)) (ha : PE X a ta) (hb : PE X b tb) :
    PE X (.BinOp a op b pos) (tBinS X.K C nm sp E ta tb) := by
  refine ⟨fun pins s σ H Q I h => ?_⟩
  refine wpAny_BinOp (binT ha hb I h fun v u s2 x y H2 I2 rx ry q => ?_)
  obtain ⟨p, dx, fs, rfl, hp, ho, q⟩ := q
  obtain rfl : v = Value.ref p := rx
  exact bin_run hn B F hr (hx σ) I2 hp ho ry q
theorem run_fnRS {E : XK} (F : FnR X.prog X.w X.K X.mg X.base CX k f sp) (hr : Room k X.A) (hx : PassesAt CX X σ E) (I : Inv X pins σ H s) (r : Vals vs us) (h : sp vs H Q E) :
    codeAny (model X.prog X.w) X.A (.call (.ref f) ⟨us, []⟩) (fun r s' => match r with | .ok (.ret v) => EP X pins σ Q v s' | .ok _ => False | .error e => X.xe e s') s := by
  refine codeAny_mono (F X.A X.stack s H us vs Q E hr I.env0 r h) fun r s' hq => ?_
  rcases r with er | (_ | _ | _ | u)
  · exact hx pins H s er s' I hq
  · exact False.elim hq
  · exact False.elim hq
  · exact False.elim hq
  · exact I.after hq
/-- o.m(e, ..) whose error is wished for at the slots -/
def tMethSS (C : Addr) (m : Str) (sp : Sp) (E : L2.St → XK) (ta : TE) (t : TA) : TE := fun σ H Q => ta σ H fun x H1 => ∃ a dx fs, x = .ref a ∧ H1 a = some (.ins C dx fs) ∧ fs.lookup m = none ∧ t σ H1 fun vs H2 => sp (x :: vs) H2 Q (E σ)
theorem pe_methSS {m : Str} {o e : Expr} {es : List Expr} {ta : TE} {t : TA} {apos pos : Pos} {pl : Sem Bool} (c : Cls X.K C) (hm : Meth X.K C m f) (F : FnR X.prog X.w X.K X.mg X.base CX k f sp) (hr : Room k X.A) (hx : ∀ σ, PassesAt CX X σ (E σ)) (he : PE X o ta) (ha : PA X (e :: es) t)
    (hst : starEach (e :: es) X.env = (false, eval e X.env) :: starEach es X.env := by rfl) (hpl : (backTo pos (starEach es X.env)).any (·.1) = false := by rfl)
    (ht : eval (.Call (.Attribute o m apos) (e :: es) [] pos) X.env = (do
      let ov ← eval o X.env
      standAt apos.atName
      let (f, first) ← holding [ov] (getMethod ov m pl)
      callWith pos f first (backTo pos (starEach (e :: es) X.env)) (backToKw pos (keywordEach [] X.env))) := by rfl) : PE X (.Call (.Attribute o m apos) (e :: es) [] pos) (tMethSS C m sp E ta t) := by
  refine ⟨fun pins s σ H Q I h => ?_⟩
  refine PySem.W.methodCall_KW (pl := pl) (thn (he.run pins s σ H _ I h) fun u s1 ⟨x, H1, I1, rx, a, dx, fs, ex, ea, l, q⟩ => ?_) ht
  subst ex
  obtain rfl : u = Value.ref a := rx
  refine getmeth_ok I1 ea c hm l ?_
  refine PySem.W.callWith_K (first := [.ref a]) (h₀ := X.base) I.ok.mod.kin hm.kp (thn (ha.run pos pins s1 σ H1 _ I1 q) fun us s2 ⟨vs, H2, I2, r, q2⟩ => ⟨I2.kIn, ?_⟩) hst hpl
  exact run_atS (us := .ref a :: us) (vs := .ref a :: vs) F hr (hx σ) I2 (.cons rfl r) q2
/-- C(e, ..) whose __init__ may raise, wished for at the slots -/
def tMakeSS (C : Addr) (sp : Sp) (E : L2.St → XK) (t : TA) : TE := fun σ H Q => t σ H fun vs H1 => ∀ x dx, H1 x = none → H1 dx = none → dx ≠ x → sp (.ref x :: vs) (upd (upd H1 dx (.own x)) x (.ins C dx [])) (fun v H2 => v = .non ∧ Q (.ref x) H2) (E σ)
theorem run_makeS {E : XK} (M : Mk X.K C f) (F : FnR X.prog X.w X.K X.mg X.base CX k f sp) (hr : Room (k + 1) X.A) (hx : ∀ (H : Hp) (s : Shared), Inv X pins σ H s → ∀ er s', CX X.stack H s E er s' → X.xe er s') (I : Inv X pins σ H s) (r : Vals vs us)
    (h : ∀ x dx, H x = none → H dx = none → dx ≠ x → sp (.ref x :: vs) (upd (upd H dx (.own x)) x (.ins C dx [])) (fun v H2 => v = .non ∧ Q (.ref x) H2) E) : wpAny (model X.prog X.w) X.A (call (.ref C) us) (EP X pins σ Q) X.xe s := by
  have hq := h (s.heap.objs.size + 1) s.heap.objs.size (I.hok.fresh (Nat.le_succ _)) (I.hok.fresh (Nat.le_refl _)) (Nat.ne_of_lt (Nat.lt_succ_self _))
  have I2 := Inv.made (C := C) I
  have r2 : Vals (V.ref (s.heap.objs.size + 1) :: vs) (Value.ref (s.heap.objs.size + 1) :: us) := .cons rfl r
  refine wpAny_call (make_map (f := f) I.kIn M.makes M.init (beq_iff_eq.mp M.fn) (codeAny_mono (F _ X.stack _ _ (Value.ref (s.heap.objs.size + 1) :: us) _ _ E (hr.make C us []) (I2.env0.make C us []) r2 hq) fun r s' hq' => ?_))
  rcases r with er | (_ | _ | _ | u)
  · exact hx _ _ I2 er s' hq'
  · exact False.elim hq'
  · exact False.elim hq'
  · exact False.elim hq'
  · obtain ⟨v, H', I3, rv, ev, q3⟩ := I2.after hq'
    subst ev
    exact ⟨rv, ⟨V.ref (s.heap.objs.size + 1), H', I3, rfl, q3⟩⟩
theorem pe_makeSS {x : Str} {e : Expr} {es : List Expr} {t : TA} {p pos : Pos} (M : Mk X.K C f) (F : FnR X.prog X.w X.K X.mg X.base CX k f sp) (hr : Room (k + 1) X.A) (hx : ∀ σ, PassesAt CX X σ (E σ)) (hg : Gl X x) (hm : X.mg x = some (.ref C)) (ha : PA X (e :: es) t)
    (hdb : (x == ("__debug__" : Str)) = false := by decide) (he : starEach (e :: es) X.env = (false, eval e X.env) :: starEach es X.env := by rfl) (hpl : (backTo pos (starEach es X.env)).any (·.1) = false := by rfl) :
    PE X (.Call (.Name x p) (e :: es) [] pos) (tMakeSS C sp E t) := by
  refine ⟨fun pins s σ H Q I h => ?_⟩
  refine wpAny_Call_Name_kw (ld_glob I hg hm ?_ hdb)
  refine PySem.W.callWith_K (h₀ := X.base) I.ok.mod.kin M.kp (thn (ha.run pos pins s σ H _ I h) fun us s1 ⟨vs, H1, I1, r, q⟩ => ⟨I1.kIn, ?_⟩) he hpl
  exact run_makeS M F hr (fun H s I er s' z => hx σ pins H s er s' I z) I1 r q
/-- o(e, ..), o an instance -/
def tCallOS (C : Addr) (sp : Sp) (E : L2.St → XK) (tf : TE) (t : TA) : TE := fun σ H Q => tf σ H fun y H1 => ∃ a, y = V.ref a ∧ t σ H1 fun vs H2 => (∃ dx fs, H2 a = some (.ins C dx fs)) ∧ sp (V.ref a :: vs) H2 Q (E σ)
theorem pe_callOS {fe e : Expr} {es : List Expr} {tf : TE} {t : TA} {pos : Pos} (c : StX.CallO X.K C f) (F : FnR X.prog X.w X.K X.mg X.base CX k f sp) (hr : Room k X.A) (hx : ∀ σ, PassesAt CX X σ (E σ)) (hf : PE X fe tf) (ha : PA X (e :: es) t)
    (ht : eval (.Call fe (e :: es) [] pos) X.env = (do callWith pos (← eval fe X.env) [] (backTo pos (starEach (e :: es) X.env)) (backToKw pos (keywordEach [] X.env))) := by rfl)
    (he : starEach (e :: es) X.env = (false, eval e X.env) :: starEach es X.env := by rfl) (hpl : (backTo pos (starEach es X.env)).any (·.1) = false := by rfl) : PE X (.Call fe (e :: es) [] pos) (tCallOS C sp E tf t) := by
  refine ⟨fun pins s σ H Q I h => ?_⟩
  refine Call_ (thn (hf.run pins s σ H _ I h) fun u s1 ⟨y, H1, I1, ry, a, ey, q⟩ => ?_) ht
  subst ey
  obtain rfl : u = Value.ref a := ry
  refine StX.callO_with (thn (ha.run pos pins s1 σ H1 _ I1 q) fun us s2 ⟨vs, H2, I2, r, ⟨dx, fs, hi⟩, q2⟩ => ?_) he hpl
  obtain ⟨ox, od, J, hd⟩ := StX.insC_at (C := C) I2 (.inr ⟨dx, fs, hi⟩)
  exact ⟨⟨C, ox, od, J, hd⟩, wpAny_call (PySem.W.kco_code I2.kIn J hd c.at_ c.fn c.fi (run_fnRS (us := .ref a :: us) (vs := .ref a :: vs) F hr (hx σ) I2 (.cons rfl r) q2))⟩
/-- the dict or list that a statement leaves is locked for good -/
def tFrz (t : TS) : TS := fun D σ H => t { D with nx := fun σ' H' => ∃ d u, H' d = some u ∧ Mut (some u) ∧ ∀ od, D.nx σ' (upd H' d (.frz od u)) } σ H
theorem ps_frz {st : Stmt} {t : TS} (h : PS X st t) : PS X st (tFrz t) := by
  refine ⟨fun pins s σ H D I hw => thn (h.run pins s σ H _ I hw) fun fl s1 q => ?_⟩
  rcases fl with _ | _ | _ | v
  · obtain ⟨σ', H', I', d, u, hd, mu, q⟩ := q
    obtain ⟨od, I1⟩ := I'.lock hd mu
    exact ⟨σ', _, I1, q od⟩
  · exact q
  · exact q
  · exact q
end
end Lp
namespace Lp
open PySem PySem.Spec PyProof.Rows L2
/-- what isinstance asks of an own class -/
structure OwnC (K : PySem.W.Frag) (C : Addr) : Prop where
  ha : PySem.W.findIn K (.ref C) "__class__" = some (some (.builtin "object.__class__"))
  hn : PySem.W.specialIn K (.builtin "object.__class__") "__get__" = some (some (.builtin "getset_descriptor.__get__"))
  ht : PySem.W.takesIn K (.builtin "object.__class__") = some true
  hm : PySem.W.mroIn K C (.type "object") = some true
  sf : PySem.W.selfFirst K C = true
  ns : PySem.W.noSeq K C = true
def ownB (K : PySem.W.Frag) (C : Addr) : Bool := decide (PySem.W.findIn K (.ref C) "__class__" = some (some (.builtin "object.__class__"))) && (decide (PySem.W.specialIn K (.builtin "object.__class__") "__get__" = some (some (.builtin "getset_descriptor.__get__"))) &&
  (decide (PySem.W.takesIn K (.builtin "object.__class__") = some true) && (decide (PySem.W.mroIn K C (.type "object") = some true) && (PySem.W.selfFirst K C && PySem.W.noSeq K C))))
theorem ownB_ok {K : PySem.W.Frag} {C : Addr} (h : ownB K C = true) : OwnC K C := by
  unfold ownB at h
  simp only [Bool.and_eq_true, decide_eq_true_eq] at h
  exact ⟨h.1, h.2.1, h.2.2.1, h.2.2.2.1, h.2.2.2.2.1, h.2.2.2.2.2⟩
theorem tyIns {K : PySem.W.Frag} {H : Hp} {a C dx : Addr} {fs : List (Str × V)} (c : Cls K C) (o : OwnC K C) (h : H a = some (.ins C dx fs)) : TyX K H (.ref a) (.ref C) := .base (.ins h c o.ha o.hn o.ht o.hm)
theorem raw0 {P : Program} {w : World} {K : PySem.W.Frag} {mg : Str → Option Value} {base : Heap} {CX : CXT} {k : Nat} {f : Addr} {fd : FuncData} {ps : List Str} {sp : Sp} (F : FnOk P w K mg base CX k f fd ps sp) (hb : Binds K fd ps []) : FnR P w K mg base CX k f sp :=
  (F.raw hb .nil).imp fun vs H Q E h => by rw [List.append_nil]; exact h
end Lp

set_option Elab.async false
set_option linter.all false
set_option maxRecDepth 100000
set_option maxHeartbeats 4000000
namespace Lp
open PySem PySem.Spec PyProof.Rows L2
/-- an own class that is none of the built-in ones -/
def NotB (K : PySem.W.Frag) (C : Addr) : Prop := ∀ T ∈ ["int", "str", "dict", "list", "tuple", "bool"], PySem.W.mroIn K C (.type T) = some false
def notB (K : PySem.W.Frag) (C : Addr) : Bool := ["int", "str", "dict", "list", "tuple", "bool"].all fun T => decide (PySem.W.mroIn K C (.type T) = some false)
theorem notB_ok {K : PySem.W.Frag} {C : Addr} (h : notB K C = true) : NotB K C := fun T hT => of_decide_eq_true (List.all_eq_true.mp h T hT)
/-- a built-in value is no instance of an own class -/
theorem kit_no {K : PySem.W.Frag} {C : Addr} {T : String} (h : ((PySem.W.clsIn K C).isSome && PySem.W.typeIn K (.ref C) == some (.type "type")) = true) (hT : T ∈ ["NoneType", "int", "str", "dict", "list", "tuple", "bool"]) : PySem.W.kitOne K (.type T) (.ref C) = some false := by
  have e : PySem.W.kitOne K (.type T) (.ref C) = PySem.W.subIn K (.type T) (.ref C) := by
    show (if (Value.type T == Value.ref C) = true then some true else if _ = true then PySem.W.subIn K (.type T) (.ref C) else none) = _
    rw [if_neg (by simp), if_pos h]
  rw [e]
  simp only [List.mem_cons, List.not_mem_nil, or_false] at hT
  rcases hT with rfl | rfl | rfl | rfl | rfl | rfl | rfl <;> rfl
theorem kit_self {K : PySem.W.Frag} {C : Addr} : PySem.W.kitOne K (.ref C) (.ref C) = some true := by
  show (if (Value.ref C == Value.ref C) = true then some true else _) = _
  rw [if_pos (beq_self_eq_true _)]
theorem kit_own {K : PySem.W.Frag} {C : Addr} (n : NotB K C) {T : String} (hm : PySem.W.kitMeta T = true) (hT : T ∈ ["int", "str", "dict", "list", "tuple", "bool"]) : PySem.W.kitOne K (.ref C) (.type T) = some false := by
  show (if (Value.ref C == Value.type T) = true then some true else if _ = true then PySem.W.subIn K (.ref C) (.type T) else none) = _
  rw [if_neg (by simp), if_pos hm]
  exact n T hT
theorem pe_dead {X : Cx} {e : Expr} : PE X e (fun _ _ _ => False) := ⟨fun _ _ _ _ _ _ h => False.elim h⟩
theorem r_nil {σ : L2.St} {H : Hp} {Q : List V → Hp → Prop} (h : Q [] H) : tNil σ H Q := h
section
variable {X : Cx}
/-- a dict that is locked, or is locked here for a while -/
def tLockR (t : TE) : TE := fun σ H Q => t σ H Q ∨ tLockE t σ H Q
theorem pe_lockR {e : Expr} {t : TE} (h : PE X e t) : PE X e (tLockR t) :=
  ⟨fun pins s σ H Q I q => q.elim (h.run pins s σ H Q I) ((pe_lock h).run pins s σ H Q I)⟩
theorem Same.unlock {H H' : Hp} {d : Addr} {od : Obj} {u : HO} (h : H d = some u) (s : Same (upd H d (.frz od u)) H') : Same H (upd H' d u) := fun b o e => by
  by_cases hb : b = d
  · rw [hb] at e ⊢
    rw [h] at e
    rw [upd_same]
    exact e
  · rw [upd_ne hb]
    exact s b o (by rw [upd_ne hb]; exact e)
theorem lockR_of {t : TE} {σ : L2.St} {H : Hp} {Q : VK} {d : Addr} {u : HO} {v : V} (hd : Rd H d u) (mu : Mut (some u)) (h : ∀ (o : Obj) (H1 : Hp) (Q1 : VK), H1 d = some (.frz o u) → (∀ H', Same H1 H' → Q1 v H') → t σ H1 Q1) (q : ∀ H', Same H H' → Q v H') : tLockR t σ H Q := by
  rcases hd with hd | ⟨o, hd⟩
  · refine .inr ⟨d, u, hd, mu, fun od => h od _ _ upd_same fun H' s => ⟨s _ _ upd_same, q _ (Same.unlock hd s)⟩⟩
  · exact .inl (h o H Q hd q)
/-- the value of a key of a dict -/
theorem valV_at : ∀ {kvs : List (Key × V)} {i : Nat} {k : Key} {v : V}, (kvs.map (·.1)).Nodup → kvs[i]? = some (k, v) → valV kvs k = some v
  | [], _, _, _, _, h => by simp at h
  | p :: r, 0, k, v, _, h => by
    simp at h
    subst h
    exact valV_pos rfl
  | p :: r, i + 1, k, v, nd, h => by
    obtain ⟨n1, n2⟩ := List.nodup_cons.mp (show (p.1 :: r.map (·.1)).Nodup from nd)
    have h' : r[i]? = some (k, v) := by simpa using h
    rw [valV_neg fun e => n1 (by rw [e]; exact List.mem_map.mpr ⟨_, List.mem_of_getElem? h', rfl⟩)]
    exact valV_at n2 h'

def puts (l : List (Key × V)) : List (Key × V) := l.foldl (fun a p => putK a p.1 p.2) []
theorem puts_snoc (l : List (Key × V)) (p : Key × V) : puts (l ++ [p]) = putK (puts l) p.1 p.2 := by
  unfold puts
  rw [List.foldl_append]
  rfl
theorem puts_len (l : List (Key × V)) : (puts l).length ≤ l.length := by
  suffices h : ∀ (l a : List (Key × V)), (l.foldl (fun a p => putK a p.1 p.2) a).length ≤ a.length + l.length by
    have := h l []
    rw [List.length_nil, Nat.zero_add] at this
    exact this
  intro l
  induction l with
  | nil => intro a; simp
  | cons p r ih =>
    intro a
    have h1 := ih (putK a p.1 p.2)
    have h2 := length_putK a p.1 p.2
    show (r.foldl _ (putK a p.1 p.2)).length ≤ a.length + (r.length + 1)
    omega
theorem putK_new {kvs : List (Key × V)} {k : Key} {v : V} (h : k ∉ kvs.map (·.1)) : putK kvs k v = kvs ++ [(k, v)] := by
  unfold putK
  rw [if_neg]
  intro q
  obtain ⟨p, hp, e⟩ := List.any_eq_true.mp q
  exact h (List.mem_map.mpr ⟨p, hp, of_decide_eq_true e⟩)
theorem puts_nodup {l : List (Key × V)} (nd : (l.map (·.1)).Nodup) : puts l = l := by
  suffices h : ∀ (l a : List (Key × V)), ((a ++ l).map (·.1)).Nodup → l.foldl (fun a p => putK a p.1 p.2) a = a ++ l by
    exact h l [] nd
  intro l
  induction l with
  | nil => intro a _; simp
  | cons p r ih =>
    intro a nd
    have hn : p.1 ∉ a.map (·.1) := fun hm => by
      rw [List.map_append, List.nodup_append] at nd
      exact nd.2.2 _ hm _ (List.mem_map.mpr ⟨p, List.mem_cons_self .., rfl⟩) rfl
    show r.foldl _ (putK a p.1 p.2) = a ++ p :: r
    rw [putK_new hn, ih _ (by rw [List.append_assoc]; exact nd), List.append_assoc]
    rfl
/-- a dict comprehension: f tells which turns give, key and R what they give -/
theorem dc_gw {J : It} {n : Nat} {G : Hp → Prop} {Y : Nat → Hp → V → Hp → Prop} (w : Walk J n G Y) {g : TG} {tt : TT} {tk tv : TE} {vs : List Nat} {σ : L2.St} {F0 H1 : Hp} {D : Addr} {Qd : Hp → Prop} (f : Nat → Bool) (key : Nat → Key) (R : Nat → V → Hp → Prop) (Rm : ∀ i y A B, Same A B → R i y A → R i y B)
    (s0 : Same F0 H1) (hD : H1 D = none) (hn : n < 100000) (hG : ∀ H, Same H1 H → G H)
    (hs : ∀ i x F H H' (Qn : V → V → Hp → Prop) (Qs : Hp → Prop), i < n → Gw F0 H1 F H → Y i H x H' → (f i = true → ∀ z F' H4, Gw F H F' H4 → R i z F' → Qn (kV (key i)) z H4) → (f i = false → ∀ F' H4, Gw F H F' H4 → Qs H4) →
      g x (wipe σ vs) H' fun σ2 H2 => wipe σ2 vs = wipe σ vs ∧ tt σ2 H2 fun b H3 => if b = true then tk σ2 H3 fun y H4 => tv σ2 H4 fun z H5 => Qn y z H5 else Qs H3)
    (hd : ∀ ys F H, Gw F0 H1 F H → F D = none → Paired (fun i y => R i y F) ((List.range n).filter f) ys → H D = some (.dK (puts ((((List.range n).filter f).map key).zip ys))) → Qd H) :
    ∃ W : Nat → Nat → Hp → Prop, (∃ m, W 0 m (upd H1 D (.dK []))) ∧ ∀ i m H, W i m H →
      (J.stop i H ∧ Qd H) ∨ (J.go i H ∧ ∃ Nx : Hp → Prop, (∀ H', Nx H' → ∃ m', m' < m ∧ W (i + 1) m' H') ∧ ∀ x H', J.yld i H x H' → g x (wipe σ vs) H' fun σ2 H2 => wipe σ2 vs = wipe σ vs ∧ tt σ2 H2 fun b H3 =>
        if b = true then tk σ2 H3 fun y H4 => tv σ2 H4 fun z H5 => ∃ kvs k, y = kV k ∧ H5 D = some (.dK kvs) ∧ kvs.length < sizeLine ∧ Nx (upd H5 D (.dK (putK kvs k z))) else Nx H3) := by
  have ext : ∀ {k : Nat}, (List.range (k + 1)).filter f = (List.range k).filter f ++ (if f k = true then [k] else []) := fun {k} => by
    rw [List.range_succ, List.filter_append]
    by_cases e : f k = true
    · simp [e]
    · simp [e]
  let Pv : Nat → Hp → Prop := fun i H => ∃ F ys, Gw F0 H1 F H ∧ F D = none ∧ Paired (fun i y => R i y F) ((List.range i).filter f) ys ∧ H D = some (.dK (puts ((((List.range i).filter f).map key).zip ys)))
  refine ⟨fun i m H => m = n - i ∧ i ≤ n ∧ Pv i H, ⟨n, by simp, Nat.zero_le _, F0, [], Gw.junk s0 hD, same_off s0 hD, .nil, upd_same⟩, ?_⟩
  rintro i m H ⟨rfl, hi, F, ys, gw, fD, pr, hH⟩
  have q := hG H gw.hh
  by_cases hlt : i < n
  · refine .inr ⟨w.goes i H hlt q, Pv (i + 1), fun H' p' => ⟨n - (i + 1), by omega, rfl, hlt, p'⟩, fun x H' hy => ?_⟩
    refine hs i x F H H' (fun y z H5 => ∃ kvs k, y = kV k ∧ H5 D = some (.dK kvs) ∧ kvs.length < sizeLine ∧ Pv (i + 1) (upd H5 D (.dK (putK kvs k z)))) (Pv (i + 1)) hlt gw (w.yields i H x H' hlt q hy) (fun hf z F' H4 g4 r => ?_) (fun hf F' H4 g4 => ?_)
    · have len : ((((List.range i).filter f).map key).zip ys).length ≤ i := by
        rw [List.length_zip, ← pr.length, List.length_map]
        have := List.length_filter_le f (List.range i)
        rw [List.length_range] at this
        omega
      have len2 := puts_len ((((List.range i).filter f).map key).zip ys)
      refine ⟨_, key i, rfl, g4.hh _ _ hH, Nat.lt_of_le_of_lt len2 (Nat.lt_of_le_of_lt len (Nat.lt_trans hlt (Nat.lt_of_lt_of_le hn (by decide)))), F', ys ++ [z], (gw.trans g4).mut hD (g4.off fD hH), g4.off fD hH, ?_, ?_⟩
      · rw [ext, if_pos hf]
        exact paired_app (paired_imp (fun a b q => Rm _ _ _ _ g4.ff q) pr) (.cons r .nil)
      · rw [upd_same, ext, if_pos hf, List.map_append, List.zip_append (by rw [List.length_map]; exact pr.length)]
        show _ = some (HO.dK (puts (_ ++ [(key i, z)])))
        rw [puts_snoc]
    · refine ⟨F', ys, gw.trans g4, g4.off fD hH, ?_, ?_⟩
      · rw [ext, if_neg (by rw [hf]; decide), List.append_nil]
        exact paired_imp (fun a b q => Rm _ _ _ _ g4.ff q) pr
      · rw [ext, if_neg (by rw [hf]; decide), List.append_nil]
        exact g4.hh _ _ hH
  · have e : i = n := by omega
    subst e
    exact .inl ⟨w.stops H q, hd ys F H gw fD pr hH⟩
end
end Lp

set_option Elab.async false
set_option linter.all false
set_option maxRecDepth 100000
set_option maxHeartbeats 4000000
namespace Lp
open PySem PySem.Spec PyProof.Rows L2
/-! ### a dict of plain values shown while other things are being shown -/
theorem reprK_flat {P : Program} {w : World} {h : Heap} {v : V} {u : Value} (f : flD v = true) (r : RelV v u) (sw : (vD v).showable = true) (hz : (vD v).shown.length ≤ sizeLine) : ReprK P w [] h 0 u (vD v).shown := by
  cases v with
  | non => cases r; exact .of_is .none _ _ _
  | bl b => cases r; exact .of_is (.bool b) _ _ _
  | int i => obtain ⟨t, rfl⟩ := r; exact .of_is (.int t (of_decide_eq_true sw)) _ _ _
  | str x => obtain ⟨t, rfl⟩ := r; exact .of_is (.str x t hz) _ _ _
  | byt b => cases f
  | flt b => cases f
  | ref a => cases f
  | ty n => cases f
theorem reprK_key {P : Program} {w : World} {h : Heap} (k : Key) (v : Value) (e : (mixKind P w).is k v = true) (sw : (kD k).showable = true) (hz : (kD k).shown.length ≤ sizeLine) : ReprK P w [] h 0 v (kD k).shown := by
  rcases keyIs_shape e with ⟨i, t, rfl, rfl⟩ | ⟨x, t, rfl, rfl⟩
  · exact .of_is (.int t (of_decide_eq_true sw)) _ _ _
  · exact .of_is (.str x t hz) _ _ _
theorem entries_flat {P : Program} {w : World} {h : Heap} : ∀ {es : List DictEntry} {vs : List (Key × Value)} {kvs : List (Key × V)}, Pairs (mixKind P w) es vs → KV kvs vs → (∀ p ∈ kvs, flD p.2 = true) → PyData.showableKv (kvs.map fun p => (kD p.1, vD p.2)) = true →
    (∀ t ∈ PyData.shownKv (kvs.map fun p => (kD p.1, vD p.2)), t.length ≤ sizeLine) → ReprEntriesK P w [] h 0 es (PyData.shownKv (kvs.map fun p => (kD p.1, vD p.2)))
  | _, _, [], .nil, _, _, _, _ => .nil
  | _, _, p :: kvs, .nil, k, _, _, _ => nomatch (show Paired _ _ _ from k)
  | _, _, [], .cons _ _ _, k, _, _, _ => nomatch (show Paired _ _ _ from k)
  | e :: es, (k', u) :: vs, (k, v) :: kvs, .cons hk hv hp, kv, hf, sw, hz => by
    cases (show Paired _ _ _ from kv) with
    | cons r t =>
      obtain ⟨e1, r2⟩ := r
      have e1' : k = k' := e1
      subst e1'
      obtain ⟨sw1, sw3⟩ := Bool.and_eq_true_iff.mp (show (((kD k).showable && (vD v).showable) && PyData.showableKv (kvs.map fun p => (kD p.1, vD p.2))) = true from sw)
      obtain ⟨sw1, sw2⟩ := Bool.and_eq_true_iff.mp sw1
      have l0 : ((kD k).shown ++ ": " ++ (vD v).shown).length ≤ sizeLine := hz _ (List.mem_cons_self ..)
      rw [strLen_append, strLen_append] at l0
      refine ReprEntriesK.cons (reprK_key k _ hk sw1 (by omega)) ?_ (entries_flat hp t (fun p h => hf p (List.mem_cons_of_mem _ h)) sw3 fun x hx => hz x (List.mem_cons_of_mem _ hx))
      rw [hv]
      exact reprK_flat (hf _ (List.mem_cons_self ..)) r2 sw2 (show (vD v).shown.length ≤ sizeLine by omega)
section
variable {X : Cx} {pins : List (Addr × Obj)} {σ : L2.St} {H : Hp} {s : Shared}
theorem dict_shown (I : Inv X pins σ H s) {a : Addr} {kvs : List (Key × V)} (hr : Rd H a (.dK kvs)) (hf : ∀ p ∈ kvs, flD p.2 = true) (hw : (dD kvs).showable = true) (hz : (dD kvs).shown.length ≤ sizeLine) {A : Around} {g : List Code} {E : Value → Shared → Prop} {s' : Shared} {Q : Value → Shared → Prop}
    (hg : A.guards = some g) (hc : Clear g a) (hu : A.units + 1 < cLine) (hk0 : ∀ b o, s.heap.get? b = some o → s'.heap.get? b = some o)
    (hQ : ∀ h' u tk, (∀ b o, s'.heap.get? b = some o → h'.get? b = some o) → Q (.str (dD kvs).shown u) { s' with heap := h', toks := tk }) : wpAny (model X.prog X.w) A (call (.builtin "dict.__repr__") [.ref a]) Q E s' := by
  obtain ⟨_, hne, vs, kv, hd⟩ := hr.ok I.hok
  obtain ⟨o, es, ep, ho, hx, hdat, _, hp, _⟩ := hd
  have hz' : (dictText (PyData.shownKv (kvs.map fun p => (kD p.1, vD p.2)))).length ≤ sizeLine := by simpa only [dD, PyData.shown, PyData.shownKv_eq] using hz
  have hE := entries_flat (h := s.heap) hp kv hf (by simpa [dD, PyData.showable] using hw) (fun t ht => Nat.le_trans (dictText_mem_le ht) hz')
  simp only [dD, PyData.shown, PyData.shownKv_eq] at hQ
  exact call_dict_reprK ho hx.1 hdat hne (by simp) hE hg (fun b hb => by rw [List.mem_singleton.mp hb]; exact hc) hu hk0 (by rw [← PyData.shownKv_eq] at *; exact hQ) hz'
/-- {d} in an f-string, d a dict of plain values -/
def tFmtD (g : List Code) (te : TE) : TE := fun σ H Q => te σ H fun x H1 => ∃ a kvs, x = .ref a ∧ Rd H1 a (.dK kvs) ∧ (∀ p ∈ kvs, flD p.2 = true) ∧ (dD kvs).showable = true ∧ (dD kvs).shown.length ≤ sizeLine ∧ Clear g a ∧ Q (.str (dD kvs).shown) H1
theorem pe_fmtD {g : List Code} {e : Expr} {te : TE} {pos : Pos} (gd : X.A.guards = some g) (hu : X.A.units + 64 < cLine) (he : PE X e te) : PE X (.FormattedValue e (-1) none pos) (tFmtD g te) := by
  refine ⟨fun pins s σ H Q I h => ?_⟩
  refine wpAny_FormattedValue_plain (thn (he.run pins s σ H _ I h) fun v s1 hv => ?_)
  obtain ⟨x, H1, I1, r1, a, kvs, rfl, hr, hf, hw, hz, hc, q⟩ := hv
  obtain rfl : v = Value.ref a := r1
  obtain ⟨_, hne, vs, kv, hd⟩ := hr.ok I1.hok
  have ty : s1.TypeIs (.ref a) "dict" := by
    obtain ⟨o, es, ep, ho, hx, _⟩ := hd
    exact ⟨o, ho, hx.1⟩
  refine wpAny_formatField_slot (fun _ _ => nofun) (by omega) ty F.slot_dict_format F.slot_dict_str F.slot_dict_repr ?_
  refine dict_shown (A := X.A.in1.in1) I1 hr hf hw hz gd hc (by show X.A.units + 1 + 1 + 1 < cLine; omega) (fun _ _ z => z) fun h' u tk hk => ⟨_, _, rfl, .str (dD kvs).shown, H1, I1.kept (t' := tk) hk, ⟨u, rfl⟩, q⟩
end
end Lp

set_option Elab.async false
set_option linter.all false
set_option maxRecDepth 100000
set_option maxHeartbeats 4000000
namespace PySem.W
open PySem PySem.Calls PyProof.Rows
theorem lp_ifBoundBy {M : Model} {A : Around} {E : Value → Shared → Prop} {s : Shared} {K : Frag} {x C f : Addr} {ox : Obj} {od : Option Obj} {name : Str} {last : Value → List Value → Sem Value} {Q : Option Value → Shared → Prop} (X : K.In s.heap) (I : InstAt s.heap x ox C od)
    (hs : findIn K (.ref C) name = some (some (.ref f))) (hf : isFn K (.ref f) = true) (h : wpAny M A (last (.ref f) [.ref x]) (fun v => Q (some v)) E s) : wpAny M A (callSpecialIfBoundBy? last (.ref x) name) Q E s := by
  simp only [callSpecialIfBoundBy?, bindSpecialIfBound?]
  refine wpAny_holding (wpAny_bind (wpAny_bind (wpAny_bind (I.type.here ((looks_findIn X hs).here ?_)))))
  refine wpAny_bind (wpAny_askSetting (wpAny_ite ?_))
  have fin : wpAny M A (last (.ref f) [.ref x] >>= fun v => pure (some v)) Q E s := wpAny_bind (wpAny_mono h (fun v s' h' => wpAny_pure h') fun _ _ h' => h')
  split
  · exact wpAny_bind ((bind_fn X _ (beq_iff_eq.mp hf)).here (wpAny_pure (by exact fin)))
  · exact wpAny_tryCatch (wpAny_bind ((bind_fn X _ (beq_iff_eq.mp hf)).here (wpAny_pure (by exact fin))))
/-- repr of an instance within something that is shown, by its own __repr__ -/
theorem lp_reprUnder {M : Model} {A : Around} {E : Value → Shared → Prop} {s : Shared} {K : Frag} {x C f : Addr} {ox : Obj} {od : Option Obj} {b : Nat} {Q : Str → Shared → Prop} (hb : b ≤ sizeLine) (hu : A.units < cLine) (X : K.In s.heap) (I : InstAt s.heap x ox C od)
    (hs : findIn K (.ref C) "__repr__" = some (some (.ref f))) (hf : isFn K (.ref f) = true) (h : wpAny M A (call (.ref f) [.ref x]) (fun v s' => ∃ z u, v = .str z u ∧ Q z s') E s) : wpAny M A (pyReprUnder b (.ref x)) Q E s := by
  refine wpAny_pyReprUnder_ref hb ?_
  unfold pyReprObjUnder pyReprObjBy
  refine wpAny_bind (wpAny_cRoomFor hu ?_)
  refine wpAny_bind (wpAny_bind (I.type.here ((looks_findIn X hs).here ?_)))
  show wpAny _ _ (if (some (Value.ref f)).isNone = true then _ else _) _ _ _
  rw [if_neg (by simp)]
  refine wpAny_bind (lp_ifBoundBy (name := Str.ofString "__repr__") X I hs hf ?_)
  refine wpAny_mono h (fun v s' hv => ?_) fun _ _ z => z
  obtain ⟨z, u, rfl, hq⟩ := hv
  exact wpAny_bind (wpAny_isInstance (T := "str") (b := true) rfl isSubtype_str_str (wpAny_pure ⟨z, u, rfl, hq⟩))
end PySem.W
namespace Lp
open PySem PySem.Spec PyProof.Rows L2
/-! ### methods that run while something is shown, or an exception is handled -/
abbrev SpG := List Code → Sp
def Heat (A : Around) (outer : List Env) (H : Hp) (s : Shared) : Prop := A.handled = none ∨ ∃ p, L2H.PinOk outer H s p
structure FnU (P : Program) (w : World) (K : PySem.W.Frag) (mg : Str → Option Value) (base : Heap) (k : Nat) (f : Addr) (sp : SpG) : Prop where
  run : ∀ (g : List Code) (A : Around) (outer : List Env) (s : Shared) (H : Hp) (us : List Value) (vs : List V) (Q : VK), A.guards = some g → L2H.RoomH k A → Heat A outer H s → Env0 P w K mg base A outer s H → Vals vs us → sp g vs H Q E0 →
    codeAny (model P w) A (.call (.ref f) ⟨us, []⟩) (CR CX0 outer P w H s Q E0) s
section
variable {P : Program} {w : World} {K : PySem.W.Frag} {mg : Str → Option Value} {base : Heap} {CX : CXT} {f : Addr} {fd : FuncData} {ps : List Str}
theorem body_atH {k : Nat} {name qual : Str} {params : Arguments} {body : List Stmt} {scope : Scope} {dV kV doc pm cdv ct oc : Value} {an od : Option Addr} {osl : Array (Option Value)} {N : List Str}
    (lk : K.lookup f = some ⟨oc, od, .func (PySem.W.fnOf name qual params body scope dV kV doc pm an cdv ct), osl⟩) (hcd : PySem.W.codeIn K cdv qual = true) (S : FnScope N ps scope)
    {A : Around} {outer : List Env} {s : Shared} {H : Hp} {args : Args} {us : List Value} {vs : List V} {Q : VK} {E : XK} {p : Addr × Obj} (hl : vs.length = ps.length) (hr : L2H.RoomH (k + 1) A) (hpin : L2H.PinOk outer H s p) (e0 : Env0 P w K mg base A outer s H)
    (hb : BindsTo s (PySem.W.fnOf name qual params body scope dV kV doc pm an cdv ct) args (ps.zip us)) (r : Vals vs us)
    {t : TS} (ht : PSs (L2H.cxH CX P w K mg base N qual scope f cdv A outer s H E p) body t) (hq : t { nx := fun _ H' => Q .non H', rt := Q } (start N vs) H) :
    codeAny (model P w) A (.call (.ref f) args) (CR CX outer P w H s Q E) s := by
  have stays : ∀ b o, base.get? b = some o → s.heap.get? b = some o := fun b o e => (e0.bs b o e).1
  have KX : K.In s.heap := e0.mod.kin.keeps stays
  have kinds : ∀ y ∈ ps.zip us, scope.names.lookup y.1 = some .local ∨ (scope.names.lookup y.1 = some .cell ∧ ((cellsFrom (s.heap.objs.size + 1) scope.names []).lookup y.1).isSome = true) := by
    rintro ⟨n, v⟩ hy
    rcases S.par n (List.of_mem_zip hy).1 with q | q
    · exact .inl q
    · exact .inr ⟨q, PySem.W.cellsFrom_some _ _ _ (.inl q)⟩
  refine codeAny_call_function hr.depth (KX _ _ lk) rfl S.co S.gen rfl (PySem.W.codeRec_of KX hcd) (hb _ _ _ _ ?_)
  refine wpAny_newFunctionEnv_cells S.kind kinds fun env he s1 x => ?_
  subst he
  refine ⟨(e0.mod.nolimit.keeps stays).keeps x.toInCall.keep, codeAny_func ?_⟩
  have I := L2H.inv_startH (CX := CX) (E := E) S hpin e0 hl r x
  refine wpAny_mono (ht.run [] s1 (start N vs) H _ I hq) (fun fl s' hs => ?_) fun e s' hs => hs
  cases fl with
  | ret u => exact let ⟨v, _, H', J, rv, q⟩ := hs; ⟨v, H', J.os, J.bare, J.base, J.hok, rv, q⟩
  | next => exact let ⟨_, H', J, q⟩ := hs; ⟨V.non, H', J.os, J.bare, J.base, J.hok, rfl, q⟩
  | brk => exact False.elim (let ⟨_, _, _, q⟩ := hs; q)
  | cont => exact False.elim (let ⟨_, _, _, q⟩ := hs; q)
theorem okU {sp : SpG} {x qual : Str} {params : Arguments} {body : List Stmt} {scope : Scope} {dvs : List V} {kws : List (Str × V)} {N : List Str} {k : Nat} (F : FunD K x qual params body scope dvs kws f fd) (S : FnScope N ps scope) (hbd : Binds K fd ps []) (len : ∀ g vs H Q E, sp g vs H Q E → vs.length = ps.length)
    (hc : ∀ (g : List Code) (cdv : Value) (A : Around) (outer : List Env) (s : Shared) (H : Hp) (vs : List V) (Q : VK), A.guards = some g → L2H.RoomH k (A.deeper (envOfC qual scope s.heap.objs.size f cdv)) → sp g vs H Q E0 →
      ∃ t, PSs (cxOf CX0 P w K mg base N qual scope f cdv A outer s H E0) body t ∧ t { nx := fun _ H' => Q .non H', rt := Q } (start N vs) H)
    (hh : ∀ (g : List Code) (cdv : Value) (A : Around) (outer : List Env) (s : Shared) (H : Hp) (vs : List V) (Q : VK) (p : Addr × Obj), A.guards = some g → L2H.RoomH k (A.deeper (envOfC qual scope s.heap.objs.size f cdv)) → sp g vs H Q E0 →
      ∃ t, PSs (L2H.cxH CX0 P w K mg base N qual scope f cdv A outer s H E0 p) body t ∧ t { nx := fun _ H' => Q .non H', rt := Q } (start N vs) H) : FnU P w K mg base (k + 1) f sp := by
  obtain ⟨oc, od, dV, kV, doc, pm, an, cdv, ct, osl, rfl, lk, hcd, _, _⟩ := F.ex
  refine ⟨fun g A outer s H us vs Q hg hr heat e0 r hsp => ?_⟩
  have hl := len _ _ _ _ _ hsp
  have KX : K.In s.heap := e0.mod.kin.keeps fun b o e => (e0.bs b o e).1
  have b := hbd s us KX (by rw [List.append_nil, ← r.length]; exact hl)
  rw [List.append_nil] at b
  rcases heat with h0 | ⟨p, hp⟩
  · obtain ⟨t, ht, hq⟩ := hc g cdv A outer s H vs Q hg (hr.deeper _) hsp
    exact body_at lk hcd S hl ⟨h0, hr.dp, hr.un⟩ e0 b r ht hq
  · obtain ⟨t, ht, hq⟩ := hh g cdv A outer s H vs Q p hg (hr.deeper _) hsp
    exact body_atH lk hcd S hl hr hp e0 b r ht hq
end
section
variable {X : Cx} {pins : List (Addr × Obj)} {σ : L2.St} {H : Hp} {s : Shared} {k : Nat} {f C : Addr} {sp : SpG}
theorem heat_at (ht : X.A.handled = none ∨ X.pn ≠ []) (I : Inv X pins σ H s) : Heat X.A X.stack H s := by
  rcases ht with h | h
  · exact .inl h
  · obtain ⟨p, l, e⟩ := List.exists_cons_of_ne_nil h
    have P1 := I.pin p (List.mem_append_left _ (by rw [e]; exact List.mem_cons_self ..))
    exact .inr ⟨p, ⟨P1.1, P1.2.1, fun hm => (List.mem_cons.mp (I.stkSub p.1 hm)).elim P1.2.2.1 P1.2.2.2.1, P1.2.2.2.2⟩⟩
/-- repr of a list that holds one instance -/
def rReprL (C : Addr) (sp : SpG) : List V → Hp → VK → Prop := fun xs H Q => ∃ p b dx fs z, xs = [.ref p] ∧ H p = some (.lst [.ref b]) ∧ H b = some (.ins C dx fs) ∧ (listText [z]).length ≤ sizeLine ∧
  ∀ rest, sp [.builtin "list.__repr__.loop" ⟨.ref p :: rest, []⟩] [.ref b] H (fun v H' => v = .str z ∧ Same H H' ∧ Q (.str (listText [z])) H') E0
theorem call_reprL (gd : X.A.guards = some []) (hr : L2H.RoomH (k + 1) X.A) (ht : X.A.handled = none ∨ X.pn ≠ []) (hs : PySem.W.findIn X.K (.ref C) "__repr__" = some (some (.ref f))) (hf : PySem.W.isFn X.K (.ref f) = true)
    (F : FnU X.prog X.w X.K X.mg X.base k f sp) : CallR X (.builtin "repr") (rReprL C sp) := by
  intro pins s σ H xs us Q I r h
  obtain ⟨p, b, dx, fs, z, rfl, hp, hb, hz, hsp⟩ := h
  obtain ⟨u, rfl, ru⟩ := vals1 r
  obtain rfl : u = Value.ref p := ru
  obtain ⟨_, its, n, rv, hget⟩ := (show ObjOk X.prog X.w H s.heap p (.lst [.ref b]) from I.hok p _ hp)
  obtain ⟨u2, rfl, ru2⟩ := vals1 rv
  obtain rfl : u2 = Value.ref b := ru2
  have hun := hr.un
  have hX : (listText [z]).length = (textFrom 0 "[" [z]).length + 1 := by
    show (textFrom 0 "[" [z] ++ "]").length = _
    rw [strLen_append]; rfl
  have hL := (textFrom_len [z] 0 "[").2.1 z (List.mem_cons_self ..)
  refine call_repr_slot (by omega) ⟨_, hget, rfl⟩ PySem.F.slot_list_repr.toG ?_
  refine wpAny_call (codeAny_call_builtin PySem.F.slot_list_repr.plain PySem.F.entry_list_repr (PySem.F.slot_list_repr.check _ _ _ _ _ _ _ _ ⟨_, hget, rfl⟩ (PySem.F.args_list_repr_1 _) ?_))
  refine wpAny_list_repr_head (A := X.A.in1.in1) (b := 0) gd (fun v rest kw hm => nomatch hm) hget rfl ?_
  refine wpAny_bind (m := newList []) (wpAny_newObj_type ?_)
  refine wpAny_pure ⟨PySem.F.quiet_list_repr_loop _, ?_⟩
  have I1 : Inv X pins σ H { s with heap := s.heap.push { cls := .type "list", data := .seq #[] } } := I.kept (t' := s.toks) fun b ob e => Heap.get?_push_of_some _ e
  have hget1 := Heap.get?_push_of_some (o := { cls := .type "list", data := .seq #[] }) hget
  have hP : (s.heap.push { cls := .type "list", data := .seq #[] }).get? s.heap.objs.size = some { cls := .type "list", data := .seq #[] } := Heap.get?_push_size _ rfl
  have hPn : H s.heap.objs.size = none := I.hok.fresh (Nat.le_refl _)
  have fpP := I.fpOk (H' := H) (Nat.le_refl _) hPn
  generalize s.heap.objs.size = Pa at *
  generalize (s.heap.push { cls := .type "list", data := .seq #[] }) = h1 at *
  have hne : p ≠ Pa := ne_of_none hp hPn
  refine codeAny_builtin PySem.F.entry_list_repr_loop ?_
  show wpAny _ _ (Builtin.«list.__repr__.loop» ⟨[.ref p, .int (0 : Nat) 0, .ref Pa, .int (0 : Nat) 0], []⟩) _ _ _
  rw [repr_loop_tree]
  refine wpAny_bind (wpAny_listItems hget1 rfl ?_)
  have hsome : ([Value.ref b].toArray)[((0 : Nat) : Int).toNat]? = some (Value.ref b) := rfl
  simp only [hsome]
  have env' : Env0 X.prog X.w X.K X.mg X.base (X.A.in1.under (Code.builtin "list.__repr__.loop" { pos := [Value.ref p, rawInt 0, Value.ref Pa, rawInt (0 : Nat)] })) X.stack { s with heap := h1 } H := by
    have e := I1.env0
    exact ⟨by first | exact e.frames | (simpa [Around.under, Code.envs, Code.isFrame, pushEnvs] using e.frames), e.mod, e.bs, e.bsz, e.funs, e.frf, e.hok, e.bare⟩
  have hg' : (X.A.in1.under (Code.builtin "list.__repr__.loop" { pos := [Value.ref p, rawInt 0, Value.ref Pa, rawInt (0 : Nat)] })).guards = some [Code.builtin "list.__repr__.loop" { pos := [Value.ref p, rawInt 0, Value.ref Pa, rawInt (0 : Nat)] }] := guards_under_guard (isGuard_list_loop _) gd
  have hu' : (X.A.in1.under (Code.builtin "list.__repr__.loop" { pos := [Value.ref p, rawInt 0, Value.ref Pa, rawInt (0 : Nat)] })).units = X.A.units + 2 := units_under_list_loop _ _
  have hd' : (X.A.in1.under (Code.builtin "list.__repr__.loop" { pos := [Value.ref p, rawInt 0, Value.ref Pa, rawInt (0 : Nat)] })).depth ≤ X.A.depth + 1 := by simp [Around.under, Code.weight, Code.isCreation, Code.isGuard, Code.isCaller, Code.frames, Code.isFrame, guardIds]
  have hh' : (X.A.in1.under (Code.builtin "list.__repr__.loop" { pos := [Value.ref p, rawInt 0, Value.ref Pa, rawInt (0 : Nat)] })).handled = X.A.handled := by first | rfl | simp [Around.under]
  have hr' : L2H.RoomH k (X.A.in1.under (Code.builtin "list.__repr__.loop" { pos := [Value.ref p, rawInt 0, Value.ref Pa, rawInt (0 : Nat)] })) := ⟨by have := hr.dp; omega, by rw [hu']; omega⟩
  have heat' : Heat (X.A.in1.under (Code.builtin "list.__repr__.loop" { pos := [Value.ref p, rawInt 0, Value.ref Pa, rawInt (0 : Nat)] })) X.stack H { s with heap := h1 } := by
    rcases heat_at ht I1 with q | q
    · exact .inl (hh'.trans q)
    · exact .inr q
  have hrun := F.run _ _ X.stack { s with heap := h1 } H [.ref b] [.ref b] _ hg' hr' heat' env' (.cons rfl .nil) (hsp _)
  obtain ⟨ox, od, J⟩ := ins_at I1 hb
  refine wpAny_bind (wpAny_holding (PySem.W.lp_reprUnder (b := ((0 : Nat) : Int).toNat + 1) (by show 0 + 1 ≤ _; decide) (by rw [hu']; omega) I1.kIn J hs hf (wpAny_call (codeAny_mono hrun fun r s' hq => ?_))))
  rcases r with er | (_ | _ | _ | u)
  · exact False.elim hq
  · exact False.elim hq
  · exact False.elim hq
  · exact False.elim hq
  obtain ⟨v, H2, os, bare, un, hok, rv2, rfl, sm, q⟩ := hq
  have hP2 := un.keep Pa _ hP hPn (fun hm => (List.mem_cons.mp (I.stkSub Pa hm)).elim fpP.2.1 fpP.2.2.1) (by simp)
  have hfree : H2 Pa = none := un.free Pa _ hP hPn (by simp)
  obtain ⟨t, rfl⟩ := rv2
  obtain ⟨hh2, gg2, dd2, tt2, oo2⟩ := s'
  obtain rfl : oo2 = s.os := os
  have I2 := I1.call (h' := hh2) (g' := gg2) (d' := dd2) (t' := tt2) (ch := []) un hok bare (fun b z => absurd z (by simp))
  refine ⟨z, t, rfl, ?_⟩
  refine wpAny_bind (wpAny_mkStr ?_ (by omega))
  refine wpAny_bind ?_
  show wpAny _ _ (updateSeq Pa _) _ _ _
  refine wpAny_updateSeq hP2 rfl (wpAny_pure ⟨PySem.F.quiet_list_repr_loop _, ?_⟩) (by show 0 ≤ _; omega)
  have fpP2 : FpOk X pins H2 Pa := ⟨hfree, fpP.2⟩
  have I3 := I2.turnedL (t' := tt2 + 1) (ch := [Pa]) (h' := hh2.update Pa (Obj.mapSeq fun x => x.push (.str z tt2))) (fun b o hb e => (Heap.get?_update_other _ _ (fun h : Pa = b => hb (by rw [← h]; exact List.mem_singleton.mpr rfl))).trans e) (fun b hb => by rw [List.mem_singleton.mp hb]; exact fpP2)
  obtain ⟨_, its3, n3, rv3, hget3⟩ := (show ObjOk X.prog X.w H2 _ p (.lst [.ref b]) from I3.hok p _ (sm _ _ hp))
  obtain ⟨u3, rfl, ru3⟩ := vals1 rv3
  obtain rfl : u3 = Value.ref b := ru3
  have hP3 : (hh2.update Pa (Obj.mapSeq fun x => x.push (.str z tt2))).get? Pa = _ := Heap.get?_update_self _ hP2 rfl
  refine codeAny_builtin PySem.F.entry_list_repr_loop ?_
  show wpAny _ _ (Builtin.«list.__repr__.loop» ⟨[.ref p, .int (1 : Nat) 0, .ref Pa, .int _ 0], []⟩) _ _ _
  rw [repr_loop_tree]
  refine wpAny_bind (wpAny_listItems hget3 rfl ?_)
  have hnone : ([Value.ref b].toArray)[((1 : Nat) : Int).toNat]? = none := rfl
  simp only [hnone]
  unfold reprEnd
  refine wpAny_bind (wpAny_listItems hP3 rfl ?_)
  have hfold : (forIn (((#[] : Array Value).push (.str z tt2)).toList.zipIdx) ("[" : Str) reprBody : Sem Str) = pure (textFrom 0 "[" [z]) := repr_fold [(z, tt2)] 0 "["
  rw [hfold]
  refine wpAny_bind (wpAny_pure ?_)
  refine wpAny_bind (wpAny_mkStr (wpAny_pure ?_) hz)
  exact ⟨_, _, rfl, .str (listText [z]), H2, I3.tok _, ⟨_, rfl⟩, q⟩
end
end Lp

set_option Elab.async false
set_option linter.all false
set_option maxRecDepth 100000
set_option maxHeartbeats 4000000
namespace Lp
open PySem PySem.Spec PyProof.Rows L2
/-- f(e, .., k = v, ..) of a def with defaults and no keyword-only parameters -/
theorem kbinds1 {K : PySem.W.Frag} {x qual : Str} {params : Arguments} {body : List Stmt} {scope : Scope} {dvs : List V} {kws : List (Str × V)} {f : Addr} {fd : FuncData} {ps : List Str} (F : FunD K x qual params body scope dvs kws f fd) (n : Nat) (ks : List Str)
    (g : {α : Type} → List α → List α → List α → List α) (hd : dvs ≠ []) (hrel : ∀ {vs ds zs : List V} {us its ws : List Value}, Vals vs us → Vals ds its → Vals zs ws → Vals (g vs ds zs) (g us its ws))
    (h : ∀ (T : Addr) (kV doc pm : Value) (an : Option Addr) (cdv ct : Value) (us its ws : List Value), us.length = n → its.length = dvs.length → ws.length = ks.length →
      ∃ k, bindArgs (PySem.W.fnOf x qual params body scope (.ref T) kV doc pm an cdv ct) ⟨us, ks.zip ws⟩ = seqItems? (.ref T) >>= k ∧ k (some its.toArray) = pure (ps.zip (g us its ws))) :
    ∃ its : List Value, KBn K fd ps n ks (fun us ws => g us its ws) (fun vs zs => g vs dvs zs) := by
  obtain ⟨oc, od, dV, kV, doc, pm, an, cdv, ct, osl, rfl, lk, hcd, hD, hK⟩ := F.ex
  rcases hD with ⟨e, _⟩ | ⟨_, T, o, its, m, rfl, lT, oT, rT⟩
  · exact absurd e hd
  · refine ⟨its, ⟨fun s us ws X l1 l2 => ?_, fun r1 r2 => hrel r1 rT r2⟩⟩
    obtain ⟨k, e1, e2⟩ := h T kV doc pm an cdv ct us its ws l1 rT.length.symm l2
    refine BindsTo.of_looks fun M => ?_
    rw [e1]
    exact looks_items X lT oT (.of_pure e2)
theorem callO_ofK {M : Model} {A : Around} {E : Value → Shared → Prop} {s : Shared} {a : Addr} {pos : Pos} {Q : Value → Shared → Prop} {args : List (Bool × Sem Value)} {kws : List (Option Str × Sem Value)} (hplain : (args.any (·.1) || kws.any (·.1.isNone)) = false)
    (h : wpAny M A (evalArgs (.ref a) true args kws) (fun z s₁ => (∃ C ox od, PySem.W.InstAt s₁.heap a ox C od ∧ ox.data = .plain) ∧ wpAny M A (call (.ref a) ([] ++ z.pos) z.kw) Q E s₁) E s) : wpAny M A (callWith pos (.ref a) [] args kws) Q E s := by
  unfold callWith
  refine wpAny_bind (wpAny_holding (wpAny_mono h (fun z s₁ h₁ => wpAny_bind (wpAny_standAt ?_)) fun _ _ y => y))
  obtain ⟨⟨C, ox, od, J, hd⟩, h₁⟩ := h₁
  have L := PySem.W.kco_keeper (M := M) J hd
  simp only [hplain]
  refine wpAny_bind (L.here ?_)
  have tail : ∀ {t : Sem Value}, wpAny M A t Q E s₁ → wpAny M A (t >>= fun r => holding [r] point >>= fun _ => pure r) Q E s₁ :=
    fun ht => wpAny_bind (wpAny_mono ht (fun r s₂ hr => wpAny_bind (wpAny_holding (wpAny_point (wpAny_pure hr)))) fun _ _ y => y)
  exact tail (wpAny_operateT h₁)
section
variable {X : Cx} {CX : CXT} {k : Nat} {f C : Addr} {sp : Sp} {E : L2.St → XK} {pins : List (Addr × Obj)} {σ : L2.St} {H : Hp} {s : Shared} {Q : VK}
/-- o(e, .., k = v, ..), o an instance, whose error is wished for at the slots -/
def tCallOKS (C : Addr) (n m : Nat) (sp : Sp) (gV : List V → List V → List V) (E : L2.St → XK) (tf : TE) (t tk : TA) : TE := fun σ H Q => tf σ H fun y H1 => ∃ a, y = V.ref a ∧ t σ H1 fun vs H2 => tk σ H2 fun zs H3 =>
  (∃ dx fs, H3 a = some (.ins C dx fs)) ∧ vs.length + 1 = n ∧ zs.length = m ∧ sp (gV (V.ref a :: vs) zs) H3 Q (E σ)
theorem pe_callOKS {fd : FuncData} {ps ks : List Str} {n : Nat} {g : List Value → List Value → List Value} {gV : List V → List V → List V} {fe e : Expr} {es : List Expr} {kws : List Keyword} {tf : TE} {t tk : TA} {pos : Pos} (c : StX.CallO X.K C f) (F : FnOk X.prog X.w X.K X.mg X.base CX k f fd ps sp)
    (hb : KBn X.K fd ps n ks g gV) (hr : Room k X.A) (hx : ∀ σ, PassesAt CX X σ (E σ)) (hf : PE X fe tf) (ha : PA X (e :: es) t) (hkw : PK X kws tk)
    (hall : (backToKw pos (keywordEach kws X.env)).all (·.1.isSome) = true := by rfl) (hks : (backToKw pos (keywordEach kws X.env)).filterMap (·.1) = ks := by rfl)
    (ht : eval (.Call fe (e :: es) kws pos) X.env = (do callWith pos (← eval fe X.env) [] (backTo pos (starEach (e :: es) X.env)) (backToKw pos (keywordEach kws X.env))) := by rfl)
    (he : starEach (e :: es) X.env = (false, eval e X.env) :: starEach es X.env := by rfl) (hpl : ((backTo pos (starEach (e :: es) X.env)).any (·.1) || (backToKw pos (keywordEach kws X.env)).any (·.1.isNone)) = false := by rfl) :
    PE X (.Call fe (e :: es) kws pos) (tCallOKS C n ks.length sp gV E tf t tk) := by
  refine ⟨fun pins s σ H Q I h => ?_⟩
  rw [ht]
  refine wpAny_bind (thn (hf.run pins s σ H _ I h) fun u s1 ⟨y, H1, I1, ry, a, ey, q⟩ => ?_)
  subst ey
  obtain rfl : u = Value.ref a := ry
  refine callO_ofK hpl (evalArgs_kw2 hall (thn (ha.run pos pins s1 σ H1 _ I1 q) fun us s2 ⟨vs, H2, I2, r, q2⟩ => ?_) he)
  refine thn (hkw.run pos pins s2 σ H2 _ I2 q2) fun ws s3 ⟨zs, H3, I3, rz, ⟨dx, fs, hi⟩, l1, l2, q3⟩ => ?_
  obtain ⟨ox, od, J, hd⟩ := StX.insC_at (C := C) I3 (.inr ⟨dx, fs, hi⟩)
  refine ⟨⟨C, ox, od, J, hd⟩, wpAny_call (PySem.W.kco_code I3.kIn J hd c.at_ c.fn c.fi ?_)⟩
  have r' : Vals (V.ref a :: vs) (Value.ref a :: us) := .cons rfl r
  have r2 := hb.rel r' rz
  rw [hks]
  refine codeAny_mono (F.run X.A X.stack s3 H3 ⟨Value.ref a :: us, ks.zip ws⟩ (g (Value.ref a :: us) ws) _ Q (E σ) hr I3.env0 (hb.to s3 (Value.ref a :: us) ws I3.kIn (by rw [← r'.length]; exact l1) (rz.length.symm.trans l2)) r2 q3) fun r s' hq => ?_
  rcases r with er | (_ | _ | _ | u)
  · exact hx σ pins H3 s3 er s' I3 hq
  · exact False.elim hq
  · exact False.elim hq
  · exact False.elim hq
  · exact I3.after hq
end
/-- pe_binS with the written part named -/
theorem pe_binSK {X : Cx} {CX : CXT} {k : Nat} {f C : Addr} {E : L2.St → XK} {K0 : PySem.W.Frag} {sp : Sp} {op : Operator} {nm : String} {a b : Expr} {ta tb : TE} {pos : Pos} (hK : X.K = K0) (hn : op.info.2 = nm) (B : BinC X.K C nm f) (F : FnR X.prog X.w X.K X.mg X.base CX k f sp) (hr : Room k X.A) (hx : ∀ σ, PassesAt CX X σ (E σ)) (ha : PE X a ta) (hb : PE X b tb) :
    PE X (.BinOp a op b pos) (tBinS K0 C nm sp E ta tb) := by
  subst hK
  exact pe_binS hn B F hr hx ha hb
/-- what stands at the right of an own operator -/
theorem oth_of {K : PySem.W.Frag} {C : Addr} {nm T : String} (hn : nm ∈ ["add", "sub", "and", "or", "mul"]) (hT : T ∈ ["NoneType", "int", "str", "dict", "list", "tuple", "bool"]) : Oth K C nm T := by
  simp only [List.mem_cons, List.not_mem_nil, or_false] at hn hT
  rcases hn with rfl | rfl | rfl | rfl | rfl <;> rcases hT with rfl | rfl | rfl | rfl | rfl | rfl | rfl <;> exact ⟨⟨_, rfl⟩, ⟨_, rfl⟩, rfl⟩
end Lp

set_option Elab.async false
set_option linter.all false
set_option maxRecDepth 100000
set_option maxHeartbeats 4000000
namespace Lp
open PySem PySem.Spec PyProof.Rows L2
theorem passF {X : Cx} (σ : L2.St) : PassesAt (CX X.prog X.w) X σ E0 := fun _ _ _ _ _ _ c => by
  obtain ⟨_, _, _, _, _, _, _, _, _, _, _, _, h⟩ := c
  exact False.elim h
section
variable {X : Cx} {CX : CXT} {k : Nat} {f C : Addr} {sp : Sp} {E : XK}
/-- o == y by an own __eq__, y of the same class or of a built-in one -/
def rOwnEq (K : PySem.W.Frag) (C : Addr) (sp : Sp) (E : XK) : R2 := fun x y H Q => ∃ a dx fs t, x = .ref a ∧ H a = some (.ins C dx fs) ∧ TyX K H y t ∧ PySem.W.notFirst K C t = true ∧ sp [.ref a, y] H Q E
theorem op_eqOwn (M : Meth X.K C "__eq__" f) (F : FnR X.prog X.w X.K X.mg X.base CX k f sp) (hr : Room k X.A) (hx : Passes CX X E) : OpR X (compareOp .Eq) (rOwnEq X.K C sp E) := by
  intro pins s σ H x y u v Q I r1 r2 h
  obtain ⟨a, dx, fs, t, rfl, ha, ty, hn, q⟩ := h
  obtain rfl : u = Value.ref a := r1
  obtain ⟨ox, od, J⟩ := ins_at I ha
  obtain ⟨m, fr⟩ := I.fr
  obtain ⟨PP, kit, hP, _⟩ := kit_of I r2 ty
  have own := thn (run_at (vs := [.ref a, y]) F hr hx I (.cons rfl (.cons r2 .nil)) q) fun r s1 z => back_of z
  show wpAny _ _ (richCompare .Eq (.ref a) v) _ _ _
  exact PySem.W.cmp_K (op := .Eq) (by have := hr.un; omega) fr I.ok.mod.kin J (kit.ty _ _ I.kIn hP) hn M.at_ M.fn own
end
theorem notFirst_of {K : PySem.W.Frag} {C : Addr} {T : String} (hT : T ∈ ["NoneType", "int", "str", "dict", "list", "tuple", "bool"]) : PySem.W.notFirst K C (.type T) = true := by
  simp only [List.mem_cons, List.not_mem_nil, or_false] at hT
  rcases hT with rfl | rfl | rfl | rfl | rfl | rfl | rfl <;> rfl
theorem notFirst_self {K : PySem.W.Frag} {C : Addr} : PySem.W.notFirst K C (.ref C) = true := by
  unfold PySem.W.notFirst
  rw [beq_self_eq_true]
  rfl
end Lp

set_option Elab.async false
set_option linter.all false
set_option maxRecDepth 100000
set_option maxHeartbeats 4000000
namespace Lp
open PySem PySem.Spec PyProof.Rows L2
/-! ### dicts of ints compared, locked or not -/
def intB : V → Bool
  | .int _ => true
  | _ => false
def eqDI (ks ls : List (Key × V)) : Bool := (ks.length == ls.length) && ks.all fun p => decide (valV ls p.1 = some p.2)
theorem eqAt_int {A : Around} {s : Shared} {i j : Int} {t u : Tok} : SeqAt.EqAt A s (.int i t) (.int j u) (decide (i = j)) := by
  have h := PySem.W.keq_flat (A := A) (s := s) (.int i t) (.int j u)
  have e : PyData.eqv (.int i) (.int j) = decide (i = j) := by
    show (i == j) = decide (i = j)
    rfl
  rw [e] at h
  exact h
theorem hits_int {A : Around} {s : Shared} {ls : List (Key × V)} {vb : List (Key × Value)} (rb : KV ls vb) (ib : ∀ p ∈ ls, intB p.2 = true) : ∀ {ks : List (Key × V)} {va : List (Key × Value)}, KV ks va → (∀ p ∈ ks, intB p.2 = true) →
    PySem.W.KeqHits A s vb va (ks.all fun p => decide (valV ls p.1 = some p.2))
  | [], [], _, _ => .nil
  | [], _ :: _, h, _ => nomatch (show Paired _ _ _ from h)
  | _ :: _, [], h, _ => nomatch (show Paired _ _ _ from h)
  | (k, x) :: ks, (k', v) :: va, ra, ia => by
    cases (show Paired _ _ _ from ra) with
    | cons r t =>
      obtain ⟨e1, r2⟩ := r
      have e1' : k = k' := e1
      subst e1'
      have ih := hits_int (A := A) (s := s) rb ib t fun p hp => ia p (List.mem_cons_of_mem _ hp)
      have rr := rb.val k
      show PySem.W.KeqHits A s vb ((k, v) :: va) (decide (valV ls k = some x) && _)
      cases e : valV ls k with
      | none =>
        rw [e] at rr
        have hn : valueAt vb k = none := by
          cases e2 : valueAt vb k with
          | none => rfl
          | some y => rw [e2] at rr; exact False.elim rr
        rw [decide_eq_false (by simp), Bool.false_and]
        exact .miss hn
      | some y =>
        rw [e] at rr
        obtain ⟨y', hy, ry⟩ := rr.some_of
        have hx := ia _ (List.mem_cons_self ..)
        have hyb : intB y = true := by
          have hm : ∃ p ∈ ls, p.2 = y := by
            unfold valV at e
            cases f : ls.find? (fun kv => decide (kv.1 = k)) with
            | none => rw [f] at e; cases e
            | some p => rw [f] at e; exact ⟨p, List.mem_of_find?_eq_some f, Option.some.inj e⟩
          obtain ⟨p, hp, rfl⟩ := hm
          exact ib p hp
        cases x with
        | int i =>
          cases y with
          | int j =>
            obtain ⟨t1, rfl⟩ := r2
            obtain ⟨t2, rfl⟩ := ry
            have e3 : decide (some (V.int j) = some (V.int i)) = decide (i = j) := decide_eq_decide.mpr ⟨fun h => (V.int.inj (Option.some.inj h)).symm, fun h => by rw [h]⟩
            rw [e3]
            exact .hit hy eqAt_int ih
          | non => cases hyb
          | bl b => cases hyb
          | str z => cases hyb
          | byt b => cases hyb
          | flt b => cases hyb
          | ref a => cases hyb
          | ty n => cases hyb
        | non => cases hx
        | bl b => cases hx
        | str z => cases hx
        | byt b => cases hx
        | flt b => cases hx
        | ref a => cases hx
        | ty n => cases hx
section
variable {X : Cx}
def IntD (H : Hp) (a : Addr) (ks : List (Key × V)) : Prop := Rd H a (.dK ks) ∧ ∀ p ∈ ks, intB p.2 = true
def rEqDI : R2 := fun x y H Q => ∃ a b ks ls, x = .ref a ∧ y = .ref b ∧ IntD H a ks ∧ IntD H b ls ∧ Q (.bl (eqDI ks ls)) H
def rNeDI : R2 := fun x y H Q => ∃ a b ks ls, x = .ref a ∧ y = .ref b ∧ IntD H a ks ∧ IntD H b ls ∧ Q (.bl (!eqDI ks ls)) H
theorem op_eqDI (hu : X.A.units < cLine) : OpR X (compareOp .Eq) rEqDI := by
  intro pins s σ H x y v u Q I rx ry h
  obtain ⟨a, b, ks, ls, rfl, rfl, ⟨ea, ia⟩, ⟨eb, ib⟩, q⟩ := h
  obtain rfl : v = Value.ref a := rx
  obtain rfl : u = Value.ref b := ry
  obtain ⟨_, ya, va, ra, da⟩ := dk_rd I.hok ea
  obtain ⟨_, yb, vb, rb, db⟩ := dk_rd I.hok eb
  exact PySem.W.keq_eq (knd := mixKind X.prog X.w) ya yb da db hu (fun _ => hits_int rb ib ra ia) (fin_bl I q (by rw [← ra.length, ← rb.length]; rfl))
theorem op_neDI (hu : X.A.units < cLine) : OpR X (compareOp .NotEq) rNeDI := by
  intro pins s σ H x y v u Q I rx ry h
  obtain ⟨a, b, ks, ls, rfl, rfl, ⟨ea, ia⟩, ⟨eb, ib⟩, q⟩ := h
  obtain rfl : v = Value.ref a := rx
  obtain rfl : u = Value.ref b := ry
  obtain ⟨_, ya, va, ra, da⟩ := dk_rd I.hok ea
  obtain ⟨_, yb, vb, rb, db⟩ := dk_rd I.hok eb
  exact PySem.W.keq_ne (knd := mixKind X.prog X.w) ya yb da db hu (fun _ => hits_int rb ib ra ia) (fin_bl I q (by rw [← ra.length, ← rb.length]; rfl))
/-- len(d), locked or not -/
theorem call_lenR : CallR X (.builtin "len") (fun xs H Q => ∃ a kvs, xs = [.ref a] ∧ Rd H a (.dK kvs) ∧ Q (.int kvs.length) H) := by
  intro pins s σ H xs us Q I r h
  obtain ⟨a, kvs, rfl, hd, q⟩ := h
  obtain ⟨u, rfl, ru⟩ := vals1 r
  obtain rfl : u = Value.ref a := ru
  exact d_len I hd fun t s' I' => ⟨.int kvs.length, H, I', ⟨t, rfl⟩, q⟩
end
end Lp

set_option Elab.async false
set_option linter.all false
set_option maxRecDepth 100000
set_option maxHeartbeats 4000000
namespace Lp
open PySem PySem.Spec PyProof.Rows L2
/-! ### the head's facts, defs at any place (getters of properties too) -/
structure GDef where
  ad : PySem.W.Frag → Addr
  d : He.DefD
def fnWa (K : PySem.W.Frag) (a : Addr) : He.FnW := match K.lookup a with
  | some ⟨_, _, .func fd, _⟩ => some (fd.name, fd.qualname, fd.params, fd.body, fd.scope, fd.globals, fd.closure, fd.builtins)
  | _ => none
def okA (K : PySem.W.Frag) (a : Addr) (d : He.DefD) : Bool := PySem.W.keepIn K (.ref a) && (match K.lookup a with
  | some ⟨_, _, .func fd, _⟩ => PySem.W.codeIn K fd.code d.qual && (He.dflB K fd.defaults (d.dvs K) && He.kwdB K fd.kwdefaults (d.kws K))
  | _ => false)
theorem funDa {K : PySem.W.Frag} {a : Addr} {d : He.DefD} (e : fnWa K a = d.val) (c : okA K a d = true) : FunD K d.name d.qual d.params d.body d.scope (d.dvs K) (d.kws K) a (fdAt K a) := by
  obtain ⟨kp, c2⟩ := Bool.and_eq_true_iff.mp c
  unfold fnWa at e
  cases q : K.lookup a with
  | none =>
    rw [q] at c2
    cases c2
  | some o =>
    obtain ⟨oc, od, dt, osl⟩ := o
    rw [q] at c2 e
    cases dt with
    | func fd =>
      obtain ⟨n1, n2, n3, n4, n5, n6, n7, n8, n9, n10, n11, n12, n13, n14, n15⟩ := fd
      have e2 : (some (n1, n2, n3, n4, n5, n6, n7, n15) : He.FnW) = some (d.name, d.qual, d.params, .stmts d.body, d.scope, mainGlobals, [], builtinsNs) := e
      simp only [Option.some.injEq, Prod.mk.injEq] at e2
      obtain ⟨h1, h2, h3, h4, h5, h6, h7, h8⟩ := e2
      subst h1 h2 h3 h4 h5 h6 h7 h8
      obtain ⟨k1, k2⟩ := Bool.and_eq_true_iff.mp (show (PySem.W.codeIn K n13 d.qual && (He.dflB K n8 (d.dvs K) && He.kwdB K n9 (d.kws K))) = true from c2)
      obtain ⟨k3, k4⟩ := Bool.and_eq_true_iff.mp k2
      exact fdAt_eq ⟨⟨oc, od, n8, n9, n10, n11, n12, n13, n14, osl, rfl, q, k1, He.dflB_ok k3, He.kwdB_ok k4⟩, kp⟩
    | _ => cases c2
def obsM (ex : PySem.W.Frag → Bool) (fn : List GDef) (K : PySem.W.Frag) : He.AlD := (ex K && fn.all fun g => okA K (g.ad K) g.d, fn.map fun g => fnWa K (g.ad K))
def valM (fn : List GDef) : He.AlD := (true, fn.map fun g => g.d.val)
def SaysM (ex : PySem.W.Frag → Bool) (fn : List GDef) (K : PySem.W.Frag) : Prop := obsM ex fn K = valM fn
def obsMG (n : Nat) (ex : PySem.W.Frag → Bool) (fn : List GDef) (g : Addr → Option Obj) : He.AlD := obsM ex fn (He.frG g (cStatics :: He.asD g n))
def hookM (n : Nat) (ex : PySem.W.Frag → Bool) (fn : List GDef) : PySem.W.Hook where
  α := He.AlD
  obs := fun s => obsMG n ex fn s.heap.get?
  val := fun _ => valM fn
  says := fun _ h => ∃ K : PySem.W.Frag, K.In h ∧ SaysM ex fn K
  of := fun _ _ e => ⟨_, He.frG_in, e⟩
  keeps := fun _ _ _ ⟨K, hK, c⟩ k => ⟨K, PySem.W.Frag.In.keeps hK k, c⟩
theorem obsMG_eq {n : Nat} {ex : PySem.W.Frag → Bool} {fn : List GDef} {g : Addr → Option Obj} {s : Shared} (h : ∀ a, g a = s.heap.get? a) : obsMG n ex fn g = (hookM n ex fn).obs s := by
  have e : g = s.heap.get? := funext h
  rw [e] <;> rfl
section
variable {ex : PySem.W.Frag → Bool} {fn : List GDef} {K : PySem.W.Frag}
theorem SaysM.all_ (c : SaysM ex fn K) : ex K = true := (Bool.and_eq_true_iff.mp (show (ex K && fn.all fun g => okA K (g.ad K) g.d) = true from congrArg (fun z : He.AlD => z.1) c)).1
theorem SaysM.def_ (c : SaysM ex fn K) (i : Nat) {g : GDef} (h : fn[i]? = some g := by rfl) : FunD K g.d.name g.d.qual g.d.params g.d.body g.d.scope (g.d.dvs K) (g.d.kws K) (g.ad K) (fdAt K (g.ad K)) := by
  have c2 := (Bool.and_eq_true_iff.mp (show (ex K && fn.all fun g => okA K (g.ad K) g.d) = true from congrArg (fun z : He.AlD => z.1) c)).2
  have e : fn.map (fun g => fnWa K (g.ad K)) = fn.map fun g => g.d.val := congrArg (fun z : He.AlD => z.2) c
  have e2 : (fn.map fun g => fnWa K (g.ad K))[i]? = (fn.map fun g => g.d.val)[i]? := by rw [e]
  rw [List.getElem?_map, List.getElem?_map, h] at e2
  exact funDa (Option.some.inj e2) (List.all_eq_true.mp c2 g (List.mem_of_getElem? h))
end
/-- the getter of a property -/
def gtAd (K : PySem.W.Frag) (p : Str × Option Str) : Addr := match PySem.W.recIn K (He.fAd K p) "property" with
  | some (.ref g :: _) => g
  | _ => 0
def propB (K : PySem.W.Frag) (C p g : Addr) (f : Str) : Bool := decide (PySem.W.findIn K (.ref C) f = some (some (.ref p))) && (decide (PySem.W.specialIn K (.ref p) "__get__" = some (some (.builtin "property.__get__"))) && (decide (PySem.W.takesIn K (.ref p) = some true) &&
  (match PySem.W.recIn K p "property" with
    | some (.ref g' :: _) => decide (g' = g)
    | _ => false)))
theorem propB_ok {K : PySem.W.Frag} {C p g : Addr} {f : Str} (h : propB K C p g f = true) : PropOf K C f p g := by
  unfold propB at h
  simp only [Bool.and_eq_true, decide_eq_true_eq] at h
  obtain ⟨h1, h2, h3, h4⟩ := h
  refine ⟨h1, h2, h3, ?_⟩
  split at h4
  · rename_i g' rest e
    rw [e, of_decide_eq_true h4]
    exact ⟨rest, rfl⟩
  · cases h4
end Lp

set_option Elab.async false
set_option linter.all false
set_option maxRecDepth 100000
set_option maxHeartbeats 4000000
namespace PySem.W
open PySem PySem.Calls PyProof.Rows
section
variable {prog : Program} {w : World} {A : Around} {E : Value → Shared → Prop} {s : Shared} {T : String} {r d : Addr} {n : Nat} {P : Nat → Value → Prop} {OK : Heap → Prop}
/-- the items of a dict or of a view of one, collected -/
theorem lp_collect {Q : List Value → Shared → Prop} (K : KdlSrc prog w T r d n P OK) (hh : A.handled = none) (hok : OK s.heap) (hn : n ≤ sizeLine)
    (hQ : ∀ h' tk acc, (∀ b o, s.heap.get? b = some o → h'.get? b = some o) → ItemsOf P acc n → Q acc.toList { s with heap := h', toks := tk }) : wpAny (model prog w) A (collect (.ref r)) Q E s := by
  unfold collect
  refine wpAny_bind (wpAny_runValue (codeAny_builtin F.entry_proto_collect ?_))
  rw [Around.under_plainId F.plain_proto_collect _]
  show wpAny _ A.in1 (newList [] >>= fun l => again (.builtin "list.__iadd__" ⟨[l, .ref r], []⟩)) _ _ s
  refine wpAny_bind (wpAny_newObj_type ?_)
  refine wpAny_pure ⟨plainId_quiet F.plain_list_iadd _, codeAny_builtin F.entry_list_iadd ?_⟩
  rw [Around.under_plainId F.plain_list_iadd _]
  have hS₁ : (s.heap.push { cls := .type "list", data := .seq ([] : List Value).toArray }).get? s.heap.objs.size = some { cls := .type "list", data := .seq ([] : List Value).toArray } := Heap.get?_push_size _ rfl
  have lt := K.there _ hok
  show wpAny _ A.in1 (Builtin.List.listExtendWith (.ref s.heap.objs.size) (.ref r) (.ref s.heap.objs.size)) _ _ _
  refine wpAny_mono (kdl_extend (A := A) (R := fun r s' => r = .ok (.ret (.ref s.heap.objs.size)) ∧ ∃ h' tk acc c, s' = { s with heap := h', toks := tk } ∧ h'.get? s.heap.objs.size = some { cls := .type "list", dict := none, data := .seq acc c, slots := #[] } ∧ Q acc.toList s') (s := { s with heap := s.heap.push { cls := .type "list", data := .seq ([] : List Value).toArray } }) K hh (K.keep _ _ hok fun b _ o e => Heap.get?_push_of_some _ e) s.heap.objs.size (Nat.ne_of_gt lt.1) (Nat.ne_of_gt lt.2) (.ref s.heap.objs.size) 0 hS₁ (fun h' tk acc' c' hk hS' hacc => ⟨rfl, h', tk, acc', c', rfl, hS', hQ h' tk acc' (fun b o e => hk b o (Nat.ne_of_lt (Heap.lt_size e)) (Heap.get?_push_of_some _ e)) hacc⟩) hn) (fun fin s' z => ?_) fun e s' z => nomatch z.1
  cases fin with
  | done f =>
    obtain ⟨e, h', tk, acc, c, rfl, hS', q⟩ := z
    cases e
    show wpAny _ A (load s.heap.objs.size >>= _) _ _ _
    exact wpAny_bind (wpAny_load hS' (wpAny_pure q))
  | again c' =>
    refine ⟨z.1, codeAny_mono z.2 fun r s'' z => ?_⟩
    obtain ⟨e, h', tk, acc, c, rfl, hS', q⟩ := z
    subst e
    show wpAny _ A (load s.heap.objs.size >>= _) _ _ _
    exact wpAny_bind (wpAny_load hS' (wpAny_pure q))
end
section
variable {prog : Program} {w : World} {A : Around} {E : Value → Shared → Prop} {s : Shared} {K : Frag} {x C L f : Addr} {h₀ : Heap} {m : Str → Option Value} {ox : Obj} {od : Option Obj} {b tb : Value}
/-- o != b by an own __eq__ -/
theorem lp_ne {Q : Value → Shared → Prop} (hu : A.units + 1 < cLine) (X : K.In s.heap) (I : InstAt s.heap x ox C od) (hb : Looks (model prog w) s.heap (typeOf b) tb) (hn : notFirst K C tb = true)
    (hs : findIn K (.ref C) "__eq__" = some (some (.ref f))) (hf : isFn K (.ref f) = true) (hne : findIn K (.ref C) "__ne__" = some (some (.builtin "object.__ne__"))) (hm : mroIn K C (.type "object") = some true)
    (h : wpAny (model prog w) A.in1 (call (.ref f) [.ref x, b]) (fun v s' => ∃ k, v = .bool k ∧ Q (.bool (!k)) s') E s) : wpAny (model prog w) A (richCompare .NotEq (.ref x) b) Q E s := by
  have ent : wpAny (model prog w) A.in1 (Builtin.«object.__ne__» ⟨[.ref x, b], []⟩) (fun fin s' => ∃ v, fin = .done (.ret v) ∧ ∃ k, v = .bool (!k) ∧ Q (.bool (!k)) s') E s := by
    unfold Builtin.«object.__ne__»
    refine wpAny_bind (m := slotArgs "__ne__" 1 _) (wpAny_pure ?_)
    refine wpAny_bind (m := cRoomFor _ _) (wpAny_cRoomFor (by show A.units + 1 < cLine; exact hu) ?_)
    refine wpAny_bind (m := callSpecialIfBound? (.ref x) (Str.ofString "__eq__") _) (ifBound_K X I hs hf (wpAny_mono h (fun r s' hq => ?_) fun _ _ y => y))
    obtain ⟨k, rfl, hq⟩ := hq
    refine wpAny_bind (m := truthy (.bool k)) (wpAny_truthy_bool ?_)
    exact wpAny_pure ⟨_, rfl, k, rfl, hq⟩
  have cal : wpAny (model prog w) A (call (.builtin "object.__ne__") [.ref x, b]) (fun v s' => ∃ k, v = .bool (!k) ∧ Q (.bool (!k)) s') E s :=
    wpAny_call (codeAny_call_builtin F.cmp_object.ne.plain F.cmpEntry_ne (check_slot F.cmpKind_ne F.cmpSplit_ne (I.type.andThen (looks_mroIn X hm)) (F.cmpArgs_ne _ _) (wpAny_mono ent (fun fin s' z => by
      obtain ⟨v, rfl, k, rfl, hq⟩ := z
      exact ⟨k, rfl, hq⟩) fun _ _ y => y)))
  have one : wpAny (model prog w) A (tryCompare (.ref x) "__ne__" b) (fun r s' => ∃ v, r = some v ∧ Q v s') E s := by
    unfold tryCompare
    refine wpAny_bind (m := callSpecialIfBound? (.ref x) (Str.ofString "__ne__") _) ?_
    simp only [callSpecialIfBound?, bindSpecialIfBound?]
    refine wpAny_holding (wpAny_bind (wpAny_bind (wpAny_bind (I.type.here ((looks_findIn X hne).here ?_)))))
    refine wpAny_bind (wpAny_askSetting (wpAny_ite ?_))
    have fin : wpAny (model prog w) A (call (.builtin "object.__ne__") ([.ref x] ++ [b]) >>= fun v => pure (some v)) (fun r s' => ∃ k, r = some (.bool (!k)) ∧ Q (.bool (!k)) s') E s := wpAny_bind (wpAny_mono cal (fun v s' ⟨k, e, h'⟩ => wpAny_pure ⟨k, by rw [e], h'⟩) fun _ _ h' => h')
    have fin2 : wpAny (model prog w) A (call (.builtin "object.__ne__") ([.ref x] ++ [b]) >>= fun v => pure (some v)) (fun r s' => wpAny (model prog w) A (match r with | some .notImplemented | none => pure none | some v => pure (some v)) (fun r s' => ∃ v, r = some v ∧ Q v s') E s') E s := wpAny_mono fin (fun r s' ⟨k, e, hq⟩ => by
      subst e
      exact wpAny_pure ⟨_, rfl, hq⟩) fun _ _ y => y
    split
    · exact wpAny_bind (wpAny_of_eq (F.cmp_object.ne.bind _) (wpAny_pure (by exact fin2)))
    · exact wpAny_tryCatch (wpAny_bind (wpAny_of_eq (F.cmp_object.ne.bind _) (wpAny_pure (by exact fin2))))
  unfold richCompare
  simp only [oneThing_ref]
  refine wpAny_holding (wpAny_bind (wpAny_cRoomFor (by omega) ?_))
  refine wpAny_bind (I.type.here (wpAny_bind (hb.here ?_)))
  split
  · rename_i q
    have e : subIn K tb (.ref C) = some false := by
      rcases Bool.or_eq_true_iff.mp hn with e | e
      · rw [beq_iff_eq.mp e] at q; simp at q
      · exact beq_iff_eq.mp e
    refine wpAny_bind ((looks_subIn X e).here ?_)
    simp only [Bool.false_eq_true, if_false]
    refine wpAny_bind (wpAny_mono one (fun r s' z => ?_) fun _ _ e => e)
    obtain ⟨v, rfl, hq⟩ := z
    exact wpAny_pure hq
  · refine wpAny_bind (wpAny_pure ?_)
    simp only [Bool.false_eq_true, if_false]
    refine wpAny_bind (wpAny_mono one (fun r s' z => ?_) fun _ _ e => e)
    obtain ⟨v, rfl, hq⟩ := z
    exact wpAny_pure hq
end
end PySem.W
namespace Lp
open PySem PySem.Spec PyProof.Rows L2
section
variable {X : Cx}
/-! ### views of dicts -/
def valsO (p d : Addr) : HO := .ext fun h => h.IsValuesView p d
theorem valsO_ok {P : Program} {w : World} {H : Hp} {h : Heap} {p d : Addr} (e : h.get? p = some { cls := .type "dict_values", data := .fields #[.ref d] }) : ObjOk P w H h p (valsO p d) :=
  ⟨⟨_, e, rfl, rfl⟩, ⟨_, e⟩, fun h1 h2 x k => let ⟨o, ho, r⟩ := x; ⟨o, k o ho, r⟩⟩
/-- d.values(), d locked or not -/
def tVals (td : TE) : TE := fun σ H Q => td σ H fun x H1 => ∃ a kvs, x = V.ref a ∧ Rd H1 a (.dK kvs) ∧ ∀ p, H1 p = none → Q (.ref p) (upd H1 p (valsO p a))
theorem pe_vals {o : Expr} {td : TE} {apos mpos : Pos} (hd : PE X o td) (hbase : attributeBase o "values" X.env (eval o X.env) = eval o X.env := by rfl) (hline : (apos.endLine == mpos.line) = true := by rfl) :
    PE X (.Call (.Attribute o "values" apos) [] [] mpos) (tVals td) := by
  refine ⟨fun pins s σ H Q I h => ?_⟩
  refine wpAny_Call_method0_late hbase hline (thn (hd.run pins s σ H _ I h) fun v s1 ⟨x, H1, I1, r1, a, kvs, ex, ha, q⟩ => ?_)
  subst ex
  obtain rfl : v = Value.ref a := r1
  obtain ⟨_, hsys, vs, rel, dof⟩ := dk_rd I1.hok ha
  obtain ⟨ep, dat⟩ := dof.dictAt
  obtain ⟨ob, es, ho, ex, hdat, hko, hpr, hnd⟩ := id dat
  refine ⟨"dict", "dict.values", F.plainAttrs_dict, F.slot_dict_values, F.type_dict_values, ⟨ob, ho, ex.1⟩, fun b e => ?_, Calls.callWith_builtin rfl (PySem.evalArgs_none ?_)⟩
  · cases e
    exact ⟨ob, ho, ex.2.1⟩
  refine call_meetsIn F.slot_dict_values ⟨ob, ho, ex.1⟩ F.entry_dict_values (F.args_dict_values_1 _) (meets_dict_values (mixKind X.prog X.w) a hsys) ⟨⟨vs, dof⟩, ?_⟩
  exact ⟨.ref s1.heap.objs.size, _, I1.laid (t' := s1.toks) (fun b u e => Heap.get?_push_of_some _ e) (Nat.le_refl _) (valsO_ok (Heap.get?_push_size _ rfl)), rfl, q _ (I1.hok.fresh (Nat.le_refl _))⟩
theorem vals_at {κ : Type} : ∀ {us : List Value} {vs : List (κ × Value)}, us.length = vs.length → (∀ (j : Nat) (v : Value), us[j]? = some v → ∃ (k : κ), vs[j]? = some (k, v)) → us = vs.map (·.2)
  | [], [], _, _ => rfl
  | u :: us, q :: vs, hl, h => by
    obtain ⟨k, e1⟩ := h 0 u rfl
    have e1' : q = (k, u) := Option.some.inj e1
    rw [List.map_cons, e1', vals_at (us := us) (vs := vs) (by simpa using hl) fun j v e => h (j + 1) v (by simpa using e)]
  | [], _ :: _, hl, _ => by simp at hl
  | _ :: _, [], hl, _ => by simp at hl
theorem kv_vals {κ : Type} {kvs : List (κ × V)} {vs : List (κ × Value)} (r : KV kvs vs) : Vals (kvs.map (·.2)) (vs.map (·.2)) := by
  unfold KV at r
  induction r with
  | nil => exact .nil
  | cons h t ih => exact .cons h.2 ih
/-- list(d.values()) -/
theorem call_listV (hc : X.calm = true) : CallR X (.type "list") (fun xs H Q => ∃ (p a : Addr) (kvs : List (Key × V)), xs = [.ref p] ∧ H p = some (valsO p a) ∧ Rd H a (.dK kvs) ∧ ∀ q, H q = none → Q (.ref q) (upd H q (.lst (kvs.map (·.2))))) := by
  intro pins s σ H xs us Q I r q
  obtain ⟨p, a, kvs, ex, hp, hd, q⟩ := q
  subst ex
  obtain ⟨u, eu, rx⟩ := vals1 r
  subst eu
  cases rx
  obtain ⟨z, lo, vs, rel, dd⟩ := dk_rd I.hok hd
  obtain ⟨ep, hat⟩ := dd.dictAt
  have view : s.heap.IsValuesView p a := (show ObjOk X.prog X.w H s.heap p (valsO p a) from I.hok p _ hp).1
  refine PySem.W.kdl_call (PySem.W.kdl_values (knd := mixKind X.prog X.w) (kvs := vs) (ep := ep)) (I.ok.hd hc) ⟨view, hat⟩ (by rw [← rel.length]; exact z) fun h' tk acc c' hk hD hacc => ?_
  have hv : Vals (kvs.map (·.2)) acc.toList := by
    have e := vals_at (us := acc.toList) (vs := vs) (by rw [Array.length_toList]; exact hacc.1) fun j v e => hacc.2 j v (by rw [← Array.getElem?_toList]; exact e)
    rw [e]
    exact kv_vals rel
  refine ⟨.ref s.heap.objs.size, upd H s.heap.objs.size (.lst (kvs.map (·.2))), I.laid (t' := tk) hk (Nat.le_refl _)
    (show ObjOk X.prog X.w _ _ _ (.lst (kvs.map (·.2))) from ⟨by rw [List.length_map]; exact z, acc.toList, c', hv, by rw [Array.toArray_toList]; exact hD⟩), rfl, q _ (I.hok.fresh (Nat.le_refl _))⟩
theorem preSum_take (is : List Int) : ∀ j, j ≤ is.length → preSum (fun i => is.getD i 0) j = (is.take j).sum
  | 0, _ => by simp [preSum]
  | j + 1, h => by
    have e : is.getD j 0 = is[j] := by rw [List.getD_eq_getElem?_getD, List.getElem?_eq_getElem (by omega)]; rfl
    rw [preSum, preSum_take is j (by omega), e, List.take_succ, List.getElem?_eq_getElem (by omega), List.sum_append]
    simp
/-- sum(d.values()) -/
theorem call_sumV (hc : X.calm = true) : CallR X (.builtin "sum") (fun xs H Q => ∃ (p a : Addr) (kvs : List (Key × V)) (is : List Int), xs = [.ref p] ∧ H p = some (valsO p a) ∧ Rd H a (.dK kvs) ∧ kvs.map (·.2) = is.map V.int ∧ Q (.int is.sum) H) := by
  intro pins s σ H xs us Q I r q
  obtain ⟨p, a, kvs, is, ex, hp, hd, hv, q⟩ := q
  subst ex
  obtain ⟨u, eu, rx⟩ := vals1 r
  subst eu
  cases rx
  obtain ⟨z, lo, vs, rel, dd⟩ := dk_rd I.hok hd
  obtain ⟨ep, hat⟩ := dd.dictAt
  obtain ⟨ob, es, ho, ex, hdat, hko, hpr, hnd⟩ := id hat
  have view : s.heap.IsValuesView p a := (show ObjOk X.prog X.w H s.heap p (valsO p a) from I.hok p _ hp).1
  have hlt : a < s.heap.objs.size := Heap.lt_size ho
  have hlv : vs.length = is.length := by
    have e1 := congrArg List.length hv
    rw [List.length_map, List.length_map] at e1
    rw [← e1]
    exact (KV.length rel).symm
  have hval : ∀ (i : Nat) (v : Value), (∃ k, vs[i]? = some (k, v)) → ∃ t, v = Value.int (is.getD i 0) t := fun i v ⟨k, hk⟩ => by
    obtain ⟨x, h1, h2⟩ := KV.at' rel hk
    have e1 : (kvs.map (·.2))[i]? = some x := by rw [List.getElem?_map, h1] <;> rfl
    rw [hv, List.getElem?_map] at e1
    obtain ⟨j, hj, e2⟩ := Option.map_eq_some_iff.mp e1
    subst e2
    obtain ⟨t, e3⟩ := h2
    refine ⟨t, ?_⟩
    rw [e3, List.getD_eq_getElem?_getD, hj] <;> rfl
  refine call_sum_walkG (wpAny_pyIter_values (knd := mixKind X.prog X.w) view hat ?_)
  refine ⟨_, _, _, _, _, _, _, rfl, Walks.dictValues (knd := mixKind X.prog X.w) (A := X.A.in1) (I.ok.hd hc) s.heap.objs.size a (Nat.ne_of_lt hlt) vs ep,
    ⟨⟨_, Heap.get?_push_size _ rfl, rfl, rfl⟩, hat.keep fun b u e => Heap.get?_push_of_some _ e⟩, fun b hb => ?_, hval, fun h' tk t' hk => ?_⟩
  · show b < (s.heap.push _).objs.size
    rw [Heap.size_push]
    rcases List.mem_cons.mp hb with e | hb
    · rw [e]; exact Nat.lt_succ_self _
    · rw [List.mem_singleton.mp hb]; exact Nat.lt_succ_of_lt hlt
  · have e : preSum (fun i => is.getD i 0) vs.length = is.sum := by
      rw [hlv, preSum_take is _ (Nat.le_refl _), List.take_length]
    rw [e]
    exact ⟨.int _, H, I.kept (t' := tk) fun b u e => hk b u (fun hm => by rw [List.mem_singleton.mp hm] at e; exact absurd (Heap.lt_size e) (Nat.lt_irrefl _)) (Heap.get?_push_of_some _ e), ⟨t', rfl⟩, q⟩
/-- *d in a display or a call: the keys -/
def tStarD (te : TE) (t : TA) : TA := fun σ H Q => te σ H fun x H1 => ∃ d kvs, x = V.ref d ∧ Rd H1 d (.dK kvs) ∧ t σ H1 fun ys H2 => Q (kvs.map (fun kv => kV kv.1) ++ ys) H2
theorem pa_starD {e : Expr} {es : List Expr} {te : TE} {t : TA} {p : Pos} (hc : X.calm = true) (he : PE X e te) (hr : PA X es t) (hs : starEach (.Starred e p :: es) X.env = (true, eval e X.env) :: starEach es X.env := by rfl) : PA X (.Starred e p :: es) (tStarD te t) := by
  refine ⟨fun pos pins s σ H Q I h => ?_⟩
  refine PySem.W.items_star (thn (he.run pins s σ H _ I h) fun v s1 ⟨y, H1, I1, ry, a, kvs, ey, hx, q⟩ => ?_) hs
  subst ey
  obtain rfl : v = Value.ref a := ry
  obtain ⟨z, lo, vs, rel, dd⟩ := dk_rd I1.hok hx
  obtain ⟨ep, hat⟩ := dd.dictAt
  have ek : (kvs.map fun kv => kV kv.1) = vs.map fun p => kV p.1 := by
    have e := congrArg (List.map kV) rel.keys
    rw [List.map_map, List.map_map] at e
    exact e
  unfold PySem.W.StarOf notIterableAtAll
  refine wpAny_bind (wpAny_specialOf dd.typeIs PySem.F.slot_dict_iter.lookup (wpAny_pure ⟨rfl, ?_⟩))
  refine PySem.W.lp_collect (PySem.W.kdl_dict (knd := mixKind X.prog X.w) (kvs := vs) (ep := ep) lo) (I.ok.hd hc) hat (by rw [← rel.length]; exact z) fun h' tk acc hk hacc => ?_
  have hv : Vals (vs.map fun p => kV p.1) acc.toList := keys_at (by rw [Array.length_toList]; exact hacc.1) fun j v e => hacc.2 j v (by rw [← Array.getElem?_toList]; exact e)
  exact thn (hr.run pos pins _ σ H1 _ (I1.kept (t' := tk) hk) q) fun ws s3 ⟨us, H3, I3, r3, q3⟩ => ⟨_, H3, I3, Vals.append (by rw [ek]; exact hv) r3, q3⟩
/-- str(o) by an own __str__ -/
theorem call_strOwn {CX : CXT} {k : Nat} {f C : Addr} {sp : Sp} {E : XK} (M : Meth X.K C "__str__" f) (F : FnR X.prog X.w X.K X.mg X.base CX k f sp) (hr : Room (k + 2) X.A) (hx : Passes CX X E) :
    CallR X (.type "str") (fun xs H Q => ∃ a dx fs, xs = [.ref a] ∧ H a = some (.ins C dx fs) ∧ sp [.ref a] H (fun v H' => ∃ z : Str, v = .str z ∧ Q (.str z) H') E) := by
  intro pins s σ H xs us Q I r h
  obtain ⟨p, dx, fs, rfl, hp, q⟩ := h
  cases r with
  | @cons _ u _ _ rx rr =>
    cases rr
    obtain rfl : u = Value.ref p := rx
    obtain ⟨ox, od, J⟩ := ins_at I hp
    refine PySem.W.kso_call (by have := hr.un; show X.A.units + 1 + 1 < cLine; omega) I.kIn J M.at_ M.fn ?_
    refine thn (Q := EP X pins σ fun v H' => ∃ z : Str, v = .str z ∧ Q (.str z) H') (wpAny_call (codeAny_mono (F X.A.in1.in1 X.stack s H [.ref p] [.ref p] _ E hr.in1.in1 I.env0.in1.in1 (.cons rfl .nil) q) fun r s' hq => ?_)) fun r s1 z => ?_
    · rcases r with er | (_ | _ | _ | u)
      · exact hx pins σ H s er s' I hq
      · exact False.elim hq
      · exact False.elim hq
      · exact False.elim hq
      · exact I.after hq
    · obtain ⟨v, H1, I1, rv, zz, ev, q1⟩ := z
      subst ev
      obtain ⟨t, rfl⟩ := rv
      exact ⟨.str zz, H1, I1, ⟨t, rfl⟩, q1⟩
end
end Lp

set_option Elab.async false
set_option linter.all false
set_option maxRecDepth 100000
set_option maxHeartbeats 4000000
namespace Lp.GN
open PySem PySem.SeqAt GQ
open AutoSeq1 (wpAny_loadPart')
open MeetsSeq MeetsSeq2 MeetsSeq3
section
variable {prog : Program} {w : World} {A : Around} {R : Result → Shared → Prop}
theorem ne_loopG (l b : Addr) (N : Nat) (I : Nat → Shared → Prop) (hl : ListI prog w A (fun e s' => R (.error e) s') l b N I)
    (fin : ∀ s, I N s → R (.ok (.ret (.bool false))) s) (k : Nat) :
    ∀ i : Nat, N - i = k → i ≤ N → ∀ s, I i s →
      wpAny (model prog w) A.in1 (Builtin.«list.__eq__.loop» ⟨[.ref l, .ref b, rawInt i, rawInt 3], []⟩) (FinOf prog w A R) (fun e s' => R (.error e) s') s := by
  induction k with
  | zero =>
    intro i hk hi s h
    obtain ⟨items, items2, n, n2, hl1, hb1, hs1, hs2, _⟩ := hl _ _ h
    have hi' : i = N := by omega
    have hR : R (.ok (.ret (.bool false))) s := fin s (hi' ▸ h)
    obtain ⟨hp, g, d, tk, os⟩ := s
    wp_walk using wpAny_loadPart' hl1, wpAny_loadPart' hb1
    have hi1 : items[((i : Nat) : Int).toNat]? = none := by simp; omega
    have hi2 : items2[((i : Nat) : Int).toNat]? = none := by simp; omega
    rw [hi1, hi2]
    wp_walk using wpAny_loadPart' hl1, wpAny_loadPart' hb1
    show R (.ok (.ret (.bool (items.size != items2.size)))) _
    rw [hs1, hs2]
    simpa using hR
  | succ k ih =>
    intro i hk hi s h
    obtain ⟨items, items2, n, n2, hl1, hb1, hs1, hs2, turn⟩ := hl _ _ h
    have hlt : i < items.size := by omega
    have hlt2 : i < items2.size := by omega
    have ht := turn hlt hlt2
    obtain ⟨hp, g, d, tk, os⟩ := s
    wp_walk using wpAny_loadPart' hl1, wpAny_loadPart' hb1
    have hi1 : items[((i : Nat) : Int).toNat]? = some items[i] := by simp [hlt]
    have hi2 : items2[((i : Nat) : Int).toNat]? = some items2[i] := by simp [hlt2]
    have hc : ((i : Int) + 1) = ((i + 1 : Nat) : Int) := by omega
    rw [hi1, hi2]
    refine wpAny_bind (wpAny_mono ht (fun r s2 h2 => ?_) fun _ _ x => x)
    obtain ⟨hr, h2⟩ := h2
    subst hr
    have hrec := ih (i + 1) (by omega) (by omega) s2 h2
    obtain ⟨hp2, g2, d2, tk2, os2⟩ := s2
    wp_walk
    rw [hc]
    exact ⟨plainId_quiet plain_eq_loop _, codeAny_builtin entry_eq_loop (by
      rw [Around.under_plainId plain_eq_loop _]
      exact hrec)⟩
theorem list_neG (l b : Addr) (N : Nat) (I : Nat → Shared → Prop) (hl : ListI prog w A (fun e s' => R (.error e) s') l b N I)
    (fin : ∀ s, I N s → R (.ok (.ret (.bool false))) s) {s : Shared} (h : I 0 s) :
    wpAny (model prog w) A.in1 (Builtin.«list.__ne__» ⟨[.ref l, .ref b], []⟩) (FinOf prog w A R) (fun e s' => R (.error e) s') s := by
  obtain ⟨items, items2, n, n2, hl1, hb1, hs1, hs2, _⟩ := hl _ _ h
  have hrec := ne_loopG (A := A) (R := R) l b N I hl fin _ 0 rfl (Nat.zero_le _) s h
  obtain ⟨hp, g, d, tk, os⟩ := s
  have f3 := AutoSeq1.sub_list_list
  have hne : ¬ (items.size != items2.size) = true := by simp [hs1, hs2]
  wp_walk using wpAny_loadPart' hl1, wpAny_loadPart' hb1
  exact ⟨plainId_quiet plain_eq_loop _, codeAny_builtin entry_eq_loop (by
    rw [Around.under_plainId plain_eq_loop _]
    exact hrec)⟩
end
section
variable {prog : Program} {w : World} {A : Around} {E : Value → Shared → Prop} {s : Shared}
theorem rcNe_listG {l b : Addr} {N : Nat} {Q : Value → Shared → Prop} (hu : A.units < cLine) (I : Nat → Shared → Prop) (hl : ListI prog w A E l b N I)
    (fin : ∀ s, I N s → Q (.bool false) s) (h : I 0 s) : wpAny (model prog w) A (richCompare .NotEq (.ref l) (.ref b)) Q E s := by
  obtain ⟨items, items2, n, n2, hl1, hb1, _, _, _⟩ := hl _ _ h
  refine wpAny_richCompare_same_room (op := .NotEq) ⟨_, hl1, rfl⟩ ⟨_, hb1, rfl⟩ F.slot_list_ne (call_here F.slot_list_ne ⟨_, hl1, rfl⟩ F.entry_list_ne (F.args_list_ne_2 _ _) ?_) hu
  exact list_neG (R := wants (fun v s' => v ≠ .notImplemented ∧ Q v s') E) l b N I hl (fun s' q => ⟨(fun x => nomatch x), fin s' q⟩) h
end
end Lp.GN
namespace Lp
open PySem PySem.Spec PyProof.Rows L2
section
variable {X : Cx} {n m : Nat} {D D' : Eqv}
/-- x != y, two lists of equal items -/
def rNeGL (D : Eqv) : R2 := fun x y H Q => DList D x y H ∧ ∀ H', Ext H H' → Q (.bl false) H'
theorem op_neGL (hD : Mon D) (h : EqG X n D) (hr : Room (n + 1) X.A) : OpR X (compareOp .NotEq) (rNeGL D) := by
  intro pins s σ H x y v u Q I rx ry hq
  obtain ⟨⟨a, b, xs, ys, rfl, rfl, ha, hb, p⟩, q⟩ := hq
  cases rx
  cases ry
  show wpAny (model X.prog X.w) X.A (richCompare .NotEq _ _) (EP X pins σ Q) X.xe s
  have sb : Sub X (n + 1) X.A := ⟨hr, rfl⟩
  refine GN.rcNe_listG (N := xs.length) hr.units0 (fun _ s' => LoopI X pins σ H s') (fun i s' q => ?_) (fun s' ⟨H', I', e⟩ => ⟨.bl false, H', I', rfl, q H' e⟩) ⟨H, I, Ext.rfl'⟩
  obtain ⟨H1, I1, e1⟩ := id q
  obtain ⟨z, its, k, r, e⟩ := I1.hok a _ (e1 _ _ ha)
  obtain ⟨z2, its2, k2, r2, e2⟩ := I1.hok b _ (e1 _ _ hb)
  refine ⟨its.toArray, its2.toArray, k, k2, e, e2, by rw [List.size_toArray, ← r.length], by rw [List.size_toArray, ← r2.length, ← p.1], fun h1 h2 => ?_⟩
  exact turnG hD h sb p r r2 i h1 h2 s' q
/-- equal dicts of ints, inside something else -/
def DInts : Eqv := fun x y H => ∃ a b ks ls, x = .ref a ∧ y = .ref b ∧ IntD H a ks ∧ IntD H b ls ∧ eqDI ks ls = true
theorem intD_ext {H H' : Hp} {a : Addr} {ks : List (Key × V)} (e : Ext H H') (h : IntD H a ks) : IntD H' a ks := ⟨Evl.ex_rd e h.1, h.2⟩
theorem mon_dInts : Mon DInts := fun x y H H' e d => by
  obtain ⟨a, b, ks, ls, hx, hy, h1, h2, q⟩ := d
  exact ⟨a, b, ks, ls, hx, hy, intD_ext e h1, intD_ext e h2, q⟩
theorem rcG_dInts : RcG X 0 DInts := by
  intro A pins s σ H x y v u sb I rx ry d
  obtain ⟨a, b, ks, ls, rfl, rfl, ⟨ea, ia⟩, ⟨eb, ib⟩, eq⟩ := d
  obtain rfl : v = Value.ref a := rx
  obtain rfl : u = Value.ref b := ry
  obtain ⟨_, ya, va, ra, da⟩ := dk_rd I.hok ea
  obtain ⟨_, yb, vb, rb, db⟩ := dk_rd I.hok eb
  refine PySem.W.keq_eq (knd := mixKind X.prog X.w) ya yb da db sb.room.units0 (fun _ => hits_int rb ib ra ia) ⟨?_, H, I, Ext.rfl'⟩
  rw [← ra.length, ← rb.length]
  exact congrArg Value.bool eq
theorem eqG_dInts : EqG X 0 DInts := rcG_dInts.eqG fun _ _ _ d => let ⟨a, b, _, _, hx, hy, _⟩ := d; ⟨a, b, hx, hy⟩
/-- o != y by an own __eq__, y of the same class -/
def rOwnNe (K : PySem.W.Frag) (C : Addr) (sp : Sp) (E : XK) : R2 := fun x y H Q => ∃ a dx fs t, x = .ref a ∧ H a = some (.ins C dx fs) ∧ TyX K H y t ∧ PySem.W.notFirst K C t = true ∧ sp [.ref a, y] H (fun v H' => ∃ b, v = .bl b ∧ Q (.bl (!b)) H') E
theorem op_neOwn {CX : CXT} {k : Nat} {f C : Addr} {sp : Sp} {E : XK} (M : Meth X.K C "__eq__" f) (hne : PySem.W.findIn X.K (.ref C) "__ne__" = some (some (.builtin "object.__ne__"))) (hm : PySem.W.mroIn X.K C (.type "object") = some true) (F : FnR X.prog X.w X.K X.mg X.base CX k f sp) (hr : Room (k + 1) X.A) (hx : Passes CX X E) : OpR X (compareOp .NotEq) (rOwnNe X.K C sp E) := by
  intro pins s σ H x y u v Q I r1 r2 h
  obtain ⟨a, dx, fs, t, rfl, ha, ty, hn, q⟩ := h
  obtain rfl : u = Value.ref a := r1
  obtain ⟨ox, od, J⟩ := ins_at I ha
  obtain ⟨m, fr⟩ := I.fr
  obtain ⟨PP, kit, hP, _⟩ := kit_of I r2 ty
  show wpAny _ _ (richCompare .NotEq (.ref a) v) _ _ _
  refine PySem.W.lp_ne (by have := hr.un; omega) I.kIn J (kit.ty _ _ I.kIn hP) hn M.at_ M.fn hne hm (thn (run_in1 (vs := [.ref a, y]) F hr hx I (.cons rfl (.cons r2 .nil)) q) fun r s1 ⟨z, H1, I1, rz, b, ez, q1⟩ => ?_)
  subst ez
  obtain rfl : r = Value.bool b := rz
  exact ⟨b, rfl, .bl (!b), H1, I1, rfl, q1⟩
end
end Lp

set_option Elab.async false
set_option linter.all false
set_option maxRecDepth 100000
set_option maxHeartbeats 4000000
namespace Lp
open PySem PySem.Spec PyProof.Rows L2
/-! ### words -/
def isWord (s : Str) : Bool := (decide (0 < s.length) && decide (s.length ≤ 8)) && decide (Txt.stripChars s "abcdefghijklmnopqrstuvwxyz" = "")
theorem isWord_len {s : Str} (h : isWord s = true) : s.length ≤ 8 := by
  unfold isWord at h
  simp only [Bool.and_eq_true, decide_eq_true_eq] at h
  exact h.1.2
/-! ### the order of texts -/
def leS (a b : Str) : Prop := ltCps b.cps.toList a.cps.toList = false
theorem leS_iff {a b : Str} : leS a b ↔ ¬ (b.cps.toList < a.cps.toList) := by
  unfold leS
  rw [ltCps_eq]
  exact decide_eq_false_iff_not
theorem str_ext {a b : Str} (h : a.cps.toList = b.cps.toList) : a = b := by
  cases a
  cases b
  congr 1
  exact Array.toList_inj.mp h
theorem leS_le {a b : Str} : leS a b ↔ a.cps.toList ≤ b.cps.toList := leS_iff
theorem leS_total (a b : Str) : leS a b ∨ leS b a := by
  rw [leS_le, leS_le]
  exact List.le_total _ _
theorem leS_trans {a b c : Str} (h : leS a b) (g : leS b c) : leS a c := by
  rw [leS_le] at *
  exact List.le_trans h g
theorem leS_antisymm {a b : Str} (h : leS a b) (g : leS b a) : a = b := by
  rw [leS_le] at *
  exact str_ext (List.le_antisymm h g)
instance (a b : Str) : Decidable (leS a b) := inferInstanceAs (Decidable (_ = _))
theorem rising_pw : ∀ (p : Str) (l : List Str), risingS p l = true → (p :: l).Pairwise leS
  | p, [], _ => List.pairwise_singleton _ _
  | p, x :: r, h => by
    obtain ⟨h1, h2⟩ := Bool.and_eq_true_iff.mp (show (!ltCps x.cps.toList p.cps.toList && risingS x r) = true from h)
    have ih := rising_pw x r h2
    have hpx : leS p x := by
      unfold leS
      cases e : ltCps x.cps.toList p.cps.toList with
      | false => rfl
      | true => rw [e] at h1; cases h1
    refine List.pairwise_cons.mpr ⟨fun y hy => ?_, ih⟩
    rcases List.mem_cons.mp hy with rfl | hy
    · exact hpx
    · exact leS_trans hpx ((List.pairwise_cons.mp ih).1 y hy)
theorem sorted_pw : ∀ {l : List Str}, sortedS l = true → l.Pairwise leS
  | [], _ => List.Pairwise.nil
  | x :: r, h => rising_pw x r h
theorem pw_unique : ∀ {l1 l2 : List Str}, l1.Pairwise leS → l2.Pairwise leS → l1.Perm l2 → l1 = l2
  | [], l2, _, _, p => (List.nil_perm.mp p).symm
  | a :: l1, [], _, _, p => absurd p (by intro q; have := q.length_eq; simp at this)
  | a :: l1, b :: l2, h1, h2, p => by
    have e : a = b := by
      have m1 : a ∈ b :: l2 := p.mem_iff.mp List.mem_cons_self
      have m2 : b ∈ a :: l1 := p.mem_iff.mpr List.mem_cons_self
      rcases List.mem_cons.mp m1 with e | m1
      · exact e
      · rcases List.mem_cons.mp m2 with e | m2
        · exact e.symm
        · exact leS_antisymm ((List.pairwise_cons.mp h1).1 b m2) ((List.pairwise_cons.mp h2).1 a m1)
    subst e
    rw [pw_unique (List.pairwise_cons.mp h1).2 (List.pairwise_cons.mp h2).2 (List.Perm.cons_inv p)]
def srt (l : List Str) : List Str := l.mergeSort fun a b => decide (leS a b)
theorem srt_perm (l : List Str) : (srt l).Perm l := List.mergeSort_perm l _
theorem srt_pw (l : List Str) : (srt l).Pairwise leS := by
  have h := List.pairwise_mergeSort (le := fun a b => decide (leS a b)) (fun a b c h g => decide_eq_true (leS_trans (of_decide_eq_true h) (of_decide_eq_true g))) (fun a b => by
    rcases leS_total a b with h | h
    · rw [decide_eq_true h]; rfl
    · rw [decide_eq_true h, Bool.or_true]) l
  exact h.imp fun h => of_decide_eq_true h
theorem srt_eq {l ys : List Str} (p : ys.Perm l) (h : sortedS ys = true) : ys = srt l := pw_unique (sorted_pw h) (srt_pw l) (p.trans (srt_perm l).symm)
/-! ### pools and amounts -/
def kvm (m : List (Str × Int)) : List (Key × V) := m.map fun p => (Sum.inr p.1, V.int p.2)
def lk : List (Str × Int) → Str → Option Int
  | [], _ => none
  | p :: m, y => if p.1 = y then some p.2 else lk m y
def val (m : List (Str × Int)) (y : Str) : Int := (lk m y).getD 0
def nms (m : List (Str × Int)) : List Str := m.map (·.1)
theorem kvm_keys (m : List (Str × Int)) : (kvm m).map (·.1) = (m.map (·.1)).map Sum.inr := by
  unfold kvm
  rw [List.map_map, List.map_map]
  rfl
theorem inr_nodup {l : List Str} (h : l.Nodup) : (l.map (Sum.inr : Str → Key)).Nodup := List.Pairwise.map _ (fun a b ne e => ne (Sum.inr.inj e)) h
theorem kvm_nodup {m : List (Str × Int)} (h : (m.map (·.1)).Nodup) : ((kvm m).map (·.1)).Nodup := by
  rw [kvm_keys]
  exact inr_nodup h
theorem valV_kvm : ∀ (m : List (Str × Int)) (y : Str), valV (kvm m) (Sum.inr y) = (lk m y).map V.int
  | [], y => rfl
  | p :: m, y => by
    show valV ((Sum.inr p.1, V.int p.2) :: kvm m) (Sum.inr y) = (if p.1 = y then some p.2 else lk m y).map V.int
    by_cases e : p.1 = y
    · rw [valV_pos (by rw [e]), if_pos e]
      rfl
    · rw [valV_neg fun z => e (Sum.inr.inj z), valV_kvm m y, if_neg e]
theorem lk_in : ∀ {m : List (Str × Int)} {y : Str}, y ∈ m.map (·.1) → lk m y = some (val m y)
  | [], y, h => by simp at h
  | p :: m, y, h => by
    unfold val
    show (if p.1 = y then some p.2 else lk m y) = some ((if p.1 = y then some p.2 else lk m y).getD 0)
    by_cases e : p.1 = y
    · rw [if_pos e]; rfl
    · rw [if_neg e]
      have h' : y ∈ m.map (·.1) := by
        rcases List.mem_cons.mp (show y ∈ p.1 :: m.map (·.1) from h) with z | z
        · exact absurd z.symm e
        · exact z
      rw [lk_in h']
      rfl
theorem lk_off : ∀ {m : List (Str × Int)} {y : Str}, y ∉ m.map (·.1) → lk m y = none
  | [], _, _ => rfl
  | p :: m, y, h => by
    show (if p.1 = y then some p.2 else lk m y) = none
    have h' : ¬ (y = p.1 ∨ y ∈ m.map (·.1)) := fun z => h (List.mem_cons.mpr z)
    rw [if_neg fun e => h' (.inl e.symm), lk_off fun z => h' (.inr z)]
theorem val_off {m : List (Str × Int)} {y : Str} (h : y ∉ m.map (·.1)) : val m y = 0 := by
  unfold val
  rw [lk_off h]
  rfl
theorem lk_mem : ∀ {m : List (Str × Int)} {y : Str} {n : Int}, lk m y = some n → (y, n) ∈ m
  | [], _, _, h => by cases h
  | p :: m, y, n, h => by
    have h' : (if p.1 = y then some p.2 else lk m y) = some n := h
    by_cases e : p.1 = y
    · rw [if_pos e] at h'
      cases h'
      subst e
      exact List.mem_cons_self
    · rw [if_neg e] at h'
      exact List.mem_cons_of_mem _ (lk_mem h')
theorem val_mem : ∀ {m : List (Str × Int)} {p : Str × Int}, (m.map (·.1)).Nodup → p ∈ m → val m p.1 = p.2
  | [], _, _, h => by simp at h
  | q :: m, p, nd, h => by
    obtain ⟨n1, n2⟩ := List.nodup_cons.mp (show (q.1 :: m.map (·.1)).Nodup from nd)
    unfold val
    show (if q.1 = p.1 then some q.2 else lk m p.1).getD 0 = p.2
    rcases List.mem_cons.mp h with rfl | h
    · rw [if_pos rfl]; rfl
    · rw [if_neg fun e => n1 (by rw [e]; exact List.mem_map.mpr ⟨p, h, rfl⟩)]
      exact val_mem n2 h
theorem val_tab {ys : List Str} {f : Str → Int} {y : Str} (h : y ∈ ys) : val (ys.map fun y => (y, f y)) y = f y := by
  induction ys with
  | nil => simp at h
  | cons a ys ih =>
    unfold val
    show (if a = y then some (f a) else lk (ys.map fun y => (y, f y)) y).getD 0 = f y
    by_cases e : a = y
    · rw [if_pos e, e]; rfl
    · rw [if_neg e]
      rcases List.mem_cons.mp h with z | z
      · exact absurd z.symm e
      · exact ih z
theorem val_tab0 {ys : List Str} {f : Str → Int} {y : Str} (h : y ∉ ys) : val (ys.map fun y => (y, f y)) y = 0 := val_off (by rw [List.map_map]; simpa using h)
theorem tab_keys (ys : List Str) (f : Str → Int) : (ys.map fun y => (y, f y)).map (·.1) = ys := by
  rw [List.map_map]
  show List.map id ys = ys
  rw [List.map_id]
def SrcOk (m : List (Str × Int)) : Prop := (m.map (·.1)).Nodup ∧ m.length < 64 ∧ ∀ p ∈ m, isWord p.1 = true ∧ p.1.length ≤ sizeLine ∧ 0 ≤ p.2
theorem SrcOk.val0 {m : List (Str × Int)} (h : SrcOk m) (y : Str) : 0 ≤ val m y := by
  by_cases e : y ∈ m.map (·.1)
  · obtain ⟨p, hp, rfl⟩ := List.mem_map.mp e
    rw [val_mem h.1 hp]
    exact (h.2.2 p hp).2.2
  · rw [val_off e]
    exact Int.le_refl 0
theorem word_len {s : Str} (h : isWord s = true) : s.length ≤ sizeLine := Nat.le_trans (isWord_len h) (by decide)
/-- what Sizes keeps of a dict: the positive amounts, by name -/
def Made (src m : List (Str × Int)) : Prop := ∃ ys : List Str, ys.Perm (src.map (·.1)) ∧ sortedS ys = true ∧ m = (ys.filter fun y => decide (0 < val src y)).map fun y => (y, val src y)
def pos (m : List (Str × Int)) : List Str := (srt (m.map (·.1))).filter fun y => decide (0 < val m y)
def canon (m : List (Str × Int)) : List (Str × Int) := (pos m).map fun y => (y, val m y)
theorem made_eq {src m : List (Str × Int)} (h : Made src m) : m = canon src := by
  obtain ⟨ys, p, s, e⟩ := h
  rw [e, srt_eq p s]
  rfl
theorem mem_pos {m : List (Str × Int)} {y : Str} : y ∈ pos m ↔ 0 < val m y := by
  unfold pos
  rw [List.mem_filter, decide_eq_true_eq]
  refine ⟨fun h => h.2, fun h => ⟨(srt_perm _).mem_iff.mpr ?_, h⟩⟩
  by_cases e : y ∈ m.map (·.1)
  · exact e
  · rw [val_off e] at h
    exact absurd h (Int.lt_irrefl 0)
theorem pos_pw (m : List (Str × Int)) : (pos m).Pairwise leS := (srt_pw _).filter _
theorem pos_nodup {m : List (Str × Int)} (h : (m.map (·.1)).Nodup) : (pos m).Nodup := List.Pairwise.filter _ ((srt_perm _).nodup_iff.mpr h)
theorem pos_ext {a b : List (Str × Int)} (ha : (a.map (·.1)).Nodup) (hb : (b.map (·.1)).Nodup) (h : ∀ y, val a y = val b y) : pos a = pos b :=
  pw_unique (pos_pw a) (pos_pw b) ((List.perm_ext_iff_of_nodup (pos_nodup ha) (pos_nodup hb)).mpr fun y => by rw [mem_pos, mem_pos, h])
theorem canon_ext {a b : List (Str × Int)} (ha : (a.map (·.1)).Nodup) (hb : (b.map (·.1)).Nodup) (h : ∀ y, val a y = val b y) : canon a = canon b := by
  unfold canon
  rw [pos_ext ha hb h]
  exact List.map_congr_left fun y _ => by rw [h]
theorem canon_keys (m : List (Str × Int)) : (canon m).map (·.1) = pos m := tab_keys _ _
theorem val_canon {m : List (Str × Int)} (h : ∀ y, 0 ≤ val m y) (y : Str) : val (canon m) y = val m y := by
  by_cases e : 0 < val m y
  · exact val_tab (mem_pos.mpr e)
  · have z := h y
    rw [show val (canon m) y = 0 from val_tab0 (f := val m) fun q => e (mem_pos.mp q)]
    omega
theorem pos_len (m : List (Str × Int)) : (pos m).length ≤ m.length := by
  have h1 := List.length_filter_le (fun y => decide (0 < val m y)) (srt (m.map (·.1)))
  rw [(srt_perm _).length_eq, List.length_map] at h1
  exact h1
theorem canon_len (m : List (Str × Int)) : (canon m).length ≤ m.length := by
  unfold canon
  rw [List.length_map]
  exact pos_len m
theorem canon_ok {m : List (Str × Int)} (h : SrcOk m) : SrcOk (canon m) := by
  refine ⟨by rw [canon_keys]; exact pos_nodup h.1, Nat.lt_of_le_of_lt (canon_len m) h.2.1, fun p hp => ?_⟩
  obtain ⟨y, hy, rfl⟩ := List.mem_map.mp hp
  have hv := mem_pos.mp hy
  have hm : y ∈ m.map (·.1) := by
    by_cases e : y ∈ m.map (·.1)
    · exact e
    · rw [val_off e] at hv; exact absurd hv (Int.lt_irrefl 0)
  obtain ⟨q, hq, e⟩ := List.mem_map.mp hm
  have hw := h.2.2 q hq
  rw [e] at hw
  exact ⟨hw.1, hw.2.1, Int.le_of_lt hv⟩
/-- what a Sizes object keeps -/
structure Cn (m : List (Str × Int)) : Prop where
  ok : SrcOk m
  eq : canon m = m
theorem Cn.of {m : List (Str × Int)} (h : SrcOk m) : Cn (canon m) := ⟨canon_ok h, canon_ext (canon_ok h).1 h.1 fun y => val_canon h.val0 y⟩
theorem Cn.nd {m : List (Str × Int)} (h : Cn m) : (m.map (·.1)).Nodup := h.ok.1
theorem Cn.keys {m : List (Str × Int)} (h : Cn m) : m.map (·.1) = pos m := by
  have e := canon_keys m
  rw [h.eq] at e
  exact e
theorem Cn.mem {m : List (Str × Int)} (h : Cn m) {y : Str} : y ∈ m.map (·.1) ↔ 0 < val m y := by
  rw [h.keys]
  exact mem_pos
theorem Cn.ext {a b : List (Str × Int)} (ha : Cn a) (hb : Cn b) (h : ∀ y, val a y = val b y) : a = b := by
  rw [← ha.eq, ← hb.eq]
  exact canon_ext ha.nd hb.nd h
theorem Cn.to {a b : List (Str × Int)} (ha : Cn a) (hb : (b.map (·.1)).Nodup) (h : ∀ y, val a y = val b y) : a = canon b := by
  rw [← ha.eq]
  exact canon_ext ha.nd hb h
theorem Cn.nil : Cn [] := ⟨⟨List.Pairwise.nil, by decide, fun p hp => by simp at hp⟩, by simp [canon, pos, srt]⟩
theorem sub_len : ∀ {a b : List Str}, a.Nodup → (∀ y ∈ a, y ∈ b) → a.length ≤ b.length
  | [], _, _, _ => Nat.zero_le _
  | x :: a, b, nd, h => by
    obtain ⟨n1, n2⟩ := List.nodup_cons.mp nd
    have hx := h x List.mem_cons_self
    have := sub_len (a := a) (b := b.erase x) n2 fun y hy => (List.mem_erase_of_ne fun e => n1 (by rw [← e]; exact hy)).mpr (h y (List.mem_cons_of_mem _ hy))
    rw [List.length_erase_of_mem hx] at this
    have hp : 0 < b.length := List.length_pos_of_mem hx
    rw [List.length_cons]
    omega
theorem nodup_sub_len {a b : List Str} (ha : a.Nodup) (h : ∀ y ∈ a, y ∈ b) (hl : b.length ≤ a.length) : ∀ y ∈ b, y ∈ a := by
  intro y hy
  by_cases e : y ∈ a
  · exact e
  · have nd : (y :: a).Nodup := List.nodup_cons.mpr ⟨e, ha⟩
    have hs : ∀ z ∈ y :: a, z ∈ b := fun z hz => by
      rcases List.mem_cons.mp hz with rfl | hz
      · exact hy
      · exact h z hz
    have := sub_len nd hs
    rw [List.length_cons] at this
    omega
theorem kvm_len (m : List (Str × Int)) : (kvm m).length = m.length := List.length_map ..
theorem eqDI_of {a b : List (Str × Int)} (ha : (a.map (·.1)).Nodup) (hb : (b.map (·.1)).Nodup) (h : eqDI (kvm a) (kvm b) = true) (y : Str) : val a y = val b y := by
  unfold eqDI at h
  obtain ⟨h1, h2⟩ := Bool.and_eq_true_iff.mp h
  rw [kvm_len, kvm_len] at h1
  have hlen : a.length = b.length := of_decide_eq_true h1
  have hv : ∀ p ∈ a, lk b p.1 = some p.2 := fun p hp => by
    have q := of_decide_eq_true (List.all_eq_true.mp h2 _ (List.mem_map.mpr ⟨p, hp, rfl⟩))
    rw [valV_kvm] at q
    cases e : lk b p.1 with
    | none => rw [e] at q; cases q
    | some n => rw [e] at q; exact congrArg some (V.int.inj (Option.some.inj q))
  have sub : ∀ y ∈ a.map (·.1), y ∈ b.map (·.1) := fun y hy => by
    obtain ⟨p, hp, rfl⟩ := List.mem_map.mp hy
    exact List.mem_map.mpr ⟨_, lk_mem (hv p hp), rfl⟩
  by_cases e : y ∈ a.map (·.1)
  · obtain ⟨p, hp, rfl⟩ := List.mem_map.mp e
    rw [val_mem ha hp]
    unfold val
    rw [hv p hp]
    rfl
  · have e2 : y ∉ b.map (·.1) := fun z => e (nodup_sub_len ha sub (by rw [List.length_map, List.length_map]; omega) y z)
    rw [val_off e, val_off e2]
theorem eqDI_self {a : List (Str × Int)} (ha : (a.map (·.1)).Nodup) : eqDI (kvm a) (kvm a) = true := by
  unfold eqDI
  rw [beq_self_eq_true, Bool.true_and]
  refine List.all_eq_true.mpr fun p hp => ?_
  obtain ⟨q, hq, rfl⟩ := List.mem_map.mp hp
  refine decide_eq_true ?_
  show valV (kvm a) (Sum.inr q.1) = some (V.int q.2)
  rw [valV_kvm, lk_in (List.mem_map.mpr ⟨q, hq, rfl⟩), val_mem ha hq]
  rfl
theorem eqDI_cn {a b : List (Str × Int)} (ha : Cn a) (hb : Cn b) : eqDI (kvm a) (kvm b) = decide (a = b) := by
  by_cases e : a = b
  · rw [decide_eq_true e, e]
    exact eqDI_self hb.nd
  · rw [decide_eq_false e]
    cases h : eqDI (kvm a) (kvm b) with
    | false => rfl
    | true => exact absurd (ha.ext hb (eqDI_of ha.nd hb.nd h)) e
theorem kvm_int (m : List (Str × Int)) : ∀ p ∈ kvm m, intB p.2 = true := fun p hp => by
  obtain ⟨r, _, rfl⟩ := List.mem_map.mp hp
  rfl
theorem kvm_vals (m : List (Str × Int)) : (kvm m).map (·.2) = (m.map (·.2)).map V.int := by
  unfold kvm
  rw [List.map_map, List.map_map]
  rfl
theorem kvm_names (m : List (Str × Int)) : (kvm m).map (fun kv => kV kv.1) = (m.map (·.1)).map V.str := by
  unfold kvm
  rw [List.map_map, List.map_map]
  rfl
/-! ### dicts by puts -/
theorem rd_same {H H' : Hp} {d : Addr} {u : HO} (s : Same H H') (h : Rd H d u) : Rd H' d u := Evl.ex_rd s h
def putS (m : List (Str × Int)) (y : Str) (n : Int) : List (Str × Int) := if (m.any fun p => decide (p.1 = y)) = true then m.map fun p => if p.1 = y then (p.1, n) else p else m ++ [(y, n)]
theorem any_kvm (m : List (Str × Int)) (y : Str) : ((kvm m).any fun p => decide (p.1 = (Sum.inr y : Key))) = m.any (fun p => decide (p.1 = y)) := by
  unfold kvm
  rw [List.any_map]
  congr 1
  funext p
  exact decide_eq_decide.mpr ⟨fun e => Sum.inr.inj e, fun e => congrArg Sum.inr e⟩
theorem putK_kvm (m : List (Str × Int)) (y : Str) (n : Int) : putK (kvm m) (Sum.inr y) (V.int n) = kvm (putS m y n) := by
  unfold putK putS
  rw [any_kvm]
  by_cases e : (m.any fun p => decide (p.1 = y)) = true
  · rw [if_pos e, if_pos e]
    unfold kvm
    rw [List.map_map, List.map_map]
    refine List.map_congr_left fun p _ => ?_
    show (if (Sum.inr p.1 : Key) = Sum.inr y then ((Sum.inr p.1 : Key), V.int n) else (Sum.inr p.1, V.int p.2)) = (fun p : Str × Int => ((Sum.inr p.1 : Key), V.int p.2)) (if p.1 = y then (p.1, n) else p)
    by_cases h : p.1 = y
    · rw [if_pos h, if_pos (congrArg Sum.inr h)]
    · rw [if_neg h, if_neg fun z => h (Sum.inr.inj z)]
  · rw [if_neg e, if_neg e]
    unfold kvm
    rw [List.map_append]
    rfl
theorem any_iff {m : List (Str × Int)} {y : Str} : (m.any fun p => decide (p.1 = y)) = true ↔ y ∈ m.map (·.1) := by
  rw [List.any_eq_true]
  refine ⟨fun ⟨p, hp, e⟩ => List.mem_map.mpr ⟨p, hp, of_decide_eq_true e⟩, fun h => ?_⟩
  obtain ⟨p, hp, e⟩ := List.mem_map.mp h
  exact ⟨p, hp, decide_eq_true e⟩
theorem putS_keys (m : List (Str × Int)) (y : Str) (n : Int) : (putS m y n).map (·.1) = if y ∈ m.map (·.1) then m.map (·.1) else m.map (·.1) ++ [y] := by
  unfold putS
  by_cases e : y ∈ m.map (·.1)
  · rw [if_pos (any_iff.mpr e), if_pos e, List.map_map]
    refine List.map_congr_left fun p _ => ?_
    show (if p.1 = y then (p.1, n) else p).1 = p.1
    by_cases h : p.1 = y
    · rw [if_pos h]
    · rw [if_neg h]
  · rw [if_neg fun z => e (any_iff.mp z), if_neg e, List.map_append]
    rfl
theorem putS_nodup {m : List (Str × Int)} {y : Str} {n : Int} (h : (m.map (·.1)).Nodup) : ((putS m y n).map (·.1)).Nodup := by
  rw [putS_keys]
  by_cases e : y ∈ m.map (·.1)
  · rw [if_pos e]; exact h
  · rw [if_neg e]
    refine List.nodup_append.mpr ⟨h, List.pairwise_singleton _ _, fun a ha b hb z => ?_⟩
    rw [List.mem_singleton.mp hb] at z
    exact e (by rw [← z]; exact ha)
theorem mem_putS {m : List (Str × Int)} {y : Str} {n : Int} {p : Str × Int} (h : p ∈ putS m y n) : p ∈ m ∨ p = (y, n) := by
  unfold putS at h
  split at h
  · obtain ⟨q, hq, e⟩ := List.mem_map.mp h
    by_cases z : q.1 = y
    · rw [if_pos z] at e
      exact .inr (by rw [← e, z])
    · rw [if_neg z] at e
      exact .inl (by rw [← e]; exact hq)
  · rcases List.mem_append.mp h with h | h
    · exact .inl h
    · exact .inr (List.mem_singleton.mp h)
theorem putS_len (m : List (Str × Int)) (y : Str) (n : Int) : (putS m y n).length ≤ m.length + 1 := by
  unfold putS
  split
  · rw [List.length_map]; omega
  · rw [List.length_append]; exact Nat.le_refl _
theorem lk_map {m : List (Str × Int)} {y : Str} {n : Int} (z : Str) : lk (m.map fun p => if p.1 = y then (p.1, n) else p) z = if z = y then (lk m z).map (fun _ => n) else lk m z := by
  induction m with
  | nil => simp [lk]
  | cons p m ih =>
    show (if (if p.1 = y then (p.1, n) else p).1 = z then some (if p.1 = y then (p.1, n) else p).2 else lk (m.map fun p => if p.1 = y then (p.1, n) else p) z) = if z = y then (if p.1 = z then some p.2 else lk m z).map (fun _ => n) else (if p.1 = z then some p.2 else lk m z)
    rw [ih]
    by_cases h : p.1 = y
    · rw [if_pos h]
      by_cases g : p.1 = z
      · have : z = y := g ▸ h
        simp [g, this]
      · have : ¬ z = y := fun e => g (by rw [h, e])
        simp [g, this]
    · rw [if_neg h]
      by_cases g : p.1 = z
      · have : ¬ z = y := fun e => h (by rw [g, e])
        simp [g, this]
      · simp [g]
theorem lk_append (m l : List (Str × Int)) (z : Str) : lk (m ++ l) z = match lk m z with | some n => some n | none => lk l z := by
  induction m with
  | nil => rfl
  | cons p m ih =>
    show (if p.1 = z then some p.2 else lk (m ++ l) z) = match (if p.1 = z then some p.2 else lk m z) with | some n => some n | none => lk l z
    by_cases g : p.1 = z
    · simp [g]
    · simp [g, ih]
theorem lk_putS (m : List (Str × Int)) (y : Str) (n : Int) (z : Str) : lk (putS m y n) z = if z = y then some n else lk m z := by
  unfold putS
  by_cases e : y ∈ m.map (·.1)
  · rw [if_pos (any_iff.mpr e), lk_map]
    by_cases h : z = y
    · rw [if_pos h, if_pos h, h, lk_in e]; rfl
    · rw [if_neg h, if_neg h]
  · rw [if_neg fun z => e (any_iff.mp z), lk_append]
    by_cases h : z = y
    · rw [if_pos h, h, lk_off e]
      show (if y = y then some n else none) = some n
      rw [if_pos rfl]
    · rw [if_neg h]
      cases q : lk m z with
      | some k => rfl
      | none =>
        show (if y = z then some n else none) = none
        rw [if_neg fun g => h g.symm]
theorem val_putS (m : List (Str × Int)) (y : Str) (n : Int) (z : Str) : val (putS m y n) z = if z = y then n else val m z := by
  unfold val
  rw [lk_putS]
  by_cases h : z = y
  · rw [if_pos h, if_pos h]; rfl
  · rw [if_neg h, if_neg h]
def putsS (l : List (Str × Int)) : List (Str × Int) := l.foldl (fun a p => putS a p.1 p.2) []
theorem putsS_snoc (l : List (Str × Int)) (p : Str × Int) : putsS (l ++ [p]) = putS (putsS l) p.1 p.2 := by
  unfold putsS
  rw [List.foldl_append]
  rfl
theorem puts_kvm (l : List (Str × Int)) : puts (kvm l) = kvm (putsS l) := by
  suffices h : ∀ (l a : List (Str × Int)), (kvm l).foldl (fun a p => putK a p.1 p.2) (kvm a) = kvm (l.foldl (fun a p => putS a p.1 p.2) a) from h l []
  intro l
  induction l with
  | nil => intro a; rfl
  | cons p l ih =>
    intro a
    show (kvm l).foldl _ (putK (kvm a) (Sum.inr p.1) (V.int p.2)) = _
    rw [putK_kvm, ih]
    rfl
theorem putsS_ind {P : List (Str × Int) → Prop} (h0 : P []) (hs : ∀ (m : List (Str × Int)) (p : Str × Int), P m → P (putS m p.1 p.2)) (l : List (Str × Int)) : P (putsS l) := by
  suffices h : ∀ (l a : List (Str × Int)), P a → P (l.foldl (fun a p => putS a p.1 p.2) a) from h l [] h0
  intro l
  induction l with
  | nil => intro a h; exact h
  | cons p l ih => intro a h; exact ih _ (hs a p h)
theorem putsS_nodup (l : List (Str × Int)) : ((putsS l).map (·.1)).Nodup := putsS_ind (P := fun m => (m.map (·.1)).Nodup) List.Pairwise.nil (fun _ _ h => putS_nodup h) l
theorem putsS_mem {l : List (Str × Int)} : ∀ p ∈ putsS l, p ∈ l := by
  suffices h : ∀ (l a : List (Str × Int)), ∀ p ∈ l.foldl (fun a p => putS a p.1 p.2) a, p ∈ a ∨ p ∈ l by
    intro p hp
    rcases h l [] p hp with z | z
    · simp at z
    · exact z
  intro l
  induction l with
  | nil => intro a p hp; exact .inl hp
  | cons q l ih =>
    intro a p hp
    rcases ih _ p hp with z | z
    · rcases mem_putS z with z | z
      · exact .inl z
      · exact .inr (by rw [z]; exact List.mem_cons_self)
    · exact .inr (List.mem_cons_of_mem _ z)
theorem putsS_len (l : List (Str × Int)) : (putsS l).length ≤ l.length := by
  suffices h : ∀ (l a : List (Str × Int)), (l.foldl (fun a p => putS a p.1 p.2) a).length ≤ a.length + l.length by
    have := h l []
    rw [List.length_nil, Nat.zero_add] at this
    exact this
  intro l
  induction l with
  | nil => intro a; exact Nat.le_refl _
  | cons p r ih =>
    intro a
    have h1 := ih (putS a p.1 p.2)
    have h2 := putS_len a p.1 p.2
    show (r.foldl _ (putS a p.1 p.2)).length ≤ a.length + (r.length + 1)
    omega
theorem putsS_ok {l : List (Str × Int)} (hl : l.length < 64) (h : ∀ p ∈ l, isWord p.1 = true ∧ 0 ≤ p.2) : SrcOk (putsS l) :=
  ⟨putsS_nodup l, Nat.lt_of_le_of_lt (putsS_len l) hl, fun p hp => ⟨(h p (putsS_mem p hp)).1, word_len (h p (putsS_mem p hp)).1, (h p (putsS_mem p hp)).2⟩⟩
theorem val_putsS {ys : List Str} {f : Str → Int} (y : Str) : val (putsS (ys.map fun y => (y, f y))) y = if y ∈ ys then f y else 0 := by
  suffices h : ∀ (ys : List Str) (a : List (Str × Int)), val ((ys.map fun y => (y, f y)).foldl (fun (a : List (Str × Int)) (p : Str × Int) => putS a p.1 p.2) a) y = if y ∈ ys then f y else val a y from h ys []
  intro ys
  induction ys with
  | nil => intro a; simp
  | cons x ys ih =>
    intro a
    show val ((ys.map fun y => (y, f y)).foldl _ (putS a x (f x))) y = _
    rw [ih, val_putS]
    by_cases h : y = x
    · subst h
      simp
    · simp [h]
theorem putsS_id {l : List (Str × Int)} (h : (l.map (·.1)).Nodup) : putsS l = l := by
  suffices g : ∀ (l a : List (Str × Int)), ((a ++ l).map (·.1)).Nodup → l.foldl (fun a p => putS a p.1 p.2) a = a ++ l from g l [] h
  intro l
  induction l with
  | nil => intro a _; simp
  | cons p r ih =>
    intro a nd
    have hn : p.1 ∉ a.map (·.1) := fun hm => by
      rw [List.map_append, List.nodup_append] at nd
      exact nd.2.2 _ hm _ (List.mem_map.mpr ⟨p, List.mem_cons_self .., rfl⟩) rfl
    show r.foldl _ (putS a p.1 p.2) = a ++ p :: r
    have e : putS a p.1 p.2 = a ++ [p] := by
      unfold putS
      rw [if_neg fun z => hn (any_iff.mp z)]
    rw [e, ih _ (by rw [List.append_assoc]; exact nd), List.append_assoc]
    rfl
theorem pass0At {X : Cx} (σ : L2.St) : PassesAt CX0 X σ E0 := fun _ _ _ _ _ _ c => c.elim
/-- o.f with the written part named -/
theorem pe_fldK {X : Cx} {K0 : PySem.W.Frag} {e : Expr} {ta : TE} {f : Str} {pos : Pos} (hK : X.K = K0) (he : PE X e ta) (hb : attributeBase e f X.env (eval e X.env) = eval e X.env) : PE X (.Attribute e f pos) (tFld K0 ta f) := by
  subst hK
  exact pe_fld he hb
def tJ (ts : List TE) : TE := fun σ H Q => tJs ts Str.empty σ H fun out H1 => Q (.str out) H1
theorem pe_joinedT {X : Cx} {v1 v2 : Expr} {rest : List Expr} {ts : List TE} {pos : Pos} (h : PJ X (v1 :: v2 :: rest) ts) : PE X (.JoinedStr (v1 :: v2 :: rest) pos) (tJ ts) := pe_joined h
/-- a dict that is walked while new objects are made -/
theorem lockR_of2 {t : TE} {σ : L2.St} {H : Hp} {Q : VK} {d : Addr} {u : HO} (hd : Rd H d u) (mu : Mut (some u))
    (h : ∀ (o : Obj) (H1 : Hp) (Q1 : VK), H1 d = some (.frz o u) → (∀ b w, b ≠ d → H b = some w → H1 b = some w) → (∀ b, H1 b = none → H b = none) →
      (∀ v H', Same H1 H' → (∀ H'', Same H H'' → (∀ b w, b ≠ d → H' b = some w → H'' b = some w) → Q v H'') → Q1 v H') → t σ H1 Q1) : tLockR t σ H Q := by
  rcases hd with hd | ⟨o, hd⟩
  · refine .inr ⟨d, u, hd, mu, fun od => h od _ _ upd_same (fun b w hb e => by rw [upd_ne hb]; exact e) (fun b e => ?_) fun v H' s q => ⟨s _ _ upd_same, q _ (Same.unlock hd s) fun b w hb e => by rw [upd_ne hb]; exact e⟩⟩
    by_cases hb : b = d
    · rw [hb, upd_same] at e; cases e
    · rw [upd_ne hb] at e; exact e
  · exact .inl (h o H Q hd (fun _ _ _ e => e) (fun _ e => e) fun v H' s q => q H' s fun _ _ _ e => e)
/-- rows (text, int) as what dict() takes -/
theorem rows_of {K : PySem.W.Frag} {F H : Hp} (s : Same F H) {α : Type} {g : α → Str × Int} : ∀ {l : List α} {ys : List V}, Paired (fun i y => ∃ p, y = V.ref p ∧ F p = some (.tup [.str (g i).1, .int (g i).2])) l ys →
    ∃ ps : List Addr, ys = ps.map V.ref ∧ Paired (fun p (kv : Key × V) => SqT K H p [kV kv.1, kv.2]) ps (kvm (l.map g))
  | _, _, .nil => ⟨[], rfl, .nil⟩
  | _, _, .cons r t => by
    obtain ⟨p, rfl, hp⟩ := r
    obtain ⟨ps, rfl, pr⟩ := rows_of s t
    exact ⟨p :: ps, rfl, .cons (SqT.of (s _ _ hp)) pr⟩
theorem merge_kvm (l : List (Str × Int)) : mergeK [] (kvm l) = kvm (putsS l) := puts_kvm l
end Lp

set_option Elab.async false
set_option linter.all false
set_option maxRecDepth 100000
set_option maxHeartbeats 4000000
namespace Lp
open PySem PySem.Spec PyProof.Rows L2
def top (i : Nat) : Stmt := PySem.Challenge.pw_leastpools_k01_sizes_told.main.body.getD i (.Pass ⟨0, 0, 0, 0⟩)
abbrev S_InvalidSizes_init : Stmt := inClass (top 2) 0
abbrev S_NotEnough_init : Stmt := inClass (top 3) 0
abbrev S_is_word : Stmt := top 7
abbrev S_is_integer : Stmt := top 8
abbrev S_are_amounts : Stmt := top 9
abbrev S_Sizes_init : Stmt := inClass (top 10) 0
abbrev S_Sizes_getitem : Stmt := inClass (top 10) 1
abbrev S_Sizes_contains : Stmt := inClass (top 10) 2
abbrev S_Sizes_iter : Stmt := inClass (top 10) 3
abbrev S_Sizes_len : Stmt := inClass (top 10) 4
abbrev S_Sizes_eq : Stmt := inClass (top 10) 5
abbrev S_Sizes_names : Stmt := inClass (top 10) 6
abbrev S_Sizes_fits : Stmt := inClass (top 10) 7
abbrev S_Sizes_add : Stmt := inClass (top 10) 8
abbrev S_Sizes_sub : Stmt := inClass (top 10) 9
abbrev S_Sizes_and : Stmt := inClass (top 10) 10
abbrev S_Sizes_or : Stmt := inClass (top 10) 11
abbrev S_Sizes_mul : Stmt := inClass (top 10) 12
abbrev S_Sizes_call : Stmt := inClass (top 10) 13
abbrev S_Sizes_total : Stmt := inClass (top 10) 14
abbrev S_Sizes_by_name : Stmt := inClass (top 10) 15
abbrev S_Sizes_str : Stmt := inClass (top 10) 16
abbrev S_Sizes_repr : Stmt := inClass (top 10) 17
abbrev S_check_sizes : Stmt := top 11
abbrev S_law_draws : Stmt := top 13
abbrev S_law_draw : Stmt := top 14
abbrev S_law_amounts : Stmt := top 15
abbrev S_law_plain : Stmt := top 16
abbrev S_law_minus : Stmt := top 17
abbrev S_law_due : Stmt := top 18
abbrev S_law_told_right : Stmt := top 19
abbrev S_law_two_right : Stmt := top 20
abbrev S_law : Stmt := top 21
abbrev A_InvalidSizes_init (K : PySem.W.Frag) : Addr := He.fAd K ("InvalidSizes", some "__init__")
abbrev D_InvalidSizes_init (K : PySem.W.Frag) : FuncData := fdAt K (A_InvalidSizes_init K)
def d_InvalidSizes_init : He.DefD := ⟨("InvalidSizes", some "__init__"), "__init__", "InvalidSizes.__init__", defArgs S_InvalidSizes_init, defBody S_InvalidSizes_init, defScope S_InvalidSizes_init, [], []⟩
abbrev A_NotEnough_init (K : PySem.W.Frag) : Addr := He.fAd K ("NotEnough", some "__init__")
abbrev D_NotEnough_init (K : PySem.W.Frag) : FuncData := fdAt K (A_NotEnough_init K)
def d_NotEnough_init : He.DefD := ⟨("NotEnough", some "__init__"), "__init__", "NotEnough.__init__", defArgs S_NotEnough_init, defBody S_NotEnough_init, defScope S_NotEnough_init, [], []⟩
abbrev A_is_word (K : PySem.W.Frag) : Addr := He.fAd K ("is_word", none)
abbrev D_is_word (K : PySem.W.Frag) : FuncData := fdAt K (A_is_word K)
def d_is_word : He.DefD := ⟨("is_word", none), "is_word", "is_word", defArgs S_is_word, defBody S_is_word, defScope S_is_word, [], []⟩
abbrev A_is_integer (K : PySem.W.Frag) : Addr := He.fAd K ("is_integer", none)
abbrev D_is_integer (K : PySem.W.Frag) : FuncData := fdAt K (A_is_integer K)
def d_is_integer : He.DefD := ⟨("is_integer", none), "is_integer", "is_integer", defArgs S_is_integer, defBody S_is_integer, defScope S_is_integer, [.int 0], []⟩
abbrev A_are_amounts (K : PySem.W.Frag) : Addr := He.fAd K ("are_amounts", none)
abbrev D_are_amounts (K : PySem.W.Frag) : FuncData := fdAt K (A_are_amounts K)
def d_are_amounts : He.DefD := ⟨("are_amounts", none), "are_amounts", "are_amounts", defArgs S_are_amounts, defBody S_are_amounts, defScope S_are_amounts, [], []⟩
abbrev A_Sizes_init (K : PySem.W.Frag) : Addr := He.fAd K ("Sizes", some "__init__")
abbrev D_Sizes_init (K : PySem.W.Frag) : FuncData := fdAt K (A_Sizes_init K)
def d_Sizes_init : He.DefD := ⟨("Sizes", some "__init__"), "__init__", "Sizes.__init__", defArgs S_Sizes_init, defBody S_Sizes_init, defScope S_Sizes_init, [], []⟩
abbrev A_Sizes_getitem (K : PySem.W.Frag) : Addr := He.fAd K ("Sizes", some "__getitem__")
abbrev D_Sizes_getitem (K : PySem.W.Frag) : FuncData := fdAt K (A_Sizes_getitem K)
def d_Sizes_getitem : He.DefD := ⟨("Sizes", some "__getitem__"), "__getitem__", "Sizes.__getitem__", defArgs S_Sizes_getitem, defBody S_Sizes_getitem, defScope S_Sizes_getitem, [], []⟩
abbrev A_Sizes_contains (K : PySem.W.Frag) : Addr := He.fAd K ("Sizes", some "__contains__")
abbrev D_Sizes_contains (K : PySem.W.Frag) : FuncData := fdAt K (A_Sizes_contains K)
def d_Sizes_contains : He.DefD := ⟨("Sizes", some "__contains__"), "__contains__", "Sizes.__contains__", defArgs S_Sizes_contains, defBody S_Sizes_contains, defScope S_Sizes_contains, [], []⟩
abbrev A_Sizes_iter (K : PySem.W.Frag) : Addr := He.fAd K ("Sizes", some "__iter__")
abbrev D_Sizes_iter (K : PySem.W.Frag) : FuncData := fdAt K (A_Sizes_iter K)
def d_Sizes_iter : He.DefD := ⟨("Sizes", some "__iter__"), "__iter__", "Sizes.__iter__", defArgs S_Sizes_iter, defBody S_Sizes_iter, defScope S_Sizes_iter, [], []⟩
abbrev A_Sizes_len (K : PySem.W.Frag) : Addr := He.fAd K ("Sizes", some "__len__")
abbrev D_Sizes_len (K : PySem.W.Frag) : FuncData := fdAt K (A_Sizes_len K)
def d_Sizes_len : He.DefD := ⟨("Sizes", some "__len__"), "__len__", "Sizes.__len__", defArgs S_Sizes_len, defBody S_Sizes_len, defScope S_Sizes_len, [], []⟩
abbrev A_Sizes_eq (K : PySem.W.Frag) : Addr := He.fAd K ("Sizes", some "__eq__")
abbrev D_Sizes_eq (K : PySem.W.Frag) : FuncData := fdAt K (A_Sizes_eq K)
def d_Sizes_eq : He.DefD := ⟨("Sizes", some "__eq__"), "__eq__", "Sizes.__eq__", defArgs S_Sizes_eq, defBody S_Sizes_eq, defScope S_Sizes_eq, [], []⟩
abbrev A_Sizes_names (K : PySem.W.Frag) : Addr := He.fAd K ("Sizes", some "names")
abbrev D_Sizes_names (K : PySem.W.Frag) : FuncData := fdAt K (A_Sizes_names K)
def d_Sizes_names : He.DefD := ⟨("Sizes", some "names"), "names", "Sizes.names", defArgs S_Sizes_names, defBody S_Sizes_names, defScope S_Sizes_names, [], []⟩
abbrev A_Sizes_fits (K : PySem.W.Frag) : Addr := He.fAd K ("Sizes", some "fits")
abbrev D_Sizes_fits (K : PySem.W.Frag) : FuncData := fdAt K (A_Sizes_fits K)
def d_Sizes_fits : He.DefD := ⟨("Sizes", some "fits"), "fits", "Sizes.fits", defArgs S_Sizes_fits, defBody S_Sizes_fits, defScope S_Sizes_fits, [], []⟩
abbrev A_Sizes_add (K : PySem.W.Frag) : Addr := He.fAd K ("Sizes", some "__add__")
abbrev D_Sizes_add (K : PySem.W.Frag) : FuncData := fdAt K (A_Sizes_add K)
def d_Sizes_add : He.DefD := ⟨("Sizes", some "__add__"), "__add__", "Sizes.__add__", defArgs S_Sizes_add, defBody S_Sizes_add, defScope S_Sizes_add, [], []⟩
abbrev A_Sizes_sub (K : PySem.W.Frag) : Addr := He.fAd K ("Sizes", some "__sub__")
abbrev D_Sizes_sub (K : PySem.W.Frag) : FuncData := fdAt K (A_Sizes_sub K)
def d_Sizes_sub : He.DefD := ⟨("Sizes", some "__sub__"), "__sub__", "Sizes.__sub__", defArgs S_Sizes_sub, defBody S_Sizes_sub, defScope S_Sizes_sub, [], []⟩
abbrev A_Sizes_and (K : PySem.W.Frag) : Addr := He.fAd K ("Sizes", some "__and__")
abbrev D_Sizes_and (K : PySem.W.Frag) : FuncData := fdAt K (A_Sizes_and K)
def d_Sizes_and : He.DefD := ⟨("Sizes", some "__and__"), "__and__", "Sizes.__and__", defArgs S_Sizes_and, defBody S_Sizes_and, defScope S_Sizes_and, [], []⟩
abbrev A_Sizes_or (K : PySem.W.Frag) : Addr := He.fAd K ("Sizes", some "__or__")
abbrev D_Sizes_or (K : PySem.W.Frag) : FuncData := fdAt K (A_Sizes_or K)
def d_Sizes_or : He.DefD := ⟨("Sizes", some "__or__"), "__or__", "Sizes.__or__", defArgs S_Sizes_or, defBody S_Sizes_or, defScope S_Sizes_or, [], []⟩
abbrev A_Sizes_mul (K : PySem.W.Frag) : Addr := He.fAd K ("Sizes", some "__mul__")
abbrev D_Sizes_mul (K : PySem.W.Frag) : FuncData := fdAt K (A_Sizes_mul K)
def d_Sizes_mul : He.DefD := ⟨("Sizes", some "__mul__"), "__mul__", "Sizes.__mul__", defArgs S_Sizes_mul, defBody S_Sizes_mul, defScope S_Sizes_mul, [], []⟩
abbrev A_Sizes_call (K : PySem.W.Frag) : Addr := He.fAd K ("Sizes", some "__call__")
abbrev D_Sizes_call (K : PySem.W.Frag) : FuncData := fdAt K (A_Sizes_call K)
def d_Sizes_call : He.DefD := ⟨("Sizes", some "__call__"), "__call__", "Sizes.__call__", defArgs S_Sizes_call, defBody S_Sizes_call, defScope S_Sizes_call, [.int 1], []⟩
abbrev A_Sizes_total (K : PySem.W.Frag) : Addr := gtAd K ("Sizes", some "total")
abbrev D_Sizes_total (K : PySem.W.Frag) : FuncData := fdAt K (A_Sizes_total K)
def d_Sizes_total : He.DefD := ⟨("Sizes", some "total"), "total", "Sizes.total", defArgs S_Sizes_total, defBody S_Sizes_total, defScope S_Sizes_total, [], []⟩
abbrev A_Sizes_by_name (K : PySem.W.Frag) : Addr := He.fAd K ("Sizes", some "by_name")
abbrev D_Sizes_by_name (K : PySem.W.Frag) : FuncData := fdAt K (A_Sizes_by_name K)
def d_Sizes_by_name : He.DefD := ⟨("Sizes", some "by_name"), "by_name", "Sizes.by_name", defArgs S_Sizes_by_name, defBody S_Sizes_by_name, defScope S_Sizes_by_name, [], []⟩
abbrev A_Sizes_str (K : PySem.W.Frag) : Addr := He.fAd K ("Sizes", some "__str__")
abbrev D_Sizes_str (K : PySem.W.Frag) : FuncData := fdAt K (A_Sizes_str K)
def d_Sizes_str : He.DefD := ⟨("Sizes", some "__str__"), "__str__", "Sizes.__str__", defArgs S_Sizes_str, defBody S_Sizes_str, defScope S_Sizes_str, [], []⟩
abbrev A_Sizes_repr (K : PySem.W.Frag) : Addr := He.fAd K ("Sizes", some "__repr__")
abbrev D_Sizes_repr (K : PySem.W.Frag) : FuncData := fdAt K (A_Sizes_repr K)
def d_Sizes_repr : He.DefD := ⟨("Sizes", some "__repr__"), "__repr__", "Sizes.__repr__", defArgs S_Sizes_repr, defBody S_Sizes_repr, defScope S_Sizes_repr, [], []⟩
abbrev A_check_sizes (K : PySem.W.Frag) : Addr := He.fAd K ("check_sizes", none)
abbrev D_check_sizes (K : PySem.W.Frag) : FuncData := fdAt K (A_check_sizes K)
def d_check_sizes : He.DefD := ⟨("check_sizes", none), "check_sizes", "check_sizes", defArgs S_check_sizes, defBody S_check_sizes, defScope S_check_sizes, [], []⟩
abbrev A_law_draws (K : PySem.W.Frag) : Addr := He.fAd K ("_law_draws", none)
abbrev D_law_draws (K : PySem.W.Frag) : FuncData := fdAt K (A_law_draws K)
def d_law_draws : He.DefD := ⟨("_law_draws", none), "_law_draws", "_law_draws", defArgs S_law_draws, defBody S_law_draws, defScope S_law_draws, [], []⟩
abbrev A_law_draw (K : PySem.W.Frag) : Addr := He.fAd K ("_law_draw", none)
abbrev D_law_draw (K : PySem.W.Frag) : FuncData := fdAt K (A_law_draw K)
def d_law_draw : He.DefD := ⟨("_law_draw", none), "_law_draw", "_law_draw", defArgs S_law_draw, defBody S_law_draw, defScope S_law_draw, [], []⟩
abbrev A_law_amounts (K : PySem.W.Frag) : Addr := He.fAd K ("_law_amounts", none)
abbrev D_law_amounts (K : PySem.W.Frag) : FuncData := fdAt K (A_law_amounts K)
def d_law_amounts : He.DefD := ⟨("_law_amounts", none), "_law_amounts", "_law_amounts", defArgs S_law_amounts, defBody S_law_amounts, defScope S_law_amounts, [], []⟩
abbrev A_law_plain (K : PySem.W.Frag) : Addr := He.fAd K ("_law_plain", none)
abbrev D_law_plain (K : PySem.W.Frag) : FuncData := fdAt K (A_law_plain K)
def d_law_plain : He.DefD := ⟨("_law_plain", none), "_law_plain", "_law_plain", defArgs S_law_plain, defBody S_law_plain, defScope S_law_plain, [], []⟩
abbrev A_law_minus (K : PySem.W.Frag) : Addr := He.fAd K ("_law_minus", none)
abbrev D_law_minus (K : PySem.W.Frag) : FuncData := fdAt K (A_law_minus K)
def d_law_minus : He.DefD := ⟨("_law_minus", none), "_law_minus", "_law_minus", defArgs S_law_minus, defBody S_law_minus, defScope S_law_minus, [], []⟩
abbrev A_law_due (K : PySem.W.Frag) : Addr := He.fAd K ("_law_due", none)
abbrev D_law_due (K : PySem.W.Frag) : FuncData := fdAt K (A_law_due K)
def d_law_due : He.DefD := ⟨("_law_due", none), "_law_due", "_law_due", defArgs S_law_due, defBody S_law_due, defScope S_law_due, [], []⟩
abbrev A_law_told_right (K : PySem.W.Frag) : Addr := He.fAd K ("_law_told_right", none)
abbrev D_law_told_right (K : PySem.W.Frag) : FuncData := fdAt K (A_law_told_right K)
def d_law_told_right : He.DefD := ⟨("_law_told_right", none), "_law_told_right", "_law_told_right", defArgs S_law_told_right, defBody S_law_told_right, defScope S_law_told_right, [], []⟩
abbrev A_law_two_right (K : PySem.W.Frag) : Addr := He.fAd K ("_law_two_right", none)
abbrev D_law_two_right (K : PySem.W.Frag) : FuncData := fdAt K (A_law_two_right K)
def d_law_two_right : He.DefD := ⟨("_law_two_right", none), "_law_two_right", "_law_two_right", defArgs S_law_two_right, defBody S_law_two_right, defScope S_law_two_right, [], []⟩
abbrev A_law (K : PySem.W.Frag) : Addr := He.fAd K ("law", none)
abbrev D_law (K : PySem.W.Frag) : FuncData := fdAt K (A_law K)
def d_law : He.DefD := ⟨("law", none), "law", "law", defArgs S_law, defBody S_law, defScope S_law, [], []⟩
structure Tx (K : PySem.W.Frag) (mg : Str → Option Value) : Prop where
  z_ArithmeticError : mg "ArithmeticError" = none
  z_isinstance : mg "isinstance" = none
  z_str : mg "str" = none
  z_len : mg "len" = none
  z_int : mg "int" = none
  z_bool : mg "bool" = none
  z_dict : mg "dict" = none
  z_all : mg "all" = none
  z_sorted : mg "sorted" = none
  z_iter : mg "iter" = none
  z_list : mg "list" = none
  z_min : mg "min" = none
  z_max : mg "max" = none
  z_sum : mg "sum" = none
  z_range : mg "range" = none
  z_repr : mg "repr" = none
  m_is_word : mg "is_word" = some (.ref (He.ga K "is_word"))
  m_is_integer : mg "is_integer" = some (.ref (He.ga K "is_integer"))
  m_are_amounts : mg "are_amounts" = some (.ref (He.ga K "are_amounts"))
  m_check_sizes : mg "check_sizes" = some (.ref (He.ga K "check_sizes"))
  m_law_draws : mg "_law_draws" = some (.ref (He.ga K "_law_draws"))
  m_law_draw : mg "_law_draw" = some (.ref (He.ga K "_law_draw"))
  m_law_amounts : mg "_law_amounts" = some (.ref (He.ga K "_law_amounts"))
  m_law_plain : mg "_law_plain" = some (.ref (He.ga K "_law_plain"))
  m_law_minus : mg "_law_minus" = some (.ref (He.ga K "_law_minus"))
  m_law_due : mg "_law_due" = some (.ref (He.ga K "_law_due"))
  m_law_told_right : mg "_law_told_right" = some (.ref (He.ga K "_law_told_right"))
  m_law_two_right : mg "_law_two_right" = some (.ref (He.ga K "_law_two_right"))
  m_law : mg "law" = some (.ref (He.ga K "law"))
  m_PoolError : mg "PoolError" = some (.ref (He.ga K "PoolError"))
  m_InvalidSizes : mg "InvalidSizes" = some (.ref (He.ga K "InvalidSizes"))
  m_NotEnough : mg "NotEnough" = some (.ref (He.ga K "NotEnough"))
  m_Sizes : mg "Sizes" = some (.ref (He.ga K "Sizes"))
  p_PoolError : XP K (He.ga K "PoolError") "ValueError.__init__"
  v_ArithmeticError : PySem.W.findCls K (.type "ArithmeticError") (.type "type") "__init__" = some (.val (.builtin "ArithmeticError.__init__"))
  v_ValueError : PySem.W.findCls K (.type "ValueError") (.type "type") "__init__" = some (.val (.builtin "ValueError.__init__"))
  x_InvalidSizes : XC K (He.ga K "InvalidSizes") "ValueError" "ValueError.__new__" "ValueError" "ValueError.__init__"
  sb_InvalidSizes : PySem.W.subIn K (.ref (He.ga K "InvalidSizes")) (.ref (He.ga K "InvalidSizes")) = some true
  i_InvalidSizes : XI K (He.ga K "InvalidSizes") (A_InvalidSizes_init K) "value"
  x_NotEnough : XC K (He.ga K "NotEnough") "ArithmeticError" "ArithmeticError.__new__" "ArithmeticError" "ArithmeticError.__init__"
  sb_NotEnough : PySem.W.subIn K (.ref (He.ga K "NotEnough")) (.ref (He.ga K "NotEnough")) = some true
  i_NotEnough : XI K (He.ga K "NotEnough") (A_NotEnough_init K) "name"
  c_LETTERS : ∃ u, mg "LETTERS" = some u ∧ RelV (.str "abcdefghijklmnopqrstuvwxyz") u
  c_MOST_LETTERS : ∃ u, mg "MOST_LETTERS" = some u ∧ RelV (.int 8) u
  cl_Sizes : Cls K (He.ga K "Sizes")
  kc_Sizes : OwnC K (He.ga K "Sizes")
  ct_Sizes : ((PySem.W.clsIn K (He.ga K "Sizes")).isSome && PySem.W.typeIn K (.ref (He.ga K "Sizes")) == some (.type "type")) = true
  nb_Sizes : NotB K (He.ga K "Sizes")
  ro_Sizes_add : PySem.W.findIn K (.ref (He.ga K "Sizes")) "__radd__" = some none
  ro_Sizes_sub : PySem.W.findIn K (.ref (He.ga K "Sizes")) "__rsub__" = some none
  ro_Sizes_and : PySem.W.findIn K (.ref (He.ga K "Sizes")) "__rand__" = some none
  ro_Sizes_or : PySem.W.findIn K (.ref (He.ga K "Sizes")) "__ror__" = some none
  ro_Sizes_mul : PySem.W.findIn K (.ref (He.ga K "Sizes")) "__rmul__" = some none
  ne_Sizes : PySem.W.findIn K (.ref (He.ga K "Sizes")) "__ne__" = some (some (.builtin "object.__ne__"))
  mk_Sizes : Mk K (He.ga K "Sizes") (A_Sizes_init K)
  mt_Sizes_getitem : Meth K (He.ga K "Sizes") "__getitem__" (A_Sizes_getitem K)
  mt_Sizes_contains : Meth K (He.ga K "Sizes") "__contains__" (A_Sizes_contains K)
  mt_Sizes_iter : Meth K (He.ga K "Sizes") "__iter__" (A_Sizes_iter K)
  mt_Sizes_len : Meth K (He.ga K "Sizes") "__len__" (A_Sizes_len K)
  mt_Sizes_eq : Meth K (He.ga K "Sizes") "__eq__" (A_Sizes_eq K)
  mt_Sizes_names : Meth K (He.ga K "Sizes") "names" (A_Sizes_names K)
  mt_Sizes_fits : Meth K (He.ga K "Sizes") "fits" (A_Sizes_fits K)
  mt_Sizes_add : Meth K (He.ga K "Sizes") "__add__" (A_Sizes_add K)
  mt_Sizes_sub : Meth K (He.ga K "Sizes") "__sub__" (A_Sizes_sub K)
  mt_Sizes_and : Meth K (He.ga K "Sizes") "__and__" (A_Sizes_and K)
  mt_Sizes_or : Meth K (He.ga K "Sizes") "__or__" (A_Sizes_or K)
  mt_Sizes_mul : Meth K (He.ga K "Sizes") "__mul__" (A_Sizes_mul K)
  mt_Sizes_call : Meth K (He.ga K "Sizes") "__call__" (A_Sizes_call K)
  pr_Sizes_total : PropOf K (He.ga K "Sizes") "total" (He.fAd K ("Sizes", some "total")) (A_Sizes_total K)
  mt_Sizes_by_name : Meth K (He.ga K "Sizes") "by_name" (A_Sizes_by_name K)
  mt_Sizes_str : Meth K (He.ga K "Sizes") "__str__" (A_Sizes_str K)
  mt_Sizes_repr : Meth K (He.ga K "Sizes") "__repr__" (A_Sizes_repr K)
  na_Sizes_kept : NoAttr K (He.ga K "Sizes") "kept"
  F_InvalidSizes_init : FunD K "__init__" "InvalidSizes.__init__" (defArgs S_InvalidSizes_init) (defBody S_InvalidSizes_init) (defScope S_InvalidSizes_init) [] [] (A_InvalidSizes_init K) (D_InvalidSizes_init K)
  F_NotEnough_init : FunD K "__init__" "NotEnough.__init__" (defArgs S_NotEnough_init) (defBody S_NotEnough_init) (defScope S_NotEnough_init) [] [] (A_NotEnough_init K) (D_NotEnough_init K)
  F_is_word : FunD K "is_word" "is_word" (defArgs S_is_word) (defBody S_is_word) (defScope S_is_word) [] [] (A_is_word K) (D_is_word K)
  F_is_integer : FunD K "is_integer" "is_integer" (defArgs S_is_integer) (defBody S_is_integer) (defScope S_is_integer) [.int 0] [] (A_is_integer K) (D_is_integer K)
  F_are_amounts : FunD K "are_amounts" "are_amounts" (defArgs S_are_amounts) (defBody S_are_amounts) (defScope S_are_amounts) [] [] (A_are_amounts K) (D_are_amounts K)
  F_Sizes_init : FunD K "__init__" "Sizes.__init__" (defArgs S_Sizes_init) (defBody S_Sizes_init) (defScope S_Sizes_init) [] [] (A_Sizes_init K) (D_Sizes_init K)
  F_Sizes_getitem : FunD K "__getitem__" "Sizes.__getitem__" (defArgs S_Sizes_getitem) (defBody S_Sizes_getitem) (defScope S_Sizes_getitem) [] [] (A_Sizes_getitem K) (D_Sizes_getitem K)
  F_Sizes_contains : FunD K "__contains__" "Sizes.__contains__" (defArgs S_Sizes_contains) (defBody S_Sizes_contains) (defScope S_Sizes_contains) [] [] (A_Sizes_contains K) (D_Sizes_contains K)
  F_Sizes_iter : FunD K "__iter__" "Sizes.__iter__" (defArgs S_Sizes_iter) (defBody S_Sizes_iter) (defScope S_Sizes_iter) [] [] (A_Sizes_iter K) (D_Sizes_iter K)
  F_Sizes_len : FunD K "__len__" "Sizes.__len__" (defArgs S_Sizes_len) (defBody S_Sizes_len) (defScope S_Sizes_len) [] [] (A_Sizes_len K) (D_Sizes_len K)
  F_Sizes_eq : FunD K "__eq__" "Sizes.__eq__" (defArgs S_Sizes_eq) (defBody S_Sizes_eq) (defScope S_Sizes_eq) [] [] (A_Sizes_eq K) (D_Sizes_eq K)
  F_Sizes_names : FunD K "names" "Sizes.names" (defArgs S_Sizes_names) (defBody S_Sizes_names) (defScope S_Sizes_names) [] [] (A_Sizes_names K) (D_Sizes_names K)
  F_Sizes_fits : FunD K "fits" "Sizes.fits" (defArgs S_Sizes_fits) (defBody S_Sizes_fits) (defScope S_Sizes_fits) [] [] (A_Sizes_fits K) (D_Sizes_fits K)
  F_Sizes_add : FunD K "__add__" "Sizes.__add__" (defArgs S_Sizes_add) (defBody S_Sizes_add) (defScope S_Sizes_add) [] [] (A_Sizes_add K) (D_Sizes_add K)
  F_Sizes_sub : FunD K "__sub__" "Sizes.__sub__" (defArgs S_Sizes_sub) (defBody S_Sizes_sub) (defScope S_Sizes_sub) [] [] (A_Sizes_sub K) (D_Sizes_sub K)
  F_Sizes_and : FunD K "__and__" "Sizes.__and__" (defArgs S_Sizes_and) (defBody S_Sizes_and) (defScope S_Sizes_and) [] [] (A_Sizes_and K) (D_Sizes_and K)
  F_Sizes_or : FunD K "__or__" "Sizes.__or__" (defArgs S_Sizes_or) (defBody S_Sizes_or) (defScope S_Sizes_or) [] [] (A_Sizes_or K) (D_Sizes_or K)
  F_Sizes_mul : FunD K "__mul__" "Sizes.__mul__" (defArgs S_Sizes_mul) (defBody S_Sizes_mul) (defScope S_Sizes_mul) [] [] (A_Sizes_mul K) (D_Sizes_mul K)
  F_Sizes_call : FunD K "__call__" "Sizes.__call__" (defArgs S_Sizes_call) (defBody S_Sizes_call) (defScope S_Sizes_call) [.int 1] [] (A_Sizes_call K) (D_Sizes_call K)
  F_Sizes_total : FunD K "total" "Sizes.total" (defArgs S_Sizes_total) (defBody S_Sizes_total) (defScope S_Sizes_total) [] [] (A_Sizes_total K) (D_Sizes_total K)
  F_Sizes_by_name : FunD K "by_name" "Sizes.by_name" (defArgs S_Sizes_by_name) (defBody S_Sizes_by_name) (defScope S_Sizes_by_name) [] [] (A_Sizes_by_name K) (D_Sizes_by_name K)
  F_Sizes_str : FunD K "__str__" "Sizes.__str__" (defArgs S_Sizes_str) (defBody S_Sizes_str) (defScope S_Sizes_str) [] [] (A_Sizes_str K) (D_Sizes_str K)
  F_Sizes_repr : FunD K "__repr__" "Sizes.__repr__" (defArgs S_Sizes_repr) (defBody S_Sizes_repr) (defScope S_Sizes_repr) [] [] (A_Sizes_repr K) (D_Sizes_repr K)
  F_check_sizes : FunD K "check_sizes" "check_sizes" (defArgs S_check_sizes) (defBody S_check_sizes) (defScope S_check_sizes) [] [] (A_check_sizes K) (D_check_sizes K)
  F_law_draws : FunD K "_law_draws" "_law_draws" (defArgs S_law_draws) (defBody S_law_draws) (defScope S_law_draws) [] [] (A_law_draws K) (D_law_draws K)
  F_law_draw : FunD K "_law_draw" "_law_draw" (defArgs S_law_draw) (defBody S_law_draw) (defScope S_law_draw) [] [] (A_law_draw K) (D_law_draw K)
  F_law_amounts : FunD K "_law_amounts" "_law_amounts" (defArgs S_law_amounts) (defBody S_law_amounts) (defScope S_law_amounts) [] [] (A_law_amounts K) (D_law_amounts K)
  F_law_plain : FunD K "_law_plain" "_law_plain" (defArgs S_law_plain) (defBody S_law_plain) (defScope S_law_plain) [] [] (A_law_plain K) (D_law_plain K)
  F_law_minus : FunD K "_law_minus" "_law_minus" (defArgs S_law_minus) (defBody S_law_minus) (defScope S_law_minus) [] [] (A_law_minus K) (D_law_minus K)
  F_law_due : FunD K "_law_due" "_law_due" (defArgs S_law_due) (defBody S_law_due) (defScope S_law_due) [] [] (A_law_due K) (D_law_due K)
  F_law_told_right : FunD K "_law_told_right" "_law_told_right" (defArgs S_law_told_right) (defBody S_law_told_right) (defScope S_law_told_right) [] [] (A_law_told_right K) (D_law_told_right K)
  F_law_two_right : FunD K "_law_two_right" "_law_two_right" (defArgs S_law_two_right) (defBody S_law_two_right) (defScope S_law_two_right) [] [] (A_law_two_right K) (D_law_two_right K)
  F_law : FunD K "law" "law" (defArgs S_law) (defBody S_law) (defScope S_law) [] [] (A_law K) (D_law K)
def fnL : List GDef := ([⟨A_InvalidSizes_init, d_InvalidSizes_init⟩, ⟨A_NotEnough_init, d_NotEnough_init⟩, ⟨A_is_word, d_is_word⟩, ⟨A_is_integer, d_is_integer⟩, ⟨A_are_amounts, d_are_amounts⟩, ⟨A_Sizes_init, d_Sizes_init⟩, ⟨A_Sizes_getitem, d_Sizes_getitem⟩, ⟨A_Sizes_contains, d_Sizes_contains⟩, ⟨A_Sizes_iter, d_Sizes_iter⟩, ⟨A_Sizes_len, d_Sizes_len⟩, ⟨A_Sizes_eq, d_Sizes_eq⟩, ⟨A_Sizes_names, d_Sizes_names⟩, ⟨A_Sizes_fits, d_Sizes_fits⟩, ⟨A_Sizes_add, d_Sizes_add⟩, ⟨A_Sizes_sub, d_Sizes_sub⟩, ⟨A_Sizes_and, d_Sizes_and⟩, ⟨A_Sizes_or, d_Sizes_or⟩, ⟨A_Sizes_mul, d_Sizes_mul⟩, ⟨A_Sizes_call, d_Sizes_call⟩, ⟨A_Sizes_total, d_Sizes_total⟩, ⟨A_Sizes_by_name, d_Sizes_by_name⟩, ⟨A_Sizes_str, d_Sizes_str⟩, ⟨A_Sizes_repr, d_Sizes_repr⟩, ⟨A_check_sizes, d_check_sizes⟩, ⟨A_law_draws, d_law_draws⟩] : List GDef) ++ ([⟨A_law_draw, d_law_draw⟩, ⟨A_law_amounts, d_law_amounts⟩, ⟨A_law_plain, d_law_plain⟩, ⟨A_law_minus, d_law_minus⟩, ⟨A_law_due, d_law_due⟩, ⟨A_law_told_right, d_law_told_right⟩, ⟨A_law_two_right, d_law_two_right⟩, ⟨A_law, d_law⟩] : List GDef)
def exB0 (K : PySem.W.Frag) : Bool := He.eqO (PySem.W.nsIn K mainGlobals "ArithmeticError") (some none) && (He.eqO (PySem.W.nsIn K mainGlobals "isinstance") (some none) && (He.eqO (PySem.W.nsIn K mainGlobals "str") (some none) && (He.eqO (PySem.W.nsIn K mainGlobals "len") (some none) && (He.eqO (PySem.W.nsIn K mainGlobals "int") (some none) && (He.eqO (PySem.W.nsIn K mainGlobals "bool") (some none) && (He.eqO (PySem.W.nsIn K mainGlobals "dict") (some none) && (He.eqO (PySem.W.nsIn K mainGlobals "all") (some none) && (He.eqO (PySem.W.nsIn K mainGlobals "sorted") (some none) && (He.eqO (PySem.W.nsIn K mainGlobals "iter") (some none) && (He.eqO (PySem.W.nsIn K mainGlobals "list") (some none) && (He.eqO (PySem.W.nsIn K mainGlobals "min") (some none) && (He.eqO (PySem.W.nsIn K mainGlobals "max") (some none) && (He.eqO (PySem.W.nsIn K mainGlobals "sum") (some none) && (He.eqO (PySem.W.nsIn K mainGlobals "range") (some none) && (He.eqO (PySem.W.nsIn K mainGlobals "repr") (some none) && (He.eqO (PySem.W.nsIn K mainGlobals "is_word") (some (some (.ref (He.ga K "is_word")))) && (He.eqO (PySem.W.nsIn K mainGlobals "is_integer") (some (some (.ref (He.ga K "is_integer")))) && (He.eqO (PySem.W.nsIn K mainGlobals "are_amounts") (some (some (.ref (He.ga K "are_amounts")))) && (He.eqO (PySem.W.nsIn K mainGlobals "check_sizes") (some (some (.ref (He.ga K "check_sizes")))))))))))))))))))))))
def exB1 (K : PySem.W.Frag) : Bool := He.eqO (PySem.W.nsIn K mainGlobals "_law_draws") (some (some (.ref (He.ga K "_law_draws")))) && (He.eqO (PySem.W.nsIn K mainGlobals "_law_draw") (some (some (.ref (He.ga K "_law_draw")))) && (He.eqO (PySem.W.nsIn K mainGlobals "_law_amounts") (some (some (.ref (He.ga K "_law_amounts")))) && (He.eqO (PySem.W.nsIn K mainGlobals "_law_plain") (some (some (.ref (He.ga K "_law_plain")))) && (He.eqO (PySem.W.nsIn K mainGlobals "_law_minus") (some (some (.ref (He.ga K "_law_minus")))) && (He.eqO (PySem.W.nsIn K mainGlobals "_law_due") (some (some (.ref (He.ga K "_law_due")))) && (He.eqO (PySem.W.nsIn K mainGlobals "_law_told_right") (some (some (.ref (He.ga K "_law_told_right")))) && (He.eqO (PySem.W.nsIn K mainGlobals "_law_two_right") (some (some (.ref (He.ga K "_law_two_right")))) && (He.eqO (PySem.W.nsIn K mainGlobals "law") (some (some (.ref (He.ga K "law")))) && (He.eqO (PySem.W.nsIn K mainGlobals "PoolError") (some (some (.ref (He.ga K "PoolError")))) && (He.eqO (PySem.W.nsIn K mainGlobals "InvalidSizes") (some (some (.ref (He.ga K "InvalidSizes")))) && (He.eqO (PySem.W.nsIn K mainGlobals "NotEnough") (some (some (.ref (He.ga K "NotEnough")))) && (He.eqO (PySem.W.nsIn K mainGlobals "Sizes") (some (some (.ref (He.ga K "Sizes")))) && (xpB K (He.ga K "PoolError") "ValueError.__init__" && (valIs (PySem.W.findCls K (.type "ArithmeticError") (.type "type") "__init__") (.builtin "ArithmeticError.__init__") && (valIs (PySem.W.findCls K (.type "ValueError") (.type "type") "__init__") (.builtin "ValueError.__init__") && (xcB K (He.ga K "InvalidSizes") "ValueError" "ValueError.__new__" "ValueError" && (decide (PySem.W.subIn K (.ref (He.ga K "InvalidSizes")) (.ref (He.ga K "InvalidSizes")) = some true) && (xiB K (He.ga K "InvalidSizes") (A_InvalidSizes_init K) "value" && (xcB K (He.ga K "NotEnough") "ArithmeticError" "ArithmeticError.__new__" "ArithmeticError")))))))))))))))))))
def exB2 (K : PySem.W.Frag) : Bool := decide (PySem.W.subIn K (.ref (He.ga K "NotEnough")) (.ref (He.ga K "NotEnough")) = some true) && (xiB K (He.ga K "NotEnough") (A_NotEnough_init K) "name" && ((He.Fa.str "LETTERS" "abcdefghijklmnopqrstuvwxyz").ok K && ((He.Fa.int "MOST_LETTERS" 8).ok K && ((He.Fa.cls "Sizes").ok K && (ownB K (He.ga K "Sizes") && (((PySem.W.clsIn K (He.ga K "Sizes")).isSome && PySem.W.typeIn K (.ref (He.ga K "Sizes")) == some (.type "type")) && (notB K (He.ga K "Sizes") && (He.eqO (PySem.W.findIn K (.ref (He.ga K "Sizes")) "__radd__") (some none) && (He.eqO (PySem.W.findIn K (.ref (He.ga K "Sizes")) "__rsub__") (some none) && (He.eqO (PySem.W.findIn K (.ref (He.ga K "Sizes")) "__rand__") (some none) && (He.eqO (PySem.W.findIn K (.ref (He.ga K "Sizes")) "__ror__") (some none) && (He.eqO (PySem.W.findIn K (.ref (He.ga K "Sizes")) "__rmul__") (some none) && (He.eqO (PySem.W.findIn K (.ref (He.ga K "Sizes")) "__ne__") (some (some (.builtin "object.__ne__"))) && ((He.Fa.mkr "Sizes").ok K && ((He.Fa.meth "Sizes" "__getitem__").ok K && ((He.Fa.meth "Sizes" "__contains__").ok K && ((He.Fa.meth "Sizes" "__iter__").ok K && ((He.Fa.meth "Sizes" "__len__").ok K && ((He.Fa.meth "Sizes" "__eq__").ok K)))))))))))))))))))
def exB3 (K : PySem.W.Frag) : Bool := (He.Fa.meth "Sizes" "names").ok K && ((He.Fa.meth "Sizes" "fits").ok K && ((He.Fa.meth "Sizes" "__add__").ok K && ((He.Fa.meth "Sizes" "__sub__").ok K && ((He.Fa.meth "Sizes" "__and__").ok K && ((He.Fa.meth "Sizes" "__or__").ok K && ((He.Fa.meth "Sizes" "__mul__").ok K && ((He.Fa.meth "Sizes" "__call__").ok K && (propB K (He.ga K "Sizes") (He.fAd K ("Sizes", some "total")) (A_Sizes_total K) "total" && ((He.Fa.meth "Sizes" "by_name").ok K && ((He.Fa.meth "Sizes" "__str__").ok K && ((He.Fa.meth "Sizes" "__repr__").ok K && ((He.Fa.noat "Sizes" "kept").ok K))))))))))))
def exB (K : PySem.W.Frag) : Bool := exB0 K && (exB1 K && (exB2 K && (exB3 K)))
theorem tx_of {K : PySem.W.Frag} {h : Heap} {mg : Str → Option Value} (X : K.In h) (G : h.Ns mainGlobals mg) (c : SaysM exB fnL K) : Tx K mg := by
  have z := c.all_
  unfold exB at z
  simp only [Bool.and_eq_true] at z
  obtain ⟨z0, z1, z2, z3⟩ := z
  unfold exB0 at z0
  simp only [Bool.and_eq_true] at z0
  obtain ⟨h_z_ArithmeticError, h_z_isinstance, h_z_str, h_z_len, h_z_int, h_z_bool, h_z_dict, h_z_all, h_z_sorted, h_z_iter, h_z_list, h_z_min, h_z_max, h_z_sum, h_z_range, h_z_repr, h_m_is_word, h_m_is_integer, h_m_are_amounts, h_m_check_sizes⟩ := z0
  unfold exB1 at z1
  simp only [Bool.and_eq_true] at z1
  obtain ⟨h_m_law_draws, h_m_law_draw, h_m_law_amounts, h_m_law_plain, h_m_law_minus, h_m_law_due, h_m_law_told_right, h_m_law_two_right, h_m_law, h_m_PoolError, h_m_InvalidSizes, h_m_NotEnough, h_m_Sizes, h_p_PoolError, h_v_ArithmeticError, h_v_ValueError, h_x_InvalidSizes, h_sb_InvalidSizes, h_i_InvalidSizes, h_x_NotEnough⟩ := z1
  unfold exB2 at z2
  simp only [Bool.and_eq_true] at z2
  obtain ⟨h_sb_NotEnough, h_i_NotEnough, h_c_LETTERS, h_c_MOST_LETTERS, h_cl_Sizes, h_kc_Sizes, h_ct_Sizes, h_nb_Sizes, h_ro_Sizes_add, h_ro_Sizes_sub, h_ro_Sizes_and, h_ro_Sizes_or, h_ro_Sizes_mul, h_ne_Sizes, h_mk_Sizes, h_mt_Sizes_getitem, h_mt_Sizes_contains, h_mt_Sizes_iter, h_mt_Sizes_len, h_mt_Sizes_eq⟩ := z2
  unfold exB3 at z3
  simp only [Bool.and_eq_true] at z3
  obtain ⟨h_mt_Sizes_names, h_mt_Sizes_fits, h_mt_Sizes_add, h_mt_Sizes_sub, h_mt_Sizes_and, h_mt_Sizes_or, h_mt_Sizes_mul, h_mt_Sizes_call, h_pr_Sizes_total, h_mt_Sizes_by_name, h_mt_Sizes_str, h_mt_Sizes_repr, h_na_Sizes_kept⟩ := z3
  exact {
    z_ArithmeticError := PySem.W.mg_none_of X G (He.eqO_ok h_z_ArithmeticError)
    z_isinstance := PySem.W.mg_none_of X G (He.eqO_ok h_z_isinstance)
    z_str := PySem.W.mg_none_of X G (He.eqO_ok h_z_str)
    z_len := PySem.W.mg_none_of X G (He.eqO_ok h_z_len)
    z_int := PySem.W.mg_none_of X G (He.eqO_ok h_z_int)
    z_bool := PySem.W.mg_none_of X G (He.eqO_ok h_z_bool)
    z_dict := PySem.W.mg_none_of X G (He.eqO_ok h_z_dict)
    z_all := PySem.W.mg_none_of X G (He.eqO_ok h_z_all)
    z_sorted := PySem.W.mg_none_of X G (He.eqO_ok h_z_sorted)
    z_iter := PySem.W.mg_none_of X G (He.eqO_ok h_z_iter)
    z_list := PySem.W.mg_none_of X G (He.eqO_ok h_z_list)
    z_min := PySem.W.mg_none_of X G (He.eqO_ok h_z_min)
    z_max := PySem.W.mg_none_of X G (He.eqO_ok h_z_max)
    z_sum := PySem.W.mg_none_of X G (He.eqO_ok h_z_sum)
    z_range := PySem.W.mg_none_of X G (He.eqO_ok h_z_range)
    z_repr := PySem.W.mg_none_of X G (He.eqO_ok h_z_repr)
    m_is_word := PySem.W.mg_of X G (He.eqO_ok h_m_is_word)
    m_is_integer := PySem.W.mg_of X G (He.eqO_ok h_m_is_integer)
    m_are_amounts := PySem.W.mg_of X G (He.eqO_ok h_m_are_amounts)
    m_check_sizes := PySem.W.mg_of X G (He.eqO_ok h_m_check_sizes)
    m_law_draws := PySem.W.mg_of X G (He.eqO_ok h_m_law_draws)
    m_law_draw := PySem.W.mg_of X G (He.eqO_ok h_m_law_draw)
    m_law_amounts := PySem.W.mg_of X G (He.eqO_ok h_m_law_amounts)
    m_law_plain := PySem.W.mg_of X G (He.eqO_ok h_m_law_plain)
    m_law_minus := PySem.W.mg_of X G (He.eqO_ok h_m_law_minus)
    m_law_due := PySem.W.mg_of X G (He.eqO_ok h_m_law_due)
    m_law_told_right := PySem.W.mg_of X G (He.eqO_ok h_m_law_told_right)
    m_law_two_right := PySem.W.mg_of X G (He.eqO_ok h_m_law_two_right)
    m_law := PySem.W.mg_of X G (He.eqO_ok h_m_law)
    m_PoolError := PySem.W.mg_of X G (He.eqO_ok h_m_PoolError)
    m_InvalidSizes := PySem.W.mg_of X G (He.eqO_ok h_m_InvalidSizes)
    m_NotEnough := PySem.W.mg_of X G (He.eqO_ok h_m_NotEnough)
    m_Sizes := PySem.W.mg_of X G (He.eqO_ok h_m_Sizes)
    p_PoolError := xpB_ok h_p_PoolError
    v_ArithmeticError := valIs_ok h_v_ArithmeticError
    v_ValueError := valIs_ok h_v_ValueError
    x_InvalidSizes := xcB_ok h_x_InvalidSizes
    sb_InvalidSizes := of_decide_eq_true h_sb_InvalidSizes
    i_InvalidSizes := xiB_ok h_i_InvalidSizes
    x_NotEnough := xcB_ok h_x_NotEnough
    sb_NotEnough := of_decide_eq_true h_sb_NotEnough
    i_NotEnough := xiB_ok h_i_NotEnough
    c_LETTERS := (let ⟨t, e⟩ := He.str_ok X G h_c_LETTERS; ⟨_, e, t, rfl⟩)
    c_MOST_LETTERS := (let ⟨t, e⟩ := He.int_ok X G h_c_MOST_LETTERS; ⟨_, e, t, rfl⟩)
    cl_Sizes := He.cls_ok h_cl_Sizes
    kc_Sizes := ownB_ok h_kc_Sizes
    ct_Sizes := Bool.and_eq_true_iff.mpr h_ct_Sizes
    nb_Sizes := notB_ok h_nb_Sizes
    ro_Sizes_add := He.eqO_ok h_ro_Sizes_add
    ro_Sizes_sub := He.eqO_ok h_ro_Sizes_sub
    ro_Sizes_and := He.eqO_ok h_ro_Sizes_and
    ro_Sizes_or := He.eqO_ok h_ro_Sizes_or
    ro_Sizes_mul := He.eqO_ok h_ro_Sizes_mul
    ne_Sizes := He.eqO_ok h_ne_Sizes
    mk_Sizes := He.mkr_ok h_mk_Sizes
    mt_Sizes_getitem := He.meth_ok h_mt_Sizes_getitem
    mt_Sizes_contains := He.meth_ok h_mt_Sizes_contains
    mt_Sizes_iter := He.meth_ok h_mt_Sizes_iter
    mt_Sizes_len := He.meth_ok h_mt_Sizes_len
    mt_Sizes_eq := He.meth_ok h_mt_Sizes_eq
    mt_Sizes_names := He.meth_ok h_mt_Sizes_names
    mt_Sizes_fits := He.meth_ok h_mt_Sizes_fits
    mt_Sizes_add := He.meth_ok h_mt_Sizes_add
    mt_Sizes_sub := He.meth_ok h_mt_Sizes_sub
    mt_Sizes_and := He.meth_ok h_mt_Sizes_and
    mt_Sizes_or := He.meth_ok h_mt_Sizes_or
    mt_Sizes_mul := He.meth_ok h_mt_Sizes_mul
    mt_Sizes_call := He.meth_ok h_mt_Sizes_call
    pr_Sizes_total := propB_ok h_pr_Sizes_total
    mt_Sizes_by_name := He.meth_ok h_mt_Sizes_by_name
    mt_Sizes_str := He.meth_ok h_mt_Sizes_str
    mt_Sizes_repr := He.meth_ok h_mt_Sizes_repr
    na_Sizes_kept := He.eqO_ok h_na_Sizes_kept
    F_InvalidSizes_init := c.def_ 0 (g := ⟨A_InvalidSizes_init, d_InvalidSizes_init⟩) rfl
    F_NotEnough_init := c.def_ 1 (g := ⟨A_NotEnough_init, d_NotEnough_init⟩) rfl
    F_is_word := c.def_ 2 (g := ⟨A_is_word, d_is_word⟩) rfl
    F_is_integer := c.def_ 3 (g := ⟨A_is_integer, d_is_integer⟩) rfl
    F_are_amounts := c.def_ 4 (g := ⟨A_are_amounts, d_are_amounts⟩) rfl
    F_Sizes_init := c.def_ 5 (g := ⟨A_Sizes_init, d_Sizes_init⟩) rfl
    F_Sizes_getitem := c.def_ 6 (g := ⟨A_Sizes_getitem, d_Sizes_getitem⟩) rfl
    F_Sizes_contains := c.def_ 7 (g := ⟨A_Sizes_contains, d_Sizes_contains⟩) rfl
    F_Sizes_iter := c.def_ 8 (g := ⟨A_Sizes_iter, d_Sizes_iter⟩) rfl
    F_Sizes_len := c.def_ 9 (g := ⟨A_Sizes_len, d_Sizes_len⟩) rfl
    F_Sizes_eq := c.def_ 10 (g := ⟨A_Sizes_eq, d_Sizes_eq⟩) rfl
    F_Sizes_names := c.def_ 11 (g := ⟨A_Sizes_names, d_Sizes_names⟩) rfl
    F_Sizes_fits := c.def_ 12 (g := ⟨A_Sizes_fits, d_Sizes_fits⟩) rfl
    F_Sizes_add := c.def_ 13 (g := ⟨A_Sizes_add, d_Sizes_add⟩) rfl
    F_Sizes_sub := c.def_ 14 (g := ⟨A_Sizes_sub, d_Sizes_sub⟩) rfl
    F_Sizes_and := c.def_ 15 (g := ⟨A_Sizes_and, d_Sizes_and⟩) rfl
    F_Sizes_or := c.def_ 16 (g := ⟨A_Sizes_or, d_Sizes_or⟩) rfl
    F_Sizes_mul := c.def_ 17 (g := ⟨A_Sizes_mul, d_Sizes_mul⟩) rfl
    F_Sizes_call := c.def_ 18 (g := ⟨A_Sizes_call, d_Sizes_call⟩) rfl
    F_Sizes_total := c.def_ 19 (g := ⟨A_Sizes_total, d_Sizes_total⟩) rfl
    F_Sizes_by_name := c.def_ 20 (g := ⟨A_Sizes_by_name, d_Sizes_by_name⟩) rfl
    F_Sizes_str := c.def_ 21 (g := ⟨A_Sizes_str, d_Sizes_str⟩) rfl
    F_Sizes_repr := c.def_ 22 (g := ⟨A_Sizes_repr, d_Sizes_repr⟩) rfl
    F_check_sizes := c.def_ 23 (g := ⟨A_check_sizes, d_check_sizes⟩) rfl
    F_law_draws := c.def_ 24 (g := ⟨A_law_draws, d_law_draws⟩) rfl
    F_law_draw := c.def_ 25 (g := ⟨A_law_draw, d_law_draw⟩) rfl
    F_law_amounts := c.def_ 26 (g := ⟨A_law_amounts, d_law_amounts⟩) rfl
    F_law_plain := c.def_ 27 (g := ⟨A_law_plain, d_law_plain⟩) rfl
    F_law_minus := c.def_ 28 (g := ⟨A_law_minus, d_law_minus⟩) rfl
    F_law_due := c.def_ 29 (g := ⟨A_law_due, d_law_due⟩) rfl
    F_law_told_right := c.def_ 30 (g := ⟨A_law_told_right, d_law_told_right⟩) rfl
    F_law_two_right := c.def_ 31 (g := ⟨A_law_two_right, d_law_two_right⟩) rfl
    F_law := c.def_ 32 (g := ⟨A_law, d_law⟩) rfl }
theorem sc_InvalidSizes_init : FnScope ["self", "value"] ["self", "value"] (defScope S_InvalidSizes_init) := ⟨rfl, rfl, rfl, by decide +kernel, rfl, by decide +kernel, by decide +kernel⟩
theorem ok_InvalidSizes_init {P : Program} {w : World} {K : PySem.W.Frag} {mg : Str → Option Value} {base : Heap} (T : Tx K mg) : FnOk P w K mg base CX0 1 (A_InvalidSizes_init K) (D_InvalidSizes_init K) ["self", "value"] (spXI (He.ga K "InvalidSizes") "value") := by
  refine T.F_InvalidSizes_init.ok sc_InvalidSizes_init spXI_len (fun cdv A outer s H vs Q E hr h => ⟨_, PSs.nox ?_, read_xi T.x_InvalidSizes T.i_InvalidSizes h⟩)
  exact pss_cons (ps_expr (pe_xinit (Bn := "ValueError") (newId := "ValueError.__new__") LpX.init_value rfl T.m_PoolError T.p_PoolError.s T.p_PoolError.t T.p_PoolError.r T.p_PoolError.v (by decide +kernel) (pa_cons (pv 0) (pa_cons (pv 1) pa_nil)))) (pss_one (ps_xst (pv 0) (pv 1)))
theorem bd_InvalidSizes_init {K : PySem.W.Frag} {mg : Str → Option Value} (T : Tx K mg) : Binds K (D_InvalidSizes_init K) ["self", "value"] [] := T.F_InvalidSizes_init.bindsN fun _ _ _ _ _ _ us hl => match us, hl with | [_, _], _ => rfl
theorem mk_InvalidSizes {X : Cx} {e : Expr} {ta : TA} {p pos : Pos} (T : Tx X.K X.mg) (hr : Room 2 X.A) (hg : Gl X "InvalidSizes") (ha : PA X [e] ta) (he : starEach [e] X.env = (false, eval e X.env) :: starEach [] X.env := by rfl) (hpl : (backTo pos (starEach [] X.env)).any (·.1) = false := by rfl) :
    PE X (.Call (.Name "InvalidSizes" p) [e] [] pos) (tXMk (He.ga X.K "InvalidSizes") (spXI (He.ga X.K "InvalidSizes") "value") ta) :=
  pe_xmk F.excBase_ValueError T.x_InvalidSizes T.i_InvalidSizes.i T.i_InvalidSizes.t (ok_InvalidSizes_init T) hr (bd_InvalidSizes_init T) pass0 hg T.m_InvalidSizes ha (by decide) he hpl
theorem sc_NotEnough_init : FnScope ["self", "name"] ["self", "name"] (defScope S_NotEnough_init) := ⟨rfl, rfl, rfl, by decide +kernel, rfl, by decide +kernel, by decide +kernel⟩
theorem ok_NotEnough_init {P : Program} {w : World} {K : PySem.W.Frag} {mg : Str → Option Value} {base : Heap} (T : Tx K mg) : FnOk P w K mg base CX0 1 (A_NotEnough_init K) (D_NotEnough_init K) ["self", "name"] (spXI (He.ga K "NotEnough") "name") := by
  refine T.F_NotEnough_init.ok sc_NotEnough_init spXI_len (fun cdv A outer s H vs Q E hr h => ⟨_, PSs.nox ?_, read_xi T.x_NotEnough T.i_NotEnough h⟩)
  exact pss_cons (ps_expr (pe_binit (Bn := "ArithmeticError") (newId := "ArithmeticError.__new__") LpX.init_arith rfl T.z_ArithmeticError (by decide +kernel) (by kernel_rfl) (by decide +kernel) T.v_ArithmeticError (by decide +kernel) (pa_cons (pv 0) (pa_cons (pv 1) pa_nil)))) (pss_one (ps_xst (pv 0) (pv 1)))
theorem bd_NotEnough_init {K : PySem.W.Frag} {mg : Str → Option Value} (T : Tx K mg) : Binds K (D_NotEnough_init K) ["self", "name"] [] := T.F_NotEnough_init.bindsN fun _ _ _ _ _ _ us hl => match us, hl with | [_, _], _ => rfl
theorem mk_NotEnough {X : Cx} {e : Expr} {ta : TA} {p pos : Pos} (T : Tx X.K X.mg) (hr : Room 2 X.A) (hg : Gl X "NotEnough") (ha : PA X [e] ta) (he : starEach [e] X.env = (false, eval e X.env) :: starEach [] X.env := by rfl) (hpl : (backTo pos (starEach [] X.env)).any (·.1) = false := by rfl) :
    PE X (.Call (.Name "NotEnough" p) [e] [] pos) (tXMk (He.ga X.K "NotEnough") (spXI (He.ga X.K "NotEnough") "name") ta) :=
  pe_xmk F.excBase_ArithmeticError T.x_NotEnough T.i_NotEnough.i T.i_NotEnough.t (ok_NotEnough_init T) hr (bd_NotEnough_init T) pass0 hg T.m_NotEnough ha (by decide) he hpl
theorem pm_InvalidSizes {X : Cx} {e : Expr} {te : TE} {p pos : Pos} (T : Tx X.K X.mg) (hr : Room 2 X.A) (hg : Gl X "InvalidSizes") (ha : PE X e te) (he : starEach [e] X.env = (false, eval e X.env) :: starEach [] X.env := by rfl) (hpl : (backTo pos (starEach [] X.env)).any (·.1) = false := by rfl) :
    PMk X (.Call (.Name "InvalidSizes" p) [e] [] pos) (tMkX (He.ga X.K "InvalidSizes") "value" te) :=
  pmk_x F.excBase_ValueError T.x_InvalidSizes T.i_InvalidSizes.i T.i_InvalidSizes.t (ok_InvalidSizes_init T) hr (bd_InvalidSizes_init T) pass0 hg T.m_InvalidSizes ha (by decide) he hpl
theorem pm_NotEnough {X : Cx} {e : Expr} {te : TE} {p pos : Pos} (T : Tx X.K X.mg) (hr : Room 2 X.A) (hg : Gl X "NotEnough") (ha : PE X e te) (he : starEach [e] X.env = (false, eval e X.env) :: starEach [] X.env := by rfl) (hpl : (backTo pos (starEach [] X.env)).any (·.1) = false := by rfl) :
    PMk X (.Call (.Name "NotEnough" p) [e] [] pos) (tMkX (He.ga X.K "NotEnough") "name" te) :=
  pmk_x F.excBase_ArithmeticError T.x_NotEnough T.i_NotEnough.i T.i_NotEnough.t (ok_NotEnough_init T) hr (bd_NotEnough_init T) pass0 hg T.m_NotEnough ha (by decide) he hpl
end Lp

set_option Elab.async false
set_option linter.all false
set_option maxRecDepth 100000
set_option maxHeartbeats 4000000
namespace Lp
open PySem PySem.Spec PyProof.Rows L2
abbrev CS (K : PySem.W.Frag) : Addr := He.ga K "Sizes"
abbrev CI (K : PySem.W.Frag) : Addr := He.ga K "InvalidSizes"
/-! ### is_word -/
/-- something that is no text -/
def NoStr (K : PySem.W.Frag) (H : Hp) (v : V) : Prop := ∃ t, TyX K H v t ∧ PySem.W.kitOne K t (.type "str") = some false
def spIsWord (K : PySem.W.Frag) : Sp := fun vs H Q _ => ∃ v, vs = [v] ∧ ((∃ s, v = .str s ∧ s.length ≤ sizeLine ∧ Q (.bl (isWord s)) H) ∨ (NoStr K H v ∧ Q (.bl false) H))
abbrev N_is_word : List Str := ["thing"]
theorem sc_is_word : FnScope N_is_word ["thing"] (defScope S_is_word) := ⟨rfl, rfl, rfl, by decide +kernel, rfl, by decide +kernel, by decide +kernel⟩
section
variable {P : Program} {w : World} {K : PySem.W.Frag} {mg : Str → Option Value} {base : Heap}
theorem ok_is_word (T : Tx K mg) : FnOk P w K mg base CX0 1 (A_is_word K) (D_is_word K) ["thing"] (spIsWord K) := by
  refine T.F_is_word.ok sc_is_word (fun vs H Q E h => ?_) (fun cdv A outer s H vs Q E hr h => ?_)
  · obtain ⟨v, rfl, _⟩ := h
    rfl
  · obtain ⟨v, rfl, h⟩ := h
    refine ⟨_, PSs.nox (pss_one (ps_ret (pe_and (pe_callB call_isi (by rfl) T.z_isinstance (by decide +kernel) (pa_cons (pv 0) (pa_cons (pe_bltn (v := .ty "str") rfl T.z_str (by decide +kernel) rfl) pa_nil))) (pe_and (pe_chain op_lt op_le pe_int (pe_callB call_len (by rfl) T.z_len (by decide +kernel) (pa_cons (pv 0) pa_nil)) (C8.pe_gc rfl T.c_MOST_LETTERS)) (pe_one (pe_cmpR op_eq (pe_bm PySem.F.plainAttrs_str PySem.F.slot_str_strip PySem.F.type_str_strip mt_stripChars (pv 0) (pa_cons (C8.pe_gc rfl T.c_LETTERS) pa_nil)) pe_str (nomark _))))))), ?_⟩
    rcases h with ⟨z, rfl, hz, q⟩ | ⟨⟨t, ty, hk⟩, q⟩
    · refine ⟨_, rfl, _, _, _, _, true, rfl, .ty "str", .base (.str z), kit_ty (by decide +kernel), _, rfl, ?_⟩
      refine iteT ?_
      refine ⟨_, rfl, _, _, rfl, ⟨hz, rfl⟩, _, _, rfl, rfl, _, rfl, ?_⟩
      by_cases h0 : 0 < z.length
      · rw [if_pos (decide_eq_true (show (0 : Int) < (z.length : Int) by omega))]
        refine ⟨_, _, rfl, rfl, _, rfl, ?_⟩
        by_cases h8 : z.length ≤ 8
        · rw [if_pos (decide_eq_true (show (z.length : Int) ≤ 8 by omega))]
          refine ⟨_, rfl, ?_, _, _, rfl, rfl, hz, rfl, ?_⟩
          · exact rfl
          · have e : isWord z = decide (V.str (Txt.stripChars z "abcdefghijklmnopqrstuvwxyz") = V.str "") := by
              unfold isWord
              rw [decide_eq_true h0, decide_eq_true h8]
              show decide _ = decide _
              exact decide_eq_decide.mpr ⟨fun e => by rw [e], fun e => V.str.inj e⟩
            rw [e] at q
            exact q
        · rw [if_neg (by rw [decide_eq_false (show ¬ (z.length : Int) ≤ 8 by omega)]; decide)]
          have e : isWord z = false := by unfold isWord; rw [decide_eq_false h8, Bool.and_false, Bool.false_and]
          rw [e] at q
          exact q
      · rw [if_neg (by rw [decide_eq_false (show ¬ (0 : Int) < (z.length : Int) by omega)]; decide)]
        have e : isWord z = false := by unfold isWord; rw [decide_eq_false h0, Bool.false_and, Bool.false_and]
        rw [e] at q
        exact ⟨_, rfl, iteF q⟩
    · refine ⟨_, rfl, _, _, _, _, false, rfl, .ty "str", ty, hk, _, rfl, ?_⟩
      exact iteF q
theorem bd_is_word {K : PySem.W.Frag} {mg : Str → Option Value} (T : Tx K mg) : Binds K (D_is_word K) ["thing"] [] := T.F_is_word.bindsN fun _ _ _ _ _ _ us hl => match us, hl with | [_], _ => rfl

/-! ### is_integer -/
def spIsInt (K : PySem.W.Frag) : Sp := fun vs H Q _ => ∃ v l, vs = [v, .int l] ∧ ((∃ n, v = .int n ∧ Q (.bl (decide (l ≤ n))) H) ∨ ((∃ b, v = .bl b) ∧ Q (.bl false) H) ∨ ((∃ t, TyX K H v t ∧ PySem.W.kitOne K t (.type "int") = some false) ∧ Q (.bl false) H))
abbrev N_is_integer : List Str := ["thing", "least"]
theorem sc_is_integer : FnScope N_is_integer ["thing", "least"] (defScope S_is_integer) := ⟨rfl, rfl, rfl, by decide +kernel, rfl, by decide +kernel, by decide +kernel⟩
theorem ok_is_integer (T : Tx K mg) : FnOk P w K mg base CX0 1 (A_is_integer K) (D_is_integer K) ["thing", "least"] (spIsInt K) := by
  refine T.F_is_integer.ok sc_is_integer (fun vs H Q E h => ?_) (fun cdv A outer s H vs Q E hr h => ?_)
  · obtain ⟨v, l, rfl, _⟩ := h
    rfl
  · obtain ⟨v, l, rfl, h⟩ := h
    refine ⟨_, PSs.nox (pss_one (ps_ret (pe_and (pe_callB call_isi (by rfl) T.z_isinstance (by decide +kernel) (pa_cons (pv 0) (pa_cons (pe_bltn (v := .ty "int") rfl T.z_int (by decide +kernel) rfl) pa_nil))) (pe_and (pe_not (pe_callB call_isi (by rfl) T.z_isinstance (by decide +kernel) (pa_cons (pv 0) (pa_cons (pe_bltn (v := .ty "bool") rfl T.z_bool (by decide +kernel) rfl) pa_nil)))) (pe_one (pe_cmpR op_ge (pv 0) (pv 1) (nomark _))))))), ?_⟩
    rcases h with ⟨n, rfl, q⟩ | ⟨⟨b, rfl⟩, q⟩ | ⟨⟨t, ty, hk⟩, q⟩
    · refine ⟨_, rfl, _, _, _, _, true, rfl, .ty "int", .base (.int n), kit_ty (by decide +kernel), _, rfl, ?_⟩
      refine iteT ?_
      refine ⟨_, rfl, _, _, _, _, false, rfl, .ty "bool", .base (.int n), kit_ty (by decide +kernel), _, rfl, _, rfl, ?_⟩
      refine iteT ?_
      exact ⟨_, rfl, _, rfl, _, _, rfl, rfl, q⟩
    · refine ⟨_, rfl, _, _, _, _, true, rfl, .ty "int", .base (.bl b), kit_ty (by decide +kernel), _, rfl, ?_⟩
      refine iteT ?_
      refine ⟨_, rfl, _, _, _, _, true, rfl, .ty "bool", .base (.bl b), kit_ty (by decide +kernel), _, rfl, _, rfl, ?_⟩
      exact iteF q
    · refine ⟨_, rfl, _, _, _, _, false, rfl, .ty "int", ty, hk, _, rfl, ?_⟩
      exact iteF q
theorem bd1_is_integer {K : PySem.W.Frag} {mg : Str → Option Value} (T : Tx K mg) : ∃ ds, Vals [.int 0] ds ∧ Binds K (D_is_integer K) ["thing", "least"] ds := T.F_is_integer.binds1 1 0 (by decide) (by decide) fun _ _ _ _ _ _ _ us its h1 h2 => match us, its, h1, h2 with | [_], [_], _, _ => ⟨_, rfl, rfl⟩
theorem bd2_is_integer {K : PySem.W.Frag} {mg : Str → Option Value} (T : Tx K mg) : ∃ ds, Vals [] ds ∧ Binds K (D_is_integer K) ["thing", "least"] ds := T.F_is_integer.binds1 2 1 (by decide) (by decide) fun _ _ _ _ _ _ _ us its h1 h2 => match us, its, h1, h2 with | [_, _], [_], _, _ => ⟨_, rfl, rfl⟩
end
/-! ### are_amounts -/
def okKey : Key → Bool
  | .inl _ => false
  | .inr s => isWord s
def okAmt : V → Bool
  | .int n => decide (0 ≤ n)
  | _ => false
def amts (kvs : List (Key × V)) : Bool := kvs.all fun p => okKey p.1 && okAmt p.2
/-- keys that are not too long, values that are plain -/
def KOk : Key → Prop
  | .inl _ => True
  | .inr s => s.length ≤ sizeLine
def VOk : V → Prop
  | .non => True
  | .bl _ => True
  | .int _ => True
  | .str _ => True
  | _ => False
def KvOk (kvs : List (Key × V)) : Prop := kvs.length < 100000 ∧ (kvs.map (·.1)).Nodup ∧ ∀ p ∈ kvs, KOk p.1 ∧ VOk p.2
def NoDic (K : PySem.W.Frag) (H : Hp) (v : V) : Prop := ∃ t, TyX K H v t ∧ PySem.W.kitOne K t (.type "dict") = some false
def spAmts (K : PySem.W.Frag) : Sp := fun vs H Q _ => ∃ v, vs = [v] ∧ ((NoDic K H v ∧ Q (.bl false) H) ∨ ∃ d kvs, v = .ref d ∧ Rd H d (.dK kvs) ∧ KvOk kvs ∧ ∀ H', Same H H' → Q (.bl (amts kvs)) H')
theorem noStr_int (K : PySem.W.Frag) (H : Hp) (i : Int) : NoStr K H (.int i) := ⟨_, .base (.int i), kit_ty (by decide +kernel)⟩
theorem isWord_sp {K : PySem.W.Frag} {H : Hp} {Q : VK} {E : XK} {k : Key} (h : KOk k) (q : Q (.bl (okKey k)) H) : spIsWord K [kV k] H Q E := by
  cases k with
  | inl i => exact ⟨_, rfl, .inr ⟨noStr_int K H i, q⟩⟩
  | inr s => exact ⟨_, rfl, .inl ⟨s, rfl, h, q⟩⟩
theorem isInt_sp {K : PySem.W.Frag} {H : Hp} {Q : VK} {E : XK} {v : V} (h : VOk v) (q : Q (.bl (okAmt v)) H) : spIsInt K [v, .int 0] H Q E := by
  cases v with
  | non => exact ⟨_, _, rfl, .inr (.inr ⟨⟨_, .base .non, kit_ty (by decide +kernel)⟩, q⟩)⟩
  | bl b => exact ⟨_, _, rfl, .inr (.inl ⟨⟨b, rfl⟩, q⟩)⟩
  | int n => exact ⟨_, _, rfl, .inl ⟨n, rfl, q⟩⟩
  | str s => exact ⟨_, _, rfl, .inr (.inr ⟨⟨_, .base (.str s), kit_ty (by decide +kernel)⟩, q⟩)⟩
  | byt b => exact False.elim h
  | flt b => exact False.elim h
  | ref a => exact False.elim h
  | ty n => exact False.elim h
def amtAt (kvs : List (Key × V)) (i : Nat) : Bool := match kvs[i]? with
  | some x => okKey x.1 && okAmt x.2
  | none => true
theorem amtAt_eq {kvs : List (Key × V)} {i : Nat} {k : Key} {v : V} (h : kvs[i]? = some (k, v)) : amtAt kvs i = (okKey k && okAmt v) := by
  unfold amtAt
  rw [h]
theorem all_amts (kvs : List (Key × V)) : ((List.range kvs.length).map (amtAt kvs)).all id = amts kvs := by
  have e : (List.range kvs.length).map (amtAt kvs) = kvs.map fun p => okKey p.1 && okAmt p.2 := by
    refine List.ext_getElem? fun i => ?_
    rw [List.getElem?_map, List.getElem?_map]
    by_cases h : i < kvs.length
    · rw [List.getElem?_range h, List.getElem?_eq_getElem h]
      show some (amtAt kvs i) = some _
      rw [amtAt_eq (List.getElem?_eq_getElem h)]
      rfl
    · rw [List.getElem?_eq_none (by rw [List.length_range]; omega), List.getElem?_eq_none (by omega)]
      rfl
  rw [e, List.all_map]
  rfl
abbrev N_are_amounts : List Str := ["thing", "name"]
theorem sc_are_amounts : FnScope N_are_amounts ["thing"] (defScope S_are_amounts) := ⟨rfl, rfl, rfl, by decide +kernel, rfl, by decide +kernel, by decide +kernel⟩
section
variable {P : Program} {w : World} {K : PySem.W.Frag} {mg : Str → Option Value} {base : Heap}
theorem ok_are_amounts (T : Tx K mg) : FnOk P w K mg base CX0 2 (A_are_amounts K) (D_are_amounts K) ["thing"] (spAmts K) := by
  refine T.F_are_amounts.ok sc_are_amounts (fun vs H Q E h => ?_) (fun cdv A outer s H vs Q E hr h => ?_)
  · obtain ⟨v, rfl, _⟩ := h
    rfl
  · obtain ⟨v, rfl, h⟩ := h
    have hu : (A.deeper (envOfC "are_amounts" (defScope S_are_amounts) s.heap.objs.size (A_are_amounts K) cdv)).units + 1 < cLine := by have := hr.units; omega
    refine ⟨_, PSs.nox (pss_one (ps_ret (pe_and (pe_callB call_isi (by rfl) T.z_isinstance (by decide +kernel) (pa_cons (pv 0) (pa_cons (pe_bltn (v := .ty "dict") rfl T.z_dict (by decide +kernel) rfl) pa_nil))) (pe_one (pe_lockR (pe_callB (cr_all rfl) (by rfl) T.z_all (by decide +kernel) (pa_cons (pe_lc (own := [("name", 1)]) rfl sc_are_amounts.nd (pi_keys (pv 0)) (blkOk_by (N := N_are_amounts) (sc := defScope S_are_amounts) (by decide +kernel)) (fun _ _ _ _ _ => (pg_name (i := 1) sc_are_amounts.nd rfl (by first | exact Or.inl rfl | exact Or.inr rfl))) (fun _ _ _ _ _ => pts_nil) (fun _ _ _ _ _ => (pe_and (pe_call (ok_is_word T) (hr.mono (by decide)) rfl T.m_is_word T.F_is_word.kp (bd_is_word T) .nil pass0 (pa_cons (pv 1) pa_nil)) (pe_one (pe_call (ok_is_integer T) (hr.mono (by decide)) rfl T.m_is_integer T.F_is_integer.kp (bd1_is_integer T).choose_spec.2 (bd1_is_integer T).choose_spec.1 pass0 (pa_cons (pe_dget hu (pv 0) (pv 1) (fun _ _ => rfl)) pa_nil)))))) pa_nil))))))), ?_⟩
    rcases h with ⟨⟨t, ty, hk⟩, q⟩ | ⟨d, kvs, rfl, hd, ⟨hn, nd, ok⟩, q⟩
    · refine ⟨_, rfl, _, _, _, _, false, rfl, .ty "dict", ty, hk, _, rfl, ?_⟩
      exact iteF q
    · have ty : TyX K H (.ref d) (.type "dict") := by
        rcases hd with hd | ⟨o, hd⟩
        · exact .base (.dK hd)
        · exact .fDict hd
      refine ⟨_, rfl, _, _, _, _, true, rfl, .ty "dict", ty, kit_ty (by decide +kernel), _, rfl, ?_⟩
      refine iteT (lockR_of hd trivial (fun o H1 Q1 h1 q1 => ?_) q)
      refine ⟨_, rfl, d, o, rfl, .inl ⟨kvs, h1, fun D hD => lc_gw walk_keys (fun _ => true) (fun i y _ => y = V.bl (amtAt kvs i)) (fun _ _ _ _ _ h => h) (same_refl H1) hD hn (fun H' s' => s' _ _ h1) ?lcs ?lcd⟩⟩
      case lcs =>
        rintro i x F H2 H3 Qn Qs hi gw ⟨rfl, k, v, e, rfl⟩ qn qs
        have hkv := ok _ (List.mem_of_getElem? e)
        refine ⟨rfl, yes_then ?_⟩
        have fin : ∀ b, (okKey k && okAmt v) = b → Qn (.bl b) H3 := fun b eb => qn rfl _ F H3 (Gw.refl gw.fh) (by rw [amtAt_eq e, eb])
        refine ⟨_, rfl, r_nil ?_⟩
        refine isWord_sp hkv.1 ⟨_, rfl, ?_⟩
        cases ek : okKey k with
        | false => exact iteF (fin false (by rw [ek]; rfl))
        | true =>
          refine iteT ⟨_, rfl, _, rfl, d, v, rfl, .inl ⟨kvs, k, .inr ⟨o, gw.hh _ _ h1⟩, rfl, (valV_at nd e).symm⟩, r_nil ?_⟩
          exact isInt_sp hkv.2 (fin _ (by rw [ek]; rfl))
      case lcd =>
        intro ys F H' gw fD hH pr
        rw [filter_true] at pr
        have e := paired_eq pr
        refine ⟨D, (List.range kvs.length).map (amtAt kvs), rfl, SqL.of (by rw [hH, e, List.map_map]; rfl), ?_⟩
        rw [all_amts]
        exact q1 _ gw.hh
theorem bd_are_amounts {K : PySem.W.Frag} {mg : Str → Option Value} (T : Tx K mg) : Binds K (D_are_amounts K) ["thing"] [] := T.F_are_amounts.bindsN fun _ _ _ _ _ _ us hl => match us, hl with | [_], _ => rfl
end
/-- InvalidSizes(v) goes out -/
def Rz (K : PySem.W.Frag) (v : V) (H : Hp) (E : XK) : Prop := ∀ d H', Same H H' → H d = none → H' d = some (.xd [("value", v)]) → E (.ref (CI K)) (some d) H'
/-! ### check_sizes -/
def NoSz (K : PySem.W.Frag) (H : Hp) (v : V) : Prop := ∃ T, TyX K H v (.type T) ∧ T ∈ ["NoneType", "int", "str", "dict", "list", "tuple", "bool"]
def spChk (K : PySem.W.Frag) : Sp := fun vs H Q E => ∃ v, vs = [v] ∧ ((∃ a dx fs, v = .ref a ∧ H a = some (.ins (CS K) dx fs) ∧ Q .non H) ∨ (NoSz K H v ∧ Rz K v H E))
abbrev N_check_sizes : List Str := ["thing"]
theorem sc_check_sizes : FnScope N_check_sizes ["thing"] (defScope S_check_sizes) := ⟨rfl, rfl, rfl, by decide +kernel, rfl, by decide +kernel, by decide +kernel⟩
section
variable {P : Program} {w : World} {K : PySem.W.Frag} {mg : Str → Option Value} {base : Heap}
theorem ok_check_sizes (T : Tx K mg) : FnOk P w K mg base (CX P w) 3 (A_check_sizes K) (D_check_sizes K) ["thing"] (spChk K) := by
  refine T.F_check_sizes.ok sc_check_sizes (fun vs H Q E h => ?_) (fun cdv A outer s H vs Q E hr h => ?_)
  · obtain ⟨v, rfl, _⟩ := h
    rfl
  · obtain ⟨v, rfl, h⟩ := h
    refine ⟨_, (pss_one (ps_if (pt_not (pt_val (pe_callB call_isi (by rfl) T.z_isinstance (by decide +kernel) (pa_cons (pv 0) (pa_cons (pe_glob (v := .ref _) rfl T.m_Sizes rfl) pa_nil))))) (pss_one (ps_raise rfl (takes_of rfl rfl rfl rfl) (pm_InvalidSizes T (hr.mono (by decide)) rfl (pv 0)))) pss_nil)), ?_⟩
    rcases h with ⟨a, dx, fs, rfl, ha, q⟩ | ⟨⟨T0, ty, hT⟩, hz⟩
    · refine ⟨_, rfl, _, _, _, _, true, rfl, .own _, tyIns T.cl_Sizes T.kc_Sizes ha, kit_self, _, rfl, ?_⟩
      exact iteF q
    · refine ⟨_, rfl, _, _, _, _, false, rfl, .own _, ty, kit_no T.ct_Sizes hT, _, rfl, ?_⟩
      refine iteT ?_
      exact ⟨_, rfl, fun d hd => hz d _ (same_new hd) hd upd_same⟩
theorem bd_check_sizes {K : PySem.W.Frag} {mg : Str → Option Value} (T : Tx K mg) : Binds K (D_check_sizes K) ["thing"] [] := T.F_check_sizes.bindsN fun _ _ _ _ _ _ us hl => match us, hl with | [_], _ => rfl
end
/-! ### Sizes -/
/-- what gives no sizes -/
def NoAmt (K : PySem.W.Frag) (H : Hp) (v : V) : Prop := NoDic K H v ∨ ∃ d kvs, v = .ref d ∧ Rd H d (.dK kvs) ∧ KvOk kvs ∧ amts kvs = false
def spSzInit (K : PySem.W.Frag) : Sp := fun vs H Q E => ∃ x dx v, vs = [.ref x, v] ∧ H x = some (.ins (CS K) dx []) ∧ ((NoAmt K H v ∧ Rz K v H E) ∨ ∃ d src, v = .ref d ∧ Rd H d (.dK (kvm src)) ∧ SrcOk src ∧
  ∀ m H' dk od, (∀ b o, b ≠ x → H b = some o → H' b = some o) → H' x = some (.ins (CS K) dx [("kept", .ref dk)]) → H' dk = some (.frz od (.dK (kvm m))) → H dk = none → Made src m → Q .non H')
theorem kvm_ok {m : List (Str × Int)} (h : SrcOk m) : KvOk (kvm m) := by
  obtain ⟨nd, l, q⟩ := h
  refine ⟨by unfold kvm; rw [List.length_map]; omega, kvm_nodup nd, fun p hp => ?_⟩
  obtain ⟨r, hr, rfl⟩ := List.mem_map.mp hp
  exact ⟨(q r hr).2.1, trivial⟩
theorem kvm_amts {m : List (Str × Int)} (h : SrcOk m) : amts (kvm m) = true := by
  refine List.all_eq_true.mpr fun p hp => ?_
  obtain ⟨r, hr, rfl⟩ := List.mem_map.mp hp
  obtain ⟨h1, _, h2⟩ := h.2.2 r hr
  show (isWord r.1 && decide (0 ≤ r.2)) = true
  rw [h1, decide_eq_true h2]
  rfl
theorem dget_kvm {H : Hp} {d : Addr} {m : List (Str × Int)} {y : Str} (h : Rd H d (.dK (kvm m))) (hy : y ∈ m.map (·.1)) : DGet H d (.str y) (some (.int (val m y))) :=
  .inl ⟨_, Sum.inr y, h, rfl, by rw [valV_kvm, lk_in hy]; rfl⟩
/-- filtered turns, as what they stand for -/
theorem range_filter {α β : Type} (ys : List α) (p : α → Bool) (f : Nat → Bool) (g : Nat → β) (h : α → β) (hf : ∀ i y, ys[i]? = some y → f i = p y) (hg : ∀ i y, ys[i]? = some y → g i = h y) :
    ((List.range ys.length).filter f).map g = (ys.filter p).map h := by
  suffices q : ∀ n, n ≤ ys.length → ((List.range n).filter f).map g = ((ys.take n).filter p).map h by
    have := q ys.length (Nat.le_refl _)
    rwa [List.take_length] at this
  intro n
  induction n with
  | zero => intro _; simp
  | succ n ih =>
    intro hn
    have hy : ys[n]? = some ys[n] := List.getElem?_eq_getElem hn
    rw [List.range_succ, List.filter_append, List.map_append, ih (by omega), List.take_succ, hy, List.filter_append, List.map_append]
    congr 1
    have e := hf n _ hy
    by_cases z : f n = true
    · have z2 : p ys[n] = true := by rw [← e]; exact z
      simp [z, z2, hg n _ hy]
    · have z2 : ¬ p ys[n] = true := by rw [← e]; exact z
      simp [z, z2]
abbrev N_Sizes_init : List Str := ["self", "amounts", "name"]
theorem sc_Sizes_init : FnScope N_Sizes_init ["self", "amounts"] (defScope S_Sizes_init) := ⟨rfl, rfl, rfl, by decide +kernel, rfl, by decide +kernel, by decide +kernel⟩
section
variable {P : Program} {w : World} {K : PySem.W.Frag} {mg : Str → Option Value} {base : Heap}
theorem ok_Sizes_init (T : Tx K mg) : FnOk P w K mg base (CX P w) 3 (A_Sizes_init K) (D_Sizes_init K) ["self", "amounts"] (spSzInit K) := by
  refine T.F_Sizes_init.ok sc_Sizes_init (fun vs H Q E h => ?_) (fun cdv A outer s H vs Q E hr h => ?_)
  · obtain ⟨x, dx, v, rfl, _⟩ := h
    rfl
  · obtain ⟨x, dx, v, rfl, hx, h⟩ := h
    have hu : (A.deeper (envOfC "Sizes.__init__" (defScope S_Sizes_init) s.heap.objs.size (A_Sizes_init K) cdv)).units + 1 < cLine := by have := hr.units; omega
    refine ⟨_, (pss_cons (ps_if (pt_not (pt_val (pe_call (ok_are_amounts T) (hr.mono (by decide)) rfl T.m_are_amounts T.F_are_amounts.kp (bd_are_amounts T) .nil pass0 (pa_cons (pv 1) pa_nil)))) (pss_one (ps_raise rfl (takes_of rfl rfl rfl rfl) (pm_InvalidSizes T (hr.mono (by decide)) rfl (pv 1)))) pss_nil) (pss_one (ps_frz (ps_fld (pv 0) (pe_dc (own := [("name", 2)]) rfl sc_Sizes_init.nd (pi_list (pe_callB (call_sortedD rfl) (by rfl) T.z_sorted (by decide +kernel) (pa_cons (pv 1) pa_nil))) (blkOk_by (N := N_Sizes_init) (sc := defScope S_Sizes_init) (by decide +kernel)) (fun _ _ _ _ _ => (pg_name (i := 2) sc_Sizes_init.nd rfl (by first | exact Or.inl rfl | exact Or.inr rfl))) (fun _ _ _ _ _ => (pts_one (pt_cmpR op_gt (pe_dget hu (pv 1) (pv 2) (fun _ _ => rfl)) pe_int (nomark _)))) (fun _ _ _ _ _ => (pv 2)) (fun _ _ _ _ _ => (pe_dget hu (pv 1) (pv 2) (fun _ _ => rfl)))) rfl)))), ?_⟩
    rcases h with ⟨no, hz⟩ | ⟨d, src, rfl, hd, ok, q⟩
    · have go : ∀ b H', b = false → Same H H' → (fun v H1 => ∃ c, v = V.bl c ∧ True) (V.bl b) H' := fun _ _ _ _ => ⟨_, rfl, trivial⟩
      refine ⟨_, rfl, r_nil ?_⟩
      rcases no with no | ⟨d, kvs, rfl, hd, hk, hb⟩
      · refine ⟨_, rfl, .inl ⟨no, _, rfl, iteT ⟨_, rfl, fun d hd => hz d _ (same_new hd) hd upd_same⟩⟩⟩
      · refine ⟨_, rfl, .inr ⟨d, kvs, rfl, hd, hk, fun H1 s1 => ⟨_, rfl, ?_⟩⟩⟩
        rw [hb]
        exact iteT ⟨_, rfl, fun d hd => hz d _ (same_trans s1 (same_new hd)) (same_off s1 hd) upd_same⟩
    · refine ⟨_, rfl, r_nil ⟨_, rfl, .inr ⟨d, _, rfl, hd, kvm_ok ok, fun H1 s1 => ⟨_, rfl, ?_⟩⟩⟩⟩
      rw [kvm_amts ok]
      refine iteF ?_
      refine ⟨_, rfl, d, kvm src, src.map (·.1), rfl, rd_same s1 hd, kvm_keys src, by rw [List.length_map]; exact ok.2.1, fun ys p hp hs hN => ?_⟩
      have hl : ys.length = src.length := by rw [hp.length_eq, List.length_map]
      have hin : ∀ {i : Nat} {y : Str}, ys[i]? = some y → y ∈ src.map (·.1) := fun e => hp.mem_iff.mp (List.mem_of_getElem? e)
      have hD2 : Same H1 (upd H1 p (.lst (ys.map V.str))) := same_new hN
      refine ⟨p, rfl, ⟨_, SqL.of upd_same⟩, fun D hD => dc_gw (walk_list (xs := ys.map V.str)) (fun i => decide (0 < val src (ys.getD i ""))) (fun i => Sum.inr (ys.getD i "")) (fun i y _ => y = V.int (val src (ys.getD i ""))) (fun _ _ _ _ _ h => h) (same_refl _) hD (by rw [List.length_map, hl]; have := ok.2.1; omega) (fun H' s' => SqL.of (s' _ _ upd_same)) ?lcs ?lcd⟩
      case lcs =>
        rintro i xv F H2 H3 Qn Qs hi gw ⟨rfl, e⟩ qn qs
        obtain ⟨y, e1, rfl⟩ : ∃ y, ys[i]? = some y ∧ xv = V.str y := by
          rw [List.getElem?_map] at e
          cases e1 : ys[i]? with
          | none => rw [e1] at e; cases e
          | some y => rw [e1] at e; exact ⟨y, rfl, (Option.some.inj e).symm⟩
        have ey : ys.getD i "" = y := by rw [List.getD_eq_getElem?_getD, e1]; rfl
        rw [ey] at qn qs
        have dg := dget_kvm (rd_same (same_trans s1 (same_trans hD2 gw.hh)) hd) (hin e1)
        refine ⟨rfl, ?_⟩
        refine ⟨_, rfl, _, rfl, d, _, rfl, dg, _, _, rfl, rfl, _, rfl, ?_⟩
        cases ev : decide (0 < val src y) with
        | true => exact iteT ⟨_, rfl, _, rfl, _, rfl, d, _, rfl, dg, qn ev _ F H3 (Gw.refl gw.fh) rfl⟩
        | false => exact iteF (qs ev F H3 (Gw.refl gw.fh))
      case lcd =>
        intro zs F H' gw fD pr hH
        have ez := paired_eq (g := fun i => V.int (val src (ys.getD i ""))) pr
        have nd : ys.Nodup := hp.nodup_iff.mpr ok.1
        have em : puts ((((List.range (ys.map V.str).length).filter fun i => decide (0 < val src (ys.getD i ""))).map fun i => (Sum.inr (ys.getD i "") : Key)).zip zs) = kvm ((ys.filter fun y => decide (0 < val src y)).map fun y => (y, val src y)) := by
          have gd : ∀ i y, ys[i]? = some y → ys.getD i "" = y := fun i y e1 => by rw [List.getD_eq_getElem?_getD, e1]; rfl
          rw [ez, List.zip_map', List.length_map, range_filter ys (fun y => decide (0 < val src y)) _ _ (fun y => ((Sum.inr y : Key), V.int (val src y))) (fun i y e1 => by rw [gd i y e1]) (fun i y e1 => by rw [gd i y e1])]
          have e3 : (ys.filter fun y => decide (0 < val src y)).map (fun y => ((Sum.inr y : Key), V.int (val src y))) = kvm ((ys.filter fun y => decide (0 < val src y)).map fun y => (y, val src y)) := by
            unfold kvm
            rw [List.map_map]
            rfl
          rw [e3]
          refine puts_nodup (kvm_nodup ?_)
          rw [List.map_map]
          have e4 : (ys.filter fun y => decide (0 < val src y)).map ((fun p : Str × Int => p.1) ∘ fun y => (y, val src y)) = ys.filter fun y => decide (0 < val src y) := by
            show List.map id _ = _
            rw [List.map_id]
          rw [e4]
          exact List.Pairwise.filter _ nd
        rw [em] at hH
        have sH : Same H H' := same_trans s1 (same_trans hD2 gw.hh)
        have hx' := sH _ _ hx
        have ne : D ≠ x := fun z => by
          rw [z, hx'] at hH
          cases hH
        refine ⟨_, rfl, x, _, _, [], rfl, hx', T.cl_Sizes, T.na_Sizes_kept, by decide, D, .dK _, by rw [upd_ne ne]; exact hH, trivial, fun od => ?_⟩
        refine q _ _ D od (fun b o hb e => ?_) (by rw [upd_ne ne.symm, upd_same]; rfl) upd_same (same_off (same_trans s1 hD2) hD) ⟨ys, hp, hs, rfl⟩
        have hbD : b ≠ D := ne_of_none e (same_off (same_trans s1 hD2) hD)
        rw [upd_ne hbD, upd_ne hb]
        exact sH _ _ e
theorem bd_Sizes_init {K : PySem.W.Frag} {mg : Str → Option Value} (T : Tx K mg) : Binds K (D_Sizes_init K) ["self", "amounts"] [] := T.F_Sizes_init.bindsN fun _ _ _ _ _ _ us hl => match us, hl with | [_, _], _ => rfl
end

end Lp

set_option Elab.async false
set_option linter.all false
set_option maxRecDepth 100000
set_option maxHeartbeats 4000000
namespace Lp
open PySem PySem.Spec PyProof.Rows L2
/-! ### Sizes objects -/
/-- an object of the class Sizes that keeps m -/
def SzAt (K : PySem.W.Frag) (F : Hp) (a : Addr) (m : List (Str × Int)) : Prop := ∃ dx dk od, F a = some (.ins (CS K) dx [("kept", .ref dk)]) ∧ F dx = some (.own a) ∧ F dk = some (.frz od (.dK (kvm m)))
theorem SzAt.same {K : PySem.W.Frag} {F F' : Hp} {a : Addr} {m : List (Str × Int)} (s : Same F F') (h : SzAt K F a m) : SzAt K F' a m := by
  obtain ⟨dx, dk, od, h1, h2, h3⟩ := h
  exact ⟨dx, dk, od, s _ _ h1, s _ _ h2, s _ _ h3⟩
theorem Gw.more {F H F' H' H2 : Hp} (g : Gw F H F' H') (s : Same H' H2) : Gw F H F' H2 := ⟨g.ff, same_trans g.fh s, same_trans g.hh s, g.new⟩
theorem fnIn_of {K : PySem.W.Frag} {x qual : Str} {params : Arguments} {body : List Stmt} {scope : Scope} {dvs : List V} {kws : List (Str × V)} {f : Addr} {fd : FuncData} (F : FunD K x qual params body scope dvs kws f fd) : PySem.W.fnIn K f = true := by
  obtain ⟨oc, od, dV, kV, doc, pm, an, cdv, ct, osl, rfl, lk, _⟩ := F.ex
  unfold PySem.W.fnIn
  rw [lk]
/-- Sizes(d) -/
theorem mk_sz {K : PySem.W.Frag} {F H : Hp} (s : Same F H) {d : Addr} {src : List (Str × Int)} (hd : Rd H d (.dK (kvm src))) (ok : SrcOk src) {Q : Addr → Hp → Prop} {E : XK} (q : ∀ x F' H', Gw F H F' H' → SzAt K F' x (canon src) → Q x H') :
    ∀ x dx, H x = none → H dx = none → dx ≠ x → spSzInit K [.ref x, .ref d] (upd (upd H dx (.own x)) x (.ins (CS K) dx [])) (fun v H2 => v = .non ∧ Q x H2) E := by
  intro x dx hx hdx ne
  have s1 : Same H (upd (upd H dx (.own x)) x (.ins (CS K) dx [])) := same_trans (same_new hdx) (same_new (by rw [upd_ne ne.symm]; exact hx))
  refine ⟨x, dx, .ref d, rfl, upd_same, .inr ⟨d, src, rfl, rd_same s1 hd, ok, fun m H' dk od keep hx' hk hn made => ⟨rfl, ?_⟩⟩⟩
  rw [made_eq made] at hk
  have n1 : dk ≠ x := fun e => by rw [e, upd_same] at hn; cases hn
  have n2 : dk ≠ dx := fun e => by rw [e, upd_ne ne, upd_same] at hn; cases hn
  have hdk : H dk = none := by rw [upd_ne n1, upd_ne n2] at hn; exact hn
  have hdx' : H' dx = some (.own x) := keep _ _ ne (by rw [upd_ne ne]; exact upd_same)
  have g : Gw F H F H' := ⟨same_refl F, fun b o e => keep b o (ne_of_none (s _ _ e) hx) (s1 _ _ (s _ _ e)), fun b o e => keep b o (ne_of_none e hx) (s1 _ _ e), fun _ e _ => e⟩
  have g1 := g.freeze hdx (same_off s hdx) hdx'
  have g2 := g1.freeze hx (by rw [upd_ne ne.symm]; exact same_off s hx) hx'
  have g3 := g2.freeze hdk (by rw [upd_ne n1, upd_ne n2]; exact same_off s hdk) hk
  refine q x _ H' g3 ⟨dx, dk, od, ?_, ?_, upd_same⟩
  · rw [upd_ne n1.symm, upd_same]
  · rw [upd_ne n2.symm, upd_ne ne, upd_same]
theorem dget_val {H : Hp} {d : Addr} {m : List (Str × Int)} (h : Rd H d (.dK (kvm m))) (y : Str) : ∃ o, DGet H d (.str y) o ∧ o.getD (.int 0) = .int (val m y) ∧ o.isSome = decide (y ∈ m.map (·.1)) := by
  refine ⟨(lk m y).map V.int, .inl ⟨_, Sum.inr y, h, rfl, by rw [valV_kvm]⟩, ?_, ?_⟩
  · unfold val
    cases lk m y <;> rfl
  · by_cases e : y ∈ m.map (·.1)
    · rw [lk_in e, decide_eq_true e]; rfl
    · rw [lk_off e, decide_eq_false e]; rfl
/-! ### reading -/
def spSzGet (K : PySem.W.Frag) : Sp := fun vs H Q _ => ∃ a m v, vs = [.ref a, v] ∧ SzAt K H a m ∧ ((∃ y, v = .str y ∧ Q (.int (val m y)) H) ∨ (NoStr K H v ∧ Q (.int 0) H))
abbrev N_Sizes_getitem : List Str := ["self", "name"]
theorem sc_Sizes_getitem : FnScope N_Sizes_getitem ["self", "name"] (defScope S_Sizes_getitem) := ⟨rfl, rfl, rfl, by decide +kernel, rfl, by decide +kernel, by decide +kernel⟩
abbrev N_Sizes_contains : List Str := ["self", "name"]
theorem sc_Sizes_contains : FnScope N_Sizes_contains ["self", "name"] (defScope S_Sizes_contains) := ⟨rfl, rfl, rfl, by decide +kernel, rfl, by decide +kernel, by decide +kernel⟩
abbrev N_Sizes_len : List Str := ["self"]
theorem sc_Sizes_len : FnScope N_Sizes_len ["self"] (defScope S_Sizes_len) := ⟨rfl, rfl, rfl, by decide +kernel, rfl, by decide +kernel, by decide +kernel⟩
abbrev N_Sizes_eq : List Str := ["self", "other"]
theorem sc_Sizes_eq : FnScope N_Sizes_eq ["self", "other"] (defScope S_Sizes_eq) := ⟨rfl, rfl, rfl, by decide +kernel, rfl, by decide +kernel, by decide +kernel⟩
abbrev N_Sizes_names : List Str := ["self"]
theorem sc_Sizes_names : FnScope N_Sizes_names ["self"] (defScope S_Sizes_names) := ⟨rfl, rfl, rfl, by decide +kernel, rfl, by decide +kernel, by decide +kernel⟩
abbrev N_Sizes_total : List Str := ["self"]
theorem sc_Sizes_total : FnScope N_Sizes_total ["self"] (defScope S_Sizes_total) := ⟨rfl, rfl, rfl, by decide +kernel, rfl, by decide +kernel, by decide +kernel⟩
abbrev N_Sizes_by_name : List Str := ["self"]
theorem sc_Sizes_by_name : FnScope N_Sizes_by_name ["self"] (defScope S_Sizes_by_name) := ⟨rfl, rfl, rfl, by decide +kernel, rfl, by decide +kernel, by decide +kernel⟩
section
variable {P : Program} {w : World} {K : PySem.W.Frag} {mg : Str → Option Value} {base : Heap}
theorem ok_Sizes_getitem (T : Tx K mg) : FnOk P w K mg base CX0 1 (A_Sizes_getitem K) (D_Sizes_getitem K) ["self", "name"] (spSzGet K) := by
  refine T.F_Sizes_getitem.ok sc_Sizes_getitem (fun vs H Q E h => ?_) (fun cdv A outer s H vs Q E hr h => ?_)
  · obtain ⟨a, m, v, rfl, _⟩ := h
    rfl
  · obtain ⟨a, m, v, rfl, ⟨dx, dk, od, h1, h2, h3⟩, h⟩ := h
    have hu : (A.deeper (envOfC "Sizes.__getitem__" (defScope S_Sizes_getitem) s.heap.objs.size (A_Sizes_getitem K) cdv)).units + 1 < cLine := by have := hr.units; omega
    refine ⟨_, PSs.nox (pss_one (ps_ret (pe_ifExp (pt_val (pe_callB call_isi (by rfl) T.z_isinstance (by decide +kernel) (pa_cons (pv 1) (pa_cons (pe_bltn (v := .ty "str") rfl T.z_str (by decide +kernel) rfl) pa_nil)))) (pe_dget2 hu (pe_fld (pv 0) rfl) (pv 1) pe_int ⟨rfl, rfl, rfl, rfl⟩) pe_int))), ?_⟩
    rcases h with ⟨y, rfl, q⟩ | ⟨⟨t, ty, hk⟩, q⟩
    · refine ⟨_, rfl, _, _, _, _, true, rfl, .ty "str", .base (.str y), kit_ty (by decide +kernel), _, rfl, ?_⟩
      refine iteT ?_
      obtain ⟨o, g, e, _⟩ := dget_val (H := H) (.inr ⟨od, h3⟩) y
      refine ⟨_, rfl, a, _, dx, _, _, rfl, h1, T.cl_Sizes, T.na_Sizes_kept, rfl, dk, rfl, .inl ⟨_, .inr ⟨od, h3⟩⟩, _, rfl, o, g, ?_⟩
      rw [e]
      exact q
    · refine ⟨_, rfl, _, _, _, _, false, rfl, .ty "str", ty, hk, _, rfl, ?_⟩
      exact iteF q
theorem bd_Sizes_getitem {K : PySem.W.Frag} {mg : Str → Option Value} (T : Tx K mg) : Binds K (D_Sizes_getitem K) ["self", "name"] [] := T.F_Sizes_getitem.bindsN fun _ _ _ _ _ _ us hl => match us, hl with | [_, _], _ => rfl
def spSzIn (K : PySem.W.Frag) : Sp := fun vs H Q _ => ∃ a m v, vs = [.ref a, v] ∧ SzAt K H a m ∧ ((∃ y, v = .str y ∧ Q (.bl (decide (y ∈ m.map (·.1)))) H) ∨ (NoStr K H v ∧ Q (.bl false) H))
theorem ok_Sizes_contains (T : Tx K mg) : FnOk P w K mg base CX0 1 (A_Sizes_contains K) (D_Sizes_contains K) ["self", "name"] (spSzIn K) := by
  refine T.F_Sizes_contains.ok sc_Sizes_contains (fun vs H Q E h => ?_) (fun cdv A outer s H vs Q E hr h => ?_)
  · obtain ⟨a, m, v, rfl, _⟩ := h
    rfl
  · obtain ⟨a, m, v, rfl, ⟨dx, dk, od, h1, h2, h3⟩, h⟩ := h
    have hu : (A.deeper (envOfC "Sizes.__contains__" (defScope S_Sizes_contains) s.heap.objs.size (A_Sizes_contains K) cdv)).units + 1 < cLine := by have := hr.units; omega
    refine ⟨_, PSs.nox (pss_one (ps_ret (pe_and (pe_callB call_isi (by rfl) T.z_isinstance (by decide +kernel) (pa_cons (pv 1) (pa_cons (pe_bltn (v := .ty "str") rfl T.z_str (by decide +kernel) rfl) pa_nil))) (pe_one (pe_cmp (pc_din hu (pv 1) (pe_fld (pv 0) rfl))))))), ?_⟩
    rcases h with ⟨y, rfl, q⟩ | ⟨⟨t, ty, hk⟩, q⟩
    · refine ⟨_, rfl, _, _, _, _, true, rfl, .ty "str", .base (.str y), kit_ty (by decide +kernel), _, rfl, ?_⟩
      refine iteT ?_
      obtain ⟨o, g, _, e⟩ := dget_val (H := H) (.inr ⟨od, h3⟩) y
      refine ⟨_, rfl, _, rfl, a, _, dx, _, _, rfl, h1, T.cl_Sizes, T.na_Sizes_kept, rfl, dk, o, rfl, g, ?_⟩
      rw [e]
      exact q
    · refine ⟨_, rfl, _, _, _, _, false, rfl, .ty "str", ty, hk, _, rfl, ?_⟩
      exact iteF q
theorem bd_Sizes_contains {K : PySem.W.Frag} {mg : Str → Option Value} (T : Tx K mg) : Binds K (D_Sizes_contains K) ["self", "name"] [] := T.F_Sizes_contains.bindsN fun _ _ _ _ _ _ us hl => match us, hl with | [_, _], _ => rfl
def spSzLen (K : PySem.W.Frag) : Sp := fun vs H Q _ => ∃ a m, vs = [.ref a] ∧ SzAt K H a m ∧ Q (.int m.length) H
theorem ok_Sizes_len (T : Tx K mg) : FnOk P w K mg base CX0 1 (A_Sizes_len K) (D_Sizes_len K) ["self"] (spSzLen K) := by
  refine T.F_Sizes_len.ok sc_Sizes_len (fun vs H Q E h => ?_) (fun cdv A outer s H vs Q E hr h => ?_)
  · obtain ⟨a, m, rfl, _⟩ := h
    rfl
  · obtain ⟨a, m, rfl, ⟨dx, dk, od, h1, h2, h3⟩, q⟩ := h
    refine ⟨_, PSs.nox (pss_one (ps_ret (pe_callB call_lenR (by rfl) T.z_len (by decide +kernel) (pa_cons (pe_fld (pv 0) rfl) pa_nil)))), ?_⟩
    refine ⟨_, rfl, a, _, dx, _, _, rfl, h1, T.cl_Sizes, T.na_Sizes_kept, rfl, dk, kvm m, rfl, .inr ⟨od, h3⟩, ?_⟩
    rw [kvm_len]
    exact q
theorem bd_Sizes_len {K : PySem.W.Frag} {mg : Str → Option Value} (T : Tx K mg) : Binds K (D_Sizes_len K) ["self"] [] := T.F_Sizes_len.bindsN fun _ _ _ _ _ _ us hl => match us, hl with | [_], _ => rfl
def spSzEq (K : PySem.W.Frag) : Sp := fun vs H Q _ => ∃ a m v, vs = [.ref a, v] ∧ SzAt K H a m ∧ ((∃ b m2, v = .ref b ∧ SzAt K H b m2 ∧ Q (.bl (eqDI (kvm m) (kvm m2))) H) ∨ (NoSz K H v ∧ Q (.bl false) H))
theorem ok_Sizes_eq (T : Tx K mg) : FnOk P w K mg base CX0 1 (A_Sizes_eq K) (D_Sizes_eq K) ["self", "other"] (spSzEq K) := by
  refine T.F_Sizes_eq.ok sc_Sizes_eq (fun vs H Q E h => ?_) (fun cdv A outer s H vs Q E hr h => ?_)
  · obtain ⟨a, m, v, rfl, _⟩ := h
    rfl
  · obtain ⟨a, m, v, rfl, ⟨dx, dk, od, h1, h2, h3⟩, h⟩ := h
    have hu : (A.deeper (envOfC "Sizes.__eq__" (defScope S_Sizes_eq) s.heap.objs.size (A_Sizes_eq K) cdv)).units < cLine := by have := hr.units; omega
    refine ⟨_, PSs.nox (pss_one (ps_ret (pe_and (pe_callB call_isi (by rfl) T.z_isinstance (by decide +kernel) (pa_cons (pv 1) (pa_cons (pe_glob (v := .ref _) rfl T.m_Sizes rfl) pa_nil))) (pe_one (pe_cmpR (op_eqDI hu) (pe_fld (pv 0) rfl) (pe_fld (pv 1) rfl) (nomark _)))))), ?_⟩
    rcases h with ⟨b, m2, rfl, ⟨dx2, dk2, od2, g1, g2, g3⟩, q⟩ | ⟨⟨T0, ty, hT⟩, q⟩
    · refine ⟨_, rfl, _, _, _, _, true, rfl, .own _, tyIns T.cl_Sizes T.kc_Sizes g1, kit_self, _, rfl, ?_⟩
      refine iteT ?_
      refine ⟨_, rfl, a, _, dx, _, _, rfl, h1, T.cl_Sizes, T.na_Sizes_kept, rfl, _, rfl, b, _, dx2, _, _, rfl, g1, T.cl_Sizes, T.na_Sizes_kept, rfl, dk, dk2, kvm m, kvm m2, rfl, rfl, ⟨.inr ⟨od, h3⟩, kvm_int m⟩, ⟨.inr ⟨od2, g3⟩, kvm_int m2⟩, q⟩
    · refine ⟨_, rfl, _, _, _, _, false, rfl, .own _, ty, kit_no T.ct_Sizes hT, _, rfl, ?_⟩
      exact iteF q
theorem bd_Sizes_eq {K : PySem.W.Frag} {mg : Str → Option Value} (T : Tx K mg) : Binds K (D_Sizes_eq K) ["self", "other"] [] := T.F_Sizes_eq.bindsN fun _ _ _ _ _ _ us hl => match us, hl with | [_, _], _ => rfl
def spSzNames (K : PySem.W.Frag) : Sp := fun vs H Q E => ∃ a m, vs = [.ref a] ∧ SzAt K H a m ∧ ∀ p, H p = none → Q (.ref p) (upd H p (.lst ((m.map (·.1)).map V.str)))
theorem ok_Sizes_names (T : Tx K mg) : FnOk P w K mg base CX0 1 (A_Sizes_names K) (D_Sizes_names K) ["self"] (spSzNames K) := by
  refine T.F_Sizes_names.ok sc_Sizes_names (fun vs H Q E h => ?_) (fun cdv A outer s H vs Q E hr h => ?_)
  · obtain ⟨a, m, rfl, _⟩ := h
    rfl
  · obtain ⟨a, m, rfl, ⟨dx, dk, od, h1, h2, h3⟩, q⟩ := h
    refine ⟨_, PSs.nox (pss_one (ps_ret (pe_callTy (call_listD rfl) (by rfl) T.z_list (by decide +kernel) (pa_cons (pe_fld (pv 0) rfl) pa_nil)))), ?_⟩
    refine ⟨_, rfl, a, _, dx, _, _, rfl, h1, T.cl_Sizes, T.na_Sizes_kept, rfl, dk, kvm m, rfl, .inr ⟨od, h3⟩, ?_⟩
    rw [kvm_names]
    exact q
theorem bd_Sizes_names {K : PySem.W.Frag} {mg : Str → Option Value} (T : Tx K mg) : Binds K (D_Sizes_names K) ["self"] [] := T.F_Sizes_names.bindsN fun _ _ _ _ _ _ us hl => match us, hl with | [_], _ => rfl
def tot (m : List (Str × Int)) : Int := (m.map (·.2)).sum
def spSzTotal (K : PySem.W.Frag) : Sp := fun vs H Q E => ∃ a m, vs = [.ref a] ∧ SzAt K H a m ∧ ∀ H', Same H H' → Q (.int (tot m)) H'
theorem ok_Sizes_total (T : Tx K mg) : FnOk P w K mg base CX0 1 (A_Sizes_total K) (D_Sizes_total K) ["self"] (spSzTotal K) := by
  refine T.F_Sizes_total.ok sc_Sizes_total (fun vs H Q E h => ?_) (fun cdv A outer s H vs Q E hr h => ?_)
  · obtain ⟨a, m, rfl, _⟩ := h
    rfl
  · obtain ⟨a, m, rfl, ⟨dx, dk, od, h1, h2, h3⟩, q⟩ := h
    refine ⟨_, PSs.nox (pss_one (ps_ret (pe_callB (call_sumV rfl) (by rfl) T.z_sum (by decide +kernel) (pa_cons (pe_vals (pe_fld (pv 0) rfl)) pa_nil)))), ?_⟩
    refine ⟨_, rfl, a, _, dx, _, _, rfl, h1, T.cl_Sizes, T.na_Sizes_kept, rfl, dk, kvm m, rfl, .inr ⟨od, h3⟩, fun p hp => ?_⟩
    exact ⟨p, dk, kvm m, _, rfl, upd_same, .inr ⟨od, same_new hp _ _ h3⟩, kvm_vals m, q _ (same_new hp)⟩
theorem bd_Sizes_total {K : PySem.W.Frag} {mg : Str → Option Value} (T : Tx K mg) : Binds K (D_Sizes_total K) ["self"] [] := T.F_Sizes_total.bindsN fun _ _ _ _ _ _ us hl => match us, hl with | [_], _ => rfl
def spByName (K : PySem.W.Frag) : Sp := fun vs H Q E => ∃ a m, vs = [.ref a] ∧ SzAt K H a m ∧ ∀ p, H p = none → Q (.ref p) (upd H p (.dK (kvm m)))
theorem ok_Sizes_by_name (T : Tx K mg) : FnOk P w K mg base CX0 1 (A_Sizes_by_name K) (D_Sizes_by_name K) ["self"] (spByName K) := by
  refine T.F_Sizes_by_name.ok sc_Sizes_by_name (fun vs H Q E h => ?_) (fun cdv A outer s H vs Q E hr h => ?_)
  · obtain ⟨a, m, rfl, _⟩ := h
    rfl
  · obtain ⟨a, m, rfl, ⟨dx, dk, od, h1, h2, h3⟩, q⟩ := h
    refine ⟨_, PSs.nox (pss_one (ps_ret (pe_callTy call_dictD (by rfl) T.z_dict (by decide +kernel) (pa_cons (pe_fld (pv 0) rfl) pa_nil)))), ?_⟩
    refine ⟨_, rfl, a, _, dx, _, _, rfl, h1, T.cl_Sizes, T.na_Sizes_kept, rfl, dk, _, rfl, .inr ⟨od, h3⟩, q⟩
theorem bd_Sizes_by_name {K : PySem.W.Frag} {mg : Str → Option Value} (T : Tx K mg) : Binds K (D_Sizes_by_name K) ["self"] [] := T.F_Sizes_by_name.bindsN fun _ _ _ _ _ _ us hl => match us, hl with | [_], _ => rfl
end

end Lp

set_option Elab.async false
set_option linter.all false
set_option maxRecDepth 100000
set_option maxHeartbeats 4000000
namespace Lp
open PySem PySem.Spec PyProof.Rows L2
/-! ### Sizes of Sizes -/
abbrev N_Sizes_fits : List Str := ["self", "other", "name"]
theorem sc_Sizes_fits : FnScope N_Sizes_fits ["self", "other"] (defScope S_Sizes_fits) := ⟨rfl, rfl, rfl, by decide +kernel, rfl, by decide +kernel, by decide +kernel⟩
abbrev N_Sizes_add : List Str := ["self", "other", "name"]
theorem sc_Sizes_add : FnScope N_Sizes_add ["self", "other"] (defScope S_Sizes_add) := ⟨rfl, rfl, rfl, by decide +kernel, rfl, by decide +kernel, by decide +kernel⟩
abbrev N_Sizes_sub : List Str := ["self", "other", "name"]
theorem sc_Sizes_sub : FnScope N_Sizes_sub ["self", "other"] (defScope S_Sizes_sub) := ⟨rfl, rfl, rfl, by decide +kernel, rfl, by decide +kernel, by decide +kernel⟩
abbrev N_Sizes_and : List Str := ["self", "other", "name"]
theorem sc_Sizes_and : FnScope N_Sizes_and ["self", "other"] (defScope S_Sizes_and) := ⟨rfl, rfl, rfl, by decide +kernel, rfl, by decide +kernel, by decide +kernel⟩
abbrev N_Sizes_or : List Str := ["self", "other", "name"]
theorem sc_Sizes_or : FnScope N_Sizes_or ["self", "other"] (defScope S_Sizes_or) := ⟨rfl, rfl, rfl, by decide +kernel, rfl, by decide +kernel, by decide +kernel⟩
abbrev N_Sizes_mul : List Str := ["self", "many", "name"]
theorem sc_Sizes_mul : FnScope N_Sizes_mul ["self", "many"] (defScope S_Sizes_mul) := ⟨rfl, rfl, rfl, by decide +kernel, rfl, by decide +kernel, by decide +kernel⟩
abbrev N_Sizes_call : List Str := ["self", "name", "by"]
theorem sc_Sizes_call : FnScope N_Sizes_call ["self", "name", "by"] (defScope S_Sizes_call) := ⟨rfl, rfl, rfl, by decide +kernel, rfl, by decide +kernel, by decide +kernel⟩
section
variable {P : Program} {w : World} {K : PySem.W.Frag} {mg : Str → Option Value} {base : Heap}
def spFits (K : PySem.W.Frag) : Sp := fun vs H Q E => ∃ a m v, vs = [.ref a, v] ∧ SzAt K H a m ∧ Cn m ∧ ((∃ b m2, v = .ref b ∧ SzAt K H b m2 ∧ Cn m2 ∧ ∀ H', Same H H' → Q (.bl (m.all fun p => decide (p.2 ≤ val m2 p.1))) H') ∨ (NoSz K H v ∧ Rz K v H E))
theorem kvm_at {m : List (Str × Int)} {i : Nat} {k : Key} {v : V} (h : (kvm m)[i]? = some (k, v)) : ∃ p, m[i]? = some p ∧ k = Sum.inr p.1 ∧ v = .int p.2 := by
  unfold kvm at h
  rw [List.getElem?_map] at h
  cases e : m[i]? with
  | none => rw [e] at h; cases h
  | some p => rw [e] at h; cases h; exact ⟨p, rfl, rfl, rfl⟩
theorem range_map {α β : Type} (ys : List α) (g : Nat → β) (h : α → β) (hg : ∀ i y, ys[i]? = some y → g i = h y) : (List.range ys.length).map g = ys.map h := by
  refine List.ext_getElem? fun i => ?_
  rw [List.getElem?_map, List.getElem?_map]
  by_cases hi : i < ys.length
  · rw [List.getElem?_range hi, List.getElem?_eq_getElem hi]
    exact congrArg some (hg i _ (List.getElem?_eq_getElem hi))
  · rw [List.getElem?_eq_none (by rw [List.length_range]; omega), List.getElem?_eq_none (by omega)]
    rfl
theorem ok_Sizes_fits (T : Tx K mg) : FnOk P w K mg base (CX P w) 4 (A_Sizes_fits K) (D_Sizes_fits K) ["self", "other"] (spFits K) := by
  refine T.F_Sizes_fits.ok sc_Sizes_fits (fun vs H Q E h => ?_) (fun cdv A outer s H vs Q E hr h => ?_)
  · obtain ⟨a, m, v, rfl, _⟩ := h
    rfl
  · obtain ⟨a, m, v, rfl, sa, ca, h⟩ := h
    have hu : (A.deeper (envOfC "Sizes.fits" (defScope S_Sizes_fits) s.heap.objs.size (A_Sizes_fits K) cdv)).units + 1 < cLine := by have := hr.units; omega
    refine ⟨_, (pss_cons (ps_expr (pe_call (ok_check_sizes T) (hr.mono (by decide)) rfl T.m_check_sizes T.F_check_sizes.kp (bd_check_sizes T) .nil (passes_call (takes_of rfl rfl rfl rfl) (fun _ _ _ _ z => z)) (pa_cons (pv 1) pa_nil))) (pss_one (ps_ret (pe_callB (cr_all rfl) (by rfl) T.z_all (by decide +kernel) (pa_cons (pe_lc (own := [("name", 2)]) rfl sc_Sizes_fits.nd (pi_keys (pe_fldK (K0 := K) rfl (pv 0) rfl)) (blkOk_by (N := N_Sizes_fits) (sc := defScope S_Sizes_fits) (by decide +kernel)) (fun _ _ _ _ _ => (pg_name (i := 2) sc_Sizes_fits.nd rfl (by first | exact Or.inl rfl | exact Or.inr rfl))) (fun _ _ _ _ _ => pts_nil) (fun _ _ _ _ _ => (pe_cmpR op_le (pe_dget hu (pe_fldK (K0 := K) rfl (pv 0) rfl) (pv 2) (fun _ _ => rfl)) (pe_ixOwn T.mt_Sizes_getitem (fnIn_of T.F_Sizes_getitem) (raw0 (ok_Sizes_getitem T) (bd_Sizes_getitem T)) (hr.mono (by decide)) pass0 (pv 1) (pv 2)) (nomark _)))) pa_nil))))), ?_⟩
    rcases h with ⟨b, m2, rfl, sb, cb, q⟩ | h
    · obtain ⟨dx, dk, od, h1, h2, h3⟩ := id sa
      obtain ⟨dx2, dk2, od2, g1, g2, g3⟩ := id sb
      refine ⟨_, rfl, r_nil ⟨_, rfl, .inl ⟨b, _, _, rfl, g1, ?_⟩⟩⟩
      refine ⟨_, rfl, a, _, dx, _, _, rfl, h1, T.cl_Sizes, T.na_Sizes_kept, rfl, dk, od, rfl, .inl ⟨kvm m, h3, fun D hD => lc_gw walk_keys (fun _ => true) (fun i y _ => y = V.bl (match m[i]? with | some p => decide (p.2 ≤ val m2 p.1) | none => true)) (fun _ _ _ _ _ h => h) (same_refl H) hD (by rw [kvm_len]; have := ca.ok.2.1; omega) (fun H' s' => s' _ _ h3) ?lcs ?lcd⟩⟩
      case lcs =>
        rintro i x F H2 H3 Qn Qs hi gw ⟨rfl, k, v, e, rfl⟩ qn qs
        obtain ⟨p, ep, rfl, rfl⟩ := kvm_at e
        have sb3 := sb.same gw.hh
        obtain ⟨dx3, dk3, od3, f1, f2, f3⟩ := id sb3
        have hm : p.1 ∈ m.map (·.1) := List.mem_map.mpr ⟨p, List.mem_of_getElem? ep, rfl⟩
        have dg := dget_kvm (H := H3) (d := dk) (m := m) (y := p.1) (.inr ⟨od, gw.hh _ _ h3⟩) hm
        rw [val_mem ca.nd (List.mem_of_getElem? ep)] at dg
        refine ⟨rfl, yes_then ?_⟩
        refine ⟨_, rfl, a, _, dx, _, _, rfl, gw.hh _ _ h1, T.cl_Sizes, T.na_Sizes_kept, rfl, _, rfl, dk, _, rfl, dg, _, rfl, _, rfl, b, dx3, _, rfl, f1, ?_⟩
        refine ⟨b, m2, _, rfl, sb3, .inl ⟨_, rfl, _, _, rfl, rfl, qn rfl _ F H3 (Gw.refl gw.fh) ?_⟩⟩
        rw [ep]
      case lcd =>
        intro ys F H' gw fD hH pr
        rw [filter_true] at pr
        have e := paired_eq pr
        refine ⟨D, m.map fun p => decide (p.2 ≤ val m2 p.1), rfl, SqL.of (by rw [hH, e, kvm_len, range_map m _ (fun p => V.bl (decide (p.2 ≤ val m2 p.1))) (fun i p hp => by rw [hp]), List.map_map]; rfl), ?_⟩
        have e2 : ((m.map fun p => decide (p.2 ≤ val m2 p.1)).all id) = m.all fun p => decide (p.2 ≤ val m2 p.1) := by rw [List.all_map]; rfl
        rw [e2]
        exact q _ gw.hh
    · exact ⟨_, rfl, r_nil ⟨_, rfl, .inr h⟩⟩
theorem bd_Sizes_fits {K : PySem.W.Frag} {mg : Str → Option Value} (T : Tx K mg) : Binds K (D_Sizes_fits K) ["self", "other"] [] := T.F_Sizes_fits.bindsN fun _ _ _ _ _ _ us hl => match us, hl with | [_, _], _ => rfl
/-- a dict comprehension over names -/
theorem dk_tab {ys : List Str} {f : Str → Int} {zs : List V} (hz : zs = (List.range ys.length).map fun i => V.int (f (ys.getD i ""))) :
    puts ((((List.range ys.length).filter fun _ => true).map fun i => (Sum.inr (ys.getD i "") : Key)).zip zs) = kvm (putsS (ys.map fun y => (y, f y))) := by
  have gd : ∀ i y, ys[i]? = some y → ys.getD i "" = y := fun i y e1 => by rw [List.getD_eq_getElem?_getD, e1]; rfl
  rw [filter_true, hz, List.zip_map', range_map ys _ (fun y => ((Sum.inr y : Key), V.int (f y))) (fun i y e1 => by rw [gd i y e1]), ← puts_kvm]
  congr 1
  unfold kvm
  rw [List.map_map]
  rfl
abbrev nm2 (m m2 : List (Str × Int)) : List V := (kvm m).map (fun kv => kV kv.1) ++ ((kvm m2).map (fun kv => kV kv.1) ++ [])
theorem two_names (m m2 : List (Str × Int)) : nm2 m m2 = (m.map (·.1) ++ m2.map (·.1)).map V.str := by
  unfold nm2
  rw [kvm_names, kvm_names, List.append_nil, List.map_append]
theorem two_len (m m2 : List (Str × Int)) : (nm2 m m2).length = (m.map (·.1) ++ m2.map (·.1)).length := by rw [two_names, List.length_map]
/-- an operator of two Sizes, g on amounts -/
def spOp (g : Int → Int → Int) (K : PySem.W.Frag) : Sp := fun vs H Q E => ∃ F a m v, vs = [.ref a, v] ∧ Same F H ∧ SzAt K F a m ∧ Cn m ∧ ((∃ b m2, v = .ref b ∧ SzAt K F b m2 ∧ Cn m2 ∧ m.length + m2.length < 64 ∧ ∀ r m3 F' H', Gw F H F' H' → SzAt K F' r m3 → Cn m3 → (∀ y, val m3 y = g (val m y) (val m2 y)) → Q (.ref r) H') ∨ (NoSz K H v ∧ Rz K v H E))
theorem op_fin {m m2 m3 : List (Str × Int)} {g : Int → Int → Int} (h : ∀ y, val m3 y = if y ∈ m.map (·.1) ++ m2.map (·.1) then g (val m y) (val m2 y) else 0) (h0 : g 0 0 = 0) (y : Str) : val m3 y = g (val m y) (val m2 y) := by
  rw [h]
  by_cases z : y ∈ m.map (·.1) ++ m2.map (·.1)
  · rw [if_pos z]
  · rw [if_neg z, val_off fun q => z (List.mem_append.mpr (.inl q)), val_off fun q => z (List.mem_append.mpr (.inr q)), h0]
def minI (i j : Int) : Int := if j < i then j else i
def maxI (i j : Int) : Int := if i < j then j else i
theorem words_of {m : List (Str × Int)} (h : Cn m) {y : Str} (hy : y ∈ m.map (·.1)) : isWord y = true := by
  obtain ⟨p, hp, rfl⟩ := List.mem_map.mp hy
  exact (h.ok.2.2 p hp).1
/-- what comes of a table of amounts over names -/
theorem tab_made {ys : List Str} {f : Str → Int} (hl : ys.length < 64) (hw : ∀ y ∈ ys, isWord y = true) (h0 : ∀ y, 0 ≤ f y) : SrcOk (putsS (ys.map fun y => (y, f y))) ∧ Cn (canon (putsS (ys.map fun y => (y, f y)))) ∧ ∀ y, val (canon (putsS (ys.map fun y => (y, f y)))) y = if y ∈ ys then f y else 0 := by
  have ok : SrcOk (putsS (ys.map fun y => (y, f y))) := putsS_ok (by rw [List.length_map]; exact hl) fun p hp => by
    obtain ⟨y, hy, rfl⟩ := List.mem_map.mp hp
    exact ⟨hw y hy, h0 y⟩
  exact ⟨ok, Cn.of ok, fun y => by rw [val_canon ok.val0, val_putsS]⟩
theorem names_at {ys : List Str} {i : Nat} {xv : V} (e : (ys.map V.str)[i]? = some xv) : ∃ y, ys[i]? = some y ∧ xv = V.str y := by
  rw [List.getElem?_map] at e
  cases e1 : ys[i]? with
  | none => rw [e1] at e; cases e
  | some y => rw [e1] at e; exact ⟨y, rfl, (Option.some.inj e).symm⟩
theorem getD_at {ys : List Str} {i : Nat} {y : Str} (e1 : ys[i]? = some y) : ys.getD i "" = y := by rw [List.getD_eq_getElem?_getD, e1]; rfl
theorem yes_then2 {tk tv : TE} {σ : L2.St} {H : Hp} {Qn : V → V → Hp → Prop} {Qs : Hp → Prop} (h : tk σ H fun y H4 => tv σ H4 fun z H5 => Qn y z H5) : tYes σ H fun b H3 => if b = true then tk σ H3 fun y H4 => tv σ H4 fun z H5 => Qn y z H5 else Qs H3 := by
  show if true = true then (tk σ H fun y H4 => tv σ H4 fun z H5 => Qn y z H5) else Qs H
  rw [if_pos rfl]
  exact h
theorem ok_Sizes_add (T : Tx K mg) : FnOk P w K mg base (CX P w) 5 (A_Sizes_add K) (D_Sizes_add K) ["self", "other"] (spOp (fun i j => i + j) K) := by
  refine T.F_Sizes_add.ok sc_Sizes_add (fun vs H Q E h => ?_) (fun cdv A outer s H vs Q E hr h => ?_)
  · obtain ⟨F, a, m, v, rfl, _⟩ := h
    rfl
  · obtain ⟨F, a, m, v, rfl, sF, sa, ca, h⟩ := h
    refine ⟨_, (pss_cons (ps_expr (pe_call (ok_check_sizes T) (hr.mono (by decide)) rfl T.m_check_sizes T.F_check_sizes.kp (bd_check_sizes T) .nil (passes_call (takes_of rfl rfl rfl rfl) (fun _ _ _ _ z => z)) (pa_cons (pv 1) pa_nil))) (pss_one (ps_ret (pe_makeSS T.mk_Sizes (raw0 (ok_Sizes_init T) (bd_Sizes_init T)) (hr.mono (by decide)) (fun σ => passF σ) rfl T.m_Sizes (pa_cons (pe_dc (own := [("name", 2)]) rfl sc_Sizes_add.nd (pi_list (pe_lst (pa_starD rfl (pe_fldK (K0 := K) rfl (pv 0) rfl) (pa_starD rfl (pe_fldK (K0 := K) rfl (pv 1) rfl) pa_nil)))) (blkOk_by (N := N_Sizes_add) (sc := defScope S_Sizes_add) (by decide +kernel)) (fun _ _ _ _ _ => (pg_name (i := 2) sc_Sizes_add.nd rfl (by first | exact Or.inl rfl | exact Or.inr rfl))) (fun _ _ _ _ _ => pts_nil) (fun _ _ _ _ _ => (pv 2)) (fun _ _ _ _ _ => (pe_op op_add (pe_ixOwn T.mt_Sizes_getitem (fnIn_of T.F_Sizes_getitem) (raw0 (ok_Sizes_getitem T) (bd_Sizes_getitem T)) (hr.mono (by decide)) pass0 (pv 0) (pv 2)) (pe_ixOwn T.mt_Sizes_getitem (fnIn_of T.F_Sizes_getitem) (raw0 (ok_Sizes_getitem T) (bd_Sizes_getitem T)) (hr.mono (by decide)) pass0 (pv 1) (pv 2))))) pa_nil))))), ?_⟩
    rcases h with ⟨b, m2, rfl, sb, cb, hlen, q⟩ | h
    · obtain ⟨dx, dk, od, h1, h2, h3⟩ := sa.same sF
      obtain ⟨dx2, dk2, od2, g1, g2, g3⟩ := sb.same sF
      refine ⟨_, rfl, r_nil ⟨_, rfl, .inl ⟨b, _, _, rfl, g1, ?_⟩⟩⟩
      refine ⟨_, rfl, a, _, dx, _, _, rfl, h1, T.cl_Sizes, T.na_Sizes_kept, rfl, dk, kvm m, rfl, .inr ⟨od, h3⟩, _, rfl, b, _, dx2, _, _, rfl, g1, T.cl_Sizes, T.na_Sizes_kept, rfl, dk2, kvm m2, rfl, .inr ⟨od2, g3⟩, r_nil ?_⟩
      have hl2 : (m.map (·.1) ++ m2.map (·.1)).length < 64 := by rw [List.length_append, List.length_map, List.length_map]; exact hlen
      refine ⟨by show (nm2 m m2).length ≤ sizeLine; rw [two_len]; exact Nat.le_trans (Nat.le_of_lt hl2) (by decide), fun p hp => ?_⟩
      have g0 := Gw.junk (o := .lst (nm2 m m2)) sF hp
      refine ⟨p, rfl, ⟨_, SqL.of upd_same⟩, fun D hD => dc_gw (walk_list (xs := nm2 m m2)) (fun _ => true) (fun i => Sum.inr ((m.map (·.1) ++ m2.map (·.1)).getD i "")) (fun i y _ => y = V.int ((fun y => val m y + val m2 y) ((m.map (·.1) ++ m2.map (·.1)).getD i ""))) (fun _ _ _ _ _ h => h) g0.fh hD (by rw [two_len]; omega) (fun H' s' => SqL.of (s' _ _ upd_same)) ?lcs ?lcd⟩
      case lcs =>
        rintro i xv F2 H2 H3 Qn Qs hi gw ⟨rfl, e⟩ qn qs
        obtain ⟨y, e1, rfl⟩ := names_at (ys := m.map (·.1) ++ m2.map (·.1)) (by rw [← two_names]; exact e)
        have ey := getD_at e1
        have ss : Same F H3 := same_trans sF (same_trans g0.hh gw.hh)
        have sa3 := sa.same ss
        have sb3 := sb.same ss
        obtain ⟨dx3, _, _, f1, _, _⟩ := id sa3
        obtain ⟨dx4, _, _, e1', _, _⟩ := id sb3
        rw [ey] at qn
        exact ⟨rfl, yes_then2 ⟨_, rfl, _, rfl, _, rfl, a, dx3, _, rfl, f1, a, m, _, rfl, sa3, .inl ⟨y, rfl, _, rfl, _, rfl, b, dx4, _, rfl, e1', b, m2, _, rfl, sb3, .inl ⟨y, rfl, _, _, rfl, rfl, qn rfl _ F2 H3 (Gw.refl gw.fh) rfl⟩⟩⟩⟩
      case lcd =>
        intro zs F2 H' gw fD pr hH
        rw [two_len] at pr hH
        rw [filter_true] at pr
        rw [dk_tab (f := fun y => val m y + val m2 y) (paired_eq pr)] at hH
        obtain ⟨ok, cn, hv⟩ := tab_made (f := fun y => val m y + val m2 y) hl2 (fun y hy => by
          rcases List.mem_append.mp hy with z | z
          · exact words_of ca z
          · exact words_of cb z) (fun y => by have z1 := ca.ok.val0 y; have z2 := cb.ok.val0 y; show 0 ≤ val m y + val m2 y; omega)
        refine r_nil (mk_sz gw.fh (.inl hH) ok fun r F' H4 g4 sr => ?_)
        exact q r _ F' H4 (g0.trans (gw.trans g4)) sr cn fun y => op_fin hv rfl y
    · exact ⟨_, rfl, r_nil ⟨_, rfl, .inr h⟩⟩
theorem bd_Sizes_add {K : PySem.W.Frag} {mg : Str → Option Value} (T : Tx K mg) : Binds K (D_Sizes_add K) ["self", "other"] [] := T.F_Sizes_add.bindsN fun _ _ _ _ _ _ us hl => match us, hl with | [_, _], _ => rfl
theorem ok_Sizes_or (T : Tx K mg) : FnOk P w K mg base (CX P w) 5 (A_Sizes_or K) (D_Sizes_or K) ["self", "other"] (spOp maxI K) := by
  refine T.F_Sizes_or.ok sc_Sizes_or (fun vs H Q E h => ?_) (fun cdv A outer s H vs Q E hr h => ?_)
  · obtain ⟨F, a, m, v, rfl, _⟩ := h
    rfl
  · obtain ⟨F, a, m, v, rfl, sF, sa, ca, h⟩ := h
    refine ⟨_, (pss_cons (ps_expr (pe_call (ok_check_sizes T) (hr.mono (by decide)) rfl T.m_check_sizes T.F_check_sizes.kp (bd_check_sizes T) .nil (passes_call (takes_of rfl rfl rfl rfl) (fun _ _ _ _ z => z)) (pa_cons (pv 1) pa_nil))) (pss_one (ps_ret (pe_makeSS T.mk_Sizes (raw0 (ok_Sizes_init T) (bd_Sizes_init T)) (hr.mono (by decide)) (fun σ => passF σ) rfl T.m_Sizes (pa_cons (pe_dc (own := [("name", 2)]) rfl sc_Sizes_or.nd (pi_list (pe_lst (pa_starD rfl (pe_fldK (K0 := K) rfl (pv 0) rfl) (pa_starD rfl (pe_fldK (K0 := K) rfl (pv 1) rfl) pa_nil)))) (blkOk_by (N := N_Sizes_or) (sc := defScope S_Sizes_or) (by decide +kernel)) (fun _ _ _ _ _ => (pg_name (i := 2) sc_Sizes_or.nd rfl (by first | exact Or.inl rfl | exact Or.inr rfl))) (fun _ _ _ _ _ => pts_nil) (fun _ _ _ _ _ => (pv 2)) (fun _ _ _ _ _ => (pe_callB (call_max2 rfl) (by rfl) T.z_max (by decide +kernel) (pa_cons (pe_ixOwn T.mt_Sizes_getitem (fnIn_of T.F_Sizes_getitem) (raw0 (ok_Sizes_getitem T) (bd_Sizes_getitem T)) (hr.mono (by decide)) pass0 (pv 0) (pv 2)) (pa_cons (pe_ixOwn T.mt_Sizes_getitem (fnIn_of T.F_Sizes_getitem) (raw0 (ok_Sizes_getitem T) (bd_Sizes_getitem T)) (hr.mono (by decide)) pass0 (pv 1) (pv 2)) pa_nil))))) pa_nil))))), ?_⟩
    rcases h with ⟨b, m2, rfl, sb, cb, hlen, q⟩ | h
    · obtain ⟨dx, dk, od, h1, h2, h3⟩ := sa.same sF
      obtain ⟨dx2, dk2, od2, g1, g2, g3⟩ := sb.same sF
      refine ⟨_, rfl, r_nil ⟨_, rfl, .inl ⟨b, _, _, rfl, g1, ?_⟩⟩⟩
      refine ⟨_, rfl, a, _, dx, _, _, rfl, h1, T.cl_Sizes, T.na_Sizes_kept, rfl, dk, kvm m, rfl, .inr ⟨od, h3⟩, _, rfl, b, _, dx2, _, _, rfl, g1, T.cl_Sizes, T.na_Sizes_kept, rfl, dk2, kvm m2, rfl, .inr ⟨od2, g3⟩, r_nil ?_⟩
      have hl2 : (m.map (·.1) ++ m2.map (·.1)).length < 64 := by rw [List.length_append, List.length_map, List.length_map]; exact hlen
      refine ⟨by show (nm2 m m2).length ≤ sizeLine; rw [two_len]; exact Nat.le_trans (Nat.le_of_lt hl2) (by decide), fun p hp => ?_⟩
      have g0 := Gw.junk (o := .lst (nm2 m m2)) sF hp
      refine ⟨p, rfl, ⟨_, SqL.of upd_same⟩, fun D hD => dc_gw (walk_list (xs := nm2 m m2)) (fun _ => true) (fun i => Sum.inr ((m.map (·.1) ++ m2.map (·.1)).getD i "")) (fun i y _ => y = V.int ((fun y => maxI (val m y) (val m2 y)) ((m.map (·.1) ++ m2.map (·.1)).getD i ""))) (fun _ _ _ _ _ h => h) g0.fh hD (by rw [two_len]; omega) (fun H' s' => SqL.of (s' _ _ upd_same)) ?lcs ?lcd⟩
      case lcs =>
        rintro i xv F2 H2 H3 Qn Qs hi gw ⟨rfl, e⟩ qn qs
        obtain ⟨y, e1, rfl⟩ := names_at (ys := m.map (·.1) ++ m2.map (·.1)) (by rw [← two_names]; exact e)
        have ey := getD_at e1
        have ss : Same F H3 := same_trans sF (same_trans g0.hh gw.hh)
        have sa3 := sa.same ss
        have sb3 := sb.same ss
        obtain ⟨dx3, _, _, f1, _, _⟩ := id sa3
        obtain ⟨dx4, _, _, e1', _, _⟩ := id sb3
        rw [ey] at qn
        exact ⟨rfl, yes_then2 ⟨_, rfl, _, rfl, _, rfl, a, dx3, _, rfl, f1, a, m, _, rfl, sa3, .inl ⟨y, rfl, _, rfl, _, rfl, b, dx4, _, rfl, e1', b, m2, _, rfl, sb3, .inl ⟨y, rfl, _, _, rfl, qn rfl _ F2 H3 (Gw.refl gw.fh) rfl⟩⟩⟩⟩
      case lcd =>
        intro zs F2 H' gw fD pr hH
        rw [two_len] at pr hH
        rw [filter_true] at pr
        rw [dk_tab (f := fun y => maxI (val m y) (val m2 y)) (paired_eq pr)] at hH
        obtain ⟨ok, cn, hv⟩ := tab_made (f := fun y => maxI (val m y) (val m2 y)) hl2 (fun y hy => by
          rcases List.mem_append.mp hy with z | z
          · exact words_of ca z
          · exact words_of cb z) (fun y => by have z1 := ca.ok.val0 y; have z2 := cb.ok.val0 y; show 0 ≤ maxI (val m y) (val m2 y); unfold maxI; split <;> omega)
        refine r_nil (mk_sz gw.fh (.inl hH) ok fun r F' H4 g4 sr => ?_)
        exact q r _ F' H4 (g0.trans (gw.trans g4)) sr cn fun y => op_fin hv rfl y
    · exact ⟨_, rfl, r_nil ⟨_, rfl, .inr h⟩⟩
theorem bd_Sizes_or {K : PySem.W.Frag} {mg : Str → Option Value} (T : Tx K mg) : Binds K (D_Sizes_or K) ["self", "other"] [] := T.F_Sizes_or.bindsN fun _ _ _ _ _ _ us hl => match us, hl with | [_, _], _ => rfl
end

end Lp

set_option Elab.async false
set_option linter.all false
set_option maxRecDepth 100000
set_option maxHeartbeats 4000000
namespace Lp
open PySem PySem.Spec PyProof.Rows L2
section
variable {P : Program} {w : World} {K : PySem.W.Frag} {mg : Str → Option Value} {base : Heap}
theorem kvm_getD {m : List (Str × Int)} {i : Nat} {p : Str × Int} (h : m[i]? = some p) : (m.map (·.1)).getD i ("" : Str) = p.1 := by
  rw [List.getD_eq_getElem?_getD, List.getElem?_map, h]
  rfl
theorem one_fin {m m2 m3 : List (Str × Int)} {g : Int → Int → Int} (h : ∀ y, val m3 y = if y ∈ m.map (·.1) then g (val m y) (val m2 y) else 0) (h0 : ∀ y, g 0 (val m2 y) = 0) (y : Str) : val m3 y = g (val m y) (val m2 y) := by
  rw [h]
  by_cases z : y ∈ m.map (·.1)
  · rw [if_pos z]
  · rw [if_neg z, val_off z, h0]
theorem ok_Sizes_and (T : Tx K mg) : FnOk P w K mg base (CX P w) 5 (A_Sizes_and K) (D_Sizes_and K) ["self", "other"] (spOp minI K) := by
  refine T.F_Sizes_and.ok sc_Sizes_and (fun vs H Q E h => ?_) (fun cdv A outer s H vs Q E hr h => ?_)
  · obtain ⟨F, a, m, v, rfl, _⟩ := h
    rfl
  · obtain ⟨F, a, m, v, rfl, sF, sa, ca, h⟩ := h
    refine ⟨_, (pss_cons (ps_expr (pe_call (ok_check_sizes T) (hr.mono (by decide)) rfl T.m_check_sizes T.F_check_sizes.kp (bd_check_sizes T) .nil (passes_call (takes_of rfl rfl rfl rfl) (fun _ _ _ _ z => z)) (pa_cons (pv 1) pa_nil))) (pss_one (ps_ret (pe_makeSS T.mk_Sizes (raw0 (ok_Sizes_init T) (bd_Sizes_init T)) (hr.mono (by decide)) (fun σ => passF σ) rfl T.m_Sizes (pa_cons (pe_dc (own := [("name", 2)]) rfl sc_Sizes_and.nd (pi_keys (pe_fldK (K0 := K) rfl (pv 0) rfl)) (blkOk_by (N := N_Sizes_and) (sc := defScope S_Sizes_and) (by decide +kernel)) (fun _ _ _ _ _ => (pg_name (i := 2) sc_Sizes_and.nd rfl (by first | exact Or.inl rfl | exact Or.inr rfl))) (fun _ _ _ _ _ => pts_nil) (fun _ _ _ _ _ => (pv 2)) (fun _ _ _ _ _ => (pe_callB (call_min2 rfl) (by rfl) T.z_min (by decide +kernel) (pa_cons (pe_ixOwn T.mt_Sizes_getitem (fnIn_of T.F_Sizes_getitem) (raw0 (ok_Sizes_getitem T) (bd_Sizes_getitem T)) (hr.mono (by decide)) pass0 (pv 0) (pv 2)) (pa_cons (pe_ixOwn T.mt_Sizes_getitem (fnIn_of T.F_Sizes_getitem) (raw0 (ok_Sizes_getitem T) (bd_Sizes_getitem T)) (hr.mono (by decide)) pass0 (pv 1) (pv 2)) pa_nil))))) pa_nil))))), ?_⟩
    rcases h with ⟨b, m2, rfl, sb, cb, hlen, q⟩ | h
    · obtain ⟨dx, dk, od, h1, h2, h3⟩ := sa.same sF
      obtain ⟨dx2, dk2, od2, g1, g2, g3⟩ := sb.same sF
      refine ⟨_, rfl, r_nil ⟨_, rfl, .inl ⟨b, _, _, rfl, g1, ?_⟩⟩⟩
      have hl2 : (m.map (·.1)).length < 64 := by rw [List.length_map]; omega
      refine ⟨_, rfl, a, _, dx, _, _, rfl, h1, T.cl_Sizes, T.na_Sizes_kept, rfl, dk, od, rfl, .inl ⟨kvm m, h3, fun D hD => dc_gw walk_keys (fun _ => true) (fun i => Sum.inr ((m.map (·.1)).getD i "")) (fun i y _ => y = V.int ((fun y => minI (val m y) (val m2 y)) ((m.map (·.1)).getD i ""))) (fun _ _ _ _ _ h => h) sF hD (by rw [kvm_len]; omega) (fun H' s' => s' _ _ h3) ?lcs ?lcd⟩⟩
      case lcs =>
        rintro i xv F2 H2 H3 Qn Qs hi gw ⟨rfl, k, v, e, rfl⟩ qn qs
        obtain ⟨p, ep, rfl, rfl⟩ := kvm_at e
        have ey := kvm_getD ep
        have ss : Same F H3 := same_trans sF gw.hh
        have sa3 := sa.same ss
        have sb3 := sb.same ss
        obtain ⟨dx3, _, _, f1, _, _⟩ := id sa3
        obtain ⟨dx4, _, _, e1', _, _⟩ := id sb3
        rw [ey] at qn
        exact ⟨rfl, yes_then2 ⟨_, rfl, _, rfl, _, rfl, a, dx3, _, rfl, f1, a, m, _, rfl, sa3, .inl ⟨p.1, rfl, _, rfl, _, rfl, b, dx4, _, rfl, e1', b, m2, _, rfl, sb3, .inl ⟨p.1, rfl, _, _, rfl, qn rfl _ F2 H3 (Gw.refl gw.fh) rfl⟩⟩⟩⟩
      case lcd =>
        intro zs F2 H' gw fD pr hH
        rw [kvm_len, ← List.length_map (f := fun x : Str × Int => x.1)] at pr hH
        rw [filter_true] at pr
        rw [dk_tab (f := fun y => minI (val m y) (val m2 y)) (paired_eq pr)] at hH
        obtain ⟨ok, cn, hv⟩ := tab_made (f := fun y => minI (val m y) (val m2 y)) hl2 (fun y hy => words_of ca hy) (fun y => by have z1 := ca.ok.val0 y; have z2 := cb.ok.val0 y; show 0 ≤ minI (val m y) (val m2 y); unfold minI; split <;> omega)
        refine r_nil (mk_sz gw.fh (.inl hH) ok fun r F' H4 g4 sr => ?_)
        exact q r _ F' H4 (gw.trans g4) sr cn fun y => one_fin hv (fun y => by have z2 := cb.ok.val0 y; unfold minI; split <;> omega) y
    · exact ⟨_, rfl, r_nil ⟨_, rfl, .inr h⟩⟩
theorem bd_Sizes_and {K : PySem.W.Frag} {mg : Str → Option Value} (T : Tx K mg) : Binds K (D_Sizes_and K) ["self", "other"] [] := T.F_Sizes_and.bindsN fun _ _ _ _ _ _ us hl => match us, hl with | [_, _], _ => rfl
/-! ### - -/
abbrev CNE (K : PySem.W.Frag) : Addr := He.ga K "NotEnough"
def short (m m2 : List (Str × Int)) : Option Str := (m2.map (·.1)).find? fun y => decide (val m y < val m2 y)
def spSub (K : PySem.W.Frag) : Sp := fun vs H Q E => ∃ F a m v, vs = [.ref a, v] ∧ Same F H ∧ SzAt K F a m ∧ Cn m ∧ ((∃ b m2, v = .ref b ∧ SzAt K F b m2 ∧ Cn m2 ∧
  (short m m2 = none → ∀ r m3 F' H', Gw F H F' H' → SzAt K F' r m3 → Cn m3 → (∀ y, val m3 y = val m y - val m2 y) → Q (.ref r) H') ∧
  (∀ y, short m m2 = some y → ∀ d, H d = none → E (.ref (CNE K)) (some d) (upd H d (.xd [("name", .str y)])))) ∨ (NoSz K H v ∧ Rz K v H E))
theorem short_none {m m2 : List (Str × Int)} (h : short m m2 = none) (h0 : ∀ y, 0 ≤ val m y) (y : Str) : val m2 y ≤ val m y := by
  by_cases e : y ∈ m2.map (·.1)
  · have := List.find?_eq_none.mp h y e
    have z : ¬ val m y < val m2 y := fun q => this (decide_eq_true q)
    omega
  · rw [val_off e]
    exact h0 y
theorem find_take {α : Type} {p : α → Bool} : ∀ {l : List α} {i : Nat}, i ≤ l.length → ((l.take i).all fun x => !p x) = true → l.find? p = (l.drop i).find? p
  | l, 0, _, _ => rfl
  | [], i + 1, h, _ => by simp at h
  | x :: l, i + 1, h, q => by
    rw [List.take_succ_cons, List.all_cons, Bool.and_eq_true] at q
    have hx : p x = false := by
      cases e : p x with
      | false => rfl
      | true => rw [e] at q; cases q.1
    rw [List.find?_cons, hx, List.drop_succ_cons]
    exact find_take (by simpa using h) q.2
theorem ok_Sizes_sub (T : Tx K mg) : FnOk P w K mg base (CX P w) 5 (A_Sizes_sub K) (D_Sizes_sub K) ["self", "other"] (spSub K) := by
  refine T.F_Sizes_sub.ok sc_Sizes_sub (fun vs H Q E h => ?_) (fun cdv A outer s H vs Q E hr h => ?_)
  · obtain ⟨F, a, m, v, rfl, _⟩ := h
    rfl
  · obtain ⟨F, a, m, v, rfl, sF, sa, ca, h⟩ := h
    refine ⟨_, (pss_cons (ps_expr (pe_call (ok_check_sizes T) (hr.mono (by decide)) rfl T.m_check_sizes T.F_check_sizes.kp (bd_check_sizes T) .nil (passes_call (takes_of rfl rfl rfl rfl) (fun _ _ _ _ z => z)) (pa_cons (pv 1) pa_nil))) (pss_cons (ps_for (passes_of rfl) rfl (pi_keys (pe_fld (pv 1) rfl)) (pg_name (i := 2) sc_Sizes_sub.nd rfl (by first | exact Or.inl rfl | exact Or.inr rfl)) (pss_one (ps_if (pt_cmpR op_lt (pe_ixOwn T.mt_Sizes_getitem (fnIn_of T.F_Sizes_getitem) (raw0 (ok_Sizes_getitem T) (bd_Sizes_getitem T)) (hr.mono (by decide)) pass0 (pv 0) (pv 2)) (pe_ixOwn T.mt_Sizes_getitem (fnIn_of T.F_Sizes_getitem) (raw0 (ok_Sizes_getitem T) (bd_Sizes_getitem T)) (hr.mono (by decide)) pass0 (pv 1) (pv 2)) (nomark _)) (pss_one (ps_raise rfl (takes_of rfl rfl rfl rfl) (pm_NotEnough T (hr.mono (by decide)) rfl (pv 2)))) pss_nil))) (pss_one (ps_ret (pe_makeSS T.mk_Sizes (raw0 (ok_Sizes_init T) (bd_Sizes_init T)) (hr.mono (by decide)) (fun σ => passF σ) rfl T.m_Sizes (pa_cons (pe_dc (own := [("name", 2)]) rfl sc_Sizes_sub.nd (pi_keys (pe_fldK (K0 := K) rfl (pv 0) rfl)) (blkOk_by (N := N_Sizes_sub) (sc := defScope S_Sizes_sub) (by decide +kernel)) (fun _ _ _ _ _ => (pg_name (i := 2) sc_Sizes_sub.nd rfl (by first | exact Or.inl rfl | exact Or.inr rfl))) (fun _ _ _ _ _ => pts_nil) (fun _ _ _ _ _ => (pv 2)) (fun _ _ _ _ _ => (pe_op op_sub (pe_ixOwn T.mt_Sizes_getitem (fnIn_of T.F_Sizes_getitem) (raw0 (ok_Sizes_getitem T) (bd_Sizes_getitem T)) (hr.mono (by decide)) pass0 (pv 0) (pv 2)) (pe_ixOwn T.mt_Sizes_getitem (fnIn_of T.F_Sizes_getitem) (raw0 (ok_Sizes_getitem T) (bd_Sizes_getitem T)) (hr.mono (by decide)) pass0 (pv 1) (pv 2))))) pa_nil)))))), ?_⟩
    rcases h with ⟨b, m2, rfl, sb, cb, q, qe⟩ | h
    · obtain ⟨dx, dk, od, h1, h2, h3⟩ := sa.same sF
      obtain ⟨dx2, dk2, od2, g1, g2, g3⟩ := sb.same sF
      refine ⟨_, rfl, r_nil ⟨_, rfl, .inl ⟨b, _, _, rfl, g1, ?_⟩⟩⟩
      have hl2 : (m.map (·.1)).length < 64 := by rw [List.length_map]; exact ca.ok.2.1
      refine ⟨_, rfl, b, _, dx2, _, _, rfl, g1, T.cl_Sizes, T.na_Sizes_kept, rfl, dk2, od2, rfl, .inl ⟨kvm m2, g3, for_it walk_keys (fun i σ' H' => H' = H ∧ (∃ z, σ' = [some (.ref a), some (.ref b), z]) ∧ (((m2.map (·.1)).take i).all fun y => !decide (val m y < val m2 y)) = true) ⟨rfl, ⟨_, rfl⟩, rfl⟩ (fun i σ' H' _ z => by rw [z.1]; exact g3) ?turn ?fin⟩⟩
      case turn =>
        rintro i x σ' H2 H3 hi ⟨rfl, ⟨z, rfl⟩, al⟩ ⟨rfl, k, v, e, rfl⟩
        obtain ⟨p, ep, rfl, rfl⟩ := kvm_at e
        have em : (m2.map (·.1))[i]? = some p.1 := by rw [List.getElem?_map, ep]; rfl
        refine ⟨_, rfl, _, rfl, a, dx, _, rfl, h1, a, m, _, rfl, sa.same sF, .inl ⟨p.1, rfl, _, rfl, _, rfl, b, dx2, _, rfl, g1, b, m2, _, rfl, sb.same sF, .inl ⟨p.1, rfl, _, _, rfl, rfl, _, rfl, ?_⟩⟩⟩
        refine ite2 (fun lt => ?_) (fun nlt => ?_)
        · refine ⟨_, rfl, fun d hd => qe p.1 ?_ d hd⟩
          unfold short
          rw [find_take (i := i) (by rw [List.length_map]; rw [kvm_len] at hi; omega) al, List.drop_eq_getElem_cons (by rw [List.length_map]; rw [kvm_len] at hi; exact hi), List.find?_cons]
          have e2 : (m2.map (·.1))[i]'(by rw [List.length_map]; rw [kvm_len] at hi; exact hi) = p.1 := (List.getElem_eq_iff _).mpr em
          rw [e2, lt]
        · refine ⟨rfl, ⟨_, rfl⟩, ?_⟩
          rw [List.take_succ, em, List.all_append, al]
          show ((!decide (val m p.1 < val m2 p.1)) && true) = true
          rw [show decide (val m p.1 < val m2 p.1) = false from Bool.eq_false_iff.mpr nlt]
          rfl
      case fin =>
        rintro σ' H' ⟨rfl, ⟨z, rfl⟩, al⟩
        have hs : short m m2 = none := by
          unfold short
          rw [find_take (i := (kvm m2).length) (by rw [kvm_len, List.length_map]; exact Nat.le_refl _) al, List.drop_of_length_le (by rw [kvm_len, List.length_map]; exact Nat.le_refl _)]
          rfl
        have le := short_none hs ca.ok.val0
        refine ⟨_, rfl, a, _, dx, _, _, rfl, h1, T.cl_Sizes, T.na_Sizes_kept, rfl, dk, od, rfl, .inl ⟨kvm m, h3, fun D hD => dc_gw walk_keys (fun _ => true) (fun i => Sum.inr ((m.map (·.1)).getD i "")) (fun i y _ => y = V.int ((fun y => val m y - val m2 y) ((m.map (·.1)).getD i ""))) (fun _ _ _ _ _ h => h) sF hD (by rw [kvm_len]; rw [List.length_map] at hl2; omega) (fun H' s' => s' _ _ h3) ?lcs ?lcd⟩⟩
        case lcs =>
          rintro i xv F2 H2 H3 Qn Qs hi gw ⟨rfl, k, v, e, rfl⟩ qn qs
          obtain ⟨p, ep, rfl, rfl⟩ := kvm_at e
          have ey := kvm_getD ep
          have ss : Same F H3 := same_trans sF gw.hh
          have sa3 := sa.same ss
          have sb3 := sb.same ss
          obtain ⟨dx3, _, _, f1, _, _⟩ := id sa3
          obtain ⟨dx4, _, _, e1', _, _⟩ := id sb3
          rw [ey] at qn
          exact ⟨rfl, yes_then2 ⟨_, rfl, _, rfl, _, rfl, a, dx3, _, rfl, f1, a, m, _, rfl, sa3, .inl ⟨p.1, rfl, _, rfl, _, rfl, b, dx4, _, rfl, e1', b, m2, _, rfl, sb3, .inl ⟨p.1, rfl, _, _, rfl, rfl, qn rfl _ F2 H3 (Gw.refl gw.fh) rfl⟩⟩⟩⟩
        case lcd =>
          intro zs F2 H' gw fD pr hH
          rw [kvm_len, ← List.length_map (f := fun x : Str × Int => x.1)] at pr hH
          rw [filter_true] at pr
          rw [dk_tab (f := fun y => val m y - val m2 y) (paired_eq pr)] at hH
          obtain ⟨ok, cn, hv⟩ := tab_made (f := fun y => val m y - val m2 y) hl2 (fun y hy => words_of ca hy) (fun y => by have z1 := le y; show 0 ≤ val m y - val m2 y; omega)
          refine r_nil (mk_sz gw.fh (.inl hH) ok fun r F' H4 g4 sr => ?_)
          refine q hs r _ F' H4 (gw.trans g4) sr cn fun y => ?_
          rw [hv]
          by_cases z : y ∈ m.map (·.1)
          · rw [if_pos z]
          · have z1 := le y
            have z2 := cb.ok.val0 y
            rw [if_neg z]
            rw [val_off z] at z1 ⊢
            omega
    · exact ⟨_, rfl, r_nil ⟨_, rfl, .inr h⟩⟩
theorem bd_Sizes_sub {K : PySem.W.Frag} {mg : Str → Option Value} (T : Tx K mg) : Binds K (D_Sizes_sub K) ["self", "other"] [] := T.F_Sizes_sub.bindsN fun _ _ _ _ _ _ us hl => match us, hl with | [_, _], _ => rfl
/-! ### many times, and calls -/
def NoInt0 (K : PySem.W.Frag) (H : Hp) (v : V) : Prop := (∃ n, v = .int n ∧ n < 0) ∨ (∃ b, v = .bl b) ∨ ∃ t, TyX K H v t ∧ PySem.W.kitOne K t (.type "int") = some false
theorem noInt0_sp {K : PySem.W.Frag} {H : Hp} {Q : VK} {E : XK} {v : V} (h : NoInt0 K H v) (q : Q (.bl false) H) : spIsInt K [v, .int 0] H Q E := by
  rcases h with ⟨n, rfl, h⟩ | h | h
  · refine ⟨_, _, rfl, .inl ⟨n, rfl, ?_⟩⟩
    rw [decide_eq_false (by omega)]
    exact q
  · exact ⟨_, _, rfl, .inr (.inl ⟨h, q⟩)⟩
  · exact ⟨_, _, rfl, .inr (.inr ⟨h, q⟩)⟩
theorem int0_sp {K : PySem.W.Frag} {H : Hp} {Q : VK} {E : XK} {n : Int} (h : 0 ≤ n) (q : Q (.bl true) H) : spIsInt K [.int n, .int 0] H Q E := by
  refine ⟨_, _, rfl, .inl ⟨n, rfl, ?_⟩⟩
  rw [decide_eq_true h]
  exact q
def spMul (K : PySem.W.Frag) : Sp := fun vs H Q E => ∃ F a m v, vs = [.ref a, v] ∧ Same F H ∧ SzAt K F a m ∧ Cn m ∧ ((∃ n : Int, v = .int n ∧ 0 ≤ n ∧ n < 2 ^ 64 ∧ ∀ r m3 F' H', Gw F H F' H' → SzAt K F' r m3 → Cn m3 → (∀ y, val m3 y = val m y * n) → Q (.ref r) H') ∨ (NoInt0 K H v ∧ Rz K v H E))
theorem ok_Sizes_mul (T : Tx K mg) : FnOk P w K mg base (CX P w) 5 (A_Sizes_mul K) (D_Sizes_mul K) ["self", "many"] (spMul K) := by
  refine T.F_Sizes_mul.ok sc_Sizes_mul (fun vs H Q E h => ?_) (fun cdv A outer s H vs Q E hr h => ?_)
  · obtain ⟨F, a, m, v, rfl, _⟩ := h
    rfl
  · obtain ⟨F, a, m, v, rfl, sF, sa, ca, h⟩ := h
    refine ⟨_, (pss_cons (ps_if (pt_not (pt_val (pe_call (ok_is_integer T) (hr.mono (by decide)) rfl T.m_is_integer T.F_is_integer.kp (bd1_is_integer T).choose_spec.2 (bd1_is_integer T).choose_spec.1 pass0 (pa_cons (pv 1) pa_nil)))) (pss_one (ps_raise rfl (takes_of rfl rfl rfl rfl) (pm_InvalidSizes T (hr.mono (by decide)) rfl (pv 1)))) pss_nil) (pss_one (ps_ret (pe_makeSS T.mk_Sizes (raw0 (ok_Sizes_init T) (bd_Sizes_init T)) (hr.mono (by decide)) (fun σ => passF σ) rfl T.m_Sizes (pa_cons (pe_dc (own := [("name", 2)]) rfl sc_Sizes_mul.nd (pi_keys (pe_fldK (K0 := K) rfl (pv 0) rfl)) (blkOk_by (N := N_Sizes_mul) (sc := defScope S_Sizes_mul) (by decide +kernel)) (fun _ _ _ _ _ => (pg_name (i := 2) sc_Sizes_mul.nd rfl (by first | exact Or.inl rfl | exact Or.inr rfl))) (fun _ _ _ _ _ => pts_nil) (fun _ _ _ _ _ => (pv 2)) (fun _ _ _ _ _ => (pe_op op_mul (pe_ixOwn T.mt_Sizes_getitem (fnIn_of T.F_Sizes_getitem) (raw0 (ok_Sizes_getitem T) (bd_Sizes_getitem T)) (hr.mono (by decide)) pass0 (pv 0) (pv 2)) (pv 1)))) pa_nil))))), ?_⟩
    rcases h with ⟨n, rfl, n0, n1, q⟩ | ⟨h, hz⟩
    · obtain ⟨dx, dk, od, h1, h2, h3⟩ := sa.same sF
      refine ⟨_, rfl, r_nil (int0_sp n0 ⟨_, rfl, iteF ?_⟩)⟩
      have hl2 : (m.map (·.1)).length < 64 := by rw [List.length_map]; exact ca.ok.2.1
      refine ⟨_, rfl, a, _, dx, _, _, rfl, h1, T.cl_Sizes, T.na_Sizes_kept, rfl, dk, od, rfl, .inl ⟨kvm m, h3, fun D hD => dc_gw walk_keys (fun _ => true) (fun i => Sum.inr ((m.map (·.1)).getD i "")) (fun i y _ => y = V.int ((fun y => val m y * n) ((m.map (·.1)).getD i ""))) (fun _ _ _ _ _ h => h) sF hD (by rw [kvm_len]; rw [List.length_map] at hl2; omega) (fun H' s' => s' _ _ h3) ?lcs ?lcd⟩⟩
      case lcs =>
        rintro i xv F2 H2 H3 Qn Qs hi gw ⟨rfl, k, v, e, rfl⟩ qn qs
        obtain ⟨p, ep, rfl, rfl⟩ := kvm_at e
        have ey := kvm_getD ep
        have ss : Same F H3 := same_trans sF gw.hh
        have sa3 := sa.same ss
        obtain ⟨dx3, _, _, f1, _, _⟩ := id sa3
        rw [ey] at qn
        exact ⟨rfl, yes_then2 ⟨_, rfl, _, rfl, _, rfl, a, dx3, _, rfl, f1, a, m, _, rfl, sa3, .inl ⟨p.1, rfl, _, rfl, _, _, rfl, rfl, .inr ⟨by omega, n1⟩, qn rfl _ F2 H3 (Gw.refl gw.fh) rfl⟩⟩⟩
      case lcd =>
        intro zs F2 H' gw fD pr hH
        rw [kvm_len, ← List.length_map (f := fun x : Str × Int => x.1)] at pr hH
        rw [filter_true] at pr
        rw [dk_tab (f := fun y => val m y * n) (paired_eq pr)] at hH
        obtain ⟨ok, cn, hv⟩ := tab_made (f := fun y => val m y * n) hl2 (fun y hy => words_of ca hy) (fun y => Int.mul_nonneg (ca.ok.val0 y) n0)
        refine r_nil (mk_sz gw.fh (.inl hH) ok fun r F' H4 g4 sr => ?_)
        refine q r _ F' H4 (gw.trans g4) sr cn fun y => ?_
        rw [hv]
        by_cases z : y ∈ m.map (·.1)
        · rw [if_pos z]
        · rw [if_neg z, val_off z, Int.zero_mul]
    · exact ⟨_, rfl, r_nil (noInt0_sp h ⟨_, rfl, iteT ⟨_, rfl, fun d hd => hz d _ (same_new hd) hd upd_same⟩⟩)⟩
theorem bd_Sizes_mul {K : PySem.W.Frag} {mg : Str → Option Value} (T : Tx K mg) : Binds K (D_Sizes_mul K) ["self", "many"] [] := T.F_Sizes_mul.bindsN fun _ _ _ _ _ _ us hl => match us, hl with | [_, _], _ => rfl
def NoWord (K : PySem.W.Frag) (H : Hp) (v : V) : Prop := (∃ s, v = .str s ∧ s.length ≤ sizeLine ∧ isWord s = false) ∨ NoStr K H v
theorem noWord_sp {K : PySem.W.Frag} {H : Hp} {Q : VK} {E : XK} {v : V} (h : NoWord K H v) (q : Q (.bl false) H) : spIsWord K [v] H Q E := by
  rcases h with ⟨s, rfl, l, h⟩ | h
  · refine ⟨_, rfl, .inl ⟨s, rfl, l, ?_⟩⟩
    rw [h]
    exact q
  · exact ⟨_, rfl, .inr ⟨h, q⟩⟩
theorem word_sp {K : PySem.W.Frag} {H : Hp} {Q : VK} {E : XK} {z : Str} (h : isWord z = true) (q : Q (.bl true) H) : spIsWord K [.str z] H Q E := by
  refine ⟨_, rfl, .inl ⟨z, rfl, word_len h, ?_⟩⟩
  rw [h]
  exact q
def spSzCall (K : PySem.W.Frag) : Sp := fun vs H Q E => ∃ F a m n v, vs = [.ref a, n, v] ∧ Same F H ∧ SzAt K F a m ∧ Cn m ∧ ((∃ z k, n = .str z ∧ isWord z = true ∧ v = .int k ∧ 0 ≤ k ∧ m.length < 62 ∧ ∀ r m3 F' H', Gw F H F' H' → SzAt K F' r m3 → Cn m3 → (∀ y, val m3 y = val m y + if y = z then k else 0) → Q (.ref r) H') ∨
  (NoWord K H n ∧ Rz K n H E) ∨ ((∃ s, n = .str s ∧ s.length ≤ sizeLine ∧ isWord s = true) ∧ NoInt0 K H v ∧ Rz K v H E))
theorem ok_Sizes_call (T : Tx K mg) : FnOk P w K mg base (CX P w) 6 (A_Sizes_call K) (D_Sizes_call K) ["self", "name", "by"] (spSzCall K) := by
  refine T.F_Sizes_call.ok sc_Sizes_call (fun vs H Q E h => ?_) (fun cdv A outer s H vs Q E hr h => ?_)
  · obtain ⟨F, a, m, n, v, rfl, _⟩ := h
    rfl
  · obtain ⟨F, a, m, n, v, rfl, sF, sa, ca, h⟩ := h
    refine ⟨_, (pss_cons (ps_if (pt_not (pt_val (pe_call (ok_is_word T) (hr.mono (by decide)) rfl T.m_is_word T.F_is_word.kp (bd_is_word T) .nil pass0 (pa_cons (pv 1) pa_nil)))) (pss_one (ps_raise rfl (takes_of rfl rfl rfl rfl) (pm_InvalidSizes T (hr.mono (by decide)) rfl (pv 1)))) pss_nil) (pss_cons (ps_if (pt_not (pt_val (pe_call (ok_is_integer T) (hr.mono (by decide)) rfl T.m_is_integer T.F_is_integer.kp (bd1_is_integer T).choose_spec.2 (bd1_is_integer T).choose_spec.1 pass0 (pa_cons (pv 2) pa_nil)))) (pss_one (ps_raise rfl (takes_of rfl rfl rfl rfl) (pm_InvalidSizes T (hr.mono (by decide)) rfl (pv 2)))) pss_nil) (pss_one (ps_ret (pe_binSK (K0 := K) (C := He.ga K "Sizes") (nm := "add") rfl rfl ⟨T.kc_Sizes.sf, T.mt_Sizes_add.at_, T.mt_Sizes_add.fn, T.ro_Sizes_add⟩ (raw0 (ok_Sizes_add T) (bd_Sizes_add T)) (hr.mono (by decide)) (fun σ => passF σ) (pv 0) (pe_makeSS T.mk_Sizes (raw0 (ok_Sizes_init T) (bd_Sizes_init T)) (hr.mono (by decide)) (fun σ => passF σ) rfl T.m_Sizes (pa_cons (pe_disp (pps_cons (pv 1) (pv 2) pps_nil) rfl rfl (by simp) (by decide)) pa_nil))))))), ?_⟩
    rcases h with ⟨z, k, rfl, hz, rfl, k0, ml, q⟩ | ⟨h, hz⟩ | ⟨⟨z, rfl, l, e⟩, h, hz⟩
    · refine ⟨_, rfl, r_nil (word_sp hz ⟨_, rfl, iteF ⟨_, rfl, r_nil (int0_sp k0 ⟨_, rfl, iteF ?_⟩)⟩⟩)⟩
      refine ⟨_, rfl, fun p hp => ⟨_, rfl, _, rfl, upd_same, [(Sum.inr z, .int k)], rfl, by show 1 ≤ 15; omega, r_nil ?_⟩⟩
      have e1 : upd (upd H p (.dK [])) p (.dK (mergeK [] [(Sum.inr z, V.int k)])) = upd H p (.dK (kvm [(z, k)])) := by
        funext b
        by_cases hb : b = p
        · rw [hb, upd_same, upd_same]; rfl
        · rw [upd_ne hb, upd_ne hb, upd_ne hb]
      rw [e1]
      have ok : SrcOk [(z, k)] := ⟨List.pairwise_singleton _ _, by show 1 < 64; omega, fun p hp => by rw [List.mem_singleton.mp hp]; exact ⟨hz, word_len hz, k0⟩⟩
      have g0 := Gw.junk (o := .dK (kvm [(z, k)])) sF hp
      refine mk_sz g0.fh (.inl upd_same) ok fun r F' H4 g4 sr => ?_
      have s4 : Same F F' := g4.ff
      obtain ⟨dx, dk, od, h1, h2, h3⟩ := (sa.same s4).same g4.fh
      obtain ⟨dx2, _, _, h4, _, _⟩ := sr.same g4.fh
      have l1 := canon_len [(z, k)]
      refine ⟨a, dx, _, rfl, h1, .inl ⟨r, _, _, rfl, h4⟩, F', a, m, _, rfl, g4.fh, sa.same s4, ca, .inl ⟨r, _, rfl, sr, Cn.of ok, by simp at l1; omega, fun r2 m3 F2 H5 g5 sr2 cn hv => ?_⟩⟩
      refine q r2 m3 F2 H5 (g0.trans (g4.trans g5)) sr2 cn fun y => ?_
      rw [hv, val_canon ok.val0]
      show val m y + (if z = y then some k else none).getD 0 = _
      by_cases e : y = z
      · rw [if_pos e, if_pos e.symm]; rfl
      · rw [if_neg e, if_neg fun q => e q.symm]; rfl
    · exact ⟨_, rfl, r_nil (noWord_sp h ⟨_, rfl, iteT ⟨_, rfl, fun d hd => hz d _ (same_new hd) hd upd_same⟩⟩)⟩
    · refine ⟨_, rfl, r_nil ⟨_, rfl, .inl ⟨z, rfl, l, _, rfl, ?_⟩⟩⟩
      rw [e]
      exact iteF ⟨_, rfl, r_nil (noInt0_sp h ⟨_, rfl, iteT ⟨_, rfl, fun d hd => hz d _ (same_new hd) hd upd_same⟩⟩)⟩
theorem bd2_Sizes_call {K : PySem.W.Frag} {mg : Str → Option Value} (T : Tx K mg) : ∃ ds, Vals [.int 1] ds ∧ Binds K (D_Sizes_call K) ["self", "name", "by"] ds := T.F_Sizes_call.binds1 2 0 (by decide) (by decide) fun _ _ _ _ _ _ _ us its h1 h2 => match us, its, h1, h2 with | [_, _], [_], _, _ => ⟨_, rfl, rfl⟩
theorem bd3_Sizes_call {K : PySem.W.Frag} {mg : Str → Option Value} (T : Tx K mg) : ∃ ds, Vals [] ds ∧ Binds K (D_Sizes_call K) ["self", "name", "by"] ds := T.F_Sizes_call.binds1 3 1 (by decide) (by decide) fun _ _ _ _ _ _ _ us its h1 h2 => match us, its, h1, h2 with | [_, _, _], [_], _, _ => ⟨_, rfl, rfl⟩
end

end Lp

set_option Elab.async false
set_option linter.all false
set_option maxRecDepth 100000
set_option maxHeartbeats 4000000
namespace Lp
open PySem PySem.Spec PyProof.Rows L2
/-! ### texts of sizes -/
def SmallM (m : List (Str × Int)) : Prop := ∀ p ∈ m, p.2.natAbs.log2 < 1920
def szRow (p : Str × Int) : Str := p.1 ++ (" " : Str) ++ Str.ofString (toString p.2)
def szStr (m : List (Str × Int)) : Str := if m = [] then "-" else Txt.join " " (m.map szRow)
theorem szRow_len {m : List (Str × Int)} (c : Cn m) (s : SmallM m) : ∀ p ∈ m, (szRow p).length ≤ 2000 := fun p hp => by
  unfold szRow
  rw [strLen_append, strLen_append]
  have h1 := isWord_len (c.ok.2.2 p hp).1
  have h2 := int_text_len_1921 (s p hp)
  have h3 : Str.length (" " : Str) = 1 := rfl
  omega
theorem sum_le {ys : List Str} {b : Nat} (h : ∀ y ∈ ys, y.length ≤ b) : (ys.map (·.length)).sum ≤ ys.length * b := by
  induction ys with
  | nil => simp
  | cons y ys ih =>
    have h1 := h y List.mem_cons_self
    have h2 := ih fun z hz => h z (List.mem_cons_of_mem _ hz)
    rw [List.map_cons, List.sum_cons, List.length_cons, Nat.succ_mul]
    omega
def spSzStr (K : PySem.W.Frag) : Sp := fun vs H Q _ => ∃ a m, vs = [.ref a] ∧ SzAt K H a m ∧ Cn m ∧ SmallM m ∧ ∀ H', Same H H' → Q (.str (szStr m)) H'
abbrev N_Sizes_str : List Str := ["self", "name"]
theorem sc_Sizes_str : FnScope N_Sizes_str ["self"] (defScope S_Sizes_str) := ⟨rfl, rfl, rfl, by decide +kernel, rfl, by decide +kernel, by decide +kernel⟩
section
variable {P : Program} {w : World} {K : PySem.W.Frag} {mg : Str → Option Value} {base : Heap}
theorem ok_Sizes_str (T : Tx K mg) : FnOk P w K mg base CX0 1 (A_Sizes_str K) (D_Sizes_str K) ["self"] (spSzStr K) := by
  refine T.F_Sizes_str.ok sc_Sizes_str (fun vs H Q E h => ?_) (fun cdv A outer s H vs Q E hr h => ?_)
  · obtain ⟨a, m, rfl, _⟩ := h
    rfl
  · obtain ⟨a, m, rfl, ⟨dx, dk, od, h1, h2, h3⟩, ca, sm, q⟩ := h
    have hu : (A.deeper (envOfC "Sizes.__str__" (defScope S_Sizes_str) s.heap.objs.size (A_Sizes_str K) cdv)).units + 1 < cLine := by have := hr.units; omega
    have hu0 : (A.deeper (envOfC "Sizes.__str__" (defScope S_Sizes_str) s.heap.objs.size (A_Sizes_str K) cdv)).units < cLine := by omega
    refine ⟨_, PSs.nox (pss_cons (ps_if (pt_cmpR (op_eqDI hu0) (pe_fld (pv 0) rfl) pe_dnewK (nomark _)) (pss_one (ps_ret pe_str)) pss_nil) (pss_one (ps_ret (pe_join pe_str (pe_lc (own := [("name", 1)]) rfl sc_Sizes_str.nd (pi_keys (pe_fldK (K0 := K) rfl (pv 0) rfl)) (blkOk_by (N := N_Sizes_str) (sc := defScope S_Sizes_str) (by decide +kernel)) (fun _ _ _ _ _ => (pg_name (i := 1) sc_Sizes_str.nd rfl (by first | exact Or.inl rfl | exact Or.inr rfl))) (fun _ _ _ _ _ => pts_nil) (fun _ _ _ _ _ => (pe_joinedT (.cons (pe_fmt (pv 1)) (.cons pe_str (.cons (pe_fmt (pe_dget hu (pe_fldK (K0 := K) rfl (pv 0) rfl) (pv 1) (fun _ _ => rfl))) .nil)))))))))), ?_⟩
    refine ⟨_, rfl, a, _, dx, _, _, rfl, h1, T.cl_Sizes, T.na_Sizes_kept, rfl, fun e he => ?_⟩
    have s1 : Same H (upd H e (.dK [])) := same_new he
    refine ⟨dk, e, kvm m, [], rfl, rfl, ⟨.inr ⟨od, s1 _ _ h3⟩, kvm_int m⟩, ⟨.inl upd_same, fun p hp => by simp at hp⟩, _, rfl, ?_⟩
    have e0 : eqDI (kvm m) [] = decide (m = []) := by
      cases m with
      | nil => rfl
      | cons p m => rfl
    rw [e0]
    refine ite2 (fun z => ?_) (fun z => ?_)
    · have z' : m = [] := of_decide_eq_true z
      have q' := q _ s1
      unfold szStr at q'
      rw [if_pos z'] at q'
      exact q'
    · have z' : ¬ m = [] := fun y => z (decide_eq_true y)
      refine ⟨⟨_, rfl⟩, _, rfl, a, _, dx, _, _, rfl, s1 _ _ h1, T.cl_Sizes, T.na_Sizes_kept, rfl, dk, od, rfl, .inl ⟨kvm m, s1 _ _ h3, fun D hD => lc_gw walk_keys (fun _ => true) (fun i y _ => y = V.str (match m[i]? with | some p => szRow p | none => "")) (fun _ _ _ _ _ h => h) (same_refl _) hD (by rw [kvm_len]; have := ca.ok.2.1; omega) (fun H' s' => s' _ _ (s1 _ _ h3)) ?lcs ?lcd⟩⟩
      case lcs =>
        rintro i x F H2 H3 Qn Qs hi gw ⟨rfl, k, v, e, rfl⟩ qn qs
        obtain ⟨p, ep, rfl, rfl⟩ := kvm_at e
        have hp := List.mem_of_getElem? ep
        have hm : p.1 ∈ m.map (·.1) := List.mem_map.mpr ⟨p, hp, rfl⟩
        have dg := dget_kvm (H := H3) (d := dk) (m := m) (y := p.1) (.inr ⟨od, gw.hh _ _ (s1 _ _ h3)⟩) hm
        rw [val_mem ca.nd hp] at dg
        have l1 := isWord_len (ca.ok.2.2 p hp).1
        have l2 := szRow_len ca sm p hp
        have big : (2000 : Nat) ≤ sizeLine := by decide
        unfold szRow at l2
        refine ⟨rfl, yes_then ?_⟩
        refine ⟨_, rfl, .inl ⟨p.1, rfl, by omega, _, rfl, by rw [Str.empty_append]; omega, ?_⟩⟩
        rw [Str.empty_append]
        rw [strLen_append] at l2
        refine ⟨_, rfl, by omega, ?_⟩
        refine ⟨_, rfl, a, _, dx, _, _, rfl, gw.hh _ _ (s1 _ _ h1), T.cl_Sizes, T.na_Sizes_kept, rfl, _, rfl, dk, _, rfl, dg, .inr ⟨p.2, rfl, sm p hp, _, rfl, by rw [strLen_append]; omega, qn rfl _ F H3 (Gw.refl gw.fh) ?_⟩⟩
        rw [ep]
        rfl
      case lcd =>
        intro ys F H' gw fD hH pr
        rw [filter_true, kvm_len] at pr
        have e := paired_eq (g := fun i => V.str (match m[i]? with | some p => szRow p | none => "")) pr
        rw [range_map m _ (fun p => V.str (szRow p)) (fun i p hp => by rw [hp])] at e
        refine ⟨" ", D, m.map szRow, rfl, rfl, .inl (SqL.of (by rw [hH, e, List.map_map]; rfl)), ?_, ?_⟩
        · have l1 := sum_le (ys := m.map szRow) (b := 2000) fun y hy => by
            obtain ⟨p, hp, rfl⟩ := List.mem_map.mp hy
            exact szRow_len ca sm p hp
          rw [List.length_map] at l1
          have l2 := ca.ok.2.1
          have l3 : Str.length (" " : Str) = 1 := rfl
          rw [List.length_map, l3]
          omega
        · have q' := q _ (same_trans s1 gw.hh)
          unfold szStr at q'
          rw [if_neg z'] at q'
          exact q'
theorem bd_Sizes_str {K : PySem.W.Frag} {mg : Str → Option Value} (T : Tx K mg) : Binds K (D_Sizes_str K) ["self"] [] := T.F_Sizes_str.bindsN fun _ _ _ _ _ _ us hl => match us, hl with | [_], _ => rfl
end

end Lp

set_option Elab.async false
set_option linter.all false
set_option maxRecDepth 100000
set_option maxHeartbeats 4000000
namespace Lp
open PySem PySem.Spec PyProof.Rows L2
/-! ### plain laws of data -/
theorem lay_ints : ∀ ns : List Int, PyData.canLayAll0 (ns.map PyData.int) = true
  | [] => rfl
  | _ :: ns => by
    show (true && PyData.canLayAll0 (ns.map PyData.int)) = true
    rw [lay_ints ns]; rfl
theorem dep_ints : ∀ ns : List Int, PyData.depthAll (ns.map PyData.int) = 0
  | [] => rfl
  | _ :: ns => by
    show max 0 (PyData.depthAll (ns.map PyData.int)) = 0
    rw [dep_ints ns]; rfl
theorem shaped_ints (ns : List Int) : SeqAt.shaped (.list (ns.map PyData.int)) = true := by
  unfold SeqAt.shaped
  rw [show PyData.canLay0 (.list (ns.map PyData.int)) = true from lay_ints ns, show PyData.depth (.list (ns.map PyData.int)) = 1 from by show PyData.depthAll _ + 1 = 1; rw [dep_ints]]
  rfl
theorem dpAll_ints {K : PySem.W.Frag} {H : Hp} : ∀ ns : List Int, DpAll K H (ns.map V.int) (ns.map PyData.int)
  | [] => .nil
  | n :: ns => .cons (.int n) (dpAll_ints ns)
/-! ### draws -/
def Dr (H : Hp) (p : Addr) : Prop := ∃ c s : Int, H p = some (.lst [.int c, .int s]) ∧ 0 ≤ s ∧ s < 2147483647
theorem Dr.same {H H' : Hp} {p : Addr} (s : Same H H') (d : Dr H p) : Dr H' p := by
  obtain ⟨c, z, h, a, b⟩ := d
  exact ⟨c, z, s _ _ h, a, b⟩
def spDraws (K : PySem.W.Frag) : Sp := fun vs H Q _ => ∃ (a : Addr) (ns : List Int) (k : Int), vs = [.ref a, .int k] ∧ SqL K H a (ns.map V.int) ∧ ns.length ≤ 63 ∧ 0 ≤ k ∧ k ≤ 1000 ∧
  ∀ p H', Same H H' → H p = none → Dr H' p → Q (.ref p) H'
def spDraw : Sp := fun vs H Q _ => ∃ (l : Addr) (n : Int), vs = [.ref l, .int n] ∧ Dr H l ∧ 0 < n ∧ n ≤ 1000000 ∧
  ∀ (r c s : Int), 0 ≤ r → r < n → 0 ≤ s → s < 2147483647 → Q (.int r) (upd H l (.lst [.int c, .int s]))
abbrev N_law_draws : List Str := ["_law_script", "_law_k", "_law_cell", "_law_seed"]
theorem sc_law_draws : FnScope N_law_draws ["_law_script", "_law_k"] (defScope S_law_draws) := ⟨rfl, rfl, rfl, by decide +kernel, rfl, by decide +kernel, by decide +kernel⟩
abbrev N_law_draw : List Str := ["_law_draws_here", "_law_upto", "_law_digit"]
theorem sc_law_draw : FnScope N_law_draw ["_law_draws_here", "_law_upto"] (defScope S_law_draw) := ⟨rfl, rfl, rfl, by decide +kernel, rfl, by decide +kernel, by decide +kernel⟩
section
variable {P : Program} {w : World} {K : PySem.W.Frag} {mg : Str → Option Value} {base : Heap}
theorem atI_ints {ns : List Int} {i : Int} (h0 : 0 ≤ i) (h1 : i < (ns.length : Int)) : ∃ n, atI (ns.map V.int) i = some (.int n) := by
  unfold atI ixN
  rw [if_pos h0, List.length_map, if_pos h1]
  have hl : i.toNat < ns.length := by omega
  exact ⟨ns[i.toNat], by simp [List.getElem?_eq_getElem hl]⟩
theorem ok_law_draws (T : Tx K mg) : FnOk P w K mg base CX0 1 (A_law_draws K) (D_law_draws K) ["_law_script", "_law_k"] (spDraws K) := by
  refine T.F_law_draws.ok sc_law_draws (fun vs H Q E h => ?_) (fun cdv A outer s H vs Q E hr h => ?_)
  · obtain ⟨a, ns, k, rfl, _⟩ := h
    rfl
  · obtain ⟨a, ns, k, rfl, hS, hl, k0, k1, q⟩ := h
    have hu64 := hr.units
    refine ⟨_, PSs.nox (pss_cons (ps_set (i := 2) sc_law_draws.nd rfl (by first | exact Or.inl rfl | exact Or.inr rfl) pe_int) (pss_mid (ps_if (pt_cmpR (op_neD hu64) (pv 0) (pe_lst pa_nil) (nomark _)) (pss_one (ps_set (i := 2) sc_law_draws.nd rfl (by first | exact Or.inl rfl | exact Or.inr rfl) (pe_ix ix_list (pv 0) (pe_op op_mod (pe_callTy call_int1 (by rfl) T.z_int (by decide +kernel) (pa_cons (pv 1) pa_nil)) (pe_callB call_len (by rfl) T.z_len (by decide +kernel) (pa_cons (pv 0) pa_nil))) (fun _ _ => rfl)))) pss_nil) (pss_mid (ps_if (pt_cmpR op_ge (pv 1) (pe_callB call_len (by rfl) T.z_len (by decide +kernel) (pa_cons (pv 0) pa_nil)) (nomark _)) (pss_one (ps_set (i := 2) sc_law_draws.nd rfl (by first | exact Or.inl rfl | exact Or.inr rfl) (pe_op op_mod (pe_callTy call_int1 (by rfl) T.z_int (by decide +kernel) (pa_cons (pv 2) pa_nil)) pe_int))) pss_nil) (pss_cons (ps_set (i := 3) sc_law_draws.nd rfl (by first | exact Or.inl rfl | exact Or.inr rfl) (pe_op op_mod (pe_op op_mul (pe_callTy call_int1 (by rfl) T.z_int (by decide +kernel) (pa_cons (pe_op op_add (pe_op op_add (pe_op op_mod (pe_callTy call_int1 (by rfl) T.z_int (by decide +kernel) (pa_cons (pv 2) pa_nil)) pe_int) (pe_op op_mul pe_int (pv 1))) pe_int) pa_nil)) pe_int) pe_int)) (pss_one (ps_ret (pe_lst (pa_cons (pe_op op_mul (pv 2) (pe_callTy call_int1 (by rfl) T.z_int (by decide +kernel) (pa_cons (pe_cmpR op_ge (pv 2) (pe_op op_pow pe_int pe_int) (nomark _)) pa_nil))) (pa_cons (pv 3) pa_nil))))))))), ?_⟩
    -- cell = 0; if script != []
    refine ⟨fun σ' H' => ∃ (cell : Int) (p : Addr), σ' = [some (.ref a), some (.int k), some (.int cell), none] ∧ Same H H', ?_, ?_⟩
    · refine ⟨_, rfl, by show 0 ≤ sizeLine; exact Nat.zero_le _, fun p hp => ?_⟩
      have s1 : Same H (upd H p (.lst [])) := same_new hp
      have hS1 : SqL K (upd H p (.lst [])) a (ns.map V.int) := s1.seq hS
      refine ⟨_, _, .lst hS1 (dpAll_ints ns), .lst (SqL.of upd_same) .nil, shaped_ints ns, rfl, _, rfl, ?_⟩
      refine ite2 (fun e => ?_) (fun _ => ?_)
      · have hpos : 0 < ns.length := by
          cases ns with
          | nil => cases e
          | cons _ _ => exact Nat.succ_pos _
        have m0 := Int.emod_nonneg k (show (ns.length : Int) ≠ 0 by omega)
        have m1 := Int.emod_lt_of_pos k (show (0 : Int) < (ns.length : Int) by omega)
        obtain ⟨n, hn⟩ := atI_ints (ns := ns) m0 m1
        refine ⟨_, rfl, _, rfl, .inl ⟨_, rfl, _, rfl, _, _, rfl, .inl ⟨_, hS1, rfl⟩, _, _, rfl, rfl, by rw [List.length_map]; omega, a, _, _, _, rfl, rfl, hS1, by rw [List.length_map]; exact hn, ?_⟩⟩
        exact ⟨n, p, rfl, s1⟩
      · exact ⟨0, p, rfl, s1⟩
    rintro σ1 H1 ⟨cell, p, rfl, s1⟩
    have hS1 : SqL K H1 a (ns.map V.int) := s1.seq hS
    -- if k >= len(script)
    refine ⟨fun σ' H' => ∃ (cell : Int), σ' = [some (.ref a), some (.int k), some (.int cell), none] ∧ H' = H1, ?_, ?_⟩
    · refine ⟨_, rfl, _, rfl, _, _, rfl, .inl ⟨_, hS1, rfl⟩, _, _, rfl, rfl, _, rfl, ?_⟩
      refine ite2 (fun _ => ?_) (fun _ => ?_)
      · refine ⟨_, rfl, .inl ⟨_, rfl, _, _, rfl, rfl, by show (0 : Int) < 1000003; decide, ?_⟩⟩
        exact ⟨_, rfl, rfl⟩
      · exact ⟨_, rfl, rfl⟩
    rintro σ2 H2 ⟨cell, rfl, rfl⟩
    have c0 := Int.emod_nonneg cell (show (2147483629 : Int) ≠ 0 by decide)
    have c1 := Int.emod_lt_of_pos cell (show (0 : Int) < 2147483629 by decide)
    -- seed = ..; return [..]
    refine ⟨_, rfl, .inl ⟨_, rfl, _, _, rfl, rfl, by show (0 : Int) < 2147483629; decide, _, rfl, _, _, rfl, rfl, .inl ⟨by decide, by decide⟩, _, _, rfl, rfl, _, _, rfl, rfl, .inl ⟨_, rfl, _, _, rfl, rfl, .inr ⟨by decide, by decide⟩, _, _, rfl, rfl, by show (0 : Int) < 2147483647; decide, ?_⟩⟩⟩
    refine ⟨_, rfl, _, rfl, _, _, rfl, rfl, ⟨by decide, by decide, by decide⟩, _, _, rfl, rfl, .inr ⟨_, rfl, _, _, rfl, rfl, .inr ?_, _, rfl, by show 2 ≤ sizeLine; decide, fun p2 hp2 => ?_⟩⟩
    · constructor <;> (split <;> decide)
    · refine q p2 _ (same_mut s1 (by
        cases e : H p2 with
        | none => rfl
        | some o => rw [s1 _ _ e] at hp2; cases hp2)) (by
        cases e : H p2 with
        | none => rfl
        | some o => rw [s1 _ _ e] at hp2; cases hp2) ⟨_, _, upd_same, ?_, ?_⟩
      · exact Int.emod_nonneg _ (by decide)
      · exact Int.emod_lt_of_pos _ (by decide)
theorem ok_law_draw (T : Tx K mg) : FnOk P w K mg base CX0 1 (A_law_draw K) (D_law_draw K) ["_law_draws_here", "_law_upto"] spDraw := by
  refine T.F_law_draw.ok sc_law_draw (fun vs H Q E h => ?_) (fun cdv A outer s H vs Q E hr h => ?_)
  · obtain ⟨a, n, rfl, _⟩ := h
    rfl
  · obtain ⟨l, n, rfl, ⟨c, z, hl, z0, z1⟩, n0, n1, q⟩ := h
    refine ⟨_, PSs.nox (pss_cons (ps_if (pt_cmpR op_gt (pe_ix ix_list (pv 0) pe_int (fun _ _ => rfl)) pe_int (nomark _)) (pss_cons (ps_set (i := 2) sc_law_draw.nd rfl (by first | exact Or.inl rfl | exact Or.inr rfl) (pe_op op_mod (pe_callTy call_int1 (by rfl) T.z_int (by decide +kernel) (pa_cons (pe_ix ix_list (pv 0) pe_int (fun _ _ => rfl)) pa_nil)) (pv 1))) (pss_cons (ps_asg (pe_op op_fdiv (pe_ix ix_list (pv 0) pe_int (fun _ _ => rfl)) (pv 1)) (pg_sub (pv 0) pe_int set_list)) (pss_one (ps_ret (pv 2))))) pss_nil) (pss_cons (ps_asg (pe_op op_mod (pe_callTy call_int1 (by rfl) T.z_int (by decide +kernel) (pa_cons (pe_op op_add (pe_op op_mul (pe_ix ix_list (pv 0) pe_int (fun _ _ => rfl)) pe_int) pe_int) pa_nil)) pe_int) (pg_sub (pv 0) pe_int set_list)) (pss_one (ps_ret (pe_op op_mod (pe_callTy call_int1 (by rfl) T.z_int (by decide +kernel) (pa_cons (pe_op op_fdiv (pe_op op_mod (pe_callTy call_int1 (by rfl) T.z_int (by decide +kernel) (pa_cons (pe_op op_mul (pe_ix ix_list (pv 0) pe_int (fun _ _ => rfl)) (pe_ix ix_list (pv 0) pe_int (fun _ _ => rfl))) pa_nil)) pe_int) pe_int) pa_nil)) (pv 1)))))), ?_⟩
    refine ⟨_, rfl, l, _, _, _, rfl, rfl, SqL.of hl, rfl, _, _, rfl, rfl, _, rfl, ?_⟩
    refine ite2 (fun _ => ?_) (fun _ => ?_)
    · refine ⟨_, rfl, l, _, _, _, rfl, rfl, SqL.of hl, rfl, .inl ⟨_, rfl, _, rfl, _, _, rfl, rfl, n0, ?_⟩⟩
      refine ⟨_, rfl, l, _, _, _, rfl, rfl, SqL.of hl, rfl, _, rfl, _, _, rfl, rfl, ⟨n0, by omega⟩, _, rfl, l, _, _, _, rfl, rfl, hl, rfl, _, rfl, ?_⟩
      exact q _ _ _ (Int.emod_nonneg _ (by omega)) (Int.emod_lt_of_pos _ n0) z0 z1
    · refine ⟨_, rfl, l, _, _, _, rfl, rfl, SqL.of hl, rfl, _, _, rfl, rfl, .inr ⟨by decide, by decide⟩, _, _, rfl, rfl, .inl ⟨_, rfl, _, _, rfl, rfl, by show (0 : Int) < 2147483647; decide, _, rfl, l, _, _, _, rfl, rfl, hl, rfl, ?_⟩⟩
      have y0 := Int.emod_nonneg (z * 48271 + 11) (show (2147483647 : Int) ≠ 0 by decide)
      have y1 := Int.emod_lt_of_pos (z * 48271 + 11) (show (0 : Int) < 2147483647 by decide)
      have hl' : (upd H l (.lst [.int c, .int ((z * 48271 + 11) % 2147483647)])) l = some (.lst [.int c, .int ((z * 48271 + 11) % 2147483647)]) := upd_same
      refine ⟨_, rfl, l, _, _, _, rfl, rfl, SqL.of hl', rfl, _, rfl, l, _, _, _, rfl, rfl, SqL.of hl', rfl, _, _, rfl, rfl, .inl ⟨by omega, by omega⟩, .inl ⟨_, rfl, _, _, rfl, rfl, by show (0 : Int) < 2147483629; decide, _, _, rfl, rfl, ⟨by decide, by decide⟩, .inl ⟨_, rfl, _, rfl, _, _, rfl, rfl, n0, ?_⟩⟩⟩
      exact q _ _ _ (Int.emod_nonneg _ (by omega)) (Int.emod_lt_of_pos _ n0) y0 y1
theorem bd_law_draws {K : PySem.W.Frag} {mg : Str → Option Value} (T : Tx K mg) : Binds K (D_law_draws K) ["_law_script", "_law_k"] [] := T.F_law_draws.bindsN fun _ _ _ _ _ _ us hl => match us, hl with | [_, _], _ => rfl
theorem bd_law_draw {K : PySem.W.Frag} {mg : Str → Option Value} (T : Tx K mg) : Binds K (D_law_draw K) ["_law_draws_here", "_law_upto"] [] := T.F_law_draw.bindsN fun _ _ _ _ _ _ us hl => match us, hl with | [_, _], _ => rfl
end

/-! ### _law_amounts -/
def nm5 : List Str := ["conn", "disk", "a", "b", "abcdefgh"]
/-- a drawn dict -/
structure DOk (src : List (Str × Int)) : Prop where
  nd : (src.map (·.1)).Nodup
  nm : ∀ p ∈ src, p.1 ∈ nm5
  lo : ∀ p ∈ src, 0 ≤ p.2
  hi : ∀ p ∈ src, p.2 < 2 ^ 70
theorem nm5_word : ∀ y ∈ nm5, isWord y = true := by decide +kernel
theorem DOk.len {src : List (Str × Int)} (h : DOk src) : src.length ≤ 5 := by
  have := sub_len (a := src.map (·.1)) (b := nm5) h.nd fun y hy => by
    obtain ⟨p, hp, rfl⟩ := List.mem_map.mp hy
    exact h.nm p hp
  rw [List.length_map] at this
  exact this
theorem DOk.ok {src : List (Str × Int)} (h : DOk src) : SrcOk src := ⟨h.nd, by have := h.len; omega, fun p hp => ⟨nm5_word _ (h.nm p hp), word_len (nm5_word _ (h.nm p hp)), h.lo p hp⟩⟩
theorem DOk.nil : DOk [] := ⟨List.Pairwise.nil, fun p hp => by simp at hp, fun p hp => by simp at hp, fun p hp => by simp at hp⟩
theorem DOk.put {src : List (Str × Int)} (h : DOk src) {y : Str} {n : Int} (hy : y ∈ nm5) (h0 : 0 ≤ n) (h1 : n < 2 ^ 70) : DOk (putS src y n) :=
  ⟨putS_nodup h.nd, fun p hp => (mem_putS hp).elim (h.nm p) fun e => by rw [e]; exact hy, fun p hp => (mem_putS hp).elim (h.lo p) fun e => by rw [e]; exact h0, fun p hp => (mem_putS hp).elim (h.hi p) fun e => by rw [e]; exact h1⟩
def spAmounts : Sp := fun vs H Q _ => ∃ l, vs = [.ref l] ∧ Dr H l ∧ ∀ p src H', (∀ b o, b ≠ l → H b = some o → H' b = some o) → Dr H' l → H p = none → H' p = some (.dK (kvm src)) → DOk src → Q (.ref p) H'
abbrev N_law_amounts : List Str := ["_law_draws_here", "_law_names", "_law_found", "_law_turn", "_law_name", "_law_many"]
theorem sc_law_amounts : FnScope N_law_amounts ["_law_draws_here"] (defScope S_law_amounts) := ⟨rfl, rfl, rfl, by decide +kernel, rfl, by decide +kernel, by decide +kernel⟩
section
variable {P : Program} {w : World} {K : PySem.W.Frag} {mg : Str → Option Value} {base : Heap}
theorem atI_of {xs : List V} {i : Int} (h0 : 0 ≤ i) {n : Nat} (hn : n = xs.length) (h1 : i < n) : ∃ v, v ∈ xs ∧ atI xs i = some v := by
  subst hn
  unfold atI ixN
  rw [if_pos h0, if_pos h1]
  have hl : i.toNat < xs.length := by omega
  exact ⟨xs[i.toNat], List.getElem_mem hl, by simp [List.getElem?_eq_getElem hl]⟩
theorem ok_law_amounts (T : Tx K mg) : FnOk P w K mg base CX0 2 (A_law_amounts K) (D_law_amounts K) ["_law_draws_here"] spAmounts := by
  refine T.F_law_amounts.ok sc_law_amounts (fun vs H Q E h => ?_) (fun cdv A outer s H vs Q E hr h => ?_)
  · obtain ⟨l, rfl, _⟩ := h
    rfl
  · obtain ⟨l, rfl, dr, q⟩ := h
    have hu : (A.deeper (envOfC "_law_amounts" (defScope S_law_amounts) s.heap.objs.size (A_law_amounts K) cdv)).units + 1 < cLine := by have := hr.units; omega
    refine ⟨_, PSs.nox (pss_cons (ps_set (i := 1) sc_law_amounts.nd rfl (by first | exact Or.inl rfl | exact Or.inr rfl) (pe_lst (pa_cons pe_str (pa_cons pe_str (pa_cons pe_str (pa_cons pe_str (pa_cons pe_str pa_nil))))))) (pss_cons (ps_set (i := 2) sc_law_amounts.nd rfl (by first | exact Or.inl rfl | exact Or.inr rfl) pe_dnewK) (pss_cons (ps_for PassesOwn.never rfl (pi_range1 rfl T.z_range (pa_cons (pe_call (ok_law_draw T) (hr.mono (by decide)) rfl T.m_law_draw T.F_law_draw.kp (bd_law_draw T) .nil pass0 (pa_cons (pv 0) (pa_cons pe_int pa_nil))) pa_nil)) (pg_name (i := 3) sc_law_amounts.nd rfl (by first | exact Or.inl rfl | exact Or.inr rfl)) (pss_cons (ps_set (i := 4) sc_law_amounts.nd rfl (by first | exact Or.inl rfl | exact Or.inr rfl) (pe_ix ix_list (pv 1) (pe_call (ok_law_draw T) (hr.mono (by decide)) rfl T.m_law_draw T.F_law_draw.kp (bd_law_draw T) .nil pass0 (pa_cons (pv 0) (pa_cons pe_int pa_nil))) (fun _ _ => rfl))) (pss_cons (ps_set (i := 5) sc_law_amounts.nd rfl (by first | exact Or.inl rfl | exact Or.inr rfl) (pe_ix ix_list (pe_lst (pa_cons (pe_call (ok_law_draw T) (hr.mono (by decide)) rfl T.m_law_draw T.F_law_draw.kp (bd_law_draw T) .nil pass0 (pa_cons (pv 0) (pa_cons pe_int pa_nil))) (pa_cons (pe_call (ok_law_draw T) (hr.mono (by decide)) rfl T.m_law_draw T.F_law_draw.kp (bd_law_draw T) .nil pass0 (pa_cons (pv 0) (pa_cons pe_int pa_nil))) (pa_cons (pe_op op_add (pe_op op_pow pe_int pe_int) (pe_call (ok_law_draw T) (hr.mono (by decide)) rfl T.m_law_draw T.F_law_draw.kp (bd_law_draw T) .nil pass0 (pa_cons (pv 0) (pa_cons pe_int pa_nil)))) pa_nil)))) (pe_call (ok_law_draw T) (hr.mono (by decide)) rfl T.m_law_draw T.F_law_draw.kp (bd_law_draw T) .nil pass0 (pa_cons (pv 0) (pa_cons pe_int pa_nil))) (fun _ _ => rfl))) (pss_one (ps_asg (pv 5) (pg_sub (pv 2) (pv 4) (set_dict hu))))))) (pss_one (ps_ret (pv 2)))))), ?_⟩
    refine ⟨by show 5 ≤ sizeLine; decide, fun ln n1 p n2 => ?_⟩
    have s1 : Same H (upd H ln (.lst (nm5.map V.str))) := same_new n1
    have s2 : Same H (upd (upd H ln (.lst (nm5.map V.str))) p (.dK [])) := same_trans s1 (same_new n2)
    have hp0 : H p = none := same_off s1 n2
    have nlp : l ≠ p := by obtain ⟨c, z, e, _⟩ := dr; exact ne_of_none e hp0
    have nll : l ≠ ln := by obtain ⟨c, z, e, _⟩ := dr; exact ne_of_none e n1
    have nlnp : ln ≠ p := fun e => by rw [e, upd_same] at n2; cases n2
    have dr2 : Dr (upd (upd H ln (.lst (nm5.map V.str))) p (.dK [])) l := dr.same s2
    refine ⟨_, rfl, l, 6, rfl, dr2, by decide, by decide, fun r c z r0 r1 z0 z1 => ⟨r, rfl, by omega, by omega, ?_⟩⟩
    refine for_range (fun i σ' H' => ∃ o3 o4 o5 src, σ' = [some (.ref l), some (.ref ln), some (.ref p), o3, o4, o5] ∧ (∀ b o, b ≠ l → H b = some o → H' b = some o) ∧ H' ln = some (.lst (nm5.map V.str)) ∧ Dr H' l ∧ H' p = some (.dK (kvm src)) ∧ DOk src) ⟨_, _, _, [], rfl, fun b o hb e => by rw [upd_ne hb]; exact s2 _ _ e, by rw [upd_ne nll.symm, upd_ne nlnp, upd_same]; rfl, ⟨c, z, upd_same, z0, z1⟩, by rw [upd_ne nlp.symm, upd_same]; rfl, DOk.nil⟩ ?turn ?done
    case done =>
      rintro σ' H' ⟨o3, o4, o5, src, rfl, keep, hln, d', hp, ok⟩
      exact ⟨_, rfl, q p src H' keep d' hp0 hp ok⟩
    case turn =>
      rintro i σ' H1 hi ⟨o3, o4, o5, src, rfl, keep, hln, d1, hp, ok⟩
      have next : ∀ {c z : Int} {H1 : Hp}, (∀ b o, b ≠ l → H b = some o → H1 b = some o) → H1 ln = some (.lst (nm5.map V.str)) → H1 p = some (.dK (kvm src)) → 0 ≤ z → z < 2147483647 →
          (∀ b o, b ≠ l → H b = some o → upd H1 l (.lst [.int c, .int z]) b = some o) ∧ upd H1 l (.lst [.int c, .int z]) ln = some (.lst (nm5.map V.str)) ∧ Dr (upd H1 l (.lst [.int c, .int z])) l ∧ upd H1 l (.lst [.int c, .int z]) p = some (.dK (kvm src)) := by
        intro c z H1 keep hln hp z0 z1
        exact ⟨fun b o hb e => by rw [upd_ne hb]; exact keep b o hb e, by rw [upd_ne nll.symm]; exact hln, ⟨c, z, upd_same, z0, z1⟩, by rw [upd_ne nlp.symm]; exact hp⟩
      refine ⟨_, rfl, _, rfl, l, 5, rfl, d1, by decide, by decide, fun r1 c1 z1 a1 b1 y1 x1 => ?_⟩
      obtain ⟨keep, hln, d1, hp⟩ := next (c := c1) keep hln hp y1 x1
      generalize upd H1 l (.lst [.int c1, .int z1]) = H1 at *
      obtain ⟨v, hv, ev⟩ := atI_of (xs := nm5.map V.str) a1 (n := 5) rfl b1
      obtain ⟨y, hy, rfl⟩ := List.mem_map.mp hv
      refine ⟨ln, _, _, _, rfl, rfl, SqL.of hln, ev, ?_⟩
      refine ⟨_, rfl, l, 7, rfl, d1, by decide, by decide, fun r2 c2 z2 a2 b2 y2 x2 => ?_⟩
      obtain ⟨keep, hln, d1, hp⟩ := next (c := c2) keep hln hp y2 x2
      generalize upd H1 l (.lst [.int c2, .int z2]) = H1 at *
      refine ⟨_, rfl, l, 3, rfl, d1, by decide, by decide, fun r3 c3 z3 a3 b3 y3 x3 => ?_⟩
      obtain ⟨keep, hln, d1, hp⟩ := next (c := c3) keep hln hp y3 x3
      generalize upd H1 l (.lst [.int c3, .int z3]) = H1 at *
      refine ⟨_, _, rfl, rfl, ⟨by decide, by decide, by decide⟩, _, rfl, l, 9, rfl, d1, by decide, by decide, fun r4 c4 z4 a4 b4 y4 x4 => ?_⟩
      obtain ⟨keep, hln, d1, hp⟩ := next (c := c4) keep hln hp y4 x4
      generalize upd H1 l (.lst [.int c4, .int z4]) = H1 at *
      refine ⟨_, _, rfl, rfl, by show 3 ≤ sizeLine; decide, fun ll nll4 => ?_⟩
      have sll : Same H1 (upd H1 ll (.lst [.int r2, .int r3, .int (10 ^ (20 : Int).toNat + r4)])) := same_new nll4
      have nl5 : ll ≠ l := by obtain ⟨_, _, e2, _⟩ := d1; exact (ne_of_none e2 nll4).symm
      refine ⟨_, rfl, l, 3, rfl, d1.same sll, by decide, by decide, fun r5 c5 z5 a5 b5 y5 x5 => ?_⟩
      obtain ⟨keep, hln, d1, hp⟩ := next (c := c5) (H1 := upd H1 ll (.lst [.int r2, .int r3, .int (10 ^ (20 : Int).toNat + r4)])) (fun b o hb e => sll _ _ (keep b o hb e)) (sll _ _ hln) (sll _ _ hp) y5 x5
      have hll : upd (upd H1 ll (.lst [.int r2, .int r3, .int (10 ^ (20 : Int).toNat + r4)])) l (.lst [.int c5, .int z5]) ll = some (.lst [.int r2, .int r3, .int (10 ^ (20 : Int).toNat + r4)]) := by
        rw [upd_ne nl5, upd_same]
      generalize upd (upd H1 ll (.lst [.int r2, .int r3, .int (10 ^ (20 : Int).toNat + r4)])) l (.lst [.int c5, .int z5]) = H1 at *
      obtain ⟨v, hv, ev⟩ := atI_of (xs := [V.int r2, V.int r3, V.int (10 ^ (20 : Int).toNat + r4)]) a5 (n := 3) rfl b5
      obtain ⟨m, rfl, m0, m1⟩ : ∃ m, v = V.int m ∧ 0 ≤ m ∧ m < 2 ^ 70 := by
        have e20 : (10 : Int) ^ (20 : Int).toNat = 100000000000000000000 := by decide
        rw [e20] at hv
        simp only [List.mem_cons, List.not_mem_nil, or_false] at hv
        rcases hv with rfl | rfl | rfl
        · exact ⟨_, rfl, by omega, by omega⟩
        · exact ⟨_, rfl, by omega, by omega⟩
        · exact ⟨_, rfl, by omega, by omega⟩
      refine ⟨ll, _, _, _, rfl, rfl, SqL.of hll, ev, ?_⟩
      refine ⟨_, rfl, _, rfl, _, rfl, p, _, rfl, DPut.k (k := Sum.inr y) hp (by rw [kvm_len]; have := ok.len; exact Nat.lt_of_le_of_lt this (by decide)), ?_⟩
      rw [putK_kvm]
      exact ⟨_, _, _, putS src y m, rfl, fun b o hb e => by rw [upd_ne (ne_of_none e hp0)]; exact keep b o hb e, by rw [upd_ne nlnp]; exact hln, by obtain ⟨c, z, e, z0, z1⟩ := d1; exact ⟨c, z, by rw [upd_ne nlp]; exact e, z0, z1⟩, upd_same, ok.put hy m0 m1⟩
theorem bd_law_amounts {K : PySem.W.Frag} {mg : Str → Option Value} (T : Tx K mg) : Binds K (D_law_amounts K) ["_law_draws_here"] [] := T.F_law_amounts.bindsN fun _ _ _ _ _ _ us hl => match us, hl with | [_], _ => rfl
end
end Lp

set_option Elab.async false
set_option linter.all false
set_option maxRecDepth 100000
set_option maxHeartbeats 4000000
namespace Lp
open PySem PySem.Spec PyProof.Rows L2
/-! ### _law_plain -/
def spPlain : Sp := fun vs H Q _ => ∃ d src, vs = [.ref d] ∧ Rd H d (.dK (kvm src)) ∧ SrcOk src ∧ ∀ p H', Same H H' → H p = none → H' p = some (.dK (kvm (canon src))) → Q (.ref p) H'
theorem canon_of {src : List (Str × Int)} {ys : List Str} (hp : ys.Perm (src.map (·.1))) (hs : sortedS ys = true) : (ys.filter fun y => decide (0 < val src y)).map (fun y => (y, val src y)) = canon src := by
  rw [srt_eq hp hs]
  rfl
abbrev N_law_plain : List Str := ["_law_amounts_here", "_law_name"]
theorem sc_law_plain : FnScope N_law_plain ["_law_amounts_here"] (defScope S_law_plain) := ⟨rfl, rfl, rfl, by decide +kernel, rfl, by decide +kernel, by decide +kernel⟩
section
variable {P : Program} {w : World} {K : PySem.W.Frag} {mg : Str → Option Value} {base : Heap}
theorem ok_law_plain (T : Tx K mg) : FnOk P w K mg base CX0 1 (A_law_plain K) (D_law_plain K) ["_law_amounts_here"] spPlain := by
  refine T.F_law_plain.ok sc_law_plain (fun vs H Q E h => ?_) (fun cdv A outer s H vs Q E hr h => ?_)
  · obtain ⟨d, src, rfl, _⟩ := h
    rfl
  · obtain ⟨d, src, rfl, hd, ok, q⟩ := h
    have hu : (A.deeper (envOfC "_law_plain" (defScope S_law_plain) s.heap.objs.size (A_law_plain K) cdv)).units + 1 < cLine := by have := hr.units; omega
    refine ⟨_, PSs.nox (pss_one (ps_ret (pe_callTy (call_dictP rfl) (by rfl) T.z_dict (by decide +kernel) (pa_cons (pe_lc (own := [("_law_name", 1)]) rfl sc_law_plain.nd (pi_list (pe_callB (call_sortedD rfl) (by rfl) T.z_sorted (by decide +kernel) (pa_cons (pv 0) pa_nil))) (blkOk_by (N := N_law_plain) (sc := defScope S_law_plain) (by decide +kernel)) (fun _ _ _ _ _ => (pg_name (i := 1) sc_law_plain.nd rfl (by first | exact Or.inl rfl | exact Or.inr rfl))) (fun _ _ _ _ _ => (pts_one (pt_cmpR op_gt (pe_dget hu (pv 0) (pv 1) (fun _ _ => rfl)) pe_int (nomark _)))) (fun _ _ _ _ _ => (pe_tup (pa_cons (pv 1) (pa_cons (pe_dget hu (pv 0) (pv 1) (fun _ _ => rfl)) pa_nil))))) pa_nil)))), ?_⟩
    refine ⟨_, rfl, d, kvm src, src.map (·.1), rfl, hd, kvm_keys src, by rw [List.length_map]; exact ok.2.1, fun ys p hp hs hN => ?_⟩
    have hl : ys.length = src.length := by rw [hp.length_eq, List.length_map]
    have hin : ∀ {i : Nat} {y : Str}, ys[i]? = some y → y ∈ src.map (·.1) := fun e => hp.mem_iff.mp (List.mem_of_getElem? e)
    have s1 : Same H (upd H p (.lst (ys.map V.str))) := same_new hN
    refine ⟨p, rfl, ⟨_, SqL.of upd_same⟩, fun D hD => lc_gw (walk_list (xs := ys.map V.str)) (fun i => decide (0 < val src (ys.getD i ""))) (fun i y F => ∃ t, y = V.ref t ∧ F t = some (.tup [.str (ys.getD i ""), .int (val src (ys.getD i ""))])) (fun i y A B s => fun ⟨t, e, h⟩ => ⟨t, e, s _ _ h⟩) (same_refl _) hD (by rw [List.length_map, hl]; have := ok.2.1; omega) (fun H' s' => SqL.of (s' _ _ upd_same)) ?lcs ?lcd⟩
    case lcs =>
      rintro i xv F H2 H3 Qn Qs hi gw ⟨rfl, e⟩ qn qs
      obtain ⟨y, e1, rfl⟩ := names_at e
      have ey : ys.getD i "" = y := getD_at e1
      rw [ey] at qn qs
      have dg := dget_kvm (rd_same (same_trans s1 gw.hh) hd) (hin e1)
      refine ⟨rfl, ?_⟩
      refine ⟨_, rfl, _, rfl, d, _, rfl, dg, _, _, rfl, rfl, _, rfl, ?_⟩
      cases ev : decide (0 < val src y) with
      | true => exact iteT ⟨_, rfl, _, rfl, _, rfl, d, _, rfl, dg, by show 2 ≤ sizeLine; decide, fun t ht => qn ev _ _ _ (Gw.add gw.fh ht) ⟨t, rfl, upd_same⟩⟩
      | false => exact iteF (qs ev F H3 (Gw.refl gw.fh))
    case lcd =>
      intro zs F H' gw fD hH pr
      rw [List.length_map] at pr
      obtain ⟨ps, rfl, pr2⟩ := rows_of (K := K) (g := fun i => (ys.getD i "", val src (ys.getD i ""))) gw.fh pr
      refine ⟨D, ps, _, rfl, SqL.of hH, pr2, fun r hr => ?_⟩
      rw [merge_kvm, range_filter ys (fun y => decide (0 < val src y)) _ _ (fun y => (y, val src y)) (fun i y e1 => by rw [getD_at e1]) (fun i y e1 => by rw [getD_at e1]), canon_of hp hs, putsS_id (by rw [canon_keys]; exact pos_nodup ok.1)]
      exact q r _ (same_trans s1 (same_trans gw.hh (same_new hr))) (same_off (same_trans s1 gw.hh) hr) upd_same
theorem bd_law_plain {K : PySem.W.Frag} {mg : Str → Option Value} (T : Tx K mg) : Binds K (D_law_plain K) ["_law_amounts_here"] [] := T.F_law_plain.bindsN fun _ _ _ _ _ _ us hl => match us, hl with | [_], _ => rfl
end
end Lp

set_option Elab.async false
set_option linter.all false
set_option maxRecDepth 100000
set_option maxHeartbeats 4000000
namespace Lp
open PySem PySem.Spec PyProof.Rows L2
/-! ### _law_minus -/
def Two (H : Hp) (d1 d2 : Addr) (s1 s2 : List (Str × Int)) : Prop := Rd H d1 (.dK (kvm s1)) ∧ SrcOk s1 ∧ Rd H d2 (.dK (kvm s2)) ∧ SrcOk s2
def spMinus (K : PySem.W.Frag) : Sp := fun vs H Q _ => ∃ d1 d2 s1 s2, vs = [.ref d1, .ref d2] ∧ Two H d1 d2 s1 s2 ∧
  (∀ y, short (canon s1) (canon s2) = some y → ∀ H', Same H H' → Q (.str y) H') ∧
  (short (canon s1) (canon s2) = none → ∀ p H' m3, Same H H' → H p = none → H' p = some (.dK (kvm m3)) → Cn m3 → (∀ y, val m3 y = val s1 y - val s2 y) → Q (.ref p) H')
abbrev N_law_minus : List Str := ["_law_one", "_law_other", "e"]
theorem sc_law_minus : FnScope N_law_minus ["_law_one", "_law_other"] (defScope S_law_minus) := ⟨rfl, rfl, rfl, by decide +kernel, rfl, by decide +kernel, by decide +kernel⟩
section
variable {P : Program} {w : World} {K : PySem.W.Frag} {mg : Str → Option Value} {base : Heap}
theorem ok_law_minus (T : Tx K mg) : FnOk P w K mg base CX0 6 (A_law_minus K) (D_law_minus K) ["_law_one", "_law_other"] (spMinus K) := by
  refine T.F_law_minus.ok sc_law_minus (fun vs H Q E h => ?_) (fun cdv A outer s H vs Q E hr h => ?_)
  · obtain ⟨d1, d2, s1, s2, rfl, _⟩ := h
    rfl
  · obtain ⟨d1, d2, s1, s2, rfl, ⟨h1, o1, h2, o2⟩, qs, qn⟩ := h
    refine ⟨_, PSs.nox (pss_one (ps_try_as (i := 2) rfl rfl sc_law_minus.nd rfl rfl ⟨rfl, by decide, .inl T.m_NotEnough⟩ takes0 (fun W pn xe tk _ => (pss_one (ps_ret (pe_meth0 (pe_binSK (K0 := K) (C := He.ga K "Sizes") (nm := "sub") rfl rfl ⟨T.kc_Sizes.sf, T.mt_Sizes_sub.at_, T.mt_Sizes_sub.fn, T.ro_Sizes_sub⟩ (raw0 (ok_Sizes_sub T) (bd_Sizes_sub T)) (hr.mono (by decide)) (fun σ => passAt tk σ) (pe_makeSS T.mk_Sizes (raw0 (ok_Sizes_init T) (bd_Sizes_init T)) (hr.mono (by decide)) (fun σ => passAt tk σ) rfl T.m_Sizes (pa_cons (pv 0) pa_nil)) (pe_makeSS T.mk_Sizes (raw0 (ok_Sizes_init T) (bd_Sizes_init T)) (hr.mono (by decide)) (fun σ => passAt tk σ) rfl T.m_Sizes (pa_cons (pv 1) pa_nil))) T.cl_Sizes T.mt_Sizes_by_name (ok_Sizes_by_name T) (hr.mono (by decide)) (bd_Sizes_by_name T) .nil pass0)))) (fun a oe cls d pn hz hf => (pss_one (ps_ret (pe_xf T.x_NotEnough.xf T.i_NotEnough.n hz hf (pv 2))))))), ?_⟩
    refine ⟨_, rfl, r_nil ?_⟩
    refine mk_sz (F := fun _ => none) (fun _ _ e => nomatch e) h1 o1 fun x F1 H1 g1 x1 => ?_
    refine ⟨_, rfl, r_nil ?_⟩
    refine mk_sz g1.fh (rd_same g1.hh h2) o2 fun y F2 H2 g2 y2 => ?_
    have x2 := x1.same g2.ff
    obtain ⟨dx, dk, od, i1, i2, i3⟩ := id x2
    refine ⟨x, dx, _, rfl, g2.fh _ _ i1, .inl ⟨y, _, _, rfl, g2.fh _ _ y2.choose_spec.choose_spec.choose_spec.1⟩, F2, x, canon s1, .ref y, rfl, g2.fh, x2, Cn.of o1, .inl ⟨y, canon s2, rfl, y2, Cn.of o2, fun hn r m3 F3 H3 g3 r3 c3 hv => ?_, fun z hz d hd => ?_⟩⟩
    · obtain ⟨dx3, dk3, od3, j1, j2, j3⟩ := id r3
      have sA := same_trans g1.hh (same_trans g2.hh g3.hh)
      refine ⟨r, dx3, _, rfl, g3.fh _ _ j1, rfl, r_nil ⟨r, m3, rfl, r3.same g3.fh, fun p hp => qn hn p _ m3 (same_trans sA (same_new hp)) (same_off sA hp) upd_same c3 fun y => ?_⟩⟩
      rw [hv, val_canon o1.val0, val_canon o2.val0]
    · refine ⟨true, exm_x T.x_NotEnough T.sb_NotEnough, fun _ e he => ?_, fun z => nomatch z⟩
      exact r_ret ⟨_, rfl, rfl, rfl, d, _, _, rfl, upd_same, rfl, qs z hz _ (same_trans g1.hh (same_trans g2.hh (same_new hd)))⟩
theorem bd_law_minus {K : PySem.W.Frag} {mg : Str → Option Value} (T : Tx K mg) : Binds K (D_law_minus K) ["_law_one", "_law_other"] [] := T.F_law_minus.bindsN fun _ _ _ _ _ _ us hl => match us, hl with | [_, _], _ => rfl
/-! ### _law_due -/
theorem nm5_lay : ∀ y ∈ nm5, (PyData.str y).canLay0 = true := by decide +kernel
def spDue (K : PySem.W.Frag) : Sp := fun vs H Q _ => ∃ d1 d2 s1 s2, vs = [.ref d1, .ref d2] ∧ Two H d1 d2 s1 s2 ∧ DOk s2 ∧ d1 ≠ d2 ∧
  (∀ y, short (canon s1) (canon s2) = some y → ∀ H', Same H H' → Q (.str y) H') ∧
  (short (canon s1) (canon s2) = none → ∀ p H' m3, Same H H' → H p = none → H' p = some (.dK (kvm m3)) → Cn m3 → (∀ y, val m3 y = val s1 y - val s2 y) → Q (.ref p) H')
theorem short_eq {s1 s2 : List (Str × Int)} (o1 : SrcOk s1) (o2 : SrcOk s2) : ((srt (s2.map (·.1))).filter fun y => decide (val s1 y < val s2 y)).head? = short (canon s1) (canon s2) := by
  unfold short
  rw [canon_keys, List.head?_filter]
  unfold pos
  rw [List.find?_filter]
  refine congrArg (fun f => List.find? f _) (funext fun y => ?_)
  rw [val_canon o1.val0, val_canon o2.val0]
  have := o1.val0 y
  by_cases z : val s1 y < val s2 y
  · rw [decide_eq_true z, decide_eq_true (show 0 < val s2 y by omega)]
    rfl
  · rw [decide_eq_false z]
    simp
theorem tab_sub {s1 s2 : List (Str × Int)} (o1 : SrcOk s1) (o2 : SrcOk s2) (hn : ∀ y, val s2 y ≤ val s1 y) : SrcOk ((s1.map (·.1)).map fun y => (y, val s1 y - val s2 y)) ∧ ∀ y, val (canon ((s1.map (·.1)).map fun y => (y, val s1 y - val s2 y))) y = val s1 y - val s2 y := by
  have ok : SrcOk ((s1.map (·.1)).map fun y => (y, val s1 y - val s2 y)) := by
    refine ⟨by rw [tab_keys]; exact o1.1, by rw [List.length_map, List.length_map]; exact o1.2.1, fun p hp => ?_⟩
    obtain ⟨y, hy, rfl⟩ := List.mem_map.mp hp
    obtain ⟨r, hr, rfl⟩ := List.mem_map.mp hy
    have := o1.2.2 r hr
    have h2 := hn r.1
    exact ⟨this.1, this.2.1, by show 0 ≤ val s1 r.1 - val s2 r.1; omega⟩
  refine ⟨ok, fun y => ?_⟩
  rw [val_canon ok.val0]
  by_cases e : y ∈ s1.map (·.1)
  · exact val_tab e
  · rw [val_tab0 e]
    have h1 := val_off e
    have h2 := hn y
    have h3 := o2.val0 y
    omega
abbrev N_law_due : List Str := ["_law_one", "_law_other", "_law_short", "_law_name"]
theorem sc_law_due : FnScope N_law_due ["_law_one", "_law_other"] (defScope S_law_due) := ⟨rfl, rfl, rfl, by decide +kernel, rfl, by decide +kernel, by decide +kernel⟩
theorem ok_law_due (T : Tx K mg) : FnOk P w K mg base CX0 2 (A_law_due K) (D_law_due K) ["_law_one", "_law_other"] (spDue K) := by
  refine T.F_law_due.ok sc_law_due (fun vs H Q E h => ?_) (fun cdv A outer s H vs Q E hr h => ?_)
  · obtain ⟨d1, d2, s1, s2, rfl, _⟩ := h
    rfl
  · obtain ⟨d1, d2, s1, s2, rfl, ⟨h1, o1, h2, o2⟩, do2, ne, qs, qn⟩ := h
    have hu : (A.deeper (envOfC "_law_due" (defScope S_law_due) s.heap.objs.size (A_law_due K) cdv)).units + 1 < cLine := by have := hr.units; omega
    have hu64 := hr.units
    refine ⟨_, PSs.nox (pss_cons (ps_setLc (i := 2) (own := [("_law_name", 3)]) rfl sc_law_due.nd rfl rfl (sw_true rfl rfl rfl (by decide +kernel)) (pi_list (pe_callB (call_sortedD rfl) (by rfl) T.z_sorted (by decide +kernel) (pa_cons (pv 1) pa_nil))) (blkOk_by (N := N_law_due) (sc := defScope S_law_due) (by decide +kernel)) (fun _ _ _ _ _ => (pg_name (i := 3) sc_law_due.nd rfl (by first | exact Or.inl rfl | exact Or.inr rfl))) (fun _ _ _ _ _ => (pts_one (pt_cmpR op_lt (pe_dget2 hu (pv 0) (pv 3) pe_int ⟨rfl, rfl, rfl, rfl⟩) (pe_dget hu (pv 1) (pv 3) (fun _ _ => rfl)) (nomark _)))) (fun _ _ _ _ _ => (pv 3))) (pss_cons (ps_if (pt_cmpR (op_neD hu64) (pv 2) (pe_lst pa_nil) (nomark _)) (pss_one (ps_ret (pe_ix ix_list (pv 2) pe_int (fun _ _ => rfl)))) pss_nil) (pss_one (ps_ret (pe_call (ok_law_plain T) (hr.mono (by decide)) rfl T.m_law_plain T.F_law_plain.kp (bd_law_plain T) .nil pass0 (pa_cons (pe_lockR (pe_callTy (call_dictP rfl) (by rfl) T.z_dict (by decide +kernel) (pa_cons (pe_lc (own := [("_law_name", 3)]) rfl sc_law_due.nd (pi_keys (pv 0)) (blkOk_by (N := N_law_due) (sc := defScope S_law_due) (by decide +kernel)) (fun _ _ _ _ _ => (pg_name (i := 3) sc_law_due.nd rfl (by first | exact Or.inl rfl | exact Or.inr rfl))) (fun _ _ _ _ _ => pts_nil) (fun _ _ _ _ _ => (pe_tup (pa_cons (pv 3) (pa_cons (pe_op op_sub (pe_dget hu (pv 0) (pv 3) (fun _ _ => rfl)) (pe_dget2 hu (pv 1) (pv 3) pe_int ⟨rfl, rfl, rfl, rfl⟩)) pa_nil))))) pa_nil))) pa_nil)))))), ?_⟩
    refine ⟨_, rfl, d2, kvm s2, s2.map (·.1), rfl, h2, kvm_keys s2, by rw [List.length_map]; exact o2.2.1, fun ys p hp hs hN => ?_⟩
    have hl : ys.length = s2.length := by rw [hp.length_eq, List.length_map]
    have hin : ∀ {i : Nat} {y : Str}, ys[i]? = some y → y ∈ s2.map (·.1) := fun e => hp.mem_iff.mp (List.mem_of_getElem? e)
    have e1 : Same H (upd H p (.lst (ys.map V.str))) := same_new hN
    refine ⟨p, rfl, ⟨_, SqL.of upd_same⟩, fun D hD => lc_gw (walk_list (xs := ys.map V.str)) (fun i => decide (val s1 (ys.getD i "") < val s2 (ys.getD i ""))) (fun i y F => y = V.str (ys.getD i "")) (fun _ _ _ _ _ h => h) (same_refl _) hD (by rw [List.length_map, hl]; have := o2.2.1; omega) (fun H' s' => SqL.of (s' _ _ upd_same)) ?lcs ?lcd⟩
    case lcs =>
      rintro i xv F H2 H3 Qn Qs hi gw ⟨rfl, e⟩ qn' qs'
      obtain ⟨y, ey1, rfl⟩ := names_at e
      have ey : ys.getD i "" = y := getD_at ey1
      rw [ey] at qn' qs'
      have sA := same_trans e1 gw.hh
      have dg := dget_kvm (rd_same sA h2) (hin ey1)
      obtain ⟨o, g, eo, _⟩ := dget_val (rd_same sA h1) y
      refine ⟨rfl, ?_⟩
      refine ⟨_, rfl, d1, rfl, .inl ⟨_, rd_same sA h1⟩, _, rfl, o, g, ?_⟩
      rw [eo]
      refine ⟨_, rfl, _, rfl, d2, _, rfl, dg, _, _, rfl, rfl, _, rfl, ?_⟩
      cases ev : decide (val s1 y < val s2 y) with
      | true => exact iteT ⟨_, rfl, qn' ev _ _ _ (Gw.refl gw.fh) rfl⟩
      | false => exact iteF (qs' ev F H3 (Gw.refl gw.fh))
    case lcd =>
      intro zs F H1 gw fD hH pr
      rw [List.length_map] at pr
      have ez := paired_eq (g := fun i => V.str (ys.getD i "")) pr
      rw [range_filter ys (fun y => decide (val s1 y < val s2 y)) _ _ V.str (fun i y e1 => by rw [getD_at e1]) (fun i y e1 => by rw [getD_at e1])] at ez
      have esh := short_eq o1 o2
      rw [← srt_eq hp hs] at esh
      have sB : Same H H1 := same_trans e1 gw.hh
      rw [ez] at hH
      refine ⟨_, rfl, by show 0 ≤ sizeLine; exact Nat.zero_le _, fun q0 hq0 => ?_⟩
      have s0 : Same H1 (upd H1 q0 (.lst [])) := same_new hq0
      have hsz : ∀ y ∈ ys.filter fun y => decide (val s1 y < val s2 y), (PyData.str y).canLay0 = true := fun y hy => by
        obtain ⟨r, hr, rfl⟩ := List.mem_map.mp (hp.mem_iff.mp (List.mem_filter.mp hy).1)
        exact nm5_lay _ (do2.nm r hr)
      generalize (ys.filter fun y => decide (val s1 y < val s2 y)) = sh at *
      refine ⟨_, _, .lst (SqL.of (s0 _ _ hH)) (dpAll_map (g := PyData.str) fun x _ => .str x), .lst (SqL.of upd_same) .nil, shaped_of (lay_map (l := sh) hsz) (Nat.le_trans (Nat.succ_le_succ (dep_map (n := 0) (l := sh) fun _ _ => Nat.le_refl 0)) (by decide)), rfl, _, rfl, ?_⟩
      cases sh with
      | cons y r =>
        refine iteT ?_
        exact ⟨_, rfl, D, _, _, _, rfl, rfl, SqL.of (s0 _ _ hH), atI_nat (j := 0) rfl, qs y esh.symm _ (same_trans sB s0)⟩
      | nil =>
        have hn : short (canon s1) (canon s2) = none := esh.symm
        have hle : ∀ y, val s2 y ≤ val s1 y := fun y => by
          have := short_none hn (fun y => by rw [val_canon o1.val0]; exact o1.val0 y) y
          rwa [val_canon o1.val0, val_canon o2.val0] at this
        obtain ⟨ok, hv⟩ := tab_sub o1 o2 hle
        refine iteF ?_
        have sC := same_trans sB s0
        refine lockR_of2 (rd_same sC h1) trivial fun o H2 Q2 hl1 keep off fin => ?_
        have h2' : Rd H2 d2 (.dK (kvm s2)) := by
          rcases rd_same sC h2 with z | ⟨o2, z⟩
          · exact .inl (keep _ _ ne.symm z)
          · exact .inr ⟨o2, keep _ _ ne.symm z⟩
        refine ⟨_, rfl, d1, o, rfl, .inl ⟨kvm s1, hl1, fun D2 hD2 => lc_gw walk_keys (fun _ => true) (fun i y F => ∃ t, y = V.ref t ∧ F t = some (.tup [.str ((s1.map (·.1)).getD i ""), .int (val s1 ((s1.map (·.1)).getD i "") - val s2 ((s1.map (·.1)).getD i ""))])) (fun i y A B s => fun ⟨t, e, h⟩ => ⟨t, e, s _ _ h⟩) (same_refl _) hD2 (by rw [kvm_len]; have := o1.2.1; omega) (fun H' s' => s' _ _ hl1) ?lcs2 ?lcd2⟩⟩
        case lcs2 =>
          rintro i xv F2 H3 H4 Qn Qs hi gw2 ⟨rfl, k, v, e, rfl⟩ qn' qs'
          obtain ⟨p1, ep, rfl, rfl⟩ := kvm_at e
          have en := kvm_getD ep
          rw [en] at qn'
          have hm : p1.1 ∈ s1.map (·.1) := List.mem_map.mpr ⟨p1, List.mem_of_getElem? ep, rfl⟩
          have dg := dget_kvm (H := H4) (d := d1) (m := s1) (y := p1.1) (.inr ⟨o, gw2.hh _ _ hl1⟩) hm
          obtain ⟨ov, g, eo, _⟩ := dget_val (rd_same gw2.hh h2') p1.1
          refine ⟨rfl, yes_then ?_⟩
          refine ⟨_, rfl, _, rfl, _, rfl, d1, _, rfl, dg, _, rfl, d2, rfl, .inl ⟨_, rd_same gw2.hh h2'⟩, _, rfl, ov, g, ?_⟩
          rw [eo]
          exact ⟨_, _, rfl, rfl, by show 2 ≤ sizeLine; decide, fun t ht => qn' rfl _ _ _ (Gw.add gw2.fh ht) ⟨t, rfl, upd_same⟩⟩
        case lcd2 =>
          intro zs2 F2 H4 gw2 fD2 hH2 pr2
          rw [kvm_len, filter_true] at pr2
          obtain ⟨ps, rfl, pr3⟩ := rows_of (K := K) (g := fun i => ((s1.map (·.1)).getD i "", val s1 ((s1.map (·.1)).getD i "") - val s2 ((s1.map (·.1)).getD i ""))) gw2.fh pr2
          refine ⟨D2, ps, _, rfl, SqL.of hH2, pr3, fun r hr => ?_⟩
          have el : s1.length = (s1.map (·.1)).length := by rw [List.length_map]
          rw [merge_kvm, el, range_map (s1.map (·.1)) _ (fun y => (y, val s1 y - val s2 y)) (fun i y e1 => by rw [getD_at e1]), putsS_id ok.1]
          have nr : r ≠ d1 := fun e => by rw [e, gw2.hh _ _ hl1] at hr; cases hr
          refine fin _ _ (same_trans gw2.hh (same_new hr)) fun H5 s5 k5 => r_nil ?_
          refine ⟨r, _, rfl, .inl (k5 r _ nr upd_same), ok, fun p5 H6 s6 n6 h6 => ?_⟩
          have sD := same_trans sC s5
          exact qn hn p5 H6 _ (same_trans sD s6) (same_off sD n6) h6 (Cn.of ok) hv
theorem bd_law_due {K : PySem.W.Frag} {mg : Str → Option Value} (T : Tx K mg) : Binds K (D_law_due K) ["_law_one", "_law_other"] [] := T.F_law_due.bindsN fun _ _ _ _ _ _ us hl => match us, hl with | [_, _], _ => rfl
end
end Lp

set_option Elab.async false
set_option linter.all false
set_option maxRecDepth 100000
set_option maxHeartbeats 4000000
namespace Lp
open PySem PySem.Spec PyProof.Rows L2
/-! ### _law_told_right -/
def DRow : Eqv := fun x y H => DInts x y H ∨ DList DFlat x y H ∨ DFlat x y H
theorem mon_row : Mon DRow := fun x y H H' e d => by
  rcases d with d | d | d
  · exact .inl (mon_dInts _ _ _ _ e d)
  · exact .inr (.inl (mon_list mon_flat _ _ _ _ e d))
  · exact .inr (.inr d)
theorem eqG_row {X : Cx} : EqG X 1 DRow := EqG.or (eqG_dInts.mono (by decide)) (EqG.or (eqG_list mon_flat eqG_flat) (eqG_flat.mono (by decide)))
theorem flat_self {l : List V} (h : ∀ x ∈ l, flatV x = true ∧ eqV x x = true) (H : Hp) : Prs DFlat l l H := ⟨rfl, fun i x y e1 e2 => by
  rw [e1] at e2
  cases e2
  have := h x (List.mem_of_getElem? e1)
  exact ⟨this.1, this.1, this.2⟩⟩
theorem prs4 {D : Eqv} {H : Hp} {a b c d a' b' c' d' : V} (h1 : D a a' H) (h2 : D b b' H) (h3 : D c c' H) (h4 : D d d' H) : Prs D [a, b, c, d] [a', b', c', d'] H := ⟨rfl, fun i x y e1 e2 => by
  match i, e1, e2 with
  | 0, e1, e2 => cases e1; cases e2; exact h1
  | 1, e1, e2 => cases e1; cases e2; exact h2
  | 2, e1, e2 => cases e1; cases e2; exact h3
  | 3, e1, e2 => cases e1; cases e2; exact h4⟩
theorem dflat_int (i : Int) (H : Hp) : DFlat (.int i) (.int i) H := ⟨rfl, rfl, by simp [eqV]⟩
theorem flat_str (y : Str) : flatV (.str y) = true ∧ eqV (.str y) (.str y) = true := ⟨rfl, by simp [eqV]⟩
/-- a dict that is walked while new objects are made -/
theorem lockR_of3 {t : TE} {σ : L2.St} {H : Hp} {Q : VK} {d : Addr} {u : HO} (hd : Rd H d u) (mu : Mut (some u))
    (h : ∀ (o : Obj) (H1 : Hp) (Q1 : VK), H1 d = some (.frz o u) → (∀ b w, w ≠ u → H b = some w → H1 b = some w) →
      (∀ v H', Same H1 H' → (∀ H'', Same H H'' → (∀ b w, b ≠ d → H' b = some w → H'' b = some w) → Q v H'') → Q1 v H') → t σ H1 Q1) : tLockR t σ H Q := by
  rcases hd with hd | ⟨o, hd⟩
  · refine .inr ⟨d, u, hd, mu, fun od => h od _ _ upd_same (fun b w hw e => ?_) fun v H' s q => ⟨s _ _ upd_same, q _ (Same.unlock hd s) fun b w hb e => by rw [upd_ne hb]; exact e⟩⟩
    by_cases hb : b = d
    · rw [hb, hd] at e; exact absurd (Option.some.inj e).symm hw
    · rw [upd_ne hb]; exact e
  · exact .inl (h o H Q hd (fun _ _ _ e => e) fun v H' s q => q H' s fun _ _ _ e => e)
theorem szAt_keep {K : PySem.W.Frag} {H H1 : Hp} {a : Addr} {m : List (Str × Int)} {kvs : List (Key × V)} (h : SzAt K H a m) (keep : ∀ b w, w ≠ .dK kvs → H b = some w → H1 b = some w) : SzAt K H1 a m := by
  obtain ⟨dx, dk, od, h1, h2, h3⟩ := h
  exact ⟨dx, dk, od, keep _ _ (fun e => nomatch e) h1, keep _ _ (fun e => nomatch e) h2, keep _ _ (fun e => nomatch e) h3⟩
theorem eqv_ints (ns : List Int) : PyData.eqv (.list (ns.map PyData.int)) (.list (ns.map PyData.int)) = true := eqv_refl (.list (ns.map PyData.int)) (lay_ints ns)
theorem zz_val {src : List (Str × Int)} (h : DOk src) : val (canon src) "zz" = 0 := by
  rw [val_canon h.ok.val0]
  refine val_off fun hm => ?_
  obtain ⟨p, hp, e⟩ := List.mem_map.mp hm
  have := h.nm p hp
  rw [e] at this
  revert this
  decide +kernel
theorem small_lt {n : Int} (h0 : 0 ≤ n) (h1 : n < 2 ^ 70) : n.natAbs.log2 < 1920 := by
  by_cases z : n.natAbs = 0
  · rw [z]; decide
  · exact Nat.lt_trans ((Nat.log2_lt z).mpr (show n.natAbs < 2 ^ 70 by omega)) (by decide)
theorem small_canon {src : List (Str × Int)} (h : DOk src) : SmallM (canon src) := fun p hp => by
  obtain ⟨y, hy, rfl⟩ := List.mem_map.mp hp
  have h0 := mem_pos.mp hy
  by_cases e : y ∈ src.map (·.1)
  · have := lk_mem (lk_in e)
    exact small_lt (by show 0 ≤ val src y; omega) (h.hi _ this)
  · rw [val_off e] at h0
    exact absurd h0 (by decide)
theorem join_eq (sep : Str) (ys : List Str) : Txt.join sep ys = Str.join sep ys := StrLaws.glued_eq_join sep ys
theorem join_small {ys : List Str} (h : (ys.map (·.length)).sum ≤ ys.length * 2000) (h2 : ys.length < 64) : (Txt.join " " ys).length ≤ sizeLine := by
  have := StrLaws.join_length_le " " ys
  have l3 : Str.length (" " : Str) = 1 := rfl
  have big : (200000 : Nat) ≤ sizeLine := by decide
  rw [l3] at this
  rw [join_eq]
  omega
theorem join_pos {y : Str} {ys : List Str} (h : 0 < y.length) : 0 < (Txt.join " " (y :: ys)).length := by
  rw [join_eq]
  cases ys with
  | nil => exact h
  | cons z r =>
    show 0 < (y ++ " " ++ Str.join " " (z :: r)).length
    rw [strLen_append, strLen_append]
    omega
theorem req_self {a b : Str} {H : Hp} {Q : VK} (e : a = b) (h : Q (.bl true) H) : rEq (.str a) (.str b) H Q := by
  subst e
  refine ⟨rfl, ?_⟩
  rw [decide_eq_true (rfl : V.str a = V.str a)]
  exact h
theorem iteT' {b : Bool} {p q : Prop} (e : b = true) (h : p) : if b = true then p else q := by rw [if_pos e]; exact h
def spTold (K : PySem.W.Frag) : Sp := fun vs H Q _ => ∃ d src, vs = [.ref d] ∧ Rd H d (.dK (kvm src)) ∧ DOk src ∧ ∀ H', Same H H' → Q (.bl true) H'
abbrev N_law_told_right : List Str := ["_law_amounts_here", "_law_sizes", "_law_plain_here", "_law_due_here", "_law_name", "_law_odd"]
theorem sc_law_told_right : FnScope N_law_told_right ["_law_amounts_here"] (defScope S_law_told_right) := ⟨rfl, rfl, rfl, by decide +kernel, rfl, by decide +kernel, by decide +kernel⟩
section
variable {P : Program} {w : World} {K : PySem.W.Frag} {mg : Str → Option Value} {base : Heap}
theorem ok_law_told_right (T : Tx K mg) : FnOk P w K mg base CX0 6 (A_law_told_right K) (D_law_told_right K) ["_law_amounts_here"] (spTold K) := by
  refine T.F_law_told_right.ok sc_law_told_right (fun vs H Q E h => ?_) (fun cdv A outer s H vs Q E hr h => ?_)
  · obtain ⟨d, src, rfl, _⟩ := h
    rfl
  · obtain ⟨d, src, rfl, hd, dk, q⟩ := h
    have ok := dk.ok
    have hu : (A.deeper (envOfC "_law_told_right" (defScope S_law_told_right) s.heap.objs.size (A_law_told_right K) cdv)).units + 1 < cLine := by have := hr.units; omega
    have hu64 := hr.units
    refine ⟨_, PSs.nox (pss_cons (ps_asg (pe_tup (pa_cons (pe_makeSS T.mk_Sizes (raw0 (ok_Sizes_init T) (bd_Sizes_init T)) (hr.mono (by decide)) (fun σ => passF σ) rfl T.m_Sizes (pa_cons (pv 0) pa_nil)) (pa_cons (pe_call (ok_law_plain T) (hr.mono (by decide)) rfl T.m_law_plain T.F_law_plain.kp (bd_law_plain T) .nil pass0 (pa_cons (pv 0) pa_nil)) pa_nil))) (pg_tup rfl (pgs_cons (pg_name (i := 1) sc_law_told_right.nd rfl (by first | exact Or.inl rfl | exact Or.inr rfl)) (pgs_cons (pg_name (i := 2) sc_law_told_right.nd rfl (by first | exact Or.inl rfl | exact Or.inr rfl)) pgs_nil)))) (pss_cons (ps_set (i := 3) sc_law_told_right.nd rfl (by first | exact Or.inl rfl | exact Or.inr rfl) (pe_lst (pa_cons (pe_callTy (call_listD rfl) (by rfl) T.z_list (by decide +kernel) (pa_cons (pv 2) pa_nil)) (pa_cons (pe_callB call_lenR (by rfl) T.z_len (by decide +kernel) (pa_cons (pv 2) pa_nil)) (pa_cons (pe_callB (call_sumV rfl) (by rfl) T.z_sum (by decide +kernel) (pa_cons (pe_vals (pv 2)) pa_nil)) (pa_cons (pv 2) pa_nil)))))) (pss_cons (ps_if (pt_cmpR (op_neGL mon_row eqG_row (hr.mono (by decide))) (pe_lst (pa_cons (pe_meth0 (pv 1) T.cl_Sizes T.mt_Sizes_names (ok_Sizes_names T) (hr.mono (by decide)) (bd_Sizes_names T) .nil pass0) (pa_cons (pe_callB (call_lenOwn T.mt_Sizes_len (raw0 (ok_Sizes_len T) (bd_Sizes_len T)) (hr.mono (by decide)) pass0) (by rfl) T.z_len (by decide +kernel) (pa_cons (pv 1) pa_nil)) (pa_cons (pe_prop (pv 1) T.cl_Sizes T.pr_Sizes_total (ok_Sizes_total T) (hr.mono (by decide)) (bd_Sizes_total T) .nil pass0 rfl) (pa_cons (pe_meth0 (pv 1) T.cl_Sizes T.mt_Sizes_by_name (ok_Sizes_by_name T) (hr.mono (by decide)) (bd_Sizes_by_name T) .nil pass0) pa_nil))))) (pv 3) (nomark _)) (pss_one (ps_ret pe_bl)) pss_nil) (pss_cons (ps_if (pt_cmpR (op_neD hu64) (pe_lockR (pe_lc (own := [("_law_name", 4)]) rfl sc_law_told_right.nd (pi_keys (pv 0)) (blkOk_by (N := N_law_told_right) (sc := defScope S_law_told_right) (by decide +kernel)) (fun _ _ _ _ _ => (pg_name (i := 4) sc_law_told_right.nd rfl (by first | exact Or.inl rfl | exact Or.inr rfl))) (fun _ _ _ _ _ => pts_nil) (fun _ _ _ _ _ => (pe_ixOwn T.mt_Sizes_getitem (fnIn_of T.F_Sizes_getitem) (raw0 (ok_Sizes_getitem T) (bd_Sizes_getitem T)) (hr.mono (by decide)) pass0 (pv 1) (pv 4))))) (pe_callTy (call_listV rfl) (by rfl) T.z_list (by decide +kernel) (pa_cons (pe_vals (pv 0)) pa_nil)) (nomark _)) (pss_one (ps_ret pe_bl)) pss_nil) (pss_cons (ps_if (pt_cmpR (op_neD hu64) (pe_lc (own := [("_law_odd", 5)]) rfl sc_law_told_right.nd (pi_list (pe_lst (pa_cons pe_str (pa_cons pe_non (pa_cons pe_int (pa_cons (pe_lst pa_nil) pa_nil)))))) (blkOk_by (N := N_law_told_right) (sc := defScope S_law_told_right) (by decide +kernel)) (fun _ _ _ _ _ => (pg_name (i := 5) sc_law_told_right.nd rfl (by first | exact Or.inl rfl | exact Or.inr rfl))) (fun _ _ _ _ _ => pts_nil) (fun _ _ _ _ _ => (pe_ixOwn T.mt_Sizes_getitem (fnIn_of T.F_Sizes_getitem) (raw0 (ok_Sizes_getitem T) (bd_Sizes_getitem T)) (hr.mono (by decide)) pass0 (pv 1) (pv 5)))) (pe_op op_rep (pe_lst (pa_cons pe_int pa_nil)) pe_int) (nomark _)) (pss_one (ps_ret pe_bl)) pss_nil) (pss_cons (ps_if (pt_cmpR (op_neD hu64) (pe_lockR (pe_lc (own := [("_law_name", 4)]) rfl sc_law_told_right.nd (pi_keys (pv 0)) (blkOk_by (N := N_law_told_right) (sc := defScope S_law_told_right) (by decide +kernel)) (fun _ _ _ _ _ => (pg_name (i := 4) sc_law_told_right.nd rfl (by first | exact Or.inl rfl | exact Or.inr rfl))) (fun _ _ _ _ _ => pts_nil) (fun _ _ _ _ _ => (pe_cmpR (op_inOwn T.mt_Sizes_contains (raw0 (ok_Sizes_contains T) (bd_Sizes_contains T)) (hr.mono (by decide)) pass0) (pv 4) (pv 1) rfl)))) (pe_lockR (pe_lc (own := [("_law_name", 4)]) rfl sc_law_told_right.nd (pi_keys (pv 0)) (blkOk_by (N := N_law_told_right) (sc := defScope S_law_told_right) (by decide +kernel)) (fun _ _ _ _ _ => (pg_name (i := 4) sc_law_told_right.nd rfl (by first | exact Or.inl rfl | exact Or.inr rfl))) (fun _ _ _ _ _ => pts_nil) (fun _ _ _ _ _ => (pe_cmpR op_gt (pe_dget hu (pv 0) (pv 4) (fun _ _ => rfl)) pe_int (nomark _))))) (nomark _)) (pss_one (ps_ret pe_bl)) pss_nil) (pss_cons (ps_if (PW.pt (pw_or (pt_cmpR (op_inOwn T.mt_Sizes_contains (raw0 (ok_Sizes_contains T) (bd_Sizes_contains T)) (hr.mono (by decide)) pass0) pe_str (pv 1) rfl) (pw_or1 (pt_cmpR (op_inOwn T.mt_Sizes_contains (raw0 (ok_Sizes_contains T) (bd_Sizes_contains T)) (hr.mono (by decide)) pass0) (pe_lst pa_nil) (pv 1) rfl)))) (pss_one (ps_ret pe_bl)) pss_nil) (pss_one (ps_ret (pe_cmpR op_eq (pe_callTy (call_strOwn T.mt_Sizes_str (raw0 (ok_Sizes_str T) (bd_Sizes_str T)) (hr.mono (by decide)) pass0) (by rfl) T.z_str (by decide +kernel) (pa_cons (pv 1) pa_nil)) (pe_orT (pe_join pe_str (pe_lockR (pe_lc (own := [("_law_name", 4)]) rfl sc_law_told_right.nd (pi_keys (pv 2)) (blkOk_by (N := N_law_told_right) (sc := defScope S_law_told_right) (by decide +kernel)) (fun _ _ _ _ _ => (pg_name (i := 4) sc_law_told_right.nd rfl (by first | exact Or.inl rfl | exact Or.inr rfl))) (fun _ _ _ _ _ => pts_nil) (fun _ _ _ _ _ => (pe_op op_add_str (pe_op op_add_str (pv 4) pe_str) (pe_callTy call_str_int (by rfl) T.z_str (by decide +kernel) (pa_cons (pe_dget hu (pv 2) (pv 4) (fun _ _ => rfl)) pa_nil))))))) (pe_one pe_str)) (nomark _))))))))))), ?_⟩
    refine ⟨_, rfl, r_nil ?_⟩
    refine mk_sz (F := fun _ => none) (fun _ _ e => nomatch e) hd ok fun x F1 H1 g1 x1 => ?_
    refine ⟨_, rfl, r_nil ?_⟩
    refine ⟨d, src, rfl, rd_same g1.hh hd, ok, fun p H2 s2 n2 p2 => ?_⟩
    replace x1 : SzAt K F1 x (canon src) := x1
    refine r_nil ⟨by show 2 ≤ sizeLine; decide, fun t ht => ?_⟩
    have c := Cn.of ok
    have sT : Same H2 (upd H2 t (.tup [.ref x, .ref p])) := same_new ht
    have hd3 := rd_same (same_trans g1.hh (same_trans s2 sT)) hd
    have x3 : SzAt K (upd H2 t (.tup [.ref x, .ref p])) x (canon src) := (x1.same g1.fh).same (same_trans s2 sT)
    have p3 := sT _ _ p2
    have sA : Same H (upd H2 t (.tup [.ref x, .ref p])) := same_trans g1.hh (same_trans s2 sT)
    refine ⟨t, _, rfl, SqT.of upd_same, rfl, _, _, rfl, _, _, rfl, rfl, ?_⟩
    generalize upd H2 t (.tup [.ref x, .ref p]) = H3 at *
    clear sT s2 n2 p2 g1 x1
    -- due_here
    refine ⟨_, rfl, p, _, rfl, .inl p3, fun l1 n1 => ?_⟩
    rw [kvm_names]
    have s' := same_new (o := .lst (((canon src).map (·.1)).map V.str)) n1
    have h_l1 : upd H3 l1 (.lst (((canon src).map (·.1)).map V.str)) l1 = some (.lst (((canon src).map (·.1)).map V.str)) := upd_same
    generalize upd H3 l1 (.lst (((canon src).map (·.1)).map V.str)) = H4 at *
    replace hd3 := rd_same s' hd3
    replace x3 := x3.same s'
    replace p3 := s' _ _ p3
    replace sA := same_trans sA s'
    clear s' n1
    refine ⟨_, rfl, p, _, rfl, .inl p3, ?_⟩
    refine ⟨_, rfl, p, _, rfl, .inl p3, fun l2 n2 => ?_⟩
    have s' := same_new (o := valsO l2 p) n2
    have h_l2 : upd H4 l2 (valsO l2 p) l2 = some (valsO l2 p) := upd_same
    generalize upd H4 l2 (valsO l2 p) = H5 at *
    replace hd3 := rd_same s' hd3
    replace x3 := x3.same s'
    replace p3 := s' _ _ p3
    replace sA := same_trans sA s'
    replace h_l1 := s' _ _ h_l1
    clear s' n2
    refine ⟨l2, p, _, _, rfl, h_l2, .inl p3, kvm_vals _, ?_⟩
    refine ⟨_, rfl, by show 4 ≤ sizeLine; decide, fun l3 n3 => ?_⟩
    rw [kvm_len]
    have s' := same_new (o := .lst [.ref l1, .int (canon src).length, .int ((canon src).map (·.2)).sum, .ref p]) n3
    have h_l3 : upd H5 l3 (.lst [.ref l1, .int (canon src).length, .int ((canon src).map (·.2)).sum, .ref p]) l3 = some (.lst [.ref l1, .int (canon src).length, .int ((canon src).map (·.2)).sum, .ref p]) := upd_same
    generalize upd H5 l3 (.lst [.ref l1, .int (canon src).length, .int ((canon src).map (·.2)).sum, .ref p]) = H6 at *
    replace hd3 := rd_same s' hd3
    replace x3 := x3.same s'
    replace p3 := s' _ _ p3
    replace sA := same_trans sA s'
    replace h_l1 := s' _ _ h_l1
    clear s' n3
    -- the row
    obtain ⟨dx, dk0, od, i1, i2, i3⟩ := id x3
    refine ⟨_, rfl, x, dx, _, rfl, i1, rfl, r_nil ⟨x, canon src, rfl, x3, fun l4 n4 => ?_⟩⟩
    clear i1 i2 i3
    have s' := same_new (o := .lst (((canon src).map (·.1)).map V.str)) n4
    have h_l4 : upd H6 l4 (.lst (((canon src).map (·.1)).map V.str)) l4 = some (.lst (((canon src).map (·.1)).map V.str)) := upd_same
    generalize upd H6 l4 (.lst (((canon src).map (·.1)).map V.str)) = H7 at *
    replace hd3 := rd_same s' hd3
    replace x3 := x3.same s'
    replace p3 := s' _ _ p3
    replace sA := same_trans sA s'
    replace h_l1 := s' _ _ h_l1
    replace h_l3 := s' _ _ h_l3
    clear s' n4
    obtain ⟨dx, dk0, od, i1, i2, i3⟩ := id x3
    refine ⟨_, rfl, x, dx, _, rfl, i1, x, canon src, rfl, x3, _, rfl, by have := canon_len src; have := dk.len; omega, ?_⟩
    refine ⟨_, rfl, x, dx, _, rfl, i1, x, canon src, rfl, x3, fun H8 s8 => ?_⟩
    clear i1 i2 i3
    replace hd3 := rd_same s8 hd3
    replace x3 := x3.same s8
    replace p3 := s8 _ _ p3
    replace sA := same_trans sA s8
    replace h_l1 := s8 _ _ h_l1
    replace h_l3 := s8 _ _ h_l3
    replace h_l4 := s8 _ _ h_l4
    obtain ⟨dx, dk0, od, i1, i2, i3⟩ := id x3
    refine ⟨_, rfl, x, dx, _, rfl, i1, rfl, r_nil ⟨x, canon src, rfl, x3, fun l5 n5 => ?_⟩⟩
    clear i1 i2 i3
    have s' := same_new (o := .dK (kvm (canon src))) n5
    have h_l5 : upd H8 l5 (.dK (kvm (canon src))) l5 = some (.dK (kvm (canon src))) := upd_same
    generalize upd H8 l5 (.dK (kvm (canon src))) = H9 at *
    replace hd3 := rd_same s' hd3
    replace x3 := x3.same s'
    replace p3 := s' _ _ p3
    replace sA := same_trans sA s'
    replace h_l1 := s' _ _ h_l1
    replace h_l3 := s' _ _ h_l3
    replace h_l4 := s' _ _ h_l4
    clear s' n5
    refine ⟨by show 4 ≤ sizeLine; decide, fun l6 n6 => ?_⟩
    have s' := same_new (o := .lst [.ref l4, .int (canon src).length, .int (tot (canon src)), .ref l5]) n6
    have h_l6 : upd H9 l6 (.lst [.ref l4, .int (canon src).length, .int (tot (canon src)), .ref l5]) l6 = some (.lst [.ref l4, .int (canon src).length, .int (tot (canon src)), .ref l5]) := upd_same
    generalize upd H9 l6 (.lst [.ref l4, .int (canon src).length, .int (tot (canon src)), .ref l5]) = HA at *
    replace hd3 := rd_same s' hd3
    replace x3 := x3.same s'
    replace p3 := s' _ _ p3
    replace sA := same_trans sA s'
    replace h_l1 := s' _ _ h_l1
    replace h_l3 := s' _ _ h_l3
    replace h_l4 := s' _ _ h_l4
    replace h_l5 := s' _ _ h_l5
    clear s' n6
    refine ⟨_, rfl, ⟨l6, l3, _, _, rfl, rfl, h_l6, h_l3, prs4 (.inr (.inl ⟨l4, l1, _, _, rfl, rfl, h_l4, h_l1, flat_self (fun x hx => ?_) _⟩)) (.inr (.inr (dflat_int _ _))) (.inr (.inr (dflat_int _ _))) (.inl ⟨l5, p, _, _, rfl, rfl, ⟨.inl h_l5, kvm_int _⟩, ⟨.inl p3, kvm_int _⟩, eqDI_self c.nd⟩)⟩, fun HB sB => ⟨_, rfl, iteF ?_⟩⟩
    · obtain ⟨y, _, rfl⟩ := List.mem_map.mp hx
      exact flat_str y
    clear h_l1 h_l3 h_l4 h_l5 h_l6
    replace hd3 := rd_same sB hd3
    replace x3 := x3.same sB
    replace p3 := sB _ _ p3
    replace sA := same_trans sA sB
    clear sB
    -- the amounts
    refine lockR_of3 hd3 trivial fun o HL QL hl keep fin => ?_
    have xL := szAt_keep x3 keep
    refine ⟨_, rfl, d, o, rfl, .inl ⟨kvm src, hl, fun D hD => lc_gw walk_keys (fun _ => true) (fun i y _ => y = V.int (match src[i]? with | some p => p.2 | none => 0)) (fun _ _ _ _ _ h => h) (same_refl _) hD (by rw [kvm_len]; have := ok.2.1; omega) (fun H' s' => s' _ _ hl) ?lcs ?lcd⟩⟩
    case lcs =>
      rintro i xv F2 H3 H4 Qn Qs hi gw2 ⟨rfl, k, v, e, rfl⟩ qn' qs'
      obtain ⟨p1, ep, rfl, rfl⟩ := kvm_at e
      have x4 := xL.same gw2.hh
      obtain ⟨dx, dk0, od, i1, i2, i3⟩ := id x4
      refine ⟨rfl, yes_then ?_⟩
      refine ⟨_, rfl, _, rfl, x, dx, _, rfl, i1, x, _, _, rfl, x4, .inl ⟨_, rfl, qn' rfl _ F2 H4 (Gw.refl gw2.fh) ?_⟩⟩
      rw [ep, val_canon ok.val0, val_mem ok.1 (List.mem_of_getElem? ep)]
    case lcd =>
      intro zs F2 H4 gw2 fD hH pr
      rw [kvm_len, filter_true] at pr
      have ez := paired_eq pr
      rw [range_map src _ (fun p => V.int p.2) (fun i p hp => by rw [hp])] at ez
      rw [ez] at hH
      have nD : D ≠ d := fun e => by rw [e, hl] at hD; cases hD
      refine fin _ _ gw2.hh fun HC sC kC => ?_
      have h_D := kC D _ nD hH
      replace hd3 := rd_same sC hd3
      replace x3 := x3.same sC
      replace p3 := sC _ _ p3
      replace sA := same_trans sA sC
      clear sC kC hH gw2 hD hl keep fin xL ez pr zs fD
      refine ⟨_, rfl, d, _, rfl, hd3, fun v nv => ?_⟩
      have s' := same_new (o := valsO v d) nv
      have h_v : upd HC v (valsO v d) v = some (valsO v d) := upd_same
      generalize upd HC v (valsO v d) = HE at *
      replace hd3 := rd_same s' hd3
      replace x3 := x3.same s'
      replace p3 := s' _ _ p3
      replace sA := same_trans sA s'
      replace h_D := s' _ _ h_D
      clear s' nv
      refine ⟨v, d, _, rfl, h_v, hd3, fun l7 n7 => ?_⟩
      rw [kvm_vals]
      have s' := same_new (o := .lst ((src.map (·.2)).map V.int)) n7
      have h_l7 : upd HE l7 (.lst ((src.map (·.2)).map V.int)) l7 = some (.lst ((src.map (·.2)).map V.int)) := upd_same
      generalize upd HE l7 (.lst ((src.map (·.2)).map V.int)) = HF at *
      replace hd3 := rd_same s' hd3
      replace x3 := x3.same s'
      replace p3 := s' _ _ p3
      replace sA := same_trans sA s'
      replace h_D := s' _ _ h_D
      clear s' n7
      have e0 : src.map (fun p => V.int p.2) = (src.map (·.2)).map V.int := by rw [List.map_map]; rfl
      rw [e0] at h_D
      refine ⟨_, _, .lst (SqL.of h_D) (dpAll_ints _), .lst (SqL.of h_l7) (dpAll_ints _), shaped_ints _, shaped_ints _, _, rfl, ?_⟩
      rw [eqv_ints]
      refine iteF ?_
      clear h_D h_l7 h_v e0
      -- odd names
      refine ⟨by show 0 ≤ sizeLine; decide, fun e ne => ?_⟩
      have s' := same_new (o := .lst []) ne
      have h_e : upd HF e (.lst []) e = some (.lst []) := upd_same
      generalize upd HF e (.lst []) = HG at *
      replace hd3 := rd_same s' hd3
      replace x3 := x3.same s'
      replace p3 := s' _ _ p3
      replace sA := same_trans sA s'
      clear s' ne
      refine ⟨by show 4 ≤ sizeLine; decide, fun l8 n8 => ?_⟩
      have s' := same_new (o := .lst [.str "zz", .non, .int 1, .ref e]) n8
      have h_l8 : upd HG l8 (.lst [.str "zz", .non, .int 1, .ref e]) l8 = some (.lst [.str "zz", .non, .int 1, .ref e]) := upd_same
      generalize upd HG l8 (.lst [.str "zz", .non, .int 1, .ref e]) = HI at *
      replace hd3 := rd_same s' hd3
      replace x3 := x3.same s'
      replace p3 := s' _ _ p3
      replace sA := same_trans sA s'
      replace h_e := s' _ _ h_e
      clear s' n8
      refine ⟨l8, rfl, ⟨_, SqL.of h_l8⟩, fun D2 hD2 => lc_gw (walk_list (xs := [.str "zz", .non, .int 1, .ref e])) (fun _ => true) (fun i y _ => y = V.int 0) (fun _ _ _ _ _ h => h) (same_refl _) hD2 (by show 4 < 100000; decide) (fun H' s' => SqL.of (s' _ _ h_l8)) ?lcs2 ?lcd2⟩
      case lcs2 =>
        rintro i xv F2 H3 H4 Qn Qs hi gw2 ⟨rfl, e1⟩ qn' qs'
        have x4 := x3.same gw2.hh
        obtain ⟨dx, dk0, od, i1, i2, i3⟩ := id x4
        have fin : Qn (.int 0) H4 := qn' rfl _ F2 H4 (Gw.refl gw2.fh) rfl
        have hm := List.mem_of_getElem? e1
        refine ⟨rfl, yes_then ?_⟩
        refine ⟨_, rfl, _, rfl, x, dx, _, rfl, i1, x, _, _, rfl, x4, ?_⟩
        simp only [List.mem_cons, List.not_mem_nil, or_false] at hm
        rcases hm with rfl | rfl | rfl | rfl
        · refine .inl ⟨_, rfl, ?_⟩
          rw [zz_val dk]
          exact fin
        · exact .inr ⟨⟨_, .base .non, kit_ty (by decide +kernel)⟩, fin⟩
        · exact .inr ⟨noStr_int _ _ _, fin⟩
        · exact .inr ⟨⟨_, .base (.lst (gw2.hh _ _ h_e)), kit_ty (by decide +kernel)⟩, fin⟩
      case lcd2 =>
        intro zs F2 H4 gw2 fD2 hH pr
        have ez := paired_eq (g := fun _ => V.int 0) pr
        rw [ez] at hH
        have hD := hH
        replace gw2 := gw2.hh
        replace hd3 := rd_same gw2 hd3
        replace x3 := x3.same gw2
        replace p3 := gw2 _ _ p3
        replace sA := same_trans sA gw2
        replace h_e := gw2 _ _ h_e
        refine ⟨by show 1 ≤ sizeLine; decide, fun z nz => ?_⟩
        have s' := same_new (o := .lst [.int 0]) nz
        have h_z : upd H4 z (.lst [.int 0]) z = some (.lst [.int 0]) := upd_same
        generalize upd H4 z (.lst [.int 0]) = HJ at *
        replace hd3 := rd_same s' hd3
        replace x3 := x3.same s'
        replace p3 := s' _ _ p3
        replace sA := same_trans sA s'
        replace h_e := s' _ _ h_e
        replace hD := s' _ _ hD
        clear s' nz
        refine ⟨z, 4, _, rfl, rfl, h_z, by decide, by decide, by show 1 * 4 ≤ sizeLine; decide, fun l9 n9 => ?_⟩
        have s' := same_new (o := .lst (List.replicate (4 : Int).toNat [V.int 0]).flatten) n9
        have h_l9 : upd HJ l9 (.lst (List.replicate (4 : Int).toNat [V.int 0]).flatten) l9 = some (.lst (List.replicate (4 : Int).toNat [V.int 0]).flatten) := upd_same
        generalize upd HJ l9 (.lst (List.replicate (4 : Int).toNat [V.int 0]).flatten) = HK at *
        replace hd3 := rd_same s' hd3
        replace x3 := x3.same s'
        replace p3 := s' _ _ p3
        replace sA := same_trans sA s'
        replace h_e := s' _ _ h_e
        replace hD := s' _ _ hD
        clear s' n9
        refine ⟨_, _, .lst (xs := [0, 0, 0, 0].map V.int) (SqL.of hD) (dpAll_ints _), .lst (xs := [0, 0, 0, 0].map V.int) (SqL.of h_l9) (dpAll_ints _), shaped_ints _, shaped_ints _, _, rfl, ?_⟩
        rw [eqv_ints]
        refine iteF ?_
        -- who is in
        refine lockR_of3 hd3 trivial fun o HL QL hl keep fin => ?_
        have xL := szAt_keep x3 keep
        refine ⟨_, rfl, d, o, rfl, .inl ⟨kvm src, hl, fun D hD => lc_gw walk_keys (fun _ => true) (fun i y _ => y = V.bl (match src[i]? with | some p => decide (0 < p.2) | none => true)) (fun _ _ _ _ _ h => h) (same_refl _) hD (by rw [kvm_len]; have := ok.2.1; omega) (fun H' s' => s' _ _ hl) ?lcs3 ?lcd3⟩⟩
        case lcs3 =>
          rintro i xv F2 H3 H4 Qn Qs hi gw2 ⟨rfl, k, v, e, rfl⟩ qn' qs'
          obtain ⟨p1, ep, rfl, rfl⟩ := kvm_at e
          have x4 := xL.same gw2.hh
          obtain ⟨dx, dk0, od, i1, i2, i3⟩ := id x4
          refine ⟨rfl, yes_then ?_⟩
          refine ⟨_, rfl, _, rfl, x, dx, _, rfl, i1, x, _, _, rfl, x4, .inl ⟨_, rfl, _, rfl, qn' rfl _ F2 H4 (Gw.refl gw2.fh) ?_⟩⟩
          rw [ep]
          refine congrArg V.bl (decide_eq_decide.mpr ?_)
          rw [c.mem, val_canon ok.val0, val_mem ok.1 (List.mem_of_getElem? ep)]
        case lcd3 =>
          intro zs F2 H4 gw2 fD hH pr
          rw [kvm_len, filter_true] at pr
          have ez := paired_eq pr
          rw [range_map src _ (fun p => V.bl (decide (0 < p.2))) (fun i p hp => by rw [hp])] at ez
          rw [ez] at hH
          have nD : D ≠ d := fun e => by rw [e, hl] at hD; cases hD
          refine fin _ _ gw2.hh fun HC sC kC => ?_
          have h_D := kC D _ nD hH
          replace hd3 := rd_same sC hd3
          replace x3 := x3.same sC
          replace p3 := sC _ _ p3
          replace sA := same_trans sA sC
          clear sC kC hH gw2 hD hl keep fin xL ez pr zs fD
          refine lockR_of3 hd3 trivial fun o HL QL hl keep fin => ?_
          refine ⟨_, rfl, d, o, rfl, .inl ⟨kvm src, hl, fun D5 hD5 => lc_gw walk_keys (fun _ => true) (fun i y _ => y = V.bl (match src[i]? with | some p => decide (0 < p.2) | none => true)) (fun _ _ _ _ _ h => h) (same_refl _) hD5 (by rw [kvm_len]; have := ok.2.1; omega) (fun H' s' => s' _ _ hl) ?lcs4 ?lcd4⟩⟩
          case lcs4 =>
            rintro i xv F2 H3 H4 Qn Qs hi gw2 ⟨rfl, k, v, e, rfl⟩ qn' qs'
            obtain ⟨p1, ep, rfl, rfl⟩ := kvm_at e
            have hm : p1.1 ∈ src.map (·.1) := List.mem_map.mpr ⟨p1, List.mem_of_getElem? ep, rfl⟩
            have dg := dget_kvm (H := H4) (d := d) (m := src) (y := p1.1) (.inr ⟨o, gw2.hh _ _ hl⟩) hm
            rw [val_mem ok.1 (List.mem_of_getElem? ep)] at dg
            refine ⟨rfl, yes_then ?_⟩
            refine ⟨_, rfl, _, rfl, d, _, rfl, dg, _, _, rfl, rfl, qn' rfl _ F2 H4 (Gw.refl gw2.fh) ?_⟩
            rw [ep]
          case lcd4 =>
            intro zs F2 H4 gw2 fD hH pr
            rw [kvm_len, filter_true] at pr
            have ez := paired_eq pr
            rw [range_map src _ (fun p => V.bl (decide (0 < p.2))) (fun i p hp => by rw [hp])] at ez
            rw [ez] at hH
            have nD : D5 ≠ d := fun e => by rw [e, hl] at hD5; cases hD5
            refine fin _ _ gw2.hh fun HC sC kC => ?_
            have h_E := kC D5 _ nD hH
            replace hd3 := rd_same sC hd3
            replace x3 := x3.same sC
            replace p3 := sC _ _ p3
            replace sA := same_trans sA sC
            replace h_D := sC _ _ h_D
            clear sC kC hH gw2 hl keep fin ez pr zs fD
            have e0 : src.map (fun p => V.bl (decide (0 < p.2))) = (src.map fun p => decide (0 < p.2)).map V.bl := by rw [List.map_map]; rfl
            rw [e0] at h_D h_E
            refine ⟨_, _, bD_dp h_D, bD_dp h_E, bD_shaped _, bD_shaped _, _, rfl, ?_⟩
            rw [eqv_refl _ (bD_lay _)]
            refine iteF ?_
            -- zz, []
            obtain ⟨dx, dk0, od, i1, i2, i3⟩ := id x3
            have hz : decide (("zz" : Str) ∈ (canon src).map (·.1)) = false := decide_eq_false fun hm => by
              have := c.mem.mp hm
              rw [zz_val dk] at this
              exact absurd this (by decide)
            refine ⟨_, rfl, x, dx, _, rfl, i1, x, _, _, rfl, x3, .inl ⟨_, rfl, _, rfl, _, rfl, ?_⟩⟩
            rw [hz]
            refine iteF ?_
            refine ⟨by show 0 ≤ sizeLine; decide, fun e5 ne5 => ?_⟩
            clear i1 i2 i3
            have s' := same_new (o := .lst []) ne5
            have h_e5 : upd HC e5 (.lst []) e5 = some (.lst []) := upd_same
            generalize upd HC e5 (.lst []) = HM at *
            replace hd3 := rd_same s' hd3
            replace x3 := x3.same s'
            replace p3 := s' _ _ p3
            replace sA := same_trans sA s'
            clear s' ne5
            obtain ⟨dx, dk0, od, i1, i2, i3⟩ := id x3
            refine ⟨_, rfl, x, dx, _, rfl, i1, x, _, _, rfl, x3, .inr ⟨⟨_, .base (.lst h_e5), kit_ty (by decide +kernel)⟩, _, rfl, _, rfl, iteF ?_⟩⟩
            -- str
            have sm := small_canon dk
            refine ⟨_, rfl, x, dx, _, rfl, i1, x, _, rfl, x3, c, sm, fun HN sN => ⟨_, rfl, ?_⟩⟩
            clear i1 i2 i3
            replace hd3 := rd_same sN hd3
            replace x3 := x3.same sN
            replace p3 := sN _ _ p3
            replace sA := same_trans sA sN
            refine ⟨⟨_, rfl⟩, ?_⟩
            refine lockR_of3 (.inl p3) trivial fun o HL QL hl keep fin => ?_
            refine ⟨_, rfl, p, o, rfl, .inl ⟨kvm (canon src), hl, fun D6 hD6 => lc_gw walk_keys (fun _ => true) (fun i y _ => y = V.str (match (canon src)[i]? with | some p => szRow p | none => "")) (fun _ _ _ _ _ h => h) (same_refl _) hD6 (by rw [kvm_len]; have := c.ok.2.1; omega) (fun H' s' => s' _ _ hl) ?lcs5 ?lcd5⟩⟩
            case lcs5 =>
              rintro i xv F2 H3 H4 Qn Qs hi gw2 ⟨rfl, k, v, e, rfl⟩ qn' qs'
              obtain ⟨p1, ep, rfl, rfl⟩ := kvm_at e
              have hp := List.mem_of_getElem? ep
              have hm : p1.1 ∈ (canon src).map (·.1) := List.mem_map.mpr ⟨p1, hp, rfl⟩
              have dg := dget_kvm (H := H4) (d := p) (m := canon src) (y := p1.1) (.inr ⟨o, gw2.hh _ _ hl⟩) hm
              rw [val_mem c.nd hp] at dg
              have l2 := szRow_len c sm p1 hp
              have big : (2000 : Nat) ≤ sizeLine := by decide
              unfold szRow at l2
              rw [strLen_append, strLen_append] at l2
              refine ⟨rfl, yes_then ?_⟩
              refine ⟨_, rfl, _, _, rfl, rfl, by omega, _, rfl, _, rfl, p, _, rfl, dg, _, rfl, sm p1 hp, _, _, rfl, rfl, by rw [strLen_append]; omega, qn' rfl _ F2 H4 (Gw.refl gw2.fh) ?_⟩
              rw [ep]
              rfl
            case lcd5 =>
              intro zs F2 H4 gw2 fD hH pr
              rw [kvm_len, filter_true] at pr
              have ez := paired_eq pr
              rw [range_map (canon src) _ (fun p => V.str (szRow p)) (fun i p hp => by rw [hp])] at ez
              rw [ez] at hH
              have nD : D6 ≠ p := fun e => by rw [e, hl] at hD6; cases hD6
              refine fin _ _ gw2.hh fun HC sC kC => ?_
              have h_E := kC D6 _ nD hH
              have e0 : (canon src).map (fun p => V.str (szRow p)) = ((canon src).map szRow).map V.str := by rw [List.map_map]; rfl
              rw [e0] at h_E
              have l1 := sum_le (ys := (canon src).map szRow) (b := 2000) fun y hy => by
                obtain ⟨p, hp, rfl⟩ := List.mem_map.mp hy
                exact szRow_len c sm p hp
              rw [List.length_map] at l1
              have l2 := c.ok.2.1
              have l3 : Str.length (" " : Str) = 1 := rfl
              refine ⟨" ", D6, _, rfl, rfl, .inl (SqL.of h_E), by rw [List.length_map, l3]; omega, _, ⟨join_small (by rw [List.length_map]; exact l1) (by rw [List.length_map]; exact l2), rfl⟩, ?_⟩
              have fq : Q (.bl true) HC := q _ (same_trans sA sC)
              by_cases ec : canon src = []
              · have e1 : szStr (canon src) = "-" := by unfold szStr; rw [if_pos ec]
                have e2 : Txt.join " " ((canon src).map szRow) = Txt.join " " [] := by rw [ec]; rfl
                rw [e1, e2]
                exact iteF (req_self rfl fq)
              · have e1 : szStr (canon src) = Txt.join " " ((canon src).map szRow) := by unfold szStr; rw [if_neg ec]
                rw [e1]
                refine iteT' ?_ (req_self rfl fq)
                cases e3 : canon src with
                | nil => exact absurd e3 ec
                | cons p0 r0 =>
                  have h0 : 0 < (szRow p0).length := by
                    unfold szRow
                    have l3 : Str.length (" " : Str) = 1 := rfl
                    rw [strLen_append, strLen_append, l3]
                    omega
                  have h1 : 0 < (Txt.join " " ((p0 :: r0).map szRow)).length := join_pos h0
                  generalize (Txt.join " " ((p0 :: r0).map szRow)).length = n at *
                  exact bne_iff_ne.mpr (by omega)
theorem bd_law_told_right {K : PySem.W.Frag} {mg : Str → Option Value} (T : Tx K mg) : Binds K (D_law_told_right K) ["_law_amounts_here"] [] := T.F_law_told_right.bindsN fun _ _ _ _ _ _ us hl => match us, hl with | [_], _ => rfl
end
end Lp

set_option Elab.async false
set_option linter.all false
set_option maxRecDepth 100000
set_option maxHeartbeats 4000000
namespace Lp
open PySem PySem.Spec PyProof.Rows L2
/-! ### _law_two_right -/
theorem ix_listK {X : Cx} {K0 : PySem.W.Frag} (hK : X.K = K0) : IxR X (rIxL K0) := by
  subst hK
  exact ix_list
theorem op_or {X : Cx} {f : Value → Value → Sem Value} {r1 r2 : R2} (h1 : OpR X f r1) (h2 : OpR X f r2) : OpR X f (fun x y H Q => r1 x y H Q ∨ r2 x y H Q) := fun pins s σ H x y v u Q I rx ry h => by
  rcases h with h | h
  · exact h1 pins s σ H x y v u Q I rx ry h
  · exact h2 pins s σ H x y v u Q I rx ry h
theorem paired_at {α β : Type} {R : α → β → Prop} : ∀ {l : List α} {ys : List β}, Paired R l ys → ys.length = l.length ∧ ∀ (i : Nat) (a : α), l[i]? = some a → ∃ b, ys[i]? = some b ∧ R a b
  | _, _, .nil => ⟨rfl, fun i a e => by simp at e⟩
  | _, _, .cons r t => by
    obtain ⟨hl, h⟩ := paired_at t
    refine ⟨by simp [hl], fun i a e => ?_⟩
    cases i with
    | zero => cases e; exact ⟨_, rfl, r⟩
    | succ i => exact h i a e
/-- a list of pairs of ints, one for each name -/
def AllT (H : Hp) (zs : List V) (ys : List Str) (s1 s2 : List (Str × Int)) : Prop := zs.length = ys.length ∧ ∀ (i : Nat) (y : Str), ys[i]? = some y → ∃ t, zs[i]? = some (.ref t) ∧ H t = some (.tup [.int (val s1 y), .int (val s2 y)])
theorem allT_same {H H' : Hp} {zs : List V} {ys : List Str} {s1 s2 : List (Str × Int)} (s : Same H H') (h : AllT H zs ys s1 s2) : AllT H' zs ys s1 s2 := ⟨h.1, fun i y e => let ⟨t, e1, h1⟩ := h.2 i y e; ⟨t, e1, s _ _ h1⟩⟩
theorem AllT.at {H : Hp} {zs : List V} {ys : List Str} {s1 s2 : List (Str × Int)} (h : AllT H zs ys s1 s2) {i : Nat} {v : V} (e : zs[i]? = some v) : ∃ t y, v = .ref t ∧ ys[i]? = some y ∧ H t = some (.tup [.int (val s1 y), .int (val s2 y)]) := by
  have hi : i < ys.length := by rw [← h.1]; exact (List.getElem?_eq_some_iff.mp e).1
  obtain ⟨t, e1, h1⟩ := h.2 i _ (List.getElem?_eq_getElem hi)
  rw [e] at e1
  cases e1
  exact ⟨t, _, rfl, List.getElem?_eq_getElem hi, h1⟩
theorem paired_tup {K : PySem.W.Frag} {H : Hp} : ∀ {ts : List Addr} {kvs : List (Key × V)}, Paired (fun (t : Addr) (q : Key × V) => H t = some (.tup [kV q.1, q.2])) ts kvs → Paired (fun p kv => SqT K H p [kV kv.1, kv.2]) ts kvs
  | _, _, .nil => .nil
  | _, _, .cons h t => .cons (SqT.of h) (paired_tup t)
theorem paired_up {H H' : Hp} (s : Same H H') : ∀ {ts : List Addr} {kvs : List (Key × V)}, Paired (fun (t : Addr) (q : Key × V) => H t = some (.tup [kV q.1, q.2])) ts kvs → Paired (fun (t : Addr) (q : Key × V) => H' t = some (.tup [kV q.1, q.2])) ts kvs
  | _, _, .nil => .nil
  | _, _, .cons h t => .cons (s _ _ h) (paired_up s t)
theorem kvm_app (a b : List (Str × Int)) : kvm (a ++ b) = kvm a ++ kvm b := List.map_append
theorem puts_off {s1 s2 : List (Str × Int)} (y : Str) (h : y ∉ (putsS (s1 ++ s2)).map (·.1)) : val s1 y = 0 ∧ val s2 y = 0 := by
  have key : ∀ (l a : List (Str × Int)), y ∈ a.map (·.1) ∨ y ∈ l.map (·.1) → y ∈ (l.foldl (fun a p => putS a p.1 p.2) a).map (·.1) := by
    intro l
    induction l with
    | nil => intro a h; exact h.elim id fun z => by simp at z
    | cons p r ih =>
      intro a h
      refine ih (putS a p.1 p.2) ?_
      rw [putS_keys]
      rcases h with h | h
      · refine .inl ?_
        split
        · exact h
        · exact List.mem_append.mpr (.inl h)
      · rcases List.mem_cons.mp h with z | z
        · refine .inl ?_
          split
          · rename_i hp; rw [z]; exact hp
          · exact List.mem_append.mpr (.inr (List.mem_singleton.mpr z))
        · exact .inr z
  have hn : y ∉ (s1 ++ s2).map (·.1) := fun z => h (key _ [] (.inr z))
  rw [List.map_append] at hn
  exact ⟨val_off fun z => hn (List.mem_append.mpr (.inl z)), val_off fun z => hn (List.mem_append.mpr (.inr z))⟩
/-- a row of the law: a Sizes object, and the amounts that are due -/
def RowOk (K : PySem.W.Frag) (H : Hp) (t : Addr) (ys : List Str) (s1 s2 : List (Str × Int)) : Prop := ∃ (g : Int → Int → Int) (r L : Addr) (m : List (Str × Int)), H t = some (.tup [.ref r, .ref L]) ∧ SzAt K H r m ∧ Cn m ∧ (∀ y, val m y = g (val s1 y) (val s2 y)) ∧ H L = some (.lst (ys.map fun y => V.int (g (val s1 y) (val s2 y)))) ∧ g 0 0 = 0 ∧ ∀ i j, 0 ≤ i → 0 ≤ j → 0 ≤ g i j
theorem RowOk.same {K : PySem.W.Frag} {H H' : Hp} {t : Addr} {ys : List Str} {s1 s2 : List (Str × Int)} (s : Same H H') (h : RowOk K H t ys s1 s2) : RowOk K H' t ys s1 s2 := by
  obtain ⟨g, r, L, m, h1, h2, h3, h4, h5, h6⟩ := h
  exact ⟨g, r, L, m, s _ _ h1, h2.same s, h3, h4, s _ _ h5, h6⟩
theorem iteF' {b : Bool} {p q : Prop} (e : b = false) (h : q) : if b = true then p else q := by rw [e]; exact h
theorem fits_eq {ys : List Str} {s1 s2 : List (Str × Int)} (o1 : SrcOk s1) (o2 : SrcOk s2) (yv : ∀ y, y ∉ ys → val s1 y = 0 ∧ val s2 y = 0) : ((canon s1).all fun p => decide (p.2 ≤ val (canon s2) p.1)) = !(inV (.bl false) (ys.map fun y => V.bl (decide (val s1 y ≤ val s2 y)))) := by
  have a1 : ((canon s1).all fun p => decide (p.2 ≤ val (canon s2) p.1)) = true ↔ ∀ y, val s1 y ≤ val s2 y := by
    rw [List.all_eq_true]
    constructor
    · intro h y
      by_cases hy : 0 < val s1 y
      · have := of_decide_eq_true (h (y, val s1 y) (List.mem_map.mpr ⟨y, mem_pos.mpr hy, rfl⟩))
        rwa [val_canon o2.val0] at this
      · have := o2.val0 y
        omega
    · intro h p hp
      obtain ⟨y, _, rfl⟩ := List.mem_map.mp hp
      refine decide_eq_true ?_
      rw [val_canon o2.val0]
      exact h y
  have a2 : inV (.bl false) (ys.map fun y => V.bl (decide (val s1 y ≤ val s2 y))) = false ↔ ∀ y, val s1 y ≤ val s2 y := by
    unfold inV
    rw [List.any_map, List.any_eq_false]
    constructor
    · intro h y
      by_cases hy : y ∈ ys
      · have := h y hy
        by_cases z : val s1 y ≤ val s2 y
        · exact z
        · exact absurd (by simp [eqV, z]) this
      · obtain ⟨e1, e2⟩ := yv y hy
        omega
    · intro h y _
      simp [eqV, h y]
  by_cases h : ∀ y, val s1 y ≤ val s2 y
  · rw [a1.mpr h, a2.mpr h]; rfl
  · have b1 : ((canon s1).all fun p => decide (p.2 ≤ val (canon s2) p.1)) = false := by
      cases e : ((canon s1).all fun p => decide (p.2 ≤ val (canon s2) p.1)) with
      | false => rfl
      | true => exact absurd (a1.mp e) h
    have b2 : inV (.bl false) (ys.map fun y => V.bl (decide (val s1 y ≤ val s2 y))) = true := by
      cases e : inV (.bl false) (ys.map fun y => V.bl (decide (val s1 y ≤ val s2 y))) with
      | true => rfl
      | false => exact absurd (a2.mp e) h
    rw [b1, b2]; rfl
def spTwo (K : PySem.W.Frag) : Sp := fun vs H Q _ => ∃ d1 d2 s1 s2, vs = [.ref d1, .ref d2] ∧ H d1 = some (.dK (kvm s1)) ∧ H d2 = some (.dK (kvm s2)) ∧ DOk s1 ∧ DOk s2 ∧ d1 ≠ d2 ∧ ∀ H', Same H H' → Q (.bl true) H'
abbrev N_law_two_right : List Str := ["_law_one", "_law_other", "_law_names", "_law_first", "_law_second", "_law_pairs", "_law_name", "_law_rows", "_law_a", "_law_b", "_law_found", "_law_due_here", "_law_at"]
theorem sc_law_two_right : FnScope N_law_two_right ["_law_one", "_law_other"] (defScope S_law_two_right) := ⟨rfl, rfl, rfl, by decide +kernel, rfl, by decide +kernel, by decide +kernel⟩
section
variable {P : Program} {w : World} {K : PySem.W.Frag} {mg : Str → Option Value} {base : Heap}
theorem ok_law_two_right (T : Tx K mg) : FnOk P w K mg base CX0 7 (A_law_two_right K) (D_law_two_right K) ["_law_one", "_law_other"] (spTwo K) := by
  refine T.F_law_two_right.ok sc_law_two_right (fun vs H Q E h => ?_) (fun cdv A outer s H vs Q E hr h => ?_)
  · obtain ⟨d1, d2, s1, s2, rfl, _⟩ := h
    rfl
  · obtain ⟨d1, d2, s1, s2, rfl, hd1, hd2, k1, k2, ne, q⟩ := h
    have hu : (A.deeper (envOfC "_law_two_right" (defScope S_law_two_right) s.heap.objs.size (A_law_two_right K) cdv)).units + 1 < cLine := by have := hr.units; omega
    have hu0 : (A.deeper (envOfC "_law_two_right" (defScope S_law_two_right) s.heap.objs.size (A_law_two_right K) cdv)).units < cLine := by omega
    have hu64 := hr.units
    have o1 := k1.ok
    have o2 := k2.ok
    have sA : Same H H := same_refl H
    have hd10 := hd1
    have hd20 := hd2
    refine ⟨_, PSs.nox (pss_cons (ps_set (i := 2) sc_law_two_right.nd rfl (by first | exact Or.inl rfl | exact Or.inr rfl) (pe_callB (call_sortedD rfl) (by rfl) T.z_sorted (by decide +kernel) (pa_cons (pe_callTy (call_dictP rfl) (by rfl) T.z_dict (by decide +kernel) (pa_cons (pe_op op_cat (LiI.pe_listItems rfl (pv 0) rfl T.z_list (by decide +kernel)) (LiI.pe_listItems rfl (pv 1) rfl T.z_list (by decide +kernel))) pa_nil)) pa_nil))) (pss_cons (ps_par (i := 3) (j := 4) rfl sc_law_two_right.nd rfl rfl (by decide) rfl rfl (pa_cons (pe_makeSS T.mk_Sizes (raw0 (ok_Sizes_init T) (bd_Sizes_init T)) (hr.mono (by decide)) (fun σ => passF σ) rfl T.m_Sizes (pa_cons (pv 0) pa_nil)) (pa_cons (pe_makeSS T.mk_Sizes (raw0 (ok_Sizes_init T) (bd_Sizes_init T)) (hr.mono (by decide)) (fun σ => passF σ) rfl T.m_Sizes (pa_cons (pv 1) pa_nil)) pa_nil)) rfl) (pss_cons (ps_setLc (i := 5) (own := [("_law_name", 6)]) rfl sc_law_two_right.nd rfl rfl (sw_true rfl rfl rfl (by decide +kernel)) (pi_list (pv 2)) (blkOk_by (N := N_law_two_right) (sc := defScope S_law_two_right) (by decide +kernel)) (fun _ _ _ _ _ => (pg_name (i := 6) sc_law_two_right.nd rfl (by first | exact Or.inl rfl | exact Or.inr rfl))) (fun _ _ _ _ _ => pts_nil) (fun _ _ _ _ _ => (pe_tup (pa_cons (pe_dget2 hu (pv 0) (pv 6) pe_int ⟨rfl, rfl, rfl, rfl⟩) (pa_cons (pe_dget2 hu (pv 1) (pv 6) pe_int ⟨rfl, rfl, rfl, rfl⟩) pa_nil))))) (pss_cons (ps_set (i := 7) sc_law_two_right.nd rfl (by first | exact Or.inl rfl | exact Or.inr rfl) (pe_lst (pa_cons (pe_tup (pa_cons (pe_binSK (K0 := K) (C := He.ga K "Sizes") (nm := "add") rfl rfl ⟨T.kc_Sizes.sf, T.mt_Sizes_add.at_, T.mt_Sizes_add.fn, T.ro_Sizes_add⟩ (raw0 (ok_Sizes_add T) (bd_Sizes_add T)) (hr.mono (by decide)) (fun σ => passF σ) (pv 3) (pv 4)) (pa_cons (pe_lc (own := [("_law_a", 8), ("_law_b", 9)]) (g := gTup K 2 (gCons (gName 8) (gCons (gName 9) (gNil)))) rfl sc_law_two_right.nd (pi_list (pv 5)) (blkOk_by (N := N_law_two_right) (sc := defScope S_law_two_right) (by decide +kernel)) (fun _ _ _ _ _ => (pg_tup rfl (pgs_cons (pg_name (i := 8) sc_law_two_right.nd rfl (by first | exact Or.inl rfl | exact Or.inr rfl)) (pgs_cons (pg_name (i := 9) sc_law_two_right.nd rfl (by first | exact Or.inl rfl | exact Or.inr rfl)) pgs_nil)))) (fun _ _ _ _ _ => pts_nil) (fun _ _ _ _ _ => (pe_op op_add (pv 8) (pv 9)))) pa_nil))) (pa_cons (pe_tup (pa_cons (pe_binSK (K0 := K) (C := He.ga K "Sizes") (nm := "and") rfl rfl ⟨T.kc_Sizes.sf, T.mt_Sizes_and.at_, T.mt_Sizes_and.fn, T.ro_Sizes_and⟩ (raw0 (ok_Sizes_and T) (bd_Sizes_and T)) (hr.mono (by decide)) (fun σ => passF σ) (pv 3) (pv 4)) (pa_cons (pe_lc (own := [("_law_a", 8), ("_law_b", 9)]) (g := gTup K 2 (gCons (gName 8) (gCons (gName 9) (gNil)))) rfl sc_law_two_right.nd (pi_list (pv 5)) (blkOk_by (N := N_law_two_right) (sc := defScope S_law_two_right) (by decide +kernel)) (fun _ _ _ _ _ => (pg_tup rfl (pgs_cons (pg_name (i := 8) sc_law_two_right.nd rfl (by first | exact Or.inl rfl | exact Or.inr rfl)) (pgs_cons (pg_name (i := 9) sc_law_two_right.nd rfl (by first | exact Or.inl rfl | exact Or.inr rfl)) pgs_nil)))) (fun _ _ _ _ _ => pts_nil) (fun _ _ _ _ _ => (pe_callB (call_min2 rfl) (by rfl) T.z_min (by decide +kernel) (pa_cons (pv 8) (pa_cons (pv 9) pa_nil))))) pa_nil))) pa_nil)))) (pss_cons (ps_expr (pe_bm PySem.F.plainAttrs_list PySem.F.slot_list_append PySem.F.type_list_append mt_append (pv 7) (pa_cons (pe_tup (pa_cons (pe_binSK (K0 := K) (C := He.ga K "Sizes") (nm := "or") rfl rfl ⟨T.kc_Sizes.sf, T.mt_Sizes_or.at_, T.mt_Sizes_or.fn, T.ro_Sizes_or⟩ (raw0 (ok_Sizes_or T) (bd_Sizes_or T)) (hr.mono (by decide)) (fun σ => passF σ) (pv 3) (pv 4)) (pa_cons (pe_lc (own := [("_law_a", 8), ("_law_b", 9)]) (g := gTup K 2 (gCons (gName 8) (gCons (gName 9) (gNil)))) rfl sc_law_two_right.nd (pi_list (pv 5)) (blkOk_by (N := N_law_two_right) (sc := defScope S_law_two_right) (by decide +kernel)) (fun _ _ _ _ _ => (pg_tup rfl (pgs_cons (pg_name (i := 8) sc_law_two_right.nd rfl (by first | exact Or.inl rfl | exact Or.inr rfl)) (pgs_cons (pg_name (i := 9) sc_law_two_right.nd rfl (by first | exact Or.inl rfl | exact Or.inr rfl)) pgs_nil)))) (fun _ _ _ _ _ => pts_nil) (fun _ _ _ _ _ => (pe_callB (call_max2 rfl) (by rfl) T.z_max (by decide +kernel) (pa_cons (pv 8) (pa_cons (pv 9) pa_nil))))) pa_nil))) pa_nil))) (pss_cons (ps_for PassesOwn.never rfl (pi_list (pv 7)) (pg_tup rfl (pgs_cons (pg_name (i := 10) sc_law_two_right.nd rfl (by first | exact Or.inl rfl | exact Or.inr rfl)) (pgs_cons (pg_name (i := 11) sc_law_two_right.nd rfl (by first | exact Or.inl rfl | exact Or.inr rfl)) pgs_nil))) (pss_one (ps_if (pt_cmpR (op_neDI hu0) (pe_meth0 (pv 10) T.cl_Sizes T.mt_Sizes_by_name (ok_Sizes_by_name T) (hr.mono (by decide)) (bd_Sizes_by_name T) .nil pass0) (pe_call (ok_law_plain T) (hr.mono (by decide)) rfl T.m_law_plain T.F_law_plain.kp (bd_law_plain T) .nil pass0 (pa_cons (pe_callTy (call_dictP rfl) (by rfl) T.z_dict (by decide +kernel) (pa_cons (pe_lc (own := [("_law_at", 12)]) rfl sc_law_two_right.nd (pi_range1 rfl T.z_range (pa_cons (pe_callB call_len_seq (by rfl) T.z_len (by decide +kernel) (pa_cons (pv 2) pa_nil)) pa_nil)) (blkOk_by (N := N_law_two_right) (sc := defScope S_law_two_right) (by decide +kernel)) (fun _ _ _ _ _ => (pg_name (i := 12) sc_law_two_right.nd rfl (by first | exact Or.inl rfl | exact Or.inr rfl))) (fun _ _ _ _ _ => pts_nil) (fun _ _ _ _ _ => (pe_tup (pa_cons (pe_ix (ix_listK (K0 := K) rfl) (pv 2) (pv 12) (fun _ _ => rfl)) (pa_cons (pe_ix (ix_listK (K0 := K) rfl) (pv 11) (pv 12) (fun _ _ => rfl)) pa_nil))))) pa_nil)) pa_nil)) (nomark _)) (pss_one (ps_ret pe_bl)) pss_nil))) (pss_cons (ps_if (pt_cmpR op_ne (pe_methSS T.cl_Sizes T.mt_Sizes_fits (raw0 (ok_Sizes_fits T) (bd_Sizes_fits T)) (hr.mono (by decide)) (fun σ => passF σ) (pv 3) (pa_cons (pv 4) pa_nil)) (pe_cmpR op_notIn_seq pe_bl (pe_lc (own := [("_law_a", 8), ("_law_b", 9)]) (g := gTup K 2 (gCons (gName 8) (gCons (gName 9) (gNil)))) rfl sc_law_two_right.nd (pi_list (pv 5)) (blkOk_by (N := N_law_two_right) (sc := defScope S_law_two_right) (by decide +kernel)) (fun _ _ _ _ _ => (pg_tup rfl (pgs_cons (pg_name (i := 8) sc_law_two_right.nd rfl (by first | exact Or.inl rfl | exact Or.inr rfl)) (pgs_cons (pg_name (i := 9) sc_law_two_right.nd rfl (by first | exact Or.inl rfl | exact Or.inr rfl)) pgs_nil)))) (fun _ _ _ _ _ => pts_nil) (fun _ _ _ _ _ => (pe_cmpR op_le (pv 8) (pv 9) (nomark _)))) rfl) (nomark _)) (pss_one (ps_ret pe_bl)) pss_nil) (pss_cons (ps_if (pt_cmpR (op_or op_ne (op_neDI hu0)) (pe_call (ok_law_minus T) (hr.mono (by decide)) rfl T.m_law_minus T.F_law_minus.kp (bd_law_minus T) .nil pass0 (pa_cons (pv 0) (pa_cons (pv 1) pa_nil))) (pe_call (ok_law_due T) (hr.mono (by decide)) rfl T.m_law_due T.F_law_due.kp (bd_law_due T) .nil pass0 (pa_cons (pv 0) (pa_cons (pv 1) pa_nil))) (nomark _)) (pss_one (ps_ret pe_bl)) pss_nil) (pss_one (ps_ret (pe_cmpR op_eq (pe_cmpR (op_eqOwn T.mt_Sizes_eq (raw0 (ok_Sizes_eq T) (bd_Sizes_eq T)) (hr.mono (by decide)) pass0) (pv 3) (pv 4) (nomark _)) (pe_cmpR (op_eqDI hu0) (pe_call (ok_law_plain T) (hr.mono (by decide)) rfl T.m_law_plain T.F_law_plain.kp (bd_law_plain T) .nil pass0 (pa_cons (pv 0) pa_nil)) (pe_call (ok_law_plain T) (hr.mono (by decide)) rfl T.m_law_plain T.F_law_plain.kp (bd_law_plain T) .nil pass0 (pa_cons (pv 1) pa_nil)) (nomark _)) (nomark _)))))))))))), ?_⟩
    refine ⟨_, rfl, d1, _, rfl, hd1, fun H1 p1 ts1 e1 _ _ _ h1 pr1 => ?_⟩
    replace e1 : Same H H1 := e1
    replace hd1 := e1 _ _ hd1
    replace hd2 := e1 _ _ hd2
    replace sA := same_trans sA e1
    refine ⟨_, rfl, d2, _, rfl, hd2, fun H2 p2 ts2 e2 _ _ _ h2 pr2 => ?_⟩
    replace e2 : Same H1 H2 := e2
    replace hd1 := e2 _ _ hd1
    replace hd2 := e2 _ _ hd2
    replace sA := same_trans sA e2
    replace h1 := e2 _ _ h1
    replace pr1 := paired_up e2 pr1
    have l1 := (paired_at pr1).1
    have l2 := (paired_at pr2).1
    have m1 := k1.len
    have m2 := k2.len
    have big : (1000 : Nat) ≤ sizeLine := by decide
    rw [kvm_len] at l1 l2
    refine ⟨p1, p2, _, _, rfl, rfl, h1, h2, by rw [List.length_map, List.length_map]; omega, fun p3 n3 => ?_⟩
    rw [← List.map_append]
    have s' := same_new (o := .lst ((ts1 ++ ts2).map V.ref)) n3
    have h_p3 : upd H2 p3 (.lst ((ts1 ++ ts2).map V.ref)) p3 = some (.lst ((ts1 ++ ts2).map V.ref)) := upd_same
    generalize upd H2 p3 (.lst ((ts1 ++ ts2).map V.ref)) = H3 at *
    replace hd1 := s' _ _ hd1
    replace hd2 := s' _ _ hd2
    replace sA := same_trans sA s'
    replace pr1 := paired_up s' pr1
    replace pr2 := paired_up s' pr2
    clear s' n3
    clear h1 h2 e1 e2
    refine ⟨p3, ts1 ++ ts2, kvm (s1 ++ s2), rfl, SqL.of h_p3, by rw [kvm_app]; exact paired_app (paired_tup pr1) (paired_tup pr2), fun p4 n4 => ?_⟩
    rw [merge_kvm]
    have uk : DOk (putsS (s1 ++ s2)) := ⟨putsS_nodup _, fun p hp => (List.mem_append.mp (putsS_mem p hp)).elim (k1.nm p) (k2.nm p), fun p hp => (List.mem_append.mp (putsS_mem p hp)).elim (k1.lo p) (k2.lo p), fun p hp => (List.mem_append.mp (putsS_mem p hp)).elim (k1.hi p) (k2.hi p)⟩
    have uv : ∀ y, y ∉ (putsS (s1 ++ s2)).map (·.1) → val s1 y = 0 ∧ val s2 y = 0 := puts_off
    clear pr1 pr2 l1 l2 h_p3
    generalize putsS (s1 ++ s2) = u at *
    have s' := same_new (o := .dK (kvm u)) n4
    have h_p4 : upd H3 p4 (.dK (kvm u)) p4 = some (.dK (kvm u)) := upd_same
    generalize upd H3 p4 (.dK (kvm u)) = H4 at *
    replace hd1 := s' _ _ hd1
    replace hd2 := s' _ _ hd2
    replace sA := same_trans sA s'
    clear s' n4
    refine ⟨p4, kvm u, u.map (·.1), rfl, .inl h_p4, kvm_keys u, by rw [List.length_map]; have := uk.len; omega, fun ys p5 hp hs n5 => ?_⟩
    have s' := same_new (o := .lst (ys.map V.str)) n5
    have h_p5 : upd H4 p5 (.lst (ys.map V.str)) p5 = some (.lst (ys.map V.str)) := upd_same
    generalize upd H4 p5 (.lst (ys.map V.str)) = H5 at *
    replace hd1 := s' _ _ hd1
    replace hd2 := s' _ _ hd2
    replace sA := same_trans sA s'
    clear s' n5
    have yl : ys.length ≤ 5 := by rw [hp.length_eq, List.length_map]; exact uk.len
    have yn : ys.Nodup := hp.nodup_iff.mpr uk.nd
    have yw : ∀ y ∈ ys, isWord y = true := fun y hy => by
      obtain ⟨p, h1, rfl⟩ := List.mem_map.mp (hp.mem_iff.mp hy)
      exact nm5_word _ (uk.nm p h1)
    have yv : ∀ y, y ∉ ys → val s1 y = 0 ∧ val s2 y = 0 := fun y hy => uv y fun z => hy (hp.mem_iff.mpr z)
    clear h_p4 uk uv hp hs
    -- first, second
    refine ⟨_, rfl, r_nil ?_⟩
    refine mk_sz (F := fun _ => none) (fun _ _ e => nomatch e) (.inl hd1) o1 fun x F1 H6 g1 zx => ?_
    replace zx : SzAt K H6 x (canon s1) := zx.same g1.fh
    replace g1 := g1.hh
    replace hd1 := g1 _ _ hd1
    replace hd2 := g1 _ _ hd2
    replace sA := same_trans sA g1
    replace h_p5 := g1 _ _ h_p5
    refine ⟨_, rfl, r_nil ?_⟩
    refine mk_sz (F := fun _ => none) (fun _ _ e => nomatch e) (.inl hd2) o2 fun y F2 H7 g2 zy => ?_
    replace zy : SzAt K H7 y (canon s2) := zy.same g2.fh
    replace g2 := g2.hh
    replace hd1 := g2 _ _ hd1
    replace hd2 := g2 _ _ hd2
    replace sA := same_trans sA g2
    replace h_p5 := g2 _ _ h_p5
    replace zx := zx.same g2
    refine ⟨_, _, rfl, ?_⟩
    clear g1 g2 F1 F2
    -- pairs
    refine ⟨_, rfl, p5, rfl, ⟨_, SqL.of h_p5⟩, fun D hD => lc_gw (walk_list (xs := ys.map V.str)) (fun _ => true) (fun i y F => ∃ t, y = V.ref t ∧ F t = some (.tup [.int (val s1 (ys.getD i "")), .int (val s2 (ys.getD i ""))])) (fun i y A B s => fun ⟨t, e, h⟩ => ⟨t, e, s _ _ h⟩) (same_refl _) hD (by rw [List.length_map]; omega) (fun H' s' => SqL.of (s' _ _ h_p5)) ?lcs ?lcd⟩
    case lcs =>
      rintro i xv F H2 H3 Qn Qs hi gw ⟨rfl, e⟩ qn' qs'
      obtain ⟨y, ey1, rfl⟩ := names_at e
      rw [getD_at ey1] at qn'
      obtain ⟨v1, g1, eo1, _⟩ := dget_val (H := H3) (.inl (gw.hh _ _ hd1)) y
      obtain ⟨v2, g2, eo2, _⟩ := dget_val (H := H3) (.inl (gw.hh _ _ hd2)) y
      refine ⟨rfl, yes_then ?_⟩
      refine ⟨_, rfl, d1, rfl, .inl ⟨_, .inl (gw.hh _ _ hd1)⟩, _, rfl, v1, g1, ?_⟩
      rw [eo1]
      refine ⟨_, rfl, d2, rfl, .inl ⟨_, .inl (gw.hh _ _ hd2)⟩, _, rfl, v2, g2, ?_⟩
      rw [eo2]
      exact ⟨by show 2 ≤ sizeLine; decide, fun t ht => qn' rfl _ _ _ (Gw.add gw.fh ht) ⟨t, rfl, upd_same⟩⟩
    case lcd =>
      intro zs F H9 gw fD h_D pr
      rw [List.length_map, filter_true] at pr
      have al : AllT H9 zs ys s1 s2 := by
        obtain ⟨hl, ha⟩ := paired_at pr
        rw [List.length_range] at hl
        refine ⟨hl, fun i y e => ?_⟩
        have hi : i < ys.length := (List.getElem?_eq_some_iff.mp e).1
        obtain ⟨b, eb, t, rfl, ht⟩ := ha i i (List.getElem?_range hi)
        rw [getD_at e] at ht
        exact ⟨t, eb, gw.fh _ _ ht⟩
      replace gw := gw.hh
      replace hd1 := gw _ _ hd1
      replace hd2 := gw _ _ hd2
      replace sA := same_trans sA gw
      replace h_p5 := gw _ _ h_p5
      replace zx := zx.same gw
      replace zy := zy.same gw
      clear gw fD pr F hD
      obtain ⟨dx, dk0, od, i1, i2, i3⟩ := id zx
      obtain ⟨dy, _, _, j1, _, _⟩ := id zy
      refine ⟨_, rfl, _, rfl, x, dx, _, rfl, i1, .inl ⟨y, _, _, rfl, j1⟩, H9, x, canon s1, _, rfl, same_refl _, zx, Cn.of o1, .inl ⟨y, canon s2, rfl, zy, Cn.of o2, by have := canon_len s1; have := canon_len s2; omega, fun r3 m3' F3 K3 g3 z3 c3 v3 => ?_⟩⟩
      replace z3 := z3.same g3.fh
      replace g3 := g3.hh
      clear i1 i2 i3 j1
      replace hd1 := g3 _ _ hd1
      replace hd2 := g3 _ _ hd2
      replace sA := same_trans sA g3
      replace h_p5 := g3 _ _ h_p5
      replace zx := zx.same g3
      replace zy := zy.same g3
      replace al := allT_same g3 al
      replace h_D := g3 _ _ h_D
      refine ⟨_, rfl, D, rfl, ⟨_, SqL.of h_D⟩, fun D4 hD4 => lc_gw (walk_list (xs := zs)) (fun _ => true) (fun i y _ => y = V.int (val s1 (ys.getD i "") + val s2 (ys.getD i ""))) (fun _ _ _ _ _ h => h) (same_refl _) hD4 (by rw [al.1]; omega) (fun H' s' => SqL.of (s' _ _ h_D)) ?lcs4 ?lcd4⟩
      case lcs4 =>
        rintro i xv F H2 H3 Qn Qs hi gw ⟨rfl, e⟩ qn' qs'
        obtain ⟨t, y, rfl, ey, ht⟩ := al.at e
        rw [getD_at ey] at qn'
        refine ⟨t, _, rfl, SqT.of (gw.hh _ _ ht), rfl, _, _, rfl, _, _, rfl, rfl, rfl, yes_then ?_⟩
        exact ⟨_, rfl, _, rfl, _, _, rfl, rfl, qn' rfl _ F _ (Gw.refl gw.fh) rfl⟩
      case lcd4 =>
        intro zz F G4 gw fD hH pr
        rw [al.1, filter_true] at pr
        have ez := paired_eq pr
        rw [range_map ys _ (fun y => V.int (val s1 y + val s2 y)) (fun i y e => by rw [getD_at e])] at ez
        rw [ez] at hH
        replace gw := gw.hh
        replace hd1 := gw _ _ hd1
        replace hd2 := gw _ _ hd2
        replace sA := same_trans sA gw
        replace h_p5 := gw _ _ h_p5
        replace zx := zx.same gw
        replace zy := zy.same gw
        replace al := allT_same gw al
        replace h_D := gw _ _ h_D
        replace z3 := z3.same gw
        have h_L1 := hH
        clear gw fD pr hH ez
        refine ⟨by show 2 ≤ sizeLine; decide, fun t1 nt1 => ?_⟩
        have s' := same_new (o := .tup [.ref r3, .ref D4]) nt1
        have h_t1 : upd G4 t1 (.tup [.ref r3, .ref D4]) t1 = some (.tup [.ref r3, .ref D4]) := upd_same
        generalize upd G4 t1 (.tup [.ref r3, .ref D4]) = G5 at *
        replace hd1 := s' _ _ hd1
        replace hd2 := s' _ _ hd2
        replace sA := same_trans sA s'
        replace h_p5 := s' _ _ h_p5
        replace zx := zx.same s'
        replace zy := zy.same s'
        replace al := allT_same s' al
        replace h_D := s' _ _ h_D
        replace z3 := z3.same s'
        replace h_L1 := s' _ _ h_L1
        clear s' nt1
        obtain ⟨dx, dk0, od, i1, i2, i3⟩ := id zx
        obtain ⟨dy, _, _, j1, _, _⟩ := id zy
        refine ⟨_, rfl, _, rfl, x, dx, _, rfl, i1, .inl ⟨y, _, _, rfl, j1⟩, G5, x, canon s1, _, rfl, same_refl _, zx, Cn.of o1, .inl ⟨y, canon s2, rfl, zy, Cn.of o2, by have := canon_len s1; have := canon_len s2; omega, fun r6 m6' F6 K6 g6 z6 c6 v6 => ?_⟩⟩
        replace z6 := z6.same g6.fh
        replace g6 := g6.hh
        clear i1 i2 i3 j1
        replace hd1 := g6 _ _ hd1
        replace hd2 := g6 _ _ hd2
        replace sA := same_trans sA g6
        replace h_p5 := g6 _ _ h_p5
        replace zx := zx.same g6
        replace zy := zy.same g6
        replace al := allT_same g6 al
        replace h_D := g6 _ _ h_D
        replace z3 := z3.same g6
        replace h_L1 := g6 _ _ h_L1
        replace h_t1 := g6 _ _ h_t1
        refine ⟨_, rfl, D, rfl, ⟨_, SqL.of h_D⟩, fun D7 hD7 => lc_gw (walk_list (xs := zs)) (fun _ => true) (fun i y _ => y = V.int (minI (val s1 (ys.getD i "")) (val s2 (ys.getD i "")))) (fun _ _ _ _ _ h => h) (same_refl _) hD7 (by rw [al.1]; omega) (fun H' s' => SqL.of (s' _ _ h_D)) ?lcs7 ?lcd7⟩
        case lcs7 =>
          rintro i xv F H2 H3 Qn Qs hi gw ⟨rfl, e⟩ qn' qs'
          obtain ⟨t, y, rfl, ey, ht⟩ := al.at e
          rw [getD_at ey] at qn'
          refine ⟨t, _, rfl, SqT.of (gw.hh _ _ ht), rfl, _, _, rfl, _, _, rfl, rfl, rfl, yes_then ?_⟩
          exact ⟨_, rfl, _, rfl, _, _, rfl, qn' rfl _ F _ (Gw.refl gw.fh) rfl⟩
        case lcd7 =>
          intro zz F G7 gw fD hH pr
          rw [al.1, filter_true] at pr
          have ez := paired_eq pr
          rw [range_map ys _ (fun y => V.int (minI (val s1 y) (val s2 y))) (fun i y e => by rw [getD_at e])] at ez
          rw [ez] at hH
          replace gw := gw.hh
          replace hd1 := gw _ _ hd1
          replace hd2 := gw _ _ hd2
          replace sA := same_trans sA gw
          replace h_p5 := gw _ _ h_p5
          replace zx := zx.same gw
          replace zy := zy.same gw
          replace al := allT_same gw al
          replace h_D := gw _ _ h_D
          replace z3 := z3.same gw
          replace h_L1 := gw _ _ h_L1
          replace h_t1 := gw _ _ h_t1
          replace z6 := z6.same gw
          have h_L2 := hH
          clear gw fD pr hH ez
          refine ⟨by show 2 ≤ sizeLine; decide, fun t2 nt2 => ?_⟩
          have s' := same_new (o := .tup [.ref r6, .ref D7]) nt2
          have h_t2 : upd G7 t2 (.tup [.ref r6, .ref D7]) t2 = some (.tup [.ref r6, .ref D7]) := upd_same
          generalize upd G7 t2 (.tup [.ref r6, .ref D7]) = G8 at *
          replace hd1 := s' _ _ hd1
          replace hd2 := s' _ _ hd2
          replace sA := same_trans sA s'
          replace h_p5 := s' _ _ h_p5
          replace zx := zx.same s'
          replace zy := zy.same s'
          replace al := allT_same s' al
          replace h_D := s' _ _ h_D
          replace z3 := z3.same s'
          replace h_L1 := s' _ _ h_L1
          replace h_t1 := s' _ _ h_t1
          replace z6 := z6.same s'
          replace h_L2 := s' _ _ h_L2
          clear s' nt2
          refine ⟨by show 2 ≤ sizeLine; decide, fun R nR => ?_⟩
          have w1 : RowOk K G8 t1 ys s1 s2 := ⟨fun i j => i + j, r3, D4, _, h_t1, z3, c3, fun y => by rw [v3, val_canon o1.val0, val_canon o2.val0], h_L1, rfl, fun i j h1 h2 => by show 0 ≤ i + j; omega⟩
          have w2 : RowOk K G8 t2 ys s1 s2 := ⟨minI, r6, D7, _, h_t2, z6, c6, fun y => by rw [v6, val_canon o1.val0, val_canon o2.val0], h_L2, rfl, fun i j h1 h2 => by unfold minI; split <;> omega⟩
          clear h_t1 h_t2 z3 z6 c3 c6 v3 v6 h_L1 h_L2
          obtain ⟨dx, dk0, od, i1, i2, i3⟩ := id zx
          obtain ⟨dy, _, _, j1, _, _⟩ := id zy
          refine ⟨_, rfl, .inl ⟨rfl, _, SqL.of upd_same⟩, ?_⟩
          refine ⟨_, rfl, _, rfl, x, dx, _, rfl, same_new nR _ _ i1, .inl ⟨y, _, _, rfl, same_new nR _ _ j1⟩, G8, x, canon s1, _, rfl, same_new nR, zx, Cn.of o1, .inl ⟨y, canon s2, rfl, zy, Cn.of o2, by have := canon_len s1; have := canon_len s2; omega, fun r9 m9' F9 K9 g9 z9 c9 v9 => ?_⟩⟩
          clear i1 i2 i3 j1
          have h_DK := g9.fh _ _ (g9.ff _ _ h_D)
          refine ⟨_, rfl, D, rfl, ⟨_, SqL.of h_DK⟩, fun D9 hD9 => lc_gw (walk_list (xs := zs)) (fun _ => true) (fun i y _ => y = V.int (maxI (val s1 (ys.getD i "")) (val s2 (ys.getD i "")))) (fun _ _ _ _ _ h => h) g9.fh hD9 (by rw [al.1]; omega) (fun H' s' => SqL.of (s' _ _ h_DK)) ?lcs9 ?lcd9⟩
          case lcs9 =>
            rintro i xv F H2 H3 Qn Qs hi gw ⟨rfl, e⟩ qn' qs'
            obtain ⟨t, y, rfl, ey, ht⟩ := al.at e
            rw [getD_at ey] at qn'
            refine ⟨t, _, rfl, SqT.of (gw.src g9.fh _ _ (g9.ff _ _ ht)), rfl, _, _, rfl, _, _, rfl, rfl, rfl, yes_then ?_⟩
            exact ⟨_, rfl, _, rfl, _, _, rfl, qn' rfl _ F _ (Gw.refl gw.fh) rfl⟩
          case lcd9 =>
            intro zz F GA gw fD hH pr
            rw [al.1, filter_true] at pr
            have ez := paired_eq pr
            rw [range_map ys _ (fun y => V.int (maxI (val s1 y) (val s2 y))) (fun i y e => by rw [getD_at e])] at ez
            rw [ez] at hH
            have gz := gw.freeze hD9 fD hH
            refine ⟨by show 2 ≤ sizeLine; decide, fun t3 nt3 => ?_⟩
            have ga := Gw.add (o := .tup [.ref r9, .ref D9]) gz.fh nt3
            have gT := g9.trans (gz.trans ga)
            have w3 : RowOk K (upd (upd F D9 (.lst (ys.map fun y => V.int (maxI (val s1 y) (val s2 y))))) t3 (.tup [.ref r9, .ref D9])) t3 ys s1 s2 := ⟨maxI, r9, D9, _, upd_same, (z9.same gz.ff).same ga.ff, c9, fun y => by rw [v9, val_canon o1.val0, val_canon o2.val0], ga.ff _ _ upd_same, rfl, fun i j h1 h2 => by unfold maxI; split <;> omega⟩
            have offR := gT.off nR upd_same
            have h_R0 := gT.hh _ _ upd_same
            refine ⟨R, _, _, rfl, rfl, h_R0, by show 2 < sizeLine; decide, ?_⟩
            have sM := same_mut (p := R) (o := .lst ([.ref t1, .ref t2] ++ [.ref t3])) gT.fh offR
            have sG := same_trans gT.ff sM
            have h_R : upd (upd GA t3 (.tup [.ref r9, .ref D9])) R (.lst ([.ref t1, .ref t2] ++ [.ref t3])) R = some (.lst [.ref t1, .ref t2, .ref t3]) := upd_same
            replace w1 := w1.same sG
            replace w2 := w2.same sG
            replace w3 := w3.same sM
            replace hd1 := sG _ _ hd1
            replace hd2 := sG _ _ hd2
            replace sA := same_trans sA sG
            replace h_p5 := sG _ _ h_p5
            replace zx := zx.same sG
            replace zy := zy.same sG
            replace al := allT_same sG al
            replace h_D := sG _ _ h_D
            generalize upd (upd GA t3 (.tup [.ref r9, .ref D9])) R (.lst ([.ref t1, .ref t2] ++ [.ref t3])) = Hm at *
            clear sM sG offR h_R0 gT ga gz gw nt3 fD hH ez pr g9 z9 c9 v9 h_DK
            refine ⟨_, rfl, R, rfl, ⟨_, SqL.of h_R⟩, for_list (xs := [.ref t1, .ref t2, .ref t3]) (fun i σ' H' => ∃ o10 o11, σ' = [some (.ref d1), some (.ref d2), some (.ref p5), some (.ref x), some (.ref y), some (.ref D), none, some (.ref R), none, none, o10, o11, none] ∧ Same Hm H') ⟨_, _, rfl, same_refl _⟩ (fun i σ' H' _ ⟨_, _, _, s⟩ => SqL.of (s _ _ h_R)) ?turn ?after⟩
            case turn =>
              rintro i v σ' H' e ⟨o10, o11, rfl, sH⟩
              have wv : ∃ t, v = .ref t ∧ RowOk K Hm t ys s1 s2 := by
                match i, e with
                | 0, e => cases e; exact ⟨_, rfl, w1⟩
                | 1, e => cases e; exact ⟨_, rfl, w2⟩
                | 2, e => cases e; exact ⟨_, rfl, w3⟩
              obtain ⟨t, rfl, w⟩ := wv
              obtain ⟨g, r, L, m, ht, zr, cm, vm, hL, g0, gp⟩ := w.same sH
              have hp5 := sH _ _ h_p5
              refine ⟨t, _, rfl, SqT.of ht, rfl, _, _, rfl, _, _, rfl, rfl, ?_⟩
              obtain ⟨dx, dk0, od, i1, i2, i3⟩ := id zr
              refine ⟨_, rfl, r, dx, _, rfl, i1, rfl, r_nil ⟨r, m, rfl, zr, fun b nb => ?_⟩⟩
              have s1' := same_new (o := .dK (kvm m)) nb
              refine ⟨_, rfl, p5, _, rfl, .inl (SqL.of (s1' _ _ hp5)), ?_⟩
              have hL' := s1' _ _ hL
              have hp5' := s1' _ _ hp5
              have hb : upd H' b (.dK (kvm m)) b = some (.dK (kvm m)) := upd_same
              have sX := same_trans sH s1'
              generalize upd H' b (.dK (kvm m)) = HX at *
              have tk : SrcOk (ys.map fun y => (y, g (val s1 y) (val s2 y))) := ⟨by rw [tab_keys]; exact yn, by rw [List.length_map]; omega, fun p hp => by
                obtain ⟨y, hy, rfl⟩ := List.mem_map.mp hp
                exact ⟨yw y hy, word_len (yw y hy), gp _ _ (o1.val0 y) (o2.val0 y)⟩⟩
              have tv : ∀ y, val m y = val (ys.map fun y => (y, g (val s1 y) (val s2 y))) y := fun y => by
                rw [vm]
                by_cases hy : y ∈ ys
                · rw [val_tab hy]
                · rw [val_tab0 hy, (yv y hy).1, (yv y hy).2, g0]
              have em := cm.to tk.1 tv
              refine r_nil ⟨((ys.map V.str).length : Int), rfl, by rw [List.length_map]; omega, by rw [List.length_map]; omega, fun D2 hD2 => lc_gw (walk_range (lo := 0) (n := (ys.map V.str).length)) (fun _ => true) (fun i y F => ∃ t, y = V.ref t ∧ F t = some (.tup [.str (ys.getD i ""), .int (g (val s1 (ys.getD i "")) (val s2 (ys.getD i "")))])) (fun i y A B s => fun ⟨t, e, h⟩ => ⟨t, e, s _ _ h⟩) (same_refl _) hD2 (by rw [List.length_map]; omega) (fun _ _ => trivial) ?lcsA ?lcdA⟩
              case lcsA =>
                rintro i xv F H2 H3 Qn Qs hi gw ⟨rfl, rfl⟩ qn' qs'
                rw [List.length_map] at hi
                have ey : ys[i]? = some ys[i] := List.getElem?_eq_getElem hi
                rw [getD_at ey] at qn'
                have e1 : atI (ys.map V.str) (0 + (i : Int)) = some (.str ys[i]) := by rw [Int.zero_add]; exact atI_nat (by rw [List.getElem?_map, ey]; rfl)
                have e2 : atI (ys.map fun y => V.int (g (val s1 y) (val s2 y))) (0 + (i : Int)) = some (.int (g (val s1 ys[i]) (val s2 ys[i]))) := by rw [Int.zero_add]; exact atI_nat (by rw [List.getElem?_map, ey]; rfl)
                refine ⟨rfl, yes_then ?_⟩
                exact ⟨_, rfl, _, rfl, p5, _, _, _, rfl, rfl, SqL.of (gw.hh _ _ hp5'), e1, _, rfl, _, rfl, L, _, _, _, rfl, rfl, SqL.of (gw.hh _ _ hL'), e2, by show 2 ≤ sizeLine; decide, fun t nt => qn' rfl _ _ _ (Gw.add gw.fh nt) ⟨t, rfl, upd_same⟩⟩
              case lcdA =>
                intro zz F HY gw fD hH pr
                rw [List.length_map, filter_true] at pr
                obtain ⟨ps, rfl, pr3⟩ := rows_of (K := K) (g := fun i => (ys.getD i "", g (val s1 (ys.getD i "")) (val s2 (ys.getD i "")))) gw.fh pr
                refine ⟨D2, ps, _, rfl, SqL.of hH, pr3, fun b2 nb2 => ?_⟩
                rw [merge_kvm, range_map ys _ (fun y => (y, g (val s1 y) (val s2 y))) (fun i y e1 => by rw [getD_at e1]), putsS_id tk.1]
                refine r_nil ⟨b2, _, rfl, .inl upd_same, tk, fun b3 HZ sZ nb3 h3 => ?_⟩
                have sY := same_trans gw.hh (same_trans (same_new nb2) sZ)
                refine ⟨b, b3, kvm m, _, rfl, rfl, ⟨.inl (sY _ _ hb), kvm_int _⟩, ⟨.inl h3, kvm_int _⟩, _, rfl, ?_⟩
                rw [← em, eqDI_self cm.nd]
                exact iteF ⟨_, _, rfl, same_trans sX sY⟩
            case after =>
              rintro σ' H' ⟨o10, o11, rfl, sH⟩
              replace hd1 := sH _ _ hd1
              replace hd2 := sH _ _ hd2
              replace sA := same_trans sA sH
              replace h_p5 := sH _ _ h_p5
              replace zx := zx.same sH
              replace zy := zy.same sH
              replace al := allT_same sH al
              replace h_D := sH _ _ h_D
              clear sH w1 w2 w3 h_R
              obtain ⟨dx, dk0, od, i1, i2, i3⟩ := id zx
              refine ⟨_, rfl, x, dx, _, rfl, i1, rfl, _, rfl, r_nil ⟨x, canon s1, .ref y, rfl, zx, Cn.of o1, .inl ⟨y, canon s2, rfl, zy, Cn.of o2, fun HF sF => ?_⟩⟩⟩
              clear i1 i2 i3
              replace hd1 := sF _ _ hd1
              replace hd2 := sF _ _ hd2
              replace sA := same_trans sA sF
              replace h_p5 := sF _ _ h_p5
              replace zx := zx.same sF
              replace zy := zy.same sF
              replace al := allT_same sF al
              replace h_D := sF _ _ h_D
              refine ⟨_, rfl, D, rfl, ⟨_, SqL.of h_D⟩, fun DB hDB => lc_gw (walk_list (xs := zs)) (fun _ => true) (fun i y _ => y = V.bl (decide (val s1 (ys.getD i "") ≤ val s2 (ys.getD i "")))) (fun _ _ _ _ _ h => h) (same_refl _) hDB (by rw [al.1]; omega) (fun H' s' => SqL.of (s' _ _ h_D)) ?lcsB ?lcdB⟩
              case lcsB =>
                rintro i xv F H2 H3 Qn Qs hi gw ⟨rfl, e⟩ qn' qs'
                obtain ⟨t, y, rfl, ey, ht⟩ := al.at e
                rw [getD_at ey] at qn'
                refine ⟨t, _, rfl, SqT.of (gw.hh _ _ ht), rfl, _, _, rfl, _, _, rfl, rfl, rfl, yes_then ?_⟩
                exact ⟨_, rfl, _, rfl, _, _, rfl, rfl, qn' rfl _ F _ (Gw.refl gw.fh) rfl⟩
              case lcdB =>
                intro zz F GB gw fD hH pr
                rw [al.1, filter_true] at pr
                have ez := paired_eq pr
                rw [range_map ys _ (fun y => V.bl (decide (val s1 y ≤ val s2 y))) (fun i y e => by rw [getD_at e])] at ez
                rw [ez] at hH
                replace gw := gw.hh
                replace hd1 := gw _ _ hd1
                replace hd2 := gw _ _ hd2
                replace sA := same_trans sA gw
                replace h_p5 := gw _ _ h_p5
                replace zx := zx.same gw
                replace zy := zy.same gw
                replace al := allT_same gw al
                replace h_D := gw _ _ h_D
                have e0 : (ys.map fun y => V.bl (decide (val s1 y ≤ val s2 y))).all flatV = true := by rw [List.all_map]; exact List.all_eq_true.mpr fun _ _ => rfl
                refine ⟨DB, _, rfl, .inl (SqL.of hH), rfl, e0, rfl, _, rfl, ?_⟩
                have ef := fits_eq (ys := ys) o1 o2 yv
                refine iteF' (by rw [← ef]; simp) ?_
                clear gw fD pr ez hH e0 ef sF
                -- minus and due
                refine ⟨_, rfl, _, rfl, r_nil ⟨d1, d2, s1, s2, rfl, ⟨.inl hd1, o1, .inl hd2, o2⟩, fun z hz HM sM => ?_, fun hn pm HM m3 sM nm hm cm vm => ?_⟩⟩
                · refine ⟨_, rfl, _, rfl, r_nil ⟨d1, d2, s1, s2, rfl, ⟨.inl (sM _ _ hd1), o1, .inl (sM _ _ hd2), o2⟩, k2, ne, fun z2 hz2 HM2 sM2 => ?_, fun hn => ?_⟩⟩
                  · rw [hz] at hz2
                    cases hz2
                    refine .inl ⟨rfl, _, rfl, ?_⟩
                    refine iteF' (by simp) ?_
                    have sE := same_trans sM sM2
                    have zx' := zx.same sE
                    have zy' := zy.same sE
                    obtain ⟨dx, _, _, i1, _, _⟩ := id zx'
                    obtain ⟨dy, _, _, j1, _, _⟩ := id zy'
                    refine ⟨_, rfl, _, rfl, x, dx, _, _, rfl, i1, tyIns T.cl_Sizes T.kc_Sizes j1, notFirst_self, x, canon s1, _, rfl, zx', .inl ⟨y, canon s2, rfl, zy', ?_⟩⟩
                    refine ⟨_, rfl, r_nil ⟨d1, s1, rfl, .inl (sE _ _ hd1), o1, fun a1 HP sP na1 ha1 => ?_⟩⟩
                    refine ⟨_, rfl, r_nil ⟨d2, s2, rfl, .inl (sP _ _ (sE _ _ hd2)), o2, fun a2 HP2 sP2 na2 ha2 => ?_⟩⟩
                    refine ⟨a1, a2, _, _, rfl, rfl, ⟨.inl (sP2 _ _ ha1), kvm_int _⟩, ⟨.inl ha2, kvm_int _⟩, rfl, ?_⟩
                    rw [decide_eq_true (rfl : V.bl (eqDI (kvm (canon s1)) (kvm (canon s2))) = V.bl (eqDI (kvm (canon s1)) (kvm (canon s2))))]
                    exact q _ (same_trans sA (same_trans sE (same_trans sP sP2)))
                  · rw [hz] at hn
                    cases hn
                · refine ⟨_, rfl, _, rfl, r_nil ⟨d1, d2, s1, s2, rfl, ⟨.inl (sM _ _ hd1), o1, .inl (sM _ _ hd2), o2⟩, k2, ne, fun z2 hz2 => ?_, fun _ pm2 HM2 m4 sM2 nm2 hm2 cm2 vm2 => ?_⟩⟩
                  · rw [hn] at hz2
                    cases hz2
                  · have e34 : m3 = m4 := cm.ext cm2 fun y => by rw [vm, vm2]
                    subst e34
                    refine .inr ⟨pm, pm2, _, _, rfl, rfl, ⟨.inl (sM2 _ _ hm), kvm_int _⟩, ⟨.inl hm2, kvm_int _⟩, _, rfl, ?_⟩
                    rw [eqDI_self cm.nd]
                    refine iteF ?_
                    have sE := same_trans sM sM2
                    have zx' := zx.same sE
                    have zy' := zy.same sE
                    obtain ⟨dx, _, _, i1, _, _⟩ := id zx'
                    obtain ⟨dy, _, _, j1, _, _⟩ := id zy'
                    refine ⟨_, rfl, _, rfl, x, dx, _, _, rfl, i1, tyIns T.cl_Sizes T.kc_Sizes j1, notFirst_self, x, canon s1, _, rfl, zx', .inl ⟨y, canon s2, rfl, zy', ?_⟩⟩
                    refine ⟨_, rfl, r_nil ⟨d1, s1, rfl, .inl (sE _ _ hd1), o1, fun a1 HP sP na1 ha1 => ?_⟩⟩
                    refine ⟨_, rfl, r_nil ⟨d2, s2, rfl, .inl (sP _ _ (sE _ _ hd2)), o2, fun a2 HP2 sP2 na2 ha2 => ?_⟩⟩
                    refine ⟨a1, a2, _, _, rfl, rfl, ⟨.inl (sP2 _ _ ha1), kvm_int _⟩, ⟨.inl ha2, kvm_int _⟩, rfl, ?_⟩
                    rw [decide_eq_true (rfl : V.bl (eqDI (kvm (canon s1)) (kvm (canon s2))) = V.bl (eqDI (kvm (canon s1)) (kvm (canon s2))))]
                    exact q _ (same_trans sA (same_trans sE (same_trans sP sP2)))
theorem bd_law_two_right {K : PySem.W.Frag} {mg : Str → Option Value} (T : Tx K mg) : Binds K (D_law_two_right K) ["_law_one", "_law_other"] [] := T.F_law_two_right.bindsN fun _ _ _ _ _ _ us hl => match us, hl with | [_, _], _ => rfl
end
end Lp

set_option Elab.async false
set_option linter.all false
set_option maxRecDepth 100000
set_option maxHeartbeats 4000000
namespace Lp
open PySem PySem.Spec PyProof.Rows L2
theorem nm5_repr : ∀ y ∈ nm5, (reprText y).length ≤ 12 := by decide +kernel
theorem kv_show : ∀ (l : List (Str × Int)), (∀ p ∈ l, p.1 ∈ nm5 ∧ p.2.natAbs.log2 < 1920) → PyData.showableKv ((kvm l).map fun p => (kD p.1, vD p.2)) = true ∧ ((PyData.shownKv ((kvm l).map fun p => (kD p.1, vD p.2))).map (·.length)).sum ≤ l.length * 3000 ∧ (PyData.shownKv ((kvm l).map fun p => (kD p.1, vD p.2))).length = l.length
  | [], _ => ⟨rfl, Nat.zero_le _, rfl⟩
  | p :: l, h => by
    obtain ⟨h1, h2, h3⟩ := kv_show l fun q hq => h q (List.mem_cons_of_mem _ hq)
    obtain ⟨hn, hs⟩ := h p (List.mem_cons_self ..)
    have l1 := nm5_repr _ hn
    have l2 := int_text_len_1921 hs
    refine ⟨?_, ?_, ?_⟩
    · show (true && decide (p.2.natAbs.log2 < 1920) && PyData.showableKv ((kvm l).map fun p => (kD p.1, vD p.2))) = true
      rw [decide_eq_true hs, h1]; rfl
    · show (reprText p.1 ++ ": " ++ Str.ofString (toString p.2)).length + ((PyData.shownKv ((kvm l).map fun p => (kD p.1, vD p.2))).map (·.length)).sum ≤ (l.length + 1) * 3000
      have l3 : Str.length (": " : Str) = 2 := rfl
      rw [strLen_append, strLen_append, l3]
      omega
    · show (PyData.shownKv ((kvm l).map fun p => (kD p.1, vD p.2))).length + 1 = l.length + 1
      rw [h3]
theorem dshow {src : List (Str × Int)} (h : DOk src) : (dD (kvm src)).showable = true ∧ (dD (kvm src)).depth ≤ 50 ∧ (dD (kvm src)).shown.length ≤ sizeLine := by
  obtain ⟨h1, h2, h3⟩ := kv_show src fun p hp => ⟨h.nm p hp, small_lt (h.lo p hp) (h.hi p hp)⟩
  refine ⟨h1, ?_, ?_⟩
  · show PyData.depthKv ((kvm src).map fun p => (kD p.1, vD p.2)) + 1 ≤ 50
    have : ∀ l : List (Str × Int), PyData.depthKv ((kvm l).map fun p => (kD p.1, vD p.2)) = 0 := by
      intro l
      induction l with
      | nil => rfl
      | cons p l ih =>
        show max (max 0 0) (PyData.depthKv ((kvm l).map fun p => (kD p.1, vD p.2))) = 0
        rw [ih]; rfl
    rw [this]
    decide
  · show (("{" : Str) ++ Str.join ", " (PyData.shownKv ((kvm src).map fun p => (kD p.1, vD p.2))) ++ "}").length ≤ sizeLine
    have j := StrLaws.join_length_le ", " (PyData.shownKv ((kvm src).map fun p => (kD p.1, vD p.2)))
    have a1 : Str.length ("{" : Str) = 1 := rfl
    have a2 : Str.length ("}" : Str) = 1 := rfl
    have a3 : Str.length (", " : Str) = 2 := rfl
    have big : (200000 : Nat) ≤ sizeLine := by decide
    have := h.len
    rw [strLen_append, strLen_append, a1, a2]
    rw [h3, a3] at j
    omega

theorem put_ok {src : List (Str × Int)} {y : Str} {n : Int} (h : SrcOk src) (hl : src.length < 63) (hy : isWord y = true) (h0 : 0 ≤ n) : SrcOk (putS src y n) :=
  ⟨putS_nodup h.1, by have := putS_len src y n; omega, fun p hp => (mem_putS hp).elim (h.2.2 p) fun e => by rw [e]; exact ⟨hy, word_len hy, h0⟩⟩
theorem paired_rev {α β : Type} {R : α → β → Prop} {l : List α} {m : List β} (h : Paired R l m) : Paired R l.reverse m.reverse := by
  induction h with
  | nil => exact .nil
  | cons h1 _ ih => rw [List.reverse_cons, List.reverse_cons]; exact paired_app ih (.cons h1 .nil)
theorem val_rev {src : List (Str × Int)} (h : (src.map (·.1)).Nodup) (y : Str) : val src.reverse y = val src y := by
  have hr : (src.reverse.map (·.1)).Nodup := by rw [List.map_reverse]; exact (List.reverse_perm _).nodup_iff.mpr h
  by_cases hy : y ∈ src.map (·.1)
  · obtain ⟨p, hp, rfl⟩ := List.mem_map.mp hy
    rw [val_mem h hp, val_mem hr (List.mem_reverse.mpr hp)]
  · rw [val_off hy, val_off (by rw [List.map_reverse]; simpa using hy)]
theorem rev_ok {src : List (Str × Int)} (h : SrcOk src) : SrcOk src.reverse :=
  ⟨by rw [List.map_reverse]; exact (List.reverse_perm _).nodup_iff.mpr h.1, by rw [List.length_reverse]; exact h.2.1, fun p hp => h.2.2 p (List.mem_reverse.mp hp)⟩

def spLaw (K : PySem.W.Frag) : Sp := fun vs H Q _ => ∃ (a : Addr) (ns : List Int), vs = [.ref a] ∧ SqL K H a (ns.map V.int) ∧ ns.length ≤ 63 ∧ ∀ H', Q (.bl true) H'
abbrev N_law : List Str := ["_law_script", "_law_k", "_law_draws_here", "_law_one", "_law_other", "_law_kept", "_law_sizes", "_law_many", "_law_name", "_law_due_here", "_law_row"]
theorem sc_law : FnScope N_law ["_law_script"] (defScope S_law) := ⟨rfl, rfl, rfl, by decide +kernel, rfl, by decide +kernel, by decide +kernel⟩
section
variable {P : Program} {w : World} {K : PySem.W.Frag} {mg : Str → Option Value} {base : Heap}
theorem ok_law (T : Tx K mg) : FnG P w K mg base CX0 8 (A_law K) (D_law K) ["_law_script"] (spLaw K) := by
  refine okG T.F_law sc_law (fun vs H Q E h => ?_) (fun cdv A outer s H vs Q E gd hr h => ?_)
  · obtain ⟨a, ns, rfl, _⟩ := h
    rfl
  · obtain ⟨a, ns, rfl, hS, hl, q⟩ := h
    have hu64 := hr.units
    have hu : (A.deeper (envOfC "law" (defScope S_law) s.heap.objs.size (A_law K) cdv)).units + 1 < cLine := by have := hr.units; omega
    have hu0 : (A.deeper (envOfC "law" (defScope S_law) s.heap.objs.size (A_law K) cdv)).units < cLine := by omega
    refine ⟨_, PSs.nox (pss_cons (ps_for PassesOwn.never rfl (pi_range1 rfl T.z_range (pa_cons (pe_callB (call_max2 rfl) (by rfl) T.z_max (by decide +kernel) (pa_cons pe_int (pa_cons (pe_callB (call_min2 rfl) (by rfl) T.z_min (by decide +kernel) (pa_cons pe_int (pa_cons (pe_callB call_len_seq (by rfl) T.z_len (by decide +kernel) (pa_cons (pv 0) pa_nil)) pa_nil))) pa_nil))) pa_nil)) (pg_name (i := 1) sc_law.nd rfl (by first | exact Or.inl rfl | exact Or.inr rfl)) (pss_cons (ps_set (i := 2) sc_law.nd rfl (by first | exact Or.inl rfl | exact Or.inr rfl) (pe_call (ok_law_draws T) (hr.mono (by decide)) rfl T.m_law_draws T.F_law_draws.kp (bd_law_draws T) .nil pass0 (pa_cons (pv 0) (pa_cons (pv 1) pa_nil)))) (pss_cons (ps_asg (pe_tup (pa_cons (pe_call (ok_law_amounts T) (hr.mono (by decide)) rfl T.m_law_amounts T.F_law_amounts.kp (bd_law_amounts T) .nil pass0 (pa_cons (pv 2) pa_nil)) (pa_cons (pe_call (ok_law_amounts T) (hr.mono (by decide)) rfl T.m_law_amounts T.F_law_amounts.kp (bd_law_amounts T) .nil pass0 (pa_cons (pv 2) pa_nil)) pa_nil))) (pg_tup rfl (pgs_cons (pg_name (i := 3) sc_law.nd rfl (by first | exact Or.inl rfl | exact Or.inr rfl)) (pgs_cons (pg_name (i := 4) sc_law.nd rfl (by first | exact Or.inl rfl | exact Or.inr rfl)) pgs_nil)))) (pss_cons (ps_set (i := 5) sc_law.nd rfl (by first | exact Or.inl rfl | exact Or.inr rfl) (pe_lst (pa_cons (pe_callB (call_reprK (K0 := K) rfl gd hu64) (by rfl) T.z_repr (by decide +kernel) (pa_cons (pv 3) pa_nil)) (pa_cons (pe_callB (call_reprK (K0 := K) rfl gd hu64) (by rfl) T.z_repr (by decide +kernel) (pa_cons (pv 4) pa_nil)) pa_nil)))) (pss_cons (ps_if (PW.pt (pw_or (pt_not (pt_val (pe_call (ok_law_told_right T) (hr.mono (by decide)) rfl T.m_law_told_right T.F_law_told_right.kp (bd_law_told_right T) .nil pass0 (pa_cons (pv 3) pa_nil)))) (pw_or (pt_not (pt_val (pe_call (ok_law_two_right T) (hr.mono (by decide)) rfl T.m_law_two_right T.F_law_two_right.kp (bd_law_two_right T) .nil pass0 (pa_cons (pv 3) (pa_cons (pv 4) pa_nil))))) (pw_or1 (pt_not (pt_val (pe_call (ok_law_two_right T) (hr.mono (by decide)) rfl T.m_law_two_right T.F_law_two_right.kp (bd_law_two_right T) .nil pass0 (pa_cons (pv 3) (pa_cons (pe_callTy call_dictD (by rfl) T.z_dict (by decide +kernel) (pa_cons (pv 3) pa_nil)) pa_nil))))))))) (pss_one (ps_ret pe_bl)) pss_nil) (pss_cons (ps_asg (pe_tup (pa_cons (pe_makeSS T.mk_Sizes (raw0 (ok_Sizes_init T) (bd_Sizes_init T)) (hr.mono (by decide)) (fun σ => passF σ) rfl T.m_Sizes (pa_cons (pv 3) pa_nil)) (pa_cons (pe_call (ok_law_draw T) (hr.mono (by decide)) rfl T.m_law_draw T.F_law_draw.kp (bd_law_draw T) .nil pass0 (pa_cons (pv 2) (pa_cons pe_int pa_nil))) pa_nil))) (pg_tup rfl (pgs_cons (pg_name (i := 6) sc_law.nd rfl (by first | exact Or.inl rfl | exact Or.inr rfl)) (pgs_cons (pg_name (i := 7) sc_law.nd rfl (by first | exact Or.inl rfl | exact Or.inr rfl)) pgs_nil)))) (pss_cons (ps_if (pt_cmpR (op_neDI hu0) (pe_meth0 (pe_binSK (K0 := K) (C := He.ga K "Sizes") (nm := "mul") rfl rfl ⟨T.kc_Sizes.sf, T.mt_Sizes_mul.at_, T.mt_Sizes_mul.fn, T.ro_Sizes_mul⟩ (raw0 (ok_Sizes_mul T) (bd_Sizes_mul T)) (hr.mono (by decide)) (fun σ => passF σ) (pv 6) (pv 7)) T.cl_Sizes T.mt_Sizes_by_name (ok_Sizes_by_name T) (hr.mono (by decide)) (bd_Sizes_by_name T) .nil pass0) (pe_call (ok_law_plain T) (hr.mono (by decide)) rfl T.m_law_plain T.F_law_plain.kp (bd_law_plain T) .nil pass0 (pa_cons (pe_lockR (pe_callTy (call_dictP rfl) (by rfl) T.z_dict (by decide +kernel) (pa_cons (pe_lc (own := [("_law_name", 8)]) rfl sc_law.nd (pi_keys (pv 3)) (blkOk_by (N := N_law) (sc := defScope S_law) (by decide +kernel)) (fun _ _ _ _ _ => (pg_name (i := 8) sc_law.nd rfl (by first | exact Or.inl rfl | exact Or.inr rfl))) (fun _ _ _ _ _ => pts_nil) (fun _ _ _ _ _ => (pe_tup (pa_cons (pv 8) (pa_cons (pe_op op_mul (pe_dget hu (pv 3) (pv 8) (fun _ _ => rfl)) (pv 7)) pa_nil))))) pa_nil))) pa_nil)) (nomark _)) (pss_one (ps_ret pe_bl)) pss_nil) (pss_cons (ps_set (i := 9) sc_law.nd rfl (by first | exact Or.inl rfl | exact Or.inr rfl) (pe_call (ok_law_plain T) (hr.mono (by decide)) rfl T.m_law_plain T.F_law_plain.kp (bd_law_plain T) .nil pass0 (pa_cons (pe_callTy (call_dictP rfl) (by rfl) T.z_dict (by decide +kernel) (pa_cons (pe_op op_cat (LiI.pe_listItems rfl (pv 3) rfl T.z_list (by decide +kernel)) (pe_lst (pa_cons (pe_tup (pa_cons pe_str (pa_cons (pe_op op_add (pe_dget2 hu (pv 3) pe_str pe_int ⟨rfl, rfl, rfl, rfl⟩) (pv 7)) pa_nil))) pa_nil))) pa_nil)) pa_nil))) (pss_cons (ps_if (pt_cmpR (op_neDI hu0) (pe_meth0 (pe_callOS ⟨T.mt_Sizes_call.at_, T.mt_Sizes_call.fn, fnIn_of T.F_Sizes_call⟩ ((ok_Sizes_call T).raw (bd3_Sizes_call T).choose_spec.2 (bd3_Sizes_call T).choose_spec.1) (hr.mono (by decide)) (fun σ => passF σ) (pv 6) (pa_cons pe_str (pa_cons (pv 7) pa_nil))) T.cl_Sizes T.mt_Sizes_by_name (ok_Sizes_by_name T) (hr.mono (by decide)) (bd_Sizes_by_name T) .nil pass0) (pv 9) (nomark _)) (pss_one (ps_ret pe_bl)) pss_nil) (pss_cons (ps_if (pt_cmpR (op_neDI hu0) (pe_meth0 (pe_callOS ⟨T.mt_Sizes_call.at_, T.mt_Sizes_call.fn, fnIn_of T.F_Sizes_call⟩ ((ok_Sizes_call T).raw (bd2_Sizes_call T).choose_spec.2 (bd2_Sizes_call T).choose_spec.1) (hr.mono (by decide)) (fun σ => passF σ) (pv 6) (pa_cons pe_str pa_nil)) T.cl_Sizes T.mt_Sizes_by_name (ok_Sizes_by_name T) (hr.mono (by decide)) (bd_Sizes_by_name T) .nil pass0) (pe_call (ok_law_plain T) (hr.mono (by decide)) rfl T.m_law_plain T.F_law_plain.kp (bd_law_plain T) .nil pass0 (pa_cons (pe_callTy (call_dictP rfl) (by rfl) T.z_dict (by decide +kernel) (pa_cons (pe_op op_cat (LiI.pe_listItems rfl (pv 3) rfl T.z_list (by decide +kernel)) (pe_lst (pa_cons (pe_tup (pa_cons pe_str (pa_cons (pe_op op_add (pe_dget2 hu (pv 3) pe_str pe_int ⟨rfl, rfl, rfl, rfl⟩) pe_int) pa_nil))) pa_nil))) pa_nil)) pa_nil)) (nomark _)) (pss_one (ps_ret pe_bl)) pss_nil) (pss_cons (ps_set (i := 10) sc_law.nd rfl (by first | exact Or.inl rfl | exact Or.inr rfl) (pe_meth0 (pv 6) T.cl_Sizes T.mt_Sizes_by_name (ok_Sizes_by_name T) (hr.mono (by decide)) (bd_Sizes_by_name T) .nil pass0)) (pss_cons (ps_asg pe_int (pg_sub (pv 10) pe_str (set_dict hu))) (pss_cons (ps_expr (pe_bm PySem.F.plainAttrs_list PySem.F.slot_list_append PySem.F.type_list_append mt_append (pe_meth0 (pv 6) T.cl_Sizes T.mt_Sizes_names (ok_Sizes_names T) (hr.mono (by decide)) (bd_Sizes_names T) .nil pass0) (pa_cons pe_str pa_nil))) (pss_cons (ps_if (PW.pt (pw_or (pt_cmpR (op_neGL mon_flat eqG_flat (hr.mono (by decide))) (pe_lst (pa_cons (pe_callB (call_reprK (K0 := K) rfl gd hu64) (by rfl) T.z_repr (by decide +kernel) (pa_cons (pv 3) pa_nil)) (pa_cons (pe_callB (call_reprK (K0 := K) rfl gd hu64) (by rfl) T.z_repr (by decide +kernel) (pa_cons (pv 4) pa_nil)) pa_nil))) (pv 5) (nomark _)) (pw_or1 (pt_cmpR (op_neOwn T.mt_Sizes_eq T.ne_Sizes T.kc_Sizes.hm (raw0 (ok_Sizes_eq T) (bd_Sizes_eq T)) (hr.mono (by decide)) pass0) (pv 6) (pe_makeSS T.mk_Sizes (raw0 (ok_Sizes_init T) (bd_Sizes_init T)) (hr.mono (by decide)) (fun σ => passF σ) rfl T.m_Sizes (pa_cons (pe_callTy (call_dictP rfl) (by rfl) T.z_dict (by decide +kernel) (pa_cons (pe_revL (LiI.pe_listItems rfl (pv 3) rfl T.z_list (by decide +kernel))) pa_nil)) pa_nil)) (nomark _))))) (pss_one (ps_ret pe_bl)) pss_nil) (pss_cons (ps_asg pe_int (pg_sub (pv 3) pe_str (set_dict hu))) (pss_one (ps_if (pt_cmpR (op_neOwn T.mt_Sizes_eq T.ne_Sizes T.kc_Sizes.hm (raw0 (ok_Sizes_eq T) (bd_Sizes_eq T)) (hr.mono (by decide)) pass0) (pv 6) (pe_makeSS T.mk_Sizes (raw0 (ok_Sizes_init T) (bd_Sizes_init T)) (hr.mono (by decide)) (fun σ => passF σ) rfl T.m_Sizes (pa_cons (pe_callTy (call_dictP rfl) (by rfl) T.z_dict (by decide +kernel) (pa_cons (pe_lc (own := [("_law_name", 8)]) rfl sc_law.nd (pi_list (pe_meth0 (pv 6) T.cl_Sizes T.mt_Sizes_names (ok_Sizes_names T) (hr.mono (by decide)) (bd_Sizes_names T) .nil pass0)) (blkOk_by (N := N_law) (sc := defScope S_law) (by decide +kernel)) (fun _ _ _ _ _ => (pg_name (i := 8) sc_law.nd rfl (by first | exact Or.inl rfl | exact Or.inr rfl))) (fun _ _ _ _ _ => pts_nil) (fun _ _ _ _ _ => (pe_tup (pa_cons (pv 8) (pa_cons (pe_ixOwn T.mt_Sizes_getitem (fnIn_of T.F_Sizes_getitem) (raw0 (ok_Sizes_getitem T) (bd_Sizes_getitem T)) (hr.mono (by decide)) pass0 (pv 6) (pv 8)) pa_nil))))) pa_nil)) pa_nil)) (nomark _)) (pss_one (ps_ret pe_bl)) pss_nil))))))))))))))))) (pss_one (ps_ret pe_bl))), ?_⟩
    refine ⟨_, rfl, _, _, rfl, .inl hS, _, _, rfl, _, _, rfl, _, rfl, ?b1, ?b2, for_range (fun i σ' H' => ∃ o1 o2 o3 o4 o5 o6 o7 o9 o10, σ' = [some (.ref a), o1, o2, o3, o4, o5, o6, o7, none, o9, o10] ∧ Same H H') ⟨_, _, _, _, _, _, _, _, _, rfl, same_refl H⟩ ?turn ?done⟩
    case b1 => split <;> omega
    case b2 => rw [List.length_map]; split <;> (try split) <;> omega
    case done =>
      rintro σ' H' ⟨o1, o2, o3, o4, o5, o6, o7, o9, o10, rfl, _⟩
      exact q H'
    case turn =>
      rintro i σ' H0 hi ⟨o1, o2, o3, o4, o5, o6, o7, o9, o10, rfl, sA⟩
      have hi1 : (i : Int) ≤ 1000 := by
        have := hi
        rw [List.length_map] at this
        revert this
        split <;> (try split) <;> omega
      refine ⟨_, rfl, _, rfl, a, ns, 0 + (i : Int), rfl, sA.seq hS, hl, by omega, by omega, fun dl H1 s1 n1 dr => ?_⟩
      -- one, other
      refine ⟨_, rfl, dl, rfl, dr, fun p1 src1 H2 kp1 dr1 np1 hp1 k1 => ?_⟩
      refine ⟨_, rfl, dl, rfl, dr1, fun p2 src2 H3 kp2 dr2 np2 hp2 k2 => ?_⟩
      have ddl : ∀ {Hx : Hp}, Dr Hx dl → ∃ o, Hx dl = some o := fun ⟨_, _, e, _⟩ => ⟨_, e⟩
      obtain ⟨od0, ed0⟩ := ddl dr
      obtain ⟨od1, ed1⟩ := ddl dr1
      have p1d : p1 ≠ dl := (ne_of_none ed0 np1).symm
      have p2d : p2 ≠ dl := (ne_of_none ed1 np2).symm
      have p12 : p1 ≠ p2 := ne_of_none hp1 np2
      have sA0 := sA
      replace sA : Same H H3 := fun b o e => kp2 b o (ne_of_none (sA _ _ e) n1) (kp1 b o (ne_of_none (sA _ _ e) n1) (s1 _ _ (sA _ _ e)))
      have Hdl : H dl = none := same_off sA0 n1
      have Hp1 : H p1 = none := same_off (same_trans sA0 s1) np1
      replace hp1 := kp2 _ _ p1d hp1
      clear kp1 kp2 dr dr1 ed0 ed1 s1 n1 np1 np2 ddl
      refine ⟨by show 2 ≤ sizeLine; decide, fun t nt => ?_⟩
      have s' := same_new (o := .tup [.ref p1, .ref p2]) nt
      have h_t : upd H3 t (.tup [.ref p1, .ref p2]) t = some (.tup [.ref p1, .ref p2]) := upd_same
      generalize upd H3 t (.tup [.ref p1, .ref p2]) = H4 at *
      replace hp1 := s' _ _ hp1
      replace hp2 := s' _ _ hp2
      replace sA := same_trans sA s'
      replace dr2 := Dr.same s' dr2
      clear s' nt
      refine ⟨t, _, rfl, SqT.of h_t, rfl, _, _, rfl, _, _, rfl, rfl, ?_⟩
      clear h_t
      -- kept
      have fl : ∀ (m : List (Str × Int)), ∀ p ∈ kvm m, flD p.2 = true := fun m p hp => by
        obtain ⟨r, _, rfl⟩ := List.mem_map.mp hp
        rfl
      refine ⟨_, rfl, _, _, rfl, .inr ⟨p1, _, rfl, .inl hp1, fl _, rfl⟩, (dshow k1).1, (dshow k1).2.1, (dshow k1).2.2, ?_⟩
      refine ⟨_, rfl, _, _, rfl, .inr ⟨p2, _, rfl, .inl hp2, fl _, rfl⟩, (dshow k2).1, (dshow k2).2.1, (dshow k2).2.2, ?_⟩
      refine ⟨by show 2 ≤ sizeLine; decide, fun lk nlk => ?_⟩
      have lkd : lk ≠ dl := by obtain ⟨_, _, e, _⟩ := dr2; exact (ne_of_none e nlk).symm
      have lk1 : lk ≠ p1 := (ne_of_none hp1 nlk).symm
      have s' := same_new (o := .lst [.str (dD (kvm src1)).shown, .str (dD (kvm src2)).shown]) nlk
      have h_lk : upd H4 lk (.lst [.str (dD (kvm src1)).shown, .str (dD (kvm src2)).shown]) lk = some (.lst [.str (dD (kvm src1)).shown, .str (dD (kvm src2)).shown]) := upd_same
      generalize upd H4 lk (.lst [.str (dD (kvm src1)).shown, .str (dD (kvm src2)).shown]) = H5 at *
      replace hp1 := s' _ _ hp1
      replace hp2 := s' _ _ hp2
      replace sA := same_trans sA s'
      replace dr2 := Dr.same s' dr2
      clear s' nlk
      -- told, two
      refine ⟨_, rfl, r_nil ⟨p1, src1, rfl, .inl hp1, k1, fun H6 s6 => ⟨_, rfl, ?_⟩⟩⟩
      replace hp1 := s6 _ _ hp1
      replace hp2 := s6 _ _ hp2
      replace sA := same_trans sA s6
      replace dr2 := Dr.same s6 dr2
      replace h_lk := s6 _ _ h_lk
      clear s6
      refine iteF ⟨_, rfl, _, rfl, r_nil ⟨p1, p2, src1, src2, rfl, hp1, hp2, k1, k2, p12, fun H7 s7 => ⟨_, rfl, iteF ?_⟩⟩⟩
      replace hp1 := s7 _ _ hp1
      replace hp2 := s7 _ _ hp2
      replace sA := same_trans sA s7
      replace dr2 := Dr.same s7 dr2
      replace h_lk := s7 _ _ h_lk
      clear s7
      refine ⟨_, rfl, _, rfl, p1, _, rfl, .inl hp1, fun p3 n3 => ?_⟩
      have p13 : p1 ≠ p3 := ne_of_none hp1 n3
      have s' := same_new (o := .dK (kvm src1)) n3
      have h_p3 : upd H7 p3 (.dK (kvm src1)) p3 = some (.dK (kvm src1)) := upd_same
      generalize upd H7 p3 (.dK (kvm src1)) = H8 at *
      replace hp1 := s' _ _ hp1
      replace hp2 := s' _ _ hp2
      replace sA := same_trans sA s'
      replace dr2 := Dr.same s' dr2
      replace h_lk := s' _ _ h_lk
      clear s' n3
      refine r_nil ⟨p1, p3, src1, src1, rfl, hp1, h_p3, k1, k1, p13, fun H9 s9 => ⟨_, rfl, iteF ?_⟩⟩
      replace hp1 := s9 _ _ hp1
      replace hp2 := s9 _ _ hp2
      replace sA := same_trans sA s9
      replace dr2 := Dr.same s9 dr2
      replace h_lk := s9 _ _ h_lk
      clear s9 h_p3
      -- sizes, many
      have o1 := k1.ok
      refine ⟨_, rfl, r_nil ?_⟩
      refine mk_sz (F := fun _ => none) (fun _ _ e => nomatch e) (.inl hp1) o1 fun x F1 HA gA zx => ?_
      have zF : SzAt K F1 x (canon src1) := zx
      have offd : F1 dl = none := by
        obtain ⟨c0, z0, e0, _⟩ := dr2
        exact gA.off rfl e0
      have off1 : F1 p1 = none := gA.off rfl hp1
      have fA := gA.fh
      replace gA := gA.hh
      replace hp1 := gA _ _ hp1
      replace hp2 := gA _ _ hp2
      replace sA := same_trans sA gA
      replace dr2 := Dr.same gA dr2
      replace h_lk := gA _ _ h_lk
      clear gA
      refine ⟨_, rfl, dl, 5, rfl, dr2, by decide, by decide, fun n c z n0 n1 z0 z1 => ?_⟩
      have dkp : ∀ b o, b ≠ dl → HA b = some o → upd HA dl (.lst [.int c, .int z]) b = some o := fun b o hb e => by rw [upd_ne hb]; exact e
      have fB := same_mut (p := dl) (o := .lst [.int c, .int z]) fA offd
      replace sA : Same H (upd HA dl (.lst [.int c, .int z])) := same_mut sA Hdl
      replace hp1 := dkp _ _ p1d hp1
      replace hp2 := dkp _ _ p2d hp2
      replace h_lk := dkp _ _ lkd h_lk
      generalize upd HA dl (.lst [.int c, .int z]) = HB at *
      clear dkp fA dr2
      replace zx := zF.same fB
      refine ⟨by show 2 ≤ sizeLine; decide, fun t2 nt2 => ?_⟩
      replace fB := same_trans fB (same_new (o := .tup [.ref x, .int n]) nt2)
      have s' := same_new (o := .tup [.ref x, .int n]) nt2
      have h_t2 : upd HB t2 (.tup [.ref x, .int n]) t2 = some (.tup [.ref x, .int n]) := upd_same
      generalize upd HB t2 (.tup [.ref x, .int n]) = HC at *
      replace hp1 := s' _ _ hp1
      replace hp2 := s' _ _ hp2
      replace sA := same_trans sA s'
      replace h_lk := s' _ _ h_lk
      replace zx := zx.same s'
      clear s' nt2
      refine ⟨t2, _, rfl, SqT.of h_t2, rfl, _, _, rfl, _, _, rfl, rfl, ?_⟩
      clear h_t2
      have cm := Cn.of o1
      -- sizes * many
      obtain ⟨dx, _, _, i1, _, _⟩ := id zx
      refine ⟨_, rfl, _, rfl, x, dx, _, rfl, i1, .inr ⟨_, .base (.int n), oth_of (by decide) (by decide)⟩, HC, x, canon src1, _, rfl, same_refl _, zx, cm, .inl ⟨n, rfl, n0, by omega, fun r3 m3 F3 HD g3 z3 c3 v3 => ?_⟩⟩
      clear i1
      replace z3 := z3.same g3.fh
      replace fB := same_trans fB g3.hh
      replace g3 := g3.hh
      replace hp1 := g3 _ _ hp1
      replace hp2 := g3 _ _ hp2
      replace sA := same_trans sA g3
      replace h_lk := g3 _ _ h_lk
      replace zx := zx.same g3
      clear g3
      obtain ⟨dx, _, _, i1, _, _⟩ := id z3
      refine ⟨r3, dx, _, rfl, i1, rfl, r_nil ⟨r3, m3, rfl, z3, fun b1 nb1 => ?_⟩⟩
      clear i1
      replace fB := same_trans fB (same_new (o := .dK (kvm m3)) nb1)
      have b11 : b1 ≠ p1 := (ne_of_none hp1 nb1).symm
      have s' := same_new (o := .dK (kvm m3)) nb1
      have h_b1 : upd HD b1 (.dK (kvm m3)) b1 = some (.dK (kvm m3)) := upd_same
      generalize upd HD b1 (.dK (kvm m3)) = HE at *
      replace hp1 := s' _ _ hp1
      replace hp2 := s' _ _ hp2
      replace sA := same_trans sA s'
      replace h_lk := s' _ _ h_lk
      replace zx := zx.same s'
      clear s' nb1
      have tk : SrcOk ((src1.map (·.1)).map fun y => (y, val src1 y * n)) := ⟨by rw [tab_keys]; exact k1.nd, by rw [List.length_map, List.length_map]; exact o1.2.1, fun p hp => by
        obtain ⟨y, hy, rfl⟩ := List.mem_map.mp hp
        obtain ⟨r, hr', rfl⟩ := List.mem_map.mp hy
        have := o1.2.2 r hr'
        exact ⟨this.1, this.2.1, Int.mul_nonneg (o1.val0 _) n0⟩⟩
      have em := c3.to tk.1 fun y => by
        rw [v3, val_canon o1.val0]
        by_cases hy : y ∈ src1.map (·.1)
        · rw [val_tab hy]
        · rw [val_tab0 hy, val_off hy, Int.zero_mul]
      refine lockR_of3 (.inl hp1) trivial fun o HL QL hl keep fin => ?_
      refine ⟨_, rfl, p1, o, rfl, .inl ⟨kvm src1, hl, fun D2 hD2 => lc_gw walk_keys (fun _ => true) (fun i y F => ∃ t, y = V.ref t ∧ F t = some (.tup [.str ((src1.map (·.1)).getD i ""), .int (val src1 ((src1.map (·.1)).getD i "") * n)])) (fun i y A B s => fun ⟨t, e, h⟩ => ⟨t, e, s _ _ h⟩) (same_refl _) hD2 (by rw [kvm_len]; have := o1.2.1; omega) (fun H' s' => s' _ _ hl) ?lcs ?lcd⟩⟩
      case lcs =>
        rintro i xv F2 H3 H4 Qn Qs hi gw2 ⟨rfl, k, v, e, rfl⟩ qn' qs'
        obtain ⟨p1', ep, rfl, rfl⟩ := kvm_at e
        have en := kvm_getD ep
        rw [en] at qn'
        have hm : p1'.1 ∈ src1.map (·.1) := List.mem_map.mpr ⟨p1', List.mem_of_getElem? ep, rfl⟩
        have dg := dget_kvm (H := H4) (d := p1) (m := src1) (y := p1'.1) (.inr ⟨o, gw2.hh _ _ hl⟩) hm
        refine ⟨rfl, yes_then ?_⟩
        exact ⟨_, rfl, _, rfl, _, rfl, p1, _, rfl, dg, _, rfl, _, _, rfl, rfl, .inr ⟨by omega, by omega⟩, by show 2 ≤ sizeLine; decide, fun t ht => qn' rfl _ _ _ (Gw.add gw2.fh ht) ⟨t, rfl, upd_same⟩⟩
      case lcd =>
        intro zs2 F2 H4 gw2 fD2 hH2 pr2
        rw [kvm_len, filter_true] at pr2
        obtain ⟨ps, rfl, pr3⟩ := rows_of (K := K) (g := fun i => ((src1.map (·.1)).getD i "", val src1 ((src1.map (·.1)).getD i "") * n)) gw2.fh pr2
        refine ⟨D2, ps, _, rfl, SqL.of hH2, pr3, fun r hr => ?_⟩
        have el : src1.length = (src1.map (·.1)).length := by rw [List.length_map]
        rw [merge_kvm, el, range_map (src1.map (·.1)) _ (fun y => (y, val src1 y * n)) (fun i y e1 => by rw [getD_at e1]), putsS_id tk.1]
        have nr : r ≠ p1 := fun e => by rw [e, gw2.hh _ _ hl] at hr; cases hr
        refine fin _ _ (same_trans gw2.hh (same_new hr)) fun HF sF kF => r_nil ?_
        refine ⟨r, _, rfl, .inl (kF r _ nr upd_same), tk, fun p5 HG sG n6 h6 => ?_⟩
        replace sF := same_trans sF sG
        replace fB := same_trans fB sF
        replace hp1 := sF _ _ hp1
        replace hp2 := sF _ _ hp2
        replace sA := same_trans sA sF
        replace h_lk := sF _ _ h_lk
        replace zx := zx.same sF
        replace h_b1 := sF _ _ h_b1
        clear sG kF hl keep fin gw2 hH2 pr3 pr2 fD2
        refine ⟨b1, p5, _, _, rfl, rfl, ⟨.inl h_b1, kvm_int _⟩, ⟨.inl h6, kvm_int _⟩, _, rfl, ?_⟩
        rw [← em, eqDI_self c3.nd]
        refine iteF ?_
        clear sF h6 h_b1 em tk c3 v3
        have l1 := k1.len
        have big : (1000 : Nat) ≤ sizeLine := by decide
        have w1 : isWord "conn" = true := by decide +kernel
        have w2 : isWord "disk" = true := by decide +kernel
        have cl : (canon src1).length ≤ 5 := Nat.le_trans (canon_len _) l1
        -- due_here
        refine ⟨_, rfl, p1, _, rfl, hp1, fun H1 pa ts1 e1 _ _ _ h_pa pr1 => ?_⟩
        replace e1 : Same HG H1 := e1
        replace hp1 := e1 _ _ hp1
        replace hp2 := e1 _ _ hp2
        replace sA := same_trans sA e1
        replace h_lk := e1 _ _ h_lk
        replace zx := zx.same e1
        replace fB := same_trans fB e1
        clear e1
        have lt1 := (paired_at pr1).1
        rw [kvm_len] at lt1
        obtain ⟨v1, g1, eo1, _⟩ := dget_val (H := H1) (.inl hp1) "conn"
        refine ⟨_, rfl, p1, rfl, .inl ⟨_, .inl hp1⟩, v1, g1, ?_⟩
        rw [eo1]
        clear g1 eo1
        refine ⟨_, rfl, _, _, rfl, rfl, by show 2 ≤ sizeLine; decide, fun t3 nt3 => ?_⟩
        have s' := same_new (o := .tup [.str "conn", .int (val src1 "conn" + n)]) nt3
        have h_t3 : upd H1 t3 (.tup [.str "conn", .int (val src1 "conn" + n)]) t3 = some (.tup [.str "conn", .int (val src1 "conn" + n)]) := upd_same
        generalize upd H1 t3 (.tup [.str "conn", .int (val src1 "conn" + n)]) = H2 at *
        replace hp1 := s' _ _ hp1
        replace hp2 := s' _ _ hp2
        replace sA := same_trans sA s'
        replace h_lk := s' _ _ h_lk
        replace zx := zx.same s'
        replace fB := same_trans fB s'
        replace h_pa := s' _ _ h_pa
        replace pr1 := paired_up s' pr1
        clear s'
        refine ⟨by show 1 ≤ sizeLine; decide, fun l3 nl3 => ?_⟩
        have s' := same_new (o := .lst [.ref t3]) nl3
        have h_l3 : upd H2 l3 (.lst [.ref t3]) l3 = some (.lst [.ref t3]) := upd_same
        generalize upd H2 l3 (.lst [.ref t3]) = H3 at *
        replace hp1 := s' _ _ hp1
        replace hp2 := s' _ _ hp2
        replace sA := same_trans sA s'
        replace h_lk := s' _ _ h_lk
        replace zx := zx.same s'
        replace fB := same_trans fB s'
        replace h_pa := s' _ _ h_pa
        replace pr1 := paired_up s' pr1
        replace h_t3 := s' _ _ h_t3
        clear s'
        refine ⟨pa, l3, _, _, rfl, rfl, h_pa, h_l3, by rw [List.length_map]; show ts1.length + 1 ≤ sizeLine; omega, fun p6 np6 => ?_⟩
        replace h_l3 : True := trivial
        have er : ts1.map V.ref ++ [.ref t3] = (ts1 ++ [t3]).map V.ref := by rw [List.map_append]; rfl
        rw [er]
        have s' := same_new (o := .lst ((ts1 ++ [t3]).map V.ref)) np6
        have h_p6 : upd H3 p6 (.lst ((ts1 ++ [t3]).map V.ref)) p6 = some (.lst ((ts1 ++ [t3]).map V.ref)) := upd_same
        generalize upd H3 p6 (.lst ((ts1 ++ [t3]).map V.ref)) = H4 at *
        replace hp1 := s' _ _ hp1
        replace hp2 := s' _ _ hp2
        replace sA := same_trans sA s'
        replace h_lk := s' _ _ h_lk
        replace zx := zx.same s'
        replace fB := same_trans fB s'
        replace h_pa := s' _ _ h_pa
        replace pr1 := paired_up s' pr1
        replace h_t3 := s' _ _ h_t3
        clear s'
        refine ⟨p6, ts1 ++ [t3], kvm (src1 ++ [(("conn" : Str), val src1 "conn" + n)]), rfl, SqL.of h_p6, by rw [kvm_app]; exact paired_app (paired_tup pr1) (.cons (SqT.of h_t3) .nil), fun p7 np7 => ?_⟩
        rw [merge_kvm, putsS_snoc, putsS_id k1.nd]
        clear pr1 h_p6 h_t3 h_pa er h_l3
        have kc : SrcOk (putS src1 "conn" (val src1 "conn" + n)) := put_ok o1 (by omega) w1 (Int.add_nonneg (o1.val0 _) n0)
        have s' := same_new (o := .dK (kvm (putS src1 "conn" (val src1 "conn" + n)))) np7
        have h_p7 : upd H4 p7 (.dK (kvm (putS src1 "conn" (val src1 "conn" + n)))) p7 = some (.dK (kvm (putS src1 "conn" (val src1 "conn" + n)))) := upd_same
        generalize upd H4 p7 (.dK (kvm (putS src1 "conn" (val src1 "conn" + n)))) = H5 at *
        replace hp1 := s' _ _ hp1
        replace hp2 := s' _ _ hp2
        replace sA := same_trans sA s'
        replace h_lk := s' _ _ h_lk
        replace zx := zx.same s'
        replace fB := same_trans fB s'
        clear s'
        refine r_nil ⟨p7, _, rfl, .inl h_p7, kc, fun p8 H6 s8 n8 h_p8 => ?_⟩
        clear h_p7
        replace hp1 := s8 _ _ hp1
        replace hp2 := s8 _ _ hp2
        replace sA := same_trans sA s8
        replace h_lk := s8 _ _ h_lk
        replace zx := zx.same s8
        replace fB := same_trans fB s8
        clear s8
        -- sizes("conn", many)
        obtain ⟨dx, _, _, i1, _, _⟩ := id zx
        refine ⟨_, rfl, x, rfl, _, rfl, ⟨dx, _, i1⟩, H6, x, canon src1, _, _, rfl, same_refl _, zx, cm, .inl ⟨"conn", n, rfl, w1, rfl, n0, by omega, fun r4 m4 F4 H7 g4 z4 c4 v4 => ?_⟩⟩
        clear i1
        replace z4 := z4.same g4.fh
        replace g4 := g4.hh
        replace hp1 := g4 _ _ hp1
        replace hp2 := g4 _ _ hp2
        replace sA := same_trans sA g4
        replace h_lk := g4 _ _ h_lk
        replace zx := zx.same g4
        replace fB := same_trans fB g4
        replace h_p8 := g4 _ _ h_p8
        clear g4
        obtain ⟨dx, _, _, i1, _, _⟩ := id z4
        refine ⟨r4, dx, _, rfl, i1, rfl, r_nil ⟨r4, m4, rfl, z4, fun b4 nb4 => ?_⟩⟩
        clear i1 z4
        have s' := same_new (o := .dK (kvm m4)) nb4
        have h_b4 : upd H7 b4 (.dK (kvm m4)) b4 = some (.dK (kvm m4)) := upd_same
        generalize upd H7 b4 (.dK (kvm m4)) = H8 at *
        replace hp1 := s' _ _ hp1
        replace hp2 := s' _ _ hp2
        replace sA := same_trans sA s'
        replace h_lk := s' _ _ h_lk
        replace zx := zx.same s'
        replace fB := same_trans fB s'
        replace h_p8 := s' _ _ h_p8
        clear s'
        refine ⟨_, rfl, b4, p8, _, _, rfl, rfl, ⟨.inl h_b4, kvm_int _⟩, ⟨.inl h_p8, kvm_int _⟩, _, rfl, ?_⟩
        have em := c4.to kc.1 fun y => by
          rw [v4, val_canon o1.val0, val_putS]
          by_cases hy : y = "conn"
          · rw [if_pos hy, if_pos hy, hy]
          · rw [if_neg hy, if_neg hy, Int.add_zero]
        rw [← em, eqDI_self c4.nd]
        refine iteF ?_
        clear h_b4 em c4 v4 kc
        clear h_p8
        -- sizes("disk")
        obtain ⟨dx, _, _, i1, _, _⟩ := id zx
        refine ⟨_, rfl, x, rfl, ⟨dx, _, i1⟩, H8, x, canon src1, _, _, rfl, same_refl _, zx, cm, .inl ⟨"disk", 1, rfl, w2, rfl, by decide, by omega, fun r4 m4 F4 H9 g4 z4 c4 v4 => ?_⟩⟩
        clear i1
        replace z4 := z4.same g4.fh
        replace g4 := g4.hh
        replace hp1 := g4 _ _ hp1
        replace hp2 := g4 _ _ hp2
        replace sA := same_trans sA g4
        replace h_lk := g4 _ _ h_lk
        replace zx := zx.same g4
        replace fB := same_trans fB g4
        clear g4
        obtain ⟨dx, _, _, i1, _, _⟩ := id z4
        refine ⟨r4, dx, _, rfl, i1, rfl, r_nil ⟨r4, m4, rfl, z4, fun b4 nb4 => ?_⟩⟩
        clear i1 z4
        have s' := same_new (o := .dK (kvm m4)) nb4
        have h_b4 : upd H9 b4 (.dK (kvm m4)) b4 = some (.dK (kvm m4)) := upd_same
        generalize upd H9 b4 (.dK (kvm m4)) = H10 at *
        replace hp1 := s' _ _ hp1
        replace hp2 := s' _ _ hp2
        replace sA := same_trans sA s'
        replace h_lk := s' _ _ h_lk
        replace zx := zx.same s'
        replace fB := same_trans fB s'
        clear s'
        refine ⟨_, rfl, p1, _, rfl, hp1, fun H1 pa ts1 e1 _ _ _ h_pa pr1 => ?_⟩
        replace e1 : Same H10 H1 := e1
        replace hp1 := e1 _ _ hp1
        replace hp2 := e1 _ _ hp2
        replace sA := same_trans sA e1
        replace h_lk := e1 _ _ h_lk
        replace zx := zx.same e1
        replace fB := same_trans fB e1
        replace h_b4 := e1 _ _ h_b4
        clear e1
        have lt1 := (paired_at pr1).1
        rw [kvm_len] at lt1
        obtain ⟨v1, g1, eo1, _⟩ := dget_val (H := H1) (.inl hp1) "disk"
        refine ⟨_, rfl, p1, rfl, .inl ⟨_, .inl hp1⟩, v1, g1, ?_⟩
        rw [eo1]
        clear g1 eo1
        refine ⟨_, _, rfl, rfl, by show 2 ≤ sizeLine; decide, fun t3 nt3 => ?_⟩
        have s' := same_new (o := .tup [.str "disk", .int (val src1 "disk" + 1)]) nt3
        have h_t3 : upd H1 t3 (.tup [.str "disk", .int (val src1 "disk" + 1)]) t3 = some (.tup [.str "disk", .int (val src1 "disk" + 1)]) := upd_same
        generalize upd H1 t3 (.tup [.str "disk", .int (val src1 "disk" + 1)]) = H2 at *
        replace hp1 := s' _ _ hp1
        replace hp2 := s' _ _ hp2
        replace sA := same_trans sA s'
        replace h_lk := s' _ _ h_lk
        replace zx := zx.same s'
        replace fB := same_trans fB s'
        replace h_b4 := s' _ _ h_b4
        replace h_pa := s' _ _ h_pa
        replace pr1 := paired_up s' pr1
        clear s'
        refine ⟨by show 1 ≤ sizeLine; decide, fun l3 nl3 => ?_⟩
        have s' := same_new (o := .lst [.ref t3]) nl3
        have h_l3 : upd H2 l3 (.lst [.ref t3]) l3 = some (.lst [.ref t3]) := upd_same
        generalize upd H2 l3 (.lst [.ref t3]) = H3 at *
        replace hp1 := s' _ _ hp1
        replace hp2 := s' _ _ hp2
        replace sA := same_trans sA s'
        replace h_lk := s' _ _ h_lk
        replace zx := zx.same s'
        replace fB := same_trans fB s'
        replace h_b4 := s' _ _ h_b4
        replace h_pa := s' _ _ h_pa
        replace pr1 := paired_up s' pr1
        replace h_t3 := s' _ _ h_t3
        clear s'
        refine ⟨pa, l3, _, _, rfl, rfl, h_pa, h_l3, by rw [List.length_map]; show ts1.length + 1 ≤ sizeLine; omega, fun p6 np6 => ?_⟩
        replace h_l3 : True := trivial
        have er : ts1.map V.ref ++ [.ref t3] = (ts1 ++ [t3]).map V.ref := by rw [List.map_append]; rfl
        rw [er]
        have s' := same_new (o := .lst ((ts1 ++ [t3]).map V.ref)) np6
        have h_p6 : upd H3 p6 (.lst ((ts1 ++ [t3]).map V.ref)) p6 = some (.lst ((ts1 ++ [t3]).map V.ref)) := upd_same
        generalize upd H3 p6 (.lst ((ts1 ++ [t3]).map V.ref)) = H4 at *
        replace hp1 := s' _ _ hp1
        replace hp2 := s' _ _ hp2
        replace sA := same_trans sA s'
        replace h_lk := s' _ _ h_lk
        replace zx := zx.same s'
        replace fB := same_trans fB s'
        replace h_b4 := s' _ _ h_b4
        replace h_pa := s' _ _ h_pa
        replace pr1 := paired_up s' pr1
        replace h_t3 := s' _ _ h_t3
        clear s'
        refine ⟨p6, ts1 ++ [t3], kvm (src1 ++ [(("disk" : Str), val src1 "disk" + 1)]), rfl, SqL.of h_p6, by rw [kvm_app]; exact paired_app (paired_tup pr1) (.cons (SqT.of h_t3) .nil), fun p7 np7 => ?_⟩
        rw [merge_kvm, putsS_snoc, putsS_id k1.nd]
        clear pr1 h_p6 h_t3 h_pa er h_l3
        have kc : SrcOk (putS src1 "disk" (val src1 "disk" + 1)) := put_ok o1 (by omega) w2 (Int.add_nonneg (o1.val0 _) (by decide))
        have s' := same_new (o := .dK (kvm (putS src1 "disk" (val src1 "disk" + 1)))) np7
        have h_p7 : upd H4 p7 (.dK (kvm (putS src1 "disk" (val src1 "disk" + 1)))) p7 = some (.dK (kvm (putS src1 "disk" (val src1 "disk" + 1)))) := upd_same
        generalize upd H4 p7 (.dK (kvm (putS src1 "disk" (val src1 "disk" + 1)))) = H5 at *
        replace hp1 := s' _ _ hp1
        replace hp2 := s' _ _ hp2
        replace sA := same_trans sA s'
        replace h_lk := s' _ _ h_lk
        replace zx := zx.same s'
        replace fB := same_trans fB s'
        replace h_b4 := s' _ _ h_b4
        clear s'
        refine r_nil ⟨p7, _, rfl, .inl h_p7, kc, fun p8 H6 s8 n8 h_p8 => ?_⟩
        clear h_p7
        replace hp1 := s8 _ _ hp1
        replace hp2 := s8 _ _ hp2
        replace sA := same_trans sA s8
        replace h_lk := s8 _ _ h_lk
        replace zx := zx.same s8
        replace fB := same_trans fB s8
        replace h_b4 := s8 _ _ h_b4
        clear s8
        refine ⟨b4, p8, _, _, rfl, rfl, ⟨.inl h_b4, kvm_int _⟩, ⟨.inl h_p8, kvm_int _⟩, _, rfl, ?_⟩
        have em := c4.to kc.1 fun y => by
          rw [v4, val_canon o1.val0, val_putS]
          by_cases hy : y = "disk"
          · rw [if_pos hy, if_pos hy, hy]
          · rw [if_neg hy, if_neg hy, Int.add_zero]
        rw [← em, eqDI_self c4.nd]
        refine iteF ?_
        clear h_b4 em c4 v4 kc h_p8
        -- row
        obtain ⟨dx, _, _, i1, _, _⟩ := id zx
        refine ⟨_, rfl, x, dx, _, rfl, i1, rfl, r_nil ⟨x, canon src1, rfl, zx, fun rw nrw => ?_⟩⟩
        clear i1
        refine ⟨_, rfl, rw, _, rfl, DPut.k (k := Sum.inr "zz") upd_same (by rw [kvm_len]; omega), ?_⟩
        have s' := same_mut (o := .dK (putK (kvm (canon src1)) (Sum.inr "zz") (.int 5))) (same_new (o := .dK (kvm (canon src1))) nrw) nrw
        generalize upd (upd H6 rw (.dK (kvm (canon src1)))) rw (.dK (putK (kvm (canon src1)) (Sum.inr "zz") (.int 5))) = H7 at *
        replace hp1 := s' _ _ hp1
        replace hp2 := s' _ _ hp2
        replace sA := same_trans sA s'
        replace h_lk := s' _ _ h_lk
        replace zx := zx.same s'
        replace fB := same_trans fB s'
        clear s'
        obtain ⟨dx, _, _, i1, _, _⟩ := id zx
        refine ⟨_, rfl, x, dx, _, rfl, i1, rfl, r_nil ⟨x, canon src1, rfl, zx, fun nl nnl => ?_⟩⟩
        clear i1
        refine ⟨.inl ⟨rfl, _, SqL.of upd_same⟩, nl, _, _, rfl, rfl, upd_same, by rw [List.length_map, List.length_map]; omega, ?_⟩
        have s' := same_mut (o := .lst (((canon src1).map (·.1)).map V.str ++ [.str "zz"])) (same_new (o := .lst (((canon src1).map (·.1)).map V.str)) nnl) nnl
        generalize upd (upd H7 nl (.lst (((canon src1).map (·.1)).map V.str))) nl (.lst (((canon src1).map (·.1)).map V.str ++ [.str "zz"])) = H8 at *
        replace hp1 := s' _ _ hp1
        replace hp2 := s' _ _ hp2
        replace sA := same_trans sA s'
        replace h_lk := s' _ _ h_lk
        replace zx := zx.same s'
        replace fB := same_trans fB s'
        clear s'
        -- kept
        refine ⟨_, rfl, _, _, rfl, .inr ⟨p1, _, rfl, .inl hp1, fl _, rfl⟩, (dshow k1).1, (dshow k1).2.1, (dshow k1).2.2, ?_⟩
        refine ⟨_, rfl, _, _, rfl, .inr ⟨p2, _, rfl, .inl hp2, fl _, rfl⟩, (dshow k2).1, (dshow k2).2.1, (dshow k2).2.2, ?_⟩
        refine ⟨by show 2 ≤ sizeLine; decide, fun lj nlj => ?_⟩
        have s' := same_new (o := .lst [.str (dD (kvm src1)).shown, .str (dD (kvm src2)).shown]) nlj
        have h_lj : upd H8 lj (.lst [.str (dD (kvm src1)).shown, .str (dD (kvm src2)).shown]) lj = some (.lst [.str (dD (kvm src1)).shown, .str (dD (kvm src2)).shown]) := upd_same
        generalize upd H8 lj (.lst [.str (dD (kvm src1)).shown, .str (dD (kvm src2)).shown]) = H9 at *
        replace hp1 := s' _ _ hp1
        replace hp2 := s' _ _ hp2
        replace sA := same_trans sA s'
        replace h_lk := s' _ _ h_lk
        replace zx := zx.same s'
        replace fB := same_trans fB s'
        clear s'
        refine ⟨_, rfl, ⟨lj, lk, _, _, rfl, rfl, h_lj, h_lk, flat_self (fun v hv => by
          simp only [List.mem_cons, List.not_mem_nil, or_false] at hv
          rcases hv with rfl | rfl <;> exact flat_str _) _⟩, fun H10 s10 => ⟨_, rfl, iteF ?_⟩⟩
        replace s10 : Same H9 H10 := s10
        clear h_lj
        replace hp1 := s10 _ _ hp1
        replace hp2 := s10 _ _ hp2
        replace sA := same_trans sA s10
        replace h_lk := s10 _ _ h_lk
        replace zx := zx.same s10
        replace fB := same_trans fB s10
        clear s10 h_lk
        -- sizes != Sizes(reversed)
        refine ⟨_, rfl, _, rfl, p1, _, rfl, hp1, fun H1 pa ts1 e1 _ _ _ h_pa pr1 => ?_⟩
        replace e1 : Same H10 H1 := e1
        replace hp1 := e1 _ _ hp1
        replace hp2 := e1 _ _ hp2
        replace sA := same_trans sA e1
        replace zx := zx.same e1
        replace fB := same_trans fB e1
        clear e1
        refine ⟨pa, _, rfl, SqL.of h_pa, fun p6 np6 => ?_⟩
        rw [← List.map_reverse]
        have s' := same_new (o := .lst (ts1.reverse.map V.ref)) np6
        have h_p6 : upd H1 p6 (.lst (ts1.reverse.map V.ref)) p6 = some (.lst (ts1.reverse.map V.ref)) := upd_same
        generalize upd H1 p6 (.lst (ts1.reverse.map V.ref)) = H2 at *
        replace hp1 := s' _ _ hp1
        replace hp2 := s' _ _ hp2
        replace sA := same_trans sA s'
        replace zx := zx.same s'
        replace fB := same_trans fB s'
        replace pr1 := paired_up s' pr1
        clear s'
        refine ⟨p6, ts1.reverse, kvm src1.reverse, rfl, SqL.of h_p6, by
          have := paired_rev (paired_tup (K := K) pr1)
          rw [show kvm src1.reverse = (kvm src1).reverse from List.map_reverse]
          exact this, fun p7 np7 => ?_⟩
        have ok2 := rev_ok o1
        rw [merge_kvm, putsS_id ok2.1]
        clear pr1 h_p6 h_pa
        have s' := same_new (o := .dK (kvm src1.reverse)) np7
        have h_p7 : upd H2 p7 (.dK (kvm src1.reverse)) p7 = some (.dK (kvm src1.reverse)) := upd_same
        generalize upd H2 p7 (.dK (kvm src1.reverse)) = H3 at *
        replace hp1 := s' _ _ hp1
        replace hp2 := s' _ _ hp2
        replace sA := same_trans sA s'
        replace zx := zx.same s'
        replace fB := same_trans fB s'
        clear s'
        refine r_nil ?_
        refine mk_sz (F := fun _ => none) (fun _ _ e => nomatch e) (.inl h_p7) ok2 fun x2 F2 H4 g2 z2 => ?_
        replace z2 : SzAt K H4 x2 (canon src1.reverse) := z2.same g2.fh
        replace g2 := g2.hh
        replace hp1 := g2 _ _ hp1
        replace hp2 := g2 _ _ hp2
        replace sA := same_trans sA g2
        replace zx := zx.same g2
        replace fB := same_trans fB g2
        replace h_p7 := g2 _ _ h_p7
        clear g2 h_p7
        rw [canon_ext ok2.1 o1.1 (val_rev o1.1)] at z2
        obtain ⟨dx, _, _, i1, _, _⟩ := id zx
        obtain ⟨dy, _, _, j1, _, _⟩ := id z2
        refine ⟨x, dx, _, _, rfl, i1, tyIns T.cl_Sizes T.kc_Sizes j1, notFirst_self, x, canon src1, _, rfl, zx, .inl ⟨x2, canon src1, rfl, z2, _, rfl, _, rfl, ?_⟩⟩
        rw [eqDI_self cm.nd]
        refine iteF ?_
        clear i1 j1 z2
        -- one["conn"] = 77
        refine ⟨_, rfl, p1, _, rfl, DPut.k (k := Sum.inr "conn") hp1 (by rw [kvm_len]; omega), ?_⟩
        replace sA := same_mut (p := p1) (o := .dK (putK (kvm src1) (Sum.inr "conn") (.int 77))) sA Hp1
        replace fB := same_mut (p := p1) (o := .dK (putK (kvm src1) (Sum.inr "conn") (.int 77))) fB off1
        generalize upd H4 p1 (.dK (putK (kvm src1) (Sum.inr "conn") (.int 77))) = H5 at *
        replace zx := zF.same fB
        clear hp1 hp2 fB
        -- sizes != Sizes(dict([..]))
        obtain ⟨dx, _, _, i1, _, _⟩ := id zx
        refine ⟨_, rfl, _, rfl, x, dx, _, rfl, i1, rfl, r_nil ⟨x, canon src1, rfl, zx, fun nl nnl => ?_⟩⟩
        clear i1
        have s' := same_new (o := .lst (((canon src1).map (·.1)).map V.str)) nnl
        have h_nl : upd H5 nl (.lst (((canon src1).map (·.1)).map V.str)) nl = some (.lst (((canon src1).map (·.1)).map V.str)) := upd_same
        generalize upd H5 nl (.lst (((canon src1).map (·.1)).map V.str)) = H6 at *
        replace sA := same_trans sA s'
        replace zx := zx.same s'
        clear s'
        refine ⟨nl, rfl, ⟨_, SqL.of h_nl⟩, fun D3 hD3 => lc_gw (walk_list (xs := ((canon src1).map (·.1)).map V.str)) (fun _ => true) (fun i y F => ∃ t, y = V.ref t ∧ F t = some (.tup [.str (((canon src1).map (·.1)).getD i ""), .int (val (canon src1) (((canon src1).map (·.1)).getD i ""))])) (fun i y A B s => fun ⟨t, e, h⟩ => ⟨t, e, s _ _ h⟩) (same_refl _) hD3 (by rw [List.length_map, List.length_map]; omega) (fun H' s' => SqL.of (s' _ _ h_nl)) ?lcs3 ?lcd3⟩
        case lcs3 =>
          rintro i xv F2 H3 H4 Qn Qs hi gw2 ⟨rfl, e⟩ qn' qs'
          obtain ⟨y, ey1, rfl⟩ := names_at e
          rw [getD_at ey1] at qn'
          replace zx := zx.same gw2.hh
          obtain ⟨dx, _, _, i1, _, _⟩ := id zx
          refine ⟨rfl, yes_then ?_⟩
          exact ⟨_, rfl, _, rfl, _, rfl, x, dx, _, rfl, i1, x, canon src1, _, rfl, zx, .inl ⟨y, rfl, by show 2 ≤ sizeLine; decide, fun t ht => qn' rfl _ _ _ (Gw.add gw2.fh ht) ⟨t, rfl, upd_same⟩⟩⟩
        case lcd3 =>
          intro zs3 F3 H7 gw3 fD3 hH3 pr3
          rw [List.length_map, filter_true] at pr3
          obtain ⟨ps3, rfl, pr4⟩ := rows_of (K := K) (g := fun i => (((canon src1).map (·.1)).getD i "", val (canon src1) (((canon src1).map (·.1)).getD i ""))) gw3.fh pr3
          refine ⟨D3, ps3, _, rfl, SqL.of hH3, pr4, fun r hr => ?_⟩
          have tk3 : ((canon src1).map (·.1)).map (fun y => (y, val (canon src1) y)) = canon src1 := by
            rw [List.map_map]
            refine (List.map_congr_left fun p hp => ?_).trans (List.map_id _)
            show (p.1, val (canon src1) p.1) = p
            rw [val_mem cm.nd hp]
          rw [merge_kvm, range_map ((canon src1).map (·.1)) _ (fun y => (y, val (canon src1) y)) (fun i y e1 => by rw [getD_at e1]), tk3, putsS_id cm.nd]
          replace gw3 := gw3.hh
          replace sA := same_trans sA gw3
          replace zx := zx.same gw3
          replace h_nl := gw3 _ _ h_nl
          clear gw3
          have s' := same_new (o := .dK (kvm (canon src1))) hr
          have h_r : upd H7 r (.dK (kvm (canon src1))) r = some (.dK (kvm (canon src1))) := upd_same
          generalize upd H7 r (.dK (kvm (canon src1))) = H8 at *
          replace sA := same_trans sA s'
          replace zx := zx.same s'
          replace h_nl := s' _ _ h_nl
          clear s'
          refine r_nil ?_
          refine mk_sz (F := fun _ => none) (fun _ _ e => nomatch e) (.inl h_r) cm.ok fun x2 F2 H9 g2 z2 => ?_
          replace z2 : SzAt K H9 x2 (canon (canon src1)) := z2.same g2.fh
          replace g2 := g2.hh
          replace sA := same_trans sA g2
          replace zx := zx.same g2
          replace h_nl := g2 _ _ h_nl
          replace h_r := g2 _ _ h_r
          rw [cm.eq] at z2
          obtain ⟨dx, _, _, i1, _, _⟩ := id zx
          obtain ⟨dy, _, _, j1, _, _⟩ := id z2
          refine ⟨x, dx, _, _, rfl, i1, tyIns T.cl_Sizes T.kc_Sizes j1, notFirst_self, x, canon src1, _, rfl, zx, .inl ⟨x2, canon src1, rfl, z2, _, rfl, _, rfl, ?_⟩⟩
          rw [eqDI_self cm.nd]
          exact iteF ⟨_, _, _, _, _, _, _, _, _, rfl, sA⟩
theorem bd_law {K : PySem.W.Frag} {mg : Str → Option Value} (T : Tx K mg) : Binds K (D_law K) ["_law_script"] [] := T.F_law.bindsN fun _ _ _ _ _ _ us hl => match us, hl with | [_], _ => rfl
end
end Lp

set_option Elab.async false
set_option linter.all false
set_option maxRecDepth 100000
namespace Lp
open PySem PySem.Spec PyProof.Rows L2
abbrev R : PySem.W.OpenRow := PySem.W.OpenLaw.row PySem.Challenge.rw_leastpools_k01_sizes_told
abbrev hk : PySem.W.Hook := hookM 5 exB fnL
def ob (s : PySem.W.SharedT) : He.AlD := obsMG 5 exB fnL (HandSHeadRun.getT s)
theorem ob_eq (s : PySem.W.SharedT) : ob s = hk.obs s.abs := obsMG_eq (HandSHeadRun.getT_eq s)
def names : List PySem.Str := (["__name__", "PoolError", "InvalidSizes", "NotEnough", "LETTERS", "MOST_LETTERS", "is_word", "is_integer", "are_amounts", "Sizes", "check_sizes", "_law_draws", "_law_draw", "_law_amounts", "_law_plain", "_law_minus", "_law_due", "_law_told_right", "_law_two_right"] : List PySem.Str)
set_option maxHeartbeats 0 in
theorem run (w : World) : HandSHeadRun.RunEq R (PySem.W.view R.prog [21]) hk ob 40000 names w := by
  intro os
  kernel_rfl
end Lp
open PySem PySem.W PySem.Calls PyProof.Rows
set_option maxHeartbeats 0 in
theorem PySem.Challenge.cw_leastpools_k01_sizes_told_holds : PySem.Challenge.rw_leastpools_k01_sizes_told.Holds := by
  w_on; o_law
  refine HandSHeadRun.head_any (r := OpenLaw.row PySem.Challenge.rw_leastpools_k01_sizes_told) (q := view (OpenLaw.row PySem.Challenge.rw_leastpools_k01_sizes_told).prog [21]) (H := Lp.hk) (ob := Lp.ob) (M := 40000) (loose := Lp.names) (d := HandSHeadRun.topDef (OpenLaw.row PySem.Challenge.rw_leastpools_k01_sizes_told).prog 21) (kwd := []) Lp.ob_eq
    (by kernel_rfl) (fun s => by kernel_rfl) Lp.run (by kernel_rfl) (by kernel_rfl) (by kernel_rfl) (by rfl) (by first | assumption | decide +kernel) (by decide +kernel) ⟨rfl, rfl, rfl, rfl, rfl, by decide +kernel⟩ ?hw ?hc
  case hw => w_witness2
  case hc =>
    refine Lp.walk_G (l := PySem.Challenge.rw_leastpools_k01_sizes_told) (n := 63) (k := 8) (x := "_law_script") (CX := L2.CX0) rfl (by decide) (by kernel_rfl) ⟨rfl, by decide, by decide⟩ ?F (fun _ _ _ _ z => z)
    intro w mg fa h Y G hmg0
    obtain ⟨K, KX, c⟩ := Y
    have T := Lp.tx_of KX G c
    have hmg : mg ("law" : PySem.Str) = some (.ref fa) := by
      have e : (HandSHeadRun.topDef (OpenLaw.row PySem.Challenge.rw_leastpools_k01_sizes_told).prog 21).name = ("law" : PySem.Str) := by kernel_rfl
      rw [← e]
      exact hmg0
    have e := hmg.symm.trans T.m_law
    cases e
    exact ⟨K, Lp.D_law K, Lp.spLaw K, KX, fun s v => L2.FunD.bindsA (ps := ["_law_script"]) T.F_law (fun _ _ _ _ _ _ us hl => match us, hl with | [_], _ => rfl) s [v] rfl, fun H a ns hl hS => ⟨a, ns, rfl, hS, hl, fun _ => rfl⟩, fun base _ _ => Lp.ok_law T⟩
#print axioms PySem.Challenge.cw_leastpools_k01_sizes_told_holds
