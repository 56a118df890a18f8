import PyProof.Rows.All
import Wide.All
import OpenK.AllK
import Wide.FinOn
import HandS.ForExc
import HandS.ExcInit
import HandS.ExcField
import HandS.ExcIs
import HandS.IsInst
import HandS.TryMany
import HandS.Defaults
import KE.KExcIs
import HandS.ForMost
import KE.GoesZip
import KE.GoesMore
import KE.GoesEnum
import KE.KItemsList
import KE.KDictZip
import HandS.ExcValue
import HandS.ExcOwn
import HandS.HeadHook1
import HandS.HeadHook2
import PySem.Challenge.RW_throughdoors_k99_whole_errors
import HandS.Conv
import KE.KStateDown
import Lean
import HandS.Head0
import HandS.Head1
import HandS.Head2
import HandS.HeadEnd
set_option Elab.async false
set_option linter.all false
set_option maxRecDepth 100000
set_option maxHeartbeats 4000000
/-! Own exception classes over ValueError (through an own base class): called with keywords, held as values, asked for fields and classes; a try with several named clauses. -/
namespace PySem
namespace ErA
open PySem.W PySem.Calls PyProof.Rows PySem.HandSPX
section
variable {M : Model} {A : Around} {E : Value → Shared → Prop} {h : Heap} {g : Array GenState} {d : Drawn} {t : Nat} {os : OsState}
variable {nm q : Str} {C N : Addr} {bs bm bmB : List Value} {hdct : Bool} {sn : List Str} {sub : List Value} {ab : Bool} {col : Option Bool} {dd : Option Addr} {k0 k1 k2 k3 k5 : Option Value} {B newId initId : String}
/-- the look at a call of the base's maker, keywords and all -/
theorem newLook (F : ExcBaseFacts B newId initId bmB) (hT : ∀ X : String, bm.contains (.type X) = bmB.contains (.type X)) {rest : List Value} {kw : List (Str × Value)} {Q : Unit → Shared → Prop}
    (hC : h.get? C = some (excClassObj nm q C N bs bm hdct sn sub ab col dd k0 k1 k2 k3 k5 newId)) (hq : Q () ⟨h, g, d, t, os⟩) : wpAny M A (checkBuiltinCall newId ⟨.ref C :: rest, kw⟩) Q E ⟨h, g, d, t, os⟩ := by
  have cB : (Value.ref C :: bm).contains (.type B) = true := by rw [List.contains_cons, hT, F.hasB, Bool.or_true]
  have st := F.noStar
  simp only [checkBuiltinCall, F.newKind, F.newSplit, F.newRow]
  repeat (first | refine wpAny_loadPart_at hC ?_ | (refine wpAny_isSubtype_exc hC ?_; rw [cB]) | refine wpAny_staticBase_exc hC ?_ | refine wpAny_madeBy_exc hC ?_ | simp only [bne_self_eq_false, Bool.false_eq_true, if_false] | wp_step)
  exact hq
end
section
variable {prog : Program} {w : World} {A : Around} {E : Value → Shared → Prop} {R : Result → Shared → Prop} {h : Heap} {g : Array GenState} {d : Drawn} {t : Nat} {os : OsState}
variable {nm q : Str} {C N : Addr} {bs bm bmB : List Value} {hdct : Bool} {sn : List Str} {sub : List Value} {ab : Bool} {col : Option Bool} {dd : Option Addr} {k0 k1 k2 k3 k5 : Option Value} {B newId initId : String}
/-- the maker itself: the keywords are passed over -/
theorem newRun (F : ExcBaseFacts B newId initId bmB) (hT : ∀ X : String, bm.contains (.type X) = bmB.contains (.type X)) {rest : List Value} {kw : List (Str × Value)}
    (hC : h.get? C = some (excClassObj nm q C N bs bm hdct sn sub ab col dd k0 k1 k2 k3 k5 newId))
    (hq : R (.ok (.ret (.ref (h.objs.size + 1)))) ⟨(h.push (kdv_tup rest)).push (excO C h.objs.size), g, d, t, os⟩) (hrest : rest.length ≤ sizeLine) :
    codeAny (model prog w) A (.builtin newId ⟨.ref C :: rest, kw⟩) R ⟨h, g, d, t, os⟩ := by
  have e8 := F.ends
  have cB : (Value.ref C :: bm).contains (.type B) = true := by rw [List.contains_cons, hT, F.hasB, Bool.or_true]
  have cA : (Value.ref C :: bm).contains (.type "AttributeError") = false := by rw [List.contains_cons, hT, F.noAttr]; rfl
  have cN : (Value.ref C :: bm).contains (.type "NameError") = false := by rw [List.contains_cons, hT, F.noName]; rfl
  refine codeAny_builtinAt F.entry ?_
  unfold Builtin.«BaseException.__new__»
  refine wpAt_bind ?_
  show wpAt _ _ _ (stack >>= _) _ _ _
  refine wpAt_bind (wpAt_stack fun p below => wpAt_of_wpAny ?_)
  wp_walk
  refine wpAt_of_wpAny ?_
  rw [F.owner]
  repeat (first | with_reducible refine wpAny_madeHere_exc F.canon hC ?_ | with_reducible refine wpAny_loadPart_at hC ?_ | (with_reducible refine wpAny_isSubtype_exc hC ?_; first | rw [cB] | rw [cA] | rw [cN]) | wp_step)
  show R _ _
  rw [Heap.size_push]
  exact hq

theorem typeRun (F : ExcBaseFacts B newId initId bmB) (hT : ∀ X : String, bm.contains (.type X) = bmB.contains (.type X)) {rest : List Value} {kw : List (Str × Value)} {fI : Addr} {Q : Fin → Shared → Prop}
    (hC : h.get? C = some (excClassObj nm q C N bs bm hdct sn sub ab col dd k0 k1 k2 k3 k5 newId))
    (hi : W.Looks (model prog w) h (typeLookup (.ref C) "__init__") (some (.ref fI))) (hb : ∀ self, W.Looks (model prog w) h (bindSpecial (.ref fI) self) (.ref fI, [self])) (hrest : rest.length ≤ sizeLine)
    (hq : codeAny (model prog w) A (.call (.ref fI) ⟨.ref (h.objs.size + 1) :: rest, kw⟩)
      (fun r s' => match r with | .ok (.ret v) => v = .none ∧ Q (.done (.ret (.ref (h.objs.size + 1)))) s' | .ok _ => False | .error e => E e s')
      ⟨(h.push (kdv_tup rest)).push (excO C h.objs.size), g, d, t, os⟩) :
    wpAny (model prog w) A (Builtin.«type.__call__» ⟨.ref C :: rest, kw⟩) Q E ⟨h, g, d, t, os⟩ := by
  repeat (first | with_reducible refine wpAny_loadPart_at hC ?_ | with_reducible refine wpAny_madeBy_exc hC ?_ | wp_step)
  refine codeAny_call_builtin_code (Code.quiet_builtin _ F.quiet) (newLook F hT hC ?_)
  refine newRun F hT hC ?_ hrest
  show wpAny _ _ _ _ _ _
  have k : ∀ b o, h.get? b = some o → ((h.push (kdv_tup rest)).push (excO C h.objs.size)).get? b = some o := fun b o e => Heap.get?_push_of_some _ (Heap.get?_push_of_some _ e)
  have hC₁ := k _ _ hC
  have hget : ((h.push (kdv_tup rest)).push (excO C h.objs.size)).get? (h.objs.size + 1) = some (excO C h.objs.size) := by heap_get
  have cC : (Value.ref C :: bm).contains (.ref C) = true := by simp
  have i1 := hi.keeps k
  have b1 := (hb (.ref (h.objs.size + 1))).keeps k
  unfold isInstance
  repeat (first | with_reducible refine wpAny_loadPart_at hget ?_ | (with_reducible refine wpAny_isSubtype_exc hC₁ ?_; rw [cC]) | wp_step)
  show wpAny _ _ (typeLookup (.ref C) _) _ _ _
  refine i1.at ?_
  refine wpAny_holding (wpAny_bind (b1.at ?_))
  refine wpAny_bind (wpAny_call (codeAny_mono hq fun r s' z => ?_))
  rcases r with e | (v | _ | _ | _) <;> first | exact z | exact z.elim | skip
  obtain ⟨rfl, z⟩ := z
  first
    | exact wpAny_pure (wpAny_pure z)
    | (wp_walk; exact z)

/-- C(.., k = v, ..): the base's maker, then C's own __init__ -/
theorem callRun (F : ExcBaseFacts B newId initId bmB) (hT : ∀ X : String, bm.contains (.type X) = bmB.contains (.type X)) {rest : List Value} {kw : List (Str × Value)} {fI : Addr}
    (hC : h.get? C = some (excClassObj nm q C N bs bm hdct sn sub ab col dd k0 k1 k2 k3 k5 newId))
    (hi : W.Looks (model prog w) h (typeLookup (.ref C) "__init__") (some (.ref fI))) (hb : ∀ self, W.Looks (model prog w) h (bindSpecial (.ref fI) self) (.ref fI, [self])) (hrest : rest.length ≤ sizeLine)
    (hq : codeAny (model prog w) (A.under (.builtin "type.__call__" ⟨.ref C :: rest, kw⟩)) (.call (.ref fI) ⟨.ref (h.objs.size + 1) :: rest, kw⟩) (W.InitBack (h.objs.size + 1) R)
      ⟨(h.push (kdv_tup rest)).push (excO C h.objs.size), g, d, t, os⟩) :
    codeAny (model prog w) A (.call (.ref C) ⟨rest, kw⟩) R ⟨h, g, d, t, os⟩ := by
  have f1 := tc_lookup
  have f2 := tc_bind (.ref C)
  have hTy : (⟨h, g, d, t, os⟩ : Shared).TypeIs (.ref C) "type" := ⟨_, hC, rfl⟩
  refine codeAny_of_tree ?_
  show wpAny _ _ (callAny (.ref C) _) _ _ _
  repeat (any_goals (first | assumption | with_reducible refine wpAny_loadPart_at hC ?_ | wp_step))
  refine ⟨rfl, ?_⟩
  have typ : W.Looks (model prog w) h (isInstance (.ref C) (.type "type")) true := fun A Q E s k z => by
    obtain ⟨h1, g1, d1, t1, o1⟩ := s
    have f3 := tc_sub
    have hC1 := k _ _ hC
    have hTy1 : (⟨h1, g1, d1, t1, o1⟩ : Shared).TypeIs (.ref C) "type" := ⟨_, hC1, rfl⟩
    unfold isInstance
    repeat (any_goals (first | assumption | with_reducible refine wpAny_loadPart_at hC1 ?_ | wp_step))
  refine codeAny_call_builtin_at (Code.quiet_builtin _ (by decide +kernel)) entry_typeCall (W.check_slot tc_kind tc_split typ (W.tc_args _ _ _) (typeRun F hT hC hi hb hrest ?_))
  refine codeAny_mono hq fun r s' z => ?_
  rcases r with e | (v | _ | _ | _) <;> exact z
end
end ErA
end PySem

set_option Elab.async false
set_option linter.all false
set_option maxRecDepth 100000
set_option maxHeartbeats 4000000
/-! list(zip(x, y)) of two lists or tuples: every tuple given out stays held by the list that grows. -/
namespace PySem
namespace ZipL
open Sem (wp)
open PySem.W PySem.Calls PyProof.Rows
section
variable {prog : Program} {w : World} {A : Around} {E : Value → Shared → Prop} {s : Shared} {z TI TO i1 i2 T : Addr} {f : Bool} {oT : Obj} {fp1 fp2 : List Addr} {n1 n2 i : Nat} {P1 P2 : Nat → Value → Prop} {St1 St2 : Nat → Heap → Prop}
theorem heldItem {Q : Value → Shared → Prop} (S : ZipSep2 z TI TO i1 i2 fp1 fp2) (D1 : Draws prog w A i1 fp1 n1 P1 St1) (D2 : Draws prog w A i2 fp2 n2 P2 St2)
    (hz : IsZipHeld s.heap z TI TO T f) (hT : s.heap.get? T = some oT) (hTI : IsTupOf2 s.heap TI (.ref i1) (.ref i2)) (st1 : St1 i s.heap) (st2 : St2 i s.heap) (l1 : i < n1) (l2 : i < n2)
    (hQ : ∀ x1 x2 h' tk, P1 i x1 → P2 i x2 → IsZipHeld h' z TI TO T true → St1 (i + 1) h' → St2 (i + 1) h' → IsTupOf2 h' s.heap.objs.size x1 x2 → h'.objs.size = s.heap.objs.size + 1 →
      (∀ c o, c ≠ z → c ≠ i1 → c ≠ i2 → s.heap.get? c = some o → h'.get? c = some o) → Q (.ref s.heap.objs.size) { s with heap := h', toks := tk }) :
    wpAny (model prog w) A (Builtin.«zip.__next__» ⟨[.ref z], []⟩) (fun fin s' => ∃ v, fin = .done (.ret v) ∧ Q v s') E s := by
  obtain ⟨hp, g, d, tk0, os⟩ := s
  show wpAny _ _ (field (.ref z) 2 >>= _) _ _ _
  refine wpAny_bind (wpAny_field hz rfl (x := .bool false) rfl ?_)
  show wpAny _ _ (field (.ref z) 3 >>= _) _ _ _
  refine wpAny_bind (wpAny_field hz rfl (x := .ref TI) rfl ?_)
  refine wpAny_bind (wpAny_seqItems hTI rfl ?_)
  show wpAny _ _ (Builtin.SmallTypes.ownedTupleIsFree (.ref z) >>= _) _ _ _
  refine wpAny_bind (wpAny_tupleHeld_zip hz hT fun h₁ hz₁ hs₁ => ?_)
  replace hs₁ : Heap.SameBut z hp h₁ := hs₁
  simp only [Bool.false_eq_true, if_false]
  refine wpAny_bind ?_
  rw [← Array.forIn_toList]
  simp only [List.forIn_cons, List.forIn_nil]
  refine wpAny_bind (wpAny_bind (wpAny_holding ?_))
  show wpAny _ _ (Builtin.SmallTypes.nextOf (.ref i1) >>= _) _ _ ⟨h₁, g, d, tk0, os⟩
  refine wpAny_bind (D1.item i _ _ _ l1 (D1.over st1 hs₁ S.zf1) fun x1 p1 tk1 hx1 sn1 hp1 => wpAny_pure ?_)
  replace hp1 : Heap.SameBut i1 h₁ p1 := hp1
  refine wpAny_pure ?_
  refine wpAny_bind (wpAny_bind (wpAny_holding ?_))
  show wpAny _ _ (Builtin.SmallTypes.nextOf (.ref i2) >>= _) _ _ ⟨p1, g, d, tk1, os⟩
  refine wpAny_bind (D2.item i _ _ _ l2 (D2.over (D2.over st2 hs₁ S.zf2) hp1 S.sep1_2) fun x2 p2 tk2 hx2 sn2 hp2 => wpAny_pure ?_)
  replace hp2 : Heap.SameBut i2 p1 p2 := hp2
  refine wpAny_pure (wpAny_pure ?_)
  show wpAny _ _ (newTuple [x1, x2] >>= _) _ _ _
  refine wpAny_bind (wpAny_newTuple ?_)
  have hsz : p2.objs.size = hp.objs.size := by rw [hp2.1, hp1.1, hs₁.1]
  have hz2 : IsZipHeld p2 z TI TO T true := hp2.extBut _ _ S.zi2 (hp1.extBut _ _ S.zi1 hz₁)
  have hk : ∀ c o, c ≠ z → c ≠ i1 → c ≠ i2 → hp.get? c = some o → p2.get? c = some o := fun c o c1 c2 c3 e => hp2.extBut _ _ c3 (hp1.extBut _ _ c2 (hs₁.extBut _ _ c1 e))
  have j1 : St1 (i + 1) p2 := D1.over sn1 hp2 S.sep2_1
  refine wpAny_pure ⟨_, rfl, ?_⟩
  show Q (.ref p2.objs.size) _
  have hn : IsTupOf2 (p2.push { cls := .type "tuple", data := .seq #[x1, x2] }) p2.objs.size x1 x2 := Heap.get?_push_size _ rfl
  have h4 : (p2.push { cls := .type "tuple", data := .seq #[x1, x2] }).objs.size = p2.objs.size + 1 := Heap.size_push ..
  rw [hsz] at hn h4 ⊢
  exact hQ x1 x2 _ tk2 hx1 hx2 (Heap.get?_push_of_some _ hz2) (D1.frame _ _ _ j1 fun b _ o e => Heap.get?_push_of_some _ e) (D2.frame _ _ _ sn2 fun b _ o e => Heap.get?_push_of_some _ e) hn h4 fun c o c1 c2 c3 e => Heap.get?_push_of_some _ (hk c o c1 c2 c3 e)
theorem heldEnd {Q : Fin → Shared → Prop} (S : ZipSep2 z TI TO i1 i2 fp1 fp2) (D1 : Draws prog w A i1 fp1 n1 P1 St1)
    (hz : IsZipHeld s.heap z TI TO T f) (hT : s.heap.get? T = some oT) (hTI : IsTupOf2 s.heap TI (.ref i1) (.ref i2)) (st1 : St1 n1 s.heap)
    (hE : ∀ h' e, (∀ c o, c ≠ z → c ≠ i1 → c ≠ i2 → s.heap.get? c = some o → h'.get? c = some o) → (∃ o, h'.get? e = some o ∧ o.cls = .type "StopIteration") → E (.ref e) { s with heap := h' }) :
    wpAny (model prog w) A (Builtin.«zip.__next__» ⟨[.ref z], []⟩) Q E s := by
  obtain ⟨hp, g, d, tk0, os⟩ := s
  show wpAny _ _ (field (.ref z) 2 >>= _) _ _ _
  refine wpAny_bind (wpAny_field hz rfl (x := .bool false) rfl ?_)
  show wpAny _ _ (field (.ref z) 3 >>= _) _ _ _
  refine wpAny_bind (wpAny_field hz rfl (x := .ref TI) rfl ?_)
  refine wpAny_bind (wpAny_seqItems hTI rfl ?_)
  show wpAny _ _ (Builtin.SmallTypes.ownedTupleIsFree (.ref z) >>= _) _ _ _
  refine wpAny_bind (wpAny_tupleHeld_zip hz hT fun h₁ hz₁ hs₁ => ?_)
  replace hs₁ : Heap.SameBut z hp h₁ := hs₁
  simp only [Bool.false_eq_true, if_false]
  refine wpAny_bind ?_
  rw [← Array.forIn_toList]
  simp only [List.forIn_cons, List.forIn_nil]
  refine wpAny_bind (wpAny_bind (wpAny_holding ?_))
  show wpAny _ _ (Builtin.SmallTypes.nextOf (.ref i1) >>= _) _ _ ⟨h₁, g, d, tk0, os⟩
  refine wpAny_bind (D1.done ⟨h₁, g, d, tk0, os⟩ _ _ (D1.over st1 hs₁ S.zf1) fun q e hq he => ?_)
  replace hq : Heap.ExtBut i1 h₁ q := hq
  exact hE q e (fun c o c1 c2 _ x => hq _ _ c2 (hs₁.extBut _ _ c1 x)) he
theorem nextHeld {Q : Option Value → Shared → Prop} (S : ZipSep2 z TI TO i1 i2 fp1 fp2) (D1 : Draws prog w A.in1 i1 fp1 n1 P1 St1) (D2 : Draws prog w A.in1 i2 fp2 n2 P2 St2)
    (hz : IsZipHeld s.heap z TI TO T f) (hT : s.heap.get? T = some oT) (hTI : IsTupOf2 s.heap TI (.ref i1) (.ref i2)) (st1 : St1 i s.heap) (st2 : St2 i s.heap) (l1 : i < n1) (l2 : i < n2)
    (hQ : ∀ x1 x2 h' tk, P1 i x1 → P2 i x2 → IsZipHeld h' z TI TO T true → St1 (i + 1) h' → St2 (i + 1) h' → IsTupOf2 h' s.heap.objs.size x1 x2 → h'.objs.size = s.heap.objs.size + 1 →
      (∀ c o, c ≠ z → c ≠ i1 → c ≠ i2 → s.heap.get? c = some o → h'.get? c = some o) → Q (some (.ref s.heap.objs.size)) { s with heap := h', toks := tk }) :
    wpAny (model prog w) A (pyNext (.ref z)) Q E s := by
  have hTy : s.TypeIs (.ref z) "zip" := ⟨_, hz, rfl⟩
  unfold pyNext
  exact wpAny_bind (wpAny_attempt (wpAny_callSpecial?_slot (name := Str.ofString "__next__") hTy F.slot_zip_next
    (wpAny_call_entry F.slot_zip_next hTy F.entry_zip_next
      (heldItem S D1 D2 hz hT hTI st1 st2 l1 l2 fun x1 x2 h' tk a1 a2 a3 a4 a5 a6 a7 a8 => wpAny_pure (hQ x1 x2 h' tk a1 a2 a3 a4 a5 a6 a7 a8)) (F.args_zip_next_1 _))))
theorem doneHeld {Q : Option Value → Shared → Prop} (S : ZipSep2 z TI TO i1 i2 fp1 fp2) (D1 : Draws prog w A.in1 i1 fp1 n1 P1 St1)
    (hz : IsZipHeld s.heap z TI TO T f) (hT : s.heap.get? T = some oT) (hTI : IsTupOf2 s.heap TI (.ref i1) (.ref i2)) (st1 : St1 n1 s.heap)
    (hQ : ∀ h', (∀ c o, c ≠ z → c ≠ i1 → c ≠ i2 → s.heap.get? c = some o → h'.get? c = some o) → Q none { s with heap := h' }) : wpAny (model prog w) A (pyNext (.ref z)) Q E s := by
  have hTy : s.TypeIs (.ref z) "zip" := ⟨_, hz, rfl⟩
  unfold pyNext
  refine wpAny_bind (wpAny_attempt (wpAny_callSpecial?_slot (name := Str.ofString "__next__") hTy F.slot_zip_next
    (wpAny_call_entry F.slot_zip_next hTy F.entry_zip_next (heldEnd S D1 hz hT hTI st1 fun h' e hk he => ?_) (F.args_zip_next_1 _))))
  obtain ⟨o, ho, hc⟩ := he
  refine wpAny_bind (wpAny_isInstance (T := "StopIteration") (b := true) ⟨o, ho, hc⟩ isSubtype_stop ?_)
  exact wpAny_pure (hQ _ hk)
end

/-- a zip's own state while a list at S takes its tuples: none given out as yet, or the last one still stands -/
def ZSt (h : Heap) (z TI TO i1 i2 S : Addr) : Prop :=
  (IsZip h z TI TO .none ∧ ∃ a1 a2, IsTupOf2 h TO a1 a2) ∨ ∃ (T : Addr) (f : Bool) (oT : Obj), IsZipHeld h z TI TO T f ∧ h.get? T = some oT ∧ T ≠ z ∧ T ≠ TO ∧ T ≠ i1 ∧ T ≠ i2 ∧ T ≠ S
structure ZsG (P1 P2 : Nat → Value → Prop) (lo : Addr) (h : Heap) (as : List Addr) : Prop where
  above : ∀ a ∈ as, lo < a
  pairs : ∀ (j : Nat) (a : Addr), as[j]? = some a → ∃ x y, P1 j x ∧ P2 j y ∧ h.get? a = some { cls := .type "tuple", data := .seq #[x, y] }
section
variable {prog : Program} {w : World} {A : Around} {s : Shared} {R : Result → Shared → Prop} {z TI TO i1 i2 S : Addr} {fp1 fp2 : List Addr} {n : Nat} {P1 P2 : Nat → Value → Prop} {St1 St2 : Nat → Heap → Prop}
theorem zNext {i : Nat} {E : Value → Shared → Prop} {Q : Option Value → Shared → Prop} (Z : ZipSep2 z TI TO i1 i2 fp1 fp2) (D1 : Draws prog w A.in1 i1 fp1 n P1 St1) (D2 : Draws prog w A.in1 i2 fp2 n P2 St2) (hS : S < s.heap.objs.size)
    (hst : ZSt s.heap z TI TO i1 i2 S) (hTI : IsTupOf2 s.heap TI (.ref i1) (.ref i2)) (st1 : St1 i s.heap) (st2 : St2 i s.heap) (l1 : i < n)
    (hQ : ∀ x1 x2 h' tk, P1 i x1 → P2 i x2 → ZSt h' z TI TO i1 i2 S → IsTupOf2 h' TI (.ref i1) (.ref i2) → St1 (i + 1) h' → St2 (i + 1) h' → IsTupOf2 h' s.heap.objs.size x1 x2 → h'.objs.size = s.heap.objs.size + 1 →
      (∀ c o, c ≠ z → c ≠ TO → c ≠ i1 → c ≠ i2 → s.heap.get? c = some o → h'.get? c = some o) → Q (some (.ref s.heap.objs.size)) { s with heap := h', toks := tk }) :
    wpAny (model prog w) A (pyNext (.ref z)) Q E s := by
  have lt : ∀ {c o}, s.heap.get? c = some o → s.heap.objs.size ≠ c := fun e => Nat.ne_of_gt (Heap.lt_size e)
  obtain ⟨o1, e1⟩ := D1.live _ _ st1
  obtain ⟨o2, e2⟩ := D2.live _ _ st2
  rcases hst with ⟨hz, a1, a2, hTO⟩ | ⟨T, f, oT, hz, hT, t1, t2, t3, t4, t5⟩
  · exact wpAny_pyNext_zipD2_item Z D1 D2 hz hTI hTO st1 st2 l1 l1 fun x1 x2 h' tk y1 y2 b1 b2 d1 d2 b5 b6 hk =>
      hQ x1 x2 h' tk y1 y2 (.inr ⟨_, false, _, b1, b5, lt hz, lt hTO, lt e1, lt e2, Nat.ne_of_gt hS⟩) (hk _ _ Z.TIz Z.TITO Z.TIi1 Z.TIi2 hTI) d1 d2 b5 b6 hk
  · exact nextHeld Z D1 D2 hz hT hTI st1 st2 l1 l1 fun x1 x2 h' tk y1 y2 b1 d1 d2 b5 b6 hk =>
      hQ x1 x2 h' tk y1 y2 (.inr ⟨T, true, oT, b1, hk _ _ t1 t3 t4 hT, t1, t2, t3, t4, t5⟩) (hk _ _ Z.TIz Z.TIi1 Z.TIi2 hTI) d1 d2 b5 b6 fun c o c1 _ c3 c4 e => hk c o c1 c3 c4 e
theorem zDone {E : Value → Shared → Prop} {Q : Option Value → Shared → Prop} (Z : ZipSep2 z TI TO i1 i2 fp1 fp2) (D1 : Draws prog w A.in1 i1 fp1 n P1 St1) (D2 : Draws prog w A.in1 i2 fp2 n P2 St2)
    (hst : ZSt s.heap z TI TO i1 i2 S) (hTI : IsTupOf2 s.heap TI (.ref i1) (.ref i2)) (st1 : St1 n s.heap) (st2 : St2 n s.heap)
    (hQ : ∀ h' tk, (∀ c o, c ≠ z → c ≠ TO → c ≠ i1 → c ≠ i2 → s.heap.get? c = some o → h'.get? c = some o) → Q none { s with heap := h', toks := tk }) :
    wpAny (model prog w) A (pyNext (.ref z)) Q E s := by
  rcases hst with ⟨hz, a1, a2, hTO⟩ | ⟨T, f, oT, hz, hT, t1, t2, t3, t4, t5⟩
  · exact wpAny_pyNext_zipD2_end Z D1 D2 hz hTI hTO st1 st2 (Nat.le_refl _) (Nat.le_refl _) (.inl rfl) fun h' tk hk => hQ h' tk hk
  · exact doneHeld Z D1 hz hT hTI st1 fun h' hk => hQ h' s.toks fun c o c1 _ c3 c4 e => hk c o c1 c3 c4 e
theorem ZSt.keep {h h' : Heap} (x : ZSt h z TI TO i1 i2 S) (hk : ∀ b o, b ≠ S → h.get? b = some o → h'.get? b = some o) (hz : z ≠ S) (hO : TO ≠ S) : ZSt h' z TI TO i1 i2 S := by
  rcases x with ⟨e, a1, a2, ho⟩ | ⟨T, f, oT, e, hT, t1, t2, t3, t4, t5⟩
  · exact .inl ⟨hk _ _ hz e, a1, a2, hk _ _ hO ho⟩
  · exact .inr ⟨T, f, oT, hk _ _ hz e, hk _ _ t5 hT, t1, t2, t3, t4, t5⟩

/-- what lies below S: the zip, its cells -/
structure Low (z TI TO i1 i2 S : Addr) (fp1 fp2 : List Addr) : Prop where
  z : z < S
  I : TI < S
  O : TO < S
  a : i1 < S
  b : i2 < S
  f1 : ∀ c ∈ fp1, c < S
  f2 : ∀ c ∈ fp2, c < S

theorem zLoop (hh : A.handled = none) (Z : ZipSep2 z TI TO i1 i2 fp1 fp2) (L : Low z TI TO i1 i2 S fp1 fp2) (D1 : Draws prog w A.in1.in1 i1 fp1 n P1 St1) (D2 : Draws prog w A.in1.in1 i2 fp2 n P2 St2) (hn : n ≤ sizeLine) (res : Value) {h₁ : Heap}
    (hR : ∀ h' tk acc c as, (∀ b o, b ≠ S → b ≠ z → b ≠ TO → b ≠ i1 → b ≠ i2 → h₁.get? b = some o → h'.get? b = some o) → h'.get? S = some { cls := .type "list", dict := none, data := .seq acc c, slots := #[] } → as.length = n → ZsG P1 P2 S h' as →
      acc.toList = as.map Value.ref → R (.ok (.ret res)) { s with heap := h', toks := tk }) :
    ∀ (k i : Nat) (h : Heap) (tk c : Nat) (acc : Array Value) (as : List Addr), n - i = k → i ≤ n → ZSt h z TI TO i1 i2 S → IsTupOf2 h TI (.ref i1) (.ref i2) → St1 i h → St2 i h →
      (∀ b o, b ≠ S → b ≠ z → b ≠ TO → b ≠ i1 → b ≠ i2 → h₁.get? b = some o → h.get? b = some o) →
      h.get? S = some { cls := .type "list", dict := none, data := .seq acc c, slots := #[] } → acc.toList = as.map Value.ref → as.length = i → ZsG P1 P2 S h as →
      codeAny (model prog w) A (.builtin "list.extend.loop" ⟨[.ref S, .ref z, res], []⟩) R { s with heap := h, toks := tk } := by
  have nz : S ≠ z := Nat.ne_of_gt L.z
  have nO : S ≠ TO := Nat.ne_of_gt L.O
  have n1 : S ≠ i1 := Nat.ne_of_gt L.a
  have n2 : S ≠ i2 := Nat.ne_of_gt L.b
  intro k
  induction k with
  | zero =>
    intro i h tk c acc as hk hi hst hTI s1 s2 hkeep hS hacc hal hG
    have hin : i = n := by omega
    subst hin
    refine codeAny_builtin PySem.F.entry_extend_loop ?_
    rw [Around.under_plainId PySem.F.plain_extend_loop _]
    show wpAny _ A.in1 (pyNext (.ref z) >>= _) _ _ _
    refine wpAny_bind (zDone (s := { s with heap := h, toks := tk }) (A := A.in1) (S := S) Z D1 D2 hst hTI s1 s2 fun h' tk' he => ?_)
    refine wpAny_pure (hR h' tk' acc c as (fun b o q1 q2 q3 q4 q5 e => he b o q2 q3 q4 q5 (hkeep b o q1 q2 q3 q4 q5 e)) (he S _ nz nO n1 n2 hS) hal ⟨hG.above, fun j a hj => ?_⟩ hacc)
    obtain ⟨x, y, p1, p2, e3⟩ := hG.pairs j a hj
    have ha := hG.above a (List.mem_of_getElem? hj)
    exact ⟨x, y, p1, p2, he a _ (Nat.ne_of_gt (Nat.lt_trans L.z ha)) (Nat.ne_of_gt (Nat.lt_trans L.O ha)) (Nat.ne_of_gt (Nat.lt_trans L.a ha)) (Nat.ne_of_gt (Nat.lt_trans L.b ha)) e3⟩
  | succ k ih =>
    intro i h tk c acc as hk hi hst hTI s1 s2 hkeep hS hacc hal hG
    have hlt : i < n := by omega
    have hsz : acc.size = i := by rw [← Array.length_toList, hacc, List.length_map, hal]
    have hSl : S < h.objs.size := Heap.lt_size hS
    refine codeAny_builtin PySem.F.entry_extend_loop ?_
    rw [Around.under_plainId PySem.F.plain_extend_loop _]
    show wpAny _ A.in1 (pyNext (.ref z) >>= _) _ _ _
    refine wpAny_bind (zNext (s := { s with heap := h, toks := tk }) (A := A.in1) (S := S) Z D1 D2 hSl hst hTI s1 s2 hlt fun x y h' tk' p1 p2 hst' hTI' s1' s2' ht hz hkp => ?_)
    dsimp only at ht hz hkp ⊢
    have hS' := hkp S _ nz nO n1 n2 hS
    have up : ∀ b o, b ≠ S → h'.get? b = some o → (h'.update S (Obj.mapSeq (·.push (Value.ref h.objs.size)))).get? b = some o := fun b o hb e => (Heap.get?_update_other _ _ (Ne.symm hb)).trans e
    show wpAny _ A.in1 (updateSeq S (·.push (Value.ref h.objs.size)) >>= _) _ _ _
    refine wpAny_bind ?_
    refine wpAny_updateSeq hS' rfl (wpAny_pure ⟨plainId_quiet PySem.F.plain_extend_loop _, ih (i + 1) _ tk' _ (acc.push (Value.ref h.objs.size)) (as ++ [h.objs.size]) (by omega) hlt (hst'.keep up (Ne.symm nz) (Ne.symm nO)) (up _ _ (Nat.ne_of_lt L.I) hTI')
      (D1.frame _ _ _ s1' fun b hb o e => up b o (Nat.ne_of_lt (L.f1 b hb)) e) (D2.frame _ _ _ s2' fun b hb o e => up b o (Nat.ne_of_lt (L.f2 b hb)) e)
      (fun b o q1 q2 q3 q4 q5 e => up b o q1 (hkp b o q2 q3 q4 q5 (hkeep b o q1 q2 q3 q4 q5 e))) (Heap.get?_update_self _ hS' rfl) (by rw [Array.toList_push, hacc, List.map_append]; rfl) (by rw [List.length_append, hal]; rfl) ⟨?_, ?_⟩⟩) (by rw [hsz]; omega) (by show (acc.push (Value.ref h.objs.size)).size ≤ sizeLine + 1; rw [Array.size_push, hsz]; omega)
    · intro a ha
      rcases List.mem_append.mp ha with ha | ha
      · exact hG.above a ha
      · rw [List.mem_singleton.mp ha]; exact hSl
    · intro j b hj
      rcases Nat.lt_trichotomy j as.length with q1 | q1 | q1
      · rw [List.getElem?_append_left q1] at hj
        obtain ⟨x', y', e1, e2, e3⟩ := hG.pairs j b hj
        have hb := hG.above b (List.mem_of_getElem? hj)
        exact ⟨x', y', e1, e2, up b _ (Nat.ne_of_gt hb) (hkp b _ (Nat.ne_of_gt (Nat.lt_trans L.z hb)) (Nat.ne_of_gt (Nat.lt_trans L.O hb)) (Nat.ne_of_gt (Nat.lt_trans L.a hb)) (Nat.ne_of_gt (Nat.lt_trans L.b hb)) e3)⟩
      · subst q1
        have hb : h.objs.size = b := by simpa using hj
        subst hb
        exact ⟨x, y, by rw [hal]; exact p1, by rw [hal]; exact p2, up _ _ (Nat.ne_of_gt hSl) ht⟩
      · have hnone : (as ++ [h.objs.size])[j]? = none := List.getElem?_eq_none (by rw [List.length_append, List.length_singleton]; omega)
        rw [hnone] at hj; cases hj
end
theorem zip_no_len : typeLookup (.type "zip") "__len__" = pure none := am_miss_of_fast (by decide +kernel)
theorem zip_no_hint : typeLookup (.type "zip") "__length_hint__" = pure none := am_miss_of_fast (by decide +kernel)
section
variable {prog : Program} {w : World} {A : Around} {E : Value → Shared → Prop} {s : Shared} {z TI TO i1 i2 : Addr} {fp1 fp2 : List Addr} {n : Nat} {P1 P2 : Nat → Value → Prop} {St1 St2 : Nat → Heap → Prop}
theorem zHint {Q : Bool → Shared → Prop} (hT : s.TypeIs (.ref z) "zip") (h : Q true s) : wpAny (model prog w) A (Builtin.List.listLengthHint (.ref z)) Q E s := by
  unfold Builtin.List.listLengthHint
  refine wpAny_bind (wpAny_specialOf hT zip_no_len ?_)
  show wpAny _ _ (specialOf (Value.ref z) (Str.ofString "__length_hint__") >>= _) _ _ _
  refine wpAny_bind (wpAny_specialOf hT zip_no_hint ?_)
  exact wpAny_pure h
/-- list(z), z a zip none of whose tuples was given out -/
theorem zCall {Q : Value → Shared → Prop} (hh : A.handled = none) (Z : ZipSep2 z TI TO i1 i2 fp1 fp2) (L : Low z TI TO i1 i2 s.heap.objs.size fp1 fp2) (D1 : Draws prog w A.in1.in1.in1 i1 fp1 n P1 St1) (D2 : Draws prog w A.in1.in1.in1 i2 fp2 n P2 St2) (hn : n ≤ sizeLine)
    (hz : IsZip s.heap z TI TO .none) (hTO : ∃ a1 a2, IsTupOf2 s.heap TO a1 a2) (hTI : IsTupOf2 s.heap TI (.ref i1) (.ref i2)) (st1 : St1 0 s.heap) (st2 : St2 0 s.heap)
    (hQ : ∀ h' tk acc c as, (∀ b o, b ≠ z → b ≠ TO → b ≠ i1 → b ≠ i2 → s.heap.get? b = some o → h'.get? b = some o) → h'.get? s.heap.objs.size = some { cls := .type "list", dict := none, data := .seq acc c, slots := #[] } → as.length = n → ZsG P1 P2 s.heap.objs.size h' as →
      acc.toList = as.map Value.ref → Q (.ref s.heap.objs.size) { s with heap := h', toks := tk }) :
    wpAny (model prog w) A (call (.type "list") [.ref z]) Q E s := by
  refine callType_codes (Q₁ := fun obj s₁ => obj = .ref s.heap.objs.size ∧ s₁ = { s with heap := s.heap.push { cls := .type "list", data := .seq #[] } }) PySem.F.called_list (PySem.F.typeCall_list_1 _) PySem.F.entry_list_init
    (code_list_new _ ⟨rfl, rfl⟩) fun obj s₁ h₁ => ?_
  obtain ⟨rfl, rfl⟩ := h₁
  have hS : (s.heap.push { cls := .type "list", data := .seq #[] }).get? s.heap.objs.size = some { cls := .type "list", data := .seq #[] } := Heap.get?_push_size _ rfl
  refine ⟨⟨_, hS, rfl⟩, PySem.F.args_list_init_2 _ _, ?_⟩
  show wpAny _ _ (do let old ← Builtin.List.listItems (.ref s.heap.objs.size); Builtin.List.listUpdate (.ref s.heap.objs.size) (fun _ => #[]); letGo old.toList.reverse; Builtin.List.listExtendWith (.ref s.heap.objs.size) (.ref z) .none) _ _ _
  refine wpAny_bind ?_
  unfold Builtin.List.listItems
  refine wpAny_bind (wpAny_seqItems hS rfl (wpAny_pure ?_))
  show wpAny _ _ (updateSeq s.heap.objs.size (fun _ => #[]) >>= fun _ => letGo (#[] : Array Value).toList.reverse >>= fun _ => Builtin.List.listExtendWith (.ref s.heap.objs.size) (.ref z) .none) _ _ _
  refine wpAny_bind (wpAny_updateSeq hS rfl ?_)
  have hS₂ := Heap.get?_update_self (Obj.mapSeq (fun _ => (#[] : Array Value))) hS rfl
  refine wpAny_bind (wpAny_letGo ?_)
  have oth : ∀ b o, b ≠ s.heap.objs.size → s.heap.get? b = some o → ((s.heap.push { cls := .type "list", data := .seq #[] }).update s.heap.objs.size (Obj.mapSeq (fun _ => (#[] : Array Value)))).get? b = some o :=
    fun b o hb e => (Heap.get?_update_other _ _ (Ne.symm hb)).trans (Heap.get?_push_of_some _ e)
  have hz₂ := oth _ _ (Nat.ne_of_lt L.z) hz
  unfold Builtin.List.listExtendWith
  refine wpAny_bind (wpAny_typeOf (T := "zip") ⟨_, hz₂, rfl⟩ ?_)
  have h1 : Builtin.List.listSameRef (.ref s.heap.objs.size) (.ref z) = false := by
    have : s.heap.objs.size ≠ z := Nat.ne_of_gt L.z
    simp [Builtin.List.listSameRef, this]
  have h2 : (Value.type "zip" == Value.type "list") = false := by decide
  have h3 : (Value.type "zip" == Value.type "tuple") = false := by decide
  simp only [h1, h2, h3, Bool.or_false, Bool.false_eq_true, if_false]
  refine wpAny_bind (wpAny_pyIter_zip hz₂ ?_)
  refine wpAny_bind (wpAny_holding (zHint ⟨_, hz₂, rfl⟩ ?_))
  simp only [Bool.true_or, if_true]
  refine wpAny_bind (wpAny_rule ?_)
  refine wpAny_bind ?_
  show wpAny _ _ (updateSeq s.heap.objs.size (·.push .none) >>= fun _ => updateSeq s.heap.objs.size (·.pop)) _ _ _
  refine wpAny_bind (wpAny_updateSeq hS₂ rfl ?_)
  have hS₃ := Heap.get?_update_self (Obj.mapSeq (·.push Value.none)) hS₂ rfl
  refine wpAny_updateSeq (hz := by seq_fits) hS₃ rfl ?_
  have hS₄ := Heap.get?_update_self (Obj.mapSeq (·.pop)) hS₃ rfl
  have oth4 : ∀ b o, b ≠ s.heap.objs.size → s.heap.get? b = some o → ((((s.heap.push { cls := .type "list", data := .seq #[] }).update s.heap.objs.size (Obj.mapSeq (fun _ => (#[] : Array Value)))).update s.heap.objs.size (Obj.mapSeq (·.push Value.none))).update s.heap.objs.size (Obj.mapSeq (·.pop))).get? b = some o :=
    fun b o hb e => (Heap.get?_update_other _ _ (Ne.symm hb)).trans ((Heap.get?_update_other _ _ (Ne.symm hb)).trans (oth b o hb e))
  obtain ⟨a1, a2, hTO⟩ := hTO
  refine wpAny_pure ⟨plainId_quiet PySem.F.plain_extend_loop _, ?_⟩
  refine zLoop (s := s) (h₁ := s.heap) (A := A.in1) hh Z L D1 D2 hn .none (fun h' tk acc c as hk hS' hl hG hacc => ?_) n 0 _ s.toks _ #[] [] (Nat.sub_zero _) (Nat.zero_le _)
    (.inl ⟨oth4 _ _ (Nat.ne_of_lt L.z) hz, a1, a2, oth4 _ _ (Nat.ne_of_lt L.O) hTO⟩) (oth4 _ _ (Nat.ne_of_lt L.I) hTI) (D1.frame _ _ _ st1 fun b hb o e => oth4 b o (Nat.ne_of_lt (L.f1 b hb)) e) (D2.frame _ _ _ st2 fun b hb o e => oth4 b o (Nat.ne_of_lt (L.f2 b hb)) e)
    (fun b o q1 _ _ _ _ e => oth4 b o q1 e) hS₄ rfl rfl ⟨(fun _ ha => nomatch ha), (fun j a hj => by simp at hj)⟩
  exact ⟨rfl, hQ h' tk acc c as (fun b o q2 q3 q4 q5 e => hk b o (Nat.ne_of_lt (Heap.lt_size e)) q2 q3 q4 q5 e) hS' hl hG hacc⟩
end
end ZipL
end PySem

set_option Elab.async false
set_option linter.all false
set_option maxRecDepth 100000
set_option maxHeartbeats 4000000
/-! The hand layer's rules for errors as values, over ErA; list(zip(x, y)), over ZipL. -/
namespace L2
open PySem PySem.Spec PyProof.Rows

/-- what the written part says of an own error class at C, its __init__ at fI -/
structure ErC (K : PySem.W.Frag) (C fI : Addr) : Prop where
  ox : OexC K C
  xf : XfC K C
  iC : PySem.W.findIn K (.ref C) "__init__" = some (some (.ref fI))
  tI : PySem.W.typeIn K (.ref fI) = some (.type "function")
  cl : (PySem.W.clsIn K C).isSome = true
  ca : PySem.W.findIn K (.ref C) "__class__" = some (some (.builtin "object.__class__"))
  cn : PySem.W.specialIn K (.builtin "object.__class__") "__get__" = some (some (.builtin "getset_descriptor.__get__"))
  ct : PySem.W.takesIn K (.builtin "object.__class__") = some true
  mo : PySem.W.mroIn K C (.type "object") = some true

/-! ### binding -/
theorem kbn_pos {K : PySem.W.Frag} {fd : FuncData} {ps : List Str} {n : Nat} (hb : Binds K fd ps []) (hn : n = ps.length) : KBn K fd ps n [] (fun us _ => us) (fun vs _ => vs) where
  to := fun s us ws X l1 l2 => by
    have z := hb s us X (by rw [List.append_nil]; exact l1.trans hn)
    rw [List.append_nil] at z
    exact z
  rel := fun r _ => r
theorem kbn_kw {K : PySem.W.Frag} {x qual : Str} {params : Arguments} {body : List Stmt} {scope : Scope} {f : Addr} {fd : FuncData} {ps ks : List Str} {n : Nat} {g : List Value → List Value → List Value} {gV : List V → List V → List V} (F : FunD K x qual params body scope [] [] f fd)
    (hrel : ∀ {vs : List V} {us : List Value} {zs : List V} {ws : List Value}, Vals vs us → Vals zs ws → Vals (gV vs zs) (g us ws))
    (h : ∀ (kV doc pm : Value) (an : Option Addr) (cdv ct : Value) (us ws : List Value), us.length = n → ws.length = ks.length → bindArgs (PySem.W.fnOf x qual params body scope .none kV doc pm an cdv ct) ⟨us, ks.zip ws⟩ = pure (ps.zip (g us ws))) : KBn K fd ps n ks g gV := by
  obtain ⟨oc, od, dV, kV, doc, pm, an, cdv, ct, osl, rfl, lk, hcd, hD, hK⟩ := F.ex
  rcases hD with ⟨_, rfl⟩ | ⟨e, _⟩
  · exact ⟨fun s us ws X l1 l2 => .of_eq (h kV doc pm an cdv ct us ws l1 l2), hrel⟩
  · exact absurd rfl e

/-! ### C(..) as a value -/
/-- C(e, .., k = v, ..): a new error, then C's own __init__ -/
def tMkE (C : Addr) (n m : Nat) (sp : Sp) (gV : List V → List V → List V) (ta tk : TA) : TE := fun σ H Q => ta σ H fun vs H1 => tk σ H1 fun zs H2 => vs.length = n ∧ zs.length = m ∧ n ≤ 1000 ∧
  ∀ a, H2 a = none → sp (gV (.ref a :: vs) zs) (upd H2 a (exo a C none)) (fun v H3 => v = .non ∧ Q (.ref a) H3) (fun _ _ _ => False)
section
variable {X : Cx} {CX : CXT} {k n : Nat} {fI C : Addr} {fd : FuncData} {ps ks : List Str} {sp : Sp} {x : Str} {p pos : Pos} {e : Expr} {es : List Expr} {kws : List Keyword} {t tk : TA} {g : List Value → List Value → List Value} {gV : List V → List V → List V}
theorem run_mkE {pins : List (Addr × Obj)} {σ : St} {H : Hp} {s : Shared} {Q : VK} {us ws : List Value} {vs zs : List V} (T : ErC X.K C fI) (F1 : FnOk X.prog X.w X.K X.mg X.base CX0 k fI fd ps sp) (hr : Room (k + 1) X.A) (hb : KBn X.K fd ps (n + 1) ks g gV)
    (I : Inv X pins σ H s) (r : Vals vs us) (rz : Vals zs ws) (l1 : vs.length = n) (l2 : zs.length = ks.length) (hz : n ≤ 1000)
    (h : ∀ a, H a = none → sp (gV (.ref a :: vs) zs) (upd H a (exo a C none)) (fun v H3 => v = .non ∧ Q (.ref a) H3) (fun _ _ _ => False)) :
    wpAny (model X.prog X.w) X.A (call (.ref C) us (ks.zip ws)) (EP X pins σ Q) X.xe s := by
  obtain ⟨nm, q, N, bs, bm, sn, sub, ab, col, dd, k0, k1, k2, k3, k5, hC, hbm⟩ := T.ox.cls
  obtain ⟨hp, g0, dr, tk0, os⟩ := s
  have hsz : hp.objs.size ≤ hp.objs.size + 1 := Nat.le_succ _
  have hn : H (hp.objs.size + 1) = none := I.hok.fresh hsz
  have hq := h (hp.objs.size + 1) hn
  have kk : ∀ b o, hp.get? b = some o → ((hp.push (PySem.W.kdv_tup us)).push (PySem.HandSPX.excO C hp.objs.size)).get? b = some o := fun b o e => Heap.get?_push_of_some _ (Heap.get?_push_of_some _ e)
  have hget : ((hp.push (PySem.W.kdv_tup us)).push (PySem.HandSPX.excO C hp.objs.size)).get? (hp.objs.size + 1) = some (PySem.HandSPX.excO C hp.objs.size) := by heap_get
  have I2 : Inv X pins σ (upd H (hp.objs.size + 1) (exo (hp.objs.size + 1) C none)) ⟨(hp.push (PySem.W.kdv_tup us)).push (PySem.HandSPX.excO C hp.objs.size), g0, dr, tk0, os⟩ :=
    I.laid (t' := tk0) (a := hp.objs.size + 1) (o := exo (hp.objs.size + 1) C none) (h' := (hp.push (PySem.W.kdv_tup us)).push (PySem.HandSPX.excO C hp.objs.size)) kk hsz (exo_ok hget)
  have r1 : Vals (V.ref (hp.objs.size + 1) :: vs) (Value.ref (hp.objs.size + 1) :: us) := .cons rfl r
  have r2 := hb.rel r1 rz
  have e1 : (Value.ref (hp.objs.size + 1) :: us).length = n + 1 := r1.length.symm.trans (congrArg Nat.succ l1)
  have e2 : ws.length = ks.length := rz.length.symm.trans l2
  have hus : us.length ≤ sizeLine := by
    rw [← r.length, sizeLine_eq, l1]
    omega
  refine wpAny_call (PySem.ErA.callRun F.excBase_ValueError (fun Y => PySem.HandSPX.refsVE_contains Y bm hbm) (I.kIn _ _ hC) (PySem.W.looks_findIn I.kIn T.iC) (fun self => PySem.W.bind_fn I.kIn self T.tI) hus
    (codeAny_mono (F1.run _ X.stack _ _ ⟨Value.ref (hp.objs.size + 1) :: us, ks.zip ws⟩ (g (Value.ref (hp.objs.size + 1) :: us) ws) _ _ (fun _ _ _ => False) (hr.make C us (ks.zip ws)) (I2.env0.make C us (ks.zip ws)) (hb.to _ (Value.ref (hp.objs.size + 1) :: us) ws I2.kIn e1 e2) r2 hq) fun r s' hq' => ?_))
  cases r with
  | error er => exact hq'.elim
  | ok fl =>
    cases fl with
    | ret u =>
      obtain ⟨v, H', I3, rv, ev, q3⟩ := I2.after hq'
      subst ev
      exact ⟨rv, ⟨V.ref (hp.objs.size + 1), H', I3, rfl, q3⟩⟩
    | next => exact False.elim hq'
    | brk => exact False.elim hq'
    | cont => exact False.elim hq'
/-- C(e, ..) -/
theorem pe_mkE (T : ErC X.K C fI) (F1 : FnOk X.prog X.w X.K X.mg X.base CX0 k fI fd ps sp) (hr : Room (k + 1) X.A) (hg : Gl X x) (hm : X.mg x = some (.ref C)) (hb : KBn X.K fd ps (n + 1) [] g gV) (ha : PA X (e :: es) t)
    (hdb : (x == ("__debug__" : Str)) = false := by decide) (he : starEach (e :: es) X.env = (false, eval e X.env) :: starEach es X.env := by rfl) (hpl : (backTo pos (starEach es X.env)).any (·.1) = false := by rfl) :
    PE X (.Call (.Name x p) (e :: es) [] pos) (tMkE C n 0 sp gV t tNil) := by
  refine ⟨fun pins s σ H Q I h => ?_⟩
  refine wpAny_Call_Name_kw (ld_glob I hg hm ?_ hdb)
  refine PySem.W.callWith_K (h₀ := X.base) I.ok.mod.kin T.ox.kC (thn (ha.run pos pins s σ H _ I h) fun us s1 ⟨vs, H1, I1, r, q1⟩ => ⟨I1.kIn, ?_⟩) he hpl
  obtain ⟨l1, l2, hz, q⟩ := q1
  exact run_mkE (ws := []) (zs := []) T F1 hr hb I1 r .nil l1 rfl hz q
/-- C(k = v, ..) -/
theorem pe_mkEK (T : ErC X.K C fI) (F1 : FnOk X.prog X.w X.K X.mg X.base CX0 k fI fd ps sp) (hr : Room (k + 1) X.A) (hg : Gl X x) (hm : X.mg x = some (.ref C)) (hb : KBn X.K fd ps 1 ks g gV) (hkw : PK X kws tk)
    (hall : (backToKw pos (keywordEach kws X.env)).all (·.1.isSome) = true := by rfl) (hks : (backToKw pos (keywordEach kws X.env)).filterMap (·.1) = ks := by rfl) (hdb : (x == ("__debug__" : Str)) = false := by decide)
    (hpl : ((backTo pos (starEach [] X.env)).any (·.1) || (backToKw pos (keywordEach kws X.env)).any (·.1.isNone)) = false := by rfl) :
    PE X (.Call (.Name x p) [] kws pos) (tMkE C 0 ks.length sp gV tNil tk) := by
  refine ⟨fun pins s σ H Q I h => ?_⟩
  refine wpAny_Call_Name_kw (ld_glob I hg hm ?_ hdb)
  refine PySem.W.callWith_KW0 (h₀ := X.base) I.ok.mod.kin T.ox.kC hall ?_ hpl
  refine thn (hkw.run pos pins s σ H _ I h) fun ws s2 ⟨zs, H2, I2, rz, l1, l2, hz, q2⟩ => ⟨I2.kIn, ?_⟩
  rw [hks]
  exact run_mkE (us := []) (vs := []) T F1 hr hb I2 .nil rz rfl l2 hz q2
end

/-! ### e.f, e an error that is held -/
def tEf (K : PySem.W.Frag) (te : TE) (f : Str) : TE := fun σ H Q => te σ H fun x H1 => ∃ (a C d : Addr) (fs : List (Str × V)) (v : V), x = .ref a ∧ H1 a = some (exo a C (some d)) ∧ H1 d = some (exd d fs) ∧ XfC K C ∧ PySem.W.findIn K (.ref C) f = some none ∧ fs.lookup f = some v ∧ Q v H1
theorem pe_ef {X : Cx} {e : Expr} {te : TE} {f : Str} {pos : Pos} (he : PE X e te) (hb : attributeBase e f X.env (eval e X.env) = eval e X.env := by rfl) : PE X (.Attribute e f pos) (tEf X.K te f) := by
  refine ⟨fun pins s σ H Q I h => ?_⟩
  refine attr_of hb (thn (he.run pins s σ H _ I h) fun u s1 hh => ?_)
  obtain ⟨x, H1, I1, rx, a, C, d, fs, v, ex, ea, ed, T1, hno, l, q⟩ := hh
  subst ex
  obtain rfl : u = Value.ref a := rx
  obtain ⟨t1, ho⟩ := exo_at I1.hok ea
  obtain ⟨mA, hns, rel⟩ := exd_at I1.hok ed
  obtain ⟨od, hod, hl⟩ := lookIn_ns hns
  obtain ⟨u, hu, ru⟩ := RelO.some_of (v := v) (o := mA f) (by rw [← l]; exact rel f)
  have J : PySem.W.InstAt s1.heap a _ C (some od) := ⟨ho, rfl, rfl, hod⟩
  exact HandSPX.exc_get I1.kIn J T1.ga T1.gg T1.exC (PySem.W.findObj_own T1.hdC hno rfl (by rw [hl, hu])) (handed_of ru) ⟨v, H1, I1.tok _, ru, q⟩

/-! ### isinstance(e, c), e an error that is held (with its own dict, or without one as yet) -/
/-- what the class at C must say for this -/
structure ErK (K : PySem.W.Frag) (C : Addr) : Prop where
  xf : XfC K C
  cl : (PySem.W.clsIn K C).isSome = true
  ca : PySem.W.findIn K (.ref C) "__class__" = some (some (.builtin "object.__class__"))
  cn : PySem.W.specialIn K (.builtin "object.__class__") "__get__" = some (some (.builtin "getset_descriptor.__get__"))
  ct : PySem.W.takesIn K (.builtin "object.__class__") = some true
  mo : PySem.W.mroIn K C (.type "object") = some true
theorem ErC.k {K : PySem.W.Frag} {C fI : Addr} (T : ErC K C fI) : ErK K C := ⟨T.xf, T.cl, T.ca, T.cn, T.ct, T.mo⟩
def rIsE2 (K : PySem.W.Frag) : List V → Hp → VK → Prop := fun xs H Q => ∃ (a C : Addr) (c : V) (cv : Value) (b : Bool), xs = [.ref a, c] ∧ ((∃ (d : Addr) (fs : List (Str × V)), H a = some (exo a C (some d)) ∧ H d = some (exd d fs)) ∨ H a = some (ExO (.ref C) a)) ∧ ErK K C ∧
  ClsV c cv ∧ PySem.W.kitOne K (.ref C) cv = some b ∧ Q (.bl b) H
theorem call_isE2 {X : Cx} : CallR X (.builtin "isinstance") (rIsE2 X.K) := by
  intro pins s σ H xs us Q I r h
  obtain ⟨a, C, c, cv, b, rfl, ho, T, kc, e, q⟩ := h
  obtain ⟨u1, u2, rfl, r1, r2⟩ := vals2 r
  have e2 := kc.eq r2
  subst e2
  obtain rfl : u1 = Value.ref a := r1
  have J : ∃ (ox : Obj) (od : Option Obj), PySem.W.InstAt s.heap a ox C od := by
    rcases ho with ⟨d, fs, ea, ed⟩ | ea
    · obtain ⟨t1, ho⟩ := exo_at I.hok ea
      obtain ⟨mA, hns, rel⟩ := exd_at I.hok ed
      obtain ⟨od, hod, hl⟩ := lookIn_ns hns
      exact ⟨_, some od, ho, rfl, rfl, hod⟩
    · obtain ⟨⟨oe, vs, h1, ⟨z1, z2⟩, hd, _⟩, _⟩ := I.hok a _ ea
      obtain ⟨oc, odd, odt, osl⟩ := oe
      dsimp only at z1 z2 hd
      subst z1 z2 hd
      exact ⟨_, none, h1, rfl, rfl, trivial⟩
  obtain ⟨ox, od, J⟩ := J
  exact PySem.W.kia_one (PySem.W.kitx_exc T.cl T.xf.ga T.xf.gg T.xf.exC T.ca T.cn T.ct T.mo) I.kIn J e (fun z => nomatch z) fun tk => ⟨.bl b, H, I.tok tk, rfl, q⟩
/-- in an except suite: e the error that the suite holds -/
def rIsS (K : PySem.W.Frag) (a : Addr) (cls : Value) (d : Option Addr) : List V → Hp → VK → Prop := fun xs H Q => ∃ (C : Addr) (c : V) (cv : Value) (b : Bool), xs = [.ref a, c] ∧ cls = .ref C ∧ (∃ (dd : Addr) (fs : List (Str × V)), d = some dd ∧ H dd = some (.xd fs)) ∧ ErK K C ∧
  ClsV c cv ∧ PySem.W.kitOne K (.ref C) cv = some b ∧ Q (.bl b) H
theorem call_isS {X : Cx} {a : Addr} {cls : Value} {d : Option Addr} {oe : Obj} {pn : List (Addr × Obj)} (hz : Zc cls d oe) (hf : ∃ vs, oe.data = .fields vs) : CallR (X.suite a ((a, oe) :: pn)) (.builtin "isinstance") (rIsS X.K a cls d) := by
  intro pins s σ H xs us Q I r h
  obtain ⟨C, c, cv, b, rfl, ec, ⟨dd, fs, ed, hd⟩, T, kc, e, q⟩ := h
  obtain ⟨u1, u2, rfl, r1, r2⟩ := vals2 r
  have e2 := kc.eq r2
  subst e2
  obtain rfl : u1 = Value.ref a := r1
  subst ec ed
  obtain ⟨hget, _⟩ := I.pin (a, oe) (List.mem_append.mpr (.inl List.mem_cons_self))
  obtain ⟨vs, hv⟩ := hf
  obtain ⟨mA, hns, hr⟩ := (show ObjOk X.prog X.w H s.heap dd (.xd fs) from I.hok dd _ hd)
  obtain ⟨od, hod, hl⟩ := lookIn_ns hns
  have J : PySem.W.InstAt s.heap a oe C (some od) := ⟨hget, hz.1, by unfold PySem.W.notCls; rw [hv] <;> rfl, by rw [hz.2]; exact hod⟩
  exact PySem.W.kia_one (PySem.W.kitx_exc T.cl T.xf.ga T.xf.gg T.xf.exC T.ca T.cn T.ct T.mo) I.kIn J e (fun z => nomatch z) fun tk => ⟨.bl b, H, I.kept (t' := tk) fun _ _ z => z, rfl, q⟩

/-! ### several clauses, each with a name -/
def wManyA (K : PySem.W.Frag) (Wout : WX) (D : Ends) : List (Value × Nat × (Addr → Value → Option Addr → TS)) → WX
  | [] => Wout
  | (c, i, ts) :: r => fun cls d σ H => ∃ b, PySem.W.exmOne K cls c = some b ∧
      (b = true → ∀ a, H a = none → ts a cls d { nx := fun σ' H' => D.nx (σ'.set i none) H', rt := D.rt, bk := fun σ' H' => D.bk (σ'.set i none) H', ct := fun σ' H' => D.ct (σ'.set i none) H' } (σ.set i (some (.ref a))) H) ∧
      (b = false → wManyA K Wout D r cls d σ H)
inductive HdA (X : Cx) : List ExceptHandler → List (Value × Nat × (Addr → Value → Option Addr → TS)) → Prop
  | nil : HdA X [] []
  | cons {x n : Str} {i : Nat} {c : Value} {ts : Addr → Value → Option Addr → TS} {b₀ : Stmt} {suite : List Stmt} {np pos' : Pos} {hds : List ExceptHandler} {l : List (Value × Nat × (Addr → Value → Option Addr → TS))} (hc : Names X x c) (hi : X.N[i]? = some n) (hln : X.env.kindOf n = some .local)
      (hsu : ∀ (a : Addr) (oe : Obj) (cls : Value) (d : Option Addr) (pn : List (Addr × Obj)), Zc cls d oe → (∃ vs, oe.data = .fields vs) → PSs (X.suite a ((a, oe) :: pn)) (b₀ :: suite) (ts a cls d)) (r : HdA X hds l) :
      HdA X (.ExceptHandler (some (.Name x np)) (some n) (b₀ :: suite) pos' :: hds) ((c, i, ts) :: l)
section
variable {X : Cx} {body : List Stmt} {h₀ : ExceptHandler} {hds : List ExceptHandler} {l : List (Value × Nat × (Addr → Value → Option Addr → TS))} {pos : Pos} {tb : WX → TS} {Wout : WX}
theorem ps_try_manyA (hs : X.stack = X.env :: X.outer) (hf : X.env.frame = some X.env.locals) (hN : X.N.Nodup) (tk : Takes X Wout)
    (hb : ∀ (W : WX) (pn : List (Addr × Obj)) (xe : Value → Shared → Prop), Takes (X.tr pn xe) W → PassesOwn (model X.prog X.w) X.A X.env xe → PSs (X.tr pn xe) body (tb W))
    (hh : HdA X (h₀ :: hds) l) : PS X (.Try body (h₀ :: hds) [] [] pos) (fun D σ H => tb (wManyA X.K Wout D l) D σ H) := by
  refine ⟨fun pins s σ H D I h => ?_⟩
  have ok := I.ok
  have hfr : X.A.frames = some (X.env :: X.outer) := by rw [ok.frames, hs]
  refine wpAny_Try_except ?_
  refine wpAny_mono ((hb (wManyA X.K Wout D l) (X.pn ++ pins) (fun e s₁ => wpAny (model X.prog X.w) X.A (noteFrame e X.env) (fun _ s₂ => wpAny (model X.prog X.w) X.A (setFlight e none) (fun _ s₃ =>
    wpAny (model X.prog X.w) X.A (handleBy e X.env (h₀ :: hds)) (SP X pins D) X.xe s₃) X.xe s₂) X.xe s₁) (fun u s' xx => ?_) PassesOwn.looking).run [] s σ H D (I.toTry _) h) (fun f s1 hsp => ?_) (fun e s1 he => he)
  · obtain ⟨a, B, sI, pins', σ', H', cls, d, rfl, J', nb, up, sky, na, os, ag, w⟩ := xx
    have J : Inv X pins σ' H' sI := J'.ofTry ok
    have sky' : Sky B (X.env :: X.outer) a (Zc cls d) X.env.locals s'.heap := by rw [← hs]; exact sky
    show wpAny (model X.prog X.w) X.A (noteFrame (.ref a) X.env) _ _ _
    refine Sky.land Zc.steady hfr hf sky' fun h3 fl3 up3 => ?_
    have J3 : Inv X pins σ' H' { s' with heap := h3 } := J.landed nb fl3.1 (up.trans up3) os ag
    obtain ⟨oe3, vs3, he3, hz3, hd3⟩ := fl3.there
    have notFr : ∀ {h : Heap} {o : Obj} {vs : Array Value}, h.FunFrames B (X.env :: X.outer) → h.get? a = some o → o.data = .fields vs → a ∉ frs (X.env :: X.outer) := fun {h o vs} ff e dd hm => by
      obtain ⟨_, o', e', hnf⟩ := ff.mem hm
      rw [e] at e'; cases e'
      exact hnf _ dd
    have nfr := notFr fl3.2.2.1 he3 hd3
    have nL : a ≠ X.env.locals := fun z => nfr (List.mem_filterMap.mpr ⟨X.env, List.mem_cons_self, by rw [hf, z]⟩)
    have nF : a ∉ X.fs := fun hm => by
      obtain ⟨e, he, q⟩ := List.mem_filterMap.mp hm
      exact nfr (List.mem_filterMap.mpr ⟨e, List.mem_cons_of_mem _ he, q⟩)
    have S3 := J3.suite he3 hd3 na nL nF
    have go : ∀ {hds' : List ExceptHandler} {l' : List (Value × Nat × (Addr → Value → Option Addr → TS))}, HdA X hds' l' → wManyA X.K Wout D l' cls d σ' H' →
        wpAny (model X.prog X.w) X.A (handleBy (.ref a) X.env hds') (SP X pins D) X.xe { s' with heap := h3 } := by
      intro hds' l' hk
      induction hk with
      | nil =>
        intro w
        refine wpAny_handleBy_nil ?_
        obtain ⟨k1, k2, k3, oe, vs, T, oT, ts', he, hz, hd, h1, hr⟩ := id fl3
        unfold PySem.passOn
        refine wpAny_bind (wpAny_field he hd h1 ?_)
        rw [if_neg (show ¬ ((Value.ref T == Value.none) = true) from by simp)]
        have fin : wpAny (model X.prog X.w) X.A (setFlight (.ref a) X.env.frame) (fun _ s4 => wpAny (model X.prog X.w) X.A (throw (.ref a) : Sem Flow) (SP X pins D) X.xe s4) X.xe { s' with heap := h3 } := by
          rw [hf]
          refine HandSPX.setFlight_upZ fl3 fun h4 hh4 up4 => wpAny_throw (tk _ _ ?_)
          exact ⟨a, B, sI, pins, σ', H', cls, d, rfl, J, nb, (up.trans up3).trans up4, .inr (.inr (by rw [hs]; exact hh4)), na, os, ag, w⟩
        first
          | exact wpAny_bind (wpAny_pure (wpAny_bind fin))
          | exact wpAny_bind fin
      | @cons x n i c ts b₀ suite np pos' hds2 l2 hc hi hln hsu r ih =>
        intro w
        obtain ⟨b, hb1, hyes, hno⟩ := w
        have hloc : Loc X.env.scope n := .inl hln
        refine wpAny_handleBy_cons (codeAny_handlers_test ?_) (by intro q; cases q)
        have LT : PySem.W.Looks (model X.prog X.w) h3 (typeOf (.ref a)) cls := fun A Q E s k q => wpAny_typeOf_ref (k _ _ he3) (by rw [hz3.1]; exact q)
        have LM := PySem.W.exm_one (M := model X.prog X.w) (J3.kIn) LT hb1
        have test : ∀ {Q : Value → Shared → Prop} {E : Value → Shared → Prop}, Q c { s' with heap := h3 } → wpAny (model X.prog X.w) (X.A.mark (some (.ref a))) (eval (.Name x np) X.env) Q E { s' with heap := h3 } := fun {Q E} q => by
          obtain ⟨hg, hdbg, hm | ⟨hm, hv, hnn⟩⟩ := hc
          · exact ld_glob (X := X.suite a ((a, oe3) :: (X.pn ++ pins))) S3 hg hm q hdbg
          · exact ld_blt (X := X.suite a ((a, oe3) :: (X.pn ++ pins))) S3 hg hm hv q hnn hdbg
        refine test (LM.here ?_)
        cases b with
        | true =>
          refine codeAny_handlers_suite_as ?_
          refine HandSPX.lands_againZ fl3 fun h4 fl4 up4 => ?_
          have J4 : Inv X pins σ' H' { s' with heap := h4 } := J.landed nb fl4.1 ((up.trans up3).trans up4) os ag
          obtain ⟨oe4, vs4, he4, hz4, hd4⟩ := fl4.there
          have S4 := J4.suite he4 hd4 na nL nF
          refine store_ok (X := X.suite a ((a, oe4) :: (X.pn ++ pins))) (v := .ref a) S4 hN hi hloc rfl (fun s5 S5 => ?_) (.inr hln)
          refine wpAny_mono ((hsu a oe4 cls d (X.pn ++ pins) hz4 ⟨_, hd4⟩).run [] s5 _ H' _ S5 (hyes rfl a na)) (fun f s6 hsp => ?_) (fun _ _ z => False.elim z)
          have end_ : ∀ {σ6 : St} {H6 : Hp} {Q : Shared → Prop}, Inv (X.suite a ((a, oe4) :: (X.pn ++ pins))) [] σ6 H6 s6 → (∀ s7, Inv X pins (σ6.set i none) H6 s7 → Q s7) →
              wpAny (model X.prog X.w) X.A (do bindName X.env n .none; unbindBehindTheSuite X.env n pos') (fun _ s7 => Q s7) X.xe s6 := fun {σ6 H6 Q} S6 hq => gone_ok (S6.unsuite ok) hN hi hln hq
          cases f with
          | next =>
            obtain ⟨σ6, H6, S6, q6⟩ := hsp
            exact end_ S6 fun s7 J7 => ⟨_, _, J7, q6⟩
          | brk =>
            obtain ⟨σ6, H6, S6, q6⟩ := hsp
            exact end_ S6 fun s7 J7 => ⟨_, _, J7, q6⟩
          | cont =>
            obtain ⟨σ6, H6, S6, q6⟩ := hsp
            exact end_ S6 fun s7 J7 => ⟨_, _, J7, q6⟩
          | ret u =>
            obtain ⟨v6, σ6, H6, S6, r6, q6⟩ := hsp
            exact end_ S6 fun s7 J7 => ⟨_, _, _, J7, r6, q6⟩
        | false =>
          show wpAny _ X.A (handleBy (.ref a) X.env hds2) _ _ _
          exact ih (hno rfl)
    exact go hh w
  · cases f with
    | next =>
      obtain ⟨σ', H', J', q⟩ := hsp
      exact wpAny_execs_nil ⟨σ', H', J'.ofTry ok, q⟩
    | brk =>
      obtain ⟨σ', H', J', q⟩ := hsp
      exact ⟨σ', H', J'.ofTry ok, q⟩
    | cont =>
      obtain ⟨σ', H', J', q⟩ := hsp
      exact ⟨σ', H', J'.ofTry ok, q⟩
    | ret u =>
      obtain ⟨v, σ', H', J', r, q⟩ := hsp
      exact ⟨v, σ', H', J'.ofTry ok, r, q⟩
end

/-! ### C(), a class without own __init__ -/
theorem pe_exc0 {X : Cx} {C : Addr} {bmB : List Value} {B newId initId : String} {x : Str} {p pos : Pos} (F : ExcBaseFacts B newId initId bmB) (q : PySem.W.excIn X.K C bmB newId = true) (gC : X.mg x = some (.ref C)) (kC : PySem.W.keepIn X.K (.ref C) = true) (hg : Gl X x)
    (hdb : (x == ("__debug__" : Str)) = false := by decide) :
    PE X (.Call (.Name x p) [] [] pos) (fun _ H Q => ∀ a, H a = none → Q (.ref a) (upd H a (ExO (.ref C) a))) := by
  refine ⟨fun pins s σ H Q I h => ?_⟩
  refine wpAny_Call_Name_kw (ld_glob I hg gC ?_ hdb)
  refine PySem.W.callWith_K0 I.kIn kC ?_
  obtain ⟨bm, N, nm, qn, bs, hdct, sn, sub, ab, col, dd, k0, k1, k2, k3, k5, mN, hC, hN, hni, T⟩ := exc_obj I.kIn q
  refine wpAny_call_exc_subT F T hC hN hni (fun h' a hm => ?_) (by show 0 ≤ sizeLine; exact Nat.zero_le _)
  have hn : H a = none := I.hok.gone hm.new
  obtain ⟨t, ht, _, _⟩ := hm.there
  exact ⟨.ref a, upd H a (ExO (.ref C) a), I.laidN hm.keeps hm.new hn (exO_ok ht ⟨rfl, rfl⟩ rfl rfl rfl (show 4 < 6 by decide)), rfl, h a hn⟩
end L2

set_option Elab.async false
set_option linter.all false
set_option maxRecDepth 100000
set_option maxHeartbeats 4000000
/-! list(zip(x, y)) in the hand layer. -/
namespace L2
open PySem PySem.Spec PyProof.Rows
/-- a list or a tuple that is read -/
def SqB (K : PySem.W.Frag) (H : Hp) (a : Addr) (xs : List V) : Prop := SqL K H a xs ∨ SqT K H a xs
def SrcAt (prog : Program) (w : World) (h : Heap) (a : Addr) (items : Array Value) : Prop := ∃ (o : Obj) (Hh : Heap → Prop) (St : Addr → Nat → Heap → Prop), Begins (.ref a) o Hh ∧ Hh h ∧ a < h.objs.size ∧
  (∀ (A : Around) (it : Addr), A.handled = none → a ≠ it → Draws prog w A it [it, a] items.size (fun i v => items[i]? = some v) (St it)) ∧
  ∀ (h' : Heap) (it : Addr), h'.get? it = some o → (∀ c u, h.get? c = some u → h'.get? c = some u) → St it 0 h'
section
variable {X : Cx} {pins : List (Addr × Obj)} {σ : St} {H : Hp} {s : Shared}
theorem src_at {a : Addr} {xs : List V} (I : Inv X pins σ H s) (h : SqB X.K H a xs) : ∃ its : List Value, Vals xs its ∧ xs.length ≤ sizeLine ∧ SrcAt X.prog X.w s.heap a its.toArray := by
  rcases h with h | h
  · obtain ⟨its, rv, p, hz⟩ := I.list h
    refine ⟨its, rv, hz, _, _, fun it i h => h.IsListIter it a i ∧ h.IsList a its.toArray, begins_list a its.toArray, p.isList, p.lt, fun A it hh hne => Draws.list hh it a hne its.toArray, fun h' it ho hk => ⟨⟨_, ho, rfl, rfl⟩, (p.isList).at fun o e => hk a o e⟩⟩
  · obtain ⟨its, rv, p, hz⟩ := I.tuple h
    have p' : s.heap.IsTuple a its.toArray := p
    have pl : a < s.heap.objs.size := by
      obtain ⟨o, ho, _⟩ := p
      exact Heap.lt_size ho
    refine ⟨its, rv, hz, _, _, fun it i h => h.IsTupleIter it a i ∧ h.IsTuple a its.toArray, begins_tuple a its.toArray, p', pl, fun A it hh hne => Draws.tuple hh it a hne its.toArray, fun h' it ho hk => ⟨⟨_, ho, rfl, rfl⟩, p'.at fun o e => hk a o e⟩⟩
/-- new objects are laid, some of them tracked from now on -/
theorem Inv.grown {H2 : Hp} {h' : Heap} {t' : Nat} (I : Inv X pins σ H s) (k : ∀ b o, s.heap.get? b = some o → h'.get? b = some o) (old : ∀ b, b < s.heap.objs.size → H2 b = H b) (hok : HOk X.prog X.w H2 h') : Inv X pins σ H2 { s with heap := h', toks := t' } := by
  refine I.un ⟨fun b o e _ _ _ => k b o e, fun b o e _ _ _ => ⟨o.slots, k b o e⟩, fun b o e n _ => by rw [old b (Heap.lt_size e)]; exact n, fun b o e _ => ⟨o, k b o e⟩, fun b xs q => ?_, fun b o u q => ?_, fun b ps q => ⟨#[], ?_⟩⟩ hok
  · rw [old b (I.hok.lt q)]; exact q
  · rw [old b (I.hok.lt q)]; exact q
  · rw [old b (I.hok.lt q), q]; simp
end
/-- what stands in the tuple at b -/
def tupOf (h : Heap) (b : Addr) : List V := match h.get? b with
  | some o => (match o.data with
    | .seq its _ => its.toList.map fun u => (absV u).getD .non
    | _ => [])
  | none => []
theorem tupOf_pair {h : Heap} {b : Addr} {x y : Value} {u v : V} (e : h.get? b = some { cls := .type "tuple", data := .seq #[x, y] }) (r1 : RelV u x) (r2 : RelV v y) : tupOf h b = [u, v] := by
  unfold tupOf
  rw [e]
  simp [r1.abs, r2.abs]
def tLZ (K : PySem.W.Frag) (ta : TA) : TE := fun σ H Q => ta σ H fun vs H1 => ∃ (a b : Addr) (xs ys : List V), vs = [.ref a, .ref b] ∧ SqB K H1 a xs ∧ SqB K H1 b ys ∧ xs.length = ys.length ∧
  ∀ (l : Addr) (ts : List Addr) (H2 : Hp), Same H1 H2 → H1 l = none → H2 l = some (.lst (ts.map V.ref)) → ts.length = xs.length →
    (∀ (j : Nat) (t : Addr), ts[j]? = some t → ∃ x y, xs[j]? = some x ∧ ys[j]? = some y ∧ H2 t = some (.tup [x, y])) → Q (.ref l) H2
theorem vals_at : ∀ {xs : List V} {us : List Value} {i : Nat} {u : Value}, Vals xs us → us[i]? = some u → ∃ x, xs[i]? = some x ∧ RelV x u
  | _, _, _, _, .nil, e => by simp at e
  | _, _, 0, _, .cons r _, e => by simp at e; subst e; exact ⟨_, rfl, r⟩
  | _, _, i + 1, u, .cons _ t, e => by
    obtain ⟨x, h1, h2⟩ := vals_at (i := i) (u := u) t (by simpa using e)
    exact ⟨x, by simpa using h1, h2⟩
theorem pe_listzip {X : Cx} {e1 e2 : Expr} {ta : TA} {p p2 pos pos2 : Pos} (hc : X.calm = true) (hgl : Gl X "list") (hml : X.mg "list" = none) (hgz : Gl X "zip") (hmz : X.mg "zip" = none) (ha : PA X [e1, e2] ta)
    (hs : starEach [e1, e2] X.env = (false, eval e1 X.env) :: starEach [e2] X.env := by rfl) (hpl : (backTo pos2 (starEach [e2] X.env)).any (·.1) = false := by rfl)
    (hs2 : starEach [.Call (.Name "zip" p2) [e1, e2] [] pos2] X.env = (false, eval (.Call (.Name "zip" p2) [e1, e2] [] pos2) X.env) :: starEach [] X.env := by rfl) (hpl2 : (backTo pos (starEach [] X.env)).any (·.1) = false := by rfl) :
    PE X (.Call (.Name "list" p) [.Call (.Name "zip" p2) [e1, e2] [] pos2] [] pos) (tLZ X.K ta) := by
  refine ⟨fun pins s σ H Q I h => ?_⟩
  refine wpAny_Call_Name_kw (ld_blt I hgl hml PyProof.Rows.boot_list ?_)
  refine PyProof.Rows.callWith_type1 ?_ hs2 hpl2
  rw [hs2]
  show wpAny _ _ (spliced ((false, eval (.Call (.Name "zip" p2) [e1, e2] [] pos2) X.env) :: backTo pos (starEach [] X.env))) _ _ s
  refine Calls.spliced_cons ?_
  refine wpAny_Call_Name_kw (ld_blt I hgz hmz PyProof.Rows.boot_zip ?_)
  refine PyProof.Rows.callWith_type1 (thn (ha.run pos2 pins s σ H _ I h) fun us s1 ⟨vs, H1, I1, r1, a, b, xs, ys, ex, qx, qy, el, q⟩ => ?_) hs hpl
  subst ex
  cases r1 with
  | cons ra rr =>
    cases rr with
    | cons rb rr =>
      cases rr
      cases ra
      cases rb
      obtain ⟨its1, rv1, z1, o1, H1h, St1, B1, at1, la, D1, st1⟩ := src_at I1 qx
      obtain ⟨its2, rv2, z2, o2, H2h, St2, B2, at2, lb, D2, st2⟩ := src_at I1 qy
      obtain ⟨hp, g, dr, tk, os⟩ := s1
      refine zip_begins2 B1 B2 at1 at2 fun h1 hz hTI hTO ho1 ho2 hsz hk => ?_
      dsimp only at hz hTI hTO ho1 ho2 hsz hk
      refine Calls.spliced_nil ?_
      show wpAny _ _ (call (.type "list") [.ref (hp.objs.size + 4)]) _ _ _
      have hh : X.A.handled = none := I1.ok.hd hc
      have ela : its1.toArray.size = xs.length := by simp [rv1.length]
      have elb : its2.toArray.size = xs.length := by simp [rv2.length, el]
      have d1 := D1 X.A.in1.in1.in1 hp.objs.size hh (Nat.ne_of_lt la)
      have d2 := D2 X.A.in1.in1.in1 (hp.objs.size + 1) hh (Nat.ne_of_lt (Nat.lt_succ_of_lt lb))
      rw [ela] at d1
      rw [elb] at d2
      have Z : ZipSep2 (hp.objs.size + 4) (hp.objs.size + 2) (hp.objs.size + 3) hp.objs.size (hp.objs.size + 1) [hp.objs.size, a] [hp.objs.size + 1, b] :=
        zip_sep2 (N := hp.objs.size) (fp1 := [a]) (fp2 := [b]) (fun c hc => by rw [List.mem_singleton.mp hc]; exact la) (fun c hc => by rw [List.mem_singleton.mp hc]; exact lb)
      have lt5 : ∀ {c : Addr}, c < hp.objs.size + 5 → c < h1.objs.size := fun {c} q => by rw [hsz]; exact q
      have n5 : ∀ k : Nat, k < 5 → hp.objs.size + k < hp.objs.size + 5 := fun k q => Nat.add_lt_add_left q _
      have L : PySem.ZipL.Low (hp.objs.size + 4) (hp.objs.size + 2) (hp.objs.size + 3) hp.objs.size (hp.objs.size + 1) h1.objs.size [hp.objs.size, a] [hp.objs.size + 1, b] :=
        ⟨lt5 (n5 4 (by decide)), lt5 (n5 2 (by decide)), lt5 (n5 3 (by decide)), lt5 (n5 0 (by decide)), lt5 (n5 1 (by decide)), fun c hc => by
          rcases List.mem_cons.mp hc with e | hc
          · rw [e]; exact lt5 (n5 0 (by decide))
          · rw [List.mem_singleton.mp hc]; exact lt5 (Nat.lt_of_lt_of_le la (Nat.le_add_right _ _)), fun c hc => by
          rcases List.mem_cons.mp hc with e | hc
          · rw [e]; exact lt5 (n5 1 (by decide))
          · rw [List.mem_singleton.mp hc]; exact lt5 (Nat.lt_of_lt_of_le lb (Nat.le_add_right _ _))⟩
      refine PySem.ZipL.zCall (s := ⟨h1, g, dr, tk, os⟩) hh Z L d1 d2 z1 hz ⟨_, _, hTO⟩ hTI (st1 h1 _ ho1 hk) (st2 h1 _ ho2 hk) fun h' tk' acc c as hk' hS hl hG hacc => ?_
      dsimp only at hk' hS hl hG hacc
      have ge : ∀ {c : Addr} {o : Obj}, hp.get? c = some o → c < hp.objs.size := fun e => Heap.lt_size e
      have nk : ∀ k : Nat, ∀ {c : Addr} {o : Obj}, hp.get? c = some o → c ≠ hp.objs.size + k := fun k c o e => Nat.ne_of_lt (Nat.lt_of_lt_of_le (ge e) (Nat.le_add_right _ _))
      have keep : ∀ c o, hp.get? c = some o → h'.get? c = some o := fun c o e => hk' c o (nk 4 e) (nk 3 e) (nk 0 e) (nk 1 e) (hk c o e)
      have lS : hp.objs.size ≤ h1.objs.size := by rw [hsz]; exact Nat.le_add_right _ _
      have lAs : ∀ t ∈ as, hp.objs.size ≤ t := fun t ht => Nat.le_trans lS (Nat.le_of_lt (hG.above t ht))
      have nl : ∀ t ∈ as, t ≠ h1.objs.size := fun t ht => Nat.ne_of_gt (hG.above t ht)
      let H2 : Hp := fun c => if c = h1.objs.size then some (.lst (as.map V.ref)) else if c ∈ as then some (.tup (tupOf h' c)) else H1 c
      have old : ∀ c, c < hp.objs.size → H2 c = H1 c := fun c hc => by
        show (if c = h1.objs.size then some (HO.lst (as.map V.ref)) else if c ∈ as then some (.tup (tupOf h' c)) else H1 c) = H1 c
        rw [if_neg (Nat.ne_of_lt (Nat.lt_of_lt_of_le hc lS)), if_neg (fun m => absurd (Nat.lt_of_lt_of_le hc (lAs c m)) (Nat.lt_irrefl _))]
      have newL : H2 h1.objs.size = some (.lst (as.map V.ref)) := if_pos rfl
      have newT : ∀ t ∈ as, H2 t = some (.tup (tupOf h' t)) := fun t ht => by
        show (if t = h1.objs.size then some (HO.lst (as.map V.ref)) else if t ∈ as then some (.tup (tupOf h' t)) else H1 t) = _
        rw [if_neg (nl t ht), if_pos ht]
      have pairs : ∀ (j : Nat) (t : Addr), as[j]? = some t → ∃ x y u v, xs[j]? = some u ∧ ys[j]? = some v ∧ RelV u x ∧ RelV v y ∧ h'.get? t = some { cls := .type "tuple", data := .seq #[x, y] } := fun j t hj => by
        obtain ⟨x, y, p1, p2, e⟩ := hG.pairs j t hj
        obtain ⟨u, hu, ru⟩ := vals_at rv1 (show its1[j]? = some x by simpa using p1)
        obtain ⟨v, hv, rv⟩ := vals_at rv2 (show its2[j]? = some y by simpa using p2)
        exact ⟨x, y, u, v, hu, hv, ru, rv, e⟩
      have same : Same H1 H2 := fun c o e => (old c (I1.hok.lt e)).trans e
      have hok2 : HOk X.prog X.w H2 h' := fun c o e => by
        by_cases c1 : c = h1.objs.size
        · subst c1
          rw [newL] at e
          cases e
          have rl : Vals (as.map V.ref) acc.toList := by
            rw [hacc]
            clear hl hG pairs newT old newL nl lAs hacc same
            induction as with
            | nil => exact .nil
            | cons t r ih => exact .cons rfl (ih )
          refine ⟨by rw [List.length_map, hl]; exact z1, acc.toList, c, rl, ?_⟩
          rw [hS]
        · by_cases c2 : c ∈ as
          · rw [newT c c2] at e
            cases e
            obtain ⟨j, hj⟩ := List.mem_iff_getElem?.mp c2
            obtain ⟨x, y, u, v, hu, hv, ru, rv, e⟩ := pairs j c hj
            rw [tupOf_pair e ru rv]
            exact ⟨by show 2 ≤ sizeLine; decide, [x, y], .cons ru (.cons rv .nil), _, e, rfl, _, rfl⟩
          · have e' : H1 c = some o := by
              have z : H2 c = H1 c := by
                show (if c = h1.objs.size then some (HO.lst (as.map V.ref)) else if c ∈ as then some (.tup (tupOf h' c)) else H1 c) = H1 c
                rw [if_neg c1, if_neg c2]
              rw [← z]
              exact e
            exact (I1.hok c o e').stay (fun d u _ r => keep d u r) (fun d r => same d _ r) fun d zs r => same d _ r
      have I2 : Inv X pins σ H2 ⟨h', g, dr, tk', os⟩ := I1.grown (t' := tk') keep old hok2
      refine ⟨.ref h1.objs.size, H2, I2, rfl, q h1.objs.size as H2 same (I1.hok.fresh lS) newL hl fun j t hj => ?_⟩
      obtain ⟨x, y, u, v, hu, hv, ru, rv, e⟩ := pairs j t hj
      refine ⟨u, v, hu, hv, ?_⟩
      rw [newT t (List.mem_of_getElem? hj), tupOf_pair e ru rv]
end L2

set_option Elab.async false
set_option linter.all false
set_option maxRecDepth 100000
set_option maxHeartbeats 4000000
/-! The program's own: its text by places, a def as it stands, a def that keeps its promise. -/
namespace K99
open PySem PySem.Spec PyProof.Rows L2
abbrev prog : Program := PySem.Challenge.pw_throughdoors_k99_whole_errors
def top (i : Nat) : Stmt := PySem.Challenge.pw_throughdoors_k99_whole_errors.main.body.getD i (.Pass ⟨0, 0, 0, 0⟩)
/-- the def st is what the module's name x stands for -/
def Df (K : PySem.W.Frag) (mg : Str → Option Value) (x : Str) (st : Stmt) (ps : List Str) : Prop := ∃ (f : Addr) (fd : FuncData), FunD K x x (defArgs st) (defBody st) (defScope st) [] [] f fd ∧ mg x = some (.ref f) ∧ Binds K fd ps []
/-- .. and it keeps the promise sp -/
def Cal (P : Program) (w : World) (K : PySem.W.Frag) (mg : Str → Option Value) (base : Heap) (CX : CXT) (k : Nat) (x : Str) (ps : List Str) (sp : Sp) : Prop :=
  ∃ (f : Addr) (fd : FuncData), FnOk P w K mg base CX k f fd ps sp ∧ mg x = some (.ref f) ∧ PySem.W.keepIn K (.ref f) = true ∧ Binds K fd ps []
section
variable {P : Program} {w : World} {K : PySem.W.Frag} {mg : Str → Option Value} {base : Heap} {CX : CXT} {k j : Nat} {x : Str} {st : Stmt} {ps N : List Str} {sp sp' : Sp}
theorem Cal.mono (C : Cal P w K mg base CX j x ps sp) (h : j ≤ k) : Cal P w K mg base CX k x ps sp := by
  obtain ⟨f, fd, F, r⟩ := C
  exact ⟨f, fd, F.mono h, r⟩
theorem Cal.imp (C : Cal P w K mg base CX k x ps sp) (h : ∀ vs H Q E, sp' vs H Q E → sp vs H Q E) : Cal P w K mg base CX k x ps sp' := by
  obtain ⟨f, fd, F, r⟩ := C
  exact ⟨f, fd, F.imp h, r⟩
theorem Df.cal (D : Df K mg x st ps) (S : FnScope N ps (defScope st)) (len : ∀ vs H Q E, sp vs H Q E → vs.length = ps.length)
    (hbody : ∀ (cdv : Value) (f : Addr) (A : Around) (outer : List Env) (s : Shared) (H : Hp) (vs : List V) (Q : VK) (E : XK), Room k (A.deeper (envOfC x (defScope st) s.heap.objs.size f cdv)) → sp vs H Q E →
      ∃ t, PSs (cxOf CX P w K mg base N x (defScope st) f cdv A outer s H E) (defBody st) t ∧ t { nx := fun _ H' => Q .non H', rt := Q } (start N vs) H) : Cal P w K mg base CX (k + 1) x ps sp := by
  obtain ⟨f, fd, F, m, b⟩ := D
  exact ⟨f, fd, F.ok S len fun cdv A outer s H vs Q E hr hsp => hbody cdv f A outer s H vs Q E hr hsp, m, F.kp, b⟩
/-- a def that lets nothing out -/
theorem Df.cal0 (D : Df K mg x st ps) (S : FnScope N ps (defScope st)) (len : ∀ vs H Q E, sp vs H Q E → vs.length = ps.length)
    (hbody : ∀ (cdv : Value) (f : Addr) (A : Around) (outer : List Env) (s : Shared) (H : Hp) (vs : List V) (Q : VK) (E : XK), Room k (A.deeper (envOfC x (defScope st) s.heap.objs.size f cdv)) → sp vs H Q E →
      ∃ t, PSs (cxOf CX0 P w K mg base N x (defScope st) f cdv A outer s H E).nox (defBody st) t ∧ t { nx := fun _ H' => Q .non H', rt := Q } (start N vs) H) : Cal P w K mg base CX0 (k + 1) x ps sp :=
  D.cal S len fun cdv f A outer s H vs Q E hr hsp => by
    obtain ⟨t, h1, h2⟩ := hbody cdv f A outer s H vs Q E hr hsp
    exact ⟨t, h1.nox, h2⟩
end
section
variable {X : Cx} {CX : CXT} {k : Nat} {ps : List Str} {sp : Sp} {E : XK} {x : Str} {p pos : Pos} {e : Expr} {es : List Expr} {t : TA}
theorem pe_cal (C : Cal X.prog X.w X.K X.mg X.base CX k x ps sp) (hr : Room k X.A) (hg : Gl X x) (hx : Passes CX X E) (ha : PA X (e :: es) t)
    (hdb : (x == ("__debug__" : Str)) = false := by decide) (he : starEach (e :: es) X.env = (false, eval e X.env) :: starEach es X.env := by rfl) (hpl : (backTo pos (starEach es X.env)).any (·.1) = false := by rfl) :
    PE X (.Call (.Name x p) (e :: es) [] pos) (tCall sp [] E t) := by
  obtain ⟨f, fd, F, m, kp, b⟩ := C
  exact pe_call F hr hg m kp b .nil hx ha hdb he hpl
theorem pe_cal0 (C : Cal X.prog X.w X.K X.mg X.base CX0 k x ps sp) (hr : Room k X.A) (ha : PA X (e :: es) t) (hg : Gl X x := by rfl)
    (hdb : (x == ("__debug__" : Str)) = false := by decide) (he : starEach (e :: es) X.env = (false, eval e X.env) :: starEach es X.env := by rfl) (hpl : (backTo pos (starEach es X.env)).any (·.1) = false := by rfl) :
    PE X (.Call (.Name x p) (e :: es) [] pos) (tCall sp [] E0 t) := pe_cal C hr hg pass0 ha hdb he hpl
/-- .. what it lets out is wished for at the caller's slots -/
theorem pe_calS {W : WX} (C : Cal X.prog X.w X.K X.mg X.base (L2.CX X.prog X.w) k x ps sp) (hr : Room k X.A) (tk : Takes X W) (ha : PA X (e :: es) t) (hg : Gl X x := by rfl)
    (hdb : (x == ("__debug__" : Str)) = false := by decide) (he : starEach (e :: es) X.env = (false, eval e X.env) :: starEach es X.env := by rfl) (hpl : (backTo pos (starEach es X.env)).any (·.1) = false := by rfl) :
    PE X (.Call (.Name x p) (e :: es) [] pos) (tCallS sp (WE W) t) := by
  obtain ⟨f, fd, F, m, kp, b⟩ := C
  exact pe_callS F hr hg m kp b (fun σ => passAt tk σ) ha hdb he hpl
end
theorem if_t {c : Bool} {A B : Prop} (hc : c = true) (h : A) : if c = true then A else B := by
  rw [if_pos hc]
  exact h
theorem if_f {c : Bool} {A B : Prop} (hc : c = false) (h : B) : if c = true then A else B := by
  rw [hc, if_neg Bool.false_ne_true]
  exact h
theorem if_b {c : Bool} {A B : Prop} (ht : c = true → A) (hf : c = false → B) : if c = true then A else B := by
  cases c with
  | true => exact if_t rfl (ht rfl)
  | false => exact if_f rfl (hf rfl)
theorem at_int {α : Type} {xs : List α} {i : Int} {v : α} (h0 : 0 ≤ i) (h : xs[i.toNat]? = some v) : atI xs i = some v := by
  have e : i = (i.toNat : Int) := by omega
  rw [e]
  exact atI_nat h
/-- one sign thirty times -/
theorem op_repS {X : Cx} : OpR X (binaryOp .Mult) (fun x y H Q => x = .str "x" ∧ y = .int 30 ∧ ∀ z', Q (.str z') H) := by
  intro pins s σ H x y v u Q I rx ry h
  obtain ⟨rfl, rfl, q⟩ := h
  obtain ⟨t, rfl⟩ := rx
  obtain ⟨t', rfl⟩ := ry
  refine PySem.P.mul_str (by decide) (fun _ _ => by decide +kernel) (fun _ _ => by decide +kernel) ?_
  rw [if_neg (by decide), if_neg (by decide +kernel)]
  exact ⟨by decide +kernel, ⟨.str _, H, I.tok _, ⟨_, rfl⟩, q _⟩⟩
theorem if_c {c : Bool} {u v : V} {σ : L2.St} {H : Hp} {Qk : VK} (h : ∀ z, (c = true → z = u) → (c = false → z = v) → Qk z H) : if c = true then tC u σ H Qk else tC v σ H Qk := by
  cases c with
  | true => exact if_t rfl (h u (fun _ => rfl) (fun e => Bool.noConfusion e))
  | false => exact if_f rfl (h v (fun e => Bool.noConfusion e) (fun _ => rfl))
/-- the promise that nobody can ask for -/
theorem Df.cal9 {P : Program} {w : World} {K : PySem.W.Frag} {mg : Str → Option Value} {base : Heap} {CX : CXT} {k : Nat} {x : Str} {st : Stmt} {ps : List Str} (D : Df K mg x st ps) : Cal P w K mg base CX k x ps (fun _ _ _ _ => False) := by
  obtain ⟨f, fd, F, m, b⟩ := D
  exact ⟨f, fd, ⟨fun _ _ _ _ h => h.elim, fun _ _ _ _ _ _ _ _ _ _ _ _ _ h => h.elim⟩, m, F.kp, b⟩
/-- a statement, then the rest, by a word between them -/
def tMid (t u : TS) : TS := fun D σ H => ∃ J : L2.St → Hp → Prop, t { D with nx := J } σ H ∧ ∀ σ' H', J σ' H' → u D σ' H'
theorem pss_mid {X : Cx} {st : Stmt} {rest : List Stmt} {t u : TS} (h1 : PS X st t) (h2 : PSs X rest u) : PSs X (st :: rest) (tMid t u) := by
  refine ⟨fun pins s σ H D I ⟨J, hm, hu⟩ => ?_⟩
  refine wpAny_execs_cons (thn (h1.run pins s σ H { D with nx := J } I hm) fun fl s1 q => ?_)
  cases fl with
  | next =>
    obtain ⟨σ', H', I', q⟩ := q
    exact h2.run pins s1 σ' H' D I' (hu σ' H' q)
  | ret v => exact q
  | brk => exact q
  | cont => exact q
/-- what follows where nothing that stood has gone -/
theorem same_upd {H : Hp} {a : Addr} {o : HO} (h : H a = none) : Same H (upd H a o) := fun b u e => by
  rw [upd_ne (ne_of_none e h)]
  exact e
theorem _root_.L2.Same.new {H H' : Hp} {a : Addr} {o : HO} (s : Same H H') (h : H' a = none) : Same H (upd H' a o) := s.trans (same_upd h)
theorem _root_.L2.Same.none {H H' : Hp} {a : Addr} (s : Same H H') (h : H' a = none) : H a = none := s.free h
/-- all but p is as it was -/
def But (p : Addr) (H H' : Hp) : Prop := ∀ b o, b ≠ p → H b = some o → H' b = some o
theorem But.refl (p : Addr) (H : Hp) : But p H H := fun _ _ _ e => e
theorem But.trans {p : Addr} {H H1 H2 : Hp} (a : But p H H1) (b : But p H1 H2) : But p H H2 := fun c o n e => b c o n (a c o n e)
theorem But.of {p : Addr} {H H' : Hp} (s : Same H H') : But p H H' := fun b o _ e => s b o e
theorem but_upd {p : Addr} {H : Hp} {o : HO} : But p H (upd H p o) := fun b u n e => by
  rw [upd_ne n]
  exact e
end K99

set_option Elab.async false
set_option linter.all false
set_option maxRecDepth 100000
set_option maxHeartbeats 4000000
/-! The draws: take, pool. -/
namespace K99
open PySem PySem.Spec PyProof.Rows L2
/-- the built-ins that the law names -/
structure Tb (mg : Str → Option Value) : Prop where
  n_len : mg "len" = none
  n_int : mg "int" = none
  n_abs : mg "abs" = none
  n_range : mg "range" = none
  n_isinstance : mg "isinstance" = none
  n_list : mg "list" = none
  n_zip : mg "zip" = none
  n_tuple : mg "tuple" = none
  n_bool : mg "bool" = none
  n_str : mg "str" = none
  n_ValueError : mg "ValueError" = none
  n_LookupError : mg "LookupError" = none
  n_ArithmeticError : mg "ArithmeticError" = none
  n_TypeError : mg "TypeError" = none
  n_RuntimeError : mg "RuntimeError" = none
  n_AttributeError : mg "AttributeError" = none
/-- a pool at p, its cells at q -/
def Pool (H : Hp) (p q : Addr) : Prop := ∃ (a b c : Int) (cells : List Int), H p = some (.lst [.int a, .int b, .int c, .ref q]) ∧ H q = some (.lst (cells.map V.int)) ∧ 0 ≤ b ∧ ∀ x ∈ cells, 0 ≤ x
theorem Pool.ne {H : Hp} {p q : Addr} (h : Pool H p q) : q ≠ p := by
  obtain ⟨a, b, c, cells, hp, hq, _, _⟩ := h
  intro e
  rw [e, hp] at hq
  have z := HO.lst.inj (Option.some.inj hq)
  rcases cells with _ | ⟨_, _ | ⟨_, _ | ⟨_, _ | ⟨_, _⟩⟩⟩⟩ <;> simp at z
/-- many in 1 .. 2 ^ 30: a number below it; the pool alone has changed -/
def spTake : Sp := fun vs H Q _ => ∃ (p q : Addr) (m : Int), vs = [.ref p, .int m] ∧ 0 < m ∧ m < 1073741824 ∧ Pool H p q ∧
  ∀ (t : Int) (H' : Hp), 0 ≤ t → t < m → Pool H' p q → But p H H' → (∀ b, b ≠ p → H' b = H b) → Q (.int t) H'
theorem Pool.put {H : Hp} {p q : Addr} {a b c : Int} {cells : List Int} (hq : H q = some (.lst (cells.map V.int))) (ne : q ≠ p) (hb : 0 ≤ b) (hc : ∀ x ∈ cells, 0 ≤ x) : Pool (upd H p (.lst [.int a, .int b, .int c, .ref q])) p q :=
  ⟨a, b, c, cells, upd_same, by rw [upd_ne ne]; exact hq, hb, hc⟩
abbrev s_take : Stmt := top 21
theorem sc_take : FnScope ["pool", "many", "told", "fresh"] ["pool", "many"] (defScope s_take) := ⟨rfl, rfl, rfl, by decide +kernel, rfl, by decide +kernel, by decide +kernel⟩

abbrev s_pool : Stmt := top 20
theorem sc_pool : FnScope ["script", "cell"] ["script"] (defScope s_pool) := ⟨rfl, rfl, rfl, by decide +kernel, rfl, by decide +kernel, by decide +kernel⟩
section
variable {P : Program} {w : World} {K : PySem.W.Frag} {mg : Str → Option Value} {base : Heap}
theorem ok_take (D : Df K mg "_law_take" s_take ["pool", "many"]) (T : Tb mg) : Cal P w K mg base CX0 1 "_law_take" ["pool", "many"] spTake := by
  refine D.cal0 sc_take (fun vs H Q E h => ?_) (fun cdv f A outer s H vs Q E hr h => ⟨_,
    (pss_cons (ps_if (pt_cmpR op_gt (pe_ix ix_list (pv 0) pe_int (fun _ _ => rfl)) pe_int (nomark _)) (pss_cons (ps_set (i := 2) sc_take.nd rfl (Or.inl rfl) (pe_op op_mod (pe_callTy call_int1 (by rfl) T.n_int (by decide +kernel) (pa_cons (pe_ix ix_list (pv 0) pe_int (fun _ _ => rfl)) pa_nil)) (pv 1)))
      (pss_cons (ps_asg (pe_op op_fdiv (pe_callTy call_int1 (by rfl) T.n_int (by decide +kernel) (pa_cons (pe_ix ix_list (pv 0) pe_int (fun _ _ => rfl)) pa_nil)) (pv 1)) (pg_sub (pv 0) pe_int set_list))
      (pss_one (ps_ret (pv 2))))) pss_nil)
      (pss_cons (ps_set (i := 3) sc_take.nd rfl (Or.inl rfl) pe_int)
      (pss_mid (ps_if (pt_cmpR op_lt (pe_ix ix_list (pv 0) pe_int (fun _ _ => rfl)) (pe_callB call_len (by rfl) T.n_len (by decide +kernel) (pa_cons (pe_ix ix_list (pv 0) pe_int (fun _ _ => rfl)) pa_nil)) (nomark _)) (pss_cons (ps_set (i := 3) sc_take.nd rfl (Or.inl rfl) (pe_ix ix_list (pe_ix ix_list (pv 0) pe_int (fun _ _ => rfl)) (pe_ix ix_list (pv 0) pe_int (fun _ _ => rfl)) (fun _ _ => rfl)))
      (pss_one (ps_asg (pe_op op_add (pe_ix ix_list (pv 0) pe_int (fun _ _ => rfl)) pe_int) (pg_sub (pv 0) pe_int set_list)))) pss_nil)
      (pss_cons (ps_if (pt_cmpR op_ge (pv 3) (pe_op op_pow pe_int pe_int) (nomark _)) (pss_cons (ps_asg (pe_op op_fdiv (pv 3) (pv 1)) (pg_sub (pv 0) pe_int set_list))
      (pss_one (ps_ret (pe_op op_mod (pe_callTy call_int1 (by rfl) T.n_int (by decide +kernel) (pa_cons (pv 3) pa_nil)) (pv 1))))) pss_nil)
      (pss_cons (ps_asg (pe_op op_mod (pe_callTy call_int1 (by rfl) T.n_int (by decide +kernel) (pa_cons (pe_op op_add (pe_op op_add (pe_op op_mul (pe_ix ix_list (pv 0) pe_int (fun _ _ => rfl)) pe_int) (pe_op op_mul (pv 3) pe_int)) pe_int) pa_nil)) pe_int) (pg_sub (pv 0) pe_int set_list))
      (pss_one (ps_ret (pe_op op_mod (pe_callTy call_int1 (by rfl) T.n_int (by decide +kernel) (pa_cons (pe_op op_fdiv (pe_op op_mod (pe_op op_mul (pe_ix ix_list (pv 0) pe_int (fun _ _ => rfl)) pe_int) pe_int) pe_int) pa_nil)) (pv 1))))))))), ?_⟩)
  · obtain ⟨p, q, m, rfl, _⟩ := h
    rfl
  · obtain ⟨p, q, m, rfl, hm, hm2, hP, k⟩ := h
    have ne := hP.ne
    obtain ⟨a, b, c, cells, hp, hq, hb, hc⟩ := hP
    have fin : ∀ {H1 : Hp} {a b c t : Int}, H1 q = some (.lst (cells.map V.int)) → (∀ d, d ≠ p → H1 d = H d) → 0 ≤ b → 0 ≤ t → t < m → Q (.int t) (upd H1 p (.lst [.int a, .int b, .int c, .ref q])) := fun {H1 a b c t} h1 h2 h3 h4 h5 =>
      k _ _ h4 h5 (Pool.put h1 ne h3 hc) (fun d o n e => by rw [upd_ne n, h2 d n]; exact e) fun d n => by rw [upd_ne n, h2 d n]
    have md : ∀ x : Int, 0 ≤ x % m ∧ x % m < m := fun x => ⟨Int.emod_nonneg _ (by omega), Int.emod_lt_of_pos _ hm⟩
    refine ⟨_, rfl, p, _, 2, .int c, rfl, rfl, SqL.of hp, rfl, _, _, rfl, rfl, _, rfl, ?_⟩
    refine if_b (fun h => ?_) (fun h => ?_)
    · refine ⟨_, rfl, p, _, 2, .int c, rfl, rfl, SqL.of hp, rfl, .inl ⟨_, rfl, _, rfl, _, _, rfl, rfl, hm, ?_⟩⟩
      refine ⟨_, rfl, p, _, 2, .int c, rfl, rfl, SqL.of hp, rfl, .inl ⟨_, rfl, _, rfl, _, _, rfl, rfl, ⟨hm, hm2⟩, ?_⟩⟩
      refine ⟨_, rfl, p, _, _, 2, rfl, rfl, hp, rfl, ?_⟩
      refine ⟨_, rfl, ?_⟩
      exact fin hq (fun _ _ => rfl) hb (md _).1 (md _).2
    · have b2 : 0 ≤ b := hb
      refine ⟨fun σ' H' => ∃ (b' f : Int) (g : Option V), σ' = [some (.ref p), some (.int m), g, some (.int f)] ∧ H' p = some (.lst [.int a, .int b', .int c, .ref q]) ∧ H' q = some (.lst (cells.map V.int)) ∧ (∀ d, d ≠ p → H' d = H d) ∧ 0 ≤ b' ∧ 0 ≤ f, ?_, ?_⟩
      · refine ⟨_, rfl, p, _, 1, .int b, rfl, rfl, SqL.of hp, rfl, _, rfl, p, _, 3, .ref q, rfl, rfl, SqL.of hp, rfl, .ref q, _, rfl, .inl ⟨_, SqL.of hq, rfl⟩, _, _, rfl, rfl, _, rfl, ?_⟩
        refine if_b (fun h => ?_) (fun h => ?_)
        · have hlt : b.toNat < cells.length := by
            have h' := of_decide_eq_true h
            simp at h'
            omega
          refine ⟨_, rfl, p, _, 3, .ref q, rfl, rfl, SqL.of hp, rfl, _, rfl, p, _, 1, .int b, rfl, rfl, SqL.of hp, rfl, q, _, b, .int (cells[b.toNat]'hlt), rfl, rfl, SqL.of hq, ?_, ?_⟩
          · exact at_int hb (by simp [hlt])
          · refine ⟨_, rfl, p, _, 1, .int b, rfl, rfl, SqL.of hp, rfl, _, _, rfl, rfl, ?_⟩
            refine ⟨_, rfl, p, _, _, 1, rfl, rfl, hp, rfl, ?_⟩
            exact ⟨b + 1, _, _, rfl, upd_same, by rw [upd_ne ne]; exact hq, fun d n => upd_ne n, by omega, hc _ (List.getElem_mem _)⟩
        · exact ⟨b, 0, _, rfl, hp, hq, fun _ _ => rfl, hb, Int.le_refl _⟩
      · rintro σ' H' ⟨b', fr, g, rfl, hp, hq, ho, hb', hf⟩
        refine ⟨_, rfl, _, _, rfl, rfl, ⟨by decide, by decide, by decide⟩, _, _, rfl, rfl, _, rfl, ?_⟩
        refine if_b (fun h => ?_) (fun h => ?_)
        · refine ⟨_, rfl, _, rfl, _, _, rfl, rfl, ⟨hm, hm2⟩, ?_⟩
          refine ⟨_, rfl, p, _, _, 2, rfl, rfl, hp, rfl, ?_⟩
          refine ⟨_, rfl, .inl ⟨_, rfl, _, rfl, _, _, rfl, rfl, hm, ?_⟩⟩
          exact fin hq ho hb' (md _).1 (md _).2
        · refine ⟨_, rfl, p, _, 0, .int a, rfl, rfl, SqL.of hp, rfl, _, _, rfl, rfl, .inr (by decide), ?_⟩
          refine ⟨_, rfl, _, _, rfl, rfl, .inr (by decide), _, _, rfl, rfl, _, _, rfl, rfl, .inl ⟨_, rfl, _, _, rfl, rfl, (show (0 : Int) < 2147483647 by decide), ?_⟩⟩
          refine ⟨_, rfl, p, _, _, 0, rfl, rfl, hp, rfl, ?_⟩
          refine ⟨_, rfl, p, _, 0, _, rfl, rfl, SqL.of upd_same, rfl, _, _, rfl, rfl, .inr (by decide), _, _, rfl, rfl, (show (0 : Int) < 2147483647 by decide), _, _, rfl, rfl, ⟨by decide, by decide⟩, .inl ⟨_, rfl, _, rfl, _, _, rfl, rfl, hm, ?_⟩⟩
          exact fin hq ho hb' (md _).1 (md _).2
/-- a script of at most 63 ints: a new pool -/
def spPool (K : PySem.W.Frag) : Sp := fun vs H Q _ => ∃ (a : Addr) (ns : List Int), vs = [.ref a] ∧ SqL K H a (ns.map V.int) ∧ ns.length ≤ 63 ∧
  ∀ (p q : Addr) (H' : Hp), Pool H' p q → Same H H' → H p = none → H q = none → Q (.ref p) H'
theorem cut_int {ns : List Int} {lo hi : Option Int} {i : Nat} {x : V} (h : (cutV (ns.map V.int) lo hi)[i]? = some x) : ∃ n, x = .int n := by
  have m := List.mem_of_getElem? h
  unfold cutV at m
  have m2 := List.mem_of_mem_drop (List.mem_of_mem_take m)
  obtain ⟨n, _, e⟩ := List.mem_map.mp m2
  exact ⟨n, e.symm⟩
theorem ok_pool (D : Df K mg "_law_pool" s_pool ["script"]) (T : Tb mg) : Cal P w K mg base CX0 1 "_law_pool" ["script"] (spPool K) := by
  refine D.cal0 sc_pool (fun vs H Q E h => ?_) (fun cdv f A outer s H vs Q E hr h => ⟨_,
    (pss_one (ps_ret (pe_lst (pa_cons (pe_op op_add pe_int (pe_op op_mul pe_int (pe_callB call_len (by rfl) T.n_len (by decide +kernel) (pa_cons (pe_slice sl_list (pv 0) po_none (po_some pe_int)) pa_nil)))) (pa_cons pe_int (pa_cons pe_int (pa_cons (pe_lc (own := [("cell", 1)]) rfl sc_pool.nd (pi_list (pe_slice sl_list (pv 0) po_none (po_some pe_int))) (blkOk_by (N := ["script", "cell"]) (sc := defScope s_pool) (by decide +kernel)) (fun _ _ _ _ _ => pg_name (i := 1) sc_pool.nd rfl (Or.inl rfl)) (fun _ _ _ _ _ => pts_nil) (fun _ _ _ _ _ => (pe_callB call_abs (by rfl) T.n_abs (by decide +kernel) (pa_cons (pe_callTy call_int1 (by rfl) T.n_int (by decide +kernel) (pa_cons (pv 1) pa_nil)) pa_nil)))) pa_nil))))))), ?_⟩)
  · obtain ⟨a, ns, rfl, _⟩ := h
    rfl
  · obtain ⟨a, ns, rfl, hS, hl, k⟩ := h
    refine ⟨_, rfl, _, rfl, a, _, rfl, hS, fun p1 n1 => ?_⟩
    refine ⟨_, _, rfl, .inl ⟨_, SqL.of upd_same, rfl⟩, _, _, rfl, rfl, .inl (by decide), _, _, rfl, rfl, ?_⟩
    have hS1 : SqL K (upd H p1 (.lst (cutV (ns.map V.int) none (some 63)))) a (ns.map V.int) := (same_upd n1).seq hS
    refine ⟨_, rfl, _, rfl, a, _, rfl, hS1, fun p2 n2 => ?_⟩
    have S2 : Same H (upd (upd H p1 (.lst (cutV (ns.map V.int) none (some 63)))) p2 (.lst (cutV (ns.map V.int) none (some 63)))) := (same_upd n1).new n2
    refine ⟨p2, rfl, ⟨_, SqL.of upd_same⟩, fun d nd => ?_⟩
    have hd2 : p2 ≠ d := ne_of_none upd_same nd
    have hlen : (cutV (ns.map V.int) none (some 63)).length ≤ 63 := Nat.le_trans (cutV_length _ _ _) (by rw [List.length_map]; exact hl)
    have nH : H d = none := S2.none nd
    refine lc_list (K := K) (a := p2) (xs := cutV (ns.map V.int) none (some 63)) (fun i H' => ∃ cs : List Int, H' d = some (.lst (cs.map V.int)) ∧ (∀ x ∈ cs, 0 ≤ x) ∧ cs.length = i ∧ Same H H' ∧ H' p2 = some (.lst (cutV (ns.map V.int) none (some 63))))
      ⟨[], upd_same, fun _ h => (nomatch h), rfl, S2.new nd, by rw [upd_ne hd2, upd_same]⟩ (fun i H' _ ⟨_, _, _, _, _, e⟩ => SqL.of e) ?_ ?_
    · rintro i x H' hx ⟨cs, e1, e2, e3, e4, e5⟩
      obtain ⟨n, rfl⟩ := cut_int hx
      have hi : i < 63 := Nat.lt_of_lt_of_le (List.getElem?_eq_some_iff.mp hx).1 hlen
      refine ⟨rfl, ?_⟩
      refine ⟨_, rfl, .inl ⟨_, rfl, _, rfl, ?_⟩⟩
      refine ⟨_, e1, by rw [List.length_map, e3]; exact small1000 (by omega), cs ++ [if n < 0 then -n else n], ?_, ?_, ?_, ?_, ?_⟩
      · rw [List.map_append]
        exact upd_same
      · intro y hy
        rcases List.mem_append.mp hy with hy | hy
        · exact e2 y hy
        · rw [List.mem_singleton.mp hy]
          split <;> omega
      · rw [List.length_append, e3]
        rfl
      · intro b o e
        have : b ≠ d := fun z => by rw [z, nH] at e; cases e
        rw [upd_ne this]
        exact e4 b o e
      · rw [upd_ne hd2]
        exact e5
    · rintro H' ⟨cs, e1, e2, e3, e4, e5⟩
      refine ⟨(by show 4 ≤ sizeLine; decide), fun p hp => ?_⟩
      have ne : d ≠ p := ne_of_none e1 hp
      exact k p d _ ⟨_, _, _, cs, upd_same, by rw [upd_ne ne]; exact e1, Int.le_refl _, e2⟩ (e4.new hp) (e4.none hp) nH
end
end K99

set_option Elab.async false
set_option linter.all false
set_option maxRecDepth 100000
set_option maxHeartbeats 4000000
/-! thing -/
namespace K99
open PySem PySem.Spec PyProof.Rows L2
abbrev s_thing : Stmt := top 31
theorem sc_thing : FnScope ["pool", "deep", "words", "kind", "plain", "inner", "lap"] ["pool", "deep"] (defScope s_thing) := ⟨rfl, rfl, rfl, by decide +kernel, rfl, by decide +kernel, by decide +kernel⟩
section
variable {P : Program} {w : World} {K : PySem.W.Frag} {mg : Str → Option Value} {base : Heap}
/-- nested things: n deep, at most three in each, of objects that are ok -/
def Th (ok : Addr → Prop) (H : Hp) : Nat → V → Prop
  | 0, v => flatV v = true
  | n + 1, v => flatV v = true ∨ ∃ (a : Addr) (xs : List V), v = .ref a ∧ ok a ∧ (H a = some (.lst xs) ∨ H a = some (.tup xs)) ∧ xs.length ≤ 3 ∧ ∀ x ∈ xs, Th ok H n x
theorem Th.flat {ok : Addr → Prop} {H : Hp} {v : V} (h : flatV v = true) : ∀ n, Th ok H n v
  | 0 => h
  | _ + 1 => .inl h
theorem Th.keep {ok ok' : Addr → Prop} {H H' : Hp} (b : ∀ a o, ok a → H a = some o → ok' a ∧ H' a = some o) : ∀ (n : Nat) (v : V), Th ok H n v → Th ok' H' n v
  | 0, _, h => h
  | n + 1, v, h => by
    rcases h with h | ⟨a, xs, e, ha, hb, hl, hx⟩
    · exact .inl h
    · rcases hb with hb | hb
      · exact .inr ⟨a, xs, e, (b _ _ ha hb).1, .inl (b _ _ ha hb).2, hl, fun x m => Th.keep b n x (hx x m)⟩
      · exact .inr ⟨a, xs, e, (b _ _ ha hb).1, .inr (b _ _ ha hb).2, hl, fun x m => Th.keep b n x (hx x m)⟩
theorem Pool.same {H H' : Hp} {p q : Addr} (h : Pool H p q) (s : Same H H') : Pool H' p q := by
  obtain ⟨a, b, c, cells, hp, hq, hb, hc⟩ := h
  exact ⟨a, b, c, cells, s p _ hp, s q _ hq, hb, hc⟩
theorem Pool.off {H : Hp} {p q a : Addr} (h : Pool H p q) (n : H a = none) : a ≠ p ∧ a ≠ q := by
  obtain ⟨a', b, c, cells, hp, hq, _, _⟩ := h
  refine ⟨fun z => ?_, fun z => ?_⟩
  · rw [z, hp] at n
    cases n
  · rw [z, hq] at n
    cases n
theorem Pool.put2 {H : Hp} {p q a : Addr} {o : HO} (h : Pool H p q) (n1 : a ≠ p) (n2 : a ≠ q) : Pool (upd H a o) p q := by
  obtain ⟨a', b, c, cells, hp, hq, hb, hc⟩ := h
  exact ⟨a', b, c, cells, by rw [upd_ne (Ne.symm n1)]; exact hp, by rw [upd_ne (Ne.symm n2)]; exact hq, hb, hc⟩
/-- what is free behind was free ahead -/
theorem Pool.back {H H' : Hp} {p q a : Addr} (h : Pool H' p q) (b : But p H H') (n : H' a = none) : H a = none := by
  cases e : H a with
  | none => rfl
  | some o =>
    have z := b a o (h.off n).1 e
    rw [n] at z
    cases z
theorem flat_at {xs : List V} {i : Int} (hx : xs.all flatV = true) (h0 : 0 ≤ i) (h1 : i < xs.length) : ∃ v, atI xs i = some v ∧ flatV v = true := by
  have hl : i.toNat < xs.length := by omega
  exact ⟨xs[i.toNat], at_int h0 (by simp [hl]), List.all_eq_true.mp hx _ (List.getElem_mem _)⟩
def spThing (d : Nat) : Sp := fun vs H Q _ => ∃ (p q : Addr), vs = [.ref p, .int (d : Int)] ∧ Pool H p q ∧ ∀ (v : V) (H' : Hp), Pool H' p q → But p H H' → Th (fun a => H a = none) H' d v → Q v H'
theorem thing_step {d j : Nat} {spr : Sp} (hj : 1 ≤ j) (D : Df K mg "_law_thing" s_thing ["pool", "deep"]) (T : Tb mg) (G_take : Cal P w K mg base CX0 1 "_law_take" ["pool", "many"] spTake)
    (G_thing : Cal P w K mg base CX0 j "_law_thing" ["pool", "deep"] spr) (hspr : ∀ e, d = e + 1 → spr = spThing e) : Cal P w K mg base CX0 (j + 1) "_law_thing" ["pool", "deep"] (spThing d) := by
  refine D.cal0 sc_thing (fun vs H Q E h => ?_) (fun cdv f A outer s H vs Q E hr h => ⟨_,
    (pss_cons (ps_set (i := 2) sc_thing.nd rfl (Or.inl rfl) (pe_lst (pa_cons pe_str (pa_cons pe_str (pa_cons pe_str (pa_cons pe_str (pa_cons pe_str (pa_cons pe_str (pa_cons pe_str (pa_cons (pe_op op_repS pe_str pe_int) pa_nil))))))))))
      (pss_cons (ps_set (i := 3) sc_thing.nd rfl (Or.inl rfl) (pe_cal0 G_take (hr.mono hj) (pa_cons (pv 0) (pa_cons (pe_ifExp (pt_cmpR op_gt (pv 1) pe_int (nomark _)) pe_int pe_int) pa_nil))))
      (pss_cons (ps_set (i := 4) sc_thing.nd rfl (Or.inl rfl) (pe_lst (pa_cons (pe_op op_sub (pe_cal0 G_take (hr.mono hj) (pa_cons (pv 0) (pa_cons pe_int pa_nil))) pe_int) (pa_cons pe_int (pa_cons pe_bl (pa_cons pe_non (pa_cons (pe_ix ix_list (pv 2) (pe_cal0 G_take (hr.mono hj) (pa_cons (pv 0) (pa_cons pe_int pa_nil))) (fun _ _ => rfl)) (pa_cons pe_bl pa_nil))))))))
      (pss_cons (ps_if (pt_cmpR op_lt (pv 3) pe_int (nomark _)) (pss_one (ps_ret (pe_ifExp (PW.pt (pw_and (pt_cmpR op_eq (pv 3) pe_int (nomark _)) (pw_and1 (pt_cmpR op_eq (pe_cal0 G_take (hr.mono hj) (pa_cons (pv 0) (pa_cons pe_int pa_nil))) pe_int (nomark _))))) (pe_op op_add (pe_ix ix_list (pe_lst (pa_cons (pe_op op_pow pe_int pe_int) (pa_cons (pe_un un_neg (pe_op op_pow pe_int pe_int)) pa_nil))) (pe_cal0 G_take (hr.mono hj) (pa_cons (pv 0) (pa_cons pe_int pa_nil))) (fun _ _ => rfl)) (pe_cal0 G_take (hr.mono hj) (pa_cons (pv 0) (pa_cons pe_int pa_nil)))) (pe_ix ix_list (pv 4) (pv 3) (fun _ _ => rfl))))) pss_nil)
      (pss_cons (ps_setLc (i := 5) (own := [("lap", 6)]) rfl sc_thing.nd rfl rfl (sw_true rfl rfl rfl (by decide +kernel)) (pi_range1 rfl T.n_range (pa_cons (pe_cal0 G_take (hr.mono hj) (pa_cons (pv 0) (pa_cons pe_int pa_nil))) pa_nil)) (blkOk_by (N := ["pool", "deep", "words", "kind", "plain", "inner", "lap"]) (sc := defScope s_thing) (by decide +kernel)) (fun _ _ _ _ _ => pg_name (i := 6) sc_thing.nd rfl (Or.inl rfl)) (fun _ _ _ _ _ => pts_nil) (fun _ _ _ _ _ => (pe_cal0 G_thing hr (pa_cons (pv 0) (pa_cons (pe_op op_sub (pv 1) pe_int) pa_nil)))))
      (pss_one (ps_ret (pe_ifExp (pt_cmpR op_eq (pv 3) pe_int (nomark _)) (pe_callTy call_tuple_of (by rfl) T.n_tuple (by decide +kernel) (pa_cons (pv 5) pa_nil)) (pv 5))))))))), ?_⟩)
  · obtain ⟨p, q, rfl, _⟩ := h
    rfl
  · obtain ⟨p, q, rfl, hP, k⟩ := h
    have ne := hP.ne
    -- words
    refine ⟨rfl, rfl, fun x30 => ⟨by show 8 ≤ sizeLine; decide, fun pw nw => ?_⟩⟩
    obtain ⟨npw, _⟩ := hP.off nw
    have hws : ∀ o, upd H pw o pw = some o := fun _ => upd_same
    -- kind
    refine ⟨_, rfl, _, rfl, _, _, rfl, rfl, _, rfl, if_c fun z hz1 hz2 => ?_⟩
    obtain ⟨m, rfl, hm0, hm8, hmd⟩ : ∃ m : Int, z = .int m ∧ 0 < m ∧ m ≤ 8 ∧ (d = 0 → m = 6) := by
      by_cases hd : (0 : Int) < (d : Int)
      · exact ⟨8, hz1 (decide_eq_true hd), by decide, by decide, fun e => by omega⟩
      · exact ⟨6, hz2 (decide_eq_false hd), by decide, by decide, fun _ => rfl⟩
    refine ⟨p, q, m, rfl, hm0, by omega, hP.same (same_upd nw), fun kind H2 k0 k1 P2 B2 E2 => ?_⟩
    have hw2 : H2 pw = _ := (E2 pw npw).trans (hws _)
    have BB2 : But p H H2 := (But.of (same_upd nw)).trans B2
    -- plain
    refine ⟨_, rfl, p, q, 5, rfl, by decide, by decide, P2, fun t5 H3 a0 a1 P3 B3 E3 => ⟨_, _, rfl, rfl, ?_⟩⟩
    have hw3 := (E3 pw npw).trans hw2
    refine ⟨_, rfl, _, rfl, p, q, 8, rfl, by decide, by decide, P3, fun t8 H4 b0 b1 P4 B4 E4 => ?_⟩
    have hw4 := (E4 pw npw).trans hw3
    obtain ⟨vw, hv1, hv2⟩ := flat_at (xs := [V.str "", V.str "at", V.str "word", V.str "shape", V.str "a b", V.str "kept", V.str "~ #", V.str x30]) rfl b0 b1
    refine ⟨pw, _, _, vw, rfl, rfl, SqL.of hw4, hv1, by show 6 ≤ sizeLine; decide, fun pp np => ?_⟩
    obtain ⟨npp, _⟩ := P4.off np
    have BB4 : But p H H4 := (BB2.trans B3).trans B4
    refine ⟨_, rfl, _, _, rfl, rfl, _, rfl, if_b (fun hk => ?_) (fun hk => ?_)⟩
    · have k6 : kind < 6 := of_decide_eq_true hk
      -- what ends with a plain thing
      have fin : ∀ (v : V) (H' : Hp), Pool H' p q → But p H4 H' → flatV v = true → Q v H' := fun v H' p1 b1 f1 => k v H' p1 (BB4.trans b1) (Th.flat f1 d)
      have other : ∀ (H' : Hp), Pool H' p q → But p (upd H4 pp (.lst [.int (t5 - 1), .int 1, .bl true, .non, vw, .bl false])) H' → ∃ v, atI [V.int (t5 - 1), .int 1, .bl true, .non, vw, .bl false] kind = some v ∧ Q v H' := fun H' p1 b1 => by
        obtain ⟨v, e1, e2⟩ := flat_at (xs := [V.int (t5 - 1), .int 1, .bl true, .non, vw, .bl false]) (show (true && (true && (true && (true && (flatV vw && (true && true)))))) = true by rw [hv2]; rfl) k0 (by simpa using k6)
        exact ⟨v, e1, fin v H' p1 ((But.of (same_upd np)).trans b1) e2⟩
      refine ⟨_, rfl, rfl, _, rfl, if_b (fun h1 => ?_) (fun h1 => ?_)⟩
      · refine ⟨_, rfl, p, q, 2, rfl, by decide, by decide, P4.same (same_upd np), fun t2 H5 c0 c1 P5 B5 E5 => ⟨rfl, _, rfl, if_b (fun h2 => ?_) (fun h2 => ?_)⟩⟩
        · refine ⟨_, _, rfl, rfl, ⟨by decide, by decide, by decide⟩, _, _, rfl, rfl, ⟨by decide, by decide, by decide⟩, _, rfl, by show 2 ≤ sizeLine; decide, fun pl nl => ?_⟩
          obtain ⟨npl, _⟩ := P5.off nl
          refine ⟨_, rfl, p, q, 2, rfl, by decide, by decide, P5.same (same_upd nl), fun t2b H6 d0 d1 P6 B6 E6 => ?_⟩
          have hl6 := (E6 pl npl).trans upd_same
          have two : ∃ n : Int, atI [V.int ((10 : Int) ^ (59 : Int).toNat), V.int (-(10 : Int) ^ (58 : Int).toNat)] t2b = some (.int n) := by
            have : t2b = 0 ∨ t2b = 1 := by omega
            rcases this with rfl | rfl
            · exact ⟨_, rfl⟩
            · exact ⟨_, rfl⟩
          obtain ⟨n, hn⟩ := two
          refine ⟨pl, _, _, _, rfl, rfl, SqL.of hl6, hn, ?_⟩
          refine ⟨_, rfl, p, q, 9, rfl, by decide, by decide, P6, fun t9 H7 e0 e1 P7 B7 E7 => ⟨_, _, rfl, rfl, ?_⟩⟩
          exact fin _ _ P7 (((((But.of (same_upd np)).trans B5).trans (But.of (same_upd nl))).trans B6).trans B7) rfl
        · obtain ⟨v, e1, e2⟩ := other H5 P5 B5
          exact ⟨_, rfl, _, rfl, pp, _, _, v, rfl, rfl, SqL.of ((E5 pp npp).trans upd_same), e1, e2⟩
      · obtain ⟨v, e1, e2⟩ := other _ (P4.same (same_upd np)) (But.refl _ _)
        exact ⟨_, rfl, _, rfl, pp, _, _, v, rfl, rfl, SqL.of upd_same, e1, e2⟩
    · have k6 : ¬ kind < 6 := of_decide_eq_false hk
      obtain ⟨e, rfl⟩ : ∃ e, d = e + 1 := by
        cases d with
        | zero => exact absurd (hmd rfl) (by omega)
        | succ e => exact ⟨e, rfl⟩
      cases hspr e rfl
      refine ⟨_, rfl, p, q, 4, rfl, by decide, by decide, P4.same (same_upd np), fun t4 H5 c0 c1 P5 B5 E5 => ?_⟩
      have BB5 : But p H H5 := (BB4.trans (But.of (same_upd np))).trans B5
      refine ⟨t4, rfl, by omega, by omega, fun D nD => ?_⟩
      obtain ⟨nDp, nDq⟩ := P5.off nD
      have nDH : H D = none := P5.back BB5 nD
      have clen : ∀ {n : Nat}, n ≤ 3 → n < sizeLine := fun h => small1000 (by omega)
      refine lc_range (lo := 0) (n := t4.toNat) (fun i H' => ∃ xs : List V, H' D = some (.lst xs) ∧ xs.length = i ∧ Pool H' p q ∧ But p H5 H' ∧ ∀ x ∈ xs, Th (fun a => H a = none ∧ a ≠ D) H' e x) ⟨[], upd_same, rfl, P5.same (same_upd nD), But.of (same_upd nD), fun _ h => nomatch h⟩ ?_ ?_
      · rintro i H' hi ⟨xs, x1, x2, x3, x4, x5⟩
        refine ⟨rfl, ?_⟩
        refine ⟨_, rfl, _, rfl, _, _, rfl, rfl, ?_⟩
        have ed : ((e + 1 : Nat) : Int) - 1 = (e : Int) := by omega
        refine ⟨p, q, by show [V.ref p, V.int (((e + 1 : Nat) : Int) - 1)] = _; rw [ed], x3, fun v H'' y1 y2 y3 => ?_⟩
        have backH : ∀ a, H' a = none → H a = none ∧ a ≠ D := fun a n => ⟨x3.back (BB5.trans x4) n, fun z => by rw [z, x1] at n; cases n⟩
        have notp : ∀ a, H a = none → a ≠ p := fun a n => (hP.off n).1
        refine ⟨xs, y2 _ _ nDp x1, clen (by omega), xs ++ [v], upd_same, by rw [List.length_append, x2]; rfl, y1.put2 nDp nDq, fun b o nb eb => ?_, fun x hx => ?_⟩
        · have : b ≠ D := fun z => by rw [z, nD] at eb; cases eb
          rw [upd_ne this]
          exact y2 b o nb (x4 b o nb eb)
        · rcases List.mem_append.mp hx with hx | hx
          · exact Th.keep (fun a o ha eo => ⟨ha, by rw [upd_ne ha.2]; exact y2 a o (notp a ha.1) eo⟩) e x (x5 x hx)
          · rw [List.mem_singleton.mp hx]
            exact Th.keep (fun a o ha eo => ⟨backH a ha, by rw [upd_ne (backH a ha).2]; exact eo⟩) e v y3
      · rintro H' ⟨xs, x1, x2, x3, x4, x5⟩
        have l3 : xs.length ≤ 3 := by omega
        have BB6 : But p H H' := BB5.trans x4
        refine ⟨_, rfl, rfl, _, rfl, if_b (fun h => ?_) (fun h => ?_)⟩
        · refine ⟨_, rfl, D, xs, rfl, .inl ⟨SqL.of x1, fun l nl => ?_⟩⟩
          refine k _ _ (x3.same (same_upd nl)) (BB6.trans (But.of (same_upd nl))) (.inr ⟨l, xs, rfl, x3.back BB6 nl, .inr upd_same, l3, fun x hx => ?_⟩)
          exact Th.keep (fun a o ha eo => ⟨ha.1, same_upd nl a o eo⟩) e x (x5 x hx)
        · exact ⟨_, rfl, k _ _ x3 BB6 (.inr ⟨D, xs, rfl, nDH, .inl x1, l3, fun x hx => Th.keep (fun a o ha eo => ⟨ha.1, eo⟩) e x (x5 x hx)⟩)⟩
theorem ok_thing (D : Df K mg "_law_thing" s_thing ["pool", "deep"]) (T : Tb mg) (G_take : Cal P w K mg base CX0 1 "_law_take" ["pool", "many"] spTake) : ∀ d, Cal P w K mg base CX0 (2 + d) "_law_thing" ["pool", "deep"] (spThing d)
  | 0 => thing_step (j := 1) (Nat.le_refl _) D T G_take (D.cal9 (k := 1)) (fun e h => by cases h)
  | d + 1 => thing_step (j := 2 + d) (by omega) D T G_take (ok_thing D T G_take d) (fun e h => by cases h; rfl)
end
end K99

set_option Elab.async false
set_option linter.all false
set_option maxRecDepth 100000
set_option maxHeartbeats 4000000
/-! same -/
namespace K99
open PySem PySem.Spec PyProof.Rows L2
abbrev s_same : Stmt := top 30
theorem sc_same : FnScope ["told", "due", "rest", "lap", "one", "other"] ["told", "due"] (defScope s_same) := ⟨rfl, rfl, rfl, by decide +kernel, rfl, by decide +kernel, by decide +kernel⟩
section
variable {P : Program} {w : World} {K : PySem.W.Frag} {mg : Str → Option Value} {base : Heap}
/-- what compares as the same, n deep, at most three in each list or tuple -/
def Eqv (H : Hp) : Nat → V → V → Prop
  | 0, x, y => x = y ∧ flatV x = true
  | n + 1, x, y => (x = y ∧ flatV x = true) ∨ ∃ (a b : Addr) (xs ys : List V), x = .ref a ∧ y = .ref b ∧ ((H a = some (.lst xs) ∧ H b = some (.lst ys)) ∨ (H a = some (.tup xs) ∧ H b = some (.tup ys))) ∧ xs.length = ys.length ∧ xs.length ≤ 3 ∧
      ∀ (i : Nat) (u v : V), xs[i]? = some u → ys[i]? = some v → Eqv H n u v
theorem Eqv.cases {H : Hp} : ∀ {n : Nat} {x y : V}, Eqv H n x y → (x = y ∧ flatV x = true) ∨ ∃ (m : Nat) (a b : Addr) (xs ys : List V), n = m + 1 ∧ x = .ref a ∧ y = .ref b ∧ ((H a = some (.lst xs) ∧ H b = some (.lst ys)) ∨ (H a = some (.tup xs) ∧ H b = some (.tup ys))) ∧ xs.length = ys.length ∧ xs.length ≤ 3 ∧
      ∀ (i : Nat) (u v : V), xs[i]? = some u → ys[i]? = some v → Eqv H m u v
  | 0, _, _, h => .inl h
  | n + 1, _, _, h => by
    rcases h with h | ⟨a, b, xs, ys, r⟩
    · exact .inl h
    · exact .inr ⟨n, a, b, xs, ys, rfl, r⟩
theorem Eqv.keep {H H' : Hp} (k : ∀ a xs, (H a = some (.lst xs) → H' a = some (.lst xs)) ∧ (H a = some (.tup xs) → H' a = some (.tup xs))) : ∀ (n : Nat) (x y : V), Eqv H n x y → Eqv H' n x y
  | 0, _, _, h => h
  | n + 1, x, y, h => by
    rcases h with h | ⟨a, b, xs, ys, e1, e2, e3, e4, e5, e6⟩
    · exact .inl h
    · refine .inr ⟨a, b, xs, ys, e1, e2, ?_, e4, e5, fun i u v h1 h2 => Eqv.keep k n u v (e6 i u v h1 h2)⟩
      rcases e3 with ⟨h1, h2⟩ | ⟨h1, h2⟩
      · exact .inl ⟨(k _ _).1 h1, (k _ _).1 h2⟩
      · exact .inr ⟨(k _ _).2 h1, (k _ _).2 h2⟩
theorem Eqv.same {H H' : Hp} (s : Same H H') (n : Nat) (x y : V) (h : Eqv H n x y) : Eqv H' n x y := Eqv.keep (fun a xs => ⟨s a _, s a _⟩) n x y h
theorem Eqv.more {H : Hp} : ∀ (n : Nat) (x y : V), Eqv H n x y → Eqv H (n + 1) x y
  | 0, _, _, h => .inl h
  | n + 1, x, y, h => by
    rcases h with h | ⟨a, b, xs, ys, e1, e2, e3, e4, e5, e6⟩
    · exact .inl h
    · exact .inr ⟨a, b, xs, ys, e1, e2, e3, e4, e5, fun i u v h1 h2 => Eqv.more n u v (e6 i u v h1 h2)⟩
/-- a thing is the same as itself -/
theorem Th.eqv {ok : Addr → Prop} {H : Hp} : ∀ (n : Nat) (v : V), Th ok H n v → Eqv H n v v
  | 0, _, h => ⟨rfl, h⟩
  | n + 1, v, h => by
    rcases h with h | ⟨a, xs, e, _, hb, hl, hx⟩
    · exact .inl ⟨rfl, h⟩
    · refine .inr ⟨a, a, xs, xs, e, e, hb.imp (fun z => ⟨z, z⟩) (fun z => ⟨z, z⟩), rfl, hl, fun i u v h1 h2 => ?_⟩
      rw [h1] at h2
      cases h2
      exact Th.eqv n u (hx u (List.mem_of_getElem? h1))
/-- the laps that a pair takes -/
def lap : Nat → Nat
  | 0 => 1
  | n + 1 => 3 * lap n + 1
theorem lap_pos : ∀ n, 1 ≤ lap n
  | 0 => Nat.le_refl _
  | n + 1 => Nat.le_add_left 1 _
theorem lap_mono : ∀ {n m : Nat}, n ≤ m → lap n ≤ lap m
  | 0, m, _ => lap_pos m
  | n + 1, 0, h => absurd h (by omega)
  | n + 1, m + 1, h => by
    have := lap_mono (n := n) (m := m) (by omega)
    show 3 * lap n + 1 ≤ 3 * lap m + 1
    omega
/-- a pair that waits: its tuple, its depth, its two things -/
abbrev Pr := Addr × Nat × V × V
def todo (ps : List Pr) : Nat := (ps.map fun q => lap q.2.1).sum
theorem todo_len : ∀ ps : List Pr, ps.length ≤ todo ps
  | [] => Nat.le_refl _
  | q :: r => by
    have h1 := todo_len r
    have h2 := lap_pos q.2.1
    have e : todo (q :: r) = lap q.2.1 + todo r := rfl
    rw [e, List.length_cons]
    omega
theorem todo_app (a b : List Pr) : todo (a ++ b) = todo a + todo b := by
  unfold todo
  rw [List.map_append, List.sum_append]
theorem todo_same {n : Nat} : ∀ {ps : List Pr}, (∀ q ∈ ps, q.2.1 = n) → todo ps = ps.length * lap n
  | [], _ => by simp [todo]
  | q :: r, h => by
    have e : todo (q :: r) = lap q.2.1 + todo r := rfl
    rw [e, todo_same (ps := r) (fun z hz => h z (List.mem_cons_of_mem _ hz)), h q List.mem_cons_self, List.length_cons, Nat.succ_mul]
    omega
def PrOk (H0 H : Hp) (q : Pr) : Prop := H q.1 = some (.tup [q.2.2.1, q.2.2.2]) ∧ Eqv H0 q.2.1 q.2.2.1 q.2.2.2
theorem prs_of {H0 H : Hp} {n : Nat} : ∀ {ts : List Addr}, (∀ t ∈ ts, ∃ x y, H t = some (.tup [x, y]) ∧ Eqv H0 n x y) → ∃ ps : List Pr, ps.map (·.1) = ts ∧ (∀ q ∈ ps, q.2.1 = n) ∧ ∀ q ∈ ps, PrOk H0 H q
  | [], _ => ⟨[], rfl, fun _ h => (nomatch h), fun _ h => nomatch h⟩
  | t :: r, h => by
    obtain ⟨ps, e1, e2, e3⟩ := prs_of (ts := r) fun z hz => h z (List.mem_cons_of_mem _ hz)
    obtain ⟨x, y, h1, h2⟩ := h t List.mem_cons_self
    refine ⟨(t, n, x, y) :: ps, by rw [List.map_cons, e1], fun q hq => ?_, fun q hq => ?_⟩
    · rcases List.mem_cons.mp hq with e | hq
      · rw [e]
      · exact e2 q hq
    · rcases List.mem_cons.mp hq with e | hq
      · rw [e]
        exact ⟨h1, h2⟩
      · exact e3 q hq
theorem isi {K : PySem.W.Frag} {x : V} {A B : String} {b : Bool} {H : Hp} {Q : VK} (ty : TyX K H x (.type A)) (hk : kitB A B = some b) (q : Q (.bl b) H) : rIsi K [x, .ty B] H Q := ⟨x, .ty B, .type A, .type B, b, rfl, .ty B, ty, kit_ty hk, q⟩
def spSame : Sp := fun vs H Q _ => ∃ (x y : V) (n : Nat), vs = [x, y] ∧ n ≤ 5 ∧ Eqv H n x y ∧ ∀ H', Same H H' → Q (.bl true) H'
theorem ok_same (D : Df K mg "_law_same" s_same ["told", "due"]) (T : Tb mg) : Cal P w K mg base CX0 1 "_law_same" ["told", "due"] spSame := by
  refine D.cal0 sc_same (fun vs H Q E h => ?_) (fun cdv f A outer s H vs Q E hr h => ⟨_,
    (pss_cons (ps_set (i := 2) sc_same.nd rfl (Or.inl rfl) (pe_lst (pa_cons (pe_tup (pa_cons (pv 0) (pa_cons (pv 1) pa_nil))) pa_nil)))
      (pss_cons (ps_for PassesOwn.never rfl (pi_range1 rfl T.n_range (pa_cons pe_int pa_nil)) (pg_name (i := 3) sc_same.nd rfl (Or.inl rfl)) (pss_cons (ps_if (pt_cmpR op_eq (pe_callB call_len (by rfl) T.n_len (by decide +kernel) (pa_cons (pv 2) pa_nil)) pe_int (nomark _)) (pss_one (ps_ret pe_bl)) pss_nil)
      (pss_cons (ps_asg (pe_bm0 PySem.F.plainAttrs_list PySem.F.slot_list_pop PySem.F.type_list_pop mt_pop (pv 2)) (pg_tup rfl (pgs_cons (pg_name (i := 4) sc_same.nd rfl (Or.inl rfl)) (pgs_cons (pg_name (i := 5) sc_same.nd rfl (Or.inl rfl)) pgs_nil))))
      (pss_one (ps_if (pt_cmpR op_isN (pv 5) pe_non (nomark _)) (pss_one (ps_if (pt_cmpR op_notN (pv 4) pe_non (nomark _)) (pss_one (ps_ret pe_bl)) pss_nil)) (pss_one (ps_if (pt_val (pe_callB call_isi (by rfl) T.n_isinstance (by decide +kernel) (pa_cons (pv 5) (pa_cons (pe_bltn (v := .ty "bool") (u := .type "bool") rfl T.n_bool (by decide +kernel) rfl) pa_nil)))) (pss_one (ps_if (PW.pt (pw_or (pt_not (pt_val (pe_callB call_isi (by rfl) T.n_isinstance (by decide +kernel) (pa_cons (pv 4) (pa_cons (pe_bltn (v := .ty "bool") (u := .type "bool") rfl T.n_bool (by decide +kernel) rfl) pa_nil))))) (pw_or1 (pt_cmpR op_ne (pv 4) (pv 5) (nomark _))))) (pss_one (ps_ret pe_bl)) pss_nil)) (pss_one (ps_if (pt_val (pe_callB call_isi (by rfl) T.n_isinstance (by decide +kernel) (pa_cons (pv 5) (pa_cons (pe_bltn (v := .ty "int") (u := .type "int") rfl T.n_int (by decide +kernel) rfl) pa_nil)))) (pss_one (ps_if (PW.pt (pw_or (pt_not (pt_val (pe_callB call_isi (by rfl) T.n_isinstance (by decide +kernel) (pa_cons (pv 4) (pa_cons (pe_bltn (v := .ty "int") (u := .type "int") rfl T.n_int (by decide +kernel) rfl) pa_nil))))) (pw_or (pt_val (pe_callB call_isi (by rfl) T.n_isinstance (by decide +kernel) (pa_cons (pv 4) (pa_cons (pe_bltn (v := .ty "bool") (u := .type "bool") rfl T.n_bool (by decide +kernel) rfl) pa_nil)))) (pw_or1 (pt_cmpR op_ne (pv 4) (pv 5) (nomark _)))))) (pss_one (ps_ret pe_bl)) pss_nil)) (pss_one (ps_if (pt_val (pe_callB call_isi (by rfl) T.n_isinstance (by decide +kernel) (pa_cons (pv 5) (pa_cons (pe_bltn (v := .ty "str") (u := .type "str") rfl T.n_str (by decide +kernel) rfl) pa_nil)))) (pss_one (ps_if (PW.pt (pw_or (pt_not (pt_val (pe_callB call_isi (by rfl) T.n_isinstance (by decide +kernel) (pa_cons (pv 4) (pa_cons (pe_bltn (v := .ty "str") (u := .type "str") rfl T.n_str (by decide +kernel) rfl) pa_nil))))) (pw_or1 (pt_cmpR op_ne (pv 4) (pv 5) (nomark _))))) (pss_one (ps_ret pe_bl)) pss_nil)) (pss_one (ps_if (pt_val (pe_callB call_isi (by rfl) T.n_isinstance (by decide +kernel) (pa_cons (pv 5) (pa_cons (pe_bltn (v := .ty "tuple") (u := .type "tuple") rfl T.n_tuple (by decide +kernel) rfl) pa_nil)))) (pss_cons (ps_if (PW.pt (pw_or (pt_not (pt_val (pe_callB call_isi (by rfl) T.n_isinstance (by decide +kernel) (pa_cons (pv 4) (pa_cons (pe_bltn (v := .ty "tuple") (u := .type "tuple") rfl T.n_tuple (by decide +kernel) rfl) pa_nil))))) (pw_or1 (pt_cmpR op_ne (pe_callB call_len (by rfl) T.n_len (by decide +kernel) (pa_cons (pv 4) pa_nil)) (pe_callB call_len (by rfl) T.n_len (by decide +kernel) (pa_cons (pv 5) pa_nil)) (nomark _))))) (pss_one (ps_ret pe_bl)) pss_nil)
      (pss_one (ps_expr (pe_bm PySem.F.plainAttrs_list PySem.F.slot_list_extend PySem.F.type_list_extend mt_extend (pv 2) (pa_cons (pe_listzip rfl rfl T.n_list rfl T.n_zip (pa_cons (pv 4) (pa_cons (pv 5) pa_nil))) pa_nil))))) (pss_cons (ps_if (PW.pt (pw_or (pt_not (pt_val (pe_callB call_isi (by rfl) T.n_isinstance (by decide +kernel) (pa_cons (pv 4) (pa_cons (pe_bltn (v := .ty "list") (u := .type "list") rfl T.n_list (by decide +kernel) rfl) pa_nil))))) (pw_or1 (pt_cmpR op_ne (pe_callB call_len (by rfl) T.n_len (by decide +kernel) (pa_cons (pv 4) pa_nil)) (pe_callB call_len (by rfl) T.n_len (by decide +kernel) (pa_cons (pv 5) pa_nil)) (nomark _))))) (pss_one (ps_ret pe_bl)) pss_nil)
      (pss_one (ps_expr (pe_bm PySem.F.plainAttrs_list PySem.F.slot_list_extend PySem.F.type_list_extend mt_extend (pv 2) (pa_cons (pe_listzip rfl rfl T.n_list rfl T.n_zip (pa_cons (pv 4) (pa_cons (pv 5) pa_nil))) pa_nil))))))))))))))))))
      (pss_one (ps_ret pe_bl)))), ?_⟩)
  · obtain ⟨x, y, n, rfl, _⟩ := h
    rfl
  · obtain ⟨x0, y0, n0, rfl, hn, he, k⟩ := h
    refine ⟨_, rfl, _, rfl, (by show 2 ≤ sizeLine; decide), fun t0 nt0 => ⟨(by show 1 ≤ sizeLine; decide), fun r nr => ?_⟩⟩
    have S0 : Same H (upd H t0 (.tup [x0, y0])) := same_upd nt0
    have S1 := S0.new (o := .lst [.ref t0]) nr
    have ne0 : t0 ≠ r := ne_of_none upd_same nr
    have nH : H r = none := S0.none nr
    refine ⟨1000, rfl, (by decide), (by decide), for_range (lo := 0) (n := 1000) (fun i σ H' => ∃ (g1 g2 g3 : Option V) (ps : List Pr), σ = [some x0, some y0, some (.ref r), g1, g2, g3] ∧ H' r = some (.lst (ps.map fun q => V.ref q.1)) ∧ (∀ q ∈ ps, PrOk H H' q) ∧ todo ps + i ≤ 999 ∧ Same H H')
      ⟨_, _, _, [(t0, n0, x0, y0)], rfl, upd_same, fun q hq => ?_, ?_, S1⟩ ?_ ?_⟩
    · rw [List.mem_singleton.mp hq]
      exact ⟨by rw [upd_ne ne0]; exact upd_same, he⟩
    · have : lap n0 ≤ lap 5 := lap_mono hn
      have e5 : lap 5 = 364 := rfl
      show lap n0 + 0 + 0 ≤ 999
      omega
    · rintro i σ H' hi ⟨g1, g2, g3, ps, rfl, hr1, hps, hto, hS⟩
      refine ⟨_, rfl, _, _, rfl, .inl ⟨_, SqL.of hr1, rfl⟩, rfl, _, rfl, if_b (fun _ => ?_) (fun h0 => ?_)⟩
      · exact k H' hS
      have hne : ps ≠ [] := fun z => by
        rw [z] at h0
        exact Bool.noConfusion (h0.symm.trans rfl)
      obtain ⟨qs, q, rfl⟩ : ∃ qs q, ps = qs ++ [q] := by
        rcases List.eq_nil_or_concat ps with z | ⟨qs, q, z⟩
        · exact absurd z hne
        · exact ⟨qs, q, by rw [z]; simp⟩
      obtain ⟨t, n, x, y⟩ := q
      obtain ⟨ht, hE⟩ := hps _ (List.mem_append_right _ List.mem_cons_self)
      have hE' : Eqv H n x y := hE
      have ht' : H' t = some (.tup [x, y]) := ht
      have hto' : todo qs + lap n + i ≤ 999 := by
        rw [todo_app] at hto
        exact hto
      have ntr : t ≠ r := ne_of ht' hr1 (fun z => nomatch z)
      have qlen : qs.length ≤ 999 := Nat.le_trans (todo_len qs) (by omega)
      have hmap : (qs ++ [((t, n, x, y) : Pr)]).map (fun q => V.ref q.1) = qs.map (fun q => V.ref q.1) ++ [V.ref t] := by rw [List.map_append]; rfl
      rw [hmap] at hr1
      refine ⟨_, rfl, .inl ⟨rfl, _, SqL.of hr1⟩, r, _, .ref t, rfl, rfl, hr1, by simp, ?_⟩
      rw [List.dropLast_concat]
      -- behind the pop
      have S2 : Same H (upd H' r (.lst (qs.map fun q => V.ref q.1))) := fun b o e => by
        rw [upd_ne (fun z => by rw [z, nH] at e; cases e)]
        exact hS b o e
      refine ⟨t, [x, y], rfl, SqT.of (by rw [upd_ne ntr]; exact ht'), rfl, x, [y], rfl, y, [], rfl, rfl, ?_⟩
      -- the turn's end where nothing came
      have fin : ∀ H2, Same (upd H' r (.lst (qs.map fun q => V.ref q.1))) H2 → ∃ (g1 g2 g3 : Option V) (ps : List Pr), [some x0, some y0, some (V.ref r), some (V.int (0 + i)), some x, some y] = [some x0, some y0, some (.ref r), g1, g2, g3] ∧ H2 r = some (.lst (ps.map fun q => V.ref q.1)) ∧ (∀ q ∈ ps, PrOk H H2 q) ∧ todo ps + (i + 1) ≤ 999 ∧ Same H H2 := fun H2 s2 =>
        ⟨_, _, _, qs, rfl, s2 _ _ upd_same, fun q hq => ⟨s2 _ _ (by rw [upd_ne (ne_of (hps q (List.mem_append_left _ hq)).1 hr1 (fun z => nomatch z))]; exact (hps q (List.mem_append_left _ hq)).1), (hps q (List.mem_append_left _ hq)).2⟩, by have := lap_pos n; omega, S2.trans s2⟩
      rcases hE'.cases with ⟨rfl, fx⟩ | ⟨m, a, b, xs, ys, rfl, rfl, rfl, hab, hl, hl3, hsub⟩
      · cases x with
        | non =>
          refine ⟨_, rfl, rfl, _, rfl, ?_⟩
          refine ⟨_, rfl, rfl, _, rfl, ?_⟩
          exact fin _ (Same.refl _)
        | bl v =>
          refine ⟨_, rfl, rfl, _, rfl, ?_⟩
          exact ⟨_, rfl, _, .ty "bool", .type "bool", .type "bool", true, rfl, .ty _, .base (.bl v), kit_ty (by decide +kernel), _, rfl, _, rfl, _, .ty "bool", .type "bool", .type "bool", true, rfl, .ty _, .base (.bl v), kit_ty (by decide +kernel), _, rfl, _, rfl, _, rfl, rfl, _, rfl, if_f (by simp) (fin _ (Same.refl _))⟩
        | int v =>
          refine ⟨_, rfl, rfl, _, rfl, ?_⟩
          refine ⟨_, rfl, _, .ty "bool", .type "int", .type "bool", false, rfl, .ty _, .base (.int v), kit_ty (by decide +kernel), _, rfl, ?_⟩
          refine ⟨_, rfl, _, .ty "int", .type "int", .type "int", true, rfl, .ty _, .base (.int v), kit_ty (by decide +kernel), _, rfl, ?_⟩
          exact ⟨_, rfl, _, .ty "int", .type "int", .type "int", true, rfl, .ty _, .base (.int v), kit_ty (by decide +kernel), _, rfl, _, rfl, _, .ty "bool", .type "int", .type "bool", false, rfl, .ty _, .base (.int v), kit_ty (by decide +kernel), _, rfl, _, rfl, _, rfl, rfl, _, rfl, if_f (by simp) (fin _ (Same.refl _))⟩
        | str v =>
          refine ⟨_, rfl, rfl, _, rfl, ?_⟩
          refine ⟨_, rfl, _, .ty "bool", .type "str", .type "bool", false, rfl, .ty _, .base (.str v), kit_ty (by decide +kernel), _, rfl, ?_⟩
          refine ⟨_, rfl, _, .ty "int", .type "str", .type "int", false, rfl, .ty _, .base (.str v), kit_ty (by decide +kernel), _, rfl, ?_⟩
          refine ⟨_, rfl, _, .ty "str", .type "str", .type "str", true, rfl, .ty _, .base (.str v), kit_ty (by decide +kernel), _, rfl, ?_⟩
          exact ⟨_, rfl, _, .ty "str", .type "str", .type "str", true, rfl, .ty _, .base (.str v), kit_ty (by decide +kernel), _, rfl, _, rfl, _, rfl, rfl, _, rfl, if_f (by simp) (fin _ (Same.refl _))⟩
        | _ => cases fx
      · -- what the pairs bring
        have ext : ∀ (l : Addr) (ts : List Addr) (H2 : Hp), Same (upd H' r (.lst (qs.map fun q => V.ref q.1))) H2 → upd H' r (.lst (qs.map fun q => V.ref q.1)) l = none → H2 l = some (.lst (ts.map V.ref)) → ts.length = xs.length →
            (∀ (j : Nat) (t : Addr), ts[j]? = some t → ∃ x y, xs[j]? = some x ∧ ys[j]? = some y ∧ H2 t = some (.tup [x, y])) →
            ∃ (l' b' : Addr) (xs' zs' : List V), V.ref r = .ref l' ∧ [V.ref l] = [.ref b'] ∧ H2 l' = some (.lst xs') ∧ H2 b' = some (.lst zs') ∧ xs'.length + zs'.length ≤ sizeLine ∧
              ∃ (g1 g2 g3 : Option V) (ps : List Pr), [some x0, some y0, some (V.ref r), some (V.int (0 + i)), some (V.ref a), some (V.ref b)] = [some x0, some y0, some (.ref r), g1, g2, g3] ∧ upd H2 l' (.lst (xs' ++ zs')) r = some (.lst (ps.map fun q => V.ref q.1)) ∧ (∀ q ∈ ps, PrOk H (upd H2 l' (.lst (xs' ++ zs'))) q) ∧ todo ps + (i + 1) ≤ 999 ∧ Same H (upd H2 l' (.lst (xs' ++ zs'))) := fun l ts H2 S3 nl hl2 htl hts => by
          obtain ⟨ns, e1, e2, e3⟩ := prs_of (H0 := H) (H := H2) (n := m) (ts := ts) fun t ht => by
            obtain ⟨j, hj⟩ := List.mem_iff_getElem?.mp ht
            obtain ⟨u, v, h1, h2, h3⟩ := hts j t hj
            exact ⟨u, v, h3, hsub j u v h1 h2⟩
          have hr2 : H2 r = some (.lst (qs.map fun q => V.ref q.1)) := S3 _ _ upd_same
          have em : ts.map V.ref = ns.map (fun q => V.ref q.1) := by
            rw [← e1, List.map_map]
            rfl
          have nlen : ns.length = xs.length := by rw [← htl, ← e1, List.length_map]
          have tod : todo (qs ++ ns) + (i + 1) ≤ 999 := by
            rw [todo_app, todo_same e2, nlen]
            have h3 : xs.length * lap m ≤ 3 * lap m := Nat.mul_le_mul_right _ hl3
            have h4 : lap (m + 1) = 3 * lap m + 1 := rfl
            omega
          have tup_keep : ∀ (c : Addr) (zs : List V) (o : HO), H2 c = some (.tup zs) → upd H2 r o c = some (.tup zs) := fun c zs o hc => by
            rw [upd_ne (ne_of hc hr2 (fun z => nomatch z))]
            exact hc
          refine ⟨r, l, _, _, rfl, rfl, hr2, hl2, ?_, _, _, _, qs ++ ns, rfl, ?_, fun q hq => ?_, tod, fun b o e => ?_⟩
          · rw [List.length_map, List.length_map, htl]
            exact Nat.le_trans (show qs.length + xs.length ≤ 2000 by omega) (by decide)
          · rw [List.map_append, ← em]
            exact upd_same
          · rcases List.mem_append.mp hq with hq | hq
            · have h5 := hps q (List.mem_append_left _ hq)
              refine ⟨tup_keep _ _ _ (S3 _ _ ?_), h5.2⟩
              rw [upd_ne (ne_of h5.1 hr1 (fun z => nomatch z))]
              exact h5.1
            · exact ⟨tup_keep _ _ _ (e3 q hq).1, (e3 q hq).2⟩
          · rw [upd_ne (fun z => by rw [z, nH] at e; cases e)]
            exact S3 b o (S2 b o e)
        rcases hab with ⟨ha, hb⟩ | ⟨ha, hb⟩
        · have ha := S2 _ _ ha
          have hb := S2 _ _ hb
          refine ⟨_, rfl, rfl, _, rfl, ?_⟩
          refine ⟨_, rfl, _, .ty "bool", .type "list", .type "bool", false, rfl, .ty _, .base (.lst hb), kit_ty (by decide +kernel), _, rfl, ?_⟩
          refine ⟨_, rfl, _, .ty "int", .type "list", .type "int", false, rfl, .ty _, .base (.lst hb), kit_ty (by decide +kernel), _, rfl, ?_⟩
          refine ⟨_, rfl, _, .ty "str", .type "list", .type "str", false, rfl, .ty _, .base (.lst hb), kit_ty (by decide +kernel), _, rfl, ?_⟩
          refine ⟨_, rfl, _, .ty "tuple", .type "list", .type "tuple", false, rfl, .ty _, .base (.lst hb), kit_ty (by decide +kernel), _, rfl, ?_⟩
          refine ⟨_, rfl, _, .ty "list", .type "list", .type "list", true, rfl, .ty _, .base (.lst ha), kit_ty (by decide +kernel), _, rfl, _, rfl, _, _, rfl, .inl ⟨_, SqL.of ha, rfl⟩, _, rfl, _, _, rfl, .inl ⟨_, SqL.of hb, rfl⟩, rfl, _, rfl, if_f (by simp [hl]) ?_⟩
          refine ⟨_, rfl, .inl ⟨rfl, _, SqL.of upd_same⟩, _, rfl, _, rfl, a, b, xs, ys, rfl, .inl (SqL.of ha), .inl (SqL.of hb), hl, fun l ts H2 S3 nl hl2 htl hts => ?_⟩
          exact ext l ts H2 S3 nl hl2 htl hts
        · have ha := S2 _ _ ha
          have hb := S2 _ _ hb
          refine ⟨_, rfl, rfl, _, rfl, ?_⟩
          refine ⟨_, rfl, _, .ty "bool", .type "tuple", .type "bool", false, rfl, .ty _, .base (.tup hb), kit_ty (by decide +kernel), _, rfl, ?_⟩
          refine ⟨_, rfl, _, .ty "int", .type "tuple", .type "int", false, rfl, .ty _, .base (.tup hb), kit_ty (by decide +kernel), _, rfl, ?_⟩
          refine ⟨_, rfl, _, .ty "str", .type "tuple", .type "str", false, rfl, .ty _, .base (.tup hb), kit_ty (by decide +kernel), _, rfl, ?_⟩
          refine ⟨_, rfl, _, .ty "tuple", .type "tuple", .type "tuple", true, rfl, .ty _, .base (.tup hb), kit_ty (by decide +kernel), _, rfl, ?_⟩
          refine ⟨_, rfl, _, .ty "tuple", .type "tuple", .type "tuple", true, rfl, .ty _, .base (.tup ha), kit_ty (by decide +kernel), _, rfl, _, rfl, _, _, rfl, .inr ⟨_, SqT.of ha, rfl⟩, _, rfl, _, _, rfl, .inr ⟨_, SqT.of hb, rfl⟩, rfl, _, rfl, if_f (by simp [hl]) ?_⟩
          refine ⟨_, rfl, .inl ⟨rfl, _, SqL.of upd_same⟩, _, rfl, _, rfl, a, b, xs, ys, rfl, .inr (SqT.of ha), .inr (SqT.of hb), hl, fun l ts H2 S3 nl hl2 htl hts => ?_⟩
          exact ext l ts H2 S3 nl hl2 htl hts
    · rintro σ H' ⟨g1, g2, g3, ps, rfl, hr1, hps, hto, hS⟩
      exact absurd hto (by omega)
end
end K99

set_option Elab.async false
set_option linter.all false
set_option maxRecDepth 100000
set_option maxHeartbeats 4000000
/-! The seventeen classes: what the written part says of them, their __init__, their making. -/
namespace K99
open PySem PySem.Spec PyProof.Rows L2
def nms : List Str := ["BadName", "BadRow", "BadStore", "BadHouse", "BadQuestion", "BadGift", "BadPicks", "BadPlan", "BadPrices", "BadHands", "BadLog", "BadText", "BadStep", "Broken", "NoSuch", "Taken", "BadCommand"]
def fls : List (List Str) := [["at"], ["word"], ["at", "word"], ["at", "word"], ["at", "word"], ["at"], ["at", "word"], ["at", "word"], ["at"], ["at", "word"], ["at", "word"], ["line", "word"], ["word"], ["tree"], ["word", "name"], ["name"], ["line"]]
abbrev nm (n : Nat) : Str := nms.getD n ""
abbrev fl (n : Nat) : List Str := fls.getD n []
/-- the n-th class's object, its __init__ -/
abbrev C (K : PySem.W.Frag) (n : Nat) : Addr := He.ga K (nm n)
abbrev fI (K : PySem.W.Frag) (n : Nat) : Addr := He.ma K (C K n) "__init__"
abbrev Dr (K : PySem.W.Frag) : Addr := He.ga K "DoorError"
structure Te (K : PySem.W.Frag) (mg : Str → Option Value) : Prop where
  g : ∀ n, n < 17 → mg (nm n) = some (.ref (C K n))
  c : ∀ n, n < 17 → ErC K (C K n) (fI K n)
  f : ∀ n, n < 17 → ∀ x ∈ fl n, PySem.W.findIn K (.ref (C K n)) x = some none
  exm : ∀ n m, n < 17 → m < 17 → PySem.W.exmOne K (.ref (C K n)) (.ref (C K m)) = some (decide (n = m))
  exd : ∀ n, n < 17 → PySem.W.exmOne K (.ref (C K n)) (.ref (Dr K)) = some true
  kit : ∀ n m, n < 17 → m < 17 → PySem.W.kitOne K (.ref (C K n)) (.ref (C K m)) = some (decide (n = m))
  kitD : ∀ n, n < 17 → PySem.W.kitOne K (.ref (C K n)) (.ref (Dr K)) = some true
  kitV : ∀ n, n < 17 → PySem.W.kitOne K (.ref (C K n)) (.type "ValueError") = some true
  kitN : ∀ n, n < 17 → ∀ x ∈ (["LookupError", "ArithmeticError", "TypeError", "RuntimeError", "AttributeError"] : List String), PySem.W.kitOne K (.ref (C K n)) (.type x) = some false
  gD : mg "DoorError" = some (.ref (Dr K))
  eD : PySem.W.excIn K (Dr K) He.veBase "ValueError.__new__" = true
  kD : PySem.W.keepIn K (.ref (Dr K)) = true
  cD : ErK K (Dr K)
  vD : PySem.W.kitOne K (.ref (Dr K)) (.type "ValueError") = some true
/-- a class's __init__ as it stands -/
abbrev sI (n : Nat) : Stmt := inClass (top (n + 2)) 0
def DfI (K : PySem.W.Frag) (n : Nat) (q : Str) : Prop := ∃ fd, FunD K "__init__" q (defArgs (sI n)) (defBody (sI n)) (defScope (sI n)) [] [] (fI K n) fd
/-- the fields as they lie in an error's own dict, the newest first -/
abbrev zf (n : Nat) (us : List V) : List (Str × V) := ((fl n).zip us).reverse
/-- __init__(self, ..): self, an error that is being made, has its dict -/
def spI (K : PySem.W.Frag) (n : Nat) : Sp := fun vs H Q _ => ∃ (a : Addr) (us : List V), vs = .ref a :: us ∧ us.length = (fl n).length ∧ H a = some (exo a (C K n) none) ∧
  ∀ (d : Addr) (H' : Hp), (∀ b o, b ≠ a → H b = some o → H' b = some o) → H d = none → d ≠ a → H' a = some (exo a (C K n) (some d)) → H' d = some (exd d (zf n us)) → Q .non H'
/-- it keeps this, and how it is called -/
def InitOk (P : Program) (w : World) (K : PySem.W.Frag) (mg : Str → Option Value) (base : Heap) (n : Nat) : Prop := ∃ fd, FnOk P w K mg base CX0 1 (fI K n) fd ("self" :: fl n) (spI K n) ∧ Binds K fd ("self" :: fl n) [] ∧
  KBn K fd ("self" :: fl n) 1 (fl n) (fun us ws => us ++ ws) (fun vs zs => vs ++ zs) ∧ KBn K fd ("self" :: fl n) 1 (fl n).reverse (fun us ws => us ++ ws.reverse) (fun vs zs => vs ++ zs.reverse)
theorem Vals.rev : ∀ {xs : List V} {us : List Value}, Vals xs us → Vals xs.reverse us.reverse
  | _, _, .nil => .nil
  | _, _, .cons r t => by
    rw [List.reverse_cons, List.reverse_cons]
    exact (Vals.rev t).append (.cons r .nil)
section
variable {P : Program} {w : World} {K : PySem.W.Frag} {mg : Str → Option Value} {base : Heap}
theorem sc_i0 : FnScope ["self", "at"] ["self", "at"] (defScope (sI 0)) := ⟨rfl, rfl, rfl, by decide +kernel, rfl, by decide +kernel, by decide +kernel⟩
theorem ok_i0 (D : DfI K 0 "BadName.__init__") (T : Te K mg) : InitOk P w K mg base 0 := by
  obtain ⟨fd, F⟩ := D
  have hC := (T.c 0 (by decide)).ox
  refine ⟨fd, ?_, FunD.bindsN F fun _ _ _ _ _ _ us hl => match us, hl with | [_, _], _ => rfl, kbn_kw F (fun r r' => r.append r') fun _ _ _ _ _ _ us ws h1 h2 => match us, h1, ws, h2 with | [_], _, [_], _ => rfl, kbn_kw F (fun r r' => r.append (Vals.rev r')) fun _ _ _ _ _ _ us ws h1 h2 => match us, h1, ws, h2 with | [_], _, [_], _ => rfl⟩
  refine F.ok sc_i0 (fun vs H Q E h => ?_) (fun cdv A outer s H vs Q E hr h => ⟨_, PSs.nox (pss_one (ps_ost (pv 0) (pv 1))), ?_⟩)
  · obtain ⟨a, us, rfl, hl, _⟩ := h
    exact congrArg Nat.succ hl
  · obtain ⟨a, us, rfl, hl, ha, k⟩ := h
    match us, hl with
    | [v], _ =>
      refine ⟨_, rfl, _, rfl, a, _, rfl, hC, T.f 0 (by decide) "at" (by decide), .inl ⟨ha, fun d nd ne => ?_⟩⟩
      exact k d _ (fun b o nb e => by rw [upd_ne nb, upd_ne (ne_of_none e nd)]; exact e) nd ne upd_same (by rw [upd_ne ne]; exact upd_same)
theorem sc_i1 : FnScope ["self", "word"] ["self", "word"] (defScope (sI 1)) := ⟨rfl, rfl, rfl, by decide +kernel, rfl, by decide +kernel, by decide +kernel⟩
theorem ok_i1 (D : DfI K 1 "BadRow.__init__") (T : Te K mg) : InitOk P w K mg base 1 := by
  obtain ⟨fd, F⟩ := D
  have hC := (T.c 1 (by decide)).ox
  refine ⟨fd, ?_, FunD.bindsN F fun _ _ _ _ _ _ us hl => match us, hl with | [_, _], _ => rfl, kbn_kw F (fun r r' => r.append r') fun _ _ _ _ _ _ us ws h1 h2 => match us, h1, ws, h2 with | [_], _, [_], _ => rfl, kbn_kw F (fun r r' => r.append (Vals.rev r')) fun _ _ _ _ _ _ us ws h1 h2 => match us, h1, ws, h2 with | [_], _, [_], _ => rfl⟩
  refine F.ok sc_i1 (fun vs H Q E h => ?_) (fun cdv A outer s H vs Q E hr h => ⟨_, PSs.nox (pss_one (ps_ost (pv 0) (pv 1))), ?_⟩)
  · obtain ⟨a, us, rfl, hl, _⟩ := h
    exact congrArg Nat.succ hl
  · obtain ⟨a, us, rfl, hl, ha, k⟩ := h
    match us, hl with
    | [v], _ =>
      refine ⟨_, rfl, _, rfl, a, _, rfl, hC, T.f 1 (by decide) "word" (by decide), .inl ⟨ha, fun d nd ne => ?_⟩⟩
      exact k d _ (fun b o nb e => by rw [upd_ne nb, upd_ne (ne_of_none e nd)]; exact e) nd ne upd_same (by rw [upd_ne ne]; exact upd_same)
theorem sc_i2 : FnScope ["self", "at", "word"] ["self", "at", "word"] (defScope (sI 2)) := ⟨rfl, rfl, rfl, by decide +kernel, rfl, by decide +kernel, by decide +kernel⟩
theorem ok_i2 (D : DfI K 2 "BadStore.__init__") (T : Te K mg) : InitOk P w K mg base 2 := by
  obtain ⟨fd, F⟩ := D
  have hC := (T.c 2 (by decide)).ox
  refine ⟨fd, ?_, FunD.bindsN F fun _ _ _ _ _ _ us hl => match us, hl with | [_, _, _], _ => rfl, kbn_kw F (fun r r' => r.append r') fun _ _ _ _ _ _ us ws h1 h2 => match us, h1, ws, h2 with | [_], _, [_, _], _ => rfl, kbn_kw F (fun r r' => r.append (Vals.rev r')) fun _ _ _ _ _ _ us ws h1 h2 => match us, h1, ws, h2 with | [_], _, [_, _], _ => rfl⟩
  refine F.ok sc_i2 (fun vs H Q E h => ?_) (fun cdv A outer s H vs Q E hr h => ⟨_, PSs.nox (pss_cons (ps_ost (pv 0) (pv 1)) (pss_one (ps_ost (pv 0) (pv 2)))), ?_⟩)
  · obtain ⟨a, us, rfl, hl, _⟩ := h
    exact congrArg Nat.succ hl
  · obtain ⟨a, us, rfl, hl, ha, k⟩ := h
    match us, hl with
    | [v, u], _ =>
      refine ⟨_, rfl, _, rfl, a, _, rfl, hC, T.f 2 (by decide) "at" (by decide), .inl ⟨ha, fun d nd ne => ?_⟩⟩
      refine ⟨_, rfl, _, rfl, a, _, rfl, hC, T.f 2 (by decide) "word" (by decide), .inr ⟨d, _, upd_same, by rw [upd_ne ne]; exact upd_same, (by show 1 ≤ 900; decide), ?_⟩⟩
      exact k d _ (fun b o nb e => by rw [upd_ne (ne_of_none e nd), upd_ne nb, upd_ne (ne_of_none e nd)]; exact e) nd ne (by rw [upd_ne (Ne.symm ne)]; exact upd_same) upd_same
theorem sc_i3 : FnScope ["self", "at", "word"] ["self", "at", "word"] (defScope (sI 3)) := ⟨rfl, rfl, rfl, by decide +kernel, rfl, by decide +kernel, by decide +kernel⟩
theorem ok_i3 (D : DfI K 3 "BadHouse.__init__") (T : Te K mg) : InitOk P w K mg base 3 := by
  obtain ⟨fd, F⟩ := D
  have hC := (T.c 3 (by decide)).ox
  refine ⟨fd, ?_, FunD.bindsN F fun _ _ _ _ _ _ us hl => match us, hl with | [_, _, _], _ => rfl, kbn_kw F (fun r r' => r.append r') fun _ _ _ _ _ _ us ws h1 h2 => match us, h1, ws, h2 with | [_], _, [_, _], _ => rfl, kbn_kw F (fun r r' => r.append (Vals.rev r')) fun _ _ _ _ _ _ us ws h1 h2 => match us, h1, ws, h2 with | [_], _, [_, _], _ => rfl⟩
  refine F.ok sc_i3 (fun vs H Q E h => ?_) (fun cdv A outer s H vs Q E hr h => ⟨_, PSs.nox (pss_cons (ps_ost (pv 0) (pv 1)) (pss_one (ps_ost (pv 0) (pv 2)))), ?_⟩)
  · obtain ⟨a, us, rfl, hl, _⟩ := h
    exact congrArg Nat.succ hl
  · obtain ⟨a, us, rfl, hl, ha, k⟩ := h
    match us, hl with
    | [v, u], _ =>
      refine ⟨_, rfl, _, rfl, a, _, rfl, hC, T.f 3 (by decide) "at" (by decide), .inl ⟨ha, fun d nd ne => ?_⟩⟩
      refine ⟨_, rfl, _, rfl, a, _, rfl, hC, T.f 3 (by decide) "word" (by decide), .inr ⟨d, _, upd_same, by rw [upd_ne ne]; exact upd_same, (by show 1 ≤ 900; decide), ?_⟩⟩
      exact k d _ (fun b o nb e => by rw [upd_ne (ne_of_none e nd), upd_ne nb, upd_ne (ne_of_none e nd)]; exact e) nd ne (by rw [upd_ne (Ne.symm ne)]; exact upd_same) upd_same
theorem sc_i4 : FnScope ["self", "at", "word"] ["self", "at", "word"] (defScope (sI 4)) := ⟨rfl, rfl, rfl, by decide +kernel, rfl, by decide +kernel, by decide +kernel⟩
theorem ok_i4 (D : DfI K 4 "BadQuestion.__init__") (T : Te K mg) : InitOk P w K mg base 4 := by
  obtain ⟨fd, F⟩ := D
  have hC := (T.c 4 (by decide)).ox
  refine ⟨fd, ?_, FunD.bindsN F fun _ _ _ _ _ _ us hl => match us, hl with | [_, _, _], _ => rfl, kbn_kw F (fun r r' => r.append r') fun _ _ _ _ _ _ us ws h1 h2 => match us, h1, ws, h2 with | [_], _, [_, _], _ => rfl, kbn_kw F (fun r r' => r.append (Vals.rev r')) fun _ _ _ _ _ _ us ws h1 h2 => match us, h1, ws, h2 with | [_], _, [_, _], _ => rfl⟩
  refine F.ok sc_i4 (fun vs H Q E h => ?_) (fun cdv A outer s H vs Q E hr h => ⟨_, PSs.nox (pss_cons (ps_ost (pv 0) (pv 1)) (pss_one (ps_ost (pv 0) (pv 2)))), ?_⟩)
  · obtain ⟨a, us, rfl, hl, _⟩ := h
    exact congrArg Nat.succ hl
  · obtain ⟨a, us, rfl, hl, ha, k⟩ := h
    match us, hl with
    | [v, u], _ =>
      refine ⟨_, rfl, _, rfl, a, _, rfl, hC, T.f 4 (by decide) "at" (by decide), .inl ⟨ha, fun d nd ne => ?_⟩⟩
      refine ⟨_, rfl, _, rfl, a, _, rfl, hC, T.f 4 (by decide) "word" (by decide), .inr ⟨d, _, upd_same, by rw [upd_ne ne]; exact upd_same, (by show 1 ≤ 900; decide), ?_⟩⟩
      exact k d _ (fun b o nb e => by rw [upd_ne (ne_of_none e nd), upd_ne nb, upd_ne (ne_of_none e nd)]; exact e) nd ne (by rw [upd_ne (Ne.symm ne)]; exact upd_same) upd_same
theorem sc_i5 : FnScope ["self", "at"] ["self", "at"] (defScope (sI 5)) := ⟨rfl, rfl, rfl, by decide +kernel, rfl, by decide +kernel, by decide +kernel⟩
theorem ok_i5 (D : DfI K 5 "BadGift.__init__") (T : Te K mg) : InitOk P w K mg base 5 := by
  obtain ⟨fd, F⟩ := D
  have hC := (T.c 5 (by decide)).ox
  refine ⟨fd, ?_, FunD.bindsN F fun _ _ _ _ _ _ us hl => match us, hl with | [_, _], _ => rfl, kbn_kw F (fun r r' => r.append r') fun _ _ _ _ _ _ us ws h1 h2 => match us, h1, ws, h2 with | [_], _, [_], _ => rfl, kbn_kw F (fun r r' => r.append (Vals.rev r')) fun _ _ _ _ _ _ us ws h1 h2 => match us, h1, ws, h2 with | [_], _, [_], _ => rfl⟩
  refine F.ok sc_i5 (fun vs H Q E h => ?_) (fun cdv A outer s H vs Q E hr h => ⟨_, PSs.nox (pss_one (ps_ost (pv 0) (pv 1))), ?_⟩)
  · obtain ⟨a, us, rfl, hl, _⟩ := h
    exact congrArg Nat.succ hl
  · obtain ⟨a, us, rfl, hl, ha, k⟩ := h
    match us, hl with
    | [v], _ =>
      refine ⟨_, rfl, _, rfl, a, _, rfl, hC, T.f 5 (by decide) "at" (by decide), .inl ⟨ha, fun d nd ne => ?_⟩⟩
      exact k d _ (fun b o nb e => by rw [upd_ne nb, upd_ne (ne_of_none e nd)]; exact e) nd ne upd_same (by rw [upd_ne ne]; exact upd_same)
theorem sc_i6 : FnScope ["self", "at", "word"] ["self", "at", "word"] (defScope (sI 6)) := ⟨rfl, rfl, rfl, by decide +kernel, rfl, by decide +kernel, by decide +kernel⟩
theorem ok_i6 (D : DfI K 6 "BadPicks.__init__") (T : Te K mg) : InitOk P w K mg base 6 := by
  obtain ⟨fd, F⟩ := D
  have hC := (T.c 6 (by decide)).ox
  refine ⟨fd, ?_, FunD.bindsN F fun _ _ _ _ _ _ us hl => match us, hl with | [_, _, _], _ => rfl, kbn_kw F (fun r r' => r.append r') fun _ _ _ _ _ _ us ws h1 h2 => match us, h1, ws, h2 with | [_], _, [_, _], _ => rfl, kbn_kw F (fun r r' => r.append (Vals.rev r')) fun _ _ _ _ _ _ us ws h1 h2 => match us, h1, ws, h2 with | [_], _, [_, _], _ => rfl⟩
  refine F.ok sc_i6 (fun vs H Q E h => ?_) (fun cdv A outer s H vs Q E hr h => ⟨_, PSs.nox (pss_cons (ps_ost (pv 0) (pv 1)) (pss_one (ps_ost (pv 0) (pv 2)))), ?_⟩)
  · obtain ⟨a, us, rfl, hl, _⟩ := h
    exact congrArg Nat.succ hl
  · obtain ⟨a, us, rfl, hl, ha, k⟩ := h
    match us, hl with
    | [v, u], _ =>
      refine ⟨_, rfl, _, rfl, a, _, rfl, hC, T.f 6 (by decide) "at" (by decide), .inl ⟨ha, fun d nd ne => ?_⟩⟩
      refine ⟨_, rfl, _, rfl, a, _, rfl, hC, T.f 6 (by decide) "word" (by decide), .inr ⟨d, _, upd_same, by rw [upd_ne ne]; exact upd_same, (by show 1 ≤ 900; decide), ?_⟩⟩
      exact k d _ (fun b o nb e => by rw [upd_ne (ne_of_none e nd), upd_ne nb, upd_ne (ne_of_none e nd)]; exact e) nd ne (by rw [upd_ne (Ne.symm ne)]; exact upd_same) upd_same
theorem sc_i7 : FnScope ["self", "at", "word"] ["self", "at", "word"] (defScope (sI 7)) := ⟨rfl, rfl, rfl, by decide +kernel, rfl, by decide +kernel, by decide +kernel⟩
theorem ok_i7 (D : DfI K 7 "BadPlan.__init__") (T : Te K mg) : InitOk P w K mg base 7 := by
  obtain ⟨fd, F⟩ := D
  have hC := (T.c 7 (by decide)).ox
  refine ⟨fd, ?_, FunD.bindsN F fun _ _ _ _ _ _ us hl => match us, hl with | [_, _, _], _ => rfl, kbn_kw F (fun r r' => r.append r') fun _ _ _ _ _ _ us ws h1 h2 => match us, h1, ws, h2 with | [_], _, [_, _], _ => rfl, kbn_kw F (fun r r' => r.append (Vals.rev r')) fun _ _ _ _ _ _ us ws h1 h2 => match us, h1, ws, h2 with | [_], _, [_, _], _ => rfl⟩
  refine F.ok sc_i7 (fun vs H Q E h => ?_) (fun cdv A outer s H vs Q E hr h => ⟨_, PSs.nox (pss_cons (ps_ost (pv 0) (pv 1)) (pss_one (ps_ost (pv 0) (pv 2)))), ?_⟩)
  · obtain ⟨a, us, rfl, hl, _⟩ := h
    exact congrArg Nat.succ hl
  · obtain ⟨a, us, rfl, hl, ha, k⟩ := h
    match us, hl with
    | [v, u], _ =>
      refine ⟨_, rfl, _, rfl, a, _, rfl, hC, T.f 7 (by decide) "at" (by decide), .inl ⟨ha, fun d nd ne => ?_⟩⟩
      refine ⟨_, rfl, _, rfl, a, _, rfl, hC, T.f 7 (by decide) "word" (by decide), .inr ⟨d, _, upd_same, by rw [upd_ne ne]; exact upd_same, (by show 1 ≤ 900; decide), ?_⟩⟩
      exact k d _ (fun b o nb e => by rw [upd_ne (ne_of_none e nd), upd_ne nb, upd_ne (ne_of_none e nd)]; exact e) nd ne (by rw [upd_ne (Ne.symm ne)]; exact upd_same) upd_same
theorem sc_i8 : FnScope ["self", "at"] ["self", "at"] (defScope (sI 8)) := ⟨rfl, rfl, rfl, by decide +kernel, rfl, by decide +kernel, by decide +kernel⟩
theorem ok_i8 (D : DfI K 8 "BadPrices.__init__") (T : Te K mg) : InitOk P w K mg base 8 := by
  obtain ⟨fd, F⟩ := D
  have hC := (T.c 8 (by decide)).ox
  refine ⟨fd, ?_, FunD.bindsN F fun _ _ _ _ _ _ us hl => match us, hl with | [_, _], _ => rfl, kbn_kw F (fun r r' => r.append r') fun _ _ _ _ _ _ us ws h1 h2 => match us, h1, ws, h2 with | [_], _, [_], _ => rfl, kbn_kw F (fun r r' => r.append (Vals.rev r')) fun _ _ _ _ _ _ us ws h1 h2 => match us, h1, ws, h2 with | [_], _, [_], _ => rfl⟩
  refine F.ok sc_i8 (fun vs H Q E h => ?_) (fun cdv A outer s H vs Q E hr h => ⟨_, PSs.nox (pss_one (ps_ost (pv 0) (pv 1))), ?_⟩)
  · obtain ⟨a, us, rfl, hl, _⟩ := h
    exact congrArg Nat.succ hl
  · obtain ⟨a, us, rfl, hl, ha, k⟩ := h
    match us, hl with
    | [v], _ =>
      refine ⟨_, rfl, _, rfl, a, _, rfl, hC, T.f 8 (by decide) "at" (by decide), .inl ⟨ha, fun d nd ne => ?_⟩⟩
      exact k d _ (fun b o nb e => by rw [upd_ne nb, upd_ne (ne_of_none e nd)]; exact e) nd ne upd_same (by rw [upd_ne ne]; exact upd_same)
theorem sc_i9 : FnScope ["self", "at", "word"] ["self", "at", "word"] (defScope (sI 9)) := ⟨rfl, rfl, rfl, by decide +kernel, rfl, by decide +kernel, by decide +kernel⟩
theorem ok_i9 (D : DfI K 9 "BadHands.__init__") (T : Te K mg) : InitOk P w K mg base 9 := by
  obtain ⟨fd, F⟩ := D
  have hC := (T.c 9 (by decide)).ox
  refine ⟨fd, ?_, FunD.bindsN F fun _ _ _ _ _ _ us hl => match us, hl with | [_, _, _], _ => rfl, kbn_kw F (fun r r' => r.append r') fun _ _ _ _ _ _ us ws h1 h2 => match us, h1, ws, h2 with | [_], _, [_, _], _ => rfl, kbn_kw F (fun r r' => r.append (Vals.rev r')) fun _ _ _ _ _ _ us ws h1 h2 => match us, h1, ws, h2 with | [_], _, [_, _], _ => rfl⟩
  refine F.ok sc_i9 (fun vs H Q E h => ?_) (fun cdv A outer s H vs Q E hr h => ⟨_, PSs.nox (pss_cons (ps_ost (pv 0) (pv 1)) (pss_one (ps_ost (pv 0) (pv 2)))), ?_⟩)
  · obtain ⟨a, us, rfl, hl, _⟩ := h
    exact congrArg Nat.succ hl
  · obtain ⟨a, us, rfl, hl, ha, k⟩ := h
    match us, hl with
    | [v, u], _ =>
      refine ⟨_, rfl, _, rfl, a, _, rfl, hC, T.f 9 (by decide) "at" (by decide), .inl ⟨ha, fun d nd ne => ?_⟩⟩
      refine ⟨_, rfl, _, rfl, a, _, rfl, hC, T.f 9 (by decide) "word" (by decide), .inr ⟨d, _, upd_same, by rw [upd_ne ne]; exact upd_same, (by show 1 ≤ 900; decide), ?_⟩⟩
      exact k d _ (fun b o nb e => by rw [upd_ne (ne_of_none e nd), upd_ne nb, upd_ne (ne_of_none e nd)]; exact e) nd ne (by rw [upd_ne (Ne.symm ne)]; exact upd_same) upd_same
theorem sc_i10 : FnScope ["self", "at", "word"] ["self", "at", "word"] (defScope (sI 10)) := ⟨rfl, rfl, rfl, by decide +kernel, rfl, by decide +kernel, by decide +kernel⟩
theorem ok_i10 (D : DfI K 10 "BadLog.__init__") (T : Te K mg) : InitOk P w K mg base 10 := by
  obtain ⟨fd, F⟩ := D
  have hC := (T.c 10 (by decide)).ox
  refine ⟨fd, ?_, FunD.bindsN F fun _ _ _ _ _ _ us hl => match us, hl with | [_, _, _], _ => rfl, kbn_kw F (fun r r' => r.append r') fun _ _ _ _ _ _ us ws h1 h2 => match us, h1, ws, h2 with | [_], _, [_, _], _ => rfl, kbn_kw F (fun r r' => r.append (Vals.rev r')) fun _ _ _ _ _ _ us ws h1 h2 => match us, h1, ws, h2 with | [_], _, [_, _], _ => rfl⟩
  refine F.ok sc_i10 (fun vs H Q E h => ?_) (fun cdv A outer s H vs Q E hr h => ⟨_, PSs.nox (pss_cons (ps_ost (pv 0) (pv 1)) (pss_one (ps_ost (pv 0) (pv 2)))), ?_⟩)
  · obtain ⟨a, us, rfl, hl, _⟩ := h
    exact congrArg Nat.succ hl
  · obtain ⟨a, us, rfl, hl, ha, k⟩ := h
    match us, hl with
    | [v, u], _ =>
      refine ⟨_, rfl, _, rfl, a, _, rfl, hC, T.f 10 (by decide) "at" (by decide), .inl ⟨ha, fun d nd ne => ?_⟩⟩
      refine ⟨_, rfl, _, rfl, a, _, rfl, hC, T.f 10 (by decide) "word" (by decide), .inr ⟨d, _, upd_same, by rw [upd_ne ne]; exact upd_same, (by show 1 ≤ 900; decide), ?_⟩⟩
      exact k d _ (fun b o nb e => by rw [upd_ne (ne_of_none e nd), upd_ne nb, upd_ne (ne_of_none e nd)]; exact e) nd ne (by rw [upd_ne (Ne.symm ne)]; exact upd_same) upd_same
theorem sc_i11 : FnScope ["self", "line", "word"] ["self", "line", "word"] (defScope (sI 11)) := ⟨rfl, rfl, rfl, by decide +kernel, rfl, by decide +kernel, by decide +kernel⟩
theorem ok_i11 (D : DfI K 11 "BadText.__init__") (T : Te K mg) : InitOk P w K mg base 11 := by
  obtain ⟨fd, F⟩ := D
  have hC := (T.c 11 (by decide)).ox
  refine ⟨fd, ?_, FunD.bindsN F fun _ _ _ _ _ _ us hl => match us, hl with | [_, _, _], _ => rfl, kbn_kw F (fun r r' => r.append r') fun _ _ _ _ _ _ us ws h1 h2 => match us, h1, ws, h2 with | [_], _, [_, _], _ => rfl, kbn_kw F (fun r r' => r.append (Vals.rev r')) fun _ _ _ _ _ _ us ws h1 h2 => match us, h1, ws, h2 with | [_], _, [_, _], _ => rfl⟩
  refine F.ok sc_i11 (fun vs H Q E h => ?_) (fun cdv A outer s H vs Q E hr h => ⟨_, PSs.nox (pss_cons (ps_ost (pv 0) (pv 1)) (pss_one (ps_ost (pv 0) (pv 2)))), ?_⟩)
  · obtain ⟨a, us, rfl, hl, _⟩ := h
    exact congrArg Nat.succ hl
  · obtain ⟨a, us, rfl, hl, ha, k⟩ := h
    match us, hl with
    | [v, u], _ =>
      refine ⟨_, rfl, _, rfl, a, _, rfl, hC, T.f 11 (by decide) "line" (by decide), .inl ⟨ha, fun d nd ne => ?_⟩⟩
      refine ⟨_, rfl, _, rfl, a, _, rfl, hC, T.f 11 (by decide) "word" (by decide), .inr ⟨d, _, upd_same, by rw [upd_ne ne]; exact upd_same, (by show 1 ≤ 900; decide), ?_⟩⟩
      exact k d _ (fun b o nb e => by rw [upd_ne (ne_of_none e nd), upd_ne nb, upd_ne (ne_of_none e nd)]; exact e) nd ne (by rw [upd_ne (Ne.symm ne)]; exact upd_same) upd_same
theorem sc_i12 : FnScope ["self", "word"] ["self", "word"] (defScope (sI 12)) := ⟨rfl, rfl, rfl, by decide +kernel, rfl, by decide +kernel, by decide +kernel⟩
theorem ok_i12 (D : DfI K 12 "BadStep.__init__") (T : Te K mg) : InitOk P w K mg base 12 := by
  obtain ⟨fd, F⟩ := D
  have hC := (T.c 12 (by decide)).ox
  refine ⟨fd, ?_, FunD.bindsN F fun _ _ _ _ _ _ us hl => match us, hl with | [_, _], _ => rfl, kbn_kw F (fun r r' => r.append r') fun _ _ _ _ _ _ us ws h1 h2 => match us, h1, ws, h2 with | [_], _, [_], _ => rfl, kbn_kw F (fun r r' => r.append (Vals.rev r')) fun _ _ _ _ _ _ us ws h1 h2 => match us, h1, ws, h2 with | [_], _, [_], _ => rfl⟩
  refine F.ok sc_i12 (fun vs H Q E h => ?_) (fun cdv A outer s H vs Q E hr h => ⟨_, PSs.nox (pss_one (ps_ost (pv 0) (pv 1))), ?_⟩)
  · obtain ⟨a, us, rfl, hl, _⟩ := h
    exact congrArg Nat.succ hl
  · obtain ⟨a, us, rfl, hl, ha, k⟩ := h
    match us, hl with
    | [v], _ =>
      refine ⟨_, rfl, _, rfl, a, _, rfl, hC, T.f 12 (by decide) "word" (by decide), .inl ⟨ha, fun d nd ne => ?_⟩⟩
      exact k d _ (fun b o nb e => by rw [upd_ne nb, upd_ne (ne_of_none e nd)]; exact e) nd ne upd_same (by rw [upd_ne ne]; exact upd_same)
theorem sc_i13 : FnScope ["self", "tree"] ["self", "tree"] (defScope (sI 13)) := ⟨rfl, rfl, rfl, by decide +kernel, rfl, by decide +kernel, by decide +kernel⟩
theorem ok_i13 (D : DfI K 13 "Broken.__init__") (T : Te K mg) : InitOk P w K mg base 13 := by
  obtain ⟨fd, F⟩ := D
  have hC := (T.c 13 (by decide)).ox
  refine ⟨fd, ?_, FunD.bindsN F fun _ _ _ _ _ _ us hl => match us, hl with | [_, _], _ => rfl, kbn_kw F (fun r r' => r.append r') fun _ _ _ _ _ _ us ws h1 h2 => match us, h1, ws, h2 with | [_], _, [_], _ => rfl, kbn_kw F (fun r r' => r.append (Vals.rev r')) fun _ _ _ _ _ _ us ws h1 h2 => match us, h1, ws, h2 with | [_], _, [_], _ => rfl⟩
  refine F.ok sc_i13 (fun vs H Q E h => ?_) (fun cdv A outer s H vs Q E hr h => ⟨_, PSs.nox (pss_one (ps_ost (pv 0) (pv 1))), ?_⟩)
  · obtain ⟨a, us, rfl, hl, _⟩ := h
    exact congrArg Nat.succ hl
  · obtain ⟨a, us, rfl, hl, ha, k⟩ := h
    match us, hl with
    | [v], _ =>
      refine ⟨_, rfl, _, rfl, a, _, rfl, hC, T.f 13 (by decide) "tree" (by decide), .inl ⟨ha, fun d nd ne => ?_⟩⟩
      exact k d _ (fun b o nb e => by rw [upd_ne nb, upd_ne (ne_of_none e nd)]; exact e) nd ne upd_same (by rw [upd_ne ne]; exact upd_same)
theorem sc_i14 : FnScope ["self", "word", "name"] ["self", "word", "name"] (defScope (sI 14)) := ⟨rfl, rfl, rfl, by decide +kernel, rfl, by decide +kernel, by decide +kernel⟩
theorem ok_i14 (D : DfI K 14 "NoSuch.__init__") (T : Te K mg) : InitOk P w K mg base 14 := by
  obtain ⟨fd, F⟩ := D
  have hC := (T.c 14 (by decide)).ox
  refine ⟨fd, ?_, FunD.bindsN F fun _ _ _ _ _ _ us hl => match us, hl with | [_, _, _], _ => rfl, kbn_kw F (fun r r' => r.append r') fun _ _ _ _ _ _ us ws h1 h2 => match us, h1, ws, h2 with | [_], _, [_, _], _ => rfl, kbn_kw F (fun r r' => r.append (Vals.rev r')) fun _ _ _ _ _ _ us ws h1 h2 => match us, h1, ws, h2 with | [_], _, [_, _], _ => rfl⟩
  refine F.ok sc_i14 (fun vs H Q E h => ?_) (fun cdv A outer s H vs Q E hr h => ⟨_, PSs.nox (pss_cons (ps_ost (pv 0) (pv 1)) (pss_one (ps_ost (pv 0) (pv 2)))), ?_⟩)
  · obtain ⟨a, us, rfl, hl, _⟩ := h
    exact congrArg Nat.succ hl
  · obtain ⟨a, us, rfl, hl, ha, k⟩ := h
    match us, hl with
    | [v, u], _ =>
      refine ⟨_, rfl, _, rfl, a, _, rfl, hC, T.f 14 (by decide) "word" (by decide), .inl ⟨ha, fun d nd ne => ?_⟩⟩
      refine ⟨_, rfl, _, rfl, a, _, rfl, hC, T.f 14 (by decide) "name" (by decide), .inr ⟨d, _, upd_same, by rw [upd_ne ne]; exact upd_same, (by show 1 ≤ 900; decide), ?_⟩⟩
      exact k d _ (fun b o nb e => by rw [upd_ne (ne_of_none e nd), upd_ne nb, upd_ne (ne_of_none e nd)]; exact e) nd ne (by rw [upd_ne (Ne.symm ne)]; exact upd_same) upd_same
theorem sc_i15 : FnScope ["self", "name"] ["self", "name"] (defScope (sI 15)) := ⟨rfl, rfl, rfl, by decide +kernel, rfl, by decide +kernel, by decide +kernel⟩
theorem ok_i15 (D : DfI K 15 "Taken.__init__") (T : Te K mg) : InitOk P w K mg base 15 := by
  obtain ⟨fd, F⟩ := D
  have hC := (T.c 15 (by decide)).ox
  refine ⟨fd, ?_, FunD.bindsN F fun _ _ _ _ _ _ us hl => match us, hl with | [_, _], _ => rfl, kbn_kw F (fun r r' => r.append r') fun _ _ _ _ _ _ us ws h1 h2 => match us, h1, ws, h2 with | [_], _, [_], _ => rfl, kbn_kw F (fun r r' => r.append (Vals.rev r')) fun _ _ _ _ _ _ us ws h1 h2 => match us, h1, ws, h2 with | [_], _, [_], _ => rfl⟩
  refine F.ok sc_i15 (fun vs H Q E h => ?_) (fun cdv A outer s H vs Q E hr h => ⟨_, PSs.nox (pss_one (ps_ost (pv 0) (pv 1))), ?_⟩)
  · obtain ⟨a, us, rfl, hl, _⟩ := h
    exact congrArg Nat.succ hl
  · obtain ⟨a, us, rfl, hl, ha, k⟩ := h
    match us, hl with
    | [v], _ =>
      refine ⟨_, rfl, _, rfl, a, _, rfl, hC, T.f 15 (by decide) "name" (by decide), .inl ⟨ha, fun d nd ne => ?_⟩⟩
      exact k d _ (fun b o nb e => by rw [upd_ne nb, upd_ne (ne_of_none e nd)]; exact e) nd ne upd_same (by rw [upd_ne ne]; exact upd_same)
theorem sc_i16 : FnScope ["self", "line"] ["self", "line"] (defScope (sI 16)) := ⟨rfl, rfl, rfl, by decide +kernel, rfl, by decide +kernel, by decide +kernel⟩
theorem ok_i16 (D : DfI K 16 "BadCommand.__init__") (T : Te K mg) : InitOk P w K mg base 16 := by
  obtain ⟨fd, F⟩ := D
  have hC := (T.c 16 (by decide)).ox
  refine ⟨fd, ?_, FunD.bindsN F fun _ _ _ _ _ _ us hl => match us, hl with | [_, _], _ => rfl, kbn_kw F (fun r r' => r.append r') fun _ _ _ _ _ _ us ws h1 h2 => match us, h1, ws, h2 with | [_], _, [_], _ => rfl, kbn_kw F (fun r r' => r.append (Vals.rev r')) fun _ _ _ _ _ _ us ws h1 h2 => match us, h1, ws, h2 with | [_], _, [_], _ => rfl⟩
  refine F.ok sc_i16 (fun vs H Q E h => ?_) (fun cdv A outer s H vs Q E hr h => ⟨_, PSs.nox (pss_one (ps_ost (pv 0) (pv 1))), ?_⟩)
  · obtain ⟨a, us, rfl, hl, _⟩ := h
    exact congrArg Nat.succ hl
  · obtain ⟨a, us, rfl, hl, ha, k⟩ := h
    match us, hl with
    | [v], _ =>
      refine ⟨_, rfl, _, rfl, a, _, rfl, hC, T.f 16 (by decide) "line" (by decide), .inl ⟨ha, fun d nd ne => ?_⟩⟩
      exact k d _ (fun b o nb e => by rw [upd_ne nb, upd_ne (ne_of_none e nd)]; exact e) nd ne upd_same (by rw [upd_ne ne]; exact upd_same)
end
end K99

set_option Elab.async false
set_option linter.all false
set_option maxRecDepth 100000
set_option maxHeartbeats 4000000
/-! Errors made, held, asked for their fields. -/
namespace K99
open PySem PySem.Spec PyProof.Rows L2
theorem PE.imp {X : Cx} {e : Expr} {t t' : TE} (h : PE X e t) (i : ∀ σ H Q, t' σ H Q → t σ H Q) : PE X e t' := ⟨fun pins s σ H Q I q => h.run pins s σ H Q I (i σ H Q q)⟩
/-- a new error of the n-th class with these values -/
def tMk (K : PySem.W.Frag) (n : Nat) (f : List V → List V) (ta : TA) : TE := fun σ H Q => ta σ H fun us H1 => us.length = (fl n).length ∧ ∀ (a d : Addr) (H2 : Hp), H1 a = none → H1 d = none → Same H1 H2 → H2 a = some (exo a (C K n) (some d)) → H2 d = some (exd d (zf n (f us))) → Q (.ref a) H2
section
variable {X : Cx} {n k : Nat} {p pos : Pos} {e : Expr} {es : List Expr} {kws : List Keyword} {t tk : TA}
theorem mk_back {K : PySem.W.Frag} {n : Nat} {us : List V} {H2 : Hp} {a : Addr} {Q : VK} (hl : us.length = (fl n).length) (ha : H2 a = none)
    (q : ∀ (a d : Addr) (H3 : Hp), H2 a = none → H2 d = none → Same H2 H3 → H3 a = some (exo a (C K n) (some d)) → H3 d = some (exd d (zf n us)) → Q (.ref a) H3) :
    spI K n (.ref a :: us) (upd H2 a (exo a (C K n) none)) (fun v H3 => v = .non ∧ Q (.ref a) H3) (fun _ _ _ => False) :=
  ⟨a, us, rfl, hl, upd_same, fun d H' k1 nd ne e1 e2 => ⟨rfl, q a d H' ha (by rw [upd_ne ne] at nd; exact nd) (fun b o e => k1 b o (ne_of_none e ha) (by rw [upd_ne (ne_of_none e ha)]; exact e)) e1 e2⟩⟩
/-- an argument list's reading, closed upward -/
def up (t : TA) : TA := fun σ H R => ∃ R', t σ H R' ∧ ∀ us H1, R' us H1 → R us H1
theorem PA.up (h : PA X es t) : PA X es (up t) := ⟨fun pos pins s σ H R I ⟨R', q, i⟩ => thn (h.run pos pins s σ H R' I q) fun us s1 ⟨vs, H1, I1, r, z⟩ => ⟨vs, H1, I1, r, i vs H1 z⟩⟩
theorem PK.up (h : PK X kws t) : PK X kws (up t) := ⟨fun pos pins s σ H R I ⟨R', q, i⟩ => thn (h.run pos pins s σ H R' I q) fun us s1 ⟨vs, H1, I1, r, z⟩ => ⟨vs, H1, I1, r, i vs H1 z⟩⟩
theorem few (n : Nat) (h : n < 17) : (fl n).length ≤ 1000 := by
  have h2 : ∀ m : Fin 17, (fl m.val).length ≤ 1000 := by decide +kernel
  exact h2 ⟨n, h⟩
/-- C(e, ..) -/
theorem pe_m1 (T : Te X.K X.mg) (hn : n < 17) (I : InitOk X.prog X.w X.K X.mg X.base n) (hr : Room 2 X.A) (ha : PA X (e :: es) t) (hg : Gl X (nm n) := by rfl)
    (hdb : (nm n == ("__debug__" : Str)) = false := by decide) (he : starEach (e :: es) X.env = (false, eval e X.env) :: starEach es X.env := by rfl) (hpl : (backTo pos (starEach es X.env)).any (·.1) = false := by rfl) :
    PE X (.Call (.Name (nm n) p) (e :: es) [] pos) (tMk X.K n (fun us => us) t) := by
  obtain ⟨fd, F, b, _, _⟩ := I
  exact PE.imp (pe_mkE (k := 1) (n := (fl n).length) (T.c n hn) F hr hg (T.g n hn) (kbn_pos b rfl) (PA.up ha) hdb he hpl) fun σ H Q h => ⟨_, h, fun us H1 ⟨hl, q⟩ => ⟨hl, rfl, few n hn, fun a na => mk_back hl na q⟩⟩
/-- C(k = e, ..), the names in the fields' sequence -/
theorem pe_m2 (T : Te X.K X.mg) (hn : n < 17) (I : InitOk X.prog X.w X.K X.mg X.base n) (hr : Room 2 X.A) (ha : PK X kws t) (hg : Gl X (nm n) := by rfl)
    (hall : (backToKw pos (keywordEach kws X.env)).all (·.1.isSome) = true := by rfl) (hks : (backToKw pos (keywordEach kws X.env)).filterMap (·.1) = fl n := by rfl) (hdb : (nm n == ("__debug__" : Str)) = false := by decide)
    (hpl : ((backTo pos (starEach [] X.env)).any (·.1) || (backToKw pos (keywordEach kws X.env)).any (·.1.isNone)) = false := by rfl) :
    PE X (.Call (.Name (nm n) p) [] kws pos) (tMk X.K n (fun us => us) t) := by
  obtain ⟨fd, F, _, b, _⟩ := I
  exact PE.imp (pe_mkEK (k := 1) (T.c n hn) F hr hg (T.g n hn) b (PK.up ha) hall hks hdb hpl) fun σ H Q h => ⟨_, h, fun us H1 ⟨hl, q⟩ => ⟨rfl, hl, Nat.zero_le _, fun a na => mk_back hl na q⟩⟩
/-- .. turned round -/
theorem pe_m3 (T : Te X.K X.mg) (hn : n < 17) (I : InitOk X.prog X.w X.K X.mg X.base n) (hr : Room 2 X.A) (ha : PK X kws t) (hg : Gl X (nm n) := by rfl)
    (hall : (backToKw pos (keywordEach kws X.env)).all (·.1.isSome) = true := by rfl) (hks : (backToKw pos (keywordEach kws X.env)).filterMap (·.1) = (fl n).reverse := by rfl) (hdb : (nm n == ("__debug__" : Str)) = false := by decide)
    (hpl : ((backTo pos (starEach [] X.env)).any (·.1) || (backToKw pos (keywordEach kws X.env)).any (·.1.isNone)) = false := by rfl) :
    PE X (.Call (.Name (nm n) p) [] kws pos) (tMk X.K n List.reverse t) := by
  obtain ⟨fd, F, _, _, b⟩ := I
  exact PE.imp (pe_mkEK (k := 1) (T.c n hn) F hr hg (T.g n hn) b (PK.up ha) hall hks hdb hpl) fun σ H Q h => ⟨_, h, fun us H1 ⟨hl, q⟩ => ⟨rfl, hl.trans List.length_reverse.symm, Nat.zero_le _, fun a na => mk_back (hl ▸ List.length_reverse) na q⟩⟩
/-- raise C(e, ..) -/
def tRz (K : PySem.W.Frag) (n : Nat) (ta : TA) : L2.St → Hp → XK → Prop := fun σ H Q => ta σ H fun us H1 => us.length = (fl n).length ∧ ∀ (d : Addr) (H2 : Hp), H1 d = none → Same H1 H2 → H2 d = some (.xd (zf n us)) → Q (.ref (C K n)) (some d) H2
theorem pmk_n (T : Te X.K X.mg) (hn : n < 17) (I : InitOk X.prog X.w X.K X.mg X.base n) (hr : Room 2 X.A) (ha : PA X (e :: es) t) (hg : Gl X (nm n) := by rfl)
    (hdb : (nm n == ("__debug__" : Str)) = false := by decide) (he : starEach (e :: es) X.env = (false, eval e X.env) :: starEach es X.env := by rfl) (hpl : (backTo pos (starEach es X.env)).any (·.1) = false := by rfl) :
    PMk X (.Call (.Name (nm n) p) (e :: es) [] pos) (tRz X.K n t) := by
  obtain ⟨fd, F, b, _, _⟩ := I
  intro pins s σ H Q I h
  refine pmk_oex (k := 1) (T.c n hn).ox (T.c n hn).iC (T.c n hn).tI F hr b .nil pass0 hg (T.g n hn) (PA.up ha) hdb he hpl pins s σ H Q I ⟨_, h, fun us H1 ⟨hl, q⟩ => ⟨by rw [hl]; exact few n hn, fun a na => ?_⟩⟩
  rw [List.append_nil]
  refine ⟨a, us, rfl, hl, upd_same, fun d H' k1 nd ne e1 e2 => ⟨rfl, d, _, e1, e2, (by rw [upd_ne ne] at nd; exact nd), q d _ (by rw [upd_ne ne] at nd; exact nd) (fun c o e => ?_) upd_same⟩⟩
  have c1 : c ≠ a := ne_of_none e na
  have c2 : c ≠ d := ne_of_none e (by rw [upd_ne ne] at nd; exact nd)
  rw [upd_ne c2, del_ne c1]
  exact k1 c o c1 (by rw [upd_ne c1]; exact e)
end
end K99

set_option Elab.async false
set_option linter.all false
set_option maxRecDepth 100000
set_option maxHeartbeats 4000000
/-! made, fields -/
namespace K99
open PySem PySem.Spec PyProof.Rows L2
abbrev s_made : Stmt := top 23
theorem sc_made : FnScope ["number", "one", "two", "way"] ["number", "one", "two", "way"] (defScope s_made) := ⟨rfl, rfl, rfl, by decide +kernel, rfl, by decide +kernel, by decide +kernel⟩
abbrev s_fields : Stmt := top 24
theorem sc_fields : FnScope ["number", "error"] ["number", "error"] (defScope s_fields) := ⟨rfl, rfl, rfl, by decide +kernel, rfl, by decide +kernel, by decide +kernel⟩
/-- the values of a new error's fields -/
abbrev ar (n : Nat) (one two : V) : List V := [one, two].take (fl n).length
/-- the error at a: of the n-th class, with these values -/
def Er (K : PySem.W.Frag) (H : Hp) (a : Addr) (n : Nat) (us : List V) : Prop := ∃ d, H a = some (exo a (C K n) (some d)) ∧ H d = some (exd d (zf n us))
def spMade (K : PySem.W.Frag) : Sp := fun vs H Q _ => ∃ (n : Nat) (one two : V) (way : Int), vs = [.int n, one, two, .int way] ∧ n < 17 ∧ ∀ (a : Addr) (H' : Hp), H a = none → Same H H' → Er K H' a n (ar n one two) → Q (.ref a) H'
def spFields (K : PySem.W.Frag) : Sp := fun vs H Q _ => ∃ (n : Nat) (a : Addr) (us : List V), vs = [.int n, .ref a] ∧ n < 17 ∧ us.length = (fl n).length ∧ Er K H a n us ∧ ∀ l, H l = none → Q (.ref l) (upd H l (.lst us))
section
variable {P : Program} {w : World} {K : PySem.W.Frag} {mg : Str → Option Value} {base : Heap}
theorem ok_made (D : Df K mg "_law_made" s_made ["number", "one", "two", "way"]) (T : Te K mg) (I : ∀ n, n < 17 → InitOk P w K mg base n) : Cal P w K mg base CX0 3 "_law_made" ["number", "one", "two", "way"] (spMade K) := by
  refine D.cal0 sc_made (fun vs H Q E h => ?_) (fun cdv f A outer s H vs Q E hr h => ⟨_,
    (pss_cons (ps_if (pt_cmpR op_eq (pv 0) pe_int (nomark _)) (pss_one (ps_ret (pe_ifExp (pt_cmpR op_eq (pv 3) pe_int (nomark _)) (pe_m1 (n := 0) T (by decide) (I 0 (by decide)) (hr.mono (by decide)) (pa_cons (pv 1) pa_nil)) (pe_m2 (n := 0) T (by decide) (I 0 (by decide)) (hr.mono (by decide)) (pk_cons (pv 1) pk_nil))))) pss_nil)
      (pss_cons (ps_if (pt_cmpR op_eq (pv 0) pe_int (nomark _)) (pss_one (ps_ret (pe_ifExp (pt_cmpR op_eq (pv 3) pe_int (nomark _)) (pe_m1 (n := 1) T (by decide) (I 1 (by decide)) (hr.mono (by decide)) (pa_cons (pv 1) pa_nil)) (pe_m2 (n := 1) T (by decide) (I 1 (by decide)) (hr.mono (by decide)) (pk_cons (pv 1) pk_nil))))) pss_nil)
      (pss_cons (ps_if (pt_cmpR op_eq (pv 0) pe_int (nomark _)) (pss_one (ps_ret (pe_ifExp (pt_cmpR op_eq (pv 3) pe_int (nomark _)) (pe_m1 (n := 2) T (by decide) (I 2 (by decide)) (hr.mono (by decide)) (pa_cons (pv 1) (pa_cons (pv 2) pa_nil))) (pe_ifExp (pt_cmpR op_eq (pv 3) pe_int (nomark _)) (pe_m2 (n := 2) T (by decide) (I 2 (by decide)) (hr.mono (by decide)) (pk_cons (pv 1) (pk_cons (pv 2) pk_nil))) (pe_m3 (n := 2) T (by decide) (I 2 (by decide)) (hr.mono (by decide)) (pk_cons (pv 2) (pk_cons (pv 1) pk_nil))))))) pss_nil)
      (pss_cons (ps_if (pt_cmpR op_eq (pv 0) pe_int (nomark _)) (pss_one (ps_ret (pe_ifExp (pt_cmpR op_eq (pv 3) pe_int (nomark _)) (pe_m1 (n := 3) T (by decide) (I 3 (by decide)) (hr.mono (by decide)) (pa_cons (pv 1) (pa_cons (pv 2) pa_nil))) (pe_ifExp (pt_cmpR op_eq (pv 3) pe_int (nomark _)) (pe_m2 (n := 3) T (by decide) (I 3 (by decide)) (hr.mono (by decide)) (pk_cons (pv 1) (pk_cons (pv 2) pk_nil))) (pe_m3 (n := 3) T (by decide) (I 3 (by decide)) (hr.mono (by decide)) (pk_cons (pv 2) (pk_cons (pv 1) pk_nil))))))) pss_nil)
      (pss_cons (ps_if (pt_cmpR op_eq (pv 0) pe_int (nomark _)) (pss_one (ps_ret (pe_ifExp (pt_cmpR op_eq (pv 3) pe_int (nomark _)) (pe_m1 (n := 4) T (by decide) (I 4 (by decide)) (hr.mono (by decide)) (pa_cons (pv 1) (pa_cons (pv 2) pa_nil))) (pe_ifExp (pt_cmpR op_eq (pv 3) pe_int (nomark _)) (pe_m2 (n := 4) T (by decide) (I 4 (by decide)) (hr.mono (by decide)) (pk_cons (pv 1) (pk_cons (pv 2) pk_nil))) (pe_m3 (n := 4) T (by decide) (I 4 (by decide)) (hr.mono (by decide)) (pk_cons (pv 2) (pk_cons (pv 1) pk_nil))))))) pss_nil)
      (pss_cons (ps_if (pt_cmpR op_eq (pv 0) pe_int (nomark _)) (pss_one (ps_ret (pe_ifExp (pt_cmpR op_eq (pv 3) pe_int (nomark _)) (pe_m1 (n := 5) T (by decide) (I 5 (by decide)) (hr.mono (by decide)) (pa_cons (pv 1) pa_nil)) (pe_m2 (n := 5) T (by decide) (I 5 (by decide)) (hr.mono (by decide)) (pk_cons (pv 1) pk_nil))))) pss_nil)
      (pss_cons (ps_if (pt_cmpR op_eq (pv 0) pe_int (nomark _)) (pss_one (ps_ret (pe_ifExp (pt_cmpR op_eq (pv 3) pe_int (nomark _)) (pe_m1 (n := 6) T (by decide) (I 6 (by decide)) (hr.mono (by decide)) (pa_cons (pv 1) (pa_cons (pv 2) pa_nil))) (pe_ifExp (pt_cmpR op_eq (pv 3) pe_int (nomark _)) (pe_m2 (n := 6) T (by decide) (I 6 (by decide)) (hr.mono (by decide)) (pk_cons (pv 1) (pk_cons (pv 2) pk_nil))) (pe_m3 (n := 6) T (by decide) (I 6 (by decide)) (hr.mono (by decide)) (pk_cons (pv 2) (pk_cons (pv 1) pk_nil))))))) pss_nil)
      (pss_cons (ps_if (pt_cmpR op_eq (pv 0) pe_int (nomark _)) (pss_one (ps_ret (pe_ifExp (pt_cmpR op_eq (pv 3) pe_int (nomark _)) (pe_m1 (n := 7) T (by decide) (I 7 (by decide)) (hr.mono (by decide)) (pa_cons (pv 1) (pa_cons (pv 2) pa_nil))) (pe_ifExp (pt_cmpR op_eq (pv 3) pe_int (nomark _)) (pe_m2 (n := 7) T (by decide) (I 7 (by decide)) (hr.mono (by decide)) (pk_cons (pv 1) (pk_cons (pv 2) pk_nil))) (pe_m3 (n := 7) T (by decide) (I 7 (by decide)) (hr.mono (by decide)) (pk_cons (pv 2) (pk_cons (pv 1) pk_nil))))))) pss_nil)
      (pss_cons (ps_if (pt_cmpR op_eq (pv 0) pe_int (nomark _)) (pss_one (ps_ret (pe_ifExp (pt_cmpR op_eq (pv 3) pe_int (nomark _)) (pe_m1 (n := 8) T (by decide) (I 8 (by decide)) (hr.mono (by decide)) (pa_cons (pv 1) pa_nil)) (pe_m2 (n := 8) T (by decide) (I 8 (by decide)) (hr.mono (by decide)) (pk_cons (pv 1) pk_nil))))) pss_nil)
      (pss_cons (ps_if (pt_cmpR op_eq (pv 0) pe_int (nomark _)) (pss_one (ps_ret (pe_ifExp (pt_cmpR op_eq (pv 3) pe_int (nomark _)) (pe_m1 (n := 9) T (by decide) (I 9 (by decide)) (hr.mono (by decide)) (pa_cons (pv 1) (pa_cons (pv 2) pa_nil))) (pe_ifExp (pt_cmpR op_eq (pv 3) pe_int (nomark _)) (pe_m2 (n := 9) T (by decide) (I 9 (by decide)) (hr.mono (by decide)) (pk_cons (pv 1) (pk_cons (pv 2) pk_nil))) (pe_m3 (n := 9) T (by decide) (I 9 (by decide)) (hr.mono (by decide)) (pk_cons (pv 2) (pk_cons (pv 1) pk_nil))))))) pss_nil)
      (pss_cons (ps_if (pt_cmpR op_eq (pv 0) pe_int (nomark _)) (pss_one (ps_ret (pe_ifExp (pt_cmpR op_eq (pv 3) pe_int (nomark _)) (pe_m1 (n := 10) T (by decide) (I 10 (by decide)) (hr.mono (by decide)) (pa_cons (pv 1) (pa_cons (pv 2) pa_nil))) (pe_ifExp (pt_cmpR op_eq (pv 3) pe_int (nomark _)) (pe_m2 (n := 10) T (by decide) (I 10 (by decide)) (hr.mono (by decide)) (pk_cons (pv 1) (pk_cons (pv 2) pk_nil))) (pe_m3 (n := 10) T (by decide) (I 10 (by decide)) (hr.mono (by decide)) (pk_cons (pv 2) (pk_cons (pv 1) pk_nil))))))) pss_nil)
      (pss_cons (ps_if (pt_cmpR op_eq (pv 0) pe_int (nomark _)) (pss_one (ps_ret (pe_ifExp (pt_cmpR op_eq (pv 3) pe_int (nomark _)) (pe_m1 (n := 11) T (by decide) (I 11 (by decide)) (hr.mono (by decide)) (pa_cons (pv 1) (pa_cons (pv 2) pa_nil))) (pe_ifExp (pt_cmpR op_eq (pv 3) pe_int (nomark _)) (pe_m2 (n := 11) T (by decide) (I 11 (by decide)) (hr.mono (by decide)) (pk_cons (pv 1) (pk_cons (pv 2) pk_nil))) (pe_m3 (n := 11) T (by decide) (I 11 (by decide)) (hr.mono (by decide)) (pk_cons (pv 2) (pk_cons (pv 1) pk_nil))))))) pss_nil)
      (pss_cons (ps_if (pt_cmpR op_eq (pv 0) pe_int (nomark _)) (pss_one (ps_ret (pe_ifExp (pt_cmpR op_eq (pv 3) pe_int (nomark _)) (pe_m1 (n := 12) T (by decide) (I 12 (by decide)) (hr.mono (by decide)) (pa_cons (pv 1) pa_nil)) (pe_m2 (n := 12) T (by decide) (I 12 (by decide)) (hr.mono (by decide)) (pk_cons (pv 1) pk_nil))))) pss_nil)
      (pss_cons (ps_if (pt_cmpR op_eq (pv 0) pe_int (nomark _)) (pss_one (ps_ret (pe_ifExp (pt_cmpR op_eq (pv 3) pe_int (nomark _)) (pe_m1 (n := 13) T (by decide) (I 13 (by decide)) (hr.mono (by decide)) (pa_cons (pv 1) pa_nil)) (pe_m2 (n := 13) T (by decide) (I 13 (by decide)) (hr.mono (by decide)) (pk_cons (pv 1) pk_nil))))) pss_nil)
      (pss_cons (ps_if (pt_cmpR op_eq (pv 0) pe_int (nomark _)) (pss_one (ps_ret (pe_ifExp (pt_cmpR op_eq (pv 3) pe_int (nomark _)) (pe_m1 (n := 14) T (by decide) (I 14 (by decide)) (hr.mono (by decide)) (pa_cons (pv 1) (pa_cons (pv 2) pa_nil))) (pe_ifExp (pt_cmpR op_eq (pv 3) pe_int (nomark _)) (pe_m2 (n := 14) T (by decide) (I 14 (by decide)) (hr.mono (by decide)) (pk_cons (pv 1) (pk_cons (pv 2) pk_nil))) (pe_m3 (n := 14) T (by decide) (I 14 (by decide)) (hr.mono (by decide)) (pk_cons (pv 2) (pk_cons (pv 1) pk_nil))))))) pss_nil)
      (pss_cons (ps_if (pt_cmpR op_eq (pv 0) pe_int (nomark _)) (pss_one (ps_ret (pe_ifExp (pt_cmpR op_eq (pv 3) pe_int (nomark _)) (pe_m1 (n := 15) T (by decide) (I 15 (by decide)) (hr.mono (by decide)) (pa_cons (pv 1) pa_nil)) (pe_m2 (n := 15) T (by decide) (I 15 (by decide)) (hr.mono (by decide)) (pk_cons (pv 1) pk_nil))))) pss_nil)
      (pss_one (ps_ret (pe_ifExp (pt_cmpR op_eq (pv 3) pe_int (nomark _)) (pe_m1 (n := 16) T (by decide) (I 16 (by decide)) (hr.mono (by decide)) (pa_cons (pv 1) pa_nil)) (pe_m2 (n := 16) T (by decide) (I 16 (by decide)) (hr.mono (by decide)) (pk_cons (pv 1) pk_nil))))))))))))))))))))), ?_⟩)
  · obtain ⟨n, one, two, way, rfl, _⟩ := h
    rfl
  · obtain ⟨n, one, two, way, rfl, hn, k⟩ := h
    have fin : ∀ (a d : Addr) (H2 : Hp), H a = none → H d = none → Same H H2 → H2 a = some (exo a (C K n) (some d)) → H2 d = some (exd d (zf n (ar n one two))) → Q (.ref a) H2 := fun a d H2 h1 _ s e1 e2 => k a H2 h1 s ⟨d, e1, e2⟩
    match n, hn, fin with
    | 0, _, fin =>
      refine ⟨_, rfl, rfl, _, rfl, ?_⟩
      exact ⟨_, rfl, rfl, _, rfl, if_b (fun _ => ⟨_, rfl, rfl, fin⟩) (fun _ => ⟨_, rfl, rfl, fin⟩)⟩
    | 1, _, fin =>
      refine ⟨_, rfl, rfl, _, rfl, ?_⟩
      refine ⟨_, rfl, rfl, _, rfl, ?_⟩
      exact ⟨_, rfl, rfl, _, rfl, if_b (fun _ => ⟨_, rfl, rfl, fin⟩) (fun _ => ⟨_, rfl, rfl, fin⟩)⟩
    | 2, _, fin =>
      refine ⟨_, rfl, rfl, _, rfl, ?_⟩
      refine ⟨_, rfl, rfl, _, rfl, ?_⟩
      refine ⟨_, rfl, rfl, _, rfl, ?_⟩
      exact ⟨_, rfl, rfl, _, rfl, if_b (fun _ => ⟨_, rfl, _, rfl, rfl, fin⟩) (fun _ => ⟨_, rfl, rfl, _, rfl, if_b (fun _ => ⟨_, rfl, _, rfl, rfl, fin⟩) (fun _ => ⟨_, rfl, _, rfl, rfl, fin⟩)⟩)⟩
    | 3, _, fin =>
      refine ⟨_, rfl, rfl, _, rfl, ?_⟩
      refine ⟨_, rfl, rfl, _, rfl, ?_⟩
      refine ⟨_, rfl, rfl, _, rfl, ?_⟩
      refine ⟨_, rfl, rfl, _, rfl, ?_⟩
      exact ⟨_, rfl, rfl, _, rfl, if_b (fun _ => ⟨_, rfl, _, rfl, rfl, fin⟩) (fun _ => ⟨_, rfl, rfl, _, rfl, if_b (fun _ => ⟨_, rfl, _, rfl, rfl, fin⟩) (fun _ => ⟨_, rfl, _, rfl, rfl, fin⟩)⟩)⟩
    | 4, _, fin =>
      refine ⟨_, rfl, rfl, _, rfl, ?_⟩
      refine ⟨_, rfl, rfl, _, rfl, ?_⟩
      refine ⟨_, rfl, rfl, _, rfl, ?_⟩
      refine ⟨_, rfl, rfl, _, rfl, ?_⟩
      refine ⟨_, rfl, rfl, _, rfl, ?_⟩
      exact ⟨_, rfl, rfl, _, rfl, if_b (fun _ => ⟨_, rfl, _, rfl, rfl, fin⟩) (fun _ => ⟨_, rfl, rfl, _, rfl, if_b (fun _ => ⟨_, rfl, _, rfl, rfl, fin⟩) (fun _ => ⟨_, rfl, _, rfl, rfl, fin⟩)⟩)⟩
    | 5, _, fin =>
      refine ⟨_, rfl, rfl, _, rfl, ?_⟩
      refine ⟨_, rfl, rfl, _, rfl, ?_⟩
      refine ⟨_, rfl, rfl, _, rfl, ?_⟩
      refine ⟨_, rfl, rfl, _, rfl, ?_⟩
      refine ⟨_, rfl, rfl, _, rfl, ?_⟩
      refine ⟨_, rfl, rfl, _, rfl, ?_⟩
      exact ⟨_, rfl, rfl, _, rfl, if_b (fun _ => ⟨_, rfl, rfl, fin⟩) (fun _ => ⟨_, rfl, rfl, fin⟩)⟩
    | 6, _, fin =>
      refine ⟨_, rfl, rfl, _, rfl, ?_⟩
      refine ⟨_, rfl, rfl, _, rfl, ?_⟩
      refine ⟨_, rfl, rfl, _, rfl, ?_⟩
      refine ⟨_, rfl, rfl, _, rfl, ?_⟩
      refine ⟨_, rfl, rfl, _, rfl, ?_⟩
      refine ⟨_, rfl, rfl, _, rfl, ?_⟩
      refine ⟨_, rfl, rfl, _, rfl, ?_⟩
      exact ⟨_, rfl, rfl, _, rfl, if_b (fun _ => ⟨_, rfl, _, rfl, rfl, fin⟩) (fun _ => ⟨_, rfl, rfl, _, rfl, if_b (fun _ => ⟨_, rfl, _, rfl, rfl, fin⟩) (fun _ => ⟨_, rfl, _, rfl, rfl, fin⟩)⟩)⟩
    | 7, _, fin =>
      refine ⟨_, rfl, rfl, _, rfl, ?_⟩
      refine ⟨_, rfl, rfl, _, rfl, ?_⟩
      refine ⟨_, rfl, rfl, _, rfl, ?_⟩
      refine ⟨_, rfl, rfl, _, rfl, ?_⟩
      refine ⟨_, rfl, rfl, _, rfl, ?_⟩
      refine ⟨_, rfl, rfl, _, rfl, ?_⟩
      refine ⟨_, rfl, rfl, _, rfl, ?_⟩
      refine ⟨_, rfl, rfl, _, rfl, ?_⟩
      exact ⟨_, rfl, rfl, _, rfl, if_b (fun _ => ⟨_, rfl, _, rfl, rfl, fin⟩) (fun _ => ⟨_, rfl, rfl, _, rfl, if_b (fun _ => ⟨_, rfl, _, rfl, rfl, fin⟩) (fun _ => ⟨_, rfl, _, rfl, rfl, fin⟩)⟩)⟩
    | 8, _, fin =>
      refine ⟨_, rfl, rfl, _, rfl, ?_⟩
      refine ⟨_, rfl, rfl, _, rfl, ?_⟩
      refine ⟨_, rfl, rfl, _, rfl, ?_⟩
      refine ⟨_, rfl, rfl, _, rfl, ?_⟩
      refine ⟨_, rfl, rfl, _, rfl, ?_⟩
      refine ⟨_, rfl, rfl, _, rfl, ?_⟩
      refine ⟨_, rfl, rfl, _, rfl, ?_⟩
      refine ⟨_, rfl, rfl, _, rfl, ?_⟩
      refine ⟨_, rfl, rfl, _, rfl, ?_⟩
      exact ⟨_, rfl, rfl, _, rfl, if_b (fun _ => ⟨_, rfl, rfl, fin⟩) (fun _ => ⟨_, rfl, rfl, fin⟩)⟩
    | 9, _, fin =>
      refine ⟨_, rfl, rfl, _, rfl, ?_⟩
      refine ⟨_, rfl, rfl, _, rfl, ?_⟩
      refine ⟨_, rfl, rfl, _, rfl, ?_⟩
      refine ⟨_, rfl, rfl, _, rfl, ?_⟩
      refine ⟨_, rfl, rfl, _, rfl, ?_⟩
      refine ⟨_, rfl, rfl, _, rfl, ?_⟩
      refine ⟨_, rfl, rfl, _, rfl, ?_⟩
      refine ⟨_, rfl, rfl, _, rfl, ?_⟩
      refine ⟨_, rfl, rfl, _, rfl, ?_⟩
      refine ⟨_, rfl, rfl, _, rfl, ?_⟩
      exact ⟨_, rfl, rfl, _, rfl, if_b (fun _ => ⟨_, rfl, _, rfl, rfl, fin⟩) (fun _ => ⟨_, rfl, rfl, _, rfl, if_b (fun _ => ⟨_, rfl, _, rfl, rfl, fin⟩) (fun _ => ⟨_, rfl, _, rfl, rfl, fin⟩)⟩)⟩
    | 10, _, fin =>
      refine ⟨_, rfl, rfl, _, rfl, ?_⟩
      refine ⟨_, rfl, rfl, _, rfl, ?_⟩
      refine ⟨_, rfl, rfl, _, rfl, ?_⟩
      refine ⟨_, rfl, rfl, _, rfl, ?_⟩
      refine ⟨_, rfl, rfl, _, rfl, ?_⟩
      refine ⟨_, rfl, rfl, _, rfl, ?_⟩
      refine ⟨_, rfl, rfl, _, rfl, ?_⟩
      refine ⟨_, rfl, rfl, _, rfl, ?_⟩
      refine ⟨_, rfl, rfl, _, rfl, ?_⟩
      refine ⟨_, rfl, rfl, _, rfl, ?_⟩
      refine ⟨_, rfl, rfl, _, rfl, ?_⟩
      exact ⟨_, rfl, rfl, _, rfl, if_b (fun _ => ⟨_, rfl, _, rfl, rfl, fin⟩) (fun _ => ⟨_, rfl, rfl, _, rfl, if_b (fun _ => ⟨_, rfl, _, rfl, rfl, fin⟩) (fun _ => ⟨_, rfl, _, rfl, rfl, fin⟩)⟩)⟩
    | 11, _, fin =>
      refine ⟨_, rfl, rfl, _, rfl, ?_⟩
      refine ⟨_, rfl, rfl, _, rfl, ?_⟩
      refine ⟨_, rfl, rfl, _, rfl, ?_⟩
      refine ⟨_, rfl, rfl, _, rfl, ?_⟩
      refine ⟨_, rfl, rfl, _, rfl, ?_⟩
      refine ⟨_, rfl, rfl, _, rfl, ?_⟩
      refine ⟨_, rfl, rfl, _, rfl, ?_⟩
      refine ⟨_, rfl, rfl, _, rfl, ?_⟩
      refine ⟨_, rfl, rfl, _, rfl, ?_⟩
      refine ⟨_, rfl, rfl, _, rfl, ?_⟩
      refine ⟨_, rfl, rfl, _, rfl, ?_⟩
      refine ⟨_, rfl, rfl, _, rfl, ?_⟩
      exact ⟨_, rfl, rfl, _, rfl, if_b (fun _ => ⟨_, rfl, _, rfl, rfl, fin⟩) (fun _ => ⟨_, rfl, rfl, _, rfl, if_b (fun _ => ⟨_, rfl, _, rfl, rfl, fin⟩) (fun _ => ⟨_, rfl, _, rfl, rfl, fin⟩)⟩)⟩
    | 12, _, fin =>
      refine ⟨_, rfl, rfl, _, rfl, ?_⟩
      refine ⟨_, rfl, rfl, _, rfl, ?_⟩
      refine ⟨_, rfl, rfl, _, rfl, ?_⟩
      refine ⟨_, rfl, rfl, _, rfl, ?_⟩
      refine ⟨_, rfl, rfl, _, rfl, ?_⟩
      refine ⟨_, rfl, rfl, _, rfl, ?_⟩
      refine ⟨_, rfl, rfl, _, rfl, ?_⟩
      refine ⟨_, rfl, rfl, _, rfl, ?_⟩
      refine ⟨_, rfl, rfl, _, rfl, ?_⟩
      refine ⟨_, rfl, rfl, _, rfl, ?_⟩
      refine ⟨_, rfl, rfl, _, rfl, ?_⟩
      refine ⟨_, rfl, rfl, _, rfl, ?_⟩
      refine ⟨_, rfl, rfl, _, rfl, ?_⟩
      exact ⟨_, rfl, rfl, _, rfl, if_b (fun _ => ⟨_, rfl, rfl, fin⟩) (fun _ => ⟨_, rfl, rfl, fin⟩)⟩
    | 13, _, fin =>
      refine ⟨_, rfl, rfl, _, rfl, ?_⟩
      refine ⟨_, rfl, rfl, _, rfl, ?_⟩
      refine ⟨_, rfl, rfl, _, rfl, ?_⟩
      refine ⟨_, rfl, rfl, _, rfl, ?_⟩
      refine ⟨_, rfl, rfl, _, rfl, ?_⟩
      refine ⟨_, rfl, rfl, _, rfl, ?_⟩
      refine ⟨_, rfl, rfl, _, rfl, ?_⟩
      refine ⟨_, rfl, rfl, _, rfl, ?_⟩
      refine ⟨_, rfl, rfl, _, rfl, ?_⟩
      refine ⟨_, rfl, rfl, _, rfl, ?_⟩
      refine ⟨_, rfl, rfl, _, rfl, ?_⟩
      refine ⟨_, rfl, rfl, _, rfl, ?_⟩
      refine ⟨_, rfl, rfl, _, rfl, ?_⟩
      refine ⟨_, rfl, rfl, _, rfl, ?_⟩
      exact ⟨_, rfl, rfl, _, rfl, if_b (fun _ => ⟨_, rfl, rfl, fin⟩) (fun _ => ⟨_, rfl, rfl, fin⟩)⟩
    | 14, _, fin =>
      refine ⟨_, rfl, rfl, _, rfl, ?_⟩
      refine ⟨_, rfl, rfl, _, rfl, ?_⟩
      refine ⟨_, rfl, rfl, _, rfl, ?_⟩
      refine ⟨_, rfl, rfl, _, rfl, ?_⟩
      refine ⟨_, rfl, rfl, _, rfl, ?_⟩
      refine ⟨_, rfl, rfl, _, rfl, ?_⟩
      refine ⟨_, rfl, rfl, _, rfl, ?_⟩
      refine ⟨_, rfl, rfl, _, rfl, ?_⟩
      refine ⟨_, rfl, rfl, _, rfl, ?_⟩
      refine ⟨_, rfl, rfl, _, rfl, ?_⟩
      refine ⟨_, rfl, rfl, _, rfl, ?_⟩
      refine ⟨_, rfl, rfl, _, rfl, ?_⟩
      refine ⟨_, rfl, rfl, _, rfl, ?_⟩
      refine ⟨_, rfl, rfl, _, rfl, ?_⟩
      refine ⟨_, rfl, rfl, _, rfl, ?_⟩
      exact ⟨_, rfl, rfl, _, rfl, if_b (fun _ => ⟨_, rfl, _, rfl, rfl, fin⟩) (fun _ => ⟨_, rfl, rfl, _, rfl, if_b (fun _ => ⟨_, rfl, _, rfl, rfl, fin⟩) (fun _ => ⟨_, rfl, _, rfl, rfl, fin⟩)⟩)⟩
    | 15, _, fin =>
      refine ⟨_, rfl, rfl, _, rfl, ?_⟩
      refine ⟨_, rfl, rfl, _, rfl, ?_⟩
      refine ⟨_, rfl, rfl, _, rfl, ?_⟩
      refine ⟨_, rfl, rfl, _, rfl, ?_⟩
      refine ⟨_, rfl, rfl, _, rfl, ?_⟩
      refine ⟨_, rfl, rfl, _, rfl, ?_⟩
      refine ⟨_, rfl, rfl, _, rfl, ?_⟩
      refine ⟨_, rfl, rfl, _, rfl, ?_⟩
      refine ⟨_, rfl, rfl, _, rfl, ?_⟩
      refine ⟨_, rfl, rfl, _, rfl, ?_⟩
      refine ⟨_, rfl, rfl, _, rfl, ?_⟩
      refine ⟨_, rfl, rfl, _, rfl, ?_⟩
      refine ⟨_, rfl, rfl, _, rfl, ?_⟩
      refine ⟨_, rfl, rfl, _, rfl, ?_⟩
      refine ⟨_, rfl, rfl, _, rfl, ?_⟩
      refine ⟨_, rfl, rfl, _, rfl, ?_⟩
      exact ⟨_, rfl, rfl, _, rfl, if_b (fun _ => ⟨_, rfl, rfl, fin⟩) (fun _ => ⟨_, rfl, rfl, fin⟩)⟩
    | 16, _, fin =>
      refine ⟨_, rfl, rfl, _, rfl, ?_⟩
      refine ⟨_, rfl, rfl, _, rfl, ?_⟩
      refine ⟨_, rfl, rfl, _, rfl, ?_⟩
      refine ⟨_, rfl, rfl, _, rfl, ?_⟩
      refine ⟨_, rfl, rfl, _, rfl, ?_⟩
      refine ⟨_, rfl, rfl, _, rfl, ?_⟩
      refine ⟨_, rfl, rfl, _, rfl, ?_⟩
      refine ⟨_, rfl, rfl, _, rfl, ?_⟩
      refine ⟨_, rfl, rfl, _, rfl, ?_⟩
      refine ⟨_, rfl, rfl, _, rfl, ?_⟩
      refine ⟨_, rfl, rfl, _, rfl, ?_⟩
      refine ⟨_, rfl, rfl, _, rfl, ?_⟩
      refine ⟨_, rfl, rfl, _, rfl, ?_⟩
      refine ⟨_, rfl, rfl, _, rfl, ?_⟩
      refine ⟨_, rfl, rfl, _, rfl, ?_⟩
      refine ⟨_, rfl, rfl, _, rfl, ?_⟩
      exact ⟨_, rfl, rfl, _, rfl, if_b (fun _ => ⟨_, rfl, rfl, fin⟩) (fun _ => ⟨_, rfl, rfl, fin⟩)⟩
    | n + 17, hn, _ => exact absurd hn (by omega)
theorem ok_fields (D : Df K mg "_law_fields" s_fields ["number", "error"]) (T : Te K mg) : Cal P w K mg base CX0 1 "_law_fields" ["number", "error"] (spFields K) := by
  refine D.cal0 sc_fields (fun vs H Q E h => ?_) (fun cdv f A outer s H vs Q E hr h => ⟨_,
    (pss_cons (ps_if (pt_cmpR op_eq (pv 0) pe_int (nomark _)) (pss_one (ps_ret (pe_lst (pa_cons (pe_ef (pv 1)) pa_nil)))) pss_nil)
      (pss_cons (ps_if (pt_cmpR op_eq (pv 0) pe_int (nomark _)) (pss_one (ps_ret (pe_lst (pa_cons (pe_ef (pv 1)) pa_nil)))) pss_nil)
      (pss_cons (ps_if (pt_cmpR op_eq (pv 0) pe_int (nomark _)) (pss_one (ps_ret (pe_lst (pa_cons (pe_ef (pv 1)) (pa_cons (pe_ef (pv 1)) pa_nil))))) pss_nil)
      (pss_cons (ps_if (pt_cmpR op_eq (pv 0) pe_int (nomark _)) (pss_one (ps_ret (pe_lst (pa_cons (pe_ef (pv 1)) (pa_cons (pe_ef (pv 1)) pa_nil))))) pss_nil)
      (pss_cons (ps_if (pt_cmpR op_eq (pv 0) pe_int (nomark _)) (pss_one (ps_ret (pe_lst (pa_cons (pe_ef (pv 1)) (pa_cons (pe_ef (pv 1)) pa_nil))))) pss_nil)
      (pss_cons (ps_if (pt_cmpR op_eq (pv 0) pe_int (nomark _)) (pss_one (ps_ret (pe_lst (pa_cons (pe_ef (pv 1)) pa_nil)))) pss_nil)
      (pss_cons (ps_if (pt_cmpR op_eq (pv 0) pe_int (nomark _)) (pss_one (ps_ret (pe_lst (pa_cons (pe_ef (pv 1)) (pa_cons (pe_ef (pv 1)) pa_nil))))) pss_nil)
      (pss_cons (ps_if (pt_cmpR op_eq (pv 0) pe_int (nomark _)) (pss_one (ps_ret (pe_lst (pa_cons (pe_ef (pv 1)) (pa_cons (pe_ef (pv 1)) pa_nil))))) pss_nil)
      (pss_cons (ps_if (pt_cmpR op_eq (pv 0) pe_int (nomark _)) (pss_one (ps_ret (pe_lst (pa_cons (pe_ef (pv 1)) pa_nil)))) pss_nil)
      (pss_cons (ps_if (pt_cmpR op_eq (pv 0) pe_int (nomark _)) (pss_one (ps_ret (pe_lst (pa_cons (pe_ef (pv 1)) (pa_cons (pe_ef (pv 1)) pa_nil))))) pss_nil)
      (pss_cons (ps_if (pt_cmpR op_eq (pv 0) pe_int (nomark _)) (pss_one (ps_ret (pe_lst (pa_cons (pe_ef (pv 1)) (pa_cons (pe_ef (pv 1)) pa_nil))))) pss_nil)
      (pss_cons (ps_if (pt_cmpR op_eq (pv 0) pe_int (nomark _)) (pss_one (ps_ret (pe_lst (pa_cons (pe_ef (pv 1)) (pa_cons (pe_ef (pv 1)) pa_nil))))) pss_nil)
      (pss_cons (ps_if (pt_cmpR op_eq (pv 0) pe_int (nomark _)) (pss_one (ps_ret (pe_lst (pa_cons (pe_ef (pv 1)) pa_nil)))) pss_nil)
      (pss_cons (ps_if (pt_cmpR op_eq (pv 0) pe_int (nomark _)) (pss_one (ps_ret (pe_lst (pa_cons (pe_ef (pv 1)) pa_nil)))) pss_nil)
      (pss_cons (ps_if (pt_cmpR op_eq (pv 0) pe_int (nomark _)) (pss_one (ps_ret (pe_lst (pa_cons (pe_ef (pv 1)) (pa_cons (pe_ef (pv 1)) pa_nil))))) pss_nil)
      (pss_cons (ps_if (pt_cmpR op_eq (pv 0) pe_int (nomark _)) (pss_one (ps_ret (pe_lst (pa_cons (pe_ef (pv 1)) pa_nil)))) pss_nil)
      (pss_one (ps_ret (pe_lst (pa_cons (pe_ef (pv 1)) pa_nil)))))))))))))))))))), ?_⟩)
  · obtain ⟨n, a, us, rfl, _⟩ := h
    rfl
  · obtain ⟨n, a, us, rfl, hn, hl, ⟨d, e1, e2⟩, k⟩ := h
    have X := (T.c n hn).xf
    have F := T.f n hn
    match n, hn, hl, e1, e2, X, F with
    | 0, _, hl, e1, e2, X, F =>
      match us, hl, e2, k with
      | [u], _, e2, k =>
        refine ⟨_, rfl, rfl, _, rfl, ?_⟩
        exact ⟨_, rfl, a, _, d, _, u, rfl, e1, e2, X, F _ (by decide), rfl, (by show 1 ≤ sizeLine; decide), fun l nl => k l nl⟩
    | 1, _, hl, e1, e2, X, F =>
      match us, hl, e2, k with
      | [u], _, e2, k =>
        refine ⟨_, rfl, rfl, _, rfl, ?_⟩
        refine ⟨_, rfl, rfl, _, rfl, ?_⟩
        exact ⟨_, rfl, a, _, d, _, u, rfl, e1, e2, X, F _ (by decide), rfl, (by show 1 ≤ sizeLine; decide), fun l nl => k l nl⟩
    | 2, _, hl, e1, e2, X, F =>
      match us, hl, e2, k with
      | [u, v], _, e2, k =>
        refine ⟨_, rfl, rfl, _, rfl, ?_⟩
        refine ⟨_, rfl, rfl, _, rfl, ?_⟩
        refine ⟨_, rfl, rfl, _, rfl, ?_⟩
        exact ⟨_, rfl, a, _, d, _, u, rfl, e1, e2, X, F _ (by decide), rfl, _, rfl, a, _, d, _, v, rfl, e1, e2, X, F _ (by decide), rfl, (by show 2 ≤ sizeLine; decide), fun l nl => k l nl⟩
    | 3, _, hl, e1, e2, X, F =>
      match us, hl, e2, k with
      | [u, v], _, e2, k =>
        refine ⟨_, rfl, rfl, _, rfl, ?_⟩
        refine ⟨_, rfl, rfl, _, rfl, ?_⟩
        refine ⟨_, rfl, rfl, _, rfl, ?_⟩
        refine ⟨_, rfl, rfl, _, rfl, ?_⟩
        exact ⟨_, rfl, a, _, d, _, u, rfl, e1, e2, X, F _ (by decide), rfl, _, rfl, a, _, d, _, v, rfl, e1, e2, X, F _ (by decide), rfl, (by show 2 ≤ sizeLine; decide), fun l nl => k l nl⟩
    | 4, _, hl, e1, e2, X, F =>
      match us, hl, e2, k with
      | [u, v], _, e2, k =>
        refine ⟨_, rfl, rfl, _, rfl, ?_⟩
        refine ⟨_, rfl, rfl, _, rfl, ?_⟩
        refine ⟨_, rfl, rfl, _, rfl, ?_⟩
        refine ⟨_, rfl, rfl, _, rfl, ?_⟩
        refine ⟨_, rfl, rfl, _, rfl, ?_⟩
        exact ⟨_, rfl, a, _, d, _, u, rfl, e1, e2, X, F _ (by decide), rfl, _, rfl, a, _, d, _, v, rfl, e1, e2, X, F _ (by decide), rfl, (by show 2 ≤ sizeLine; decide), fun l nl => k l nl⟩
    | 5, _, hl, e1, e2, X, F =>
      match us, hl, e2, k with
      | [u], _, e2, k =>
        refine ⟨_, rfl, rfl, _, rfl, ?_⟩
        refine ⟨_, rfl, rfl, _, rfl, ?_⟩
        refine ⟨_, rfl, rfl, _, rfl, ?_⟩
        refine ⟨_, rfl, rfl, _, rfl, ?_⟩
        refine ⟨_, rfl, rfl, _, rfl, ?_⟩
        refine ⟨_, rfl, rfl, _, rfl, ?_⟩
        exact ⟨_, rfl, a, _, d, _, u, rfl, e1, e2, X, F _ (by decide), rfl, (by show 1 ≤ sizeLine; decide), fun l nl => k l nl⟩
    | 6, _, hl, e1, e2, X, F =>
      match us, hl, e2, k with
      | [u, v], _, e2, k =>
        refine ⟨_, rfl, rfl, _, rfl, ?_⟩
        refine ⟨_, rfl, rfl, _, rfl, ?_⟩
        refine ⟨_, rfl, rfl, _, rfl, ?_⟩
        refine ⟨_, rfl, rfl, _, rfl, ?_⟩
        refine ⟨_, rfl, rfl, _, rfl, ?_⟩
        refine ⟨_, rfl, rfl, _, rfl, ?_⟩
        refine ⟨_, rfl, rfl, _, rfl, ?_⟩
        exact ⟨_, rfl, a, _, d, _, u, rfl, e1, e2, X, F _ (by decide), rfl, _, rfl, a, _, d, _, v, rfl, e1, e2, X, F _ (by decide), rfl, (by show 2 ≤ sizeLine; decide), fun l nl => k l nl⟩
    | 7, _, hl, e1, e2, X, F =>
      match us, hl, e2, k with
      | [u, v], _, e2, k =>
        refine ⟨_, rfl, rfl, _, rfl, ?_⟩
        refine ⟨_, rfl, rfl, _, rfl, ?_⟩
        refine ⟨_, rfl, rfl, _, rfl, ?_⟩
        refine ⟨_, rfl, rfl, _, rfl, ?_⟩
        refine ⟨_, rfl, rfl, _, rfl, ?_⟩
        refine ⟨_, rfl, rfl, _, rfl, ?_⟩
        refine ⟨_, rfl, rfl, _, rfl, ?_⟩
        refine ⟨_, rfl, rfl, _, rfl, ?_⟩
        exact ⟨_, rfl, a, _, d, _, u, rfl, e1, e2, X, F _ (by decide), rfl, _, rfl, a, _, d, _, v, rfl, e1, e2, X, F _ (by decide), rfl, (by show 2 ≤ sizeLine; decide), fun l nl => k l nl⟩
    | 8, _, hl, e1, e2, X, F =>
      match us, hl, e2, k with
      | [u], _, e2, k =>
        refine ⟨_, rfl, rfl, _, rfl, ?_⟩
        refine ⟨_, rfl, rfl, _, rfl, ?_⟩
        refine ⟨_, rfl, rfl, _, rfl, ?_⟩
        refine ⟨_, rfl, rfl, _, rfl, ?_⟩
        refine ⟨_, rfl, rfl, _, rfl, ?_⟩
        refine ⟨_, rfl, rfl, _, rfl, ?_⟩
        refine ⟨_, rfl, rfl, _, rfl, ?_⟩
        refine ⟨_, rfl, rfl, _, rfl, ?_⟩
        refine ⟨_, rfl, rfl, _, rfl, ?_⟩
        exact ⟨_, rfl, a, _, d, _, u, rfl, e1, e2, X, F _ (by decide), rfl, (by show 1 ≤ sizeLine; decide), fun l nl => k l nl⟩
    | 9, _, hl, e1, e2, X, F =>
      match us, hl, e2, k with
      | [u, v], _, e2, k =>
        refine ⟨_, rfl, rfl, _, rfl, ?_⟩
        refine ⟨_, rfl, rfl, _, rfl, ?_⟩
        refine ⟨_, rfl, rfl, _, rfl, ?_⟩
        refine ⟨_, rfl, rfl, _, rfl, ?_⟩
        refine ⟨_, rfl, rfl, _, rfl, ?_⟩
        refine ⟨_, rfl, rfl, _, rfl, ?_⟩
        refine ⟨_, rfl, rfl, _, rfl, ?_⟩
        refine ⟨_, rfl, rfl, _, rfl, ?_⟩
        refine ⟨_, rfl, rfl, _, rfl, ?_⟩
        refine ⟨_, rfl, rfl, _, rfl, ?_⟩
        exact ⟨_, rfl, a, _, d, _, u, rfl, e1, e2, X, F _ (by decide), rfl, _, rfl, a, _, d, _, v, rfl, e1, e2, X, F _ (by decide), rfl, (by show 2 ≤ sizeLine; decide), fun l nl => k l nl⟩
    | 10, _, hl, e1, e2, X, F =>
      match us, hl, e2, k with
      | [u, v], _, e2, k =>
        refine ⟨_, rfl, rfl, _, rfl, ?_⟩
        refine ⟨_, rfl, rfl, _, rfl, ?_⟩
        refine ⟨_, rfl, rfl, _, rfl, ?_⟩
        refine ⟨_, rfl, rfl, _, rfl, ?_⟩
        refine ⟨_, rfl, rfl, _, rfl, ?_⟩
        refine ⟨_, rfl, rfl, _, rfl, ?_⟩
        refine ⟨_, rfl, rfl, _, rfl, ?_⟩
        refine ⟨_, rfl, rfl, _, rfl, ?_⟩
        refine ⟨_, rfl, rfl, _, rfl, ?_⟩
        refine ⟨_, rfl, rfl, _, rfl, ?_⟩
        refine ⟨_, rfl, rfl, _, rfl, ?_⟩
        exact ⟨_, rfl, a, _, d, _, u, rfl, e1, e2, X, F _ (by decide), rfl, _, rfl, a, _, d, _, v, rfl, e1, e2, X, F _ (by decide), rfl, (by show 2 ≤ sizeLine; decide), fun l nl => k l nl⟩
    | 11, _, hl, e1, e2, X, F =>
      match us, hl, e2, k with
      | [u, v], _, e2, k =>
        refine ⟨_, rfl, rfl, _, rfl, ?_⟩
        refine ⟨_, rfl, rfl, _, rfl, ?_⟩
        refine ⟨_, rfl, rfl, _, rfl, ?_⟩
        refine ⟨_, rfl, rfl, _, rfl, ?_⟩
        refine ⟨_, rfl, rfl, _, rfl, ?_⟩
        refine ⟨_, rfl, rfl, _, rfl, ?_⟩
        refine ⟨_, rfl, rfl, _, rfl, ?_⟩
        refine ⟨_, rfl, rfl, _, rfl, ?_⟩
        refine ⟨_, rfl, rfl, _, rfl, ?_⟩
        refine ⟨_, rfl, rfl, _, rfl, ?_⟩
        refine ⟨_, rfl, rfl, _, rfl, ?_⟩
        refine ⟨_, rfl, rfl, _, rfl, ?_⟩
        exact ⟨_, rfl, a, _, d, _, u, rfl, e1, e2, X, F _ (by decide), rfl, _, rfl, a, _, d, _, v, rfl, e1, e2, X, F _ (by decide), rfl, (by show 2 ≤ sizeLine; decide), fun l nl => k l nl⟩
    | 12, _, hl, e1, e2, X, F =>
      match us, hl, e2, k with
      | [u], _, e2, k =>
        refine ⟨_, rfl, rfl, _, rfl, ?_⟩
        refine ⟨_, rfl, rfl, _, rfl, ?_⟩
        refine ⟨_, rfl, rfl, _, rfl, ?_⟩
        refine ⟨_, rfl, rfl, _, rfl, ?_⟩
        refine ⟨_, rfl, rfl, _, rfl, ?_⟩
        refine ⟨_, rfl, rfl, _, rfl, ?_⟩
        refine ⟨_, rfl, rfl, _, rfl, ?_⟩
        refine ⟨_, rfl, rfl, _, rfl, ?_⟩
        refine ⟨_, rfl, rfl, _, rfl, ?_⟩
        refine ⟨_, rfl, rfl, _, rfl, ?_⟩
        refine ⟨_, rfl, rfl, _, rfl, ?_⟩
        refine ⟨_, rfl, rfl, _, rfl, ?_⟩
        refine ⟨_, rfl, rfl, _, rfl, ?_⟩
        exact ⟨_, rfl, a, _, d, _, u, rfl, e1, e2, X, F _ (by decide), rfl, (by show 1 ≤ sizeLine; decide), fun l nl => k l nl⟩
    | 13, _, hl, e1, e2, X, F =>
      match us, hl, e2, k with
      | [u], _, e2, k =>
        refine ⟨_, rfl, rfl, _, rfl, ?_⟩
        refine ⟨_, rfl, rfl, _, rfl, ?_⟩
        refine ⟨_, rfl, rfl, _, rfl, ?_⟩
        refine ⟨_, rfl, rfl, _, rfl, ?_⟩
        refine ⟨_, rfl, rfl, _, rfl, ?_⟩
        refine ⟨_, rfl, rfl, _, rfl, ?_⟩
        refine ⟨_, rfl, rfl, _, rfl, ?_⟩
        refine ⟨_, rfl, rfl, _, rfl, ?_⟩
        refine ⟨_, rfl, rfl, _, rfl, ?_⟩
        refine ⟨_, rfl, rfl, _, rfl, ?_⟩
        refine ⟨_, rfl, rfl, _, rfl, ?_⟩
        refine ⟨_, rfl, rfl, _, rfl, ?_⟩
        refine ⟨_, rfl, rfl, _, rfl, ?_⟩
        refine ⟨_, rfl, rfl, _, rfl, ?_⟩
        exact ⟨_, rfl, a, _, d, _, u, rfl, e1, e2, X, F _ (by decide), rfl, (by show 1 ≤ sizeLine; decide), fun l nl => k l nl⟩
    | 14, _, hl, e1, e2, X, F =>
      match us, hl, e2, k with
      | [u, v], _, e2, k =>
        refine ⟨_, rfl, rfl, _, rfl, ?_⟩
        refine ⟨_, rfl, rfl, _, rfl, ?_⟩
        refine ⟨_, rfl, rfl, _, rfl, ?_⟩
        refine ⟨_, rfl, rfl, _, rfl, ?_⟩
        refine ⟨_, rfl, rfl, _, rfl, ?_⟩
        refine ⟨_, rfl, rfl, _, rfl, ?_⟩
        refine ⟨_, rfl, rfl, _, rfl, ?_⟩
        refine ⟨_, rfl, rfl, _, rfl, ?_⟩
        refine ⟨_, rfl, rfl, _, rfl, ?_⟩
        refine ⟨_, rfl, rfl, _, rfl, ?_⟩
        refine ⟨_, rfl, rfl, _, rfl, ?_⟩
        refine ⟨_, rfl, rfl, _, rfl, ?_⟩
        refine ⟨_, rfl, rfl, _, rfl, ?_⟩
        refine ⟨_, rfl, rfl, _, rfl, ?_⟩
        refine ⟨_, rfl, rfl, _, rfl, ?_⟩
        exact ⟨_, rfl, a, _, d, _, u, rfl, e1, e2, X, F _ (by decide), rfl, _, rfl, a, _, d, _, v, rfl, e1, e2, X, F _ (by decide), rfl, (by show 2 ≤ sizeLine; decide), fun l nl => k l nl⟩
    | 15, _, hl, e1, e2, X, F =>
      match us, hl, e2, k with
      | [u], _, e2, k =>
        refine ⟨_, rfl, rfl, _, rfl, ?_⟩
        refine ⟨_, rfl, rfl, _, rfl, ?_⟩
        refine ⟨_, rfl, rfl, _, rfl, ?_⟩
        refine ⟨_, rfl, rfl, _, rfl, ?_⟩
        refine ⟨_, rfl, rfl, _, rfl, ?_⟩
        refine ⟨_, rfl, rfl, _, rfl, ?_⟩
        refine ⟨_, rfl, rfl, _, rfl, ?_⟩
        refine ⟨_, rfl, rfl, _, rfl, ?_⟩
        refine ⟨_, rfl, rfl, _, rfl, ?_⟩
        refine ⟨_, rfl, rfl, _, rfl, ?_⟩
        refine ⟨_, rfl, rfl, _, rfl, ?_⟩
        refine ⟨_, rfl, rfl, _, rfl, ?_⟩
        refine ⟨_, rfl, rfl, _, rfl, ?_⟩
        refine ⟨_, rfl, rfl, _, rfl, ?_⟩
        refine ⟨_, rfl, rfl, _, rfl, ?_⟩
        refine ⟨_, rfl, rfl, _, rfl, ?_⟩
        exact ⟨_, rfl, a, _, d, _, u, rfl, e1, e2, X, F _ (by decide), rfl, (by show 1 ≤ sizeLine; decide), fun l nl => k l nl⟩
    | 16, _, hl, e1, e2, X, F =>
      match us, hl, e2, k with
      | [u], _, e2, k =>
        refine ⟨_, rfl, rfl, _, rfl, ?_⟩
        refine ⟨_, rfl, rfl, _, rfl, ?_⟩
        refine ⟨_, rfl, rfl, _, rfl, ?_⟩
        refine ⟨_, rfl, rfl, _, rfl, ?_⟩
        refine ⟨_, rfl, rfl, _, rfl, ?_⟩
        refine ⟨_, rfl, rfl, _, rfl, ?_⟩
        refine ⟨_, rfl, rfl, _, rfl, ?_⟩
        refine ⟨_, rfl, rfl, _, rfl, ?_⟩
        refine ⟨_, rfl, rfl, _, rfl, ?_⟩
        refine ⟨_, rfl, rfl, _, rfl, ?_⟩
        refine ⟨_, rfl, rfl, _, rfl, ?_⟩
        refine ⟨_, rfl, rfl, _, rfl, ?_⟩
        refine ⟨_, rfl, rfl, _, rfl, ?_⟩
        refine ⟨_, rfl, rfl, _, rfl, ?_⟩
        refine ⟨_, rfl, rfl, _, rfl, ?_⟩
        refine ⟨_, rfl, rfl, _, rfl, ?_⟩
        exact ⟨_, rfl, a, _, d, _, u, rfl, e1, e2, X, F _ (by decide), rfl, (by show 1 ≤ sizeLine; decide), fun l nl => k l nl⟩
    | n + 17, hn, _, _, _, _, _ => exact absurd hn (by omega)
end
end K99

set_option Elab.async false
set_option linter.all false
set_option maxRecDepth 100000
set_option maxHeartbeats 4000000
/-! raise, caught, turned, beneath, kinds -/
namespace K99
open PySem PySem.Spec PyProof.Rows L2
abbrev s_raise : Stmt := top 25
theorem sc_raise : FnScope ["number", "one", "two"] ["number", "one", "two"] (defScope s_raise) := ⟨rfl, rfl, rfl, by decide +kernel, rfl, by decide +kernel, by decide +kernel⟩
abbrev s_caught : Stmt := top 26
theorem sc_caught : FnScope ["number", "one", "two", "error"] ["number", "one", "two"] (defScope s_caught) := ⟨rfl, rfl, rfl, by decide +kernel, rfl, by decide +kernel, by decide +kernel⟩
abbrev s_turned : Stmt := top 27
theorem sc_turned : FnScope ["number", "one", "two", "error"] ["number", "one", "two"] (defScope s_turned) := ⟨rfl, rfl, rfl, by decide +kernel, rfl, by decide +kernel, by decide +kernel⟩
abbrev s_beneath : Stmt := top 28
theorem sc_beneath : FnScope ["number", "one", "two", "error"] ["number", "one", "two"] (defScope s_beneath) := ⟨rfl, rfl, rfl, by decide +kernel, rfl, by decide +kernel, by decide +kernel⟩
abbrev s_kinds : Stmt := top 29
theorem sc_kinds : FnScope ["error", "kinds"] ["error"] (defScope s_kinds) := ⟨rfl, rfl, rfl, by decide +kernel, rfl, by decide +kernel, by decide +kernel⟩
def spRaise (K : PySem.W.Frag) : Sp := fun vs H Q E => ∃ (n : Nat) (one two : V), vs = [.int n, one, two] ∧ n < 17 ∧ ∀ (d : Addr) (H' : Hp), H d = none → Same H H' → H' d = some (.xd (zf n (ar n one two))) → E (.ref (C K n)) (some d) H'
def spCaught (K : PySem.W.Frag) : Sp := fun vs H Q _ => ∃ (n : Nat) (one two : V), vs = [.int n, one, two] ∧ n < 17 ∧ ∀ (l m : Addr) (H' : Hp), H l = none → Same H H' → H' l = some (.lst [.int n, .ref m]) → H' m = some (.lst (ar n one two)) → Q (.ref l) H'
def spBeneath : Sp := fun vs H Q _ => ∃ (n : Nat) (one two : V), vs = [.int n, one, two] ∧ n < 17 ∧ ∀ (H' : Hp), Same H H' → Q (.bl true) H'
def kinds (n : Nat) : List V := (List.range 17).map fun k => .bl (decide (n = k))
def spKinds (K : PySem.W.Frag) : Sp := fun vs H Q _ => ∃ (a : Addr) (n : Nat) (us : List V), vs = [.ref a] ∧ n < 17 ∧ Er K H a n us ∧ ∀ (l : Addr) (H' : Hp), H l = none → Same H H' → H' l = some (.lst (kinds n)) → Q (.ref l) H'
section
variable {P : Program} {w : World} {K : PySem.W.Frag} {mg : Str → Option Value} {base : Heap}
theorem ok_raise (D : Df K mg "_law_raise" s_raise ["number", "one", "two"]) (T : Te K mg) (I : ∀ n, n < 17 → InitOk P w K mg base n) : Cal P w K mg base (L2.CX P w) 3 "_law_raise" ["number", "one", "two"] (spRaise K) := by
  refine D.cal sc_raise (fun vs H Q E h => ?_) (fun cdv f A outer s H vs Q E hr h => ⟨_,
    (pss_cons (ps_if (pt_cmpR op_eq (pv 0) pe_int (nomark _)) (pss_one (ps_raise rfl (takes_of rfl rfl rfl rfl) (pmk_n (n := 0) T (by decide) (I 0 (by decide)) (hr.mono (by decide)) (pa_cons (pv 1) pa_nil)))) pss_nil)
      (pss_cons (ps_if (pt_cmpR op_eq (pv 0) pe_int (nomark _)) (pss_one (ps_raise rfl (takes_of rfl rfl rfl rfl) (pmk_n (n := 1) T (by decide) (I 1 (by decide)) (hr.mono (by decide)) (pa_cons (pv 1) pa_nil)))) pss_nil)
      (pss_cons (ps_if (pt_cmpR op_eq (pv 0) pe_int (nomark _)) (pss_one (ps_raise rfl (takes_of rfl rfl rfl rfl) (pmk_n (n := 2) T (by decide) (I 2 (by decide)) (hr.mono (by decide)) (pa_cons (pv 1) (pa_cons (pv 2) pa_nil))))) pss_nil)
      (pss_cons (ps_if (pt_cmpR op_eq (pv 0) pe_int (nomark _)) (pss_one (ps_raise rfl (takes_of rfl rfl rfl rfl) (pmk_n (n := 3) T (by decide) (I 3 (by decide)) (hr.mono (by decide)) (pa_cons (pv 1) (pa_cons (pv 2) pa_nil))))) pss_nil)
      (pss_cons (ps_if (pt_cmpR op_eq (pv 0) pe_int (nomark _)) (pss_one (ps_raise rfl (takes_of rfl rfl rfl rfl) (pmk_n (n := 4) T (by decide) (I 4 (by decide)) (hr.mono (by decide)) (pa_cons (pv 1) (pa_cons (pv 2) pa_nil))))) pss_nil)
      (pss_cons (ps_if (pt_cmpR op_eq (pv 0) pe_int (nomark _)) (pss_one (ps_raise rfl (takes_of rfl rfl rfl rfl) (pmk_n (n := 5) T (by decide) (I 5 (by decide)) (hr.mono (by decide)) (pa_cons (pv 1) pa_nil)))) pss_nil)
      (pss_cons (ps_if (pt_cmpR op_eq (pv 0) pe_int (nomark _)) (pss_one (ps_raise rfl (takes_of rfl rfl rfl rfl) (pmk_n (n := 6) T (by decide) (I 6 (by decide)) (hr.mono (by decide)) (pa_cons (pv 1) (pa_cons (pv 2) pa_nil))))) pss_nil)
      (pss_cons (ps_if (pt_cmpR op_eq (pv 0) pe_int (nomark _)) (pss_one (ps_raise rfl (takes_of rfl rfl rfl rfl) (pmk_n (n := 7) T (by decide) (I 7 (by decide)) (hr.mono (by decide)) (pa_cons (pv 1) (pa_cons (pv 2) pa_nil))))) pss_nil)
      (pss_cons (ps_if (pt_cmpR op_eq (pv 0) pe_int (nomark _)) (pss_one (ps_raise rfl (takes_of rfl rfl rfl rfl) (pmk_n (n := 8) T (by decide) (I 8 (by decide)) (hr.mono (by decide)) (pa_cons (pv 1) pa_nil)))) pss_nil)
      (pss_cons (ps_if (pt_cmpR op_eq (pv 0) pe_int (nomark _)) (pss_one (ps_raise rfl (takes_of rfl rfl rfl rfl) (pmk_n (n := 9) T (by decide) (I 9 (by decide)) (hr.mono (by decide)) (pa_cons (pv 1) (pa_cons (pv 2) pa_nil))))) pss_nil)
      (pss_cons (ps_if (pt_cmpR op_eq (pv 0) pe_int (nomark _)) (pss_one (ps_raise rfl (takes_of rfl rfl rfl rfl) (pmk_n (n := 10) T (by decide) (I 10 (by decide)) (hr.mono (by decide)) (pa_cons (pv 1) (pa_cons (pv 2) pa_nil))))) pss_nil)
      (pss_cons (ps_if (pt_cmpR op_eq (pv 0) pe_int (nomark _)) (pss_one (ps_raise rfl (takes_of rfl rfl rfl rfl) (pmk_n (n := 11) T (by decide) (I 11 (by decide)) (hr.mono (by decide)) (pa_cons (pv 1) (pa_cons (pv 2) pa_nil))))) pss_nil)
      (pss_cons (ps_if (pt_cmpR op_eq (pv 0) pe_int (nomark _)) (pss_one (ps_raise rfl (takes_of rfl rfl rfl rfl) (pmk_n (n := 12) T (by decide) (I 12 (by decide)) (hr.mono (by decide)) (pa_cons (pv 1) pa_nil)))) pss_nil)
      (pss_cons (ps_if (pt_cmpR op_eq (pv 0) pe_int (nomark _)) (pss_one (ps_raise rfl (takes_of rfl rfl rfl rfl) (pmk_n (n := 13) T (by decide) (I 13 (by decide)) (hr.mono (by decide)) (pa_cons (pv 1) pa_nil)))) pss_nil)
      (pss_cons (ps_if (pt_cmpR op_eq (pv 0) pe_int (nomark _)) (pss_one (ps_raise rfl (takes_of rfl rfl rfl rfl) (pmk_n (n := 14) T (by decide) (I 14 (by decide)) (hr.mono (by decide)) (pa_cons (pv 1) (pa_cons (pv 2) pa_nil))))) pss_nil)
      (pss_cons (ps_if (pt_cmpR op_eq (pv 0) pe_int (nomark _)) (pss_one (ps_raise rfl (takes_of rfl rfl rfl rfl) (pmk_n (n := 15) T (by decide) (I 15 (by decide)) (hr.mono (by decide)) (pa_cons (pv 1) pa_nil)))) pss_nil)
      (pss_one (ps_if (pt_cmpR op_eq (pv 0) pe_int (nomark _)) (pss_one (ps_raise rfl (takes_of rfl rfl rfl rfl) (pmk_n (n := 16) T (by decide) (I 16 (by decide)) (hr.mono (by decide)) (pa_cons (pv 1) pa_nil)))) pss_nil)))))))))))))))))), ?_⟩)
  · obtain ⟨n, one, two, rfl, _⟩ := h
    rfl
  · obtain ⟨n, one, two, rfl, hn, k⟩ := h
    match n, hn, k with
    | 0, _, k =>
      refine ⟨_, rfl, rfl, _, rfl, ?_⟩
      exact ⟨_, rfl, rfl, fun d H2 h1 s e => k d H2 h1 s e⟩
    | 1, _, k =>
      refine ⟨_, rfl, rfl, _, rfl, ?_⟩
      refine ⟨_, rfl, rfl, _, rfl, ?_⟩
      exact ⟨_, rfl, rfl, fun d H2 h1 s e => k d H2 h1 s e⟩
    | 2, _, k =>
      refine ⟨_, rfl, rfl, _, rfl, ?_⟩
      refine ⟨_, rfl, rfl, _, rfl, ?_⟩
      refine ⟨_, rfl, rfl, _, rfl, ?_⟩
      exact ⟨_, rfl, _, rfl, rfl, fun d H2 h1 s e => k d H2 h1 s e⟩
    | 3, _, k =>
      refine ⟨_, rfl, rfl, _, rfl, ?_⟩
      refine ⟨_, rfl, rfl, _, rfl, ?_⟩
      refine ⟨_, rfl, rfl, _, rfl, ?_⟩
      refine ⟨_, rfl, rfl, _, rfl, ?_⟩
      exact ⟨_, rfl, _, rfl, rfl, fun d H2 h1 s e => k d H2 h1 s e⟩
    | 4, _, k =>
      refine ⟨_, rfl, rfl, _, rfl, ?_⟩
      refine ⟨_, rfl, rfl, _, rfl, ?_⟩
      refine ⟨_, rfl, rfl, _, rfl, ?_⟩
      refine ⟨_, rfl, rfl, _, rfl, ?_⟩
      refine ⟨_, rfl, rfl, _, rfl, ?_⟩
      exact ⟨_, rfl, _, rfl, rfl, fun d H2 h1 s e => k d H2 h1 s e⟩
    | 5, _, k =>
      refine ⟨_, rfl, rfl, _, rfl, ?_⟩
      refine ⟨_, rfl, rfl, _, rfl, ?_⟩
      refine ⟨_, rfl, rfl, _, rfl, ?_⟩
      refine ⟨_, rfl, rfl, _, rfl, ?_⟩
      refine ⟨_, rfl, rfl, _, rfl, ?_⟩
      refine ⟨_, rfl, rfl, _, rfl, ?_⟩
      exact ⟨_, rfl, rfl, fun d H2 h1 s e => k d H2 h1 s e⟩
    | 6, _, k =>
      refine ⟨_, rfl, rfl, _, rfl, ?_⟩
      refine ⟨_, rfl, rfl, _, rfl, ?_⟩
      refine ⟨_, rfl, rfl, _, rfl, ?_⟩
      refine ⟨_, rfl, rfl, _, rfl, ?_⟩
      refine ⟨_, rfl, rfl, _, rfl, ?_⟩
      refine ⟨_, rfl, rfl, _, rfl, ?_⟩
      refine ⟨_, rfl, rfl, _, rfl, ?_⟩
      exact ⟨_, rfl, _, rfl, rfl, fun d H2 h1 s e => k d H2 h1 s e⟩
    | 7, _, k =>
      refine ⟨_, rfl, rfl, _, rfl, ?_⟩
      refine ⟨_, rfl, rfl, _, rfl, ?_⟩
      refine ⟨_, rfl, rfl, _, rfl, ?_⟩
      refine ⟨_, rfl, rfl, _, rfl, ?_⟩
      refine ⟨_, rfl, rfl, _, rfl, ?_⟩
      refine ⟨_, rfl, rfl, _, rfl, ?_⟩
      refine ⟨_, rfl, rfl, _, rfl, ?_⟩
      refine ⟨_, rfl, rfl, _, rfl, ?_⟩
      exact ⟨_, rfl, _, rfl, rfl, fun d H2 h1 s e => k d H2 h1 s e⟩
    | 8, _, k =>
      refine ⟨_, rfl, rfl, _, rfl, ?_⟩
      refine ⟨_, rfl, rfl, _, rfl, ?_⟩
      refine ⟨_, rfl, rfl, _, rfl, ?_⟩
      refine ⟨_, rfl, rfl, _, rfl, ?_⟩
      refine ⟨_, rfl, rfl, _, rfl, ?_⟩
      refine ⟨_, rfl, rfl, _, rfl, ?_⟩
      refine ⟨_, rfl, rfl, _, rfl, ?_⟩
      refine ⟨_, rfl, rfl, _, rfl, ?_⟩
      refine ⟨_, rfl, rfl, _, rfl, ?_⟩
      exact ⟨_, rfl, rfl, fun d H2 h1 s e => k d H2 h1 s e⟩
    | 9, _, k =>
      refine ⟨_, rfl, rfl, _, rfl, ?_⟩
      refine ⟨_, rfl, rfl, _, rfl, ?_⟩
      refine ⟨_, rfl, rfl, _, rfl, ?_⟩
      refine ⟨_, rfl, rfl, _, rfl, ?_⟩
      refine ⟨_, rfl, rfl, _, rfl, ?_⟩
      refine ⟨_, rfl, rfl, _, rfl, ?_⟩
      refine ⟨_, rfl, rfl, _, rfl, ?_⟩
      refine ⟨_, rfl, rfl, _, rfl, ?_⟩
      refine ⟨_, rfl, rfl, _, rfl, ?_⟩
      refine ⟨_, rfl, rfl, _, rfl, ?_⟩
      exact ⟨_, rfl, _, rfl, rfl, fun d H2 h1 s e => k d H2 h1 s e⟩
    | 10, _, k =>
      refine ⟨_, rfl, rfl, _, rfl, ?_⟩
      refine ⟨_, rfl, rfl, _, rfl, ?_⟩
      refine ⟨_, rfl, rfl, _, rfl, ?_⟩
      refine ⟨_, rfl, rfl, _, rfl, ?_⟩
      refine ⟨_, rfl, rfl, _, rfl, ?_⟩
      refine ⟨_, rfl, rfl, _, rfl, ?_⟩
      refine ⟨_, rfl, rfl, _, rfl, ?_⟩
      refine ⟨_, rfl, rfl, _, rfl, ?_⟩
      refine ⟨_, rfl, rfl, _, rfl, ?_⟩
      refine ⟨_, rfl, rfl, _, rfl, ?_⟩
      refine ⟨_, rfl, rfl, _, rfl, ?_⟩
      exact ⟨_, rfl, _, rfl, rfl, fun d H2 h1 s e => k d H2 h1 s e⟩
    | 11, _, k =>
      refine ⟨_, rfl, rfl, _, rfl, ?_⟩
      refine ⟨_, rfl, rfl, _, rfl, ?_⟩
      refine ⟨_, rfl, rfl, _, rfl, ?_⟩
      refine ⟨_, rfl, rfl, _, rfl, ?_⟩
      refine ⟨_, rfl, rfl, _, rfl, ?_⟩
      refine ⟨_, rfl, rfl, _, rfl, ?_⟩
      refine ⟨_, rfl, rfl, _, rfl, ?_⟩
      refine ⟨_, rfl, rfl, _, rfl, ?_⟩
      refine ⟨_, rfl, rfl, _, rfl, ?_⟩
      refine ⟨_, rfl, rfl, _, rfl, ?_⟩
      refine ⟨_, rfl, rfl, _, rfl, ?_⟩
      refine ⟨_, rfl, rfl, _, rfl, ?_⟩
      exact ⟨_, rfl, _, rfl, rfl, fun d H2 h1 s e => k d H2 h1 s e⟩
    | 12, _, k =>
      refine ⟨_, rfl, rfl, _, rfl, ?_⟩
      refine ⟨_, rfl, rfl, _, rfl, ?_⟩
      refine ⟨_, rfl, rfl, _, rfl, ?_⟩
      refine ⟨_, rfl, rfl, _, rfl, ?_⟩
      refine ⟨_, rfl, rfl, _, rfl, ?_⟩
      refine ⟨_, rfl, rfl, _, rfl, ?_⟩
      refine ⟨_, rfl, rfl, _, rfl, ?_⟩
      refine ⟨_, rfl, rfl, _, rfl, ?_⟩
      refine ⟨_, rfl, rfl, _, rfl, ?_⟩
      refine ⟨_, rfl, rfl, _, rfl, ?_⟩
      refine ⟨_, rfl, rfl, _, rfl, ?_⟩
      refine ⟨_, rfl, rfl, _, rfl, ?_⟩
      refine ⟨_, rfl, rfl, _, rfl, ?_⟩
      exact ⟨_, rfl, rfl, fun d H2 h1 s e => k d H2 h1 s e⟩
    | 13, _, k =>
      refine ⟨_, rfl, rfl, _, rfl, ?_⟩
      refine ⟨_, rfl, rfl, _, rfl, ?_⟩
      refine ⟨_, rfl, rfl, _, rfl, ?_⟩
      refine ⟨_, rfl, rfl, _, rfl, ?_⟩
      refine ⟨_, rfl, rfl, _, rfl, ?_⟩
      refine ⟨_, rfl, rfl, _, rfl, ?_⟩
      refine ⟨_, rfl, rfl, _, rfl, ?_⟩
      refine ⟨_, rfl, rfl, _, rfl, ?_⟩
      refine ⟨_, rfl, rfl, _, rfl, ?_⟩
      refine ⟨_, rfl, rfl, _, rfl, ?_⟩
      refine ⟨_, rfl, rfl, _, rfl, ?_⟩
      refine ⟨_, rfl, rfl, _, rfl, ?_⟩
      refine ⟨_, rfl, rfl, _, rfl, ?_⟩
      refine ⟨_, rfl, rfl, _, rfl, ?_⟩
      exact ⟨_, rfl, rfl, fun d H2 h1 s e => k d H2 h1 s e⟩
    | 14, _, k =>
      refine ⟨_, rfl, rfl, _, rfl, ?_⟩
      refine ⟨_, rfl, rfl, _, rfl, ?_⟩
      refine ⟨_, rfl, rfl, _, rfl, ?_⟩
      refine ⟨_, rfl, rfl, _, rfl, ?_⟩
      refine ⟨_, rfl, rfl, _, rfl, ?_⟩
      refine ⟨_, rfl, rfl, _, rfl, ?_⟩
      refine ⟨_, rfl, rfl, _, rfl, ?_⟩
      refine ⟨_, rfl, rfl, _, rfl, ?_⟩
      refine ⟨_, rfl, rfl, _, rfl, ?_⟩
      refine ⟨_, rfl, rfl, _, rfl, ?_⟩
      refine ⟨_, rfl, rfl, _, rfl, ?_⟩
      refine ⟨_, rfl, rfl, _, rfl, ?_⟩
      refine ⟨_, rfl, rfl, _, rfl, ?_⟩
      refine ⟨_, rfl, rfl, _, rfl, ?_⟩
      refine ⟨_, rfl, rfl, _, rfl, ?_⟩
      exact ⟨_, rfl, _, rfl, rfl, fun d H2 h1 s e => k d H2 h1 s e⟩
    | 15, _, k =>
      refine ⟨_, rfl, rfl, _, rfl, ?_⟩
      refine ⟨_, rfl, rfl, _, rfl, ?_⟩
      refine ⟨_, rfl, rfl, _, rfl, ?_⟩
      refine ⟨_, rfl, rfl, _, rfl, ?_⟩
      refine ⟨_, rfl, rfl, _, rfl, ?_⟩
      refine ⟨_, rfl, rfl, _, rfl, ?_⟩
      refine ⟨_, rfl, rfl, _, rfl, ?_⟩
      refine ⟨_, rfl, rfl, _, rfl, ?_⟩
      refine ⟨_, rfl, rfl, _, rfl, ?_⟩
      refine ⟨_, rfl, rfl, _, rfl, ?_⟩
      refine ⟨_, rfl, rfl, _, rfl, ?_⟩
      refine ⟨_, rfl, rfl, _, rfl, ?_⟩
      refine ⟨_, rfl, rfl, _, rfl, ?_⟩
      refine ⟨_, rfl, rfl, _, rfl, ?_⟩
      refine ⟨_, rfl, rfl, _, rfl, ?_⟩
      refine ⟨_, rfl, rfl, _, rfl, ?_⟩
      exact ⟨_, rfl, rfl, fun d H2 h1 s e => k d H2 h1 s e⟩
    | 16, _, k =>
      refine ⟨_, rfl, rfl, _, rfl, ?_⟩
      refine ⟨_, rfl, rfl, _, rfl, ?_⟩
      refine ⟨_, rfl, rfl, _, rfl, ?_⟩
      refine ⟨_, rfl, rfl, _, rfl, ?_⟩
      refine ⟨_, rfl, rfl, _, rfl, ?_⟩
      refine ⟨_, rfl, rfl, _, rfl, ?_⟩
      refine ⟨_, rfl, rfl, _, rfl, ?_⟩
      refine ⟨_, rfl, rfl, _, rfl, ?_⟩
      refine ⟨_, rfl, rfl, _, rfl, ?_⟩
      refine ⟨_, rfl, rfl, _, rfl, ?_⟩
      refine ⟨_, rfl, rfl, _, rfl, ?_⟩
      refine ⟨_, rfl, rfl, _, rfl, ?_⟩
      refine ⟨_, rfl, rfl, _, rfl, ?_⟩
      refine ⟨_, rfl, rfl, _, rfl, ?_⟩
      refine ⟨_, rfl, rfl, _, rfl, ?_⟩
      refine ⟨_, rfl, rfl, _, rfl, ?_⟩
      refine ⟨_, rfl, rfl, _, rfl, ?_⟩
      exact ⟨_, rfl, rfl, fun d H2 h1 s e => k d H2 h1 s e⟩
    | n + 17, hn, _ => exact absurd hn (by omega)
theorem ok_caught (D : Df K mg "_law_caught" s_caught ["number", "one", "two"]) (T : Te K mg) (B : Tb mg) (G_raise : Cal P w K mg base (L2.CX P w) 3 "_law_raise" ["number", "one", "two"] (spRaise K)) : Cal P w K mg base CX0 4 "_law_caught" ["number", "one", "two"] (spCaught K) := by
  refine D.cal0 sc_caught (fun vs H Q E h => ?_) (fun cdv f A outer s H vs Q E hr h => ⟨_,
    (pss_cons (ps_try_manyA rfl rfl sc_caught.nd takes0 (fun W pn xe tk _ => (pss_one (ps_expr (pe_calS G_raise (hr.mono (by decide)) tk (pa_cons (pv 0) (pa_cons (pv 1) (pa_cons (pv 2) pa_nil)))))))
        (HdA.cons (i := 3) ⟨rfl, by decide, .inl (T.g 0 (by decide))⟩ rfl rfl (fun a oe cls d pn hz hf => (pss_one (ps_ret (pe_lst (pa_cons pe_int (pa_cons (pe_lst (pa_cons (pe_xf (C := C K 0) (T.c 0 (by decide)).xf (T.f 0 (by decide) "at" (by decide)) hz hf (pv 3)) pa_nil)) pa_nil))))))
        (HdA.cons (i := 3) ⟨rfl, by decide, .inl (T.g 1 (by decide))⟩ rfl rfl (fun a oe cls d pn hz hf => (pss_one (ps_ret (pe_lst (pa_cons pe_int (pa_cons (pe_lst (pa_cons (pe_xf (C := C K 1) (T.c 1 (by decide)).xf (T.f 1 (by decide) "word" (by decide)) hz hf (pv 3)) pa_nil)) pa_nil))))))
        (HdA.cons (i := 3) ⟨rfl, by decide, .inl (T.g 2 (by decide))⟩ rfl rfl (fun a oe cls d pn hz hf => (pss_one (ps_ret (pe_lst (pa_cons pe_int (pa_cons (pe_lst (pa_cons (pe_xf (C := C K 2) (T.c 2 (by decide)).xf (T.f 2 (by decide) "at" (by decide)) hz hf (pv 3)) (pa_cons (pe_xf (C := C K 2) (T.c 2 (by decide)).xf (T.f 2 (by decide) "word" (by decide)) hz hf (pv 3)) pa_nil))) pa_nil))))))
        (HdA.cons (i := 3) ⟨rfl, by decide, .inl (T.g 3 (by decide))⟩ rfl rfl (fun a oe cls d pn hz hf => (pss_one (ps_ret (pe_lst (pa_cons pe_int (pa_cons (pe_lst (pa_cons (pe_xf (C := C K 3) (T.c 3 (by decide)).xf (T.f 3 (by decide) "at" (by decide)) hz hf (pv 3)) (pa_cons (pe_xf (C := C K 3) (T.c 3 (by decide)).xf (T.f 3 (by decide) "word" (by decide)) hz hf (pv 3)) pa_nil))) pa_nil))))))
        (HdA.cons (i := 3) ⟨rfl, by decide, .inl (T.g 4 (by decide))⟩ rfl rfl (fun a oe cls d pn hz hf => (pss_one (ps_ret (pe_lst (pa_cons pe_int (pa_cons (pe_lst (pa_cons (pe_xf (C := C K 4) (T.c 4 (by decide)).xf (T.f 4 (by decide) "at" (by decide)) hz hf (pv 3)) (pa_cons (pe_xf (C := C K 4) (T.c 4 (by decide)).xf (T.f 4 (by decide) "word" (by decide)) hz hf (pv 3)) pa_nil))) pa_nil))))))
        (HdA.cons (i := 3) ⟨rfl, by decide, .inl (T.g 5 (by decide))⟩ rfl rfl (fun a oe cls d pn hz hf => (pss_one (ps_ret (pe_lst (pa_cons pe_int (pa_cons (pe_lst (pa_cons (pe_xf (C := C K 5) (T.c 5 (by decide)).xf (T.f 5 (by decide) "at" (by decide)) hz hf (pv 3)) pa_nil)) pa_nil))))))
        (HdA.cons (i := 3) ⟨rfl, by decide, .inl (T.g 6 (by decide))⟩ rfl rfl (fun a oe cls d pn hz hf => (pss_one (ps_ret (pe_lst (pa_cons pe_int (pa_cons (pe_lst (pa_cons (pe_xf (C := C K 6) (T.c 6 (by decide)).xf (T.f 6 (by decide) "at" (by decide)) hz hf (pv 3)) (pa_cons (pe_xf (C := C K 6) (T.c 6 (by decide)).xf (T.f 6 (by decide) "word" (by decide)) hz hf (pv 3)) pa_nil))) pa_nil))))))
        (HdA.cons (i := 3) ⟨rfl, by decide, .inl (T.g 7 (by decide))⟩ rfl rfl (fun a oe cls d pn hz hf => (pss_one (ps_ret (pe_lst (pa_cons pe_int (pa_cons (pe_lst (pa_cons (pe_xf (C := C K 7) (T.c 7 (by decide)).xf (T.f 7 (by decide) "at" (by decide)) hz hf (pv 3)) (pa_cons (pe_xf (C := C K 7) (T.c 7 (by decide)).xf (T.f 7 (by decide) "word" (by decide)) hz hf (pv 3)) pa_nil))) pa_nil))))))
        (HdA.cons (i := 3) ⟨rfl, by decide, .inl (T.g 8 (by decide))⟩ rfl rfl (fun a oe cls d pn hz hf => (pss_one (ps_ret (pe_lst (pa_cons pe_int (pa_cons (pe_lst (pa_cons (pe_xf (C := C K 8) (T.c 8 (by decide)).xf (T.f 8 (by decide) "at" (by decide)) hz hf (pv 3)) pa_nil)) pa_nil))))))
        (HdA.cons (i := 3) ⟨rfl, by decide, .inl (T.g 9 (by decide))⟩ rfl rfl (fun a oe cls d pn hz hf => (pss_one (ps_ret (pe_lst (pa_cons pe_int (pa_cons (pe_lst (pa_cons (pe_xf (C := C K 9) (T.c 9 (by decide)).xf (T.f 9 (by decide) "at" (by decide)) hz hf (pv 3)) (pa_cons (pe_xf (C := C K 9) (T.c 9 (by decide)).xf (T.f 9 (by decide) "word" (by decide)) hz hf (pv 3)) pa_nil))) pa_nil))))))
        (HdA.cons (i := 3) ⟨rfl, by decide, .inl (T.g 10 (by decide))⟩ rfl rfl (fun a oe cls d pn hz hf => (pss_one (ps_ret (pe_lst (pa_cons pe_int (pa_cons (pe_lst (pa_cons (pe_xf (C := C K 10) (T.c 10 (by decide)).xf (T.f 10 (by decide) "at" (by decide)) hz hf (pv 3)) (pa_cons (pe_xf (C := C K 10) (T.c 10 (by decide)).xf (T.f 10 (by decide) "word" (by decide)) hz hf (pv 3)) pa_nil))) pa_nil))))))
        (HdA.cons (i := 3) ⟨rfl, by decide, .inl (T.g 11 (by decide))⟩ rfl rfl (fun a oe cls d pn hz hf => (pss_one (ps_ret (pe_lst (pa_cons pe_int (pa_cons (pe_lst (pa_cons (pe_xf (C := C K 11) (T.c 11 (by decide)).xf (T.f 11 (by decide) "line" (by decide)) hz hf (pv 3)) (pa_cons (pe_xf (C := C K 11) (T.c 11 (by decide)).xf (T.f 11 (by decide) "word" (by decide)) hz hf (pv 3)) pa_nil))) pa_nil))))))
        (HdA.cons (i := 3) ⟨rfl, by decide, .inl (T.g 12 (by decide))⟩ rfl rfl (fun a oe cls d pn hz hf => (pss_one (ps_ret (pe_lst (pa_cons pe_int (pa_cons (pe_lst (pa_cons (pe_xf (C := C K 12) (T.c 12 (by decide)).xf (T.f 12 (by decide) "word" (by decide)) hz hf (pv 3)) pa_nil)) pa_nil))))))
        (HdA.cons (i := 3) ⟨rfl, by decide, .inl (T.g 13 (by decide))⟩ rfl rfl (fun a oe cls d pn hz hf => (pss_one (ps_ret (pe_lst (pa_cons pe_int (pa_cons (pe_lst (pa_cons (pe_xf (C := C K 13) (T.c 13 (by decide)).xf (T.f 13 (by decide) "tree" (by decide)) hz hf (pv 3)) pa_nil)) pa_nil))))))
        (HdA.cons (i := 3) ⟨rfl, by decide, .inl (T.g 14 (by decide))⟩ rfl rfl (fun a oe cls d pn hz hf => (pss_one (ps_ret (pe_lst (pa_cons pe_int (pa_cons (pe_lst (pa_cons (pe_xf (C := C K 14) (T.c 14 (by decide)).xf (T.f 14 (by decide) "word" (by decide)) hz hf (pv 3)) (pa_cons (pe_xf (C := C K 14) (T.c 14 (by decide)).xf (T.f 14 (by decide) "name" (by decide)) hz hf (pv 3)) pa_nil))) pa_nil))))))
        (HdA.cons (i := 3) ⟨rfl, by decide, .inl (T.g 15 (by decide))⟩ rfl rfl (fun a oe cls d pn hz hf => (pss_one (ps_ret (pe_lst (pa_cons pe_int (pa_cons (pe_lst (pa_cons (pe_xf (C := C K 15) (T.c 15 (by decide)).xf (T.f 15 (by decide) "name" (by decide)) hz hf (pv 3)) pa_nil)) pa_nil))))))
        (HdA.cons (i := 3) ⟨rfl, by decide, .inl (T.g 16 (by decide))⟩ rfl rfl (fun a oe cls d pn hz hf => (pss_one (ps_ret (pe_lst (pa_cons pe_int (pa_cons (pe_lst (pa_cons (pe_xf (C := C K 16) (T.c 16 (by decide)).xf (T.f 16 (by decide) "line" (by decide)) hz hf (pv 3)) pa_nil)) pa_nil))))))
        HdA.nil))))))))))))))))))
      (pss_one (ps_ret (pe_lst (pa_cons (pe_un un_neg pe_int) (pa_cons (pe_lst pa_nil) pa_nil)))))), ?_⟩)
  · obtain ⟨n, one, two, rfl, _⟩ := h
    rfl
  · obtain ⟨n, one, two, rfl, hn, k⟩ := h
    refine ⟨_, rfl, _, rfl, _, rfl, n, one, two, rfl, hn, fun d H' nd s0 e => ?_⟩
    have fin : ∀ (m l : Addr), H' m = none → upd H' m (.lst (ar n one two)) l = none → Q (.ref l) (upd (upd H' m (.lst (ar n one two))) l (.lst [.int n, .ref m])) := fun m l nm nl =>
      k l m _ (s0.none ((same_upd nm).none nl)) ((s0.new nm).new nl) upd_same (by rw [upd_ne (ne_of_none upd_same nl)]; exact upd_same)
    have X := T.exm n
    match n, hn, e, fin, X with
    | 0, hn, e, fin, X =>
      refine ⟨true, X 0 hn hn, (fun _ a na => ?_), fun q => Bool.noConfusion q⟩
      exact ⟨_, rfl, rfl, rfl, d, _, _, rfl, e, rfl, (by show 1 ≤ sizeLine; decide), fun m nm => ⟨(by show 2 ≤ sizeLine; decide), fun l nl => fin m l nm nl⟩⟩
    | 1, hn, e, fin, X =>
      refine ⟨false, X 0 hn (by decide), (fun q => Bool.noConfusion q), fun _ => ?_⟩
      refine ⟨true, X 1 hn hn, (fun _ a na => ?_), fun q => Bool.noConfusion q⟩
      exact ⟨_, rfl, rfl, rfl, d, _, _, rfl, e, rfl, (by show 1 ≤ sizeLine; decide), fun m nm => ⟨(by show 2 ≤ sizeLine; decide), fun l nl => fin m l nm nl⟩⟩
    | 2, hn, e, fin, X =>
      refine ⟨false, X 0 hn (by decide), (fun q => Bool.noConfusion q), fun _ => ?_⟩
      refine ⟨false, X 1 hn (by decide), (fun q => Bool.noConfusion q), fun _ => ?_⟩
      refine ⟨true, X 2 hn hn, (fun _ a na => ?_), fun q => Bool.noConfusion q⟩
      exact ⟨_, rfl, rfl, rfl, d, _, _, rfl, e, rfl, _, rfl, rfl, rfl, d, _, _, rfl, e, rfl, (by show 2 ≤ sizeLine; decide), fun m nm => ⟨(by show 2 ≤ sizeLine; decide), fun l nl => fin m l nm nl⟩⟩
    | 3, hn, e, fin, X =>
      refine ⟨false, X 0 hn (by decide), (fun q => Bool.noConfusion q), fun _ => ?_⟩
      refine ⟨false, X 1 hn (by decide), (fun q => Bool.noConfusion q), fun _ => ?_⟩
      refine ⟨false, X 2 hn (by decide), (fun q => Bool.noConfusion q), fun _ => ?_⟩
      refine ⟨true, X 3 hn hn, (fun _ a na => ?_), fun q => Bool.noConfusion q⟩
      exact ⟨_, rfl, rfl, rfl, d, _, _, rfl, e, rfl, _, rfl, rfl, rfl, d, _, _, rfl, e, rfl, (by show 2 ≤ sizeLine; decide), fun m nm => ⟨(by show 2 ≤ sizeLine; decide), fun l nl => fin m l nm nl⟩⟩
    | 4, hn, e, fin, X =>
      refine ⟨false, X 0 hn (by decide), (fun q => Bool.noConfusion q), fun _ => ?_⟩
      refine ⟨false, X 1 hn (by decide), (fun q => Bool.noConfusion q), fun _ => ?_⟩
      refine ⟨false, X 2 hn (by decide), (fun q => Bool.noConfusion q), fun _ => ?_⟩
      refine ⟨false, X 3 hn (by decide), (fun q => Bool.noConfusion q), fun _ => ?_⟩
      refine ⟨true, X 4 hn hn, (fun _ a na => ?_), fun q => Bool.noConfusion q⟩
      exact ⟨_, rfl, rfl, rfl, d, _, _, rfl, e, rfl, _, rfl, rfl, rfl, d, _, _, rfl, e, rfl, (by show 2 ≤ sizeLine; decide), fun m nm => ⟨(by show 2 ≤ sizeLine; decide), fun l nl => fin m l nm nl⟩⟩
    | 5, hn, e, fin, X =>
      refine ⟨false, X 0 hn (by decide), (fun q => Bool.noConfusion q), fun _ => ?_⟩
      refine ⟨false, X 1 hn (by decide), (fun q => Bool.noConfusion q), fun _ => ?_⟩
      refine ⟨false, X 2 hn (by decide), (fun q => Bool.noConfusion q), fun _ => ?_⟩
      refine ⟨false, X 3 hn (by decide), (fun q => Bool.noConfusion q), fun _ => ?_⟩
      refine ⟨false, X 4 hn (by decide), (fun q => Bool.noConfusion q), fun _ => ?_⟩
      refine ⟨true, X 5 hn hn, (fun _ a na => ?_), fun q => Bool.noConfusion q⟩
      exact ⟨_, rfl, rfl, rfl, d, _, _, rfl, e, rfl, (by show 1 ≤ sizeLine; decide), fun m nm => ⟨(by show 2 ≤ sizeLine; decide), fun l nl => fin m l nm nl⟩⟩
    | 6, hn, e, fin, X =>
      refine ⟨false, X 0 hn (by decide), (fun q => Bool.noConfusion q), fun _ => ?_⟩
      refine ⟨false, X 1 hn (by decide), (fun q => Bool.noConfusion q), fun _ => ?_⟩
      refine ⟨false, X 2 hn (by decide), (fun q => Bool.noConfusion q), fun _ => ?_⟩
      refine ⟨false, X 3 hn (by decide), (fun q => Bool.noConfusion q), fun _ => ?_⟩
      refine ⟨false, X 4 hn (by decide), (fun q => Bool.noConfusion q), fun _ => ?_⟩
      refine ⟨false, X 5 hn (by decide), (fun q => Bool.noConfusion q), fun _ => ?_⟩
      refine ⟨true, X 6 hn hn, (fun _ a na => ?_), fun q => Bool.noConfusion q⟩
      exact ⟨_, rfl, rfl, rfl, d, _, _, rfl, e, rfl, _, rfl, rfl, rfl, d, _, _, rfl, e, rfl, (by show 2 ≤ sizeLine; decide), fun m nm => ⟨(by show 2 ≤ sizeLine; decide), fun l nl => fin m l nm nl⟩⟩
    | 7, hn, e, fin, X =>
      refine ⟨false, X 0 hn (by decide), (fun q => Bool.noConfusion q), fun _ => ?_⟩
      refine ⟨false, X 1 hn (by decide), (fun q => Bool.noConfusion q), fun _ => ?_⟩
      refine ⟨false, X 2 hn (by decide), (fun q => Bool.noConfusion q), fun _ => ?_⟩
      refine ⟨false, X 3 hn (by decide), (fun q => Bool.noConfusion q), fun _ => ?_⟩
      refine ⟨false, X 4 hn (by decide), (fun q => Bool.noConfusion q), fun _ => ?_⟩
      refine ⟨false, X 5 hn (by decide), (fun q => Bool.noConfusion q), fun _ => ?_⟩
      refine ⟨false, X 6 hn (by decide), (fun q => Bool.noConfusion q), fun _ => ?_⟩
      refine ⟨true, X 7 hn hn, (fun _ a na => ?_), fun q => Bool.noConfusion q⟩
      exact ⟨_, rfl, rfl, rfl, d, _, _, rfl, e, rfl, _, rfl, rfl, rfl, d, _, _, rfl, e, rfl, (by show 2 ≤ sizeLine; decide), fun m nm => ⟨(by show 2 ≤ sizeLine; decide), fun l nl => fin m l nm nl⟩⟩
    | 8, hn, e, fin, X =>
      refine ⟨false, X 0 hn (by decide), (fun q => Bool.noConfusion q), fun _ => ?_⟩
      refine ⟨false, X 1 hn (by decide), (fun q => Bool.noConfusion q), fun _ => ?_⟩
      refine ⟨false, X 2 hn (by decide), (fun q => Bool.noConfusion q), fun _ => ?_⟩
      refine ⟨false, X 3 hn (by decide), (fun q => Bool.noConfusion q), fun _ => ?_⟩
      refine ⟨false, X 4 hn (by decide), (fun q => Bool.noConfusion q), fun _ => ?_⟩
      refine ⟨false, X 5 hn (by decide), (fun q => Bool.noConfusion q), fun _ => ?_⟩
      refine ⟨false, X 6 hn (by decide), (fun q => Bool.noConfusion q), fun _ => ?_⟩
      refine ⟨false, X 7 hn (by decide), (fun q => Bool.noConfusion q), fun _ => ?_⟩
      refine ⟨true, X 8 hn hn, (fun _ a na => ?_), fun q => Bool.noConfusion q⟩
      exact ⟨_, rfl, rfl, rfl, d, _, _, rfl, e, rfl, (by show 1 ≤ sizeLine; decide), fun m nm => ⟨(by show 2 ≤ sizeLine; decide), fun l nl => fin m l nm nl⟩⟩
    | 9, hn, e, fin, X =>
      refine ⟨false, X 0 hn (by decide), (fun q => Bool.noConfusion q), fun _ => ?_⟩
      refine ⟨false, X 1 hn (by decide), (fun q => Bool.noConfusion q), fun _ => ?_⟩
      refine ⟨false, X 2 hn (by decide), (fun q => Bool.noConfusion q), fun _ => ?_⟩
      refine ⟨false, X 3 hn (by decide), (fun q => Bool.noConfusion q), fun _ => ?_⟩
      refine ⟨false, X 4 hn (by decide), (fun q => Bool.noConfusion q), fun _ => ?_⟩
      refine ⟨false, X 5 hn (by decide), (fun q => Bool.noConfusion q), fun _ => ?_⟩
      refine ⟨false, X 6 hn (by decide), (fun q => Bool.noConfusion q), fun _ => ?_⟩
      refine ⟨false, X 7 hn (by decide), (fun q => Bool.noConfusion q), fun _ => ?_⟩
      refine ⟨false, X 8 hn (by decide), (fun q => Bool.noConfusion q), fun _ => ?_⟩
      refine ⟨true, X 9 hn hn, (fun _ a na => ?_), fun q => Bool.noConfusion q⟩
      exact ⟨_, rfl, rfl, rfl, d, _, _, rfl, e, rfl, _, rfl, rfl, rfl, d, _, _, rfl, e, rfl, (by show 2 ≤ sizeLine; decide), fun m nm => ⟨(by show 2 ≤ sizeLine; decide), fun l nl => fin m l nm nl⟩⟩
    | 10, hn, e, fin, X =>
      refine ⟨false, X 0 hn (by decide), (fun q => Bool.noConfusion q), fun _ => ?_⟩
      refine ⟨false, X 1 hn (by decide), (fun q => Bool.noConfusion q), fun _ => ?_⟩
      refine ⟨false, X 2 hn (by decide), (fun q => Bool.noConfusion q), fun _ => ?_⟩
      refine ⟨false, X 3 hn (by decide), (fun q => Bool.noConfusion q), fun _ => ?_⟩
      refine ⟨false, X 4 hn (by decide), (fun q => Bool.noConfusion q), fun _ => ?_⟩
      refine ⟨false, X 5 hn (by decide), (fun q => Bool.noConfusion q), fun _ => ?_⟩
      refine ⟨false, X 6 hn (by decide), (fun q => Bool.noConfusion q), fun _ => ?_⟩
      refine ⟨false, X 7 hn (by decide), (fun q => Bool.noConfusion q), fun _ => ?_⟩
      refine ⟨false, X 8 hn (by decide), (fun q => Bool.noConfusion q), fun _ => ?_⟩
      refine ⟨false, X 9 hn (by decide), (fun q => Bool.noConfusion q), fun _ => ?_⟩
      refine ⟨true, X 10 hn hn, (fun _ a na => ?_), fun q => Bool.noConfusion q⟩
      exact ⟨_, rfl, rfl, rfl, d, _, _, rfl, e, rfl, _, rfl, rfl, rfl, d, _, _, rfl, e, rfl, (by show 2 ≤ sizeLine; decide), fun m nm => ⟨(by show 2 ≤ sizeLine; decide), fun l nl => fin m l nm nl⟩⟩
    | 11, hn, e, fin, X =>
      refine ⟨false, X 0 hn (by decide), (fun q => Bool.noConfusion q), fun _ => ?_⟩
      refine ⟨false, X 1 hn (by decide), (fun q => Bool.noConfusion q), fun _ => ?_⟩
      refine ⟨false, X 2 hn (by decide), (fun q => Bool.noConfusion q), fun _ => ?_⟩
      refine ⟨false, X 3 hn (by decide), (fun q => Bool.noConfusion q), fun _ => ?_⟩
      refine ⟨false, X 4 hn (by decide), (fun q => Bool.noConfusion q), fun _ => ?_⟩
      refine ⟨false, X 5 hn (by decide), (fun q => Bool.noConfusion q), fun _ => ?_⟩
      refine ⟨false, X 6 hn (by decide), (fun q => Bool.noConfusion q), fun _ => ?_⟩
      refine ⟨false, X 7 hn (by decide), (fun q => Bool.noConfusion q), fun _ => ?_⟩
      refine ⟨false, X 8 hn (by decide), (fun q => Bool.noConfusion q), fun _ => ?_⟩
      refine ⟨false, X 9 hn (by decide), (fun q => Bool.noConfusion q), fun _ => ?_⟩
      refine ⟨false, X 10 hn (by decide), (fun q => Bool.noConfusion q), fun _ => ?_⟩
      refine ⟨true, X 11 hn hn, (fun _ a na => ?_), fun q => Bool.noConfusion q⟩
      exact ⟨_, rfl, rfl, rfl, d, _, _, rfl, e, rfl, _, rfl, rfl, rfl, d, _, _, rfl, e, rfl, (by show 2 ≤ sizeLine; decide), fun m nm => ⟨(by show 2 ≤ sizeLine; decide), fun l nl => fin m l nm nl⟩⟩
    | 12, hn, e, fin, X =>
      refine ⟨false, X 0 hn (by decide), (fun q => Bool.noConfusion q), fun _ => ?_⟩
      refine ⟨false, X 1 hn (by decide), (fun q => Bool.noConfusion q), fun _ => ?_⟩
      refine ⟨false, X 2 hn (by decide), (fun q => Bool.noConfusion q), fun _ => ?_⟩
      refine ⟨false, X 3 hn (by decide), (fun q => Bool.noConfusion q), fun _ => ?_⟩
      refine ⟨false, X 4 hn (by decide), (fun q => Bool.noConfusion q), fun _ => ?_⟩
      refine ⟨false, X 5 hn (by decide), (fun q => Bool.noConfusion q), fun _ => ?_⟩
      refine ⟨false, X 6 hn (by decide), (fun q => Bool.noConfusion q), fun _ => ?_⟩
      refine ⟨false, X 7 hn (by decide), (fun q => Bool.noConfusion q), fun _ => ?_⟩
      refine ⟨false, X 8 hn (by decide), (fun q => Bool.noConfusion q), fun _ => ?_⟩
      refine ⟨false, X 9 hn (by decide), (fun q => Bool.noConfusion q), fun _ => ?_⟩
      refine ⟨false, X 10 hn (by decide), (fun q => Bool.noConfusion q), fun _ => ?_⟩
      refine ⟨false, X 11 hn (by decide), (fun q => Bool.noConfusion q), fun _ => ?_⟩
      refine ⟨true, X 12 hn hn, (fun _ a na => ?_), fun q => Bool.noConfusion q⟩
      exact ⟨_, rfl, rfl, rfl, d, _, _, rfl, e, rfl, (by show 1 ≤ sizeLine; decide), fun m nm => ⟨(by show 2 ≤ sizeLine; decide), fun l nl => fin m l nm nl⟩⟩
    | 13, hn, e, fin, X =>
      refine ⟨false, X 0 hn (by decide), (fun q => Bool.noConfusion q), fun _ => ?_⟩
      refine ⟨false, X 1 hn (by decide), (fun q => Bool.noConfusion q), fun _ => ?_⟩
      refine ⟨false, X 2 hn (by decide), (fun q => Bool.noConfusion q), fun _ => ?_⟩
      refine ⟨false, X 3 hn (by decide), (fun q => Bool.noConfusion q), fun _ => ?_⟩
      refine ⟨false, X 4 hn (by decide), (fun q => Bool.noConfusion q), fun _ => ?_⟩
      refine ⟨false, X 5 hn (by decide), (fun q => Bool.noConfusion q), fun _ => ?_⟩
      refine ⟨false, X 6 hn (by decide), (fun q => Bool.noConfusion q), fun _ => ?_⟩
      refine ⟨false, X 7 hn (by decide), (fun q => Bool.noConfusion q), fun _ => ?_⟩
      refine ⟨false, X 8 hn (by decide), (fun q => Bool.noConfusion q), fun _ => ?_⟩
      refine ⟨false, X 9 hn (by decide), (fun q => Bool.noConfusion q), fun _ => ?_⟩
      refine ⟨false, X 10 hn (by decide), (fun q => Bool.noConfusion q), fun _ => ?_⟩
      refine ⟨false, X 11 hn (by decide), (fun q => Bool.noConfusion q), fun _ => ?_⟩
      refine ⟨false, X 12 hn (by decide), (fun q => Bool.noConfusion q), fun _ => ?_⟩
      refine ⟨true, X 13 hn hn, (fun _ a na => ?_), fun q => Bool.noConfusion q⟩
      exact ⟨_, rfl, rfl, rfl, d, _, _, rfl, e, rfl, (by show 1 ≤ sizeLine; decide), fun m nm => ⟨(by show 2 ≤ sizeLine; decide), fun l nl => fin m l nm nl⟩⟩
    | 14, hn, e, fin, X =>
      refine ⟨false, X 0 hn (by decide), (fun q => Bool.noConfusion q), fun _ => ?_⟩
      refine ⟨false, X 1 hn (by decide), (fun q => Bool.noConfusion q), fun _ => ?_⟩
      refine ⟨false, X 2 hn (by decide), (fun q => Bool.noConfusion q), fun _ => ?_⟩
      refine ⟨false, X 3 hn (by decide), (fun q => Bool.noConfusion q), fun _ => ?_⟩
      refine ⟨false, X 4 hn (by decide), (fun q => Bool.noConfusion q), fun _ => ?_⟩
      refine ⟨false, X 5 hn (by decide), (fun q => Bool.noConfusion q), fun _ => ?_⟩
      refine ⟨false, X 6 hn (by decide), (fun q => Bool.noConfusion q), fun _ => ?_⟩
      refine ⟨false, X 7 hn (by decide), (fun q => Bool.noConfusion q), fun _ => ?_⟩
      refine ⟨false, X 8 hn (by decide), (fun q => Bool.noConfusion q), fun _ => ?_⟩
      refine ⟨false, X 9 hn (by decide), (fun q => Bool.noConfusion q), fun _ => ?_⟩
      refine ⟨false, X 10 hn (by decide), (fun q => Bool.noConfusion q), fun _ => ?_⟩
      refine ⟨false, X 11 hn (by decide), (fun q => Bool.noConfusion q), fun _ => ?_⟩
      refine ⟨false, X 12 hn (by decide), (fun q => Bool.noConfusion q), fun _ => ?_⟩
      refine ⟨false, X 13 hn (by decide), (fun q => Bool.noConfusion q), fun _ => ?_⟩
      refine ⟨true, X 14 hn hn, (fun _ a na => ?_), fun q => Bool.noConfusion q⟩
      exact ⟨_, rfl, rfl, rfl, d, _, _, rfl, e, rfl, _, rfl, rfl, rfl, d, _, _, rfl, e, rfl, (by show 2 ≤ sizeLine; decide), fun m nm => ⟨(by show 2 ≤ sizeLine; decide), fun l nl => fin m l nm nl⟩⟩
    | 15, hn, e, fin, X =>
      refine ⟨false, X 0 hn (by decide), (fun q => Bool.noConfusion q), fun _ => ?_⟩
      refine ⟨false, X 1 hn (by decide), (fun q => Bool.noConfusion q), fun _ => ?_⟩
      refine ⟨false, X 2 hn (by decide), (fun q => Bool.noConfusion q), fun _ => ?_⟩
      refine ⟨false, X 3 hn (by decide), (fun q => Bool.noConfusion q), fun _ => ?_⟩
      refine ⟨false, X 4 hn (by decide), (fun q => Bool.noConfusion q), fun _ => ?_⟩
      refine ⟨false, X 5 hn (by decide), (fun q => Bool.noConfusion q), fun _ => ?_⟩
      refine ⟨false, X 6 hn (by decide), (fun q => Bool.noConfusion q), fun _ => ?_⟩
      refine ⟨false, X 7 hn (by decide), (fun q => Bool.noConfusion q), fun _ => ?_⟩
      refine ⟨false, X 8 hn (by decide), (fun q => Bool.noConfusion q), fun _ => ?_⟩
      refine ⟨false, X 9 hn (by decide), (fun q => Bool.noConfusion q), fun _ => ?_⟩
      refine ⟨false, X 10 hn (by decide), (fun q => Bool.noConfusion q), fun _ => ?_⟩
      refine ⟨false, X 11 hn (by decide), (fun q => Bool.noConfusion q), fun _ => ?_⟩
      refine ⟨false, X 12 hn (by decide), (fun q => Bool.noConfusion q), fun _ => ?_⟩
      refine ⟨false, X 13 hn (by decide), (fun q => Bool.noConfusion q), fun _ => ?_⟩
      refine ⟨false, X 14 hn (by decide), (fun q => Bool.noConfusion q), fun _ => ?_⟩
      refine ⟨true, X 15 hn hn, (fun _ a na => ?_), fun q => Bool.noConfusion q⟩
      exact ⟨_, rfl, rfl, rfl, d, _, _, rfl, e, rfl, (by show 1 ≤ sizeLine; decide), fun m nm => ⟨(by show 2 ≤ sizeLine; decide), fun l nl => fin m l nm nl⟩⟩
    | 16, hn, e, fin, X =>
      refine ⟨false, X 0 hn (by decide), (fun q => Bool.noConfusion q), fun _ => ?_⟩
      refine ⟨false, X 1 hn (by decide), (fun q => Bool.noConfusion q), fun _ => ?_⟩
      refine ⟨false, X 2 hn (by decide), (fun q => Bool.noConfusion q), fun _ => ?_⟩
      refine ⟨false, X 3 hn (by decide), (fun q => Bool.noConfusion q), fun _ => ?_⟩
      refine ⟨false, X 4 hn (by decide), (fun q => Bool.noConfusion q), fun _ => ?_⟩
      refine ⟨false, X 5 hn (by decide), (fun q => Bool.noConfusion q), fun _ => ?_⟩
      refine ⟨false, X 6 hn (by decide), (fun q => Bool.noConfusion q), fun _ => ?_⟩
      refine ⟨false, X 7 hn (by decide), (fun q => Bool.noConfusion q), fun _ => ?_⟩
      refine ⟨false, X 8 hn (by decide), (fun q => Bool.noConfusion q), fun _ => ?_⟩
      refine ⟨false, X 9 hn (by decide), (fun q => Bool.noConfusion q), fun _ => ?_⟩
      refine ⟨false, X 10 hn (by decide), (fun q => Bool.noConfusion q), fun _ => ?_⟩
      refine ⟨false, X 11 hn (by decide), (fun q => Bool.noConfusion q), fun _ => ?_⟩
      refine ⟨false, X 12 hn (by decide), (fun q => Bool.noConfusion q), fun _ => ?_⟩
      refine ⟨false, X 13 hn (by decide), (fun q => Bool.noConfusion q), fun _ => ?_⟩
      refine ⟨false, X 14 hn (by decide), (fun q => Bool.noConfusion q), fun _ => ?_⟩
      refine ⟨false, X 15 hn (by decide), (fun q => Bool.noConfusion q), fun _ => ?_⟩
      refine ⟨true, X 16 hn hn, (fun _ a na => ?_), fun q => Bool.noConfusion q⟩
      exact ⟨_, rfl, rfl, rfl, d, _, _, rfl, e, rfl, (by show 1 ≤ sizeLine; decide), fun m nm => ⟨(by show 2 ≤ sizeLine; decide), fun l nl => fin m l nm nl⟩⟩
    | n + 17, hn, _, _, _ => exact absurd hn (by omega)
theorem ok_turned (D : Df K mg "_law_turned" s_turned ["number", "one", "two"]) (T : Te K mg) (B : Tb mg) (G_raise : Cal P w K mg base (L2.CX P w) 3 "_law_raise" ["number", "one", "two"] (spRaise K)) : Cal P w K mg base CX0 4 "_law_turned" ["number", "one", "two"] (spCaught K) := by
  refine D.cal0 sc_turned (fun vs H Q E h => ?_) (fun cdv f A outer s H vs Q E hr h => ⟨_,
    (pss_cons (ps_try_manyA rfl rfl sc_turned.nd takes0 (fun W pn xe tk _ => (pss_one (ps_expr (pe_calS G_raise (hr.mono (by decide)) tk (pa_cons (pv 0) (pa_cons (pv 1) (pa_cons (pv 2) pa_nil)))))))
        (HdA.cons (i := 3) ⟨rfl, by decide, .inl (T.g 16 (by decide))⟩ rfl rfl (fun a oe cls d pn hz hf => (pss_one (ps_ret (pe_lst (pa_cons pe_int (pa_cons (pe_lst (pa_cons (pe_xf (C := C K 16) (T.c 16 (by decide)).xf (T.f 16 (by decide) "line" (by decide)) hz hf (pv 3)) pa_nil)) pa_nil))))))
        (HdA.cons (i := 3) ⟨rfl, by decide, .inl (T.g 15 (by decide))⟩ rfl rfl (fun a oe cls d pn hz hf => (pss_one (ps_ret (pe_lst (pa_cons pe_int (pa_cons (pe_lst (pa_cons (pe_xf (C := C K 15) (T.c 15 (by decide)).xf (T.f 15 (by decide) "name" (by decide)) hz hf (pv 3)) pa_nil)) pa_nil))))))
        (HdA.cons (i := 3) ⟨rfl, by decide, .inl (T.g 14 (by decide))⟩ rfl rfl (fun a oe cls d pn hz hf => (pss_one (ps_ret (pe_lst (pa_cons pe_int (pa_cons (pe_lst (pa_cons (pe_xf (C := C K 14) (T.c 14 (by decide)).xf (T.f 14 (by decide) "word" (by decide)) hz hf (pv 3)) (pa_cons (pe_xf (C := C K 14) (T.c 14 (by decide)).xf (T.f 14 (by decide) "name" (by decide)) hz hf (pv 3)) pa_nil))) pa_nil))))))
        (HdA.cons (i := 3) ⟨rfl, by decide, .inl (T.g 13 (by decide))⟩ rfl rfl (fun a oe cls d pn hz hf => (pss_one (ps_ret (pe_lst (pa_cons pe_int (pa_cons (pe_lst (pa_cons (pe_xf (C := C K 13) (T.c 13 (by decide)).xf (T.f 13 (by decide) "tree" (by decide)) hz hf (pv 3)) pa_nil)) pa_nil))))))
        (HdA.cons (i := 3) ⟨rfl, by decide, .inl (T.g 12 (by decide))⟩ rfl rfl (fun a oe cls d pn hz hf => (pss_one (ps_ret (pe_lst (pa_cons pe_int (pa_cons (pe_lst (pa_cons (pe_xf (C := C K 12) (T.c 12 (by decide)).xf (T.f 12 (by decide) "word" (by decide)) hz hf (pv 3)) pa_nil)) pa_nil))))))
        (HdA.cons (i := 3) ⟨rfl, by decide, .inl (T.g 11 (by decide))⟩ rfl rfl (fun a oe cls d pn hz hf => (pss_one (ps_ret (pe_lst (pa_cons pe_int (pa_cons (pe_lst (pa_cons (pe_xf (C := C K 11) (T.c 11 (by decide)).xf (T.f 11 (by decide) "line" (by decide)) hz hf (pv 3)) (pa_cons (pe_xf (C := C K 11) (T.c 11 (by decide)).xf (T.f 11 (by decide) "word" (by decide)) hz hf (pv 3)) pa_nil))) pa_nil))))))
        (HdA.cons (i := 3) ⟨rfl, by decide, .inl (T.g 10 (by decide))⟩ rfl rfl (fun a oe cls d pn hz hf => (pss_one (ps_ret (pe_lst (pa_cons pe_int (pa_cons (pe_lst (pa_cons (pe_xf (C := C K 10) (T.c 10 (by decide)).xf (T.f 10 (by decide) "at" (by decide)) hz hf (pv 3)) (pa_cons (pe_xf (C := C K 10) (T.c 10 (by decide)).xf (T.f 10 (by decide) "word" (by decide)) hz hf (pv 3)) pa_nil))) pa_nil))))))
        (HdA.cons (i := 3) ⟨rfl, by decide, .inl (T.g 9 (by decide))⟩ rfl rfl (fun a oe cls d pn hz hf => (pss_one (ps_ret (pe_lst (pa_cons pe_int (pa_cons (pe_lst (pa_cons (pe_xf (C := C K 9) (T.c 9 (by decide)).xf (T.f 9 (by decide) "at" (by decide)) hz hf (pv 3)) (pa_cons (pe_xf (C := C K 9) (T.c 9 (by decide)).xf (T.f 9 (by decide) "word" (by decide)) hz hf (pv 3)) pa_nil))) pa_nil))))))
        (HdA.cons (i := 3) ⟨rfl, by decide, .inl (T.g 8 (by decide))⟩ rfl rfl (fun a oe cls d pn hz hf => (pss_one (ps_ret (pe_lst (pa_cons pe_int (pa_cons (pe_lst (pa_cons (pe_xf (C := C K 8) (T.c 8 (by decide)).xf (T.f 8 (by decide) "at" (by decide)) hz hf (pv 3)) pa_nil)) pa_nil))))))
        (HdA.cons (i := 3) ⟨rfl, by decide, .inl (T.g 7 (by decide))⟩ rfl rfl (fun a oe cls d pn hz hf => (pss_one (ps_ret (pe_lst (pa_cons pe_int (pa_cons (pe_lst (pa_cons (pe_xf (C := C K 7) (T.c 7 (by decide)).xf (T.f 7 (by decide) "at" (by decide)) hz hf (pv 3)) (pa_cons (pe_xf (C := C K 7) (T.c 7 (by decide)).xf (T.f 7 (by decide) "word" (by decide)) hz hf (pv 3)) pa_nil))) pa_nil))))))
        (HdA.cons (i := 3) ⟨rfl, by decide, .inl (T.g 6 (by decide))⟩ rfl rfl (fun a oe cls d pn hz hf => (pss_one (ps_ret (pe_lst (pa_cons pe_int (pa_cons (pe_lst (pa_cons (pe_xf (C := C K 6) (T.c 6 (by decide)).xf (T.f 6 (by decide) "at" (by decide)) hz hf (pv 3)) (pa_cons (pe_xf (C := C K 6) (T.c 6 (by decide)).xf (T.f 6 (by decide) "word" (by decide)) hz hf (pv 3)) pa_nil))) pa_nil))))))
        (HdA.cons (i := 3) ⟨rfl, by decide, .inl (T.g 5 (by decide))⟩ rfl rfl (fun a oe cls d pn hz hf => (pss_one (ps_ret (pe_lst (pa_cons pe_int (pa_cons (pe_lst (pa_cons (pe_xf (C := C K 5) (T.c 5 (by decide)).xf (T.f 5 (by decide) "at" (by decide)) hz hf (pv 3)) pa_nil)) pa_nil))))))
        (HdA.cons (i := 3) ⟨rfl, by decide, .inl (T.g 4 (by decide))⟩ rfl rfl (fun a oe cls d pn hz hf => (pss_one (ps_ret (pe_lst (pa_cons pe_int (pa_cons (pe_lst (pa_cons (pe_xf (C := C K 4) (T.c 4 (by decide)).xf (T.f 4 (by decide) "at" (by decide)) hz hf (pv 3)) (pa_cons (pe_xf (C := C K 4) (T.c 4 (by decide)).xf (T.f 4 (by decide) "word" (by decide)) hz hf (pv 3)) pa_nil))) pa_nil))))))
        (HdA.cons (i := 3) ⟨rfl, by decide, .inl (T.g 3 (by decide))⟩ rfl rfl (fun a oe cls d pn hz hf => (pss_one (ps_ret (pe_lst (pa_cons pe_int (pa_cons (pe_lst (pa_cons (pe_xf (C := C K 3) (T.c 3 (by decide)).xf (T.f 3 (by decide) "at" (by decide)) hz hf (pv 3)) (pa_cons (pe_xf (C := C K 3) (T.c 3 (by decide)).xf (T.f 3 (by decide) "word" (by decide)) hz hf (pv 3)) pa_nil))) pa_nil))))))
        (HdA.cons (i := 3) ⟨rfl, by decide, .inl (T.g 2 (by decide))⟩ rfl rfl (fun a oe cls d pn hz hf => (pss_one (ps_ret (pe_lst (pa_cons pe_int (pa_cons (pe_lst (pa_cons (pe_xf (C := C K 2) (T.c 2 (by decide)).xf (T.f 2 (by decide) "at" (by decide)) hz hf (pv 3)) (pa_cons (pe_xf (C := C K 2) (T.c 2 (by decide)).xf (T.f 2 (by decide) "word" (by decide)) hz hf (pv 3)) pa_nil))) pa_nil))))))
        (HdA.cons (i := 3) ⟨rfl, by decide, .inl (T.g 1 (by decide))⟩ rfl rfl (fun a oe cls d pn hz hf => (pss_one (ps_ret (pe_lst (pa_cons pe_int (pa_cons (pe_lst (pa_cons (pe_xf (C := C K 1) (T.c 1 (by decide)).xf (T.f 1 (by decide) "word" (by decide)) hz hf (pv 3)) pa_nil)) pa_nil))))))
        (HdA.cons (i := 3) ⟨rfl, by decide, .inl (T.g 0 (by decide))⟩ rfl rfl (fun a oe cls d pn hz hf => (pss_one (ps_ret (pe_lst (pa_cons pe_int (pa_cons (pe_lst (pa_cons (pe_xf (C := C K 0) (T.c 0 (by decide)).xf (T.f 0 (by decide) "at" (by decide)) hz hf (pv 3)) pa_nil)) pa_nil))))))
        HdA.nil))))))))))))))))))
      (pss_one (ps_ret (pe_lst (pa_cons (pe_un un_neg pe_int) (pa_cons (pe_lst pa_nil) pa_nil)))))), ?_⟩)
  · obtain ⟨n, one, two, rfl, _⟩ := h
    rfl
  · obtain ⟨n, one, two, rfl, hn, k⟩ := h
    refine ⟨_, rfl, _, rfl, _, rfl, n, one, two, rfl, hn, fun d H' nd s0 e => ?_⟩
    have fin : ∀ (m l : Addr), H' m = none → upd H' m (.lst (ar n one two)) l = none → Q (.ref l) (upd (upd H' m (.lst (ar n one two))) l (.lst [.int n, .ref m])) := fun m l nm nl =>
      k l m _ (s0.none ((same_upd nm).none nl)) ((s0.new nm).new nl) upd_same (by rw [upd_ne (ne_of_none upd_same nl)]; exact upd_same)
    have X := T.exm n
    match n, hn, e, fin, X with
    | 0, hn, e, fin, X =>
      refine ⟨false, X 16 hn (by decide), (fun q => Bool.noConfusion q), fun _ => ?_⟩
      refine ⟨false, X 15 hn (by decide), (fun q => Bool.noConfusion q), fun _ => ?_⟩
      refine ⟨false, X 14 hn (by decide), (fun q => Bool.noConfusion q), fun _ => ?_⟩
      refine ⟨false, X 13 hn (by decide), (fun q => Bool.noConfusion q), fun _ => ?_⟩
      refine ⟨false, X 12 hn (by decide), (fun q => Bool.noConfusion q), fun _ => ?_⟩
      refine ⟨false, X 11 hn (by decide), (fun q => Bool.noConfusion q), fun _ => ?_⟩
      refine ⟨false, X 10 hn (by decide), (fun q => Bool.noConfusion q), fun _ => ?_⟩
      refine ⟨false, X 9 hn (by decide), (fun q => Bool.noConfusion q), fun _ => ?_⟩
      refine ⟨false, X 8 hn (by decide), (fun q => Bool.noConfusion q), fun _ => ?_⟩
      refine ⟨false, X 7 hn (by decide), (fun q => Bool.noConfusion q), fun _ => ?_⟩
      refine ⟨false, X 6 hn (by decide), (fun q => Bool.noConfusion q), fun _ => ?_⟩
      refine ⟨false, X 5 hn (by decide), (fun q => Bool.noConfusion q), fun _ => ?_⟩
      refine ⟨false, X 4 hn (by decide), (fun q => Bool.noConfusion q), fun _ => ?_⟩
      refine ⟨false, X 3 hn (by decide), (fun q => Bool.noConfusion q), fun _ => ?_⟩
      refine ⟨false, X 2 hn (by decide), (fun q => Bool.noConfusion q), fun _ => ?_⟩
      refine ⟨false, X 1 hn (by decide), (fun q => Bool.noConfusion q), fun _ => ?_⟩
      refine ⟨true, X 0 hn hn, (fun _ a na => ?_), fun q => Bool.noConfusion q⟩
      exact ⟨_, rfl, rfl, rfl, d, _, _, rfl, e, rfl, (by show 1 ≤ sizeLine; decide), fun m nm => ⟨(by show 2 ≤ sizeLine; decide), fun l nl => fin m l nm nl⟩⟩
    | 1, hn, e, fin, X =>
      refine ⟨false, X 16 hn (by decide), (fun q => Bool.noConfusion q), fun _ => ?_⟩
      refine ⟨false, X 15 hn (by decide), (fun q => Bool.noConfusion q), fun _ => ?_⟩
      refine ⟨false, X 14 hn (by decide), (fun q => Bool.noConfusion q), fun _ => ?_⟩
      refine ⟨false, X 13 hn (by decide), (fun q => Bool.noConfusion q), fun _ => ?_⟩
      refine ⟨false, X 12 hn (by decide), (fun q => Bool.noConfusion q), fun _ => ?_⟩
      refine ⟨false, X 11 hn (by decide), (fun q => Bool.noConfusion q), fun _ => ?_⟩
      refine ⟨false, X 10 hn (by decide), (fun q => Bool.noConfusion q), fun _ => ?_⟩
      refine ⟨false, X 9 hn (by decide), (fun q => Bool.noConfusion q), fun _ => ?_⟩
      refine ⟨false, X 8 hn (by decide), (fun q => Bool.noConfusion q), fun _ => ?_⟩
      refine ⟨false, X 7 hn (by decide), (fun q => Bool.noConfusion q), fun _ => ?_⟩
      refine ⟨false, X 6 hn (by decide), (fun q => Bool.noConfusion q), fun _ => ?_⟩
      refine ⟨false, X 5 hn (by decide), (fun q => Bool.noConfusion q), fun _ => ?_⟩
      refine ⟨false, X 4 hn (by decide), (fun q => Bool.noConfusion q), fun _ => ?_⟩
      refine ⟨false, X 3 hn (by decide), (fun q => Bool.noConfusion q), fun _ => ?_⟩
      refine ⟨false, X 2 hn (by decide), (fun q => Bool.noConfusion q), fun _ => ?_⟩
      refine ⟨true, X 1 hn hn, (fun _ a na => ?_), fun q => Bool.noConfusion q⟩
      exact ⟨_, rfl, rfl, rfl, d, _, _, rfl, e, rfl, (by show 1 ≤ sizeLine; decide), fun m nm => ⟨(by show 2 ≤ sizeLine; decide), fun l nl => fin m l nm nl⟩⟩
    | 2, hn, e, fin, X =>
      refine ⟨false, X 16 hn (by decide), (fun q => Bool.noConfusion q), fun _ => ?_⟩
      refine ⟨false, X 15 hn (by decide), (fun q => Bool.noConfusion q), fun _ => ?_⟩
      refine ⟨false, X 14 hn (by decide), (fun q => Bool.noConfusion q), fun _ => ?_⟩
      refine ⟨false, X 13 hn (by decide), (fun q => Bool.noConfusion q), fun _ => ?_⟩
      refine ⟨false, X 12 hn (by decide), (fun q => Bool.noConfusion q), fun _ => ?_⟩
      refine ⟨false, X 11 hn (by decide), (fun q => Bool.noConfusion q), fun _ => ?_⟩
      refine ⟨false, X 10 hn (by decide), (fun q => Bool.noConfusion q), fun _ => ?_⟩
      refine ⟨false, X 9 hn (by decide), (fun q => Bool.noConfusion q), fun _ => ?_⟩
      refine ⟨false, X 8 hn (by decide), (fun q => Bool.noConfusion q), fun _ => ?_⟩
      refine ⟨false, X 7 hn (by decide), (fun q => Bool.noConfusion q), fun _ => ?_⟩
      refine ⟨false, X 6 hn (by decide), (fun q => Bool.noConfusion q), fun _ => ?_⟩
      refine ⟨false, X 5 hn (by decide), (fun q => Bool.noConfusion q), fun _ => ?_⟩
      refine ⟨false, X 4 hn (by decide), (fun q => Bool.noConfusion q), fun _ => ?_⟩
      refine ⟨false, X 3 hn (by decide), (fun q => Bool.noConfusion q), fun _ => ?_⟩
      refine ⟨true, X 2 hn hn, (fun _ a na => ?_), fun q => Bool.noConfusion q⟩
      exact ⟨_, rfl, rfl, rfl, d, _, _, rfl, e, rfl, _, rfl, rfl, rfl, d, _, _, rfl, e, rfl, (by show 2 ≤ sizeLine; decide), fun m nm => ⟨(by show 2 ≤ sizeLine; decide), fun l nl => fin m l nm nl⟩⟩
    | 3, hn, e, fin, X =>
      refine ⟨false, X 16 hn (by decide), (fun q => Bool.noConfusion q), fun _ => ?_⟩
      refine ⟨false, X 15 hn (by decide), (fun q => Bool.noConfusion q), fun _ => ?_⟩
      refine ⟨false, X 14 hn (by decide), (fun q => Bool.noConfusion q), fun _ => ?_⟩
      refine ⟨false, X 13 hn (by decide), (fun q => Bool.noConfusion q), fun _ => ?_⟩
      refine ⟨false, X 12 hn (by decide), (fun q => Bool.noConfusion q), fun _ => ?_⟩
      refine ⟨false, X 11 hn (by decide), (fun q => Bool.noConfusion q), fun _ => ?_⟩
      refine ⟨false, X 10 hn (by decide), (fun q => Bool.noConfusion q), fun _ => ?_⟩
      refine ⟨false, X 9 hn (by decide), (fun q => Bool.noConfusion q), fun _ => ?_⟩
      refine ⟨false, X 8 hn (by decide), (fun q => Bool.noConfusion q), fun _ => ?_⟩
      refine ⟨false, X 7 hn (by decide), (fun q => Bool.noConfusion q), fun _ => ?_⟩
      refine ⟨false, X 6 hn (by decide), (fun q => Bool.noConfusion q), fun _ => ?_⟩
      refine ⟨false, X 5 hn (by decide), (fun q => Bool.noConfusion q), fun _ => ?_⟩
      refine ⟨false, X 4 hn (by decide), (fun q => Bool.noConfusion q), fun _ => ?_⟩
      refine ⟨true, X 3 hn hn, (fun _ a na => ?_), fun q => Bool.noConfusion q⟩
      exact ⟨_, rfl, rfl, rfl, d, _, _, rfl, e, rfl, _, rfl, rfl, rfl, d, _, _, rfl, e, rfl, (by show 2 ≤ sizeLine; decide), fun m nm => ⟨(by show 2 ≤ sizeLine; decide), fun l nl => fin m l nm nl⟩⟩
    | 4, hn, e, fin, X =>
      refine ⟨false, X 16 hn (by decide), (fun q => Bool.noConfusion q), fun _ => ?_⟩
      refine ⟨false, X 15 hn (by decide), (fun q => Bool.noConfusion q), fun _ => ?_⟩
      refine ⟨false, X 14 hn (by decide), (fun q => Bool.noConfusion q), fun _ => ?_⟩
      refine ⟨false, X 13 hn (by decide), (fun q => Bool.noConfusion q), fun _ => ?_⟩
      refine ⟨false, X 12 hn (by decide), (fun q => Bool.noConfusion q), fun _ => ?_⟩
      refine ⟨false, X 11 hn (by decide), (fun q => Bool.noConfusion q), fun _ => ?_⟩
      refine ⟨false, X 10 hn (by decide), (fun q => Bool.noConfusion q), fun _ => ?_⟩
      refine ⟨false, X 9 hn (by decide), (fun q => Bool.noConfusion q), fun _ => ?_⟩
      refine ⟨false, X 8 hn (by decide), (fun q => Bool.noConfusion q), fun _ => ?_⟩
      refine ⟨false, X 7 hn (by decide), (fun q => Bool.noConfusion q), fun _ => ?_⟩
      refine ⟨false, X 6 hn (by decide), (fun q => Bool.noConfusion q), fun _ => ?_⟩
      refine ⟨false, X 5 hn (by decide), (fun q => Bool.noConfusion q), fun _ => ?_⟩
      refine ⟨true, X 4 hn hn, (fun _ a na => ?_), fun q => Bool.noConfusion q⟩
      exact ⟨_, rfl, rfl, rfl, d, _, _, rfl, e, rfl, _, rfl, rfl, rfl, d, _, _, rfl, e, rfl, (by show 2 ≤ sizeLine; decide), fun m nm => ⟨(by show 2 ≤ sizeLine; decide), fun l nl => fin m l nm nl⟩⟩
    | 5, hn, e, fin, X =>
      refine ⟨false, X 16 hn (by decide), (fun q => Bool.noConfusion q), fun _ => ?_⟩
      refine ⟨false, X 15 hn (by decide), (fun q => Bool.noConfusion q), fun _ => ?_⟩
      refine ⟨false, X 14 hn (by decide), (fun q => Bool.noConfusion q), fun _ => ?_⟩
      refine ⟨false, X 13 hn (by decide), (fun q => Bool.noConfusion q), fun _ => ?_⟩
      refine ⟨false, X 12 hn (by decide), (fun q => Bool.noConfusion q), fun _ => ?_⟩
      refine ⟨false, X 11 hn (by decide), (fun q => Bool.noConfusion q), fun _ => ?_⟩
      refine ⟨false, X 10 hn (by decide), (fun q => Bool.noConfusion q), fun _ => ?_⟩
      refine ⟨false, X 9 hn (by decide), (fun q => Bool.noConfusion q), fun _ => ?_⟩
      refine ⟨false, X 8 hn (by decide), (fun q => Bool.noConfusion q), fun _ => ?_⟩
      refine ⟨false, X 7 hn (by decide), (fun q => Bool.noConfusion q), fun _ => ?_⟩
      refine ⟨false, X 6 hn (by decide), (fun q => Bool.noConfusion q), fun _ => ?_⟩
      refine ⟨true, X 5 hn hn, (fun _ a na => ?_), fun q => Bool.noConfusion q⟩
      exact ⟨_, rfl, rfl, rfl, d, _, _, rfl, e, rfl, (by show 1 ≤ sizeLine; decide), fun m nm => ⟨(by show 2 ≤ sizeLine; decide), fun l nl => fin m l nm nl⟩⟩
    | 6, hn, e, fin, X =>
      refine ⟨false, X 16 hn (by decide), (fun q => Bool.noConfusion q), fun _ => ?_⟩
      refine ⟨false, X 15 hn (by decide), (fun q => Bool.noConfusion q), fun _ => ?_⟩
      refine ⟨false, X 14 hn (by decide), (fun q => Bool.noConfusion q), fun _ => ?_⟩
      refine ⟨false, X 13 hn (by decide), (fun q => Bool.noConfusion q), fun _ => ?_⟩
      refine ⟨false, X 12 hn (by decide), (fun q => Bool.noConfusion q), fun _ => ?_⟩
      refine ⟨false, X 11 hn (by decide), (fun q => Bool.noConfusion q), fun _ => ?_⟩
      refine ⟨false, X 10 hn (by decide), (fun q => Bool.noConfusion q), fun _ => ?_⟩
      refine ⟨false, X 9 hn (by decide), (fun q => Bool.noConfusion q), fun _ => ?_⟩
      refine ⟨false, X 8 hn (by decide), (fun q => Bool.noConfusion q), fun _ => ?_⟩
      refine ⟨false, X 7 hn (by decide), (fun q => Bool.noConfusion q), fun _ => ?_⟩
      refine ⟨true, X 6 hn hn, (fun _ a na => ?_), fun q => Bool.noConfusion q⟩
      exact ⟨_, rfl, rfl, rfl, d, _, _, rfl, e, rfl, _, rfl, rfl, rfl, d, _, _, rfl, e, rfl, (by show 2 ≤ sizeLine; decide), fun m nm => ⟨(by show 2 ≤ sizeLine; decide), fun l nl => fin m l nm nl⟩⟩
    | 7, hn, e, fin, X =>
      refine ⟨false, X 16 hn (by decide), (fun q => Bool.noConfusion q), fun _ => ?_⟩
      refine ⟨false, X 15 hn (by decide), (fun q => Bool.noConfusion q), fun _ => ?_⟩
      refine ⟨false, X 14 hn (by decide), (fun q => Bool.noConfusion q), fun _ => ?_⟩
      refine ⟨false, X 13 hn (by decide), (fun q => Bool.noConfusion q), fun _ => ?_⟩
      refine ⟨false, X 12 hn (by decide), (fun q => Bool.noConfusion q), fun _ => ?_⟩
      refine ⟨false, X 11 hn (by decide), (fun q => Bool.noConfusion q), fun _ => ?_⟩
      refine ⟨false, X 10 hn (by decide), (fun q => Bool.noConfusion q), fun _ => ?_⟩
      refine ⟨false, X 9 hn (by decide), (fun q => Bool.noConfusion q), fun _ => ?_⟩
      refine ⟨false, X 8 hn (by decide), (fun q => Bool.noConfusion q), fun _ => ?_⟩
      refine ⟨true, X 7 hn hn, (fun _ a na => ?_), fun q => Bool.noConfusion q⟩
      exact ⟨_, rfl, rfl, rfl, d, _, _, rfl, e, rfl, _, rfl, rfl, rfl, d, _, _, rfl, e, rfl, (by show 2 ≤ sizeLine; decide), fun m nm => ⟨(by show 2 ≤ sizeLine; decide), fun l nl => fin m l nm nl⟩⟩
    | 8, hn, e, fin, X =>
      refine ⟨false, X 16 hn (by decide), (fun q => Bool.noConfusion q), fun _ => ?_⟩
      refine ⟨false, X 15 hn (by decide), (fun q => Bool.noConfusion q), fun _ => ?_⟩
      refine ⟨false, X 14 hn (by decide), (fun q => Bool.noConfusion q), fun _ => ?_⟩
      refine ⟨false, X 13 hn (by decide), (fun q => Bool.noConfusion q), fun _ => ?_⟩
      refine ⟨false, X 12 hn (by decide), (fun q => Bool.noConfusion q), fun _ => ?_⟩
      refine ⟨false, X 11 hn (by decide), (fun q => Bool.noConfusion q), fun _ => ?_⟩
      refine ⟨false, X 10 hn (by decide), (fun q => Bool.noConfusion q), fun _ => ?_⟩
      refine ⟨false, X 9 hn (by decide), (fun q => Bool.noConfusion q), fun _ => ?_⟩
      refine ⟨true, X 8 hn hn, (fun _ a na => ?_), fun q => Bool.noConfusion q⟩
      exact ⟨_, rfl, rfl, rfl, d, _, _, rfl, e, rfl, (by show 1 ≤ sizeLine; decide), fun m nm => ⟨(by show 2 ≤ sizeLine; decide), fun l nl => fin m l nm nl⟩⟩
    | 9, hn, e, fin, X =>
      refine ⟨false, X 16 hn (by decide), (fun q => Bool.noConfusion q), fun _ => ?_⟩
      refine ⟨false, X 15 hn (by decide), (fun q => Bool.noConfusion q), fun _ => ?_⟩
      refine ⟨false, X 14 hn (by decide), (fun q => Bool.noConfusion q), fun _ => ?_⟩
      refine ⟨false, X 13 hn (by decide), (fun q => Bool.noConfusion q), fun _ => ?_⟩
      refine ⟨false, X 12 hn (by decide), (fun q => Bool.noConfusion q), fun _ => ?_⟩
      refine ⟨false, X 11 hn (by decide), (fun q => Bool.noConfusion q), fun _ => ?_⟩
      refine ⟨false, X 10 hn (by decide), (fun q => Bool.noConfusion q), fun _ => ?_⟩
      refine ⟨true, X 9 hn hn, (fun _ a na => ?_), fun q => Bool.noConfusion q⟩
      exact ⟨_, rfl, rfl, rfl, d, _, _, rfl, e, rfl, _, rfl, rfl, rfl, d, _, _, rfl, e, rfl, (by show 2 ≤ sizeLine; decide), fun m nm => ⟨(by show 2 ≤ sizeLine; decide), fun l nl => fin m l nm nl⟩⟩
    | 10, hn, e, fin, X =>
      refine ⟨false, X 16 hn (by decide), (fun q => Bool.noConfusion q), fun _ => ?_⟩
      refine ⟨false, X 15 hn (by decide), (fun q => Bool.noConfusion q), fun _ => ?_⟩
      refine ⟨false, X 14 hn (by decide), (fun q => Bool.noConfusion q), fun _ => ?_⟩
      refine ⟨false, X 13 hn (by decide), (fun q => Bool.noConfusion q), fun _ => ?_⟩
      refine ⟨false, X 12 hn (by decide), (fun q => Bool.noConfusion q), fun _ => ?_⟩
      refine ⟨false, X 11 hn (by decide), (fun q => Bool.noConfusion q), fun _ => ?_⟩
      refine ⟨true, X 10 hn hn, (fun _ a na => ?_), fun q => Bool.noConfusion q⟩
      exact ⟨_, rfl, rfl, rfl, d, _, _, rfl, e, rfl, _, rfl, rfl, rfl, d, _, _, rfl, e, rfl, (by show 2 ≤ sizeLine; decide), fun m nm => ⟨(by show 2 ≤ sizeLine; decide), fun l nl => fin m l nm nl⟩⟩
    | 11, hn, e, fin, X =>
      refine ⟨false, X 16 hn (by decide), (fun q => Bool.noConfusion q), fun _ => ?_⟩
      refine ⟨false, X 15 hn (by decide), (fun q => Bool.noConfusion q), fun _ => ?_⟩
      refine ⟨false, X 14 hn (by decide), (fun q => Bool.noConfusion q), fun _ => ?_⟩
      refine ⟨false, X 13 hn (by decide), (fun q => Bool.noConfusion q), fun _ => ?_⟩
      refine ⟨false, X 12 hn (by decide), (fun q => Bool.noConfusion q), fun _ => ?_⟩
      refine ⟨true, X 11 hn hn, (fun _ a na => ?_), fun q => Bool.noConfusion q⟩
      exact ⟨_, rfl, rfl, rfl, d, _, _, rfl, e, rfl, _, rfl, rfl, rfl, d, _, _, rfl, e, rfl, (by show 2 ≤ sizeLine; decide), fun m nm => ⟨(by show 2 ≤ sizeLine; decide), fun l nl => fin m l nm nl⟩⟩
    | 12, hn, e, fin, X =>
      refine ⟨false, X 16 hn (by decide), (fun q => Bool.noConfusion q), fun _ => ?_⟩
      refine ⟨false, X 15 hn (by decide), (fun q => Bool.noConfusion q), fun _ => ?_⟩
      refine ⟨false, X 14 hn (by decide), (fun q => Bool.noConfusion q), fun _ => ?_⟩
      refine ⟨false, X 13 hn (by decide), (fun q => Bool.noConfusion q), fun _ => ?_⟩
      refine ⟨true, X 12 hn hn, (fun _ a na => ?_), fun q => Bool.noConfusion q⟩
      exact ⟨_, rfl, rfl, rfl, d, _, _, rfl, e, rfl, (by show 1 ≤ sizeLine; decide), fun m nm => ⟨(by show 2 ≤ sizeLine; decide), fun l nl => fin m l nm nl⟩⟩
    | 13, hn, e, fin, X =>
      refine ⟨false, X 16 hn (by decide), (fun q => Bool.noConfusion q), fun _ => ?_⟩
      refine ⟨false, X 15 hn (by decide), (fun q => Bool.noConfusion q), fun _ => ?_⟩
      refine ⟨false, X 14 hn (by decide), (fun q => Bool.noConfusion q), fun _ => ?_⟩
      refine ⟨true, X 13 hn hn, (fun _ a na => ?_), fun q => Bool.noConfusion q⟩
      exact ⟨_, rfl, rfl, rfl, d, _, _, rfl, e, rfl, (by show 1 ≤ sizeLine; decide), fun m nm => ⟨(by show 2 ≤ sizeLine; decide), fun l nl => fin m l nm nl⟩⟩
    | 14, hn, e, fin, X =>
      refine ⟨false, X 16 hn (by decide), (fun q => Bool.noConfusion q), fun _ => ?_⟩
      refine ⟨false, X 15 hn (by decide), (fun q => Bool.noConfusion q), fun _ => ?_⟩
      refine ⟨true, X 14 hn hn, (fun _ a na => ?_), fun q => Bool.noConfusion q⟩
      exact ⟨_, rfl, rfl, rfl, d, _, _, rfl, e, rfl, _, rfl, rfl, rfl, d, _, _, rfl, e, rfl, (by show 2 ≤ sizeLine; decide), fun m nm => ⟨(by show 2 ≤ sizeLine; decide), fun l nl => fin m l nm nl⟩⟩
    | 15, hn, e, fin, X =>
      refine ⟨false, X 16 hn (by decide), (fun q => Bool.noConfusion q), fun _ => ?_⟩
      refine ⟨true, X 15 hn hn, (fun _ a na => ?_), fun q => Bool.noConfusion q⟩
      exact ⟨_, rfl, rfl, rfl, d, _, _, rfl, e, rfl, (by show 1 ≤ sizeLine; decide), fun m nm => ⟨(by show 2 ≤ sizeLine; decide), fun l nl => fin m l nm nl⟩⟩
    | 16, hn, e, fin, X =>
      refine ⟨true, X 16 hn hn, (fun _ a na => ?_), fun q => Bool.noConfusion q⟩
      exact ⟨_, rfl, rfl, rfl, d, _, _, rfl, e, rfl, (by show 1 ≤ sizeLine; decide), fun m nm => ⟨(by show 2 ≤ sizeLine; decide), fun l nl => fin m l nm nl⟩⟩
    | n + 17, hn, _, _, _ => exact absurd hn (by omega)
theorem ok_beneath (D : Df K mg "_law_beneath" s_beneath ["number", "one", "two"]) (T : Te K mg) (B : Tb mg) (G_raise : Cal P w K mg base (L2.CX P w) 3 "_law_raise" ["number", "one", "two"] (spRaise K)) : Cal P w K mg base CX0 4 "_law_beneath" ["number", "one", "two"] spBeneath := by
  refine D.cal0 sc_beneath (fun vs H Q E h => ?_) (fun cdv f A outer s H vs Q E hr h => ⟨_,
    (pss_cons (ps_try_manyA rfl rfl sc_beneath.nd takes0 (fun W pn xe tk _ => (pss_one (ps_expr (pe_calS G_raise (hr.mono (by decide)) tk (pa_cons (pv 0) (pa_cons (pv 1) (pa_cons (pv 2) pa_nil)))))))
        (HdA.cons (i := 3) ⟨rfl, by decide, .inl T.gD⟩ rfl rfl (fun a oe cls d pn hz hf => (pss_one (ps_ret (pe_callB (call_isS hz hf) rfl B.n_isinstance (by decide +kernel) (pa_cons (pv 3) (pa_cons (pe_bltn (v := .ty "ValueError") (u := .type "ValueError") rfl B.n_ValueError (by decide +kernel) rfl) pa_nil))))))
        HdA.nil))
      (pss_one (ps_ret pe_bl))), ?_⟩)
  · obtain ⟨n, one, two, rfl, _⟩ := h
    rfl
  · obtain ⟨n, one, two, rfl, hn, k⟩ := h
    refine ⟨_, rfl, _, rfl, _, rfl, n, one, two, rfl, hn, fun d H' nd s0 e => ?_⟩
    refine ⟨true, T.exd n hn, (fun _ a na => ?_), fun q => Bool.noConfusion q⟩
    exact ⟨_, rfl, C K n, _, _, true, rfl, rfl, ⟨d, _, rfl, e⟩, (T.c n hn).k, .ty _, T.kitV n hn, k H' s0⟩
theorem ok_kinds (D : Df K mg "_law_kinds" s_kinds ["error"]) (T : Te K mg) (B : Tb mg) : Cal P w K mg base CX0 1 "_law_kinds" ["error"] (spKinds K) := by
  refine D.cal0 sc_kinds (fun vs H Q E h => ?_) (fun cdv f A outer s H vs Q E hr h => ⟨_,
    (pss_cons (ps_set (i := 1) sc_kinds.nd rfl (Or.inl rfl) (pe_lst (pa_cons (pe_callB call_isE2 (by rfl) B.n_isinstance (by decide +kernel) (pa_cons (pv 0) (pa_cons (pe_glob (v := .ref (C K 0)) rfl (T.g 0 (by decide)) rfl) pa_nil))) (pa_cons (pe_callB call_isE2 (by rfl) B.n_isinstance (by decide +kernel) (pa_cons (pv 0) (pa_cons (pe_glob (v := .ref (C K 1)) rfl (T.g 1 (by decide)) rfl) pa_nil))) (pa_cons (pe_callB call_isE2 (by rfl) B.n_isinstance (by decide +kernel) (pa_cons (pv 0) (pa_cons (pe_glob (v := .ref (C K 2)) rfl (T.g 2 (by decide)) rfl) pa_nil))) (pa_cons (pe_callB call_isE2 (by rfl) B.n_isinstance (by decide +kernel) (pa_cons (pv 0) (pa_cons (pe_glob (v := .ref (C K 3)) rfl (T.g 3 (by decide)) rfl) pa_nil))) (pa_cons (pe_callB call_isE2 (by rfl) B.n_isinstance (by decide +kernel) (pa_cons (pv 0) (pa_cons (pe_glob (v := .ref (C K 4)) rfl (T.g 4 (by decide)) rfl) pa_nil))) (pa_cons (pe_callB call_isE2 (by rfl) B.n_isinstance (by decide +kernel) (pa_cons (pv 0) (pa_cons (pe_glob (v := .ref (C K 5)) rfl (T.g 5 (by decide)) rfl) pa_nil))) pa_nil))))))))
      (pss_cons (ps_expr (pe_bm PySem.F.plainAttrs_list PySem.F.slot_list_extend PySem.F.type_list_extend mt_extend (pv 1) (pa_cons (pe_lst (pa_cons (pe_callB call_isE2 (by rfl) B.n_isinstance (by decide +kernel) (pa_cons (pv 0) (pa_cons (pe_glob (v := .ref (C K 6)) rfl (T.g 6 (by decide)) rfl) pa_nil))) (pa_cons (pe_callB call_isE2 (by rfl) B.n_isinstance (by decide +kernel) (pa_cons (pv 0) (pa_cons (pe_glob (v := .ref (C K 7)) rfl (T.g 7 (by decide)) rfl) pa_nil))) (pa_cons (pe_callB call_isE2 (by rfl) B.n_isinstance (by decide +kernel) (pa_cons (pv 0) (pa_cons (pe_glob (v := .ref (C K 8)) rfl (T.g 8 (by decide)) rfl) pa_nil))) (pa_cons (pe_callB call_isE2 (by rfl) B.n_isinstance (by decide +kernel) (pa_cons (pv 0) (pa_cons (pe_glob (v := .ref (C K 9)) rfl (T.g 9 (by decide)) rfl) pa_nil))) (pa_cons (pe_callB call_isE2 (by rfl) B.n_isinstance (by decide +kernel) (pa_cons (pv 0) (pa_cons (pe_glob (v := .ref (C K 10)) rfl (T.g 10 (by decide)) rfl) pa_nil))) (pa_cons (pe_callB call_isE2 (by rfl) B.n_isinstance (by decide +kernel) (pa_cons (pv 0) (pa_cons (pe_glob (v := .ref (C K 11)) rfl (T.g 11 (by decide)) rfl) pa_nil))) pa_nil))))))) pa_nil)))
      (pss_cons (ps_expr (pe_bm PySem.F.plainAttrs_list PySem.F.slot_list_extend PySem.F.type_list_extend mt_extend (pv 1) (pa_cons (pe_lst (pa_cons (pe_callB call_isE2 (by rfl) B.n_isinstance (by decide +kernel) (pa_cons (pv 0) (pa_cons (pe_glob (v := .ref (C K 12)) rfl (T.g 12 (by decide)) rfl) pa_nil))) (pa_cons (pe_callB call_isE2 (by rfl) B.n_isinstance (by decide +kernel) (pa_cons (pv 0) (pa_cons (pe_glob (v := .ref (C K 13)) rfl (T.g 13 (by decide)) rfl) pa_nil))) (pa_cons (pe_callB call_isE2 (by rfl) B.n_isinstance (by decide +kernel) (pa_cons (pv 0) (pa_cons (pe_glob (v := .ref (C K 14)) rfl (T.g 14 (by decide)) rfl) pa_nil))) (pa_cons (pe_callB call_isE2 (by rfl) B.n_isinstance (by decide +kernel) (pa_cons (pv 0) (pa_cons (pe_glob (v := .ref (C K 15)) rfl (T.g 15 (by decide)) rfl) pa_nil))) (pa_cons (pe_callB call_isE2 (by rfl) B.n_isinstance (by decide +kernel) (pa_cons (pv 0) (pa_cons (pe_glob (v := .ref (C K 16)) rfl (T.g 16 (by decide)) rfl) pa_nil))) pa_nil)))))) pa_nil)))
      (pss_one (ps_ret (pv 1)))))), ?_⟩)
  · obtain ⟨a, n, us, rfl, _⟩ := h
    rfl
  · obtain ⟨a, n, us, rfl, hn, ⟨d, ea, ed⟩, k⟩ := h
    have kc := (T.c n hn).k
    refine ⟨_, rfl, a, _, _, _, _, rfl, .inl ⟨d, _, ea, ed⟩, kc, .own _, T.kit n 0 hn (by decide), _, rfl, a, _, _, _, _, rfl, .inl ⟨d, _, ea, ed⟩, kc, .own _, T.kit n 1 hn (by decide), _, rfl, a, _, _, _, _, rfl, .inl ⟨d, _, ea, ed⟩, kc, .own _, T.kit n 2 hn (by decide), _, rfl, a, _, _, _, _, rfl, .inl ⟨d, _, ea, ed⟩, kc, .own _, T.kit n 3 hn (by decide), _, rfl, a, _, _, _, _, rfl, .inl ⟨d, _, ea, ed⟩, kc, .own _, T.kit n 4 hn (by decide), _, rfl, a, _, _, _, _, rfl, .inl ⟨d, _, ea, ed⟩, kc, .own _, T.kit n 5 hn (by decide), (by show 6 ≤ sizeLine; decide), fun p1 n1 => ?_⟩
    have s1 : ∀ o, Same H (upd H p1 o) := fun o => same_upd n1
    refine ⟨_, rfl, .inl ⟨rfl, _, SqL.of upd_same⟩, _, rfl, a, _, _, _, _, rfl, .inl ⟨d, _, (s1 _ _ _ ea), (s1 _ _ _ ed)⟩, kc, .own _, T.kit n 6 hn (by decide), _, rfl, a, _, _, _, _, rfl, .inl ⟨d, _, (s1 _ _ _ ea), (s1 _ _ _ ed)⟩, kc, .own _, T.kit n 7 hn (by decide), _, rfl, a, _, _, _, _, rfl, .inl ⟨d, _, (s1 _ _ _ ea), (s1 _ _ _ ed)⟩, kc, .own _, T.kit n 8 hn (by decide), _, rfl, a, _, _, _, _, rfl, .inl ⟨d, _, (s1 _ _ _ ea), (s1 _ _ _ ed)⟩, kc, .own _, T.kit n 9 hn (by decide), _, rfl, a, _, _, _, _, rfl, .inl ⟨d, _, (s1 _ _ _ ea), (s1 _ _ _ ed)⟩, kc, .own _, T.kit n 10 hn (by decide), _, rfl, a, _, _, _, _, rfl, .inl ⟨d, _, (s1 _ _ _ ea), (s1 _ _ _ ed)⟩, kc, .own _, T.kit n 11 hn (by decide), (by show 6 ≤ sizeLine; decide), fun p2 n2 => ?_⟩
    have ne12 : p1 ≠ p2 := ne_of_none upd_same n2
    refine ⟨p1, p2, _, _, rfl, rfl, (by rw [upd_ne ne12]; exact upd_same), upd_same, (by show 12 ≤ sizeLine; decide), ?_⟩
    have s2 : ∀ o2 o1, Same H (upd (upd (upd H p1 (.lst [.bl (decide (n = 0)), .bl (decide (n = 1)), .bl (decide (n = 2)), .bl (decide (n = 3)), .bl (decide (n = 4)), .bl (decide (n = 5))])) p2 o2) p1 o1) := fun o2 o1 b o e => by
      rw [upd_ne (ne_of_none e n1)]
      exact same_upd n2 _ _ (s1 _ _ _ e)
    refine ⟨_, rfl, .inl ⟨rfl, _, SqL.of upd_same⟩, _, rfl, a, _, _, _, _, rfl, .inl ⟨d, _, (s2 _ _ _ _ ea), (s2 _ _ _ _ ed)⟩, kc, .own _, T.kit n 12 hn (by decide), _, rfl, a, _, _, _, _, rfl, .inl ⟨d, _, (s2 _ _ _ _ ea), (s2 _ _ _ _ ed)⟩, kc, .own _, T.kit n 13 hn (by decide), _, rfl, a, _, _, _, _, rfl, .inl ⟨d, _, (s2 _ _ _ _ ea), (s2 _ _ _ _ ed)⟩, kc, .own _, T.kit n 14 hn (by decide), _, rfl, a, _, _, _, _, rfl, .inl ⟨d, _, (s2 _ _ _ _ ea), (s2 _ _ _ _ ed)⟩, kc, .own _, T.kit n 15 hn (by decide), _, rfl, a, _, _, _, _, rfl, .inl ⟨d, _, (s2 _ _ _ _ ea), (s2 _ _ _ _ ed)⟩, kc, .own _, T.kit n 16 hn (by decide), (by show 5 ≤ sizeLine; decide), fun p3 n3 => ?_⟩
    have ne13 : p1 ≠ p3 := ne_of_none upd_same n3
    refine ⟨p1, p3, _, _, rfl, rfl, (by rw [upd_ne ne13]; exact upd_same), upd_same, (by show 17 ≤ sizeLine; decide), ?_⟩
    refine ⟨_, rfl, k p1 _ n1 (fun b o e => ?_) ?_⟩
    · rw [upd_ne (ne_of_none e n1)]
      exact same_upd n3 _ _ (s2 _ _ _ _ e)
    · rw [upd_same]
      rfl
end
end K99

set_option Elab.async false
set_option linter.all false
set_option maxRecDepth 100000
set_option maxHeartbeats 4000000
/-! whole, very, law -/
namespace K99
open PySem PySem.Spec PyProof.Rows L2
theorem Er.same {K : PySem.W.Frag} {H H' : Hp} {a : Addr} {n : Nat} {us : List V} (h : Er K H a n us) (s : Same H H') : Er K H' a n us := by
  obtain ⟨d, h1, h2⟩ := h
  exact ⟨d, s _ _ h1, s _ _ h2⟩
theorem ar_mem {n : Nat} {one two u : V} (h : u ∈ ar n one two) : u = one ∨ u = two := by
  have := List.mem_of_mem_take h
  simpa using this
theorem ar_le (n : Nat) (one two : V) : (ar n one two).length ≤ 2 := List.length_take_le' _ _
theorem ar_eqv {H : Hp} {a b : Addr} {n : Nat} {one two : V} (ea : H a = some (.lst (ar n one two))) (eb : H b = some (.lst (ar n one two))) (h1 : Eqv H 3 one one) (h2 : Eqv H 3 two two) : Eqv H 4 (.ref a) (.ref b) :=
  .inr ⟨a, b, _, _, rfl, rfl, .inl ⟨ea, eb⟩, rfl, Nat.le_trans (ar_le n one two) (by decide), fun i u v hu hv => by
    rw [hu] at hv
    cases hv
    rcases ar_mem (List.mem_of_getElem? hu) with rfl | rfl
    · exact h1
    · exact h2⟩
theorem fl_two : ∀ n : Fin 17, inV (.int ((n.val : Nat) : Int)) [.int 2, .int 3, .int 4, .int 6, .int 7, .int 9, .int 10, .int 11, .int 14] = decide ((fl n.val).length = 2) := by decide +kernel
theorem fl_len : ∀ n : Fin 17, (fl n.val).length = 2 ∨ (fl n.val).length = 1 := by decide +kernel
theorem ar_len {n : Nat} {one two : V} (hn : n < 17) : (ar n one two).length = (fl n).length := by
  show ([one, two].take (fl n).length).length = _
  rcases fl_len ⟨n, hn⟩ with h | h
  · have h' : (fl n).length = 2 := h
    rw [h']
    rfl
  · have h' : (fl n).length = 1 := h
    rw [h']
    rfl
theorem ar_cut {n : Nat} {one two : V} (hn : n < 17) : cutV [one, two] none (some ((fl n).length : Int)) = ar n one two := by
  show _ = [one, two].take (fl n).length
  rcases fl_len ⟨n, hn⟩ with h | h
  · have h' : (fl n).length = 2 := h
    rw [h']
    rfl
  · have h' : (fl n).length = 1 := h
    rw [h']
    rfl
theorem fl_z {n : Nat} {z : V} (hn : n < 17) (h1 : inV (.int (n : Int)) [.int 2, .int 3, .int 4, .int 6, .int 7, .int 9, .int 10, .int 11, .int 14] = true → z = .int 2) (h2 : inV (.int (n : Int)) [.int 2, .int 3, .int 4, .int 6, .int 7, .int 9, .int 10, .int 11, .int 14] = false → z = .int 1) : z = .int ((fl n).length : Int) := by
  have e : inV (.int (n : Int)) [.int 2, .int 3, .int 4, .int 6, .int 7, .int 9, .int 10, .int 11, .int 14] = decide ((fl n).length = 2) := fl_two ⟨n, hn⟩
  rcases fl_len ⟨n, hn⟩ with h | h
  · have h' : (fl n).length = 2 := h
    rw [h']
    exact h1 (by rw [e, h']; rfl)
  · have h' : (fl n).length = 1 := h
    rw [h']
    exact h2 (by rw [e, h']; rfl)
theorem _root_.L2.Same.put {H H' : Hp} {a : Addr} {o : HO} (s : Same H H') (n : H a = none) : Same H (upd H' a o) := fun b u e => by
  rw [upd_ne (ne_of_none e n)]
  exact s b u e
theorem ar_eqv2 {H : Hp} {a b : Addr} {n : Nat} {x y x' y' : V} (ea : H a = some (.lst (ar n x y))) (eb : H b = some (.lst (ar n x' y'))) (h1 : Eqv H 2 x x') (h2 : Eqv H 2 y y') : Eqv H 3 (.ref a) (.ref b) := by
  refine .inr ⟨a, b, _, _, rfl, rfl, .inl ⟨ea, eb⟩, ?_, Nat.le_trans (ar_le n x y) (by decide), fun i u v hu hv => ?_⟩
  · simp
  · rw [List.getElem?_take] at hu hv
    split at hu
    · match i, hu, hv with
      | 0, hu, hv =>
        rw [if_pos (by assumption)] at hv
        cases hu
        cases hv
        exact h1
      | 1, hu, hv =>
        rw [if_pos (by assumption)] at hv
        cases hu
        cases hv
        exact h2
      | i + 2, hu, hv => cases hu
    · cases hu
theorem ar_head {n : Nat} {x y : V} (hn : n < 17) : atI (ar n x y) 0 = some x := by
  refine at_int (Int.le_refl 0) ?_
  show ([x, y].take (fl n).length)[0]? = some x
  rcases fl_len ⟨n, hn⟩ with h | h
  · have h' : (fl n).length = 2 := h
    rw [h']
    rfl
  · have h' : (fl n).length = 1 := h
    rw [h']
    rfl
theorem flats_eqv {H : Hp} {a b : Addr} {m : Nat} {xs : List V} (ea : H a = some (.lst xs)) (eb : H b = some (.lst xs)) (hl : xs.length ≤ 3) (hf : xs.all flatV = true) : Eqv H (m + 1) (.ref a) (.ref b) :=
  .inr ⟨a, b, xs, xs, rfl, rfl, .inl ⟨ea, eb⟩, rfl, hl, fun i u v hu hv => by
    rw [hu] at hv
    cases hv
    have fu : flatV u = true := List.all_eq_true.mp hf u (List.mem_of_getElem? hu)
    cases m with
    | zero => exact ⟨rfl, fu⟩
    | succ m => exact .inl ⟨rfl, fu⟩⟩
abbrev s_whole : Stmt := top 32
theorem sc_whole : FnScope ["number", "one", "two", "way", "due", "error", "kinds", "told", "at"] ["number", "one", "two", "way"] (defScope s_whole) := ⟨rfl, rfl, rfl, by decide +kernel, rfl, by decide +kernel, by decide +kernel⟩
abbrev s_very : Stmt := top 33
theorem sc_very : FnScope ["number", "way", "first", "second", "error", "told"] ["number", "way"] (defScope s_very) := ⟨rfl, rfl, rfl, by decide +kernel, rfl, by decide +kernel, by decide +kernel⟩
abbrev s_law : Stmt := top 34
theorem sc_law : FnScope ["script", "pool", "numbers", "lap", "number", "one", "two", "kept", "way", "due", "thing"] ["script"] (defScope s_law) := ⟨rfl, rfl, rfl, by decide +kernel, rfl, by decide +kernel, by decide +kernel⟩

def spWhole : Sp := fun vs H Q _ => ∃ (n : Nat) (one two : V) (way : Int), vs = [.int n, one, two, .int way] ∧ n < 17 ∧ Eqv H 3 one one ∧ Eqv H 3 two two ∧ ∀ H', Same H H' → Q (.bl true) H'
def spVery : Sp := fun vs H Q _ => ∃ (n : Nat) (way : Int), vs = [.int n, .int way] ∧ n < 17 ∧ ∀ H', Same H H' → Q (.bl true) H'
section
variable {P : Program} {w : World} {K : PySem.W.Frag} {mg : Str → Option Value} {base : Heap}
theorem ok_whole (D : Df K mg "_law_whole" s_whole ["number", "one", "two", "way"]) (T : Te K mg) (B : Tb mg)
    (G_made : Cal P w K mg base CX0 3 "_law_made" ["number", "one", "two", "way"] (spMade K)) (G_kinds : Cal P w K mg base CX0 1 "_law_kinds" ["error"] (spKinds K)) (G_same : Cal P w K mg base CX0 1 "_law_same" ["told", "due"] spSame)
    (G_fields : Cal P w K mg base CX0 1 "_law_fields" ["number", "error"] (spFields K)) (G_caught : Cal P w K mg base CX0 4 "_law_caught" ["number", "one", "two"] (spCaught K)) (G_turned : Cal P w K mg base CX0 4 "_law_turned" ["number", "one", "two"] (spCaught K))
    (G_beneath : Cal P w K mg base CX0 4 "_law_beneath" ["number", "one", "two"] spBeneath) : Cal P w K mg base CX0 5 "_law_whole" ["number", "one", "two", "way"] spWhole := by
  refine D.cal0 sc_whole (fun vs H Q E h => ?_) (fun cdv f A outer s H vs Q E hr h => ⟨_,
    (pss_cons (ps_set (i := 4) sc_whole.nd rfl (Or.inl rfl) (pe_slice sl_list (pe_lst (pa_cons (pv 1) (pa_cons (pv 2) pa_nil))) po_none (po_some (pe_ifExp (pt_cmpR op_in_seq (pv 0) (pe_tup (pa_cons pe_int (pa_cons pe_int (pa_cons pe_int (pa_cons pe_int (pa_cons pe_int (pa_cons pe_int (pa_cons pe_int (pa_cons pe_int (pa_cons pe_int pa_nil)))))))))) rfl) pe_int pe_int))))
      (pss_cons (ps_set (i := 5) sc_whole.nd rfl (Or.inl rfl) (pe_cal0 G_made (hr.mono (by decide)) (pa_cons (pv 0) (pa_cons (pv 1) (pa_cons (pv 2) (pa_cons (pv 3) pa_nil))))))
      (pss_cons (ps_set (i := 6) sc_whole.nd rfl (Or.inr rfl) (pe_cal0 G_kinds (hr.mono (by decide)) (pa_cons (pv 5) pa_nil)))
      (pss_cons (ps_if (PW.pt (pw_or (pt_not (pt_val (pe_cal0 G_same (hr.mono (by decide)) (pa_cons (pe_cal0 G_fields (hr.mono (by decide)) (pa_cons (pv 0) (pa_cons (pv 5) pa_nil))) (pa_cons (pv 4) pa_nil))))) (pw_or (pt_not (pt_val (pe_callB call_isE2 (by rfl) B.n_isinstance (by decide +kernel) (pa_cons (pv 5) (pa_cons (pe_glob (v := .ref (Dr K)) rfl T.gD rfl) pa_nil))))) (pw_or1 (pt_not (pt_val (pe_callB call_isE2 (by rfl) B.n_isinstance (by decide +kernel) (pa_cons (pv 5) (pa_cons (pe_bltn (v := .ty "ValueError") (u := .type "ValueError") rfl B.n_ValueError (by decide +kernel) rfl) pa_nil))))))))) (pss_one (ps_ret pe_bl)) pss_nil)
      (pss_cons (ps_if (pt_cmpR op_gt (pe_callB call_len (by rfl) B.n_len (by decide +kernel) (pa_cons (pe_lc (own := [("at", 8)]) rfl sc_whole.nd (pi_range1 rfl B.n_range (pa_cons pe_int pa_nil)) (blkOk_by (N := ["number", "one", "two", "way", "due", "error", "kinds", "told", "at"]) (sc := defScope s_whole) (by decide +kernel)) (fun _ _ _ _ _ => pg_name (i := 8) sc_whole.nd rfl (Or.inl rfl)) (fun _ _ _ _ _ => (pts_one (pt_cmpR op_ne (pe_ix (r := rIxL K) ix_list (pv 6) (pv 8) (fun _ _ => rfl)) (pe_cmpR op_eq (pv 8) (pv 0) (nomark _)) (nomark _)))) (fun _ _ _ _ _ => (pv 8))) pa_nil)) pe_int (nomark _)) (pss_one (ps_ret pe_bl)) pss_nil)
      (pss_cons (ps_if (PW.pt (pw_or (pt_val (pe_callB call_isE2 (by rfl) B.n_isinstance (by decide +kernel) (pa_cons (pv 5) (pa_cons (pe_bltn (v := .ty "LookupError") (u := .type "LookupError") rfl B.n_LookupError (by decide +kernel) rfl) pa_nil)))) (pw_or (pt_val (pe_callB call_isE2 (by rfl) B.n_isinstance (by decide +kernel) (pa_cons (pv 5) (pa_cons (pe_bltn (v := .ty "ArithmeticError") (u := .type "ArithmeticError") rfl B.n_ArithmeticError (by decide +kernel) rfl) pa_nil)))) (pw_or (pt_val (pe_callB call_isE2 (by rfl) B.n_isinstance (by decide +kernel) (pa_cons (pv 5) (pa_cons (pe_bltn (v := .ty "TypeError") (u := .type "TypeError") rfl B.n_TypeError (by decide +kernel) rfl) pa_nil)))) (pw_or (pt_val (pe_callB call_isE2 (by rfl) B.n_isinstance (by decide +kernel) (pa_cons (pv 5) (pa_cons (pe_bltn (v := .ty "RuntimeError") (u := .type "RuntimeError") rfl B.n_RuntimeError (by decide +kernel) rfl) pa_nil)))) (pw_or1 (pt_val (pe_callB call_isE2 (by rfl) B.n_isinstance (by decide +kernel) (pa_cons (pv 5) (pa_cons (pe_bltn (v := .ty "AttributeError") (u := .type "AttributeError") rfl B.n_AttributeError (by decide +kernel) rfl) pa_nil)))))))))) (pss_one (ps_ret pe_bl)) pss_nil)
      (pss_cons (ps_for PassesOwn.never rfl (pi_list (pe_lst (pa_cons (pe_cal0 G_caught (hr.mono (by decide)) (pa_cons (pv 0) (pa_cons (pv 1) (pa_cons (pv 2) pa_nil)))) (pa_cons (pe_cal0 G_turned (hr.mono (by decide)) (pa_cons (pv 0) (pa_cons (pv 1) (pa_cons (pv 2) pa_nil)))) pa_nil)))) (pg_name (i := 7) sc_whole.nd rfl (Or.inl rfl)) (pss_one (ps_if (PW.pt (pw_or (pt_cmpR op_ne (pe_ix ix_list (pv 7) pe_int (fun _ _ => rfl)) (pv 0) (nomark _)) (pw_or1 (pt_not (pt_val (pe_cal0 G_same (hr.mono (by decide)) (pa_cons (pe_ix ix_list (pv 7) pe_int (fun _ _ => rfl)) (pa_cons (pv 4) pa_nil)))))))) (pss_one (ps_ret pe_bl)) pss_nil)))
      (pss_one (ps_ret (pe_cal0 G_beneath (hr.mono (by decide)) (pa_cons (pv 0) (pa_cons (pv 1) (pa_cons (pv 2) pa_nil))))))))))))), ?_⟩)
  · obtain ⟨n, one, two, way, rfl, _⟩ := h
    rfl
  · obtain ⟨n, one, two, way, rfl, hn, h1, h2, k⟩ := h
    refine ⟨_, rfl, _, rfl, (by show 2 ≤ sizeLine; decide), fun p0 n0 => ?_⟩
    refine ⟨_, rfl, (by show 9 ≤ sizeLine; decide), fun p1 n1 => ⟨p1, _, rfl, .inr (SqT.of upd_same), rfl, rfl, _, rfl, if_c fun z hz1 hz2 => ?_⟩⟩
    obtain rfl := fl_z hn hz1 hz2
    have ne01 : p0 ≠ p1 := ne_of_none upd_same n1
    have e0 : ∀ o, upd (upd H p0 (.lst [one, two])) p1 o p0 = some (.lst [one, two]) := fun o => by rw [upd_ne ne01]; exact upd_same
    have s1 : ∀ o, Same H (upd (upd H p0 (.lst [one, two])) p1 o) := fun o => (same_upd n0).new n1
    refine ⟨_, rfl, p0, _, rfl, SqL.of (e0 _), fun pd nd => ?_⟩
    rw [ar_cut hn]
    have s2 := (s1 (.tup [.int 2, .int 3, .int 4, .int 6, .int 7, .int 9, .int 10, .int 11, .int 14])).new (o := .lst (ar n one two)) nd
    -- error
    refine ⟨_, rfl, _, rfl, _, rfl, _, rfl, n, one, two, way, rfl, hn, fun e H3 ne s3 hE => ?_⟩
    have d3 := s3 _ _ (upd_same (H := upd (upd H p0 (.lst [one, two])) p1 (.tup [.int 2, .int 3, .int 4, .int 6, .int 7, .int 9, .int 10, .int 11, .int 14])) (a := pd) (o := .lst (ar n one two)))
    have S3 := s2.trans s3
    -- kinds
    refine ⟨_, rfl, e, n, _, rfl, hn, hE, fun l H4 nl s4 hl => ?_⟩
    have S4 := S3.trans s4
    -- the fields
    refine ⟨_, rfl, _, rfl, n, e, _, rfl, hn, ar_len hn, hE.same s4, fun f nf => ?_⟩
    have S5 := S4.new (o := .lst (ar n one two)) nf
    refine ⟨_, rfl, _, _, 4, rfl, by decide, ar_eqv upd_same (same_upd nf _ _ (s4 _ _ d3)) (h1.same S5) (h2.same S5), fun H6 s6 => ?_⟩
    have S6 := S5.trans s6
    have kc := (T.c n hn).k
    obtain ⟨dd, ea, ed⟩ := hE.same (s4.trans ((same_upd nf).trans s6))
    refine ⟨_, rfl, _, rfl, e, _, _, _, _, rfl, .inl ⟨dd, _, ea, ed⟩, kc, .own _, T.kitD n hn, _, rfl, ?_⟩
    refine ⟨_, rfl, e, _, _, _, _, rfl, .inl ⟨dd, _, ea, ed⟩, kc, .ty _, T.kitV n hn, _, rfl, ?_⟩
    -- the classes
    refine ⟨17, rfl, by decide, by decide, fun dc nc => ?_⟩
    have l6 := (same_upd nf).trans s6 _ _ hl
    have nelc : l ≠ dc := ne_of_none l6 nc
    refine lc_range (lo := 0) (n := 17) (fun i H' => H' dc = some (.lst []) ∧ Same (upd H6 dc (.lst [])) H') ⟨upd_same, Same.refl _⟩ ?_ ?_
    · rintro i H' hi ⟨x1, x2⟩
      refine ⟨rfl, ?_⟩
      have hat : atI (kinds n) (0 + (i : Int)) = some (.bl (decide (n = i))) := at_int (by omega) (by unfold kinds; rw [show (0 + (i : Int)).toNat = i by omega, List.getElem?_map, List.getElem?_range hi]; rfl)
      refine ⟨_, rfl, _, rfl, l, _, _, _, rfl, rfl, SqL.of (x2 _ _ (same_upd nc _ _ l6)), hat, ?_⟩
      refine ⟨_, rfl, _, rfl, rfl, rfl, _, rfl, if_f ?_ ⟨x1, x2⟩⟩
      have e1 : ((0 : Int) + (i : Int)) = (i : Int) := by omega
      rw [e1]
      by_cases hni : n = i
      · subst hni
        simp
      · have : ¬ ((i : Int) = (n : Int)) := fun z => hni (by omega)
        simp [hni, this]
    · rintro H7 ⟨x1, x2⟩
      refine ⟨_, _, rfl, .inl ⟨_, SqL.of x1, rfl⟩, _, _, rfl, rfl, _, rfl, ?_⟩
      have s7 : Same H6 H7 := (same_upd nc).trans x2
      have ea7 := s7 _ _ ea
      have ed7 := s7 _ _ ed
      have S7 := S6.trans s7
      have d7 := s7 _ _ (s6 _ _ (same_upd nf _ _ (s4 _ _ d3)))
      refine ⟨_, rfl, e, _, _, _, _, rfl, .inl ⟨dd, _, ea7, ed7⟩, kc, .ty _, T.kitN n hn _ (by decide), _, rfl, ?_⟩
      refine ⟨_, rfl, e, _, _, _, _, rfl, .inl ⟨dd, _, ea7, ed7⟩, kc, .ty _, T.kitN n hn _ (by decide), _, rfl, ?_⟩
      refine ⟨_, rfl, e, _, _, _, _, rfl, .inl ⟨dd, _, ea7, ed7⟩, kc, .ty _, T.kitN n hn _ (by decide), _, rfl, ?_⟩
      refine ⟨_, rfl, e, _, _, _, _, rfl, .inl ⟨dd, _, ea7, ed7⟩, kc, .ty _, T.kitN n hn _ (by decide), _, rfl, ?_⟩
      refine ⟨_, rfl, e, _, _, _, _, rfl, .inl ⟨dd, _, ea7, ed7⟩, kc, .ty _, T.kitN n hn _ (by decide), _, rfl, ?_⟩
      refine ⟨_, rfl, _, rfl, _, rfl, n, one, two, rfl, hn, fun l1 m1 H8 nl1 s8 el1 em1 => ?_⟩
      refine ⟨_, rfl, _, rfl, _, rfl, n, one, two, rfl, hn, fun l2 m2 H9 nl2 s9 el2 em2 => ?_⟩
      have S9 := (S7.trans s8).trans s9
      have d9 := s9 _ _ (s8 _ _ d7)
      refine ⟨(by show 2 ≤ sizeLine; decide), fun pf nf => ⟨pf, rfl, ⟨_, SqL.of upd_same⟩, ?_⟩⟩
      have sF : ∀ o, Same H9 (upd H9 pf o) := fun o => same_upd nf
      refine for_list (K := K) (a := pf) (xs := [.ref l1, .ref l2]) (fun i σ H' => ∃ g : Option V, σ = [some (.int n), some one, some two, some (.int way), some (.ref pd), some (.ref e), some (.ref l), g, none] ∧ Same (upd H9 pf (.lst [.ref l1, .ref l2])) H') ⟨_, rfl, Same.refl _⟩ (fun i σ H' _ ⟨g, _, x⟩ => SqL.of (x _ _ upd_same)) ?_ ?_
      · rintro i x σ H' hx ⟨g, rfl, y⟩
        have yy := (sF _).trans y
        obtain ⟨t, m, ht, hm, rfl⟩ : ∃ t m, H' t = some (.lst [.int n, .ref m]) ∧ H' m = some (.lst (ar n one two)) ∧ x = .ref t := by
          match i, hx with
          | 0, hx => exact ⟨l1, m1, yy _ _ (s9 _ _ el1), yy _ _ (s9 _ _ em1), (Option.some.inj hx).symm⟩
          | 1, hx => exact ⟨l2, m2, yy _ _ el2, yy _ _ em2, (Option.some.inj hx).symm⟩
        refine ⟨_, rfl, t, _, 0, _, rfl, rfl, SqL.of ht, rfl, _, rfl, rfl, _, rfl, if_f (by simp) ?_⟩
        refine ⟨_, rfl, t, _, 1, _, rfl, rfl, SqL.of ht, rfl, _, rfl, _, _, 4, rfl, by decide, ar_eqv hm (yy _ _ d9) (h1.same (S9.trans yy)) (h2.same (S9.trans yy)), fun H2 z => ?_⟩
        refine ⟨_, rfl, ?_⟩
        exact ⟨_, rfl, y.trans z⟩
      · rintro σ H' ⟨g, rfl, y⟩
        refine ⟨_, rfl, _, rfl, _, rfl, n, one, two, rfl, hn, fun H2 z => ?_⟩
        exact k _ ((S9.trans ((sF _).trans y)).trans z)
theorem ok_very (D : Df K mg "_law_very" s_very ["number", "way"]) (T : Te K mg) (B : Tb mg)
    (G_made : Cal P w K mg base CX0 3 "_law_made" ["number", "one", "two", "way"] (spMade K)) (G_same : Cal P w K mg base CX0 1 "_law_same" ["told", "due"] spSame)
    (G_fields : Cal P w K mg base CX0 1 "_law_fields" ["number", "error"] (spFields K)) : Cal P w K mg base CX0 4 "_law_very" ["number", "way"] spVery := by
  refine D.cal0 sc_very (fun vs H Q E h => ?_) (fun cdv f A outer s H vs Q E hr h => ⟨_,
    (pss_cons (ps_set (i := 2) sc_very.nd rfl (Or.inl rfl) (pe_lst (pa_cons (pv 0) pa_nil)))
      (pss_cons (ps_set (i := 3) sc_very.nd rfl (Or.inl rfl) (pe_lst (pa_cons (pe_tup (pa_cons (pv 1) pa_nil)) pa_nil)))
      (pss_cons (ps_set (i := 4) sc_very.nd rfl (Or.inl rfl) (pe_cal0 G_made (hr.mono (by decide)) (pa_cons (pv 0) (pa_cons (pv 2) (pa_cons (pv 3) (pa_cons (pv 1) pa_nil))))))
      (pss_cons (ps_expr (pe_bm PySem.F.plainAttrs_list PySem.F.slot_list_append PySem.F.type_list_append mt_append (pv 2) (pa_cons pe_str pa_nil)))
      (pss_cons (ps_expr (pe_bm PySem.F.plainAttrs_list PySem.F.slot_list_append PySem.F.type_list_append mt_append (pv 3) (pa_cons (pe_lst pa_nil) pa_nil)))
      (pss_cons (ps_set (i := 5) sc_very.nd rfl (Or.inl rfl) (pe_cal0 G_fields (hr.mono (by decide)) (pa_cons (pv 0) (pa_cons (pv 4) pa_nil))))
      (pss_cons (ps_if (pt_not (pt_val (pe_cal0 G_same (hr.mono (by decide)) (pa_cons (pv 5) (pa_cons (pe_slice sl_list (pe_lst (pa_cons (pe_lst (pa_cons (pv 0) (pa_cons pe_str pa_nil))) (pa_cons (pe_lst (pa_cons (pe_tup (pa_cons (pv 1) pa_nil)) (pa_cons (pe_lst pa_nil) pa_nil))) pa_nil))) po_none (po_some (pe_callB call_len (by rfl) B.n_len (by decide +kernel) (pa_cons (pv 5) pa_nil)))) pa_nil))))) (pss_one (ps_ret pe_bl)) pss_nil)
      (pss_cons (ps_expr (pe_bm PySem.F.plainAttrs_list PySem.F.slot_list_append PySem.F.type_list_append mt_append (pe_ix ix_list (pv 5) pe_int (fun _ _ => rfl)) (pa_cons pe_non pa_nil)))
      (pss_one (ps_ret (pe_and (pe_cal0 G_same (hr.mono (by decide)) (pa_cons (pv 2) (pa_cons (pe_lst (pa_cons (pv 0) (pa_cons pe_str (pa_cons pe_non pa_nil)))) pa_nil))) (pe_one (pe_cal0 G_same (hr.mono (by decide)) (pa_cons (pe_ix ix_list (pe_cal0 G_fields (hr.mono (by decide)) (pa_cons (pv 0) (pa_cons (pv 4) pa_nil))) pe_int (fun _ _ => rfl)) (pa_cons (pv 2) pa_nil))))))))))))))), ?_⟩)
  · obtain ⟨n, way, rfl, _⟩ := h
    rfl
  · obtain ⟨n, way, rfl, hn, k⟩ := h
    refine ⟨_, rfl, (by show 1 ≤ sizeLine; decide), fun pf nf => ?_⟩
    refine ⟨_, rfl, (by show 1 ≤ sizeLine; decide), fun pt nt => ⟨(by show 1 ≤ sizeLine; decide), fun ps ns => ?_⟩⟩
    have nft : pf ≠ pt := ne_of_none upd_same nt
    have nts : pt ≠ ps := ne_of_none upd_same ns
    have nfs : pf ≠ ps := ne_of_none (same_upd nt _ _ upd_same) ns
    have S3 := ((same_upd (o := .lst [.int n]) nf).new (o := .tup [.int way]) nt).new (o := .lst [.ref pt]) ns
    have npf : H pf = none := nf
    have nps : H ps = none := (same_upd nf).none ((same_upd nt).none ns)
    refine ⟨_, rfl, _, rfl, _, rfl, _, rfl, n, .ref pf, .ref ps, way, rfl, hn, fun e H4 ne s4 ⟨dd, ea, ed⟩ => ?_⟩
    have f4 : H4 pf = some (.lst [.int n]) := s4 _ _ (by rw [upd_ne nfs, upd_ne nft]; exact upd_same)
    have t4 : H4 pt = some (.tup [.int way]) := s4 _ _ (by rw [upd_ne nts]; exact upd_same)
    have q4 : H4 ps = some (.lst [.ref pt]) := s4 _ _ upd_same
    have S4 := S3.trans s4
    have efe : e ≠ pf := ne_of ea f4 (fun z => nomatch z)
    have ese : e ≠ ps := ne_of ea q4 (fun z => nomatch z)
    have dfe : dd ≠ pf := ne_of ed f4 (fun z => nomatch z)
    have dse : dd ≠ ps := ne_of ed q4 (fun z => nomatch z)
    refine ⟨_, rfl, .inl ⟨rfl, _, SqL.of f4⟩, pf, _, _, rfl, rfl, f4, (by show 1 < sizeLine; decide), ?_⟩
    generalize h5 : upd H4 pf _ = H5
    have f5 : H5 pf = some (.lst [.int n, .str "behind"]) := by rw [← h5]; exact upd_same
    have g5 : ∀ b, b ≠ pf → H5 b = H4 b := fun b nb => by rw [← h5, upd_ne nb]
    have S5 : Same H H5 := by rw [← h5]; exact S4.put npf
    -- second
    refine ⟨_, rfl, .inl ⟨rfl, _, SqL.of ((g5 _ (Ne.symm nfs)).trans q4)⟩, (by show 0 ≤ sizeLine; decide), fun pe ne5 => ?_⟩
    have nfe : pf ≠ pe := ne_of_none f5 ne5
    have nse : ps ≠ pe := ne_of_none ((g5 _ (Ne.symm nfs)).trans q4) ne5
    have nte : pt ≠ pe := ne_of_none ((g5 _ (Ne.symm nft)).trans t4) ne5
    refine ⟨ps, _, _, rfl, rfl, by rw [upd_ne nse, g5 _ (Ne.symm nfs)]; exact q4, (by show 1 < sizeLine; decide), ?_⟩
    generalize h7 : upd (upd H5 pe _) ps _ = H7
    have S7 : Same H H7 := by rw [← h7]; exact (S5.new ne5).put nps
    have f7 : H7 pf = some (.lst [.int n, .str "behind"]) := by rw [← h7, upd_ne nfs, upd_ne nfe]; exact f5
    have q7 : H7 ps = some (.lst [.ref pt, .ref pe]) := by rw [← h7]; exact upd_same
    have t7 : H7 pt = some (.tup [.int way]) := by rw [← h7, upd_ne nts, upd_ne nte, g5 _ (Ne.symm nft)]; exact t4
    have p7 : H7 pe = some (.lst []) := by rw [← h7, upd_ne (Ne.symm nse)]; exact upd_same
    have ea7 : H7 e = some (exo e (C K n) (some dd)) := by
      have z : H5 e = some (exo e (C K n) (some dd)) := (g5 _ efe).trans ea
      rw [← h7, upd_ne ese, upd_ne (ne_of_none z ne5)]
      exact z
    have ed7 : H7 dd = some (exd dd (zf n (ar n (.ref pf) (.ref ps)))) := by
      have z : H5 dd = some (exd dd (zf n (ar n (.ref pf) (.ref ps)))) := (g5 _ dfe).trans ed
      rw [← h7, upd_ne dse, upd_ne (ne_of_none z ne5)]
      exact z
    -- told
    refine ⟨_, rfl, _, rfl, n, e, _, rfl, hn, ar_len hn, ⟨dd, ea7, ed7⟩, fun l nl => ?_⟩
    generalize h8 : upd H7 l _ = H8
    have s78 : Same H7 H8 := by rw [← h8]; exact same_upd nl
    have l8 : H8 l = some (.lst (ar n (.ref pf) (.ref ps))) := by rw [← h8]; exact upd_same
    refine ⟨_, rfl, _, rfl, (by show 2 ≤ sizeLine; decide), fun px nx => ?_⟩
    generalize h9 : upd H8 px _ = H9
    have s89 : Same H8 H9 := by rw [← h9]; exact same_upd nx
    have x9 : H9 px = some (.lst [.int n, .str "behind"]) := by rw [← h9]; exact upd_same
    refine ⟨_, rfl, (by show 1 ≤ sizeLine; decide), fun pu nu => ?_⟩
    generalize h10 : upd H9 pu _ = H10
    have s910 : Same H9 H10 := by rw [← h10]; exact same_upd nu
    have u10 : H10 pu = some (.tup [.int way]) := by rw [← h10]; exact upd_same
    refine ⟨(by show 0 ≤ sizeLine; decide), fun pv nv => ?_⟩
    generalize h11 : upd H10 pv _ = H11
    have s1011 : Same H10 H11 := by rw [← h11]; exact same_upd nv
    have v11 : H11 pv = some (.lst []) := by rw [← h11]; exact upd_same
    refine ⟨(by show 2 ≤ sizeLine; decide), fun py ny => ?_⟩
    generalize h12 : upd H11 py _ = H12
    have s1112 : Same H11 H12 := by rw [← h12]; exact same_upd ny
    have y12 : H12 py = some (.lst [.ref pu, .ref pv]) := by rw [← h12]; exact upd_same
    refine ⟨(by show 2 ≤ sizeLine; decide), fun pw nw => ?_⟩
    generalize h13 : upd H12 pw _ = H13
    have s1213 : Same H12 H13 := by rw [← h13]; exact same_upd nw
    have w13 : H13 pw = some (.lst [.ref px, .ref py]) := by rw [← h13]; exact upd_same
    have s813 : Same H8 H13 := s89.trans (s910.trans (s1011.trans (s1112.trans s1213)))
    refine ⟨_, rfl, _, _, rfl, .inl ⟨_, SqL.of (s813 _ _ l8), rfl⟩, _, rfl, pw, _, rfl, SqL.of w13, fun pq nq => ?_⟩
    rw [ar_len hn, ar_cut hn]
    generalize h14 : upd H13 pq _ = H14
    have s1314 : Same H13 H14 := by rw [← h14]; exact same_upd nq
    have q14 : H14 pq = some (.lst (ar n (.ref px) (.ref py))) := by rw [← h14]; exact upd_same
    have s814 : Same H8 H14 := s813.trans s1314
    have s714 : Same H7 H14 := s78.trans s814
    have x14 : H14 px = some (.lst [.int n, .str "behind"]) := s1314 _ _ (s1213 _ _ (s1112 _ _ (s1011 _ _ (s910 _ _ x9))))
    have u14 : H14 pu = some (.tup [.int way]) := s1314 _ _ (s1213 _ _ (s1112 _ _ (s1011 _ _ u10)))
    have v14 : H14 pv = some (.lst []) := s1314 _ _ (s1213 _ _ (s1112 _ _ v11))
    have y14 : H14 py = some (.lst [.ref pu, .ref pv]) := s1314 _ _ (s1213 _ _ y12)
    have eqx : Eqv H14 2 (.ref pf) (.ref px) := flats_eqv (s714 _ _ f7) x14 (by simp) rfl
    have eqt : Eqv H14 1 (.ref pt) (.ref pu) := .inr ⟨pt, pu, _, _, rfl, rfl, .inr ⟨s714 _ _ t7, u14⟩, rfl, by simp, fun i u v hu hv => by
      rw [hu] at hv
      cases hv
      match i, hu with
      | 0, hu => cases hu; exact ⟨rfl, rfl⟩⟩
    have eqe : Eqv H14 1 (.ref pe) (.ref pv) := flats_eqv (s714 _ _ p7) v14 (by simp) rfl
    have eqy : Eqv H14 2 (.ref ps) (.ref py) := .inr ⟨ps, py, _, _, rfl, rfl, .inl ⟨s714 _ _ q7, y14⟩, rfl, by simp, fun i u v hu hv => by
      match i, hu, hv with
      | 0, hu, hv => cases hu; cases hv; exact eqt
      | 1, hu, hv => cases hu; cases hv; exact eqe⟩
    refine ⟨_, _, 3, rfl, by decide, ar_eqv2 (s814 _ _ l8) q14 eqx eqy, fun H15 s15 => ⟨_, rfl, ?_⟩⟩
    have s715 : Same H7 H15 := s714.trans s15
    have f15 : H15 pf = some (.lst [.int n, .str "behind"]) := s715 _ _ f7
    have l15 : H15 l = some (.lst (ar n (.ref pf) (.ref ps))) := s15 _ _ (s814 _ _ l8)
    refine ⟨_, rfl, l, _, _, .ref pf, rfl, rfl, SqL.of l15, ar_head hn, .inl ⟨rfl, _, SqL.of f15⟩, pf, _, _, rfl, rfl, f15, (by show 2 < sizeLine; decide), ?_⟩
    generalize h16 : upd H15 pf _ = H16
    have S16 : Same H H16 := by rw [← h16]; exact (S7.trans s715).put npf
    have f16 : H16 pf = some (.lst [.int n, .str "behind", .non]) := by rw [← h16]; exact upd_same
    have ea16 : H16 e = some (exo e (C K n) (some dd)) := by rw [← h16, upd_ne efe]; exact s715 _ _ ea7
    have ed16 : H16 dd = some (exd dd (zf n (ar n (.ref pf) (.ref ps)))) := by rw [← h16, upd_ne dfe]; exact s715 _ _ ed7
    refine ⟨_, rfl, _, rfl, (by show 3 ≤ sizeLine; decide), fun pz nz => ?_⟩
    have s17 := fun o => same_upd (o := o) nz
    refine ⟨_, _, 1, rfl, by decide, flats_eqv (m := 0) (s17 _ _ _ f16) upd_same (by simp) rfl, fun H18 s18 => ⟨_, rfl, ?_⟩⟩
    have s1618 := (s17 _).trans s18
    refine ⟨_, rfl, _, rfl, n, e, _, rfl, hn, ar_len hn, ⟨dd, s1618 _ _ ea16, s1618 _ _ ed16⟩, fun l2 nl2 => ?_⟩
    have s19 := fun o => same_upd (o := o) nl2
    refine ⟨l2, _, _, .ref pf, rfl, rfl, SqL.of upd_same, ar_head hn, _, rfl, ?_⟩
    refine ⟨_, _, 1, rfl, by decide, flats_eqv (m := 0) (s19 _ _ _ (s1618 _ _ f16)) (s19 _ _ _ (s1618 _ _ f16)) (by simp) rfl, fun H20 s20 => ?_⟩
    exact k _ (S16.trans (s1618.trans ((s19 _).trans s20)))
theorem funD0 {k : Nat} {x : Str} {st : Stmt} {ps N : List Str} {sp : Sp} {f : Addr} {fd : FuncData} (F : FunD K x x (defArgs st) (defBody st) (defScope st) [] [] f fd) (S : FnScope N ps (defScope st)) (len : ∀ vs H Q E, sp vs H Q E → vs.length = ps.length)
    (hbody : ∀ (cdv : Value) (A : Around) (outer : List Env) (s : Shared) (H : Hp) (vs : List V) (Q : VK) (E : XK), Room k (A.deeper (envOfC x (defScope st) s.heap.objs.size f cdv)) → sp vs H Q E →
      ∃ t, PSs (cxOf CX0 P w K mg base N x (defScope st) f cdv A outer s H E).nox (defBody st) t ∧ t { nx := fun _ H' => Q .non H', rt := Q } (start N vs) H) : FnOk P w K mg base CX0 (k + 1) f fd ps sp :=
  F.ok S len fun cdv A outer s H vs Q E hr hsp => by
    obtain ⟨t, h1, h2⟩ := hbody cdv A outer s H vs Q E hr hsp
    exact ⟨t, h1.nox, h2⟩
def spLaw (K : PySem.W.Frag) : Sp := fun vs H Q _ => ∃ (a : Addr) (ns : List Int), vs = [.ref a] ∧ SqL K H a (ns.map V.int) ∧ ns.length ≤ 63 ∧ ∀ H', Q (.bl true) H'
theorem ok_law {fL : Addr} {fdL : FuncData} (D : FunD K "law" "law" (defArgs s_law) (defBody s_law) (defScope s_law) [] [] fL fdL) (T : Te K mg) (B : Tb mg) (G_pool : Cal P w K mg base CX0 1 "_law_pool" ["script"] (spPool K)) (G_take : Cal P w K mg base CX0 1 "_law_take" ["pool", "many"] spTake)
    (G_thing : Cal P w K mg base CX0 5 "_law_thing" ["pool", "deep"] (spThing 3))
    (G_made : Cal P w K mg base CX0 3 "_law_made" ["number", "one", "two", "way"] (spMade K)) (G_same : Cal P w K mg base CX0 1 "_law_same" ["told", "due"] spSame)
    (G_fields : Cal P w K mg base CX0 1 "_law_fields" ["number", "error"] (spFields K)) (G_whole : Cal P w K mg base CX0 5 "_law_whole" ["number", "one", "two", "way"] spWhole) (G_very : Cal P w K mg base CX0 4 "_law_very" ["number", "way"] spVery) :
    FnOk P w K mg base CX0 6 fL fdL ["script"] (spLaw K) := by
  refine funD0 D sc_law (fun vs H Q E h => ?_) (fun cdv A outer s H vs Q E hr h => ⟨_,
    (pss_cons (ps_set (i := 1) sc_law.nd rfl (Or.inl rfl) (pe_cal0 G_pool (hr.mono (by decide)) (pa_cons (pv 0) pa_nil)))
      (pss_cons (ps_set (i := 2) sc_law.nd rfl (Or.inl rfl) (pe_listRg rfl rfl B.n_list (prg_1 rfl B.n_range pe_int)))
      (pss_cons (ps_for PassesOwn.never rfl (pi_range1 rfl B.n_range (pa_cons pe_int pa_nil)) (pg_name (i := 3) sc_law.nd rfl (Or.inl rfl)) (pss_cons (ps_set (i := 4) sc_law.nd rfl (Or.inl rfl) (pe_bm PySem.F.plainAttrs_list PySem.F.slot_list_pop PySem.F.type_list_pop mt_popAt (pv 2) (pa_cons (pe_cal0 G_take (hr.mono (by decide)) (pa_cons (pv 1) (pa_cons (pe_callB call_len (by rfl) B.n_len (by decide +kernel) (pa_cons (pv 2) pa_nil)) pa_nil))) pa_nil)))
      (pss_cons (ps_set (i := 5) sc_law.nd rfl (Or.inl rfl) (pe_cal0 G_thing (hr.mono (by decide)) (pa_cons (pv 1) (pa_cons pe_int pa_nil))))
      (pss_cons (ps_set (i := 6) sc_law.nd rfl (Or.inl rfl) (pe_cal0 G_thing (hr.mono (by decide)) (pa_cons (pv 1) (pa_cons pe_int pa_nil))))
      (pss_cons (ps_set (i := 7) sc_law.nd rfl (Or.inl rfl) (pe_cal0 G_made (hr.mono (by decide)) (pa_cons (pv 4) (pa_cons (pv 5) (pa_cons (pv 6) (pa_cons pe_int pa_nil))))))
      (pss_cons (ps_set (i := 8) sc_law.nd rfl (Or.inl rfl) (pe_cal0 G_take (hr.mono (by decide)) (pa_cons (pv 1) (pa_cons pe_int pa_nil))))
      (pss_cons (ps_if (PW.pt (pw_or (pt_not (pt_val (pe_cal0 G_whole (hr.mono (by decide)) (pa_cons (pv 4) (pa_cons (pv 5) (pa_cons (pv 6) (pa_cons (pv 8) pa_nil))))))) (pw_or (pt_not (pt_val (pe_cal0 G_whole (hr.mono (by decide)) (pa_cons (pv 4) (pa_cons (pv 6) (pa_cons (pv 5) (pa_cons (pe_op op_sub pe_int (pv 8)) pa_nil))))))) (pw_or1 (pt_not (pt_val (pe_cal0 G_very (hr.mono (by decide)) (pa_cons (pv 4) (pa_cons (pv 8) pa_nil))))))))) (pss_one (ps_ret pe_bl)) pss_nil)
      (pss_cons (ps_set (i := 9) sc_law.nd rfl (Or.inl rfl) (pe_slice sl_list (pe_lst (pa_cons (pv 5) (pa_cons (pv 6) pa_nil))) po_none (po_some (pe_callB call_len (by rfl) B.n_len (by decide +kernel) (pa_cons (pe_cal0 G_fields (hr.mono (by decide)) (pa_cons (pv 4) (pa_cons (pv 7) pa_nil))) pa_nil)))))
      (pss_cons (ps_if (pt_not (pt_val (pe_cal0 G_same (hr.mono (by decide)) (pa_cons (pe_cal0 G_fields (hr.mono (by decide)) (pa_cons (pv 4) (pa_cons (pv 7) pa_nil))) (pa_cons (pv 9) pa_nil))))) (pss_one (ps_ret pe_bl)) pss_nil)
      (pss_one (ps_for PassesOwn.never rfl (pi_list (pe_lst (pa_cons pe_int (pa_cons pe_bl (pa_cons pe_int pa_nil))))) (pg_name (i := 10) sc_law.nd rfl (Or.inl rfl)) (pss_one (ps_if (pt_not (pt_val (pe_cal0 G_same (hr.mono (by decide)) (pa_cons (pe_cal0 G_fields (hr.mono (by decide)) (pa_cons (pv 4) (pa_cons (pe_cal0 G_made (hr.mono (by decide)) (pa_cons (pv 4) (pa_cons (pv 10) (pa_cons (pv 10) (pa_cons (pv 8) pa_nil))))) pa_nil))) (pa_cons (pe_slice sl_list (pe_lst (pa_cons (pv 10) (pa_cons (pv 10) pa_nil))) po_none (po_some (pe_callB call_len (by rfl) B.n_len (by decide +kernel) (pa_cons (pv 9) pa_nil)))) pa_nil))))) (pss_one (ps_ret pe_bl)) pss_nil)))))))))))))
      (pss_one (ps_ret (pe_callB call_isE2 (by rfl) B.n_isinstance (by decide +kernel) (pa_cons (pe_exc0 PySem.F.excBase_ValueError T.eD T.gD T.kD rfl) (pa_cons (pe_bltn (v := .ty "ValueError") (u := .type "ValueError") rfl B.n_ValueError (by decide +kernel) rfl) pa_nil)))))))), ?_⟩)
  · obtain ⟨a, ns, rfl, _⟩ := h
    rfl
  · obtain ⟨a, ns, rfl, hS, hl, k⟩ := h
    refine ⟨_, rfl, a, ns, rfl, hS, hl, fun p q H1 hP s1 np nq => ?_⟩
    refine ⟨17, rfl, RgOk.of_le (by decide) (by decide) (by decide) (by decide), fun pn nn => ?_⟩
    obtain ⟨nnp, nnq⟩ := hP.off nn
    refine ⟨17, rfl, by decide, by decide, for_range (lo := 0) (n := 17) (fun i σ H' => ∃ (g3 g4 g5 g6 g7 g8 g9 g10 : Option V) (xs : List V), σ = [some (.ref a), some (.ref p), some (.ref pn), g3, g4, g5, g6, g7, g8, g9, g10] ∧ H' pn = some (.lst xs) ∧ xs.length + i = 17 ∧ (∀ x ∈ xs, ∃ m : Nat, m < 17 ∧ x = .int m) ∧ Pool H' p q)
      ⟨_, _, _, _, _, _, _, _, _, rfl, upd_same, rfl, ?_, hP.same (same_upd nn)⟩ ?_ ?_⟩
    · intro x hx
      obtain ⟨m, hm, rfl⟩ := List.mem_map.mp hx
      exact ⟨m, List.mem_range.mp hm, by simp⟩
    · rintro i σ H2 hi ⟨g3, g4, g5, g6, g7, g8, g9, g10, xs, rfl, hn2, hlen, hxs, hP2⟩
      refine ⟨_, rfl, .inl ⟨rfl, _, SqL.of hn2⟩, _, rfl, _, rfl, _, _, rfl, .inl ⟨_, SqL.of hn2, rfl⟩, p, q, _, rfl, by omega, by omega, hP2, fun t H3 t0 t1 hP3 b3 e3 => ?_⟩
      have hn3 := (e3 pn nnp).trans hn2
      obtain ⟨n, hn, ht⟩ : ∃ n : Nat, n < 17 ∧ xs[t.toNat]? = some (.int n) := by
        have hlt : t.toNat < xs.length := by omega
        obtain ⟨m, hm, e⟩ := hxs _ (List.getElem_mem hlt)
        exact ⟨m, hm, by rw [List.getElem?_eq_getElem hlt, e]⟩
      refine ⟨pn, xs, t, _, _, rfl, rfl, hn3, by omega, by omega, seqIndex_of t0 (by omega), ht, ?_⟩
      generalize h4 : upd H3 pn _ = H4
      have hP4 : Pool H4 p q := by rw [← h4]; exact hP3.put2 nnp nnq
      have hn4 : H4 pn = some (.lst (xs.eraseIdx t.toNat)) := by rw [← h4]; exact upd_same
      have toP : ∀ {Ha Hb : Hp} {d : Nat} {v : V}, Pool Ha p q → Th (fun a => Ha a = none) Hb d v → Th (fun a => a ≠ p) Hb d v := fun hp ht => Th.keep (fun a o ha eo => ⟨(hp.off ha).1, eo⟩) _ _ ht
      have mv : ∀ {Ha Hb : Hp} {d : Nat} {v : V}, But p Ha Hb → Th (fun a => a ≠ p) Ha d v → Th (fun a => a ≠ p) Hb d v := fun hb ht => Th.keep (fun a o ha eo => ⟨ha, hb a o ha eo⟩) _ _ ht
      -- two things
      refine ⟨_, rfl, p, q, rfl, hP4, fun one H5 hP5 b5 T1 => ?_⟩
      refine ⟨_, rfl, p, q, rfl, hP5, fun two H6 hP6 b6 T2 => ?_⟩
      have o6 := mv b6 (toP hP4 T1)
      have w6 := toP hP5 T2
      -- kept
      refine ⟨_, rfl, _, rfl, _, rfl, n, one, two, 0, rfl, hn, fun kp H7 nk s7 hE => ?_⟩
      have hP7 := hP6.same s7
      refine ⟨_, rfl, p, q, 3, rfl, by decide, by decide, hP7, fun way H8 w0 w1 hP8 b8 e8 => ?_⟩
      obtain ⟨dd, ea, ed⟩ := hE
      have hpp : ∃ xs, H7 p = some (.lst xs) := by
        obtain ⟨_, _, _, _, z, _⟩ := hP7
        exact ⟨_, z⟩
      obtain ⟨pps, hpp⟩ := hpp
      have hE8 : Er K H8 kp n (ar n one two) := ⟨dd, (e8 _ (ne_of ea hpp (fun z => nomatch z))).trans ea, (e8 _ (ne_of ed hpp (fun z => nomatch z))).trans ed⟩
      have o8 := Th.eqv _ _ (mv b8 (mv (But.of s7) o6))
      have w8 := Th.eqv _ _ (mv b8 (mv (But.of s7) w6))
      have hn8 : H8 pn = some (.lst (xs.eraseIdx t.toNat)) := b8 _ _ nnp (s7 _ _ (b6 _ _ nnp (b5 _ _ nnp hn4)))
      -- the checks
      refine ⟨_, rfl, _, rfl, _, rfl, _, rfl, n, one, two, way, rfl, hn, o8, w8, fun H9 s9 => ⟨_, rfl, ?_⟩⟩
      refine ⟨_, rfl, _, rfl, _, rfl, _, rfl, _, _, rfl, rfl, n, two, one, 2 - way, rfl, hn, w8.same s9, o8.same s9, fun H10 s10 => ⟨_, rfl, ?_⟩⟩
      refine ⟨_, rfl, _, rfl, n, way, rfl, hn, fun H11 s11 => ⟨_, rfl, ?_⟩⟩
      have s811 := (s9.trans s10).trans s11
      -- due
      refine ⟨_, rfl, _, rfl, (by show 2 ≤ sizeLine; decide), fun pl nl => ?_⟩
      have s12 := fun o => same_upd (o := o) nl
      refine ⟨_, rfl, _, rfl, n, kp, _, rfl, hn, ar_len hn, hE8.same (s811.trans (s12 _)), fun pf nf => ?_⟩
      have s13 := fun o => same_upd (o := o) nf
      refine ⟨_, _, rfl, .inl ⟨_, SqL.of upd_same, rfl⟩, _, rfl, pl, _, rfl, SqL.of (s13 _ _ _ upd_same), fun pd nd => ?_⟩
      rw [ar_len hn, ar_cut hn]
      have s14 := fun o => same_upd (o := o) nd
      generalize h14 : upd (upd (upd H11 pl _) pf _) pd _ = H14
      have s1114 : Same H11 H14 := by rw [← h14]; exact ((s12 _).trans (s13 _)).trans (s14 _)
      have d14 : H14 pd = some (.lst (ar n one two)) := by rw [← h14]; exact upd_same
      have s814 := s811.trans s1114
      refine ⟨_, rfl, _, rfl, n, kp, _, rfl, hn, ar_len hn, hE8.same s814, fun pg ng => ?_⟩
      have s15 := fun o => same_upd (o := o) ng
      refine ⟨_, rfl, _, _, 4, rfl, by decide, ar_eqv upd_same (s15 _ _ _ d14) (o8.same (s814.trans (s15 _))) (w8.same (s814.trans (s15 _))), fun H16 s16 => ⟨_, rfl, ?_⟩⟩
      have s1416 := (s15 _).trans s16
      have s816 := s814.trans s1416
      refine ⟨(by show 3 ≤ sizeLine; decide), fun pk nk2 => ⟨pk, rfl, ⟨_, SqL.of upd_same⟩, ?_⟩⟩
      have s17 := fun o => same_upd (o := o) nk2
      refine for_list (K := K) (a := pk) (xs := [.int 1, .bl true, .int 1]) (fun j σ H' => ∃ g : Option V, σ = [some (.ref a), some (.ref p), some (.ref pn), some (.int (0 + (i : Nat))), some (.int n), some one, some two, some (.ref kp), some (.int way), some (.ref pd), g] ∧ Same (upd H16 pk (.lst [.int 1, .bl true, .int 1])) H') ⟨_, rfl, Same.refl _⟩ (fun j σ H' _ ⟨g, _, x⟩ => SqL.of (x _ _ upd_same)) ?_ ?_
      · rintro j x σ H' hx ⟨g, rfl, y⟩
        have fx : flatV x = true := by
          have := List.mem_of_getElem? hx
          simp only [List.mem_cons, List.not_mem_nil, or_false] at this
          rcases this with rfl | rfl | rfl <;> rfl
        have d' : H' pd = some (.lst (ar n one two)) := y _ _ (s17 _ _ _ (s1416 _ _ d14))
        refine ⟨_, rfl, _, rfl, _, rfl, _, rfl, _, rfl, n, x, x, way, rfl, hn, fun e2 H18 ne2 s18 hE2 => ?_⟩
        refine ⟨n, e2, _, rfl, hn, ar_len hn, hE2, fun l1 nl1 => ?_⟩
        have s19 := fun o => same_upd (o := o) nl1
        refine ⟨_, rfl, _, rfl, (by show 2 ≤ sizeLine; decide), fun l2 nl2 => ?_⟩
        have s20 := fun o => same_upd (o := o) nl2
        refine ⟨_, rfl, _, _, rfl, .inl ⟨_, SqL.of (s20 _ _ _ (s19 _ _ _ (s18 _ _ d'))), rfl⟩, _, rfl, l2, _, rfl, SqL.of upd_same, fun l3 nl3 => ?_⟩
        rw [ar_len hn, ar_cut hn]
        have s21 := fun o => same_upd (o := o) nl3
        refine ⟨_, _, 4, rfl, by decide, ar_eqv (s21 _ _ _ (s20 _ _ _ upd_same)) upd_same (.inl ⟨rfl, fx⟩) (.inl ⟨rfl, fx⟩), fun H22 s22 => ⟨_, rfl, ?_⟩⟩
        exact ⟨_, rfl, (((y.trans s18).trans (s19 _)).trans (s20 _)).trans ((s21 _).trans s22)⟩
      · rintro σ H' ⟨g, rfl, y⟩
        have s8' : Same H8 H' := (s816.trans (s17 _)).trans y
        refine ⟨_, _, _, _, _, _, _, _, _, rfl, s8' _ _ hn8, ?_, fun x hx => hxs x (List.mem_of_mem_eraseIdx hx), hP8.same s8'⟩
        rw [List.length_eraseIdx_of_lt (by omega)]
        omega
    · rintro σ H' ⟨g3, g4, g5, g6, g7, g8, g9, g10, xs, rfl, _⟩
      refine fun e he => ⟨e, _, _, _, _, rfl, .inr upd_same, T.cD, .ty _, T.vD, ?_⟩
      exact k _
end
end K99

set_option Elab.async false
set_option linter.all false
set_option maxRecDepth 100000
set_option maxHeartbeats 0
/-! The head: what the top leaves, by names. -/
namespace K99
open PySem PySem.Spec PyProof.Rows L2
/-- an own error class, by what is looked at -/
def kB (K : PySem.W.Frag) (a : Addr) : Bool := xfB K a && ((PySem.W.clsIn K a).isSome && (decide (PySem.W.findIn K (.ref a) "__class__" = some (some (.builtin "object.__class__"))) && (decide (PySem.W.specialIn K (.builtin "object.__class__") "__get__" = some (some (.builtin "getset_descriptor.__get__"))) &&
  (decide (PySem.W.takesIn K (.builtin "object.__class__") = some true) && decide (PySem.W.mroIn K a (.type "object") = some true)))))
theorem kB_ok {K : PySem.W.Frag} {a : Addr} (h : kB K a = true) : ErK K a := by
  obtain ⟨h1, h⟩ := He.ba h
  obtain ⟨h2, h⟩ := He.ba h
  obtain ⟨h3, h⟩ := He.ba h
  obtain ⟨h4, h⟩ := He.ba h
  obtain ⟨h5, h6⟩ := He.ba h
  exact ⟨xfB_ok h1, h2, of_decide_eq_true h3, of_decide_eq_true h4, of_decide_eq_true h5, of_decide_eq_true h6⟩
def oB (K : PySem.W.Frag) (a : Addr) : Bool := match K.lookup a with
  | some ⟨.type "type", _, .cls cd, sl⟩ => (match cd.mro, sl.toList with
    | .ref C' :: bm, [_, _, _, _, some (.builtin n), _] => decide (C' = a) && (decide (n = "ValueError.__new__") && (!cd.hasDel && (PySem.HandSPX.refsVE bm && cd.hasDict)))
    | _, _ => false)
  | _ => false
theorem oB_ok {K : PySem.W.Frag} {a : Addr} (q : oB K a = true) : ∃ nm q N bs bm sn sub ab col dd k0 k1 k2 k3 k5, K.lookup a = some (excClassObj nm q a N bs bm true sn sub ab col dd k0 k1 k2 k3 k5 "ValueError.__new__") ∧ PySem.HandSPX.refsVE bm = true := by
  unfold oB at q
  split at q
  · rename_i dd cd sl ho
    split at q
    · rename_i C' bm k0 k1 k2 k3 n k5 hm hs
      obtain ⟨e1, q⟩ := He.ba q
      obtain ⟨e2, q⟩ := He.ba q
      obtain ⟨e3, q⟩ := He.ba q
      obtain ⟨e4, e5⟩ := He.ba q
      have e1 := of_decide_eq_true e1
      have e2 := of_decide_eq_true e2
      obtain ⟨nm, bs, mro, ns, qn, hd, sn, sub, ab, col, del⟩ := cd
      dsimp only at hm e3 e5
      have e3' : del = false := by
        cases del with
        | false => rfl
        | true => cases e3
      subst e1 e2 e5 hm e3'
      have hsl : sl = #[k0, k1, k2, k3, some (.builtin "ValueError.__new__"), k5] := by
        obtain ⟨l⟩ := sl
        simp only at hs
        rw [hs]
      subst hsl
      exact ⟨nm, qn, ns, bs, bm, sn, sub, ab, col, dd, k0, k1, k2, k3, k5, ho, e4⟩
    · cases q
  · cases q
def cB (K : PySem.W.Frag) (a f : Addr) : Bool := kB K a && (oB K a && (decide (PySem.W.findIn K (.ref a) "__setattr__" = some (some (.builtin "object.__setattr__"))) && (decide (PySem.W.typeIn K (.ref a) = some (.type "type")) && (PySem.W.keepIn K (.ref a) &&
  (decide (PySem.W.findIn K (.ref a) "__init__" = some (some (.ref f))) && decide (PySem.W.typeIn K (.ref f) = some (.type "function")))))))
theorem cB_ok {K : PySem.W.Frag} {a f : Addr} (h : cB K a f = true) : ErC K a f := by
  obtain ⟨h1, h⟩ := He.ba h
  obtain ⟨h2, h⟩ := He.ba h
  obtain ⟨h3, h⟩ := He.ba h
  obtain ⟨h4, h⟩ := He.ba h
  obtain ⟨h5, h⟩ := He.ba h
  obtain ⟨h6, h7⟩ := He.ba h
  obtain ⟨z1, z2, z3, z4, z5, z6⟩ := kB_ok h1
  exact ⟨⟨oB_ok h2, of_decide_eq_true h3, z1.exC, of_decide_eq_true h4, h5⟩, z1, of_decide_eq_true h6, of_decide_eq_true h7, z2, z3, z4, z5, z6⟩
def nB (K : PySem.W.Frag) (n : Nat) : Bool := He.eqO (PySem.W.nsIn K mainGlobals (nm n)) (some (some (.ref (C K n)))) && (cB K (C K n) (fI K n) && (((fl n).all fun x => He.eqO (PySem.W.findIn K (.ref (C K n)) x) (some none)) &&
  (((List.range 17).all fun m => decide (PySem.W.exmOne K (.ref (C K n)) (.ref (C K m)) = some (decide (n = m))) && decide (PySem.W.kitOne K (.ref (C K n)) (.ref (C K m)) = some (decide (n = m)))) &&
  (decide (PySem.W.exmOne K (.ref (C K n)) (.ref (Dr K)) = some true) && (decide (PySem.W.kitOne K (.ref (C K n)) (.ref (Dr K)) = some true) && (decide (PySem.W.kitOne K (.ref (C K n)) (.type "ValueError") = some true) &&
  ((["LookupError", "ArithmeticError", "TypeError", "RuntimeError", "AttributeError"] : List String).all fun x => decide (PySem.W.kitOne K (.ref (C K n)) (.type x) = some false))))))))
def erB (K : PySem.W.Frag) : Bool := ((List.range 17).all fun n => nB K n) && (He.eqO (PySem.W.nsIn K mainGlobals "DoorError") (some (some (.ref (Dr K)))) && (PySem.W.excIn K (Dr K) He.veBase "ValueError.__new__" && (PySem.W.keepIn K (.ref (Dr K)) && (kB K (Dr K) && decide (PySem.W.kitOne K (.ref (Dr K)) (.type "ValueError") = some true)))))
theorem erB_ok {K : PySem.W.Frag} {h : Heap} {mg : Str → Option Value} (X : K.In h) (G : h.Ns mainGlobals mg) (e : erB K = true) : Te K mg := by
  obtain ⟨a, d⟩ := He.ba e
  obtain ⟨d1, d⟩ := He.ba d
  obtain ⟨d2, d⟩ := He.ba d
  obtain ⟨d3, d⟩ := He.ba d
  obtain ⟨d4, d5⟩ := He.ba d
  have A : ∀ n, n < 17 → _ := fun n hn => He.ba (List.all_eq_true.mp a n (List.mem_range.mpr hn))
  have A2 := fun n hn => He.ba (A n hn).2
  have A3 := fun n hn => He.ba (A2 n hn).2
  have A4 := fun n hn => He.ba (A3 n hn).2
  have A5 := fun n hn => He.ba (A4 n hn).2
  have A6 := fun n hn => He.ba (A5 n hn).2
  have A7 := fun n hn => He.ba (A6 n hn).2
  have M := fun n m hn hm => He.ba (List.all_eq_true.mp (A4 n hn).1 m (List.mem_range.mpr hm))
  exact ⟨fun n hn => PySem.W.mg_of X G (He.eqO_ok (A n hn).1), fun n hn => cB_ok (A2 n hn).1, fun n hn x hx => He.eqO_ok (List.all_eq_true.mp (A3 n hn).1 x hx),
    fun n m hn hm => of_decide_eq_true (M n m hn hm).1, fun n hn => of_decide_eq_true (A5 n hn).1, fun n m hn hm => of_decide_eq_true (M n m hn hm).2, fun n hn => of_decide_eq_true (A6 n hn).1,
    fun n hn => of_decide_eq_true (A7 n hn).1, fun n hn x hx => of_decide_eq_true (List.all_eq_true.mp (A7 n hn).2 x hx), PySem.W.mg_of X G (He.eqO_ok d1), d2, d3, kB_ok d4, of_decide_eq_true d5⟩
/-! ### the Hook -/
def hkF (n : Nat) (fa : List He.Fa) (fn : List He.DefD) : PySem.W.Hook where
  α := He.AlD × Bool
  obs := fun s => (He.obsD fa fn (He.frG s.heap.get? (He.asD s.heap.get? n)), erB (He.frG s.heap.get? (He.asD s.heap.get? n)))
  val := fun _ => (He.valD fn, true)
  says := fun _ h => ∃ K : PySem.W.Frag, K.In h ∧ He.SaysD fa fn K ∧ erB K = true
  of := fun _ _ e => ⟨_, He.frG_in, congrArg (fun z : He.AlD × Bool => z.1) e, congrArg (fun z : He.AlD × Bool => z.2) e⟩
  keeps := fun _ _ _ ⟨K, hK, c⟩ k => ⟨K, PySem.W.Frag.In.keeps hK k, c⟩
def obF (n : Nat) (fa : List He.Fa) (fn : List He.DefD) (g : Addr → Option Obj) : He.AlD × Bool := (He.obsD fa fn (He.frG g (He.asD g n)), erB (He.frG g (He.asD g n)))
theorem obF_eq {n : Nat} {fa : List He.Fa} {fn : List He.DefD} {g : Addr → Option Obj} {s : Shared} (h : ∀ a, g a = s.heap.get? a) : obF n fa fn g = (hkF n fa fn).obs s := by
  have e : g = s.heap.get? := funext h
  rw [e] <;> rfl
def d_pool : He.DefD := ⟨("_law_pool", none), "_law_pool", "_law_pool", defArgs s_pool, defBody s_pool, defScope s_pool, [], []⟩
def d_take : He.DefD := ⟨("_law_take", none), "_law_take", "_law_take", defArgs s_take, defBody s_take, defScope s_take, [], []⟩
def d_made : He.DefD := ⟨("_law_made", none), "_law_made", "_law_made", defArgs s_made, defBody s_made, defScope s_made, [], []⟩
def d_fields : He.DefD := ⟨("_law_fields", none), "_law_fields", "_law_fields", defArgs s_fields, defBody s_fields, defScope s_fields, [], []⟩
def d_raise : He.DefD := ⟨("_law_raise", none), "_law_raise", "_law_raise", defArgs s_raise, defBody s_raise, defScope s_raise, [], []⟩
def d_caught : He.DefD := ⟨("_law_caught", none), "_law_caught", "_law_caught", defArgs s_caught, defBody s_caught, defScope s_caught, [], []⟩
def d_turned : He.DefD := ⟨("_law_turned", none), "_law_turned", "_law_turned", defArgs s_turned, defBody s_turned, defScope s_turned, [], []⟩
def d_beneath : He.DefD := ⟨("_law_beneath", none), "_law_beneath", "_law_beneath", defArgs s_beneath, defBody s_beneath, defScope s_beneath, [], []⟩
def d_kinds : He.DefD := ⟨("_law_kinds", none), "_law_kinds", "_law_kinds", defArgs s_kinds, defBody s_kinds, defScope s_kinds, [], []⟩
def d_same : He.DefD := ⟨("_law_same", none), "_law_same", "_law_same", defArgs s_same, defBody s_same, defScope s_same, [], []⟩
def d_thing : He.DefD := ⟨("_law_thing", none), "_law_thing", "_law_thing", defArgs s_thing, defBody s_thing, defScope s_thing, [], []⟩
def d_whole : He.DefD := ⟨("_law_whole", none), "_law_whole", "_law_whole", defArgs s_whole, defBody s_whole, defScope s_whole, [], []⟩
def d_very : He.DefD := ⟨("_law_very", none), "_law_very", "_law_very", defArgs s_very, defBody s_very, defScope s_very, [], []⟩
def d_law : He.DefD := ⟨("law", none), "law", "law", defArgs s_law, defBody s_law, defScope s_law, [], []⟩
def i_0 : He.DefD := ⟨("BadName", some "__init__"), "__init__", "BadName.__init__", defArgs (sI 0), defBody (sI 0), defScope (sI 0), [], []⟩
def i_1 : He.DefD := ⟨("BadRow", some "__init__"), "__init__", "BadRow.__init__", defArgs (sI 1), defBody (sI 1), defScope (sI 1), [], []⟩
def i_2 : He.DefD := ⟨("BadStore", some "__init__"), "__init__", "BadStore.__init__", defArgs (sI 2), defBody (sI 2), defScope (sI 2), [], []⟩
def i_3 : He.DefD := ⟨("BadHouse", some "__init__"), "__init__", "BadHouse.__init__", defArgs (sI 3), defBody (sI 3), defScope (sI 3), [], []⟩
def i_4 : He.DefD := ⟨("BadQuestion", some "__init__"), "__init__", "BadQuestion.__init__", defArgs (sI 4), defBody (sI 4), defScope (sI 4), [], []⟩
def i_5 : He.DefD := ⟨("BadGift", some "__init__"), "__init__", "BadGift.__init__", defArgs (sI 5), defBody (sI 5), defScope (sI 5), [], []⟩
def i_6 : He.DefD := ⟨("BadPicks", some "__init__"), "__init__", "BadPicks.__init__", defArgs (sI 6), defBody (sI 6), defScope (sI 6), [], []⟩
def i_7 : He.DefD := ⟨("BadPlan", some "__init__"), "__init__", "BadPlan.__init__", defArgs (sI 7), defBody (sI 7), defScope (sI 7), [], []⟩
def i_8 : He.DefD := ⟨("BadPrices", some "__init__"), "__init__", "BadPrices.__init__", defArgs (sI 8), defBody (sI 8), defScope (sI 8), [], []⟩
def i_9 : He.DefD := ⟨("BadHands", some "__init__"), "__init__", "BadHands.__init__", defArgs (sI 9), defBody (sI 9), defScope (sI 9), [], []⟩
def i_10 : He.DefD := ⟨("BadLog", some "__init__"), "__init__", "BadLog.__init__", defArgs (sI 10), defBody (sI 10), defScope (sI 10), [], []⟩
def i_11 : He.DefD := ⟨("BadText", some "__init__"), "__init__", "BadText.__init__", defArgs (sI 11), defBody (sI 11), defScope (sI 11), [], []⟩
def i_12 : He.DefD := ⟨("BadStep", some "__init__"), "__init__", "BadStep.__init__", defArgs (sI 12), defBody (sI 12), defScope (sI 12), [], []⟩
def i_13 : He.DefD := ⟨("Broken", some "__init__"), "__init__", "Broken.__init__", defArgs (sI 13), defBody (sI 13), defScope (sI 13), [], []⟩
def i_14 : He.DefD := ⟨("NoSuch", some "__init__"), "__init__", "NoSuch.__init__", defArgs (sI 14), defBody (sI 14), defScope (sI 14), [], []⟩
def i_15 : He.DefD := ⟨("Taken", some "__init__"), "__init__", "Taken.__init__", defArgs (sI 15), defBody (sI 15), defScope (sI 15), [], []⟩
def i_16 : He.DefD := ⟨("BadCommand", some "__init__"), "__init__", "BadCommand.__init__", defArgs (sI 16), defBody (sI 16), defScope (sI 16), [], []⟩
def fn : List He.DefD := [d_pool, d_take, d_made, d_fields, d_raise, d_caught, d_turned, d_beneath, d_kinds, d_same, d_thing, d_whole, d_very, d_law, i_0, i_1, i_2, i_3, i_4, i_5, i_6, i_7, i_8, i_9, i_10, i_11, i_12, i_13, i_14, i_15, i_16]
def fa : List He.Fa := [.glo "_law_pool", .glo "_law_take", .glo "_law_made", .glo "_law_fields", .glo "_law_raise", .glo "_law_caught", .glo "_law_turned", .glo "_law_beneath", .glo "_law_kinds", .glo "_law_same", .glo "_law_thing", .glo "_law_whole", .glo "_law_very", .glo "law", .free "len", .free "int", .free "abs", .free "range", .free "isinstance", .free "list", .free "zip", .free "tuple", .free "bool", .free "str", .free "ValueError", .free "LookupError", .free "ArithmeticError", .free "TypeError", .free "RuntimeError", .free "AttributeError"]
abbrev R : PySem.W.OpenRow := PySem.W.OpenLaw.row PySem.Challenge.rw_throughdoors_k99_whole_errors
abbrev hk : PySem.W.Hook := hkF 5 fa fn
def loose : List Str := ["DoorError", "BadName", "BadRow", "BadStore", "BadHouse", "BadQuestion", "BadGift", "BadPicks", "BadPlan", "BadPrices", "BadHands", "BadLog", "BadText", "BadStep", "Broken", "NoSuch", "Taken", "BadCommand", "_law_pool", "_law_take", "_law_mixed", "_law_made", "_law_fields", "_law_raise", "_law_caught", "_law_turned", "_law_beneath", "_law_kinds", "_law_same", "_law_thing", "_law_whole", "_law_very"]
def ob (s : PySem.W.SharedT) : He.AlD × Bool := obF 5 fa fn (HandSHeadRun.getT s)
theorem ob_eq (s : PySem.W.SharedT) : ob s = hk.obs s.abs := obF_eq (HandSHeadRun.getT_eq s)
theorem run (w : World) : HandSHeadRun.RunEq R (PySem.W.view R.prog [34]) hk ob 20000 loose w := by
  intro os
  kernel_rfl
theorem facts {P : Program} {w : World} {K : PySem.W.Frag} {h : Heap} {mg : Str → Option Value} {f : Addr} (X : K.In h) (G : h.Ns mainGlobals mg) (hfa : mg ("law" : Str) = some (.ref f)) (c : He.SaysD fa fn K) (e : erB K = true) :
    ∃ fd : FuncData, (∀ (s : Shared) (v : Value), BindsTo s fd ⟨[v], []⟩ [("script", v)]) ∧ ∀ base : Heap, K.In base → base.Ns mainGlobals mg → FnOk P w K mg base CX0 6 f fd ["script"] (spLaw K) := by
  have T : Te K mg := erB_ok X G e
  obtain ⟨fd0, F0⟩ := c.def_ 0 (d := d_pool) rfl
  have D_pool : Df K mg "_law_pool" s_pool ["script"] := ⟨_, fd0, F0, He.glo_ok X G (c.fact 0 (f := .glo "_law_pool") rfl), FunD.bindsN F0 fun _ _ _ _ _ _ us hl => match us, hl with | [_], _ => rfl⟩
  obtain ⟨fd1, F1⟩ := c.def_ 1 (d := d_take) rfl
  have D_take : Df K mg "_law_take" s_take ["pool", "many"] := ⟨_, fd1, F1, He.glo_ok X G (c.fact 1 (f := .glo "_law_take") rfl), FunD.bindsN F1 fun _ _ _ _ _ _ us hl => match us, hl with | [_, _], _ => rfl⟩
  obtain ⟨fd2, F2⟩ := c.def_ 2 (d := d_made) rfl
  have D_made : Df K mg "_law_made" s_made ["number", "one", "two", "way"] := ⟨_, fd2, F2, He.glo_ok X G (c.fact 2 (f := .glo "_law_made") rfl), FunD.bindsN F2 fun _ _ _ _ _ _ us hl => match us, hl with | [_, _, _, _], _ => rfl⟩
  obtain ⟨fd3, F3⟩ := c.def_ 3 (d := d_fields) rfl
  have D_fields : Df K mg "_law_fields" s_fields ["number", "error"] := ⟨_, fd3, F3, He.glo_ok X G (c.fact 3 (f := .glo "_law_fields") rfl), FunD.bindsN F3 fun _ _ _ _ _ _ us hl => match us, hl with | [_, _], _ => rfl⟩
  obtain ⟨fd4, F4⟩ := c.def_ 4 (d := d_raise) rfl
  have D_raise : Df K mg "_law_raise" s_raise ["number", "one", "two"] := ⟨_, fd4, F4, He.glo_ok X G (c.fact 4 (f := .glo "_law_raise") rfl), FunD.bindsN F4 fun _ _ _ _ _ _ us hl => match us, hl with | [_, _, _], _ => rfl⟩
  obtain ⟨fd5, F5⟩ := c.def_ 5 (d := d_caught) rfl
  have D_caught : Df K mg "_law_caught" s_caught ["number", "one", "two"] := ⟨_, fd5, F5, He.glo_ok X G (c.fact 5 (f := .glo "_law_caught") rfl), FunD.bindsN F5 fun _ _ _ _ _ _ us hl => match us, hl with | [_, _, _], _ => rfl⟩
  obtain ⟨fd6, F6⟩ := c.def_ 6 (d := d_turned) rfl
  have D_turned : Df K mg "_law_turned" s_turned ["number", "one", "two"] := ⟨_, fd6, F6, He.glo_ok X G (c.fact 6 (f := .glo "_law_turned") rfl), FunD.bindsN F6 fun _ _ _ _ _ _ us hl => match us, hl with | [_, _, _], _ => rfl⟩
  obtain ⟨fd7, F7⟩ := c.def_ 7 (d := d_beneath) rfl
  have D_beneath : Df K mg "_law_beneath" s_beneath ["number", "one", "two"] := ⟨_, fd7, F7, He.glo_ok X G (c.fact 7 (f := .glo "_law_beneath") rfl), FunD.bindsN F7 fun _ _ _ _ _ _ us hl => match us, hl with | [_, _, _], _ => rfl⟩
  obtain ⟨fd8, F8⟩ := c.def_ 8 (d := d_kinds) rfl
  have D_kinds : Df K mg "_law_kinds" s_kinds ["error"] := ⟨_, fd8, F8, He.glo_ok X G (c.fact 8 (f := .glo "_law_kinds") rfl), FunD.bindsN F8 fun _ _ _ _ _ _ us hl => match us, hl with | [_], _ => rfl⟩
  obtain ⟨fd9, F9⟩ := c.def_ 9 (d := d_same) rfl
  have D_same : Df K mg "_law_same" s_same ["told", "due"] := ⟨_, fd9, F9, He.glo_ok X G (c.fact 9 (f := .glo "_law_same") rfl), FunD.bindsN F9 fun _ _ _ _ _ _ us hl => match us, hl with | [_, _], _ => rfl⟩
  obtain ⟨fd10, F10⟩ := c.def_ 10 (d := d_thing) rfl
  have D_thing : Df K mg "_law_thing" s_thing ["pool", "deep"] := ⟨_, fd10, F10, He.glo_ok X G (c.fact 10 (f := .glo "_law_thing") rfl), FunD.bindsN F10 fun _ _ _ _ _ _ us hl => match us, hl with | [_, _], _ => rfl⟩
  obtain ⟨fd11, F11⟩ := c.def_ 11 (d := d_whole) rfl
  have D_whole : Df K mg "_law_whole" s_whole ["number", "one", "two", "way"] := ⟨_, fd11, F11, He.glo_ok X G (c.fact 11 (f := .glo "_law_whole") rfl), FunD.bindsN F11 fun _ _ _ _ _ _ us hl => match us, hl with | [_, _, _, _], _ => rfl⟩
  obtain ⟨fd12, F12⟩ := c.def_ 12 (d := d_very) rfl
  have D_very : Df K mg "_law_very" s_very ["number", "way"] := ⟨_, fd12, F12, He.glo_ok X G (c.fact 12 (f := .glo "_law_very") rfl), FunD.bindsN F12 fun _ _ _ _ _ _ us hl => match us, hl with | [_, _], _ => rfl⟩
  obtain ⟨fd13, F13⟩ := c.def_ 13 (d := d_law) rfl
  have D_law : Df K mg "law" s_law ["script"] := ⟨_, fd13, F13, He.glo_ok X G (c.fact 13 (f := .glo "law") rfl), FunD.bindsN F13 fun _ _ _ _ _ _ us hl => match us, hl with | [_], _ => rfl⟩
  have D0 : DfI K 0 "BadName.__init__" := c.def_ 14 (d := i_0) rfl
  have D1 : DfI K 1 "BadRow.__init__" := c.def_ 15 (d := i_1) rfl
  have D2 : DfI K 2 "BadStore.__init__" := c.def_ 16 (d := i_2) rfl
  have D3 : DfI K 3 "BadHouse.__init__" := c.def_ 17 (d := i_3) rfl
  have D4 : DfI K 4 "BadQuestion.__init__" := c.def_ 18 (d := i_4) rfl
  have D5 : DfI K 5 "BadGift.__init__" := c.def_ 19 (d := i_5) rfl
  have D6 : DfI K 6 "BadPicks.__init__" := c.def_ 20 (d := i_6) rfl
  have D7 : DfI K 7 "BadPlan.__init__" := c.def_ 21 (d := i_7) rfl
  have D8 : DfI K 8 "BadPrices.__init__" := c.def_ 22 (d := i_8) rfl
  have D9 : DfI K 9 "BadHands.__init__" := c.def_ 23 (d := i_9) rfl
  have D10 : DfI K 10 "BadLog.__init__" := c.def_ 24 (d := i_10) rfl
  have D11 : DfI K 11 "BadText.__init__" := c.def_ 25 (d := i_11) rfl
  have D12 : DfI K 12 "BadStep.__init__" := c.def_ 26 (d := i_12) rfl
  have D13 : DfI K 13 "Broken.__init__" := c.def_ 27 (d := i_13) rfl
  have D14 : DfI K 14 "NoSuch.__init__" := c.def_ 28 (d := i_14) rfl
  have D15 : DfI K 15 "Taken.__init__" := c.def_ 29 (d := i_15) rfl
  have D16 : DfI K 16 "BadCommand.__init__" := c.def_ 30 (d := i_16) rfl
  have B : Tb mg := { n_len := He.free_ok X G (c.fact 14 (f := .free "len") rfl), n_int := He.free_ok X G (c.fact 15 (f := .free "int") rfl), n_abs := He.free_ok X G (c.fact 16 (f := .free "abs") rfl), n_range := He.free_ok X G (c.fact 17 (f := .free "range") rfl), n_isinstance := He.free_ok X G (c.fact 18 (f := .free "isinstance") rfl), n_list := He.free_ok X G (c.fact 19 (f := .free "list") rfl), n_zip := He.free_ok X G (c.fact 20 (f := .free "zip") rfl), n_tuple := He.free_ok X G (c.fact 21 (f := .free "tuple") rfl), n_bool := He.free_ok X G (c.fact 22 (f := .free "bool") rfl), n_str := He.free_ok X G (c.fact 23 (f := .free "str") rfl), n_ValueError := He.free_ok X G (c.fact 24 (f := .free "ValueError") rfl), n_LookupError := He.free_ok X G (c.fact 25 (f := .free "LookupError") rfl), n_ArithmeticError := He.free_ok X G (c.fact 26 (f := .free "ArithmeticError") rfl), n_TypeError := He.free_ok X G (c.fact 27 (f := .free "TypeError") rfl), n_RuntimeError := He.free_ok X G (c.fact 28 (f := .free "RuntimeError") rfl), n_AttributeError := He.free_ok X G (c.fact 29 (f := .free "AttributeError") rfl) }
  have I : ∀ (base : Heap) (n : Nat), n < 17 → InitOk P w K mg base n := fun base n hn => match n, hn with
    | 0, _ => ok_i0 D0 T
    | 1, _ => ok_i1 D1 T
    | 2, _ => ok_i2 D2 T
    | 3, _ => ok_i3 D3 T
    | 4, _ => ok_i4 D4 T
    | 5, _ => ok_i5 D5 T
    | 6, _ => ok_i6 D6 T
    | 7, _ => ok_i7 D7 T
    | 8, _ => ok_i8 D8 T
    | 9, _ => ok_i9 D9 T
    | 10, _ => ok_i10 D10 T
    | 11, _ => ok_i11 D11 T
    | 12, _ => ok_i12 D12 T
    | 13, _ => ok_i13 D13 T
    | 14, _ => ok_i14 D14 T
    | 15, _ => ok_i15 D15 T
    | 16, _ => ok_i16 D16 T
    | n + 17, hn => absurd hn (by omega)
  have e2 := hfa.symm.trans (He.glo_ok X G (c.fact 13 (f := .glo "law") rfl))
  cases e2
  have b := FunD.bindsA (ps := ["script"]) F13 fun _ _ _ _ _ _ us hl => match us, hl with | [_], _ => rfl
  refine ⟨fd13, fun s v => b s [v] rfl, fun base _ _ => ?_⟩
  have G_take := ok_take (P := P) (w := w) (base := base) D_take B
  have G_pool := ok_pool (P := P) (w := w) (base := base) D_pool B
  have G_thing := ok_thing D_thing B G_take 3
  have G_same := ok_same (P := P) (w := w) (base := base) D_same B
  have G_made := ok_made D_made T (I base)
  have G_fields := ok_fields (P := P) (w := w) (base := base) D_fields T
  have G_raise := ok_raise D_raise T (I base)
  have G_caught := ok_caught D_caught T B G_raise
  have G_turned := ok_turned D_turned T B G_raise
  have G_beneath := ok_beneath D_beneath T B G_raise
  have G_kinds := ok_kinds (P := P) (w := w) (base := base) D_kinds T B
  have G_whole := ok_whole D_whole T B G_made G_kinds G_same G_fields G_caught G_turned G_beneath
  have G_very := ok_very D_very T B G_made G_same G_fields
  exact ok_law F13 T B G_pool G_take G_thing G_made G_same G_fields G_whole G_very
end K99
open PySem PySem.W PySem.Calls PyProof.Rows
theorem PySem.Challenge.cw_throughdoors_k99_whole_errors_holds : PySem.Challenge.rw_throughdoors_k99_whole_errors.Holds := by
  w_on; o_law
  refine HandSHeadRun.head_any (r := OpenLaw.row PySem.Challenge.rw_throughdoors_k99_whole_errors) (q := view (OpenLaw.row PySem.Challenge.rw_throughdoors_k99_whole_errors).prog [34]) (H := K99.hk) (ob := K99.ob) (M := 20000) (loose := K99.loose) (d := HandSHeadRun.topDef (OpenLaw.row PySem.Challenge.rw_throughdoors_k99_whole_errors).prog 34) (kwd := []) K99.ob_eq
    (by kernel_rfl) (fun s => by kernel_rfl) K99.run (by kernel_rfl) (by kernel_rfl) (by kernel_rfl) (by rfl) (by first | assumption | decide +kernel) (by decide +kernel) ⟨rfl, rfl, rfl, rfl, rfl, by decide +kernel⟩ ?hw ?hc
  case hw => w_witness2
  case hc =>
    refine L2.walk_ofE (l := PySem.Challenge.rw_throughdoors_k99_whole_errors) (n := 63) (k := 6) (x := "script") (CX := L2.CX0) rfl (by decide) (by kernel_rfl) ⟨rfl, by decide, by decide⟩ ?F (fun _ _ _ _ z => z)
    intro w mg fa h Y G hmg0
    obtain ⟨K, KX, c, ce⟩ := Y
    have hmg : mg ("law" : PySem.Str) = some (.ref fa) := by
      have e : (HandSHeadRun.topDef (OpenLaw.row PySem.Challenge.rw_throughdoors_k99_whole_errors).prog 34).name = ("law" : PySem.Str) := by kernel_rfl
      rw [← e]
      exact hmg0
    obtain ⟨fd, hb, hF⟩ := K99.facts (P := (PySem.Challenge.rw_throughdoors_k99_whole_errors).prog) (w := w) KX G hmg c ce
    exact ⟨K, fd, K99.spLaw K, KX, hb, fun H a ns hl _ hS => ⟨a, ns, rfl, hS, hl, fun _ => rfl⟩, hF⟩
