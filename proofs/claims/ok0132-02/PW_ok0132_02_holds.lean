import PyProof.Rows.All
import Wide.All
import OpenK.AllK
import Wide.FinOn
import PySem.Challenge.RW_ok0132_02
set_option Elab.async false
set_option linter.unusedVariables false
set_option linter.unusedSectionVars false
set_option linter.unusedSimpArgs false
set_option rowWalk.seconds 0
set_option compiler.extract_closed false
section
open PySem PySem.W PyProof.Rows PySem.Calls
set_option maxRecDepth 100000
namespace Mine
def topRunT (den : Code → Sem Fin) (sT : (Code → Sem Fin) → Program → World → SharedT → Thread → Option (SharedT × Thread)) (ok : Nat → Option Value → Thread → Bool) (p : Program) (w : World) (n₀ : Nat) (ann : Option Value) : Nat → SharedT → Thread → Option SharedT
  | 0, _, _ => none
  | n + 1, s, t => match through t with
    | true => some s
    | false => match ok n₀ ann t with
      | false => none
      | true => match sT den p w s t with
        | some (s', t') => topRunT den sT ok p w n₀ ann n s' t'
        | none => none
theorem topRunT_of {tb : String → Option Builtin} {p : Program} {w : World} {n₀ : Nat} {ann : Option Value} : ∀ {n : Nat} {s s' : SharedT} {t : Thread}, topRunT (denote tb) stepT stepOk p w n₀ ann n s t = some s' → topRun tb p w n₀ ann n s.abs t = some s'.abs
  | 0, _, _, _, h => by cases h
  | n + 1, s, s', t, h => by
    unfold topRunT at h
    unfold topRun
    cases ht : through t with
    | true => rw [ht] at h; cases h; rfl
    | false =>
      rw [ht] at h
      cases hk : stepOk n₀ ann t with
      | false => rw [hk] at h; cases h
      | true =>
        rw [hk] at h
        cases hs : stepT (denote tb) p w s t with
        | none => rw [hs] at h; cases h
        | some r => obtain ⟨s₂, t₂⟩ := r; rw [hs] at h; dsimp only; rw [stepT_spec hs]; exact topRunT_of h
def treeOf (l : List Obj) : BT × Nat := l.foldl (fun x o => (x.1.ins x.2 o, x.2 + 1)) (BT.nil, 0)
noncomputable def boot (P : Params) (os : OsState) : SharedT := ⟨(treeOf (boot_heap P).objs.toList).1, (boot_heap P).objs.size, (boot_heap P).life, Array.mk [], boot_drawn, boot_toks, os⟩
theorem boot_abs (P : Params) (os : OsState) : (boot P os).abs = ⟨boot_heap P, Array.mk [], boot_drawn, boot_toks, os⟩ := by kernel_rfl
theorem left_of {p q : Program} {loose : List Str} {Xt : Shared → Bool} {α : Type} {Yf : Shared → α} {Ya : World → α} {N : Nat} {g0 : Bool}
    (e : opening p = plainProg p.main.scope.names) (hN : Nat.ble 600 N = true) (f : ∀ s, fenceModules? p s = some s)
    (size : ∀ w : World, (boot_heap w.params).isNs mainGlobals = true)
    (h : ∀ (w : World) (os : OsState), (topRunT (Fast.tw11892475500146522536 Fast.tw14364793385576792824) Fast.tw10156331382660048174 Fast.tw6613529449190102663 p w (boot_heap w.params).objs.size ((boot_heap w.params).nsMap mainGlobals "__annotations__") N (boot w.params os) (topStub p)).map
        (fun s => (staticsOk (Fast.tw5923862056798008813 p.main.body) (boot_heap w.params) s.abs.heap && namesBound p s.abs.heap && gensDone s.abs && laidKept (boot_heap w.params) s.abs.heap, Fast.tw4187177175401517315 q loose (Fast.tw5923862056798008813 p.main.body) Xt g0 s.abs, Yf s.abs)) =
      some (true, openGood q loose, Ya w)) : LeftO p q loose Xt Yf Ya N g0 := fun w => by
  obtain ⟨⟨hp, gs, d, k, os⟩, e1, e2⟩ := Option.map_eq_some_iff.mp (boot_open e hN f w)
  obtain ⟨rfl, rfl, rfl, rfl⟩ : hp = boot_heap w.params ∧ gs = Array.mk [] ∧ d = boot_drawn ∧ k = boot_toks := by simpa using e2
  have h := h w os
  rw [← Fast.te11892475500146522536, ← Fast.te14364793385576792824, ← Fast.te10156331382660048174, ← Fast.te6613529449190102663, ← Fast.te5923862056798008813, ← Fast.te4187177175401517315] at h
  obtain ⟨s, r, l⟩ := Option.map_eq_some_iff.mp h
  obtain ⟨l1, l2, l3⟩ : _ ∧ _ ∧ _ := by simpa only [Prod.mk.injEq] using l
  have r := topRunT_of r
  rw [boot_abs] at r
  have t : topFrom treeTable p w N ⟨boot_heap w.params, Array.mk [], boot_drawn, boot_toks, os⟩ = some s.abs := by
    unfold topFrom
    dsimp only
    rw [size w, show ((Array.mk [] : Array GenState).size == 0) = true from rfl, r]
    show (match staticsOk (importedModules p.main.body) (boot_heap w.params) s.abs.heap && namesBound p s.abs.heap && gensDone s.abs && laidKept (boot_heap w.params) s.abs.heap with | true => _ | false => _) = _
    rw [l1]
  unfold openEnds
  rw [e1]
  show (topFrom treeTable p w N _).map _ = _
  rw [t]
  exact congrArg some (Prod.ext l2 l3)
abbrev lawProg := PySem.Challenge.pw_ok0132_02
abbrev lawRow := PySem.Challenge.rw_ok0132_02
noncomputable def vw : Program := { lawProg with main := { lawProg.main with body := [1, 2, 3, 4, 6, 7, 8, 9, 10, 12, 14, 15, 16, 17, 18, 19, 20, 21, 22].filterMap fun i => lawProg.main.body[i]? } }
theorem said : lawRow.wellSaid = true := by
  rw [Fast.te9446332074065402090]
  kernel_rfl
local macro_rules | `(tactic| o_law) => `(tactic| refine holds_law said fun said => ?_)
local macro_rules | `(tactic| o_head $H) => `(tactic| refine' holds_open (q := vw) (loose := []) (Xt := fun s => xlAt vw [] s && recOk (RowW.records lawRow.row.toRowW) s) (XP := XL vw []) (Yf := Hook.obs $H) (Ya := Hook.val $H) (YP := Hook.says $H) (N := 3848) (left_of (by kernel_rfl) (by decide) (by intro s; kernel_rfl) (by intro w; kernel_rfl) (by intro w os; kernel_rfl)) (Hook.of $H) (Hook.keeps $H) (fun s e => xl_of s (Bool.and_eq_true_iff.mp e).1) XL.keeps (by rfl) (by rfl) (by rfl) (fun s e => recFacts_of (Bool.and_eq_true_iff.mp e).2) (by rfl) (by first | assumption | decide +kernel) (by decide +kernel) ⟨rfl, rfl, rfl, rfl, rfl, by decide +kernel⟩ ?hw ?hc)
set_option maxRecDepth 100000 in
set_option maxHeartbeats 8000000 in
open_top hdx for PySem.Challenge.rw_ok0132_02
end Mine
end
section
namespace Mine
theorem chS {p q : Nat} (h : p < q) : p ≠ q + 1 := Nat.ne_of_lt (Nat.lt_succ_of_lt h)
theorem chS2 {p q : Nat} (h : p < q) : p ≠ q + 1 + 1 := Nat.ne_of_lt (Nat.lt_succ_of_lt (Nat.lt_succ_of_lt h))
theorem andL0 {p q : Nat} {B : Prop} (h : p < q ∧ B) : p ≠ q := Nat.ne_of_lt h.1
theorem andG0 {p q : Nat} {B : Prop} (h : p < q ∧ B) : q ≠ p := Nat.ne_of_gt h.1
theorem andS0 {p q : Nat} {B : Prop} (h : p < q ∧ B) : p ≠ q + 1 + 1 := chS2 h.1
theorem andL1 {p q : Nat} {A0 B : Prop} (h : A0 ∧ p < q ∧ B) : p ≠ q := Nat.ne_of_lt h.2.1
theorem andG1 {p q : Nat} {A0 B : Prop} (h : A0 ∧ p < q ∧ B) : q ≠ p := Nat.ne_of_gt h.2.1
theorem andS1 {p q : Nat} {A0 B : Prop} (h : A0 ∧ p < q ∧ B) : p ≠ q + 1 + 1 := chS2 h.2.1
theorem andL2 {p q : Nat} {A0 A1 B : Prop} (h : A0 ∧ A1 ∧ p < q ∧ B) : p ≠ q := Nat.ne_of_lt h.2.2.1
theorem andG2 {p q : Nat} {A0 A1 B : Prop} (h : A0 ∧ A1 ∧ p < q ∧ B) : q ≠ p := Nat.ne_of_gt h.2.2.1
theorem andS2 {p q : Nat} {A0 A1 B : Prop} (h : A0 ∧ A1 ∧ p < q ∧ B) : p ≠ q + 1 + 1 := chS2 h.2.2.1
theorem andL3 {p q : Nat} {A0 A1 A2 B : Prop} (h : A0 ∧ A1 ∧ A2 ∧ p < q ∧ B) : p ≠ q := Nat.ne_of_lt h.2.2.2.1
theorem andG3 {p q : Nat} {A0 A1 A2 B : Prop} (h : A0 ∧ A1 ∧ A2 ∧ p < q ∧ B) : q ≠ p := Nat.ne_of_gt h.2.2.2.1
theorem andS3 {p q : Nat} {A0 A1 A2 B : Prop} (h : A0 ∧ A1 ∧ A2 ∧ p < q ∧ B) : p ≠ q + 1 + 1 := chS2 h.2.2.2.1
theorem andL4 {p q : Nat} {A0 A1 A2 A3 B : Prop} (h : A0 ∧ A1 ∧ A2 ∧ A3 ∧ p < q ∧ B) : p ≠ q := Nat.ne_of_lt h.2.2.2.2.1
theorem andG4 {p q : Nat} {A0 A1 A2 A3 B : Prop} (h : A0 ∧ A1 ∧ A2 ∧ A3 ∧ p < q ∧ B) : q ≠ p := Nat.ne_of_gt h.2.2.2.2.1
theorem andS4 {p q : Nat} {A0 A1 A2 A3 B : Prop} (h : A0 ∧ A1 ∧ A2 ∧ A3 ∧ p < q ∧ B) : p ≠ q + 1 + 1 := chS2 h.2.2.2.2.1
theorem andL5 {p q : Nat} {A0 A1 A2 A3 A4 B : Prop} (h : A0 ∧ A1 ∧ A2 ∧ A3 ∧ A4 ∧ p < q ∧ B) : p ≠ q := Nat.ne_of_lt h.2.2.2.2.2.1
theorem andG5 {p q : Nat} {A0 A1 A2 A3 A4 B : Prop} (h : A0 ∧ A1 ∧ A2 ∧ A3 ∧ A4 ∧ p < q ∧ B) : q ≠ p := Nat.ne_of_gt h.2.2.2.2.2.1
theorem andS5 {p q : Nat} {A0 A1 A2 A3 A4 B : Prop} (h : A0 ∧ A1 ∧ A2 ∧ A3 ∧ A4 ∧ p < q ∧ B) : p ≠ q + 1 + 1 := chS2 h.2.2.2.2.2.1
theorem andL6 {p q : Nat} {A0 A1 A2 A3 A4 A5 B : Prop} (h : A0 ∧ A1 ∧ A2 ∧ A3 ∧ A4 ∧ A5 ∧ p < q ∧ B) : p ≠ q := Nat.ne_of_lt h.2.2.2.2.2.2.1
theorem andG6 {p q : Nat} {A0 A1 A2 A3 A4 A5 B : Prop} (h : A0 ∧ A1 ∧ A2 ∧ A3 ∧ A4 ∧ A5 ∧ p < q ∧ B) : q ≠ p := Nat.ne_of_gt h.2.2.2.2.2.2.1
theorem andS6 {p q : Nat} {A0 A1 A2 A3 A4 A5 B : Prop} (h : A0 ∧ A1 ∧ A2 ∧ A3 ∧ A4 ∧ A5 ∧ p < q ∧ B) : p ≠ q + 1 + 1 := chS2 h.2.2.2.2.2.2.1
theorem andL7 {p q : Nat} {A0 A1 A2 A3 A4 A5 A6 B : Prop} (h : A0 ∧ A1 ∧ A2 ∧ A3 ∧ A4 ∧ A5 ∧ A6 ∧ p < q ∧ B) : p ≠ q := Nat.ne_of_lt h.2.2.2.2.2.2.2.1
theorem andG7 {p q : Nat} {A0 A1 A2 A3 A4 A5 A6 B : Prop} (h : A0 ∧ A1 ∧ A2 ∧ A3 ∧ A4 ∧ A5 ∧ A6 ∧ p < q ∧ B) : q ≠ p := Nat.ne_of_gt h.2.2.2.2.2.2.2.1
theorem andS7 {p q : Nat} {A0 A1 A2 A3 A4 A5 A6 B : Prop} (h : A0 ∧ A1 ∧ A2 ∧ A3 ∧ A4 ∧ A5 ∧ A6 ∧ p < q ∧ B) : p ≠ q + 1 + 1 := chS2 h.2.2.2.2.2.2.2.1
theorem andL8 {p q : Nat} {A0 A1 A2 A3 A4 A5 A6 A7 B : Prop} (h : A0 ∧ A1 ∧ A2 ∧ A3 ∧ A4 ∧ A5 ∧ A6 ∧ A7 ∧ p < q ∧ B) : p ≠ q := Nat.ne_of_lt h.2.2.2.2.2.2.2.2.1
theorem andG8 {p q : Nat} {A0 A1 A2 A3 A4 A5 A6 A7 B : Prop} (h : A0 ∧ A1 ∧ A2 ∧ A3 ∧ A4 ∧ A5 ∧ A6 ∧ A7 ∧ p < q ∧ B) : q ≠ p := Nat.ne_of_gt h.2.2.2.2.2.2.2.2.1
theorem andS8 {p q : Nat} {A0 A1 A2 A3 A4 A5 A6 A7 B : Prop} (h : A0 ∧ A1 ∧ A2 ∧ A3 ∧ A4 ∧ A5 ∧ A6 ∧ A7 ∧ p < q ∧ B) : p ≠ q + 1 + 1 := chS2 h.2.2.2.2.2.2.2.2.1
theorem andL9 {p q : Nat} {A0 A1 A2 A3 A4 A5 A6 A7 A8 B : Prop} (h : A0 ∧ A1 ∧ A2 ∧ A3 ∧ A4 ∧ A5 ∧ A6 ∧ A7 ∧ A8 ∧ p < q ∧ B) : p ≠ q := Nat.ne_of_lt h.2.2.2.2.2.2.2.2.2.1
theorem andG9 {p q : Nat} {A0 A1 A2 A3 A4 A5 A6 A7 A8 B : Prop} (h : A0 ∧ A1 ∧ A2 ∧ A3 ∧ A4 ∧ A5 ∧ A6 ∧ A7 ∧ A8 ∧ p < q ∧ B) : q ≠ p := Nat.ne_of_gt h.2.2.2.2.2.2.2.2.2.1
theorem andS9 {p q : Nat} {A0 A1 A2 A3 A4 A5 A6 A7 A8 B : Prop} (h : A0 ∧ A1 ∧ A2 ∧ A3 ∧ A4 ∧ A5 ∧ A6 ∧ A7 ∧ A8 ∧ p < q ∧ B) : p ≠ q + 1 + 1 := chS2 h.2.2.2.2.2.2.2.2.2.1
theorem andL10 {p q : Nat} {A0 A1 A2 A3 A4 A5 A6 A7 A8 A9 B : Prop} (h : A0 ∧ A1 ∧ A2 ∧ A3 ∧ A4 ∧ A5 ∧ A6 ∧ A7 ∧ A8 ∧ A9 ∧ p < q ∧ B) : p ≠ q := Nat.ne_of_lt h.2.2.2.2.2.2.2.2.2.2.1
theorem andG10 {p q : Nat} {A0 A1 A2 A3 A4 A5 A6 A7 A8 A9 B : Prop} (h : A0 ∧ A1 ∧ A2 ∧ A3 ∧ A4 ∧ A5 ∧ A6 ∧ A7 ∧ A8 ∧ A9 ∧ p < q ∧ B) : q ≠ p := Nat.ne_of_gt h.2.2.2.2.2.2.2.2.2.2.1
theorem andL11 {p q : Nat} {A0 A1 A2 A3 A4 A5 A6 A7 A8 A9 A10 B : Prop} (h : A0 ∧ A1 ∧ A2 ∧ A3 ∧ A4 ∧ A5 ∧ A6 ∧ A7 ∧ A8 ∧ A9 ∧ A10 ∧ p < q ∧ B) : p ≠ q := Nat.ne_of_lt h.2.2.2.2.2.2.2.2.2.2.2.1
theorem andG11 {p q : Nat} {A0 A1 A2 A3 A4 A5 A6 A7 A8 A9 A10 B : Prop} (h : A0 ∧ A1 ∧ A2 ∧ A3 ∧ A4 ∧ A5 ∧ A6 ∧ A7 ∧ A8 ∧ A9 ∧ A10 ∧ p < q ∧ B) : q ≠ p := Nat.ne_of_gt h.2.2.2.2.2.2.2.2.2.2.2.1
theorem chT {p q r : Nat} (k : q < r) (h : p < q) : p ≠ r := Nat.ne_of_lt (Nat.lt_trans h k)
theorem neS1 (p : Nat) : p ≠ p + 1 := (Nat.succ_ne_self p).symm
theorem neS2 (p : Nat) : p ≠ p + 1 + 1 := Nat.ne_of_lt (Nat.lt_succ_of_lt (Nat.lt_succ_self p))
theorem neT2 (p : Nat) : p + 1 + 1 ≠ p := (neS2 p).symm
theorem un1 {u m c k : Nat} (h : u + m < c) (e : Nat.ble k m = true) : u + k < c := Nat.lt_of_le_of_lt (Nat.add_le_add_left (Nat.le_of_ble_eq_true e) u) h
theorem un2 {u m c k l : Nat} (h : u + m < c) (e : Nat.ble (k + l) m = true) : u + k + l < c := by rw [Nat.add_assoc]; exact un1 h e
theorem un0 {u m c : Nat} (h : u + m < c) : u < c := Nat.lt_of_le_of_lt (Nat.le_add_right u m) h
theorem ltB {a b : Nat} (h : Nat.ble (a + 1) b = true) : a < b := Nat.le_of_ble_eq_true h
theorem ltC {a : Nat} (h : Nat.ble (a + 1) 9900 = true) : a < PySem.cLine := by rw [show PySem.cLine = 9900 from rfl]; exact Nat.le_of_ble_eq_true h
end Mine
end
section
open PySem Builtin Builtin.ObjectAttr
open PySem.W (Looks)
set_option maxRecDepth 100000
namespace Mine
section
variable {M : Model} {prog : Program} {w : World} {A : Around} {E : Value → Shared → Prop} {R : Result → Shared → Prop} {h : Heap} {g : Array GenState} {d : Drawn} {t : Nat} {os : OsState}
variable {nm q : PySem.Str} {C N : Addr} {bs bm : List Value} {hdct : Bool} {sn : List PySem.Str} {sub : List Value} {ab : Bool} {col : Option Bool} {dd : Option Addr} {k0 k1 k2 k3 k5 : Option Value}

theorem x_check_new {rest : List Value} {Q : Unit → Shared → Prop} (hcB : (Value.ref C :: bm).contains (.type "Exception") = true)
    (hC : h.get? C = some (excClassObj nm q C N bs bm hdct sn sub ab col dd k0 k1 k2 k3 k5 "Exception.__new__"))
    (hq : Q () ⟨h, g, d, t, os⟩) : wpAny M A (checkBuiltinCall "Exception.__new__" ⟨.ref C :: rest, []⟩) Q E ⟨h, g, d, t, os⟩ := by
  have F := PySem.F.excBase_Exception
  have hstar := F.noStar
  simp only [checkBuiltinCall, F.newKind, F.newSplit, F.newRow]
  repeat (first | refine wpAny_loadPart_at hC ?_ | (refine wpAny_isSubtype_exc hC ?_; rw [hcB]) | refine wpAny_staticBase_exc hC ?_ | refine wpAny_madeBy_exc hC ?_ | simp only [bne_self_eq_false, Bool.false_eq_true, if_false] | wp_step)
  exact hq

theorem x_new {rest : List Value} (hcB : (Value.ref C :: bm).contains (.type "Exception") = true) (hcA : (Value.ref C :: bm).contains (.type "AttributeError") = false)
    (hcN : (Value.ref C :: bm).contains (.type "NameError") = false)
    (hC : h.get? C = some (excClassObj nm q C N bs bm hdct sn sub ab col dd k0 k1 k2 k3 k5 "Exception.__new__"))
    (hq : R (.ok (.ret (.ref (h.objs.size + 1)))) ⟨(h.push { cls := .type "tuple", data := .seq rest.toArray }).push
      { cls := .ref C, data := .fields #[.ref h.objs.size, .none, .none, .none, .bool false, .none] }, g, d, t, os⟩) (hrest : rest.length ≤ sizeLine := by size_fits) :
    codeAny (model prog w) A (.builtin "Exception.__new__" ⟨.ref C :: rest, []⟩) R ⟨h, g, d, t, os⟩ := by
  have F := PySem.F.excBase_Exception
  have hends := F.ends
  refine codeAny_builtinAt F.entry ?_
  unfold Builtin.«BaseException.__new__»
  refine wpAt_bind ?_
  show wpAt _ _ _ (stack >>= _) _ _ _
  refine wpAt_bind (wpAt_stack fun p below => wpAt_of_wpAny ?_)
  wp_walk
  refine wpAt_of_wpAny ?_
  rw [F.owner]
  repeat (first | with_reducible refine wpAny_madeHere_exc F.canon hC ?_ | with_reducible refine wpAny_loadPart_at hC ?_ | (with_reducible refine wpAny_isSubtype_exc hC ?_; first | rw [hcB] | rw [hcA] | rw [hcN]) | wp_step)
  show R _ _
  rw [Heap.size_push]
  exact hq

theorem x_type_call {rest : List Value} {fI : Addr} {oI : Obj} {Q : Fin → Shared → Prop} (hcB : (Value.ref C :: bm).contains (.type "Exception") = true) (hcA : (Value.ref C :: bm).contains (.type "AttributeError") = false)
    (hcN : (Value.ref C :: bm).contains (.type "NameError") = false)
    (hC : h.get? C = some (excClassObj nm q C N bs bm hdct sn sub ab col dd k0 k1 k2 k3 k5 "Exception.__new__")) (hi : Looks (model prog w) h (typeLookup (.ref C) "__init__") (some (.ref fI)))
    (hfI : h.get? fI = some oI) (hfc : oI.cls = .type "function")
    (hq : ∀ h' e, Heap.MadeExcOf h h' e (.ref C) rest →
      wpAny (model prog w) A (call (.ref fI) (.ref e :: rest)) (fun r s' => r = .none ∧ Q (.done (.ret (.ref e))) s') E ⟨h', g, d, t, os⟩) (hrest : rest.length ≤ sizeLine := by size_fits) :
    wpAny (model prog w) A (Builtin.«type.__call__» ⟨.ref C :: rest, []⟩) Q E ⟨h, g, d, t, os⟩ := by
  have F := PySem.F.excBase_Exception
  repeat (first | with_reducible refine wpAny_loadPart_at hC ?_ | with_reducible refine wpAny_madeBy_exc hC ?_ | wp_step)
  refine codeAny_call_builtin_code (Code.quiet_builtin _ F.quiet) (x_check_new hcB hC ?_)
  refine x_new hcB hcA hcN hC ?_ hrest
  show wpAny _ _ _ _ _ _
  have hC₁ := Heap.get?_push_of_some { cls := .ref C, data := .fields #[.ref h.objs.size, .none, .none, .none, .bool false, .none] }
    (Heap.get?_push_of_some { cls := .type "tuple", data := .seq rest.toArray } hC)
  have hfI₁ := Heap.get?_push_of_some { cls := .ref C, data := .fields #[.ref h.objs.size, .none, .none, .none, .bool false, .none] }
    (Heap.get?_push_of_some { cls := .type "tuple", data := .seq rest.toArray } hfI)
  have hget : ((h.push { cls := .type "tuple", data := .seq rest.toArray }).push
      { cls := .ref C, data := .fields #[.ref h.objs.size, .none, .none, .none, .bool false, .none] }).get? (h.objs.size + 1) = some
      { cls := .ref C, data := .fields #[.ref h.objs.size, .none, .none, .none, .bool false, .none] } := by heap_get
  have hcC : (Value.ref C :: bm).contains (.ref C) = true := by simp
  unfold isInstance
  repeat (first | with_reducible refine wpAny_loadPart_at hget ?_ | (with_reducible refine wpAny_isSubtype_exc hC₁ ?_; rw [hcC]) | wp_step)
  show wpAny _ _ (typeLookup (.ref C) _) _ _ _
  refine hi _ _ _ _ (fun b o hb => Heap.get?_push_of_some _ (Heap.get?_push_of_some _ hb)) ?_
  refine wpAny_holding (wpAny_bind ?_)
  unfold bindSpecial
  refine wpAny_bind (wpAny_typeOf (T := "function") ⟨_, hfI₁, hfc⟩ ?_)
  rw [if_pos (by decide)]
  refine wpAny_pure (wpAny_bind (wpAny_mono (hq _ (h.objs.size + 1) ⟨fun b o hb => Heap.get?_push_of_some _ (Heap.get?_push_of_some _ hb), Heap.get?_none_of_le (Nat.le_succ _), h.objs.size, hget, Heap.get?_none_of_le (Nat.le_refl _), ?_⟩) (fun r s' hr => ?_) fun _ _ x => x))
  · exact Heap.get?_push_of_some _ (Heap.get?_push_at rfl rfl)
  · obtain ⟨rfl, hQ⟩ := hr
    wp_walk
    exact hQ

theorem x_call {rest : List Value} {fI : Addr} {oI : Obj} {Q : Value → Shared → Prop} (hcB : (Value.ref C :: bm).contains (.type "Exception") = true) (hcA : (Value.ref C :: bm).contains (.type "AttributeError") = false)
    (hcN : (Value.ref C :: bm).contains (.type "NameError") = false)
    (hC : h.get? C = some (excClassObj nm q C N bs bm hdct sn sub ab col dd k0 k1 k2 k3 k5 "Exception.__new__")) (hi : Looks (model prog w) h (typeLookup (.ref C) "__init__") (some (.ref fI)))
    (hfI : h.get? fI = some oI) (hfc : oI.cls = .type "function")
    (hq : ∀ h' e, Heap.MadeExcOf h h' e (.ref C) rest →
      wpAny (model prog w) (A.under (.builtin "type.__call__" ⟨.ref C :: rest, []⟩)) (call (.ref fI) (.ref e :: rest)) (fun r s' => r = .none ∧ Q (.ref e) s') E ⟨h', g, d, t, os⟩) (hrest : rest.length ≤ sizeLine := by size_fits) :
    wpAny (model prog w) A (call (.ref C) rest) Q E ⟨h, g, d, t, os⟩ := by
  have f1 := tc_lookup
  have f2 := tc_bind (.ref C)
  have hT : (⟨h, g, d, t, os⟩ : Shared).TypeIs (.ref C) "type" := ⟨_, hC, rfl⟩
  refine wpAny_call (codeAny_of_tree ?_)
  show wpAny _ _ (callAny (.ref C) _) _ _ _
  repeat (any_goals (first | assumption | with_reducible refine wpAny_loadPart_at hC ?_ | wp_step))
  refine ⟨rfl, ?_⟩
  refine codeAny_call_builtin_at (Code.quiet_builtin _ (by decide +kernel)) entry_typeCall (wpAny_check_type_call_sub hC (x_type_call (hrest := hrest) hcB hcA hcN hC hi hfI hfc fun h' e hm => ?_))
  exact hq h' e hm
end
end Mine
end
section
open PySem Builtin Builtin.ObjectAttr
open PySem.W (Looks)
set_option maxRecDepth 100000
namespace Mine
abbrev excObj (C t : Addr) : Obj := { cls := .ref C, data := .fields #[.ref t, .none, .none, .none, .bool false, .none] }
abbrev tupObj (vs : List Value) : Obj := { cls := .type "tuple", data := .seq vs.toArray }
section
variable {M : Model} {prog : Program} {w : World} {A : Around} {E : Value → Shared → Prop} {R : Result → Shared → Prop} {h : Heap} {g : Array GenState} {d : Drawn} {t : Nat} {os : OsState}
variable {nm q : PySem.Str} {C N : Addr} {bs bm : List Value} {hdct : Bool} {sn : List PySem.Str} {sub : List Value} {ab : Bool} {col : Option Bool} {dd : Option Addr} {k0 k1 k2 k3 k5 : Option Value}

theorem x_check_init {e : Addr} {oe : Obj} {rest : List Value} {Q : Unit → Shared → Prop} (hcB : (Value.ref C :: bm).contains (.type "Exception") = true)
    (hC : h.get? C = some (excClassObj nm q C N bs bm hdct sn sub ab col dd k0 k1 k2 k3 k5 "Exception.__new__")) (he : h.get? e = some oe) (hcls : oe.cls = .ref C) (hq : Q () ⟨h, g, d, t, os⟩) :
    wpAny M A (checkBuiltinCall "Exception.__init__" ⟨.ref e :: rest, []⟩) Q E ⟨h, g, d, t, os⟩ := by
  have F := PySem.F.excBase_Exception
  have hshort := F.noStar
  simp only [checkBuiltinCall, F.initKind, F.initSplit, F.initRow]
  repeat (first | (with_reducible refine wpAny_loadPart_at he ?_; rw [hcls]) | with_reducible refine wpAny_loadPart_at hC ?_ | (with_reducible refine wpAny_isSubtype_exc hC ?_; rw [hcB]) | wp_step)
  refine wpAny_onRaise ?_
  rw [show ∀ (a b : String) (n : Nat), Bind.check ⟨.positional, "*", "Exception", .self, [⟨"args", .varPos, false⟩]⟩ a b n (List.map (fun x => x.fst) ({ pos := Value.ref e :: rest } : Args).kw) = pure () from
    fun a b n => check_star_args _ _ _ _ _ _]
  exact wpAny_pure hq

theorem x_base_init {e tt : Addr} {v : Value} {Q : Value → Shared → Prop} (hcB : (Value.ref C :: bm).contains (.type "Exception") = true)
    (hC : h.get? C = some (excClassObj nm q C N bs bm hdct sn sub ab col dd k0 k1 k2 k3 k5 "Exception.__new__")) (he : h.get? e = some (excObj C tt))
    (hq : ∀ h' t2, (∀ b o, b ≠ e → h.get? b = some o → h'.get? b = some o) → h'.get? e = some (excObj C t2) → h'.get? t2 = some (tupObj [v]) → h.get? t2 = none → Q .none ⟨h', g, d, t, os⟩) :
    wpAny (model prog w) A (call (.builtin "Exception.__init__") [.ref e, v]) Q E ⟨h, g, d, t, os⟩ := by
  have F := PySem.F.excBase_Exception
  refine wpAny_call (codeAny_call_builtin F.init.plain F.initEntry (x_check_init hcB hC he rfl ?_))
  wp_walk
  have hes : e ≠ h.objs.size := Nat.ne_of_lt (Heap.lt_size he)
  refine hq _ h.objs.size (fun b o hb ho => ?_) ?_ ?_ (Heap.get?_none_of_le (Nat.le_refl _))
  · rw [Heap.get?_update_other _ _ (Ne.symm hb)]
    exact Heap.get?_push_of_some _ ho
  · rw [Heap.get?_update_self _ (Heap.get?_push_of_some _ he) rfl]
    rfl
  · rw [Heap.get?_update_other _ _ hes]
    exact Heap.get?_push_at rfl rfl
end
end Mine
end
section
open PySem Builtin Builtin.ObjectAttr
open PySem.W (Looks)
set_option maxRecDepth 100000
namespace Mine
section
variable {M : Model} {prog : Program} {w : World} {A : Around} {E : Value → Shared → Prop} {R : Result → Shared → Prop} {h : Heap} {g : Array GenState} {d : Drawn} {t : Nat} {os : OsState}
variable {nm q : PySem.Str} {C N : Addr} {bs bm : List Value} {sn : List PySem.Str} {sub : List Value} {ab : Bool} {col : Option Bool} {dd : Option Addr} {k0 k1 k2 k3 k5 : Option Value}

theorem x_check_sa {x : Addr} {o : Obj} {nameV v : Value} {Q : Unit → Shared → Prop} (hcO : (Value.ref C :: bm).contains (.type "object") = true)
    (hC : h.get? C = some (excClassObj nm q C N bs bm true sn sub ab col dd k0 k1 k2 k3 k5 "Exception.__new__")) (hx : h.get? x = some o) (hc : o.cls = .ref C) (hq : Q () ⟨h, g, d, t, os⟩) :
    wpAny M A (checkBuiltinCall "object.__setattr__" ⟨[.ref x, nameV, v], []⟩) Q E ⟨h, g, d, t, os⟩ := by
  have SF := PySem.F.store_Exception
  have ha := SF.args (.ref x) nameV v
  simp only [checkBuiltinCall, SF.kind, SF.split]
  refine wpAny_bind ?_
  · unfold isInstance
    repeat (first | (with_reducible refine wpAny_loadPart_at hx ?_; rw [hc]) | (with_reducible refine wpAny_isSubtype_exc hC ?_; rw [hcO]) | wp_step)
    exact hq

theorem x_store {x : Addr} {o : Obj} {name : PySem.Str} {tk : Tok} {v : Value} {Q : Fin → Shared → Prop}
    (hC : h.get? C = some (excClassObj nm q C N bs bm true sn sub ab col dd k0 k1 k2 k3 k5 "Exception.__new__"))
    (LN : Looks (model prog w) h (typeLookup (.ref C) name) none) (hpass : refuseLoop (.ref x) "__setattr__" (.ref C :: bm) = pure ())
    (hx : h.get? x = some o) (hc : o.cls = .ref C) (hdn : o.dict = none) (hnc : ∀ c, o.data ≠ .cls c)
    (hq : ∀ h' tk' dx, (∀ b o', b ≠ x → h.get? b = some o' → h'.get? b = some o') → h'.get? x = some { o with dict := some dx } → h.get? dx = none → dx ≠ x → (∃ od, h'.get? dx = some od) → Q (.done (.ret .none)) ⟨h', g, d, tk', os⟩) :
    wpAny (model prog w) A (Builtin.«object.__setattr__» ⟨[.ref x, .str name tk, v], []⟩) Q E ⟨h, g, d, t, os⟩ := by
  unfold Builtin.«object.__setattr__»
  repeat (first | rw [refuse_eq] | (rw [hpass]) | (with_reducible refine wpAny_loadPart_at hx ?_; rw [hc]) | with_reducible refine wpAny_mroOf_exc hC ?_ | (with_reducible refine LN.at ?_) | wp_step)
  rw [hdn, if_neg (by simp [typeHasDict])]
  split
  · rename_i hcd
    cases hcd
  split
  · rename_i c hcd
    exact absurd hcd (hnc c)
  · have hx₁ : (h.push { cls := .type "dict", data := .dict #[] }).get? x = some o := Heap.get?_push_of_some _ hx
    have hxs : x ≠ h.objs.size := Nat.ne_of_lt (Heap.lt_size hx)
    refine wpAny_bind (wpAny_alloc' ?_)
    refine wpAny_bind (wpAny_update' hx₁ ?_)
    refine wpAny_pure ?_
    have hgd : ((h.push { cls := .type "dict", data := .dict #[] }).update x fun o => { cls := o.cls, dict := some h.objs.size, data := o.data, slots := o.slots }).get? h.objs.size
        = some { cls := .type "dict", data := .dict #[] } :=
      (Heap.get?_update_ne _ _ _ _ hxs.symm).trans (Heap.get?_push_at rfl rfl)
    have hnd : ((h.push { cls := .type "dict", data := .dict #[] }).update x fun o => { cls := o.cls, dict := some h.objs.size, data := o.data, slots := o.slots }).Ns h.objs.size (fun _ => none) :=
      ⟨_, #[], _, hgd, rfl, fun e he => absurd he (by simp), fun _ => rfl⟩
    show wpAny _ _ (storeInDict h.objs.size (.str name tk) name v) _ _ _
    unfold storeInDict newKeyGuard
    refine wpAny_bind (wpAny_pure (wpAny_bind (wpAny_nsSet1 (Heap.Ns1.of_empty hnd) fun h' hn' hs => ?_)))
    obtain ⟨oD, esD, epD, hoD, hdD, hcD⟩ := hn'.count (Within.cons name v Within.nil)
    refine wpAny_bind (wpAny_lookBehind hoD (by rw [hdD]; exact pastItsLine_dict (Nat.le_trans hcD (by rw [List.length_cons, List.length_nil, sizeLine_eq]; (first | lia | omega)))) ?_)
    wp_walk
    refine hq h' _ h.objs.size (fun b ob hbx hb => ?_) ?_ (Heap.get?_none_of_le (Nat.le_refl _)) hxs.symm ⟨oD, hoD⟩
    · exact (hs.2 b (Nat.ne_of_lt (Heap.lt_size hb))).trans ((Heap.get?_update_ne _ _ _ _ hbx).trans (Heap.get?_push_of_some _ hb))
    · refine (hs.2 x hxs).trans (Heap.get?_update_self _ hx₁ ?_)
      have hfr := (Heap.get?_some_iff.mp hx).2
      obtain ⟨oc, od, odt, osl⟩ := o
      cases odt <;> first | rfl | exact hfr

theorem x_setattr {x : Addr} {o : Obj} {name : PySem.Str} {v : Value} {Q : Unit → Shared → Prop} (hcO : (Value.ref C :: bm).contains (.type "object") = true)
    (hC : h.get? C = some (excClassObj nm q C N bs bm true sn sub ab col dd k0 k1 k2 k3 k5 "Exception.__new__"))
    (LS : Looks (model prog w) h (typeLookup (.ref C) "__setattr__") (some (.builtin "object.__setattr__")))
    (LN : Looks (model prog w) h (typeLookup (.ref C) name) none) (hpass : refuseLoop (.ref x) "__setattr__" (.ref C :: bm) = pure ())
    (hx : h.get? x = some o) (hc : o.cls = .ref C) (hdn : o.dict = none) (hnc : ∀ c, o.data ≠ .cls c)
    (hq : ∀ h' tk' dx, (∀ b o', b ≠ x → h.get? b = some o' → h'.get? b = some o') → h'.get? x = some { o with dict := some dx } → h.get? dx = none → dx ≠ x → (∃ od, h'.get? dx = some od) → Q () ⟨h', g, d, tk', os⟩) :
    wpAny (model prog w) A (setAttr (.ref x) name v) Q E ⟨h, g, d, t, os⟩ := by
  have SF := PySem.F.store_Exception
  have f3 := SF.slot.bind (.ref x)
  unfold setAttr callSpecial? specialOf
  repeat (any_goals (first | assumption | (with_reducible refine wpAny_loadPart_at hx ?_; rw [hc]) | (with_reducible refine LS.at ?_) | wp_step))
  refine codeAny_call_builtin SF.slot.plain SF.entry (x_check_sa hcO hC hx hc (x_store hC LN hpass hx hc hdn hnc fun h' tk' dx a b c e f => ?_))
  repeat (any_goals (first | assumption | wp_step))
  exact hq h' tk' dx a b c e f
end
end Mine
end
section
open PySem PySem.W PyProof.Rows PySem.Calls
set_option maxRecDepth 100000
namespace Mine
section
variable {prog : Program} {w : World} {A : Around} {E : Value → Shared → Prop} {s : Shared} {K : Frag} {h₀ : Heap} {L e t : Addr} {m : PySem.Str → Option Value} {news : List (Addr × Obj)} {v : Value}
variable {nm q : PySem.Str} {C N₁ : Addr} {bs bm : List Value} {sn : List PySem.Str} {sub : List Value} {ab : Bool} {col : Option Bool} {dd : Option Addr} {k0 k1 k2 k3 k5 : Option Value}
theorem fr_upd {h' : Heap} {o : Obj} (F : Fr h₀ L s.heap m) (N : News h₀ L s.heap ((e, o) :: news)) (k : ∀ b o, b ≠ e → s.heap.get? b = some o → h'.get? b = some o) : Fr h₀ L h' m := by
  have h1 := N _ (List.mem_cons_self ..)
  exact ⟨F.ns.at' fun o ho => k L o (fun q => h1.2.1 q.symm) ho, fun b o ho => k b o (fun q => by have z := h1.2.2; dsimp only at z; rw [← q, ho] at z; cases z) (F.keep b o ho), F.above⟩
theorem news_upd1 {h' : Heap} {o o' : Obj} (N : News h₀ L s.heap ((e, o) :: news)) (off : ∀ p ∈ news, p.1 ≠ e) (k : ∀ b o, b ≠ e → s.heap.get? b = some o → h'.get? b = some o) (he : h'.get? e = some o') : News h₀ L h' ((e, o') :: news) := fun p hp => by
  rcases List.mem_cons.mp hp with rfl | hp
  · exact ⟨he, (N _ (List.mem_cons_self ..)).2⟩
  · exact ⟨k _ _ (off p hp) (N p (List.mem_cons_of_mem _ hp)).1, (N p (List.mem_cons_of_mem _ hp)).2⟩
theorem x_init_N {Q : Value → Shared → Prop} (F : Fr h₀ L s.heap m) (X₀ : K.In h₀) (N : News h₀ L s.heap ((e, excObj C t) :: news))
    (hC : K.lookup C = some (excClassObj nm q C N₁ bs bm true sn sub ab col dd k0 k1 k2 k3 k5 "Exception.__new__")) (hcB : (Value.ref C :: bm).contains (.type "Exception") = true) (off : ∀ p ∈ news, p.1 ≠ e)
    (h : ∀ h' t2, Fr h₀ L h' m → News h₀ L h' ((e, excObj C t2) :: news) → (∀ b o, b ≠ e → s.heap.get? b = some o → h'.get? b = some o) → Q .none { s with heap := h' }) :
    wpAny (model prog w) A (call (.builtin "Exception.__init__") [.ref e, v]) Q E s := by
  obtain ⟨hh, g, d, tk, os⟩ := s
  refine x_base_init hcB ((X₀.keeps F.keep) _ _ hC) (N _ (List.mem_cons_self ..)).1 fun h' t2 k he _ _ => h h' t2 (fr_upd F N k) (news_upd1 N off k he) k
theorem x_set_N {name : PySem.Str} {Q : Unit → Shared → Prop} (F : Fr h₀ L s.heap m) (X₀ : K.In h₀) (N : News h₀ L s.heap ((e, excObj C t) :: news))
    (hC : K.lookup C = some (excClassObj nm q C N₁ bs bm true sn sub ab col dd k0 k1 k2 k3 k5 "Exception.__new__")) (hcO : (Value.ref C :: bm).contains (.type "object") = true)
    (LS : findIn K (.ref C) "__setattr__" = some (some (.builtin "object.__setattr__"))) (LN : findIn K (.ref C) name = some none)
    (hpass : ∀ x, refuseLoop (.ref x) "__setattr__" (.ref C :: bm) = pure ()) (off : ∀ p ∈ news, p.1 ≠ e)
    (h : ∀ h' tk' dx, Fr h₀ L h' m → News h₀ L h' ((e, { excObj C t with dict := some dx }) :: news) → (∀ b o, b ≠ e → s.heap.get? b = some o → h'.get? b = some o) → Q () { s with heap := h', toks := tk' }) :
    wpAny (model prog w) A (setAttr (.ref e) name v) Q E s := by
  obtain ⟨hh, g, d, tk, os⟩ := s
  have X := X₀.keeps F.keep
  refine x_setattr hcO (X _ _ hC) (looks_findIn X LS) (looks_findIn X LN) (hpass e) (N _ (List.mem_cons_self ..)).1 rfl rfl (by intro c q; cases q) fun h' tk' dx k he _ _ _ => h h' tk' dx (fr_upd F N k) (news_upd1 N off k he) k
end
end Mine
end
section
open PySem Builtin Builtin.ObjectAttr
open PySem.W (Looks)
set_option maxRecDepth 100000
namespace Mine
structure NewExcC (h h' : Heap) (e : Addr) (cls : Value) : Prop where
  keeps : ∀ b o, h.get? b = some o → h'.get? b = some o
  new : h.get? e = none
  there : ∃ oe a0, h'.get? e = some oe ∧ oe.cls = cls ∧ oe.data = .fields #[a0, .none, .none, .none, .bool false, .none]
section
variable {M : Model} {prog : Program} {w : World} {A : Around} {E : Value → Shared → Prop} {s : Shared} {env : Env}
variable {nm q : PySem.Str} {C N : Addr} {bs bm : List Value} {hdct : Bool} {sn : List PySem.Str} {sub : List Value} {ab : Bool} {col : Option Bool} {dd : Option Addr} {k0 k1 k2 k3 k5 : Option Value} {newId : String}
def ExcAt (nm q : PySem.Str) (C N : Addr) (bs bm : List Value) (hdct : Bool) (sn : List PySem.Str) (sub : List Value) (ab : Bool) (col : Option Bool) (dd : Option Addr) (k0 k1 k2 k3 k5 : Option Value) (newId : String) (E : Value → Shared → Prop) (v : Value) (s₁ : Shared) : Prop :=
  ∃ e oe a0, v = .ref e ∧ s₁.heap.get? C = some (excClassObj nm q C N bs bm hdct sn sub ab col dd k0 k1 k2 k3 k5 newId) ∧ s₁.heap.get? e = some oe ∧ oe.cls = .ref C ∧ oe.data = .fields #[a0, .none, .none, .none, .bool false, .none] ∧ E (.ref e) s₁

theorem x_raiseStmt {x : Sem Value} {Q : Flow → Shared → Prop} (hbase : (Value.ref C :: bm).contains (.type "BaseException") = true) (hh : A.handled = none)
    (h : wpAny M A x (ExcAt nm q C N bs bm hdct sn sub ab col dd k0 k1 k2 k3 k5 newId E) E s) : wpAny M A (raiseStmt env (some x) none) Q E s := by
  unfold raiseStmt
  refine wpAny_bind (wpAny_mono h (fun v s₁ h₁ => ?_) fun _ _ x => x)
  obtain ⟨e, oe, a0, rfl, hC, he, hc, hd, hE⟩ := h₁
  obtain ⟨hp, g, d, tk, os⟩ := s₁
  obtain ⟨oc, odd, oda, osl⟩ := oe
  dsimp only at hc hd
  subst hc hd
  repeat (first | with_reducible refine wpAny_loadPart_at he ?_ | with_reducible refine wpAny_loadPart_at hC ?_ | (with_reducible refine wpAny_isSubtype_exc hC ?_; rw [hbase]) | wp_step)
  exact wpAny_raiseNew_none hh hE

theorem Raise_x {ce : PySem.Expr} {pos : Pos} {Q : Flow → Shared → Prop} (hbase : (Value.ref C :: bm).contains (.type "BaseException") = true) (hh : A.handled = none)
    (h : wpAny M A (eval ce env) (ExcAt nm q C N bs bm hdct sn sub ab col dd k0 k1 k2 k3 k5 newId E) E s) : wpAny M A (exec (.Raise (some ce) none pos) env) Q E s := by
  rw [arm_exec_Raise]
  refine wpAny_bind (wpAny_standAt (x_raiseStmt (C := C) (nm := nm) (q := q) (N := N) (bs := bs) (bm := bm) (hdct := hdct) (sn := sn) (sub := sub) (ab := ab) (col := col) (dd := dd) (k0 := k0) (k1 := k1) (k2 := k2) (k3 := k3) (k5 := k5) (newId := newId) hbase hh ?_))
  refine wpAny_bind (wpAny_mono h (fun v s₃ h₃ => wpAny_bind (wpAny_standAt (wpAny_pure h₃))) fun _ _ x => x)
end
end Mine
end
section
open PySem PySem.W PyProof.Rows PySem.Calls
set_option maxRecDepth 100000
namespace Mine
section
variable {M : Model} {A : Around} {E : Value → Shared → Prop} {s' : Shared} {base g g₂ h : Heap} {outer : List Env} {L a e : Addr} {m : PySem.Str → Option Value} {name : PySem.Str} {scope : Scope} {cd : Value} {Q : Unit → Shared → Prop} {news : List (Addr × Obj)}
/-- an own exception, raised in this frame, leaves it -/
theorem leave_newC {cls : Value} (K : Below A base outer g) (hx : NewExcC h s'.heap e cls) (F : Fr g L h m) (N : News g L h news)
    (hQ : ∀ h', RaisedSN base g outer e cls news h' → g.UpToSlots h' → Q () { s' with heap := h' }) (hk : scope.kind = .function := by rfl) :
    wpAny M (A.deeper (envOf name scope L a cd)) (leaving (envOf name scope L a cd) (.ref e)) Q E s' := by
  have K' := K.push (name := name) (a := a) (cd := cd) F hk
  have mine : ∀ env ∈ (envOf name scope L a cd :: outer), ∀ b, env.frame = some b → b ∈ (envOf name scope L a cd :: outer).filterMap (·.frame) := fun env he b hb => List.mem_filterMap.mpr ⟨env, he, hb⟩
  have st : base.StaysIn (hideAll h ((envOf name scope L a cd :: outer).filterMap (·.frame))) := fun b o q => hideAll_get _ (K'.stays b o q) fun hm => by
    rw [(K'.frames.mem hm).1] at q; cases q
  have sg : ∀ b o, g.get? b = some o → b ∉ outer.filterMap (·.frame) → (hideAll h ((envOf name scope L a cd :: outer).filterMap (·.frame))).get? b = some o := fun b o q nm => hideAll_get _ (F.keep b o q) fun hm => by
    rcases kts_mem hm with z | z
    · rw [z, kts_self F] at q
      cases q
    · exact nm z
  have hl : ∀ q ∈ news, (hideAll h ((envOf name scope L a cd :: outer).filterMap (·.frame))).get? q.1 = some q.2 ∧ g.get? q.1 = none ∧ base.get? q.1 = none := fun q hq => by
    refine ⟨hideAll_get _ (N q hq).1 fun hm => ?_, (N q hq).2.2, fresh_of_stays K.stays (N q hq).2.2⟩
    obtain ⟨env, he, hf⟩ := List.mem_filterMap.mp hm
    rcases List.mem_cons.mp he with rfl | he
    · exact (N q hq).2.1 (Option.some.inj hf).symm
    · obtain ⟨o, ho, _⟩ := (K.frames.mem (List.mem_filterMap.mpr ⟨env, he, hf⟩)).2
      rw [(N q hq).2.2] at ho; cases ho
  obtain ⟨ob, a0, he, hcls, hd⟩ := hx.there
  have hen : (hideAll h ((envOf name scope L a cd :: outer).filterMap (·.frame))).get? e = none := by
    cases q : (hideAll h ((envOf name scope L a cd :: outer).filterMap (·.frame))).get? e with
    | none => rfl
    | some o => have := of_hideAll _ q; rw [hx.new] at this; cases this
  refine wpAny_leaving_firstW (a0 := a0) K'.stack ((funFrames_hide K'.frames mine).of_keeps fun b o hb _ => ⟨o, hx.keeps b o hb, rfl⟩) rfl he (fun b o hb => hx.keeps b o (of_hideAll _ hb)) hen hd rfl rfl fun h' hL => ?_
  obtain ⟨k1, ⟨_, _, k2⟩, k3, k4⟩ := hL
  exact hQ h' ⟨_, a0, st, sg, hl, k1, hen, k2, by rw [← hcls]; exact k3⟩ (((Heap.UpToSlots.of_keeps F.keep).trans (Heap.UpToSlots.of_keeps hx.keeps)).trans k4)
end
end Mine
end
section
open PySem PySem.W PyProof.Rows PySem.Calls
set_option maxRecDepth 100000
namespace Mine
theorem fill2 : (fun (_ : OpenLaw) (_ : Params → Frag) => True) PySem.Challenge.rw_ok0132_02 Mine.hdx.heap_1 := by
  w_top off
  k_fill
  trivial

local macro_rules | `(tactic| k_all) => `(tactic| assumption)
set_option maxHeartbeats 8000000 in
theorem init_spec {w : World} {mean : ExcName → Option Value} {mg mb : PySem.Str → Option Value} {dp un : Nat} {gd : Option (List Code)} {cn : PySem.Str} {cs : Scope} {a : Addr} {ccd : Value} {cl : List (PySem.Str × Addr)} {outer : List Env} {A₀ : Around} {base h₀ : Heap} {L : Addr} {m : PySem.Str → Option Value} {s : Shared} {Q E : Value → Shared → Prop}
    {e t : Addr} {C : Addr} {msg : PySem.Str} {tt : Tok} 
    {nm q : PySem.Str} {N₁ : Addr} {bs bm : List Value} {sn : List PySem.Str} {sub : List Value} {ab : Bool} {col : Option Bool} {dd : Option Addr} {k0 k1 k2 k3 k5 : Option Value}
    (B : Below A₀ base outer h₀) (F : Fr h₀ L s.heap m) (X : (hdx.heap_1 w.params).In h₀) (N : News h₀ L s.heap [(e, excObj C t)]) (T : Top vw (looseW vw []) mean mg mb h₀) (hk : cs.kind = .function)
    (hd : dp + 4 < recursionLimit) (hu : un + 20 < cLine)
    (hC : (hdx.heap_1 w.params).lookup C = some (excClassObj nm q C N₁ bs bm true sn sub ab col dd k0 k1 k2 k3 k5 "Exception.__new__"))
    (hcB : (Value.ref C :: bm).contains (.type "Exception") = true) (hcO : (Value.ref C :: bm).contains (.type "object") = true)
    (LS : findIn (hdx.heap_1 w.params) (.ref C) "__setattr__" = some (some (.builtin "object.__setattr__"))) (LN : findIn (hdx.heap_1 w.params) (.ref C) "message" = some none)
    (hpass : ∀ x, refuseLoop (.ref x) "__setattr__" (.ref C :: bm) = pure ())
    (hret : ∀ h' tk' oe a0, (∀ b o, b ≠ e → s.heap.get? b = some o → h'.get? b = some o) → h'.get? e = some oe → oe.cls = .ref C → oe.data = .fields #[a0, .none, .none, .none, .bool false, .none] → Q .none { s with heap := h', toks := tk' }) :
    wpAny (model PySem.Challenge.pw_ok0132_02 w) ((ktrTop dp un gd cn cs L a ccd cl outer).under (.builtin "type.__call__" ⟨[.ref C, .str msg tt], []⟩)) (call (.ref 28) [.ref e, .str msg tt]) Q E s := by
  refine wpAny_call ?_
  k_dflt (refine' code_defG ?k1 ?k2 ?k3 ?k4 ?k5 ?kA ?kF ?kK ?k6 ?k7 ?k8 ?k9 ?kB ?_ ?c2 ?c3 ?c4 ?c5; (case kA => exact rfl); (case kF => exact rfl); (case kK => assumption); (case k1 => k_asm); (case k2 => k_asm); (case k3 => k_asm); (case k4 => k_asm); (case k5 => k_asm); (case k6 => k_is); (case k7 => k_is); (case k8 => ktr_room); (case k9 => exact BindsTo.of_eq rfl); (case c5 => decide); (case kB => exact locs rfl); (case c2 => exact rfl); (case c3 => exact rfl); (case c4 => exact rfl); k_whole; intro g' L' h' FG' F' N' B' X' T' GS'; (try dsimp only); (try k_fold))
  iterate 5 walk1
  refine method_type F' X' (by kernel_rfl) (by decide +kernel) (v := .builtin "Exception.__init__") (by k_is) (by k_handed) ?_
  dsimp only
  iterate 6 walk1
  refine x_init_N F' X' N' hC hcB (List.forall_mem_nil _) ?_
  intro h1 t2 F1 N1 kk1
  clear F' N'
  dsimp only
  iterate 5 walk1
  refine x_set_N F1 X' N1 hC hcO LS LN hpass (List.forall_mem_nil _) ?_
  intro h2 tk2 dx F2 N2 kk2
  clear F1 N1
  dsimp only
  k_steps
  exact hret h2 tk2 _ _ (fun b o hb ho => F2.keep b o (GS' b o ho (by simpa using hb))) (N2 _ (List.mem_cons_self ..)).1 rfl rfl
end Mine
end
section
open PySem PySem.W PyProof.Rows PySem.Calls
set_option maxRecDepth 100000
namespace Mine
theorem fill9 : (fun (_ : OpenLaw) (_ : Params → Frag) => True) PySem.Challenge.rw_ok0132_02 Mine.hdx.heap_1 := by
  w_top off
  k_fill
  trivial
section
variable {w : World} {mean : ExcName → Option Value} {mg mb : PySem.Str → Option Value} {dp un : Nat} {gd : Option (List Code)} {cn : PySem.Str} {cs : Scope} {a : Addr} {ccd : Value} {cl : List (PySem.Str × Addr)} {outer : List Env} {A₀ : Around} {base h₀ : Heap} {L : Addr} {m : PySem.Str → Option Value} {s : Shared} {Q E : Value → Shared → Prop}
theorem make_spec {C : Addr} {msg : PySem.Str} {tt : Tok}
    {nm q : PySem.Str} {N₁ : Addr} {bs bm : List Value} {sn : List PySem.Str} {sub : List Value} {ab : Bool} {col : Option Bool} {dd : Option Addr} {k0 k1 k2 k3 k5 : Option Value}
    (B : Below A₀ base outer h₀) (F : Fr h₀ L s.heap m) (X : (hdx.heap_1 w.params).In h₀) (T : Top vw (looseW vw []) mean mg mb h₀) (hk : cs.kind = .function)
    (hd : dp + 4 < recursionLimit) (hu : un + 20 < cLine)
    (hC : (hdx.heap_1 w.params).lookup C = some (excClassObj nm q C N₁ bs bm true sn sub ab col dd k0 k1 k2 k3 k5 "Exception.__new__"))
    (hcB : (Value.ref C :: bm).contains (.type "Exception") = true) (hcO : (Value.ref C :: bm).contains (.type "object") = true)
    (hcA : (Value.ref C :: bm).contains (.type "AttributeError") = false) (hcN : (Value.ref C :: bm).contains (.type "NameError") = false)
    (LI : findIn (hdx.heap_1 w.params) (.ref C) "__init__" = some (some (.ref 28)))
    (LS : findIn (hdx.heap_1 w.params) (.ref C) "__setattr__" = some (some (.builtin "object.__setattr__"))) (LN : findIn (hdx.heap_1 w.params) (.ref C) "message" = some none)
    (hpass : ∀ x, refuseLoop (.ref x) "__setattr__" (.ref C :: bm) = pure ())
    (hret : ∀ h' tk' e, NewExcC s.heap h' e (.ref C) → Q (.ref e) { s with heap := h', toks := tk' }) :
    wpAny (model PySem.Challenge.pw_ok0132_02 w) (ktrTop dp un gd cn cs L a ccd cl outer) (call (.ref C) [.str msg tt]) Q E s := by
  obtain ⟨hh, g, d, tk, os⟩ := s
  have Xs := X.keeps F.keep
  refine x_call hcB hcA hcN (Xs _ _ hC) (looks_findIn Xs LI) (Xs 28 _ (by k_is)) rfl fun h1 e hm => ?_
  obtain ⟨t, ht, htn, htt⟩ := hm.there
  have F1 := F.keeps hm.keeps
  have N1 : News h₀ L h1 [(e, excObj C t)] := fun p hp => by
    rw [List.mem_singleton.mp hp]
    refine ⟨ht, fun q => ?_, ?_⟩
    · obtain ⟨o, _, _, ho, _⟩ := F.ns
      have := hm.new
      dsimp only at this q
      rw [q] at this
      rw [this] at ho
      cases ho
    · cases q : h₀.get? e with
      | none => rfl
      | some o => have z := F.keep _ _ q; dsimp only at z; rw [hm.new] at z; cases z
  refine init_spec (s := ⟨h1, g, d, tk, os⟩) B F1 X N1 T hk hd hu hC hcB hcO LS LN hpass fun h' tk' oe a0 k he hc hdat => ⟨rfl, ?_⟩
  refine hret h' tk' e ⟨fun b o hb => ?_, hm.new, oe, a0, he, hc, hdat⟩
  exact k b o (fun q => by have := hm.new; rw [← q] at this; dsimp only at hb; rw [this] at hb; cases hb) (hm.keeps b o hb)
end
end Mine
end
section
open PySem PySem.W PyProof.Rows PySem.Calls
set_option maxRecDepth 100000
namespace Mine
def RaisePost (h : Heap) (C : Addr) (E : Value → Shared → Prop) (v : Value) (s₁ : Shared) : Prop := ∃ e, v = .ref e ∧ NewExcC h s₁.heap e (.ref C) ∧ E (.ref e) s₁
section
variable {M : Model} {prog : Program} {w : World} {A : Around} {E : Value → Shared → Prop} {s : Shared} {env : Env} {K : Frag} {h₀ : Heap} {L : Addr} {m : PySem.Str → Option Value}
variable {nm q : PySem.Str} {C N : Addr} {bs bm : List Value} {hdct : Bool} {sn : List PySem.Str} {sub : List Value} {ab : Bool} {col : Option Bool} {dd : Option Addr} {k0 k1 k2 k3 k5 : Option Value} {newId : String}
theorem Raise_own_x {ce : PySem.Expr} {pos : Pos} {Q : Flow → Shared → Prop} (F : Fr h₀ L s.heap m) (X₀ : K.In h₀) (hC : K.lookup C = some (excClassObj nm q C N bs bm hdct sn sub ab col dd k0 k1 k2 k3 k5 newId)) (hbase : (Value.ref C :: bm).contains (.type "BaseException") = true) (hh : A.handled = none)
    (h : wpAny M A (eval ce env) (RaisePost s.heap C E) E s) : wpAny M A (exec (.Raise (some ce) none pos) env) Q E s := by
  refine Raise_x (C := C) (nm := nm) (q := q) (N := N) (bs := bs) (bm := bm) (hdct := hdct) (sn := sn) (sub := sub) (ab := ab) (col := col) (dd := dd) (k0 := k0) (k1 := k1) (k2 := k2) (k3 := k3) (k5 := k5) (newId := newId) hbase hh (wpAny_mono h (fun v s₁ h₁ => ?_) fun _ _ x => x)
  obtain ⟨e, rfl, hN, hE⟩ := h₁
  obtain ⟨oe, a0, he, hc, hd⟩ := hN.there
  exact ⟨e, oe, a0, rfl, hN.keeps _ _ ((X₀.keeps F.keep) _ _ hC), he, hc, hd, hE⟩
end
theorem RaisePost.intro {h : Heap} {C e : Addr} {E : Value → Shared → Prop} {s₁ : Shared} (hx : NewExcC h s₁.heap e (.ref C)) (hE : E (.ref e) s₁) : RaisePost h C E (.ref e) s₁ := ⟨e, rfl, hx, hE⟩
end Mine
end
section
open PySem PySem.W PyProof.Rows PySem.Calls
set_option maxRecDepth 100000
namespace Mine
open LCg LCt
section
variable {prog : Program} {w : World} {A : Around} {h₀ : Heap} {L : Addr} {m : PySem.Str → Option Value} {env : Env} {elt ct : PySem.Expr} {x : PySem.Str} {scope : Scope} {cl : List (PySem.Str × Addr)} {s : Shared} {S : List (Addr × Obj) → Prop} {P : Nat → Value → Prop} {Fin : List Value → List (Addr × Obj) → Prop} {n : Nat}
/-- a comprehension by an invariant over the turn, what is made so far, and the ledger -/
theorem comp_inv (J : Nat → List Value → List (Addr × Obj) → Prop)
    (turn : ∀ i ys news v I oI C oC D m₂ h tk (E' : Value → Shared → Prop), i < n → P i v → J i ys news → NsObj oC m₂ → m₂ x = some v → Fr h₀ L h m → News h₀ L h ((I, oI) :: (C, oC) :: (D, lst ys) :: news) → Off3 I C D news → ((@Ne Nat I C) ∧ (@Ne Nat I D) ∧ (@Ne Nat C D)) →
      wpAny (model prog w) A (eval elt (compEnvC scope cl C env)) (CompEnd h₀ L m { s with heap := h, toks := tk } I oI C oC D (lst ys) S (fun y news' => J (i + 1) (ys ++ [y]) news')) E' { s with heap := h, toks := tk })
    (fin : ∀ ys news, J n ys news → Fin ys news) : ∀ (k i : Nat) (ys : List Value) (news : List (Addr × Obj)), k + i = n → J i ys news → CompRest prog w A h₀ L m env elt x scope cl s S P Fin k i ys news := by
  intro k
  induction k with
  | zero => intro i ys news e hj; obtain rfl : i = n := by (first | lia | omega)
            exact CompRest.zero (fin ys news hj)
  | succ k ih =>
    intro i ys news e hj
    refine CompRest.succ fun v I oI C oC D m₂ h tk E' hP hC hx F N O D3 => ?_
    refine wpAny_mono (turn i ys news v I oI C oC D m₂ h tk E' (by (first | lia | omega)) hP hj hC hx F N O D3) (fun y s' hy => ?_) fun _ _ e => e
    obtain ⟨h', tk', news', e', F', N', O', hS, hj'⟩ := hy
    exact ⟨h', tk', news', e', F', N', O', hS, ih _ _ _ (by (first | lia | omega)) hj'⟩
theorem comp_inv0 (J : Nat → List Value → List (Addr × Obj) → Prop) {news : List (Addr × Obj)} (h0 : J 0 [] news)
    (turn : ∀ i ys news v I oI C oC D m₂ h tk (E' : Value → Shared → Prop), i < n → P i v → J i ys news → NsObj oC m₂ → m₂ x = some v → Fr h₀ L h m → News h₀ L h ((I, oI) :: (C, oC) :: (D, lst ys) :: news) → Off3 I C D news → ((@Ne Nat I C) ∧ (@Ne Nat I D) ∧ (@Ne Nat C D)) →
      wpAny (model prog w) A (eval elt (compEnvC scope cl C env)) (CompEnd h₀ L m { s with heap := h, toks := tk } I oI C oC D (lst ys) S (fun y news' => J (i + 1) (ys ++ [y]) news')) E' { s with heap := h, toks := tk })
    (fin : ∀ ys news, J n ys news → Fin ys news) : CompRest prog w A h₀ L m env elt x scope cl s S P Fin n 0 [] news := comp_inv J turn fin n 0 [] news (by (first | lia | omega)) h0

theorem compT_inv (J : Nat → List Value → List (Addr × Obj) → Prop)
    (turn : ∀ i ys news v I oI C oC D m₂ h tk (E' : Value → Shared → Prop), i < n → P i v → J i ys news → NsObj oC m₂ → m₂ x = some v → Fr h₀ L h m → News h₀ L h ((I, oI) :: (C, oC) :: (D, lst ys) :: news) → Off3 I C D news → ((@Ne Nat I C) ∧ (@Ne Nat I D) ∧ (@Ne Nat C D)) →
      wpAny (model prog w) A (isTrue ct (compEnvC scope cl C env) (eval ct (compEnvC scope cl C env))) (fun ok s' => if ok = true then
        wpAny (model prog w) A (eval elt (compEnvC scope cl C env)) (CompEnd h₀ L m { s with heap := h, toks := tk } I oI C oC D (lst ys) S (fun y news' => J (i + 1) (ys ++ [y]) news')) E' s'
        else CompEnd h₀ L m { s with heap := h, toks := tk } I oI C oC D (lst ys) S (fun _ news' => J (i + 1) ys news') Value.none s') E' { s with heap := h, toks := tk })
    (fin : ∀ ys news, J n ys news → Fin ys news) : ∀ (k i : Nat) (ys : List Value) (news : List (Addr × Obj)), k + i = n → J i ys news → CompRestT prog w A h₀ L m env ct elt x scope cl s S P Fin k i ys news := by
  intro k
  induction k with
  | zero => intro i ys news e hj; obtain rfl : i = n := by (first | lia | omega)
            exact CompRestT.zero (fin ys news hj)
  | succ k ih =>
    intro i ys news e hj
    refine CompRestT.succ fun v I oI C oC D m₂ h tk E' hP hC hx F N O D3 => ?_
    have up : ∀ ys' y s', CompEnd h₀ L m { s with heap := h, toks := tk } I oI C oC D (lst ys) S (fun _ news' => J (i + 1) ys' news') y s' →
        CompEnd h₀ L m { s with heap := h, toks := tk } I oI C oC D (lst ys) S (fun _ news' => CompRestT prog w A h₀ L m env ct elt x scope cl s S P Fin k (i + 1) ys' news') y s' := by
      rintro ys' y s' ⟨h', tk', news', e', F', N', O', hS, hj'⟩
      exact ⟨h', tk', news', e', F', N', O', hS, ih _ _ _ (by (first | lia | omega)) hj'⟩
    refine wpAny_mono (turn i ys news v I oI C oC D m₂ h tk E' (by (first | lia | omega)) hP hj hC hx F N O D3) (fun ok s' hy => ?_) fun _ _ e => e
    cases ok with
    | true =>
      simp only [if_true] at hy ⊢
      refine wpAny_mono hy (fun y s'' hy' => ?_) fun _ _ e => e
      obtain ⟨h', tk', news', e', F', N', O', hS, hj'⟩ := hy'
      exact ⟨h', tk', news', e', F', N', O', hS, ih _ _ _ (by (first | lia | omega)) hj'⟩
    | false =>
      simp only [Bool.false_eq_true, if_false] at hy ⊢
      exact up _ _ _ hy
theorem compT_inv0 (J : Nat → List Value → List (Addr × Obj) → Prop) {news : List (Addr × Obj)} (h0 : J 0 [] news)
    (turn : ∀ i ys news v I oI C oC D m₂ h tk (E' : Value → Shared → Prop), i < n → P i v → J i ys news → NsObj oC m₂ → m₂ x = some v → Fr h₀ L h m → News h₀ L h ((I, oI) :: (C, oC) :: (D, lst ys) :: news) → Off3 I C D news → ((@Ne Nat I C) ∧ (@Ne Nat I D) ∧ (@Ne Nat C D)) →
      wpAny (model prog w) A (isTrue ct (compEnvC scope cl C env) (eval ct (compEnvC scope cl C env))) (fun ok s' => if ok = true then
        wpAny (model prog w) A (eval elt (compEnvC scope cl C env)) (CompEnd h₀ L m { s with heap := h, toks := tk } I oI C oC D (lst ys) S (fun y news' => J (i + 1) (ys ++ [y]) news')) E' s'
        else CompEnd h₀ L m { s with heap := h, toks := tk } I oI C oC D (lst ys) S (fun _ news' => J (i + 1) ys news') Value.none s') E' { s with heap := h, toks := tk })
    (fin : ∀ ys news, J n ys news → Fin ys news) : CompRestT prog w A h₀ L m env ct elt x scope cl s S P Fin n 0 [] news := compT_inv J turn fin n 0 [] news (by (first | lia | omega)) h0
end
theorem upd_split {d : Addr} {o o' : Obj} {l l' : List (Addr × Obj)} (U : Upd d o o' l l') : (d, o) ∈ l ∧ ∀ p ∈ l', p = (d, o') ∨ (p ∈ l ∧ p.1 ≠ d) := by
  induction U with
  | head h => exact ⟨List.mem_cons_self .., fun p hp => (List.mem_cons.mp hp).elim .inl fun hp => .inr ⟨List.mem_cons_of_mem _ hp, h p hp⟩⟩
  | tail h _ ih => exact ⟨List.mem_cons_of_mem _ ih.1, fun p hp => (List.mem_cons.mp hp).elim (fun e => .inr ⟨e ▸ List.mem_cons_self .., e ▸ h⟩) fun hp => (ih.2 p hp).imp id fun z => ⟨List.mem_cons_of_mem _ z.1, z.2⟩⟩
def offAddr (d : Addr) (l : List (Addr × Obj)) : List (Addr × Obj) := l.filter fun p => decide (p.1 ≠ d)
theorem offAddr_off {d : Addr} {l : List (Addr × Obj)} : ∀ p ∈ offAddr d l, p.1 ≠ d := fun p hp => by simpa [offAddr] using (List.mem_filter.mp hp).2
theorem news_headed {h₀ h : Heap} {L d : Addr} {o o' : Obj} {l l' : List (Addr × Obj)} (N : News h₀ L h l) (U : Upd d o o' l l') : News h₀ L h ((d, o) :: offAddr d l) := fun p hp => by
  rcases List.mem_cons.mp hp with rfl | hp
  · exact N _ (upd_split U).1
  · exact N _ (List.mem_filter.mp hp).1
theorem news_back {h₀ h : Heap} {L d : Addr} {o o' : Obj} {l l' : List (Addr × Obj)} (N : News h₀ L h ((d, o') :: offAddr d l)) (U : Upd d o o' l l') : News h₀ L h l' := fun p hp => by
  rcases (upd_split U).2 p hp with rfl | ⟨h1, h2⟩
  · exact N _ (List.mem_cons_self ..)
  · exact N _ (List.mem_cons_of_mem _ (List.mem_filter.mpr ⟨h1, by simpa using h2⟩))
end Mine
end
section
open PySem PySem.W PyProof.Rows PySem.Calls
set_option maxRecDepth 100000
namespace Mine
open LCg LCt
def IterAs (prog : Program) (w : World) (A : Around) (h₀ : Heap) (L : Addr) (S : List (Addr × Obj) → Prop) (xv : Value) (s₁ : Shared) (n : Nat) (P : Nat → Value → Prop) : Prop :=
  ∀ (Q : Value → Shared → Prop) (E : Value → Shared → Prop), (∀ I fp St h₂, I = s₁.heap.objs.size → h₂.objs.size = s₁.heap.objs.size + 1 → Walks prog w A I fp [I] n P St → (∀ i h, St i h → ∃ o, h.get? I = some o) →
    (∀ i h h' o nw, St i h → h.get? I = some o → h'.get? I = some o → (∀ b o, h₀.get? b = some o → h'.get? b = some o) → News h₀ L h' nw → S nw → St i h') → St 0 h₂ → (∀ b ∈ fp, b < h₂.objs.size) →
    (∀ b o, s₁.heap.get? b = some o → h₂.get? b = some o) → Q (.ref I) { s₁ with heap := h₂ }) → wpAny (model prog w) A (pyIter xv) Q E s₁
section
variable {prog : Program} {w : World} {A : Around} {E : Value → Shared → Prop} {s s₁ : Shared} {h₀ : Heap} {L : Addr} {m : PySem.Str → Option Value} {env : Env} {news : List (Addr × Obj)}
theorem iterAs_range {r : Addr} {a b c : Int} {t u v : Tok} {n : Nat} (hh : A.handled = none) (hr : IsRange s₁.heap r a b c t u v) (hsm : Builtin.Range.small a b c = true) (hn : Builtin.Range.rangeSize a b c = ((n : Nat) : Int)) :
    IterAs prog w A h₀ L (fun _ => True) (.ref r) s₁ n (fun i v => ∃ t, v = .int (a + (i : Int) * c) t) := fun Q E k => by
  refine wpAny_pyIter_range hr hsm ?_
  refine k s₁.heap.objs.size [s₁.heap.objs.size] _ _ rfl (Heap.size_push ..) (Walks.range hh _ a c n) (fun i h st => ⟨_, st⟩) (fun i h h' o nw st e e' _ _ _ => ?_) ?_ (fun b hb => ?_) fun _ _ e => Heap.get?_push_of_some _ e
  · have st' : h.get? s₁.heap.objs.size = some _ := st
    show h'.get? s₁.heap.objs.size = some _
    rw [e', ← e]; exact st'
  · show IsRangeIter _ _ _ _ _
    rw [hn]
    simpa using Heap.get?_push_size _ rfl
  · rw [List.mem_singleton.mp hb, Heap.size_push]; exact Nat.lt_succ_self _
theorem iterAs_bytes {b : Array UInt8} {t : Tok} (hh : A.handled = none) :
    IterAs prog w A h₀ L (fun _ => True) (.bytes b t) s₁ b.size (fun i v => ∃ c u, b[i]? = some c ∧ v = .int (c.toNat : Int) u) := fun Q E k => by
  refine KBw.pyIter_bytes ?_
  refine k s₁.heap.objs.size [s₁.heap.objs.size] _ _ rfl (Heap.size_push ..) (KBw.walks hh _ b t) (fun i h st => ?_) (fun i h h' o nw st e e' _ _ _ => ?_) ⟨_, Heap.get?_push_size _ rfl, rfl, rfl⟩ (fun b hb => ?_) fun _ _ e => Heap.get?_push_of_some _ e
  · obtain ⟨o, e, _⟩ := st; exact ⟨o, e⟩
  · obtain ⟨o', q, r⟩ := st; rw [e] at q; cases q; exact ⟨o, e', r⟩
  · rw [List.mem_singleton.mp hb, Heap.size_push]; exact Nat.lt_succ_self _
theorem iterAs_list {ax : Addr} {its : Array Value} (hh : A.handled = none) (F : Fr h₀ L s₁.heap m) (N : News h₀ L s₁.heap news) (hS : SrcAt h₀ ax its news) :
    IterAs prog w A h₀ L (SrcAt h₀ ax its) (.ref ax) s₁ its.size (fun i v => its[i]? = some v) := fun Q E k => by
  have hl := hS.list F.keep N
  have hlt : ax < s₁.heap.objs.size := by obtain ⟨_, e, _⟩ := hl; exact Heap.lt_size e
  refine wpAny_pyIter_list hl ?_
  refine k s₁.heap.objs.size [s₁.heap.objs.size, ax] _ _ rfl (Heap.size_push ..) (Walks.list hh s₁.heap.objs.size ax (Nat.ne_of_lt hlt) its) (fun i h st => by obtain ⟨o, e, _⟩ := st.1; exact ⟨o, e⟩) list_st ⟨⟨_, Heap.get?_push_size _ rfl, rfl, rfl⟩, hl.push _⟩ (fun b hb => ?_) fun _ _ e => Heap.get?_push_of_some _ e
  rw [Heap.size_push]
  rcases List.mem_cons.mp hb with rfl | hb
  · exact Nat.lt_succ_self _
  · rw [List.mem_singleton.mp hb]; exact Nat.lt_succ_of_lt hlt

def SrcW (prog : Program) (w : World) (A : Around) (h₀ : Heap) (L : Addr) (m : PySem.Str → Option Value) (env : Env) (elt : PySem.Expr) (x : PySem.Str) (scope : Scope) (cl : List (PySem.Str × Addr)) (Fin : Shared → List Value → List (Addr × Obj) → Prop) (xv : Value) (s₁ : Shared) : Prop :=
  ∃ n P S news, Fr h₀ L s₁.heap m ∧ News h₀ L s₁.heap news ∧ n ≤ sizeLine ∧ S news ∧ IterAs prog w A h₀ L S xv s₁ n P ∧
    ∀ s₂ : Shared, (∃ h, s₂ = { s₁ with heap := h }) → CompRest prog w A h₀ L m env elt x scope cl s₂ S P (Fin s₂) n 0 [] news
theorem SrcW.intro {elt : PySem.Expr} {x : PySem.Str} {scope : Scope} {cl : List (PySem.Str × Addr)} {Fin : Shared → List Value → List (Addr × Obj) → Prop} {xv : Value} {n : Nat} {P : Nat → Value → Prop} {S : List (Addr × Obj) → Prop}
    (it : IterAs prog w A h₀ L S xv s₁ n P) (F : Fr h₀ L s₁.heap m) (N : News h₀ L s₁.heap news) (hn : n ≤ sizeLine) (hS : S news) (J : Nat → List Value → List (Addr × Obj) → Prop) (h0 : J 0 [] news)
    (turn : ∀ hh i ys news v I oI C oC D m₂ h tk (E' : Value → Shared → Prop), i < n → P i v → J i ys news → NsObj oC m₂ → m₂ x = some v → Fr h₀ L h m → News h₀ L h ((I, oI) :: (C, oC) :: (D, lst ys) :: news) → Off3 I C D news → ((@Ne Nat I C) ∧ (@Ne Nat I D) ∧ (@Ne Nat C D)) →
      wpAny (model prog w) A (eval elt (compEnvC scope cl C env)) (CompEnd h₀ L m { { s₁ with heap := hh } with heap := h, toks := tk } I oI C oC D (lst ys) S (fun y news' => J (i + 1) (ys ++ [y]) news')) E' { { s₁ with heap := hh } with heap := h, toks := tk })
    (fin : ∀ hh ys news, J n ys news → Fin { s₁ with heap := hh } ys news) : SrcW prog w A h₀ L m env elt x scope cl Fin xv s₁ :=
  ⟨n, P, S, news, F, N, hn, hS, it, fun _ ⟨hh, e⟩ => by subst e; exact comp_inv0 J h0 (turn hh) (fin hh)⟩

theorem ListComp_W {elt iter : PySem.Expr} {x : PySem.Str} {px : Pos} {scope : Scope} {cl : List (PySem.Str × Addr)} {pos : Pos} {Q : Value → Shared → Prop} (F₀ : Fr h₀ L s.heap m)
    (hclos : closureFor scope env = pure cl) (hcell : ∀ y ∈ scope.names, y.2 ≠ .cell) (hkind : scope.kind = .function)
    (hnames : ∀ y ∈ scope.names, y.2 = .local → scope.names.lookup y.1 = some .local) (hx : scope.names.lookup x = some .local)
    (h : wpAny (model prog w) A (eval iter env) (SrcW prog w A h₀ L m env elt x scope cl (fun s₂ => FinE h₀ L m s₂ Q)) E s)
    (hs : ∀ x, foldedSetIterable iter env x = pure x := by intro _; rfl) :
    wpAny (model prog w) A (eval (.ListComp elt [⟨.Name x px, iter, [], 0⟩] scope pos) env) Q E s := by
  rw [eval_ListComp]
  refine wpAny_comprehension_free (use := none) rfl hs hclos hkind hnames (wpAny_mono h (fun xv s₁ h₁ => ?_) fun _ _ e => e)
  obtain ⟨n, P, S, news, F, N, hn, hS, it, R⟩ := h₁
  refine it _ _ fun I fp St h₂ hI hsz W hIo hSt hst hfp up => ?_
  have hI₀ : h₀.get? I = none := by rw [hI]; exact next_is_new F
  refine block_U (s₂ := { s₁ with heap := h₂ }) W hn hIo hSt hcell hkind hx hst hfp (F.keeps up) (N.grown up) (by rw [hI]; exact Nat.ne_of_lt F.ns.lt) hI₀ (fun p hp => by rw [hI]; exact Nat.ne_of_lt (Heap.lt_size (N p hp).1)) hS (R _ ⟨_, rfl⟩) ?_
  intro D C h tk m' ys news' F' N' o1 hn hC₀ hD₀ hCL hDL hCD offC fin
  refine ⟨m', hn, fun h'' hs'' => fin D h'' tk (F'.change hs'' hCL hC₀) (fun p hp => ?_) o1⟩
  refine ⟨hs''.extBut _ _ ?_ (N' p hp).1, (N' p hp).2⟩
  rcases List.mem_cons.mp hp with rfl | hp
  · exact Ne.symm hCD
  · exact offC p hp
end
end Mine
namespace Mine
open PySem PySem.W PyProof.Rows PySem.Calls LCg LCt
section
variable {prog : Program} {w : World} {A : Around} {E : Value → Shared → Prop} {s s₁ : Shared} {h₀ : Heap} {L : Addr} {m : PySem.Str → Option Value} {env : Env} {news : List (Addr × Obj)}
theorem SrcW.pure {elt : PySem.Expr} {x : PySem.Str} {scope : Scope} {cl : List (PySem.Str × Addr)} {Fin : Shared → List Value → List (Addr × Obj) → Prop} {xv : Value} {n : Nat} {P : Nat → Value → Prop} {S : List (Addr × Obj) → Prop}
    (it : IterAs prog w A h₀ L S xv s₁ n P) (F : Fr h₀ L s₁.heap m) (N : News h₀ L s₁.heap news) (hn : n ≤ sizeLine) (hS : S news) (J : Nat → List Value → Prop) (h0 : J 0 [])
    (turn : ∀ hh i ys v I oI C oC D m₂ h tk (E' : Value → Shared → Prop), i < n → P i v → J i ys → NsObj oC m₂ → m₂ x = some v → Fr h₀ L h m → News h₀ L h ((I, oI) :: (C, oC) :: (D, lst ys) :: news) → Off3 I C D news → ((@Ne Nat I C) ∧ (@Ne Nat I D) ∧ (@Ne Nat C D)) →
      wpAny (model prog w) A (eval elt (compEnvC scope cl C env)) (CompEnd h₀ L m { { s₁ with heap := hh } with heap := h, toks := tk } I oI C oC D (lst ys) S (fun y nw => nw = news ∧ J (i + 1) (ys ++ [y]))) E' { { s₁ with heap := hh } with heap := h, toks := tk })
    (fin : ∀ hh ys, J n ys → Fin { s₁ with heap := hh } ys news) : SrcW prog w A h₀ L m env elt x scope cl Fin xv s₁ :=
  SrcW.intro it F N hn hS (fun i ys nw => nw = news ∧ J i ys) ⟨rfl, h0⟩ (fun hh i ys nw v I oI C oC D m₂ h tk E' hi hP hJ => by obtain ⟨rfl, hJ⟩ := hJ; exact turn hh i ys v I oI C oC D m₂ h tk E' hi hP hJ) fun hh ys nw hJ => by obtain ⟨rfl, hJ⟩ := hJ; exact fin hh ys hJ
end
end Mine
end
section
open PySem PySem.W PyProof.Rows PySem.Calls
set_option maxRecDepth 100000
namespace Mine
open LCg LCt
/-- behind a turn whose variable stands in the cell Z -/
def ZRest (Z : Addr) (oZ : Obj) (J : List (Addr × Obj) → Prop) (nw : List (Addr × Obj)) : Prop := ∃ nw', nw = (Z, oZ) :: nw' ∧ (∀ p ∈ nw', p.1 ≠ Z) ∧ J nw'
section
variable {prog : Program} {w : World} {A : Around} {E : Value → Shared → Prop} {s s₁ : Shared} {h₀ : Heap} {L : Addr} {m : PySem.Str → Option Value} {env : Env} {news : List (Addr × Obj)}
def TurnZ (prog : Program) (w : World) (A : Around) (h₀ : Heap) (L : Addr) (m : PySem.Str → Option Value) (env : Env) (ifs : List PySem.Expr) (elt : PySem.Expr) (x : PySem.Str) (scope : Scope) (cl : List (PySem.Str × Addr)) (s : Shared) (S : List (Addr × Obj) → Prop) (P : Nat → Value → Prop) (J : Nat → List Value → List (Addr × Obj) → Prop) (n : Nat) : Prop :=
  ∀ i ys news v I oI C oC Z oZ D h tk (E' : Value → Shared → Prop), i < n → P i v → J i ys news → oZ.data = .cell (some v) → Fr h₀ L h m → News h₀ L h ((I, oI) :: (C, oC) :: (D, lst ys) :: (Z, oZ) :: news) → Off3 I C D ((Z, oZ) :: news) → (∀ p ∈ news, p.1 ≠ Z) → ((@Ne Nat I C) ∧ (@Ne Nat I D) ∧ (@Ne Nat C D)) →
    wpAny (model prog w) A (forIn ifs true fun c r => if r = true then do let ok ← isTrue c (compEnvC scope ((x, Z) :: cl) C env) (eval c (compEnvC scope ((x, Z) :: cl) C env)); pure (ForInStep.yield ok) else pure (ForInStep.yield r)) (fun ok s' => if ok = true then
      wpAny (model prog w) A (eval elt (compEnvC scope ((x, Z) :: cl) C env)) (CompEnd h₀ L m { s with heap := h, toks := tk } I oI C oC D (lst ys) S (fun y nw => ZRest Z oZ (J (i + 1) (ys ++ [y])) nw)) E' s'
      else CompEnd h₀ L m { s with heap := h, toks := tk } I oI C oC D (lst ys) S (fun _ nw => ZRest Z oZ (J (i + 1) ys) nw) Value.none s') E' { s with heap := h, toks := tk }

theorem wpAny_newFunctionEnv_one {M : Model} {scope : Scope} {globals : Addr} {cl : List (PySem.Str × Addr)} {qual : PySem.Str} {x : PySem.Str} {Q : Env → Shared → Prop}
    (hZ : ∀ (h : Heap) n, pushCells h scope.names = h.push { cls := .type "cell", data := .cell none } ∧ cellsFrom n scope.names cl = (x, n) :: cl)
    (hQ : Q (newEnv scope s.heap.objs.size globals ((x, s.heap.objs.size + 1) :: cl) qual none .none (some env) builtinsNs) { s with heap := (s.heap.push { cls := .type "dict", data := .dict #[] }).push { cls := .type "cell", data := .cell none } }) :
    wpAny M A (newFunctionEnv scope globals cl [] qual none .none (some env)) Q E s := by
  simp only [newFunctionEnv, Option.isSome_some, if_true]
  refine wpAny_bind (wpAny_alloc ?_)
  refine wpAny_bind (wpAny_layCells _ (fun name kind cells => by cases hkc : kind == NameKind.cell <;> simp [hkc]) _ _ _ _ ?_)
  rw [show ({ s with heap := s.heap.push { cls := .type "dict", data := .dict #[] } } : Shared).heap.objs.size = s.heap.objs.size + 1 from Heap.size_push .., (hZ (s.heap.push { cls := .type "dict", data := .dict #[] }) 0).1, (hZ s.heap (s.heap.objs.size + 1)).2]
  exact wpAny_bind (wpAny_pure (wpAny_pure hQ))

theorem lookup_relabel_cell {env : Env} {x : PySem.Str} : ∀ {names : List (PySem.Str × NameKind)}, names.lookup x = some .cell →
    (names.map fun (n, k) => if (k == NameKind.free && env.scope.kind == .function && env.kindOf n == some .cell) then (n, NameKind.cell) else (n, k)).lookup x = some .cell
  | (n, k) :: r, h => by
    rw [List.lookup_cons] at h
    rw [List.map_cons, List.lookup_cons]
    cases hb : x == n with
    | true =>
      rw [hb] at h
      cases h
      simp [hb]
    | false =>
      rw [hb] at h
      have ih := lookup_relabel_cell (env := env) (names := r) h
      have e : ∀ (c : Bool), (match x == (if c = true then (n, NameKind.cell) else (n, k)).1 with | true => some (if c = true then (n, NameKind.cell) else (n, k)).2 | false => (r.map fun (n, k) => if (k == NameKind.free && env.scope.kind == .function && env.kindOf n == some .cell) then (n, NameKind.cell) else (n, k)).lookup x) = some NameKind.cell := fun c => by
        cases c <;> simp only [Bool.false_eq_true, if_false, if_true, hb] <;> exact ih
      exact e _

theorem z_below {D b : Nat} (h : b < D) : b ≠ D ∧ b ≠ D + 1 ∧ b ≠ D + 1 + 1 := by (first | lia | omega)
theorem z_apart (D : Nat) : D ≠ D + 1 ∧ D ≠ D + 1 + 1 ∧ D + 1 ≠ D + 1 + 1 ∧ D ≤ D + 1 ∧ D ≤ D + 1 + 1 := by (first | lia | omega)
theorem block_Z {elt iter : PySem.Expr} {ifs : List PySem.Expr} {x : PySem.Str} {px : Pos} {scope : Scope} {cl : List (PySem.Str × Addr)} {pos : Pos} {s₂ : Shared} {I : Addr} {fp : List Addr} {n : Nat} {P : Nat → Value → Prop} {St : Nat → Heap → Prop} {S : List (Addr × Obj) → Prop}
    {J : Nat → List Value → List (Addr × Obj) → Prop} {RR : Value → Addr → Result → Shared → Prop}
    (W : Walks prog w A I fp [I] n P St) (hsz : n ≤ sizeLine) (hIo : ∀ i h, St i h → ∃ o, h.get? I = some o)
    (hSt : ∀ i h h' o nw, St i h → h.get? I = some o → h'.get? I = some o → (∀ b o, h₀.get? b = some o → h'.get? b = some o) → News h₀ L h' nw → S nw → St i h')
    (hZ : ∀ (h : Heap) n, pushCells h scope.names = h.push { cls := .type "cell", data := .cell none } ∧ cellsFrom n scope.names cl = (x, n) :: cl)
    (hkind : scope.kind = .function) (hx : scope.names.lookup x = some .cell) (hst : St 0 s₂.heap) (hfp : ∀ b ∈ fp, b < s₂.heap.objs.size)
    (F : Fr h₀ L s₂.heap m) (N : News h₀ L s₂.heap news) (hIL : L ≠ I) (hI₀ : h₀.get? I = none) (off : ∀ p ∈ news, p.1 ≠ I) (hS : S news) (hSm : ∀ Z (oZ : Obj) v l, oZ.data = .cell (some v) → S ((Z, oZ) :: l) → S l)
    (h0 : J 0 [] news) (R : TurnZ prog w A h₀ L m env ifs elt x scope cl s₂ S P J n)
    (hRR : ∀ D C h tk m' ys news', Fr h₀ L h m → News h₀ L h ((D, lst ys) :: news') → Off1 D news' → h.Ns C m' → h₀.get? C = none → h₀.get? D = none → C ≠ L → D ≠ L → C ≠ D → (∀ p ∈ news', p.1 ≠ C) → J n ys news' → RR (.ref D) C (.ok .next) { s₂ with heap := h, toks := tk }) :
    wpAny (model prog w) A (newList []) (fun acc s₃ => wpAny (model prog w) A (newFunctionEnv scope env.globals cl [] env.qual none .none (some env)) (fun cenv s₄ =>
      codeAny (model prog w) A (.compStart (.ListComp elt [⟨.Name x px, iter, ifs, 0⟩] scope pos) 0 (.ref I) acc { cenv with scope := relabel scope env }) (RR acc cenv.locals) s₄) E s₃) E s₂ := by
  refine wpAny_newObj_type (wpAny_newFunctionEnv_one hZ ?_)
  dsimp only
  generalize hH2 : s₂.heap.push { cls := .type "list", dict := none, data := .seq ([] : List Value).toArray } = H2
  generalize hD : s₂.heap.objs.size = D
  have hC : H2.objs.size = D + 1 := by rw [← hH2, Heap.size_push, hD]
  have e3 : (H2.push { cls := .type "dict", data := .dict #[] }).objs.size = D + 2 := by rw [Heap.size_push, hC]
  generalize hH3 : (H2.push { cls := .type "dict", data := .dict #[] }).push { cls := .type "cell", data := .cell none } = H3
  have hIlt : I < D := hD ▸ hfp I (W.sub I (List.mem_singleton.mpr rfl))
  have hLlt : L < D := hD ▸ F.ns.lt
  have up2 : ∀ b o, H2.get? b = some o → H3.get? b = some o := fun b o e => hH3 ▸ Heap.get?_push_of_some _ (Heap.get?_push_of_some _ e)
  have up : ∀ b o, s₂.heap.get? b = some o → H3.get? b = some o := fun b o e => up2 _ _ (hH2 ▸ Heap.get?_push_of_some _ e)
  have gD : H3.get? D = some (lst []) := up2 _ _ (by rw [← hH2, ← hD]; exact Heap.get?_push_size _ rfl)
  have gC : H3.Ns H2.objs.size (fun _ => none) := by
    refine ⟨_, #[], _, hH3 ▸ Heap.get?_push_of_some _ (Heap.get?_push_size _ rfl), rfl, fun e he => absurd he (by simp), fun _ => rfl⟩
  have gZ : H3.get? (H2.objs.size + 1) = some { cls := .type "cell", data := .cell none } := by
    rw [← hH3, hC, ← e3]; exact Heap.get?_push_size _ rfl
  rw [hC] at gC gZ ⊢
  have fresh₀ : ∀ a, D ≤ a → h₀.get? a = none := fun a ha => by
    cases e : h₀.get? a with
    | none => rfl
    | some o' => exact absurd (Heap.lt_size (F.keep a o' e)) (by rw [hD]; exact Nat.not_lt.mpr ha)
  have hlt : ∀ p ∈ news, p.1 < D := fun p hp => hD ▸ Heap.lt_size (N p hp).1
  have hfpD : ∀ b ∈ fp, b < D := fun b hb => hD ▸ hfp b hb
  have loop : ∀ s₃ : Shared, s₃ = { s₂ with heap := H3 } →
      codeAny (model prog w) A (.compLoop (.ListComp elt [⟨.Name x px, iter, ifs, 0⟩] scope pos) 0 (.ref I) (.ref D) (compEnvC scope ((x, D + 1 + 1) :: cl) (D + 1) env)) (RR (.ref D) (D + 1)) s₃ := by
    rintro s₃ rfl
    refine codeAny_compLoop_tests
      (fun k s' => ∃ h' tk i ys mC oZ vZ news', s' = { s₂ with heap := h', toks := tk } ∧ i ≤ n ∧ k = n + 1 - i ∧ ys.length ≤ i ∧ St i h' ∧ Fr h₀ L h' m ∧ h'.Ns (D + 1) mC ∧ h'.get? (D + 1 + 1) = some oZ ∧ oZ.data = .cell vZ ∧
        News h₀ L h' ((D, lst ys) :: news') ∧ Off3 I (D + 1) D news' ∧ (∀ p ∈ news', p.1 ≠ D + 1 + 1) ∧ S news' ∧ J i ys news') ?_ (n + 1)
      ⟨H3, _, 0, [], _, _, none, news, rfl, Nat.zero_le _, rfl, Nat.le_refl _, W.frame _ _ _ hst fun b _ o e => up b o e, F.keeps up, gC, gZ, rfl, fun p hp => ?_, Off3.of fun p hp => ⟨off p hp, (z_below (hlt p hp)).2.1, (z_below (hlt p hp)).1⟩, fun p hp => (z_below (hlt p hp)).2.2, hS, h0⟩
    · rintro k s' ⟨h', tk, i, ys, mC, oZ, vZ, news', rfl, hi, rfl, hyl, hst', F', hn', hz', hzd, N', off', offZ, hS', hJ'⟩
      by_cases hlt' : i < n
      · refine W.item i _ _ _ hlt' hst' fun v h₂ tk₂ hPv hst₂ hk₂ => ?_
        have hz₂ : h₂.get? (D + 1 + 1) = some _ := hk₂ _ _ (by simpa using Ne.symm (z_below hIlt).2.2) hz'
        refine wpAny_assign_Name (wpAny_storeName_cell (c := D + 1 + 1) (v₀ := vZ) (by simp [compEnvC, relabel, hkind]) (lookup_relabel_cell hx) (by show List.lookup x ((x, D + 1 + 1) :: cl) = _; simp) ⟨_, hz₂, hzd⟩ fun h₃ hc₃ hs₃ => ?_)
        obtain ⟨oZ', hz₃, hzd'⟩ := hc₃
        refine wpAny_mono (?_ : wpAny _ _ _ (fun ok s₄ => if ok = true then _ else _) _ _) (fun _ _ q => q) fun _ _ e => e
        have off3 := off'.mem
        have fpZ : ∀ b ∈ fp, b ≠ D + 1 + 1 := fun b hb => (z_below (hfpD b hb)).2.2
        have hst₃ : St (i + 1) h₃ := W.frame _ _ _ hst₂ fun b hb o e => hs₃.extBut b o (fpZ b hb) e
        obtain ⟨oI, heI⟩ := hIo _ _ hst₃
        have hnC₃ : h₃.Ns (D + 1) mC := (hn'.at' fun o e => hk₂ _ o (by simpa using Ne.symm (z_below hIlt).2.1) e).sameBut hs₃ (z_apart D).2.2.1
        obtain ⟨oC, heC, hoC⟩ := ns_obj hnC₃
        have F₃ : Fr h₀ L h₃ m := (fr_but F' hk₂ hIL hI₀).change hs₃ (Ne.symm (z_below hLlt).2.2) (fresh₀ _ (z_apart D).2.2.2.2)
        have N₂ : News h₀ L h₂ ((D, lst ys) :: news') := news_but N' hk₂ fun p hp => by
          rcases List.mem_cons.mp hp with rfl | hp
          · exact Ne.symm (z_below hIlt).1
          · exact (off3 p hp).1
        have N₃ : News h₀ L h₃ ((I, oI) :: (D + 1, oC) :: (D, lst ys) :: (D + 1 + 1, oZ') :: news') := fun p hp => by
          rcases List.mem_cons.mp hp with rfl | hp
          · exact ⟨heI, Ne.symm hIL, hI₀⟩
          · rcases List.mem_cons.mp hp with rfl | hp
            · exact ⟨heC, Ne.symm (z_below hLlt).2.1, fresh₀ _ (z_apart D).2.2.2.1⟩
            · rcases List.mem_cons.mp hp with rfl | hp
              · exact ⟨hs₃.extBut _ _ (z_apart D).2.1 (N₂ _ (List.mem_cons_self ..)).1, (N₂ _ (List.mem_cons_self ..)).2⟩
              · rcases List.mem_cons.mp hp with rfl | hp
                · exact ⟨hz₃, Ne.symm (z_below hLlt).2.2, fresh₀ _ (z_apart D).2.2.2.2⟩
                · have z := N₂ p (List.mem_cons_of_mem _ hp)
                  exact ⟨hs₃.extBut _ _ (offZ p hp) z.1, z.2⟩
        have offA : Off3 I (D + 1) D ((D + 1 + 1, oZ') :: news') := ⟨⟨Ne.symm (z_below hIlt).2.2, Ne.symm (z_apart D).2.2.1, Ne.symm (z_apart D).2.1⟩, off'⟩
        have after : ∀ (ys' : List Value) (y : Value) (s₄ : Shared), ys'.length ≤ i + 1 → CompEnd h₀ L m { s₂ with heap := h₃, toks := tk₂ } I oI (D + 1) oC D (lst ys) S (fun _ nw => ZRest (D + 1 + 1) oZ' (J (i + 1) ys') nw) y s₄ →
            ∃ h₄ tk₄ news₄, s₄ = { s₂ with heap := h₄, toks := tk₄ } ∧ Fr h₀ L h₄ m ∧ h₄.get? D = some (lst ys) ∧ h₄.Ns (D + 1) mC ∧ h₄.get? (D + 1 + 1) = some oZ' ∧ News h₀ L h₄ news₄ ∧ Off3 I (D + 1) D news₄ ∧ (∀ p ∈ news₄, p.1 ≠ D + 1 + 1) ∧ S news₄ ∧ J (i + 1) ys' news₄ ∧ St (i + 1) h₄ := by
          rintro ys' y s₄ _ ⟨h₄, tk₄, nw, rfl, F₄, N₄, off₄, hS₄, news₄, rfl, offZ₄, hJ₄⟩
          have zI := (N₄ (I, oI) List.mem_cons_self).1
          have zC := (N₄ (D + 1, oC) (List.mem_cons_of_mem _ List.mem_cons_self)).1
          have zD := (N₄ (D, lst ys) (List.mem_cons_of_mem _ (List.mem_cons_of_mem _ List.mem_cons_self))).1
          have N₄' : News h₀ L h₄ ((D + 1 + 1, oZ') :: news₄) := fun p hp => N₄ p (List.mem_cons_of_mem _ (List.mem_cons_of_mem _ (List.mem_cons_of_mem _ hp)))
          exact ⟨h₄, tk₄, news₄, rfl, F₄, zD, hoC.ns zC, (N₄' _ (List.mem_cons_self ..)).1, fun p hp => N₄' p (List.mem_cons_of_mem _ hp), off₄.2, offZ₄, hSm _ _ _ _ hzd' hS₄, hJ₄, hSt _ _ _ _ _ hst₃ heI zI F₄.keep N₄' hS₄⟩
        refine wpAny_mono (R i ys news' v I oI (D + 1) oC (D + 1 + 1) oZ' D h₃ tk₂ _ hlt' hPv hJ' hzd' F₃ N₃ offA offZ ⟨(z_below hIlt).2.1, (z_below hIlt).1, Ne.symm (z_apart D).1⟩) (fun ok s₄ h₄ => ?_) fun _ _ e => e
        cases ok with
        | true =>
          simp only [if_true] at h₄ ⊢
          refine wpAny_mono h₄ (fun y s₅ h₅ => ?_) fun _ _ e => e
          obtain ⟨h₄, tk₄, news₄, rfl, F₄, zD, hCn, zZ, N₄', off₄, offZ₄, hS₄, hJ₄, hst₄⟩ := after (ys ++ [y]) y s₅ (by rw [List.length_append, List.length_singleton]; (first | lia | omega)) h₅
          refine append_at (hsz := by show ys.toArray.size ≤ sizeLine; rw [List.size_toArray]; exact Nat.le_trans (Nat.le_trans hyl hi) hsz) zD fun h₅ hs₅ hD₅ => ?_
          have off4 := off₄.mem
          refine ⟨n + 1 - (i + 1), by (first | lia | omega), h₅, tk₄, i + 1, ys ++ [y], mC, oZ', some v, news₄, rfl, hlt', rfl, by rw [List.length_append, List.length_singleton]; (first | lia | omega), W.frame _ _ _ hst₄ fun b hb o e => hs₅.extBut b o (z_below (hfpD b hb)).1 e, F₄.change hs₅ (Ne.symm (z_below hLlt).1) (fresh₀ _ (Nat.le_refl _)),
            hCn.sameBut hs₅ (Ne.symm (z_apart D).1), hs₅.extBut _ _ (Ne.symm (z_apart D).2.1) zZ, hzd', fun p hp => ?_, off₄, offZ₄, hS₄, hJ₄⟩
          rcases List.mem_cons.mp hp with rfl | hp
          · exact ⟨hD₅.trans (congrArg some (lst_snoc ys y)), Ne.symm (z_below hLlt).1, fresh₀ _ (Nat.le_refl _)⟩
          · exact ⟨hs₅.extBut _ _ (off4 p hp).2.2 (N₄' p hp).1, (N₄' p hp).2⟩
        | false =>
          simp only [Bool.false_eq_true, if_false] at h₄ ⊢
          obtain ⟨h₅, tk₄, news₄, rfl, F₄, zD, hCn, zZ, N₄', off₄, offZ₄, hS₄, hJ₄, hst₄⟩ := after ys .none s₄ (by (first | lia | omega)) h₄
          refine ⟨n + 1 - (i + 1), by (first | lia | omega), h₅, tk₄, i + 1, ys, mC, oZ', some v, news₄, rfl, hlt', rfl, by (first | lia | omega), hst₄, F₄, hCn, zZ, hzd', fun p hp => ?_, off₄, offZ₄, hS₄, hJ₄⟩
          rcases List.mem_cons.mp hp with rfl | hp
          · exact ⟨zD, Ne.symm (z_below hLlt).1, fresh₀ _ (Nat.le_refl _)⟩
          · exact N₄' p hp
      · obtain rfl : i = n := Nat.le_antisymm hi (Nat.not_lt.mp hlt')
        refine W.done _ _ _ hst' fun h₂ tk₂ hk₂ => ?_
        have off3 := off'.mem
        exact hRR _ _ h₂ tk₂ _ ys news' (fr_but F' hk₂ hIL hI₀) (news_but N' hk₂ fun p hp => by
          rcases List.mem_cons.mp hp with rfl | hp
          · exact Ne.symm (z_below hIlt).1
          · exact (off3 p hp).1) off'.one (hn'.at' fun o e => hk₂ _ o (by simpa using Ne.symm (z_below hIlt).2.1) e) (fresh₀ _ (z_apart D).2.2.2.1) (fresh₀ _ (Nat.le_refl _)) (Ne.symm (z_below hLlt).2.1) (Ne.symm (z_below hLlt).1) (Ne.symm (z_apart D).1) (fun p hp => (off3 p hp).2.1) hJ'
    · rcases List.mem_cons.mp hp with rfl | hp
      · exact ⟨gD, Ne.symm (z_below hLlt).1, fresh₀ _ (Nat.le_refl _)⟩
      · exact ⟨up _ _ (N p hp).1, (N p hp).2⟩
  exact codeAny_compStart_list (loop _ rfl) (W.self 0 _ _ _ (W.frame _ _ _ hst fun b _ o e => up b o e) (loop _ rfl))
end
end Mine
end
section
open PySem PySem.W PyProof.Rows PySem.Calls
set_option maxRecDepth 100000
namespace Mine
open LCg LCt
section
variable {prog : Program} {w : World} {A : Around} {E : Value → Shared → Prop} {s s₁ : Shared} {h₀ : Heap} {L : Addr} {m : PySem.Str → Option Value} {env : Env} {news : List (Addr × Obj)}
theorem srcAt_drop {ax : Addr} {its : Array Value} : ∀ Z (oZ : Obj) v l, oZ.data = .cell (some v) → SrcAt h₀ ax its ((Z, oZ) :: l) → SrcAt h₀ ax its l := fun Z oZ v l hd hS => by
  rcases hS with h | ⟨o, hm, hc, n, hs⟩
  · exact .inl h
  · rcases List.mem_cons.mp hm with e | hm
    · obtain ⟨rfl, rfl⟩ := Prod.mk.inj e
      rw [hd] at hs; cases hs
    · exact .inr ⟨o, hm, hc, n, hs⟩
theorem end_E {Q : Value → Shared → Prop} {J : List Value → List (Addr × Obj) → Prop} {Fin : List Value → List (Addr × Obj) → Prop} (fin : ∀ ys nw, Fin ys nw → FinE h₀ L m s Q ys nw) :
    ∀ D C h tk m' ys news', Fr h₀ L h m → News h₀ L h ((D, lst ys) :: news') → Off1 D news' → h.Ns C m' → h₀.get? C = none → h₀.get? D = none → C ≠ L → D ≠ L → C ≠ D → (∀ p ∈ news', p.1 ≠ C) → Fin ys news' →
      ∃ m', h.Ns C m' ∧ ∀ h', Heap.SameBut C h h' → Q (.ref D) { s with heap := h', toks := tk } := by
  intro D C h tk m' ys news' F' N' o1 hn hC₀ hD₀ hCL hDL hCD offC hf
  refine ⟨m', hn, fun h'' hs'' => fin _ _ hf D h'' tk (F'.change hs'' hCL hC₀) (fun p hp => ?_) o1⟩
  refine ⟨hs''.extBut _ _ ?_ (N' p hp).1, (N' p hp).2⟩
  rcases List.mem_cons.mp hp with rfl | hp
  · exact Ne.symm hCD
  · exact offC p hp
theorem end_A {y : PySem.Str} {py : Pos} {Q : Flow → Shared → Prop} {Fin : List Value → List (Addr × Obj) → Prop} (hy : env.kindOf y = some .local) (hp : (env.scope.kind == .class || (env.scope.kind == .module && env.locals != env.globals)) = false)
    (fin : ∀ ys nw, Fin ys nw → FinA h₀ env.locals m s y Q ys nw) :
    ∀ D C h tk m' ys news', Fr h₀ env.locals h m → News h₀ env.locals h ((D, lst ys) :: news') → Off1 D news' → h.Ns C m' → h₀.get? C = none → h₀.get? D = none → C ≠ env.locals → D ≠ env.locals → C ≠ D → (∀ p ∈ news', p.1 ≠ C) → Fin ys news' →
      wpAny (model prog w) A (assign (.Name y py) env (.ref D)) (fun _ s'' => ∃ m, s''.heap.Ns C m ∧ ∀ h', Heap.SameBut C s''.heap h' → Q .next { s'' with heap := h' }) E { s with heap := h, toks := tk } := by
  intro D C h' tk m' ys news' F' N' o1 hn hC₀ hD₀ hCL hDL hCD offC hf
  refine wpAny_assign_Name (wpAny_storeName_local hy F'.ns (fun h₂ hn₂ hs₂ => ?_) hp)
  have hL₀ : h₀.get? env.locals = none := Heap.get?_none_of_le F'.above
  have F₂ : Fr h₀ env.locals h₂ (fun z => if z = y then some (.ref D) else m z) := ⟨hn₂, fun b o e => hs₂.extBut b o (fun q => by rw [q, hL₀] at e; cases e) (F'.keep b o e), F'.above⟩
  refine ⟨m', hn.sameBut hs₂ hCL, fun h'' hs'' => fin _ _ hf D h'' _ (F₂.change hs'' hCL hC₀) (fun p hp => ?_) o1⟩
  have z : h₂.get? p.1 = some p.2 := hs₂.extBut _ _ (N' p hp).2.1 (N' p hp).1
  refine ⟨hs''.extBut _ _ ?_ z, (N' p hp).2⟩
  rcases List.mem_cons.mp hp with rfl | hp
  · exact Ne.symm hCD
  · exact offC p hp

theorem Assign_ListComp_W {elt iter : PySem.Expr} {x y : PySem.Str} {px py : Pos} {scope : Scope} {cl : List (PySem.Str × Addr)} {pos spos : Pos} {Q : Flow → Shared → Prop} (hLe : env.locals = L)
    (hsw : swapsWith (.ListComp elt [⟨.Name x px, iter, [], 0⟩] scope pos) (some (.Name y py)) spos.line env = pure true)
    (hclos : closureFor scope env = pure cl) (hcell : ∀ z ∈ scope.names, z.2 ≠ .cell) (hkind : scope.kind = .function)
    (hnames : ∀ z ∈ scope.names, z.2 = .local → scope.names.lookup z.1 = some .local) (hx : scope.names.lookup x = some .local)
    (hy : env.kindOf y = some .local) (hp : (env.scope.kind == .class || (env.scope.kind == .module && env.locals != env.globals)) = false)
    (h : wpAny (model prog w) A (eval iter env) (SrcW prog w A h₀ L m env elt x scope cl (fun s₂ => FinA h₀ L m s₂ y Q)) E s)
    (hs : ∀ x, foldedSetIterable iter env x = pure x := by intro _; rfl) :
    wpAny (model prog w) A (exec (.Assign [.Name y py] (.ListComp elt [⟨.Name x px, iter, [], 0⟩] scope pos) spos) env) Q E s := by
  subst hLe
  rw [exec_Assign_Name_used _ _ _ _ hsw]
  refine wpAny_bind (wpAny_standAt (wpAny_bind ?_))
  show wpAny _ A (do let _ ← comprehension (.ListComp elt [⟨.Name x px, iter, [], 0⟩] scope pos) scope env _ (newList []) false (eval iter env) (some (assign (.Name y py) env))) _ _ s
  refine wpAny_bind (wpAny_mono (wpAny_comprehension_free (use := some (assign (.Name y py) env)) (Q := fun _ s' => Q .next s') rfl hs hclos hkind hnames
    (wpAny_mono h (fun xv s₁ h₁ => ?_) fun _ _ e => e)) (fun _ s' hq => wpAny_pure (wpAny_pure hq)) fun _ _ e => e)
  obtain ⟨n, P, S, news, F, N, hn, hS, it, R⟩ := h₁
  refine it _ _ fun I fp St h₂ hI hsz W hIo hSt hst hfp up => ?_
  have hI₀ : h₀.get? I = none := by rw [hI]; exact next_is_new F
  refine block_U (s₂ := { s₁ with heap := h₂ }) W hn hIo hSt hcell hkind hx hst hfp (F.keeps up) (N.grown up) (by rw [hI]; exact Nat.ne_of_lt F.ns.lt) hI₀ (fun p hp => by rw [hI]; exact Nat.ne_of_lt (Heap.lt_size (N p hp).1)) hS (R _ ⟨_, rfl⟩) ?_
  exact end_A hy hp fun _ _ h => h

def SrcZ (prog : Program) (w : World) (A : Around) (h₀ : Heap) (L : Addr) (m : PySem.Str → Option Value) (env : Env) (ifs : List PySem.Expr) (elt : PySem.Expr) (x : PySem.Str) (scope : Scope) (cl : List (PySem.Str × Addr)) (Fin : Shared → List Value → List (Addr × Obj) → Prop) (xv : Value) (s₁ : Shared) : Prop :=
  ∃ n P S news J, Fr h₀ L s₁.heap m ∧ News h₀ L s₁.heap news ∧ n ≤ sizeLine ∧ S news ∧ (∀ Z (oZ : Obj) v l, oZ.data = .cell (some v) → S ((Z, oZ) :: l) → S l) ∧ IterAs prog w A h₀ L S xv s₁ n P ∧ J 0 [] news ∧
    ∀ s₂ : Shared, (∃ h, s₂ = { s₁ with heap := h }) → TurnZ prog w A h₀ L m env ifs elt x scope cl s₂ S P J n ∧ ∀ ys nw, J n ys nw → Fin s₂ ys nw
theorem SrcZ.intro {ifs : List PySem.Expr} {elt : PySem.Expr} {x : PySem.Str} {scope : Scope} {cl : List (PySem.Str × Addr)} {Fin : Shared → List Value → List (Addr × Obj) → Prop} {xv : Value} {n : Nat} {P : Nat → Value → Prop} {S : List (Addr × Obj) → Prop}
    (it : IterAs prog w A h₀ L S xv s₁ n P) (F : Fr h₀ L s₁.heap m) (N : News h₀ L s₁.heap news) (hn : n ≤ sizeLine) (hS : S news) (hSm : ∀ Z (oZ : Obj) v l, oZ.data = .cell (some v) → S ((Z, oZ) :: l) → S l) (J : Nat → List Value → List (Addr × Obj) → Prop) (h0 : J 0 [] news)
    (turn : ∀ hh, TurnZ prog w A h₀ L m env ifs elt x scope cl { s₁ with heap := hh } S P J n)
    (fin : ∀ hh ys news, J n ys news → Fin { s₁ with heap := hh } ys news) : SrcZ prog w A h₀ L m env ifs elt x scope cl Fin xv s₁ :=
  ⟨n, P, S, news, J, F, N, hn, hS, hSm, it, h0, fun _ ⟨hh, e⟩ => by subst e; exact ⟨turn hh, fin hh⟩⟩

theorem ListComp_Z {ifs : List PySem.Expr} {elt iter : PySem.Expr} {x : PySem.Str} {px : Pos} {scope : Scope} {cl : List (PySem.Str × Addr)} {pos : Pos} {Q : Value → Shared → Prop}
    (hclos : closureFor scope env = pure cl) (hZ : ∀ (h : Heap) n, pushCells h scope.names = h.push { cls := .type "cell", data := .cell none } ∧ cellsFrom n scope.names cl = (x, n) :: cl) (hkind : scope.kind = .function)
    (hnames : ∀ y ∈ scope.names, y.2 = .local → scope.names.lookup y.1 = some .local) (hx : scope.names.lookup x = some .cell)
    (h : wpAny (model prog w) A (eval iter env) (SrcZ prog w A h₀ L m env ifs elt x scope cl (fun s₂ => FinE h₀ L m s₂ Q)) E s)
    (hs : ∀ x, foldedSetIterable iter env x = pure x := by intro _; rfl) :
    wpAny (model prog w) A (eval (.ListComp elt [⟨.Name x px, iter, ifs, 0⟩] scope pos) env) Q E s := by
  rw [eval_ListComp]
  refine wpAny_comprehension_free (use := none) rfl hs hclos hkind hnames (wpAny_mono h (fun xv s₁ h₁ => ?_) fun _ _ e => e)
  obtain ⟨n, P, S, news, J, F, N, hn, hS, hSm, it, h0, R⟩ := h₁
  refine it _ _ fun I fp St h₂ hI hsz W hIo hSt hst hfp up => ?_
  have hI₀ : h₀.get? I = none := by rw [hI]; exact next_is_new F
  refine block_Z (s₂ := { s₁ with heap := h₂ }) W hn hIo hSt hZ hkind hx hst hfp (F.keeps up) (N.grown up) (by rw [hI]; exact Nat.ne_of_lt F.ns.lt) hI₀ (fun p hp => by rw [hI]; exact Nat.ne_of_lt (Heap.lt_size (N p hp).1)) hS hSm h0 (R _ ⟨_, rfl⟩).1 ?_
  exact end_E (J := fun _ _ => True) fun ys nw hj => (R _ ⟨_, rfl⟩).2 ys nw hj

theorem Assign_ListComp_Z {ifs : List PySem.Expr} {elt iter : PySem.Expr} {x y : PySem.Str} {px py : Pos} {scope : Scope} {cl : List (PySem.Str × Addr)} {pos spos : Pos} {Q : Flow → Shared → Prop} (hLe : env.locals = L)
    (hsw : swapsWith (.ListComp elt [⟨.Name x px, iter, ifs, 0⟩] scope pos) (some (.Name y py)) spos.line env = pure true)
    (hclos : closureFor scope env = pure cl) (hZ : ∀ (h : Heap) n, pushCells h scope.names = h.push { cls := .type "cell", data := .cell none } ∧ cellsFrom n scope.names cl = (x, n) :: cl) (hkind : scope.kind = .function)
    (hnames : ∀ z ∈ scope.names, z.2 = .local → scope.names.lookup z.1 = some .local) (hx : scope.names.lookup x = some .cell)
    (hy : env.kindOf y = some .local) (hp : (env.scope.kind == .class || (env.scope.kind == .module && env.locals != env.globals)) = false)
    (h : wpAny (model prog w) A (eval iter env) (SrcZ prog w A h₀ L m env ifs elt x scope cl (fun s₂ => FinA h₀ L m s₂ y Q)) E s)
    (hs : ∀ x, foldedSetIterable iter env x = pure x := by intro _; rfl) :
    wpAny (model prog w) A (exec (.Assign [.Name y py] (.ListComp elt [⟨.Name x px, iter, ifs, 0⟩] scope pos) spos) env) Q E s := by
  subst hLe
  rw [exec_Assign_Name_used _ _ _ _ hsw]
  refine wpAny_bind (wpAny_standAt (wpAny_bind ?_))
  show wpAny _ A (do let _ ← comprehension (.ListComp elt [⟨.Name x px, iter, ifs, 0⟩] scope pos) scope env _ (newList []) false (eval iter env) (some (assign (.Name y py) env))) _ _ s
  refine wpAny_bind (wpAny_mono (wpAny_comprehension_free (use := some (assign (.Name y py) env)) (Q := fun _ s' => Q .next s') rfl hs hclos hkind hnames
    (wpAny_mono h (fun xv s₁ h₁ => ?_) fun _ _ e => e)) (fun _ s' hq => wpAny_pure (wpAny_pure hq)) fun _ _ e => e)
  obtain ⟨n, P, S, news, J, F, N, hn, hS, hSm, it, h0, R⟩ := h₁
  refine it _ _ fun I fp St h₂ hI hsz W hIo hSt hst hfp up => ?_
  have hI₀ : h₀.get? I = none := by rw [hI]; exact next_is_new F
  refine block_Z (s₂ := { s₁ with heap := h₂ }) W hn hIo hSt hZ hkind hx hst hfp (F.keeps up) (N.grown up) (by rw [hI]; exact Nat.ne_of_lt F.ns.lt) hI₀ (fun p hp => by rw [hI]; exact Nat.ne_of_lt (Heap.lt_size (N p hp).1)) hS hSm h0 (R _ ⟨_, rfl⟩).1 ?_
  exact end_A hy hp fun ys nw hj => (R _ ⟨_, rfl⟩).2 ys nw hj
end
end Mine
end
section
open PySem PySem.W PyProof.Rows PySem.Calls
set_option maxRecDepth 100000
namespace Mine
open LCg LCt
def isIt : Value → Bool
  | .type n => n == "list_iterator" || n == "range_iterator" || n == "bytes_iterator"
  | _ => false
def OffIt (I : Addr) : List (Addr × Obj) → Prop
  | [] => True
  | p :: r => (p.1 ≠ I ∨ isIt p.2.cls = false) ∧ OffIt I r
theorem OffIt.of {I : Addr} : ∀ {l : List (Addr × Obj)}, (∀ p ∈ l, p.1 ≠ I) → OffIt I l
  | [], _ => trivial
  | p :: r, h => ⟨.inl (h p (List.mem_cons_self ..)), OffIt.of fun q hq => h q (List.mem_cons_of_mem _ hq)⟩
theorem OffIt.ofC {I : Addr} : ∀ {l : List (Addr × Obj)}, (∀ p ∈ l, isIt p.2.cls = false) → OffIt I l
  | [], _ => trivial
  | p :: r, h => ⟨.inr (h p (List.mem_cons_self ..)), OffIt.ofC fun q hq => h q (List.mem_cons_of_mem _ hq)⟩
theorem OffIt.append {I : Addr} : ∀ {l r : List (Addr × Obj)}, OffIt I l → OffIt I r → OffIt I (l ++ r)
  | [], _, _, h => h
  | _ :: _, _, h, h' => ⟨h.1, OffIt.append h.2 h'⟩
theorem OffIt.at {I : Addr} {l : List (Addr × Obj)} (h : OffIt I l) : ∀ p ∈ l, p.1 ≠ I ∨ isIt p.2.cls = false := by
  induction l with
  | nil => intro p hp; cases hp
  | cons q r ih =>
    intro p hp
    have h' : (q.1 ≠ I ∨ isIt q.2.cls = false) ∧ OffIt I r := h
    rcases List.mem_cons.mp hp with e | hp
    · rw [e]; exact h'.1
    · exact ih h'.2 p hp
def IterG (prog : Program) (w : World) (A : Around) (target : PySem.Expr) (h₀ : Heap) (L : Addr) (S : List (Addr × Obj) → Prop) (xv : Value) (s₁ : Shared) (n : Nat) (P : Nat → Value → Prop) : Prop :=
  ∀ (Q : Value → Shared → Prop) (E : Value → Shared → Prop), (∀ I fp St h₂, I = s₁.heap.objs.size → h₂.objs.size = s₁.heap.objs.size + 1 → Walks prog w A I fp [I] n P St → (∀ i h, St i h → ∃ o, h.get? I = some o ∧ isIt o.cls = true) →
    (∀ i h h' o nw, St i h → h.get? I = some o → h'.get? I = some o → (∀ b o, h₀.get? b = some o → h'.get? b = some o) → News h₀ L h' nw → S nw → St i h') → St 0 h₂ → (∀ b ∈ fp, b < h₂.objs.size) →
    (∀ b o, s₁.heap.get? b = some o → h₂.get? b = some o) → (∀ i v (s : Shared) (Q : Unit → Shared → Prop) (E : Value → Shared → Prop), St i s.heap → Q () s → wpAny (model prog w) A (letOwnedTupleGo target (.ref I) v) Q E s) → Q (.ref I) { s₁ with heap := h₂ }) → wpAny (model prog w) A (pyIter xv) Q E s₁
section
variable {prog : Program} {w : World} {A : Around} {E : Value → Shared → Prop} {s s₁ : Shared} {h₀ : Heap} {L : Addr} {m : PySem.Str → Option Value} {env : Env} {news : List (Addr × Obj)}
theorem iterG_range {x : PySem.Str} {px : Pos} {r : Addr} {a b c : Int} {t u v : Tok} {n : Nat} (hh : A.handled = none) (hr : IsRange s₁.heap r a b c t u v) (hsm : Builtin.Range.small a b c = true) (hn : Builtin.Range.rangeSize a b c = ((n : Nat) : Int)) :
    IterG prog w A (.Name x px) h₀ L (fun _ => True) (.ref r) s₁ n (fun i v => ∃ t, v = .int (a + (i : Int) * c) t) := fun Q E k => by
  refine wpAny_pyIter_range hr hsm ?_
  refine k s₁.heap.objs.size [s₁.heap.objs.size] _ _ rfl (Heap.size_push ..) (Walks.range hh _ a c n) (fun i h st => ⟨_, st, rfl⟩) (fun i h h' o nw st e e' _ _ _ => ?_) ?_ (fun b hb => ?_) (fun _ _ e => Heap.get?_push_of_some _ e) (fun _ _ _ _ _ _ q => wpAny_of_eq (a := ()) rfl q)
  · have st' : h.get? s₁.heap.objs.size = some _ := st
    show h'.get? s₁.heap.objs.size = some _
    rw [e', ← e]; exact st'
  · show IsRangeIter _ _ _ _ _
    rw [hn]
    simpa using Heap.get?_push_size _ rfl
  · rw [List.mem_singleton.mp hb, Heap.size_push]; exact Nat.lt_succ_self _
theorem iterG_list {target : PySem.Expr} {ax : Addr} {its : Array Value} (hh : A.handled = none) (F : Fr h₀ L s₁.heap m) (N : News h₀ L s₁.heap news) (hS : SrcAt h₀ ax its news) :
    IterG prog w A target h₀ L (SrcAt h₀ ax its) (.ref ax) s₁ its.size (fun i v => its[i]? = some v) := fun Q E k => by
  have hl := hS.list F.keep N
  have hlt : ax < s₁.heap.objs.size := by obtain ⟨_, e, _⟩ := hl; exact Heap.lt_size e
  refine wpAny_pyIter_list hl ?_
  refine k s₁.heap.objs.size [s₁.heap.objs.size, ax] _ _ rfl (Heap.size_push ..) (Walks.list hh s₁.heap.objs.size ax (Nat.ne_of_lt hlt) its) (fun i h st => by obtain ⟨o, e, c, _⟩ := st.1; exact ⟨o, e, by rw [c]; rfl⟩) list_st ⟨⟨_, Heap.get?_push_size _ rfl, rfl, rfl⟩, hl.push _⟩ (fun b hb => ?_) (fun _ _ e => Heap.get?_push_of_some _ e) (fun i v s Q E st q => letGo_listiter st.1 q)
  rw [Heap.size_push]
  rcases List.mem_cons.mp hb with rfl | hb
  · exact Nat.lt_succ_self _
  · rw [List.mem_singleton.mp hb]; exact Nat.lt_succ_of_lt hlt
def ForEnd (h₀ : Heap) (L : Addr) (s₁ : Shared) (I : Addr) (oI : Obj) (S : List (Addr × Obj) → Prop) (Jn : (PySem.Str → Option Value) → List (Addr × Obj) → Prop) (Q : Flow → Shared → Prop) (f : Flow) (s₂ : Shared) : Prop :=
  match f with
  | .ret v => Q (.ret v) s₂
  | .brk => Q .next s₂
  | _ => ∃ h' tk m' news', s₂ = { s₁ with heap := h', toks := tk } ∧ Fr h₀ L h' m' ∧ News h₀ L h' ((I, oI) :: news') ∧ (∀ p ∈ news', p.1 ≠ I) ∧ S news' ∧ Jn m' news'
theorem ForEnd.next' {L : Addr} {s₁ : Shared} {I : Addr} {oI : Obj} {S : List (Addr × Obj) → Prop} {Jn : (PySem.Str → Option Value) → List (Addr × Obj) → Prop} {Q : Flow → Shared → Prop} {f : Flow} {h' : Heap} {tk : Nat} {m' : PySem.Str → Option Value} {all : List (Addr × Obj)} (hf : f = .next ∨ f = .cont)
    (F : Fr h₀ L h' m') (N : News h₀ L h' all) (hI : isIt oI.cls = true) (news' : List (Addr × Obj)) (sub : ∀ p ∈ (I, oI) :: news', p ∈ all) (off : OffIt I news') (hS : S news') (hJ : Jn m' news') : ForEnd h₀ L s₁ I oI S Jn Q f { s₁ with heap := h', toks := tk } := by
  have : ∃ h'' tk' m' news', ({ s₁ with heap := h', toks := tk } : Shared) = { s₁ with heap := h'', toks := tk' } ∧ Fr h₀ L h'' m' ∧ News h₀ L h'' ((I, oI) :: news') ∧ (∀ p ∈ news', p.1 ≠ I) ∧ S news' ∧ Jn m' news' := by
    refine ⟨h', tk, m', news', rfl, F, fun p hp => N p (sub p hp), fun p hp e => ?_, hS, hJ⟩
    rcases off.at p hp with h | h
    · exact h e
    · have h1 := (N _ (sub p (List.mem_cons_of_mem _ hp))).1
      have h2 := (N _ (sub _ (List.mem_cons_self ..))).1
      rw [e] at h1
      have := Option.some.inj (h1.symm.trans h2)
      rw [this, hI] at h
      cases h
  rcases hf with rfl | rfl <;> exact this
theorem ForEnd.next {L : Addr} {s₁ : Shared} {I : Addr} {oI : Obj} {S : List (Addr × Obj) → Prop} {Jn : (PySem.Str → Option Value) → List (Addr × Obj) → Prop} {Q : Flow → Shared → Prop} {h' : Heap} {tk : Nat} {m' : PySem.Str → Option Value} {all : List (Addr × Obj)}
    (F : Fr h₀ L h' m') (N : News h₀ L h' all) (hI : isIt oI.cls = true) (news' : List (Addr × Obj)) (sub : ∀ p ∈ (I, oI) :: news', p ∈ all) (off : OffIt I news') (hS : S news') (hJ : Jn m' news') : ForEnd h₀ L s₁ I oI S Jn Q .next { s₁ with heap := h', toks := tk } := ForEnd.next' (.inl rfl) F N hI news' sub off hS hJ
theorem ForEnd.ret {L : Addr} {s₁ s₂ : Shared} {I : Addr} {oI : Obj} {S : List (Addr × Obj) → Prop} {Jn : (PySem.Str → Option Value) → List (Addr × Obj) → Prop} {Q : Flow → Shared → Prop} {v : Value} (h : Q (.ret v) s₂) : ForEnd h₀ L s₁ I oI S Jn Q (.ret v) s₂ := h
def TurnF (prog : Program) (w : World) (A : Around) (E : Value → Shared → Prop) (h₀ : Heap) (env : Env) (target : PySem.Expr) (body : List Stmt) (Q : Flow → Shared → Prop) (S : List (Addr × Obj) → Prop) (P : Nat → Value → Prop) (J : Nat → (PySem.Str → Option Value) → List (Addr × Obj) → Prop) (n : Nat) (s₁ : Shared) : Prop :=
  ∀ i v I oI m₁ news₁ h tk, i < n → P i v → J i m₁ news₁ → isIt oI.cls = true → (∀ p ∈ news₁, p.1 ≠ I) → S news₁ → Fr h₀ env.locals h m₁ → News h₀ env.locals h ((I, oI) :: news₁) →
    wpAny (model prog w) A (assign target env v) (fun _ s₃ => wpAny (model prog w) A (execs body env) (ForEnd h₀ env.locals { s₁ with heap := h, toks := tk } I oI S (J (i + 1)) Q) E s₃) E { s₁ with heap := h, toks := tk }
def SrcF (prog : Program) (w : World) (A : Around) (E : Value → Shared → Prop) (h₀ : Heap) (env : Env) (target : PySem.Expr) (body : List Stmt) (Q : Flow → Shared → Prop) (xv : Value) (s₁ : Shared) : Prop :=
  ∃ n P S m news J, Fr h₀ env.locals s₁.heap m ∧ News h₀ env.locals s₁.heap news ∧ S news ∧ IterG prog w A target h₀ env.locals S xv s₁ n P ∧ J 0 m news ∧
    TurnF prog w A E h₀ env target body Q S P J n s₁ ∧
    ∀ h' tk m' news', Fr h₀ env.locals h' m' → News h₀ env.locals h' news' → S news' → J n m' news' → Q .next { s₁ with heap := h', toks := tk }
theorem SrcF.intro {target : PySem.Expr} {body : List Stmt} {Q : Flow → Shared → Prop} {xv : Value} {n : Nat} {P : Nat → Value → Prop} {S : List (Addr × Obj) → Prop}
    (it : IterG prog w A target h₀ env.locals S xv s₁ n P) (F : Fr h₀ env.locals s₁.heap m) (N : News h₀ env.locals s₁.heap news) (hS : S news) (J : Nat → (PySem.Str → Option Value) → List (Addr × Obj) → Prop) (h0 : J 0 m news)
    (turn : TurnF prog w A E h₀ env target body Q S P J n s₁)
    (fin : ∀ h' tk m' news', Fr h₀ env.locals h' m' → News h₀ env.locals h' news' → S news' → J n m' news' → Q .next { s₁ with heap := h', toks := tk }) : SrcF prog w A E h₀ env target body Q xv s₁ :=
  ⟨n, P, S, m, news, J, F, N, hS, it, h0, turn, fin⟩
theorem For_W {target iter : PySem.Expr} {body : List Stmt} {pos : Pos} {Q : Flow → Shared → Prop} (F₀ : Fr h₀ env.locals s.heap m)
    (h : wpAny (model prog w) A (eval iter env) (SrcF prog w A E h₀ env target body Q) E s)
    (hs : ∀ x, foldedSetIterable iter env x = pure x := by intro _; rfl)
    (hE : PassesOwn (model prog w) A env E := by passes_own) :
    wpAny (model prog w) A (exec (.For target iter body [] pos) env) Q E s := by
  refine wpAny_For (wpAny_mono h (fun xv s₁ h₁ => ?_) fun _ _ e => e) hs
  obtain ⟨n, P, S, m, news, J, F, N, hS, it, h0, turn, fin⟩ := h₁
  refine it _ _ fun I fp St h₂ hI hsz W hIo hSt hst hfp up go => ?_
  have hI₀ : h₀.get? I = none := by rw [hI]; exact next_is_new F
  have hLI : env.locals ≠ I := by rw [hI]; exact Nat.ne_of_lt F.ns.lt
  have hNI : ∀ p ∈ news, p.1 ≠ I := fun p hp => by rw [hI]; exact Nat.ne_of_lt (Heap.lt_size (N p hp).1)
  refine codeAny_forLoop_any
    (fun k s' => ∃ h' tk m' news' i, s' = { s₁ with heap := h', toks := tk } ∧ St i h' ∧ Fr h₀ env.locals h' m' ∧ News h₀ env.locals h' news' ∧ (∀ p ∈ news', p.1 ≠ I) ∧ S news' ∧ J i m' news' ∧ i ≤ n ∧ k = n + 1 - i) ?_ (n + 1)
    ⟨h₂, s₁.toks, m, news, 0, rfl, hst, F.keeps up, N.grown up, hNI, hS, h0, Nat.zero_le _, rfl⟩
  rintro k s' ⟨h', tk, m', news', i, rfl, hst', F', N', hnw', hS', hJ, hi, rfl⟩
  have next : ∀ h₁ : Heap, (∀ b o, b ∉ [I] → h'.get? b = some o → h₁.get? b = some o) → Fr h₀ env.locals h₁ m' ∧ News h₀ env.locals h₁ news' := fun h₁ hk₁ =>
    ⟨⟨F'.ns.at' fun o e => hk₁ _ o (by simpa using hLI) e, fun b o e => hk₁ b o (fun q => by rw [List.mem_singleton.mp q, hI₀] at e; cases e) (F'.keep b o e), F'.above⟩, fun p hp => ⟨hk₁ _ _ (by simpa using hnw' p hp) (N' p hp).1, (N' p hp).2⟩⟩
  by_cases hlt : i < n
  · refine W.item i _ _ _ hlt hst' fun v h₁ tk₁ hP hst₁ hk₁ => ?_
    refine go (i + 1) v _ _ _ hst₁ ?_
    obtain ⟨F₁, N₁⟩ := next h₁ hk₁
    obtain ⟨oI, hoI, hcI⟩ := hIo _ _ hst₁
    have N₂ : News h₀ env.locals h₁ ((I, oI) :: news') := fun p hp => by
      rcases List.mem_cons.mp hp with rfl | hp
      · exact ⟨hoI, fun e => hLI e.symm, hI₀⟩
      · exact N₁ p hp
    refine wpAny_mono (turn i v I oI m' news' h₁ tk₁ hlt hP hJ hcI hnw' hS' F₁ N₂) (fun _ s₂ h₂' => wpAny_mono (wpAny_passesOwn hE h₂') (fun f s₃ h₃ => ?_) fun _ _ e => e) hE
    have rest : (∃ h'' tk m' news', s₃ = { s₁ with heap := h'', toks := tk } ∧ Fr h₀ env.locals h'' m' ∧ News h₀ env.locals h'' ((I, oI) :: news') ∧ (∀ p ∈ news', p.1 ≠ I) ∧ S news' ∧ J (i + 1) m' news') →
        ∃ m_1, m_1 < n + 1 - i ∧ ∃ h' tk m' news' i, s₃ = { s₁ with heap := h', toks := tk } ∧ St i h' ∧ Fr h₀ env.locals h' m' ∧ News h₀ env.locals h' news' ∧ (∀ p ∈ news', p.1 ≠ I) ∧ S news' ∧ J i m' news' ∧ i ≤ n ∧ m_1 = n + 1 - i := by
      rintro ⟨h'', tk'', m'', news'', rfl, F₃, N₃, o₃, S₃, J₃⟩
      have N₄ : News h₀ env.locals h'' news'' := fun p hp => N₃ p (List.mem_cons_of_mem _ hp)
      refine ⟨n + 1 - (i + 1), by (first | lia | omega), h'', tk'', m'', news'', i + 1, rfl, ?_, F₃, N₄, o₃, S₃, J₃, hlt, rfl⟩
      exact hSt _ _ _ oI _ hst₁ hoI (N₃ _ (List.mem_cons_self ..)).1 F₃.keep N₄ S₃
    cases f with
    | ret v => exact h₃
    | brk => exact h₃
    | cont => exact rest h₃
    | next => exact rest h₃
  · have hin : i = n := by (first | lia | omega)
    subst hin
    refine W.done _ _ _ hst' fun h₁ tk₁ hk₁ => wpAny_execs_nil ?_
    obtain ⟨F₁, N₁⟩ := next h₁ hk₁
    exact fin h₁ tk₁ m' news' F₁ N₁ hS' hJ
def WEnd (h₀ : Heap) (L : Addr) (s : Shared) (J : Nat → (PySem.Str → Option Value) → List (Addr × Obj) → Prop) (n : Nat) (Q : Flow → Shared → Prop) (f : Flow) (s₃ : Shared) : Prop :=
  match f with
  | .ret v => Q (.ret v) s₃
  | .brk => Q .next s₃
  | _ => ∃ h' tk m₂ news₂ n', s₃ = { s with heap := h', toks := tk } ∧ Fr h₀ L h' m₂ ∧ News h₀ L h' news₂ ∧ n' < n ∧ J n' m₂ news₂
theorem WEnd.next {h' : Heap} {J : Nat → (PySem.Str → Option Value) → List (Addr × Obj) → Prop} {n n' tk : Nat} {Q : Flow → Shared → Prop} {news₂ : List (Addr × Obj)} (F : Fr h₀ L h' m) (N : News h₀ L h' news₂) (hn : n' < n) (hJ : J n' m news₂) : WEnd h₀ L s J n Q .next { s with heap := h', toks := tk } :=
  ⟨h', tk, m, news₂, n', rfl, F, N, hn, hJ⟩
theorem WEnd.ret {J : Nat → (PySem.Str → Option Value) → List (Addr × Obj) → Prop} {n : Nat} {Q : Flow → Shared → Prop} {v : Value} {s₃ : Shared} (h : Q (.ret v) s₃) : WEnd h₀ L s J n Q (.ret v) s₃ := h
theorem While_W {Q : Flow → Shared → Prop} {test : PySem.Expr} {body : List Stmt} {pos : Pos} (J : Nat → (PySem.Str → Option Value) → List (Addr × Obj) → Prop) (n₀ : Nat)
    (F : Fr h₀ L s.heap m) (N : News h₀ L s.heap news) (hJ : J n₀ m news)
    (turn : ∀ n m₁ news₁ h₁ tk₁, Fr h₀ L h₁ m₁ → News h₀ L h₁ news₁ → J n m₁ news₁ →
      wpAny (model prog w) A (isTrue test env (eval test env)) (fun b s₂ =>
        if b = true then wpAny (model prog w) A (execs body env) (WEnd h₀ L s J n Q) E s₂ else Q .next s₂) E { s with heap := h₁, toks := tk₁ })
    (hE : PassesOwn (model prog w) A env E := by passes_own) :
    wpAny (model prog w) A (exec (.While test body [] pos) env) Q E s := by
  refine wpAny_While (codeAny_whileLoop (fun n s' => ∃ h₁ tk₁ m₁ news₁, s' = { s with heap := h₁, toks := tk₁ } ∧ Fr h₀ L h₁ m₁ ∧ News h₀ L h₁ news₁ ∧ J n m₁ news₁) ?_ n₀ ⟨s.heap, s.toks, m, news, rfl, F, N, hJ⟩)
  rintro n s' ⟨h₁, tk₁, m₁, news₁, rfl, F₁, N₁, J₁⟩
  refine wpAny_mono (turn n m₁ news₁ h₁ tk₁ F₁ N₁ J₁) (fun b s₂ h₂ => ?_) hE
  cases b with
  | false =>
    simp only [Bool.false_eq_true, if_false] at h₂ ⊢
    exact wpAny_execs_nil h₂
  | true =>
    simp only [if_true] at h₂ ⊢
    refine wpAny_mono h₂ (fun f s₃ h₃ => ?_) hE
    have rest : (∃ h' tk m₂ news₂ n', s₃ = { s with heap := h', toks := tk } ∧ Fr h₀ L h' m₂ ∧ News h₀ L h' news₂ ∧ n' < n ∧ J n' m₂ news₂) → ∃ m_1, m_1 < n ∧ ∃ h₁ tk₁ m₁ news₁, s₃ = { s with heap := h₁, toks := tk₁ } ∧ Fr h₀ L h₁ m₁ ∧ News h₀ L h₁ news₁ ∧ J m_1 m₁ news₁ := by
      rintro ⟨h', tk, m₂, news₂, n', rfl, F₂, N₂, hn, J₂⟩
      exact ⟨n', hn, h', tk, m₂, news₂, rfl, F₂, N₂, J₂⟩
    cases f with
    | ret v => exact h₃
    | brk => exact h₃
    | cont => exact rest h₃
    | next => exact rest h₃
end
end Mine
end
section
open PySem PySem.W PyProof.Rows PySem.Calls
set_option maxRecDepth 100000
namespace Mine
open LCg LCt
section
variable {prog : Program} {w : World} {A : Around} {E : Value → Shared → Prop} {s s₁ : Shared} {h₀ : Heap} {L : Addr} {m : PySem.Str → Option Value} {env : Env} {news : List (Addr × Obj)}
theorem Assign_ListComp_WF {elt iter : PySem.Expr} {x y : PySem.Str} {px py : Pos} {scope : Scope} {cl : List (PySem.Str × Addr)} {pos spos : Pos} {Q : Flow → Shared → Prop}  (F₀ : Fr h₀ L s.heap m) (hLe : env.locals = L)
    (hsw : swapsWith (.ListComp elt [⟨.Name x px, iter, [], 0⟩] scope pos) (some (.Name y py)) spos.line env = pure true)
    (hclos : closureFor scope env = pure cl) (hcell : ∀ z ∈ scope.names, z.2 ≠ .cell) (hkind : scope.kind = .function)
    (hnames : ∀ z ∈ scope.names, z.2 = .local → scope.names.lookup z.1 = some .local) (hx : scope.names.lookup x = some .local)
    (hy : env.kindOf y = some .local) (hp : (env.scope.kind == .class || (env.scope.kind == .module && env.locals != env.globals)) = false)
    (h : wpAny (model prog w) A (eval iter env) (SrcW prog w A h₀ L m env elt x scope cl (fun s₂ => FinA h₀ L m s₂ y Q)) E s)
    (hs : ∀ x, foldedSetIterable iter env x = pure x := by intro _; rfl) :
    wpAny (model prog w) A (exec (.Assign [.Name y py] (.ListComp elt [⟨.Name x px, iter, [], 0⟩] scope pos) spos) env) Q E s :=
  Assign_ListComp_W hLe hsw hclos hcell hkind hnames hx hy hp h hs
theorem ListComp_ZF {ifs : List PySem.Expr} {elt iter : PySem.Expr} {x : PySem.Str} {px : Pos} {scope : Scope} {cl : List (PySem.Str × Addr)} {pos : Pos} {Q : Value → Shared → Prop} (F₀ : Fr h₀ L s.heap m) 
    (hclos : closureFor scope env = pure cl) (hZ : ∀ (h : Heap) n, pushCells h scope.names = h.push { cls := .type "cell", data := .cell none } ∧ cellsFrom n scope.names cl = (x, n) :: cl) (hkind : scope.kind = .function)
    (hnames : ∀ y ∈ scope.names, y.2 = .local → scope.names.lookup y.1 = some .local) (hx : scope.names.lookup x = some .cell)
    (h : wpAny (model prog w) A (eval iter env) (SrcZ prog w A h₀ L m env ifs elt x scope cl (fun s₂ => FinE h₀ L m s₂ Q)) E s)
    (hs : ∀ x, foldedSetIterable iter env x = pure x := by intro _; rfl) :
    wpAny (model prog w) A (eval (.ListComp elt [⟨.Name x px, iter, ifs, 0⟩] scope pos) env) Q E s :=
  ListComp_Z hclos hZ hkind hnames hx h hs
theorem Assign_ListComp_ZF {ifs : List PySem.Expr} {elt iter : PySem.Expr} {x y : PySem.Str} {px py : Pos} {scope : Scope} {cl : List (PySem.Str × Addr)} {pos spos : Pos} {Q : Flow → Shared → Prop}  (F₀ : Fr h₀ L s.heap m) (hLe : env.locals = L)
    (hsw : swapsWith (.ListComp elt [⟨.Name x px, iter, ifs, 0⟩] scope pos) (some (.Name y py)) spos.line env = pure true)
    (hclos : closureFor scope env = pure cl) (hZ : ∀ (h : Heap) n, pushCells h scope.names = h.push { cls := .type "cell", data := .cell none } ∧ cellsFrom n scope.names cl = (x, n) :: cl) (hkind : scope.kind = .function)
    (hnames : ∀ z ∈ scope.names, z.2 = .local → scope.names.lookup z.1 = some .local) (hx : scope.names.lookup x = some .cell)
    (hy : env.kindOf y = some .local) (hp : (env.scope.kind == .class || (env.scope.kind == .module && env.locals != env.globals)) = false)
    (h : wpAny (model prog w) A (eval iter env) (SrcZ prog w A h₀ L m env ifs elt x scope cl (fun s₂ => FinA h₀ L m s₂ y Q)) E s)
    (hs : ∀ x, foldedSetIterable iter env x = pure x := by intro _; rfl) :
    wpAny (model prog w) A (exec (.Assign [.Name y py] (.ListComp elt [⟨.Name x px, iter, ifs, 0⟩] scope pos) spos) env) Q E s :=
  Assign_ListComp_Z hLe hsw hclos hZ hkind hnames hx hy hp h hs
theorem ifs_one {ct : PySem.Expr} {env : Env} {Q : Bool → Shared → Prop} (h : wpAny (model prog w) A (isTrue ct env (eval ct env)) Q E s) :
    wpAny (model prog w) A (forIn [ct] true fun c r => if r = true then do let ok ← isTrue c env (eval c env); pure (ForInStep.yield ok) else pure (ForInStep.yield r)) Q E s := by
  simp only [List.forIn_cons, List.forIn_nil, if_true]
  exact wpAny_bind (wpAny_bind (wpAny_mono h (fun ok s' hq => wpAny_pure (wpAny_pure hq)) fun _ _ e => e))
theorem ifs_nil {env : Env} {Q : Bool → Shared → Prop} (h : Q true s) :
    wpAny (model prog w) A (forIn [] true fun c r => if r = true then do let ok ← isTrue c env (eval c env); pure (ForInStep.yield ok) else pure (ForInStep.yield r)) Q E s := by
  simp only [List.forIn_nil]
  exact wpAny_pure h
theorem turnZ_one {ct elt : PySem.Expr} {x : PySem.Str} {scope : Scope} {cl : List (PySem.Str × Addr)} {S : List (Addr × Obj) → Prop} {P : Nat → Value → Prop} {J : Nat → List Value → List (Addr × Obj) → Prop} {n : Nat}
    (turn : ∀ i ys news v I oI C oC Z oZ D h tk (E' : Value → Shared → Prop), i < n → P i v → J i ys news → oZ.data = .cell (some v) → Fr h₀ L h m → News h₀ L h ((I, oI) :: (C, oC) :: (D, lst ys) :: (Z, oZ) :: news) → Off3 I C D ((Z, oZ) :: news) → (∀ p ∈ news, p.1 ≠ Z) → ((@Ne Nat I C) ∧ (@Ne Nat I D) ∧ (@Ne Nat C D)) →
      wpAny (model prog w) A (isTrue ct (compEnvC scope ((x, Z) :: cl) C env) (eval ct (compEnvC scope ((x, Z) :: cl) C env))) (fun ok s' => if ok = true then
        wpAny (model prog w) A (eval elt (compEnvC scope ((x, Z) :: cl) C env)) (CompEnd h₀ L m { s with heap := h, toks := tk } I oI C oC D (lst ys) S (fun y nw => ZRest Z oZ (J (i + 1) (ys ++ [y])) nw)) E' s'
        else CompEnd h₀ L m { s with heap := h, toks := tk } I oI C oC D (lst ys) S (fun _ nw => ZRest Z oZ (J (i + 1) ys) nw) Value.none s') E' { s with heap := h, toks := tk }) : TurnZ prog w A h₀ L m env [ct] elt x scope cl s S P J n :=
  fun i ys news v I oI C oC Z oZ D h tk E' a b c d e f g k l => ifs_one (turn i ys news v I oI C oC Z oZ D h tk E' a b c d e f g k l)
theorem turnZ_nil {elt : PySem.Expr} {x : PySem.Str} {scope : Scope} {cl : List (PySem.Str × Addr)} {S : List (Addr × Obj) → Prop} {P : Nat → Value → Prop} {J : Nat → List Value → List (Addr × Obj) → Prop} {n : Nat}
    (turn : ∀ i ys news v I oI C oC Z oZ D h tk (E' : Value → Shared → Prop), i < n → P i v → J i ys news → oZ.data = .cell (some v) → Fr h₀ L h m → News h₀ L h ((I, oI) :: (C, oC) :: (D, lst ys) :: (Z, oZ) :: news) → Off3 I C D ((Z, oZ) :: news) → (∀ p ∈ news, p.1 ≠ Z) → ((@Ne Nat I C) ∧ (@Ne Nat I D) ∧ (@Ne Nat C D)) →
        wpAny (model prog w) A (eval elt (compEnvC scope ((x, Z) :: cl) C env)) (CompEnd h₀ L m { s with heap := h, toks := tk } I oI C oC D (lst ys) S (fun y nw => ZRest Z oZ (J (i + 1) (ys ++ [y])) nw)) E' { s with heap := h, toks := tk }) : TurnZ prog w A h₀ L m env [] elt x scope cl s S P J n :=
  fun i ys news v I oI C oC Z oZ D h tk E' a b c d e f g k l => ifs_nil (turn i ys news v I oI C oC Z oZ D h tk E' a b c d e f g k l)
theorem compEnd_mono {s₁ s₂ : Shared} {I C D : Addr} {oI oC oD : Obj} {S : List (Addr × Obj) → Prop} {r r' : Value → List (Addr × Obj) → Prop} {y : Value} (h : CompEnd h₀ L m s₁ I oI C oC D oD S r y s₂) (hr : ∀ nw, r y nw → r' y nw) : CompEnd h₀ L m s₁ I oI C oC D oD S r' y s₂ := by
  obtain ⟨h', tk', nw, e, F, N, O, hS, h⟩ := h
  exact ⟨h', tk', nw, e, F, N, O, hS, hr _ h⟩
theorem SrcZ.pure1 {ct elt : PySem.Expr} {x : PySem.Str} {scope : Scope} {cl : List (PySem.Str × Addr)} {Fin : Shared → List Value → List (Addr × Obj) → Prop} {xv : Value} {n : Nat} {P : Nat → Value → Prop} {S : List (Addr × Obj) → Prop}
    (it : IterAs prog w A h₀ L S xv s₁ n P) (F : Fr h₀ L s₁.heap m) (N : News h₀ L s₁.heap news) (hn : n ≤ sizeLine) (hS : S news) (hSm : ∀ Z (oZ : Obj) v l, oZ.data = .cell (some v) → S ((Z, oZ) :: l) → S l) (J : Nat → List Value → Prop) (h0 : J 0 [])
    (turn : ∀ hh i ys v I oI C oC Z oZ D h tk (E' : Value → Shared → Prop), i < n → P i v → J i ys → oZ.data = .cell (some v) → Fr h₀ L h m → News h₀ L h ((I, oI) :: (C, oC) :: (D, lst ys) :: (Z, oZ) :: news) → Off3 I C D ((Z, oZ) :: news) → (∀ p ∈ news, p.1 ≠ Z) → ((@Ne Nat I C) ∧ (@Ne Nat I D) ∧ (@Ne Nat C D)) →
      wpAny (model prog w) A (isTrue ct (compEnvC scope ((x, Z) :: cl) C env) (eval ct (compEnvC scope ((x, Z) :: cl) C env))) (fun ok s' => if ok = true then
        wpAny (model prog w) A (eval elt (compEnvC scope ((x, Z) :: cl) C env)) (CompEnd h₀ L m { { s₁ with heap := hh } with heap := h, toks := tk } I oI C oC D (lst ys) S (fun y nw => nw = (Z, oZ) :: news ∧ J (i + 1) (ys ++ [y]))) E' s'
        else CompEnd h₀ L m { { s₁ with heap := hh } with heap := h, toks := tk } I oI C oC D (lst ys) S (fun _ nw => nw = (Z, oZ) :: news ∧ J (i + 1) ys) Value.none s') E' { { s₁ with heap := hh } with heap := h, toks := tk })
    (fin : ∀ hh ys, J n ys → Fin { s₁ with heap := hh } ys news) : SrcZ prog w A h₀ L m env [ct] elt x scope cl Fin xv s₁ :=
  SrcZ.intro it F N hn hS hSm (fun i ys nw => nw = news ∧ J i ys) ⟨rfl, h0⟩ (fun hh => turnZ_one fun i ys nw v I oI C oC Z oZ D h tk E' a b c d e f g k l => by
    obtain ⟨rfl, c⟩ := c
    refine wpAny_mono (turn hh i ys v I oI C oC Z oZ D h tk E' a b c d e f g k l) (fun ok s' hq => ?_) fun _ _ e => e
    cases ok with
    | true =>
      simp only [if_true] at hq ⊢
      exact wpAny_mono hq (fun y s'' h' => compEnd_mono h' fun nw hr => ⟨_, hr.1, k, rfl, hr.2⟩) fun _ _ e => e
    | false =>
      simp only [Bool.false_eq_true, if_false] at hq ⊢
      exact compEnd_mono hq fun nw hr => ⟨_, hr.1, k, rfl, hr.2⟩) fun hh ys nw hJ => by obtain ⟨rfl, hJ⟩ := hJ; exact fin hh ys hJ
theorem SrcZ.pure0 {elt : PySem.Expr} {x : PySem.Str} {scope : Scope} {cl : List (PySem.Str × Addr)} {Fin : Shared → List Value → List (Addr × Obj) → Prop} {xv : Value} {n : Nat} {P : Nat → Value → Prop} {S : List (Addr × Obj) → Prop}
    (it : IterAs prog w A h₀ L S xv s₁ n P) (F : Fr h₀ L s₁.heap m) (N : News h₀ L s₁.heap news) (hn : n ≤ sizeLine) (hS : S news) (hSm : ∀ Z (oZ : Obj) v l, oZ.data = .cell (some v) → S ((Z, oZ) :: l) → S l) (J : Nat → List Value → Prop) (h0 : J 0 [])
    (turn : ∀ hh i ys v I oI C oC Z oZ D h tk (E' : Value → Shared → Prop), i < n → P i v → J i ys → oZ.data = .cell (some v) → Fr h₀ L h m → News h₀ L h ((I, oI) :: (C, oC) :: (D, lst ys) :: (Z, oZ) :: news) → Off3 I C D ((Z, oZ) :: news) → (∀ p ∈ news, p.1 ≠ Z) → ((@Ne Nat I C) ∧ (@Ne Nat I D) ∧ (@Ne Nat C D)) →
        wpAny (model prog w) A (eval elt (compEnvC scope ((x, Z) :: cl) C env)) (CompEnd h₀ L m { { s₁ with heap := hh } with heap := h, toks := tk } I oI C oC D (lst ys) S (fun y nw => nw = (Z, oZ) :: news ∧ J (i + 1) (ys ++ [y]))) E' { { s₁ with heap := hh } with heap := h, toks := tk })
    (fin : ∀ hh ys, J n ys → Fin { s₁ with heap := hh } ys news) : SrcZ prog w A h₀ L m env [] elt x scope cl Fin xv s₁ :=
  SrcZ.intro it F N hn hS hSm (fun i ys nw => nw = news ∧ J i ys) ⟨rfl, h0⟩ (fun hh => turnZ_nil fun i ys nw v I oI C oC Z oZ D h tk E' a b c d e f g k l => by
    obtain ⟨rfl, c⟩ := c
    exact wpAny_mono (turn hh i ys v I oI C oC Z oZ D h tk E' a b c d e f g k l) (fun y s'' h' => compEnd_mono h' fun nw hr => ⟨_, hr.1, k, rfl, hr.2⟩) fun _ _ e => e) fun hh ys nw hJ => by obtain ⟨rfl, hJ⟩ := hJ; exact fin hh ys hJ
theorem SrcT.pureL {ct elt : PySem.Expr} {x : PySem.Str} {scope : Scope} {cl : List (PySem.Str × Addr)} {Fin : Shared → List Value → List (Addr × Obj) → Prop} {ax : Addr} {its : Array Value} {k : Nat}
    (hh : A.handled = none) (F : Fr h₀ L s₁.heap m) (N : News h₀ L s₁.heap news) (hm : (ax, ({ cls := .type "list", data := .seq its k } : Obj)) ∈ news) (hsz : its.size ≤ sizeLine) (J : Nat → List Value → Prop) (h0 : J 0 [])
    (turn : ∀ g i ys v I oI C oC D m₂ h tk (E' : Value → Shared → Prop), i < its.size → its[i]? = some v → J i ys → NsObj oC m₂ → m₂ x = some v → Fr h₀ L h m → News h₀ L h ((I, oI) :: (C, oC) :: (D, lst ys) :: news) → Off3 I C D news → ((@Ne Nat I C) ∧ (@Ne Nat I D) ∧ (@Ne Nat C D)) →
      wpAny (model prog w) A (isTrue ct (compEnvC scope cl C env) (eval ct (compEnvC scope cl C env))) (fun ok s' => if ok = true then
        wpAny (model prog w) A (eval elt (compEnvC scope cl C env)) (CompEnd h₀ L m { { s₁ with heap := g } with heap := h, toks := tk } I oI C oC D (lst ys) (SrcAt h₀ ax its) (fun y nw => nw = news ∧ J (i + 1) (ys ++ [y]))) E' s'
        else CompEnd h₀ L m { { s₁ with heap := g } with heap := h, toks := tk } I oI C oC D (lst ys) (SrcAt h₀ ax its) (fun _ nw => nw = news ∧ J (i + 1) ys) Value.none s') E' { { s₁ with heap := g } with heap := h, toks := tk })
    (fin : ∀ g ys, J its.size ys → Fin { s₁ with heap := g } ys news) : CompSrcT prog w A h₀ L m env ct elt x scope cl Fin (.ref ax) s₁ :=
  CompSrcT.ledger hh F N hm hsz fun g => compT_inv0 (fun i ys nw => nw = news ∧ J i ys) ⟨rfl, h0⟩ (fun i ys nw v I oI C oC D m₂ h tk E' a b c d e f g' k l => by
    obtain ⟨rfl, c⟩ := c
    exact turn g i ys v I oI C oC D m₂ h tk E' a b c d e f g' k l) fun ys nw hJ => by obtain ⟨rfl, hJ⟩ := hJ; exact fin g ys hJ
theorem SrcT.pureR {ct elt : PySem.Expr} {x : PySem.Str} {scope : Scope} {cl : List (PySem.Str × Addr)} {Fin : Shared → List Value → List (Addr × Obj) → Prop} {r : Addr} {a b : Int} {t u v' : Tok} {n : Nat}
    (hh : A.handled = none) (F : Fr h₀ L s₁.heap m) (N : News h₀ L s₁.heap news) (hr : IsRange s₁.heap r a b 1 t u v') (hsm : Builtin.Range.small a b 1 = true) (hn : Builtin.Range.rangeSize a b 1 = ((n : Nat) : Int)) (hsz : n ≤ sizeLine) (J : Nat → List Value → Prop) (h0 : J 0 [])
    (turn : ∀ g i ys v I oI C oC D m₂ h tk (E' : Value → Shared → Prop), i < n → (∃ t, v = .int (a + (i : Int)) t) → J i ys → NsObj oC m₂ → m₂ x = some v → Fr h₀ L h m → News h₀ L h ((I, oI) :: (C, oC) :: (D, lst ys) :: news) → Off3 I C D news → ((@Ne Nat I C) ∧ (@Ne Nat I D) ∧ (@Ne Nat C D)) →
      wpAny (model prog w) A (isTrue ct (compEnvC scope cl C env) (eval ct (compEnvC scope cl C env))) (fun ok s' => if ok = true then
        wpAny (model prog w) A (eval elt (compEnvC scope cl C env)) (CompEnd h₀ L m { { s₁ with heap := g } with heap := h, toks := tk } I oI C oC D (lst ys) (fun _ => True) (fun y nw => nw = news ∧ J (i + 1) (ys ++ [y]))) E' s'
        else CompEnd h₀ L m { { s₁ with heap := g } with heap := h, toks := tk } I oI C oC D (lst ys) (fun _ => True) (fun _ nw => nw = news ∧ J (i + 1) ys) Value.none s') E' { { s₁ with heap := g } with heap := h, toks := tk })
    (fin : ∀ g ys, J n ys → Fin { s₁ with heap := g } ys news) : CompSrcT prog w A h₀ L m env ct elt x scope cl Fin (.ref r) s₁ :=
  CompSrcT.range hh F N hr hsm hn hsz fun g => compT_inv0 (fun i ys nw => nw = news ∧ J i ys) ⟨rfl, h0⟩ (fun i ys nw v I oI C oC D m₂ h tk E' a b c d e f g' k l => by
    obtain ⟨rfl, c⟩ := c
    exact turn g i ys v I oI C oC D m₂ h tk E' a b c d e f g' k l) fun ys nw hJ => by obtain ⟨rfl, hJ⟩ := hJ; exact fin g ys hJ
theorem eq_nilK {l b : Addr} {items : Array Value} {n n2 : Nat} {Q : Value → Shared → Prop} (N : News h₀ L s.heap news) (m1 : (l, ({ cls := .type "list", data := .seq items n } : Obj)) ∈ news) (m2 : (b, ({ cls := .type "list", data := .seq #[] n2 } : Obj)) ∈ news) (hu : A.units < cLine)
    (h : Q (.bool (decide (items.size = 0))) s) : wpAny (model prog w) A (compareOp .Eq (.ref l) (.ref b)) Q E s := by
  have hl := PySem.IsL.isList (n := n) (N _ m1).1
  have hb := PySem.IsL.isList (n := n2) (N _ m2).1
  by_cases e : items.size = 0
  · refine PySem.SeqAt.eq_listAt (e := fun _ => true) hl hb (by rw [e]; rfl) hu (fun j h1 h2 => by (first | lia | omega)) ?_
    rw [e]
    rw [e] at h
    exact h
  · refine PySem.SeqAt.eq_list_lengthsAt hl hb (by simpa using e) hu ?_
    rw [decide_eq_false e] at h
    exact h
end
end Mine
end
section
open PySem PySem.W PyProof.Rows PySem.Calls
set_option maxRecDepth 100000
namespace Mine
open LCg LCt
section
variable {prog : Program} {w : World} {A : Around} {E : Value → Shared → Prop} {s s₁ : Shared} {g h₀ : Heap} {L : Addr} {m : PySem.Str → Option Value} {env : Env} {news : List (Addr × Obj)}
def ForEndV (G : Heap → Prop) (L : Addr) (s₁ : Shared) (I : Addr) (oI : Obj) (Jn : (PySem.Str → Option Value) → List (Addr × Obj) → Prop) (Q : Flow → Shared → Prop) (f : Flow) (s₂ : Shared) : Prop :=
  match f with
  | .ret v => Q (.ret v) s₂
  | .brk => Q .next s₂
  | _ => ∃ g h' tk m' news', s₂ = { s₁ with heap := h', toks := tk } ∧ G g ∧ Fr g L h' m' ∧ News g L h' ((I, oI) :: news') ∧ (∀ p ∈ news', p.1 ≠ I) ∧ Jn m' news'
theorem ForEndV.cont {G : Heap → Prop} {I : Addr} {oI : Obj} {Jn : (PySem.Str → Option Value) → List (Addr × Obj) → Prop} {Q : Flow → Shared → Prop} {h' : Heap} {tk : Nat} (hG : G g) (F : Fr g L h' m) (N : News g L h' ((I, oI) :: news)) (off : ∀ p ∈ news, p.1 ≠ I) (hJ : Jn m news) : ForEndV G L s₁ I oI Jn Q .cont { s₁ with heap := h', toks := tk } :=
  ⟨g, h', tk, m, news, rfl, hG, F, N, off, hJ⟩
def SrcV (prog : Program) (w : World) (A : Around) (E : Value → Shared → Prop) (G : Heap → Prop) (env : Env) (x : PySem.Str) (px : Pos) (body : List Stmt) (Q : Flow → Shared → Prop) (xv : Value) (s₁ : Shared) : Prop :=
  ∃ r a b c t u v n g m news, ∃ J : Nat → (PySem.Str → Option Value) → List (Addr × Obj) → Prop, xv = .ref r ∧ A.handled = none ∧ IsRange s₁.heap r a b c t u v ∧ Builtin.Range.small a b c = true ∧ Builtin.Range.rangeSize a b c = ((n : Nat) : Int) ∧ G g ∧ Fr g env.locals s₁.heap m ∧ News g env.locals s₁.heap news ∧ J 0 m news ∧
      (∀ i v g I oI m₁ news₁ h tk, i < n → (∃ t, v = .int (a + (i : Int) * c) t) → G g → J i m₁ news₁ → isIt oI.cls = true → (∀ p ∈ news₁, p.1 ≠ I) → Fr g env.locals h m₁ → News g env.locals h ((I, oI) :: news₁) →
        wpAny (model prog w) A (assign (.Name x px) env v) (fun _ s₃ => wpAny (model prog w) A (execs body env) (ForEndV G env.locals { s₁ with heap := h, toks := tk } I oI (J (i + 1)) Q) E s₃) E { s₁ with heap := h, toks := tk }) ∧
      ∀ g h' tk m' news', G g → Fr g env.locals h' m' → News g env.locals h' news' → J n m' news' → Q .next { s₁ with heap := h', toks := tk }
theorem SrcV.intro {G : Heap → Prop} {x : PySem.Str} {px : Pos} {body : List Stmt} {Q : Flow → Shared → Prop} {r : Addr} {a b c : Int} {t u v : Tok} {n : Nat} (hh : A.handled = none) (hr : IsRange s₁.heap r a b c t u v) (hsm : Builtin.Range.small a b c = true) (hn : Builtin.Range.rangeSize a b c = ((n : Nat) : Int)) (hG : G g) (F : Fr g env.locals s₁.heap m) (N : News g env.locals s₁.heap news)
    (J : Nat → (PySem.Str → Option Value) → List (Addr × Obj) → Prop) (h0 : J 0 m news)
    (turn : ∀ i v g I oI m₁ news₁ h tk, i < n → (∃ t, v = .int (a + (i : Int) * c) t) → G g → J i m₁ news₁ → isIt oI.cls = true → (∀ p ∈ news₁, p.1 ≠ I) → Fr g env.locals h m₁ → News g env.locals h ((I, oI) :: news₁) →
        wpAny (model prog w) A (assign (.Name x px) env v) (fun _ s₃ => wpAny (model prog w) A (execs body env) (ForEndV G env.locals { s₁ with heap := h, toks := tk } I oI (J (i + 1)) Q) E s₃) E { s₁ with heap := h, toks := tk })
    (fin : ∀ g h' tk m' news', G g → Fr g env.locals h' m' → News g env.locals h' news' → J n m' news' → Q .next { s₁ with heap := h', toks := tk }) : SrcV prog w A E G env x px body Q (.ref r) s₁ :=
  ⟨r, a, b, c, t, u, v, n, g, m, news, J, rfl, hh, hr, hsm, hn, hG, F, N, h0, turn, fin⟩
theorem For_V {x : PySem.Str} {px : Pos} {iter : PySem.Expr} {body : List Stmt} {pos : Pos} {Q : Flow → Shared → Prop} (G : Heap → Prop)
    (h : wpAny (model prog w) A (eval iter env) (SrcV prog w A E G env x px body Q) E s)
    (hs : ∀ x, foldedSetIterable iter env x = pure x := by intro _; rfl)
    (hE : PassesOwn (model prog w) A env E := by passes_own) :
    wpAny (model prog w) A (exec (.For (.Name x px) iter body [] pos) env) Q E s := by
  refine wpAny_For (wpAny_mono h (fun xv s₁ h₁ => ?_) fun _ _ e => e) hs
  obtain ⟨r, a, b, c, t, u, v, n, g, m, news, J, rfl, hh, hr, hsm, hn, hG, F, N, h0, turn, fin⟩ := h₁
  refine wpAny_pyIter_range hr hsm ?_
  generalize hI : s₁.heap.objs.size = I
  have W := Walks.range (prog := prog) (w := w) hh I a c n
  have hLI : env.locals ≠ I := by rw [← hI]; exact Nat.ne_of_lt F.ns.lt
  have hNI : ∀ p ∈ news, p.1 ≠ I := fun p hp => by rw [← hI]; exact Nat.ne_of_lt (Heap.lt_size (N p hp).1)
  refine codeAny_forLoop
    (fun k s' => ∃ (g : Heap) (h' : Heap) (tk : Nat) (m' : PySem.Str → Option Value) (news' : List (Addr × Obj)) (i : Nat) (o : Obj), s' = { s₁ with heap := h', toks := tk } ∧ h'.get? I = some o ∧ o = { cls := .type "range_iterator", dict := none, data := .fields #[rawInt (a + (i : Int) * c), rawInt ((n : Int) - i), rawInt c], slots := #[] } ∧ g.get? I = none ∧ G g ∧ Fr g env.locals h' m' ∧ News g env.locals h' news' ∧ (∀ p ∈ news', p.1 ≠ I) ∧ J i m' news' ∧ i ≤ n ∧ k = n + 1 - i) ?_ (n + 1)
    ⟨g, _, s₁.toks, m, news, 0, _, rfl, by rw [← hI]; exact Heap.get?_push_size _ rfl, by rw [hn]; simp, by rw [← hI]; exact next_is_new F, hG, F.push _, N.grown (fun _ _ e => Heap.get?_push_of_some _ e), hNI, h0, Nat.zero_le _, rfl⟩
  rintro k s' ⟨g, h', tk, m', news', i, o, rfl, hoI, ho, hgI, hG', F', N', hnw', hJ, hi, rfl⟩
  have next : ∀ h₁ : Heap, (∀ b o, b ∉ [I] → h'.get? b = some o → h₁.get? b = some o) → Fr g env.locals h₁ m' ∧ News g env.locals h₁ news' := fun h₁ hk₁ =>
    ⟨⟨F'.ns.at' fun o e => hk₁ _ o (by simpa using hLI) e, fun b o e => hk₁ b o (fun q => by rw [List.mem_singleton.mp q, hgI] at e; cases e) (F'.keep b o e), F'.above⟩, fun p hp => ⟨hk₁ _ _ (by simpa using hnw' p hp) (N' p hp).1, (N' p hp).2⟩⟩
  have hst : IsRangeIter h' I (a + (i : Int) * c) ((n : Int) - i) c := by rw [ho] at hoI; exact hoI
  by_cases hlt : i < n
  · refine W.item i _ _ _ hlt hst fun v h₁ tk₁ hP hst₁ hk₁ => ?_
    obtain ⟨F₁, N₁⟩ := next h₁ hk₁
    have hst₁' : IsRangeIter h₁ I (a + ((i + 1 : Nat) : Int) * c) ((n : Int) - (i + 1 : Nat)) c := hst₁
    obtain ⟨oJ, hoJ⟩ : ∃ oJ : Obj, oJ = { cls := .type "range_iterator", dict := none, data := .fields #[rawInt (a + ((i + 1 : Nat) : Int) * c), rawInt ((n : Int) - (i + 1 : Nat)), rawInt c], slots := #[] } := ⟨_, rfl⟩
    have hgj : h₁.get? I = some oJ := by rw [hoJ]; exact hst₁'
    have hcj : isIt oJ.cls = true := by rw [hoJ]; rfl
    have N₂ : News g env.locals h₁ ((I, oJ) :: news') := fun p hp => by
      rcases List.mem_cons.mp hp with rfl | hp
      · exact ⟨hgj, fun e => hLI e.symm, hgI⟩
      · exact N₁ p hp
    refine wpAny_mono (turn i v g I oJ m' news' h₁ tk₁ hlt hP hG' hJ hcj hnw' F₁ N₂) (fun _ s₂ h₂' => wpAny_mono (wpAny_passesOwn hE h₂') (fun f s₃ h₃ => ?_) fun _ _ e => e) hE
    have rest : (∃ g h'' tk m' news', s₃ = { s₁ with heap := h'', toks := tk } ∧ G g ∧ Fr g env.locals h'' m' ∧ News g env.locals h'' ((I, oJ) :: news') ∧ (∀ p ∈ news', p.1 ≠ I) ∧ J (i + 1) m' news') →
        ∃ m_1, m_1 < n + 1 - i ∧ ∃ (g : Heap) (h' : Heap) (tk : Nat) (m' : PySem.Str → Option Value) (news' : List (Addr × Obj)) (i : Nat) (o : Obj), s₃ = { s₁ with heap := h', toks := tk } ∧ h'.get? I = some o ∧ o = { cls := .type "range_iterator", dict := none, data := .fields #[rawInt (a + (i : Int) * c), rawInt ((n : Int) - i), rawInt c], slots := #[] } ∧ g.get? I = none ∧ G g ∧ Fr g env.locals h' m' ∧ News g env.locals h' news' ∧ (∀ p ∈ news', p.1 ≠ I) ∧ J i m' news' ∧ i ≤ n ∧ m_1 = n + 1 - i := by
      rintro ⟨g, h'', tk'', m'', news'', rfl, G₃, F₃, N₃, o₃, J₃⟩
      have z := N₃ _ (List.mem_cons_self ..)
      exact ⟨n + 1 - (i + 1), by (first | lia | omega), g, h'', tk'', m'', news'', i + 1, oJ, rfl, z.1, hoJ, z.2.2, G₃, F₃, fun p hp => N₃ p (List.mem_cons_of_mem _ hp), o₃, J₃, hlt, rfl⟩
    cases f with
    | ret v => exact h₃
    | brk => exact h₃
    | cont => exact rest h₃
    | next => exact rest h₃
  · have hin : i = n := by (first | lia | omega)
    subst hin
    refine W.done _ _ _ hst fun h₁ tk₁ hk₁ => wpAny_execs_nil ?_
    obtain ⟨F₁, N₁⟩ := next h₁ hk₁
    exact fin g h₁ tk₁ m' news' hG' F₁ N₁ hJ
end
end Mine
end
section
open PySem PySem.W PyProof.Rows PySem.Calls
set_option maxRecDepth 100000
namespace Mine
section
variable {prog : Program} {w : World} {A : Around} {E : Value → Shared → Prop} {s : Shared} {h₀ : Heap} {L : Addr} {m : PySem.Str → Option Value} {nw : List (Addr × Obj)}
theorem len_listN {l : Addr} {vs : List Value} {n k : Nat} {Q : Value → Shared → Prop} (N : News h₀ L s.heap nw) (hm : (l, ({ cls := .type "list", data := .seq vs.toArray n } : Obj)) ∈ nw) (hk : vs.length = k) (hn : k < 1000)
    (h : Q (.int k (s.toks + 1)) { s with toks := s.toks + 1 + 1 }) : wpAny (model prog w) A (call (.builtin "len") [.ref l]) Q E s := by
  have e : vs.toArray.size = k := by simp [hk]
  exact call_len_list (PySem.IsL.isList (n := n) (N _ hm).1) (by rw [e]; (first | lia | omega)) (by rw [e]; exact h)
end
end Mine
namespace Mine
open PyProof.V PySem.Spec PySem.SeqAt
theorem readsAll_of_strs {h : Heap} : ∀ {vs : List Value} {ns : List PySem.Str}, PyProof.Rows.StrsAre vs ns → ReadsAll h vs (ns.map PyData.str) []
  | _, _, .nil => .nil
  | _, _, .cons k t r => by
    have := ReadsAll.cons (Reads.str (h := h) k t) (readsAll_of_strs (h := h) r)
    simpa using this
theorem reads_of_strs {h : Heap} {a : Addr} {vs : List Value} {ns : List PySem.Str} (hl : h.IsList a vs.toArray) (hi : PyProof.Rows.StrsAre vs ns) : Reads h (.ref a) (.list (ns.map PyData.str)) [a] := by
  obtain ⟨o, ho, hc, n, hd⟩ := hl
  exact Reads.list ho hc hd (by simpa using readsAll_of_strs hi)
theorem canLayAll0_strs : ∀ ns : List PySem.Str, (∀ n ∈ ns, PyData.strOk n = true) → PyData.canLayAll0 (ns.map PyData.str) = true
  | [], _ => by simp [PyData.canLayAll0]
  | n :: r, h => by simp [PyData.canLayAll0, PyData.canLay0, canLayAll0_strs r (fun x hx => h x (List.mem_cons_of_mem _ hx)), h n (List.mem_cons_self ..)]
theorem depthAll_strs : ∀ ns : List PySem.Str, PyData.depthAll (ns.map PyData.str) ≤ 1
  | [] => by simp [PyData.depthAll]
  | n :: r => by
    have := depthAll_strs r
    simp only [List.map_cons, PyData.depthAll, PyData.depth]
    (first | lia | omega)
theorem shaped_strs (ns : List PySem.Str) (hok : ∀ n ∈ ns, PyData.strOk n = true) : shaped (.list (ns.map PyData.str)) = true := by
  have h1 := depthAll_strs ns
  have h2 : PyData.depth (.list (ns.map PyData.str)) ≤ 64 := by simp only [PyData.depth]; (first | lia | omega)
  show (PyData.canLay0 (.list (ns.map PyData.str)) && decide (PyData.depth (.list (ns.map PyData.str)) ≤ 64)) = true
  rw [Bool.and_eq_true]
  exact ⟨by simp only [PyData.canLay0]; exact canLayAll0_strs ns hok, decide_eq_true h2⟩
theorem noMix_strs : ∀ ns ms : List PySem.Str, noMixAll (ns.map PyData.str) (ms.map PyData.str) = true
  | [], [] => by simp [noMixAll]
  | [], _ :: _ => by simp [noMixAll]
  | _ :: _, [] => by simp [noMixAll]
  | _ :: r, _ :: q => by simp [noMixAll, noMix, noMix_strs r q]
theorem same_strs : ∀ ns ms : List PySem.Str, PySem.Spec.sameAll (ns.map PyData.str) (ms.map PyData.str) = decide (ns = ms)
  | [], [] => by simp [PySem.Spec.sameAll]
  | [], _ :: _ => by simp [PySem.Spec.sameAll]
  | _ :: _, [] => by simp [PySem.Spec.sameAll]
  | n :: r, k :: q => by
    simp only [List.map_cons, PySem.Spec.sameAll, PySem.Spec.same, same_strs r q]
    by_cases h : n = k <;> simp [h]
section
variable {prog : Program} {w : World} {A : Around} {E : Value → Shared → Prop} {s : Shared} {h₀ : Heap} {L : Addr} {m : PySem.Str → Option Value} {nw : List (Addr × Obj)}
theorem ne_strsK {a b : Addr} {vs us : List Value} {n n2 : Nat} {ns ms : List PySem.Str} {Q : Value → Shared → Prop} (N : News h₀ L s.heap nw) (m1 : (a, ({ cls := .type "list", data := .seq vs.toArray n } : Obj)) ∈ nw) (hi : PyProof.Rows.StrsAre vs ns) (m2 : (b, ({ cls := .type "list", data := .seq us.toArray n2 } : Obj)) ∈ nw) (hi' : PyProof.Rows.StrsAre us ms) (hu : A.units + 64 < cLine) (hok : ∀ n ∈ ns, PyData.strOk n = true) (hok' : ∀ n ∈ ms, PyData.strOk n = true)
    (h : Q (.bool (!decide (ns = ms))) s) : wpAny (model prog w) A (compareOp .NotEq (.ref a) (.ref b)) Q E s :=
  ne_dataH_same (reads_of_strs (PySem.IsL.isList (n := n) (N _ m1).1) hi) (reads_of_strs (PySem.IsL.isList (n := n2) (N _ m2).1) hi') (shaped_strs ns hok) (shaped_strs ms hok') hu (by simp only [noMix]; exact noMix_strs ns ms) (by simp only [PySem.Spec.same]; rw [same_strs]; exact h)
theorem ne_intsN {a b : Addr} {vs us : List Value} {n n2 : Nat} {ns ms : List Int} {Q : Value → Shared → Prop} (N : News h₀ L s.heap nw) (m1 : (a, ({ cls := .type "list", data := .seq vs.toArray n } : Obj)) ∈ nw) (hi : IntsAre vs ns) (m2 : (b, ({ cls := .type "list", data := .seq us.toArray n2 } : Obj)) ∈ nw) (hi' : IntsAre us ms) (hu : A.units + 64 < cLine)
    (h : Q (.bool (!decide (ns = ms))) s) : wpAny (model prog w) A (compareOp .NotEq (.ref a) (.ref b)) Q E s :=
  ne_intsK (PySem.IsL.isList (n := n) (N _ m1).1) hi (PySem.IsL.isList (n := n2) (N _ m2).1) hi' hu h
theorem eq_intsN {a b : Addr} {vs us : List Value} {n n2 : Nat} {ns ms : List Int} {Q : Value → Shared → Prop} (N : News h₀ L s.heap nw) (m1 : (a, ({ cls := .type "list", data := .seq vs.toArray n } : Obj)) ∈ nw) (hi : IntsAre vs ns) (m2 : (b, ({ cls := .type "list", data := .seq us.toArray n2 } : Obj)) ∈ nw) (hi' : IntsAre us ms) (hu : A.units + 64 < cLine)
    (h : Q (.bool (decide (ns = ms))) s) : wpAny (model prog w) A (compareOp .Eq (.ref a) (.ref b)) Q E s :=
  eq_intsK (PySem.IsL.isList (n := n) (N _ m1).1) hi (PySem.IsL.isList (n := n2) (N _ m2).1) hi' hu h
theorem slice_K {value slice : PySem.Expr} {l : Addr} {vs : List Value} {n : Nat} {a k : Int} {t u : Tok} {Q : Value → Shared → Prop} (F : Fr h₀ L s.heap m) (N : News h₀ L s.heap nw) (hm : (l, ({ cls := .type "list", data := .seq vs.toArray n } : Obj)) ∈ nw) (ha : 0 ≤ a) (hk : 0 ≤ k) (hab : a + k ≤ vs.length) (hz : vs.length ≤ 1000)
    (h : ∀ D h', Fr h₀ L h' m → News h₀ L h' ((D, listOf ((vs.drop a.toNat).take k.toNat).toArray 0) :: nw) → (∀ p ∈ nw, p.1 < D) → Q (.ref D) { s with heap := h' })
    (hs : subscripted slice false (.ref l) (.ref s.heap.objs.size) = operate [.ref s.heap.objs.size, .ref l] (getItem (.ref l) (.ref s.heap.objs.size)) := by with_unfolding_all rfl) (ht : ∀ r, letTemporaryGo value (.ref l) r = pure () := by intro _; with_unfolding_all rfl) :
    wpAny (model prog w) A (subscriptTail value slice (.ref l) (.ref s.heap.objs.size)) Q E { s with heap := s.heap.push { cls := .type "slice", data := .fields #[.int a t, .int (a + k) u, .none] } } := by
  refine kmk_slice F N (PySem.IsL.isList (n := n) (N _ hm).1) (.int a t) (.int (a + k) u) (fun D h' F' N' l1 => h D h' F' ?_ l1) hs ht (by rw [sizeLine_eq, List.size_toArray]; (first | lia | omega))
  have ea : a = ((a.toNat : Nat) : Int) := by (first | lia | omega)
  have ek : a + k = (((a + k).toNat : Nat) : Int) := by (first | lia | omega)
  have e := slicePick_run vs.toArray a.toNat (a + k).toNat (by rw [List.size_toArray]; (first | lia | omega)) (by (first | lia | omega))
  rw [← ea, ← ek] at e
  rw [e] at N'
  rw [show (a + k).toNat - a.toNat = k.toNat by (first | lia | omega)] at N'
  exact N'
end
end Mine
end
section
open PySem PySem.W PyProof.Rows PySem.Calls
set_option maxRecDepth 100000
namespace Mine
/-- the text of ones and zeros -/
def bitT (bs : List Nat) : PySem.Str := ⟨(bs.map (· + 48)).toArray⟩
theorem glue_fold : ∀ (rest : List PySem.Str) (acc : Array Nat), (rest.foldl (fun acc p => acc ++ (PySem.Str.ofString "").cps ++ p.cps) acc) = acc ++ (rest.map (·.cps.toList)).flatten.toArray
  | [], acc => by simp
  | p :: r, acc => by
    rw [List.foldl_cons, glue_fold r]
    apply Array.ext'
    simp [show (PySem.Str.ofString "").cps = #[] from rfl]
theorem join_empty (ts : List PySem.Str) : Txt.join (PySem.Str.ofString "") ts = ⟨(ts.map (·.cps.toList)).flatten.toArray⟩ := by
  cases ts with
  | nil => rfl
  | cons p r =>
    show (⟨r.foldl (fun acc q => acc ++ (PySem.Str.ofString "").cps ++ q.cps) p.cps⟩ : PySem.Str) = _
    rw [glue_fold]
    congr 1
    apply Array.ext'
    simp
theorem digit_text {d : Int} (h : d = 0 ∨ d = 1) : PySem.Str.ofString (toString d) = bitT [d.toNat] := by
  rcases h with rfl | rfl <;> decide
theorem join_bitTs (bss : List (List Nat)) : Txt.join (PySem.Str.ofString "") (bss.map bitT) = bitT bss.flatten := by
  rw [join_empty]
  unfold bitT
  congr 1
  induction bss with
  | nil => rfl
  | cons a r ih =>
    have ih' := congrArg Array.toList ih
    simp only [List.toList_toArray] at ih'
    simp only [List.map_cons, List.flatten_cons, List.map_append]
    rw [ih']
/-- the size bits of x, the greatest first -/
def bitsL (x : Int) (y : Nat) : List Nat := (List.range y).map fun j => ((x / 2 ^ (y - 1 - j)) % 2).toNat
theorem bitsL_length (x : Int) (y : Nat) : (bitsL x y).length = y := by simp [bitsL]
end Mine
end
section
open PySem PySem.W PyProof.Rows PySem.Calls
namespace Mine
section
variable {M : Model} {A : Around} {E : Value → Shared → Prop} {s : Shared}
theorem stCall (n : Nat) {args : List Value} {kw : List (PySem.Str × Value)} {Q : Value → Shared → Prop} (h : wpAny M A (call (.ref n) args kw) Q E s) : wpAny M A (call (.ref n) args kw) Q E s := h
theorem stIfE {t a b c : PySem.Expr} {p q : Pos} {env : Env} {Q : Flow → Shared → Prop} (h : wpAny M A (exec (.Assign [t] (.IfExp a b c p) q) env) Q E s) : wpAny M A (exec (.Assign [t] (.IfExp a b c p) q) env) Q E s := h
theorem stIf {t : PySem.Expr} {a b : List Stmt} {q : Pos} {env : Env} {Q : Flow → Shared → Prop} (h : wpAny M A (exec (.If t a b q) env) Q E s) : wpAny M A (exec (.If t a b q) env) Q E s := h
theorem stWhile {t : PySem.Expr} {a b : List Stmt} {q : Pos} {env : Env} {Q : Flow → Shared → Prop} (h : wpAny M A (exec (.While t a b q) env) Q E s) : wpAny M A (exec (.While t a b q) env) Q E s := h
theorem stFor {t i : PySem.Expr} {a b : List Stmt} {q : Pos} {env : Env} {Q : Flow → Shared → Prop} (h : wpAny M A (exec (.For t i a b q) env) Q E s) : wpAny M A (exec (.For t i a b q) env) Q E s := h
theorem stLC {e gs x p env} {Q : Value → Shared → Prop} (h : wpAny M A (eval (.ListComp e gs x p) env) Q E s) : wpAny M A (eval (.ListComp e gs x p) env) Q E s := h
theorem stALC {t e gs x p q env} {Q : Flow → Shared → Prop} (h : wpAny M A (exec (.Assign [t] (.ListComp e gs x p) q) env) Q E s) : wpAny M A (exec (.Assign [t] (.ListComp e gs x p) q) env) Q E s := h
theorem stSub {e i l k u} {Q : Value → Shared → Prop} (h : wpAny M A (subscriptTail e i (.ref l) (.int k u)) Q E s) : wpAny M A (subscriptTail e i (.ref l) (.int k u)) Q E s := h
theorem stLoopV {v prog w A' h₀ env x body Q' E'} (h : wpAny M A (pyIter v) (fun it s₂ => LoopAtV prog w A' h₀ env x body Q' E' it s₂) E s) : wpAny M A (pyIter v) (fun it s₂ => LoopAtV prog w A' h₀ env x body Q' E' it s₂) E s := h
end
theorem stSrcF {a b c d e f g h i j k} (q : SrcF a b c d e f g h i j k) : SrcF a b c d e f g h i j k := q
theorem stSrcV {a b c d e f g h i j k l} (q : SrcV a b c d e f g h i j k l) : SrcV a b c d e f g h i j k l := q
theorem stForEndV {a b c d e f g h i} (q : ForEndV a b c d e f g h i) : ForEndV a b c d e f g h i := q
theorem stForEnd {a b c d e f g h i j} (q : ForEnd a b c d e f g h i j) : ForEnd a b c d e f g h i j := q
theorem stWEnd {a b c d e f g h} (q : WEnd a b c d e f g h) : WEnd a b c d e f g h := q
theorem stSrcZ {a b c d e f g h i j k l m n o} (q : SrcZ a b c d e f g h i j k l m n o) : SrcZ a b c d e f g h i j k l m n o := q
theorem stSrcW {a b c d e f g h i j k l m n} (q : SrcW a b c d e f g h i j k l m n) : SrcW a b c d e f g h i j k l m n := q
theorem stSrcT {a b c d e f g h i j k l m n o} (q : LCt.CompSrcT a b c d e f g h i j k l m n o) : LCt.CompSrcT a b c d e f g h i j k l m n o := q
theorem stCompEnd {a b c d e f g h i j k l m n} (q : LCg.CompEnd a b c d e f g h i j k l m n) : LCg.CompEnd a b c d e f g h i j k l m n := q
end Mine
end
section
open PySem PySem.W PyProof.Rows PySem.Calls
set_option maxRecDepth 100000
namespace Mine
/-- a name's value put in front of the frame -/
theorem pin {m m'' : PySem.Str → Option Value} {x : PySem.Str} {v : Value} (e : m x = some v) (h : m'' = m) : (fun y => if y = x then some v else m'' y) = m := by
  subst h
  funext y
  by_cases q : y = x
  · rw [if_pos q, q, e]
  · rw [if_neg q]
theorem fr_cast {h₀ h : Heap} {L : Addr} {m m' : PySem.Str → Option Value} (F : Fr h₀ L h m) (e : m' = m) : Fr h₀ L h m' := e ▸ F
def codeAt (ks : List Int) : Nat → Int
  | 0 => 0
  | i + 1 => (codeAt ks i + ks.getD i 0) * 2
def placeAt (ks : List Int) : Nat → Int
  | 0 => 0
  | i + 1 => placeAt ks i + ks.getD i 0
def okAt (ks : List Int) (i : Nat) : Prop := ¬ ((2 : Int) ^ (i + 1) ≤ codeAt ks i + ks.getD i 0 ∧ 0 < ks.getD i 0)
abbrev tup3 (a b c : Int) (t u v : Tok) : Obj := { cls := .type "tuple", data := .seq #[.int a t, .int b u, .int c v] }
def RowsAt (nw : List (Addr × Obj)) (vals : List Value) (ks : List Int) (n : Nat) : Prop :=
  vals.length = n ∧ ∀ i, i < n → ∃ T t u v, vals[i]? = some (.ref T) ∧ (T, tup3 (codeAt ks i) (ks.getD i 0) (placeAt ks i) t u v) ∈ nw
theorem RowsAt.zero {nw : List (Addr × Obj)} {ks : List Int} : RowsAt nw [] ks 0 := ⟨rfl, fun i h => absurd h (Nat.not_lt_zero i)⟩
theorem RowsAt.snoc {nw : List (Addr × Obj)} {vals : List Value} {ks : List Int} {n : Nat} {T : Addr} {t u v : Tok} (R : RowsAt nw vals ks n) : RowsAt ((T, tup3 (codeAt ks n) (ks.getD n 0) (placeAt ks n) t u v) :: nw) (vals ++ [.ref T]) ks (n + 1) := by
  refine ⟨by rw [List.length_append, R.1]; rfl, fun i hi => ?_⟩
  by_cases e : i < n
  · obtain ⟨T', t', u', v', h1, h2⟩ := R.2 i e
    exact ⟨T', t', u', v', by rw [List.getElem?_append_left (by rw [R.1]; exact e)]; exact h1, List.mem_cons_of_mem _ h2⟩
  · have : i = n := by (first | lia | omega)
    subst this
    exact ⟨T, t, u, v, by rw [List.getElem?_append_right (by rw [R.1]; exact Nat.le_refl _), R.1]; simp, List.mem_cons_self ..⟩
theorem RowsAt.up {nw nw' : List (Addr × Obj)} {vals : List Value} {ks : List Int} {n : Nat} (R : RowsAt nw vals ks n) (h : ∀ p ∈ nw, p ∈ nw') : RowsAt nw' vals ks n :=
  ⟨R.1, fun i hi => let ⟨T, t, u, v, a, b⟩ := R.2 i hi; ⟨T, t, u, v, a, h _ b⟩⟩
theorem codeAt_nn {ks : List Int} (h : ∀ k ∈ ks, 0 ≤ k) : ∀ i, 0 ≤ codeAt ks i
  | 0 => Int.le_refl _
  | i + 1 => by
    have h1 := codeAt_nn h i
    have h2 : 0 ≤ ks.getD i 0 := by
      rw [List.getD_eq_getElem?_getD]
      cases e : ks[i]? with
      | none => exact Int.le_refl _
      | some k => exact h k (List.mem_of_getElem? e)
    show 0 ≤ (codeAt ks i + ks.getD i 0) * 2
    (first | lia | omega)
end Mine
namespace Mine
theorem raisedSN_sub {base G h : Heap} {l : List Env} {e : Addr} {cls : Value} {nw nw' : List (Addr × Obj)} (R : RaisedSN base G l e cls nw h) (hs : ∀ p ∈ nw', p ∈ nw) : RaisedSN base G l e cls nw' h := by
  obtain ⟨B, a0, h1, h2, h3, h4⟩ := R
  exact ⟨B, a0, h1, h2, fun q hq => h3 q (hs q hq), h4⟩
end Mine
namespace Mine
theorem some_int {v : Option Value} {a b : Int} {t : Tok} (e : v = some (.int a t)) (h : a = b) : v = some (.int b t) := h ▸ e
end Mine
namespace Mine
theorem units_under_make (A : Around) (C : Addr) (vals : List Value) : (A.under (.builtin "type.__call__" ⟨.ref C :: vals, []⟩)).units = A.units + 1 := rfl
end Mine
namespace Mine
section
variable {prog : Program} {w : World} {A : Around} {E : Value → Shared → Prop} {s : Shared} {h₀ : Heap} {L : Addr} {m : PySem.Str → Option Value} {nw : List (Addr × Obj)}
theorem tuple_K {l : Addr} {items : Array Value} {n : Nat} {Q : Value → Shared → Prop} (F : Fr h₀ L s.heap m) (N : News h₀ L s.heap nw) (hm : (l, listOf items n) ∈ nw) (hsz : items.size ≤ sizeLine)
    (h : ∀ D h', Fr h₀ L h' m → News h₀ L h' ((D, { cls := .type "tuple", data := .seq items }) :: nw) → (∀ p ∈ nw, p.1 < D) → Q (.ref D) { s with heap := h' }) :
    wpAny (model prog w) A (call (.type "tuple") [.ref l]) Q E s := by
  refine call_tuple_list (PySem.IsL.isList (n := n) (N _ hm).1) (fun h' hk => ?_) hsz
  have F' := F.keeps hk
  have N' : News h₀ L h' nw := N.grown hk
  refine h h'.objs.size _ (F'.push _) (fun p hp => ?_) fun p hp => Heap.lt_size (N' p hp).1
  rcases List.mem_cons.mp hp with rfl | hp
  · exact ⟨Heap.get?_push_size _ rfl, fun e => absurd F'.ns.lt (e ▸ Nat.lt_irrefl _), next_is_new F'⟩
  · exact ⟨Heap.get?_push_of_some _ (N' p hp).1, (N' p hp).2⟩
end
end Mine
namespace Mine
abbrev tupO (us : List Value) : Obj := { cls := .type "tuple", data := .seq us.toArray }
section
variable {prog : Program} {w : World} {A : Around} {E : Value → Shared → Prop} {s : Shared} {h₀ : Heap} {L : Addr} {m : PySem.Str → Option Value} {nw : List (Addr × Obj)}
theorem item_tuple_intsR {value slice : PySem.Expr} {l : Addr} {vs : List Value} {ns : List Int} {k : Int} {u : Tok} {Q : Value → Shared → Prop} (N : News h₀ L s.heap nw) (hm : (l, tupO vs) ∈ nw) (hi : IntsAre vs ns)
    (h0 : 0 ≤ k) (h1 : k < ns.length) (hfit : k < 2 ^ 63) (h : ∀ t, Q (.int (ns.getD k.toNat 0) t) s)
    (hs : subscripted slice false (.ref l) (.int k u) = operate [.ref l, .int k u] (getItem (.ref l) (.int k u)) := by with_unfolding_all rfl) :
    wpAny (model prog w) A (subscriptTail value slice (.ref l) (.int k u)) Q E s := by
  obtain ⟨t, hx⟩ := hi.get k.toNat _ (ints_getD h0 h1)
  exact item_tupleT (j := k.toNat) (News.isTup N hm) (by (first | lia | omega)) hfit (seqIndex_of h0 (by simpa [hi.length] using h1)) hx (h t) hs
end
end Mine
namespace Mine
section
variable {prog : Program} {w : World} {A : Around} {E : Value → Shared → Prop} {s : Shared} {h₀ : Heap} {L : Addr} {m : PySem.Str → Option Value} {nw : List (Addr × Obj)}
theorem len_tup_ints {l : Addr} {vs : List Value} {ns : List Int} {Q : Value → Shared → Prop} (N : News h₀ L s.heap nw) (hm : (l, tupO vs) ∈ nw) (hi : IntsAre vs ns) (hn : ns.length < 1000)
    (h : Q (.int ns.length (s.toks + 1)) { s with toks := s.toks + 1 + 1 }) : wpAny (model prog w) A (call (.builtin "len") [.ref l]) Q E s := by
  have e : vs.toArray.size = ns.length := by simp [hi.length]
  exact len_tuple (News.isTup N hm) (by rw [e]; (first | lia | omega)) (by rw [e]; exact h)
end
end Mine
namespace Mine
def OffX (extra nw : List (Addr × Obj)) : Prop := ∀ p ∈ extra, ∀ q ∈ nw, q.1 < p.1
theorem off_append {d : Addr} {l r : List (Addr × Obj)} (h1 : ∀ p ∈ l, p.1 ≠ d) (h2 : ∀ p ∈ r, p.1 ≠ d) : ∀ p ∈ l ++ r, p.1 ≠ d := fun p hp => (List.mem_append.mp hp).elim (h1 p) (h2 p)
theorem off_extra {d : Addr} {extra nw : List (Addr × Obj)} (h : OffX extra nw) (hd : d ∈ nw.map Prod.fst) : ∀ p ∈ extra, p.1 ≠ d := fun p hp e => by
  obtain ⟨q, hq, rfl⟩ := List.mem_map.mp hd
  exact absurd (h p hp q hq) (e ▸ Nat.lt_irrefl _)
end Mine
end
section
open PySem PySem.W PyProof.Rows PySem.Calls
set_option maxRecDepth 100000
namespace Mine
abbrev tup2 (a b : Int) (t u : Tok) : Obj := { cls := .type "tuple", data := .seq #[.int a t, .int b u] }
theorem getD_nn {ks : List Int} (h : ∀ k ∈ ks, 0 ≤ k ∧ k ≤ 8) (i : Nat) : 0 ≤ ks.getD i 0 ∧ ks.getD i 0 ≤ 8 := by
  rw [List.getD_eq_getElem?_getD]
  cases e : ks[i]? with
  | none => exact ⟨Int.le_refl _, by decide⟩
  | some k => exact h k (List.mem_of_getElem? e)
theorem placeAt_nn {ks : List Int} (h : ∀ k ∈ ks, 0 ≤ k ∧ k ≤ 8) : ∀ i, 0 ≤ placeAt ks i
  | 0 => Int.le_refl _
  | i + 1 => by
    have h1 := placeAt_nn h i
    have h2 := (getD_nn h i).1
    show 0 ≤ placeAt ks i + ks.getD i 0
    (first | lia | omega)
theorem placeAt_mono {ks : List Int} (h : ∀ k ∈ ks, 0 ≤ k ∧ k ≤ 8) {i : Nat} : ∀ {j : Nat}, i ≤ j → placeAt ks i ≤ placeAt ks j
  | 0, hij => by obtain rfl : i = 0 := by (first | lia | omega)
                 exact Int.le_refl _
  | j + 1, hij => by
    by_cases e : i = j + 1
    · rw [e]; exact Int.le_refl _
    · have h1 := placeAt_mono h (i := i) (j := j) (by (first | lia | omega))
      have h2 := (getD_nn h j).1
      show placeAt ks i ≤ placeAt ks j + ks.getD j 0
      (first | lia | omega)
theorem placeAt_take (ks : List Int) : ∀ i, placeAt ks i = (ks.take i).sum
  | 0 => rfl
  | i + 1 => by
    rw [List.take_add_one, List.sum_append, ← placeAt_take ks i]
    show placeAt ks i + ks.getD i 0 = placeAt ks i + _
    rw [List.getD_eq_getElem?_getD]
    cases ks[i]? <;> simp
def CodesAt (ex : List (Addr × Obj)) (kvs : List (Int × Value)) (sy ks : List Int) (n : Int) : Prop :=
  (kvs.length : Int) = n ∧ (∀ q, q < kvs.length → ∃ T, kvs[q]? = some (sy.getD q 0, .ref T)) ∧ ∀ j k : Nat, j < 16 → (k : Int) < ks.getD j 0 → placeAt ks j + k < n →
    ∃ T t u, kvs[(placeAt ks j + k).toNat]? = some (sy.getD (placeAt ks j + k).toNat 0, .ref T) ∧ (T, tup2 (codeAt ks j + k) ((j : Int) + 1) t u) ∈ ex
theorem CodesAt.zero {sy ks : List Int} (h : ∀ k ∈ ks, 0 ≤ k ∧ k ≤ 8) : CodesAt [] [] sy ks 0 := by
  refine ⟨rfl, fun q hq => absurd hq (Nat.not_lt_zero _), fun j k _ _ hk => ?_⟩
  have := placeAt_nn h j
  (first | lia | omega)
theorem codes_at_unique {ks : List Int} (h : ∀ k ∈ ks, 0 ≤ k ∧ k ≤ 8) {i j k l : Nat} (hk : (k : Int) < ks.getD i 0) (hl : (l : Int) < ks.getD j 0) (e : placeAt ks i + k = placeAt ks j + l) : i = j ∧ k = l := by
  have h1 : ¬ i < j := fun hij => by
    have h2 := placeAt_mono h (i := i + 1) (j := j) hij
    have h3 : placeAt ks (i + 1) = placeAt ks i + ks.getD i 0 := rfl
    (first | lia | omega)
  have h2 : ¬ j < i := fun hij => by
    have h2 := placeAt_mono h (i := j + 1) (j := i) hij
    have h3 : placeAt ks (j + 1) = placeAt ks j + ks.getD j 0 := rfl
    (first | lia | omega)
  obtain rfl : i = j := by (first | lia | omega)
  exact ⟨rfl, by (first | lia | omega)⟩
theorem CodesAt.stored {ex : List (Addr × Obj)} {kvs : List (Int × Value)} {sy ks : List Int} {i k : Nat} {T : Addr} (C : CodesAt ex kvs sy ks (placeAt ks i + k)) (hnd : sy.Nodup) (h0 : ∀ k ∈ ks, 0 ≤ k ∧ k ≤ 8) (hn : placeAt ks i + k < sy.length) :
    stored kvs (sy.getD (placeAt ks i + k).toNat 0) (.ref T) = kvs ++ [(sy.getD (placeAt ks i + k).toNat 0, .ref T)] := by
  unfold PySem.stored
  rw [if_neg]
  intro hany
  rw [List.any_eq_true] at hany
  obtain ⟨p, hp, hpk⟩ := hany
  obtain ⟨q, hq, e⟩ := List.getElem_of_mem hp
  obtain ⟨T', hT⟩ := C.2.1 q hq
  rw [List.getElem?_eq_getElem hq, e] at hT
  have hT' := Option.some.inj hT
  have hpk' := of_decide_eq_true hpk
  rw [hT'] at hpk'
  have hlen := C.1
  have hnn := placeAt_nn h0 i
  have hq' : q < sy.length := by (first | lia | omega)
  have hn' : (placeAt ks i + k).toNat < sy.length := by (first | lia | omega)
  simp only [List.getD_eq_getElem?_getD, List.getElem?_eq_getElem hq', List.getElem?_eq_getElem hn', Option.getD_some] at hpk'
  have := (List.getElem_inj hnd (h₀ := hq') (h₁ := hn')).mp hpk'
  (first | lia | omega)
theorem CodesAt.snoc {ex : List (Addr × Obj)} {kvs : List (Int × Value)} {sy ks : List Int} {i k : Nat} {T : Addr} {t u : Tok} (C : CodesAt ex kvs sy ks (placeAt ks i + k)) (h0 : ∀ k ∈ ks, 0 ≤ k ∧ k ≤ 8) (hk : (k : Int) < ks.getD i 0) :
    CodesAt ((T, tup2 (codeAt ks i + k) ((i : Int) + 1) t u) :: ex) (kvs ++ [(sy.getD (placeAt ks i + k).toNat 0, .ref T)]) sy ks (placeAt ks i + (k + 1 : Nat)) := by
  have hnn := placeAt_nn h0 i
  have hl : kvs.length = (placeAt ks i + k).toNat := by have := C.1; (first | lia | omega)
  refine ⟨by rw [List.length_append]; have := C.1; simp only [List.length_singleton]; (first | lia | omega), fun q hq => ?_, fun j l hj hl' hn => ?_⟩
  · rw [List.length_append, List.length_singleton] at hq
    by_cases e : q < kvs.length
    · obtain ⟨T', hT⟩ := C.2.1 q e
      exact ⟨T', by rw [List.getElem?_append_left e]; exact hT⟩
    · obtain rfl : q = kvs.length := by (first | lia | omega)
      exact ⟨T, by rw [List.getElem?_append_right (Nat.le_refl _), hl]; simp⟩
  · by_cases e : placeAt ks j + l < placeAt ks i + k
    · obtain ⟨T', t', u', h1, h2⟩ := C.2.2 j l hj hl' e
      have := placeAt_nn h0 j
      exact ⟨T', t', u', by rw [List.getElem?_append_left (by (first | lia | omega))]; exact h1, List.mem_cons_of_mem _ h2⟩
    · have e' : placeAt ks j + l = placeAt ks i + k := by (first | lia | omega)
      obtain ⟨rfl, rfl⟩ := codes_at_unique h0 hl' hk e'
      exact ⟨T, t, u, by rw [List.getElem?_append_right (by (first | lia | omega)), hl]; simp, List.mem_cons_self ..⟩
theorem CodesAt.cast {ex : List (Addr × Obj)} {kvs : List (Int × Value)} {sy ks : List Int} {n n' : Int} (C : CodesAt ex kvs sy ks n) (h : n = n') : CodesAt ex kvs sy ks n' := h ▸ C
theorem range_up {y : Int} (h3 : 0 ≤ y) (h4 : y ≤ 8) : Builtin.Range.small 0 y 1 = true ∧ Builtin.Range.rangeSize 0 y 1 = ((y.toNat : Nat) : Int) := by
  obtain ⟨n, rfl⟩ : ∃ n : Nat, y = (n : Int) := ⟨y.toNat, by (first | lia | omega)⟩
  have h : ∀ n : Fin 9, Builtin.Range.small 0 ((n.val : Nat) : Int) 1 = true ∧ Builtin.Range.rangeSize 0 ((n.val : Nat) : Int) 1 = ((((n.val : Nat) : Int).toNat : Nat) : Int) := by decide
  exact h ⟨n, by (first | lia | omega)⟩
end Mine
end
section
open PySem PySem.W PyProof.Rows PySem.Calls
set_option maxRecDepth 100000
namespace Mine
section
variable {prog : Program} {w : World} {A₀ A : Around} {s : Shared} {base h₀ g₀ : Heap} {outer : List Env} {L a : Addr} {m : PySem.Str → Option Value} {env : Env} {news : List (Addr × Obj)} {K : Frag} {p : Program} {loose : List PySem.Str} {mean : ExcName → Option Value} {mg mb : PySem.Str → Option Value}
    {R : Result → Shared → Prop} {name qual : PySem.Str} {params : Arguments} {body : List Stmt} {scope : Scope} {dV kV doc pm cdv ct oc : Value} {an od : Option Addr} {osl : Array (Option Value)} {f : Addr} {args : Args} {binds : List (PySem.Str × Value)}
theorem mem_fs {env : Env} {L b : Addr} {outer : List Env} (hf : env.frame = some L) (hm : b ∈ (env :: outer).filterMap (·.frame)) : b = L ∨ b ∈ outer.filterMap (·.frame) := by
  obtain ⟨env', he, hf'⟩ := List.mem_filterMap.mp hm
  rcases List.mem_cons.mp he with rfl | he
  · exact .inl (Option.some.inj (hf'.symm.trans hf))
  · exact .inr (List.mem_filterMap.mpr ⟨env', he, hf'⟩)
theorem groundS0 (B : Below A₀ base [] h₀) (F : Fr h₀ L s.heap m) (N : News h₀ L s.heap news) (hA : A.frames = some [env]) (hf : env.frame = some L) (hke : env.scope.kind = .function) :
    Fr h₀ L (hideAll s.heap (news.map (·.1))) m ∧ Below A base [env] (hideAll s.heap (news.map (·.1))) ∧ h₀.StaysIn (hideAll s.heap (news.map (·.1))) ∧ KtsDicts ([env].filterMap (·.frame)) (hideAll s.heap (news.map (·.1))) ∧
      ∀ v s', LeaveS0 ([env].filterMap (·.frame)) h₀ L m (hideAll s.heap (news.map (·.1))) R v s' → R (.ok (.ret v)) s' := by
  obtain ⟨FG, BG, st, _⟩ := groundX (R := R) B F N hA hf hke
  obtain ⟨oL, es, ep, hLg, hLd, hLk, hLf⟩ := FG.ns
  refine ⟨FG, BG, st, fun b hb => ?_, fun v s' hl => ?_⟩
  · rcases mem_fs hf hb with rfl | z
    · exact ⟨oL, es, ep, hLg, hLd⟩
    · simp at z
  · obtain ⟨g', L', m', news', T', F', N', k⟩ := hl
    have nL₀ : h₀.get? L = none := kts_self F
    obtain ⟨sl, hs⟩ := T'.up hLg
    refine k ⟨⟨_, es, ep, F'.keep _ _ hs, hLd, hLk, hLf⟩, fun b o e => F'.keep b o (T'.other b o (st b o e) (fun q => by
      rcases mem_fs hf q with z | z
      · rw [z, nL₀] at e
        cases e
      · simp at z)), F.above⟩ fun p hp => ⟨(N' p hp).1, fun q => ?_, ?_⟩
    · have := (N' p hp).2.2; rw [q, hs] at this; cases this
    · cases q : h₀.get? p.1 with
      | none => rfl
      | some o =>
        obtain ⟨sl', hs'⟩ := T'.up (st _ _ q)
        have := (N' p hp).2.2
        rw [hs'] at this
        cases this
theorem groundS (B : Below A₀ base outer h₀) (F : Fr h₀ L s.heap m) (N : News h₀ L s.heap news) (XB : K.In base) (TB : Top p loose mean mg mb base) (D : KtsDicts (outer.filterMap (·.frame)) h₀)
    (T0 : KtsTurn (outer.filterMap (·.frame)) g₀ h₀) (hA : A.frames = some (env :: outer)) (hf : env.frame = some L) (hke : env.scope.kind = .function) :
    Fr h₀ L (hideAll s.heap (news.map (·.1))) m ∧ Below A base (env :: outer) (hideAll s.heap (news.map (·.1))) ∧ h₀.StaysIn (hideAll s.heap (news.map (·.1))) ∧ KtsDicts ((env :: outer).filterMap (·.frame)) (hideAll s.heap (news.map (·.1))) ∧
      ∀ v s', LeaveS ((env :: outer).filterMap (·.frame)) A₀ base outer K p loose mean mg mb g₀ h₀ L m (hideAll s.heap (news.map (·.1))) R v s' → R (.ok (.ret v)) s' := by
  obtain ⟨FG, BG, st, _⟩ := groundX (R := R) B F N hA hf hke
  obtain ⟨oL, es, ep, hLg, hLd, hLk, hLf⟩ := FG.ns
  refine ⟨FG, BG, st, fun b hb => ?_, fun v s' hl => ?_⟩
  · rcases mem_fs hf hb with rfl | hb
    · exact ⟨oL, es, ep, hLg, hLd⟩
    · obtain ⟨o, es', n', ho', hd'⟩ := D b hb
      exact ⟨o, es', n', st b o ho', hd'⟩
  have nL₀ : h₀.get? L = none := kts_self F
  rcases hl with ⟨L', m', news', F', N', k⟩ | ⟨g', L', m', news', T', F', N', k⟩
  · refine k ⟨⟨oL, es, ep, F'.keep _ _ hLg, hLd, hLk, hLf⟩, fun b o e => F'.keep b o (st b o e), F.above⟩ fun p hp => ⟨(N' p hp).1, fun q => ?_, ?_⟩
    · have := (N' p hp).2.2; rw [q, hLg] at this; cases this
    · cases q : h₀.get? p.1 with
      | none => rfl
      | some o => have := (N' p hp).2.2; rw [st _ _ q] at this; cases this
  obtain ⟨sl, hs⟩ := T'.up hLg
  obtain ⟨T₁, S₁⟩ := kts_turn_at (h := s'.heap) (fs := outer.filterMap (·.frame)) (g := h₀)
    (fun b hb => by
      obtain ⟨_, o, ho', _⟩ := B.frames.mem hb
      exact ⟨o, ho'⟩)
    (fun b o e nmem => F'.keep b o (T'.other b o (st b o e) (fun q => by
      rcases mem_fs hf q with z | z
      · rw [z, nL₀] at e
        cases e
      · exact nmem z)))
    (fun b o e hm => by
      obtain ⟨sl', hs'⟩ := T'.up (st b o e)
      exact ⟨sl', F'.keep _ _ hs'⟩)
  have B₃ : Below A₀ base outer (ktsHeap s'.heap (outer.filterMap (·.frame)) h₀) := ⟨B.stack, fun b o e => T₁.other b o (B.stays b o e) (fun hm => by
    rw [(B.frames.mem hm).1] at e
    cases e), B.frames.of_keeps fun b o e _ => by
    obtain ⟨sl', hs'⟩ := T₁.up e
    exact ⟨_, hs', rfl⟩⟩
  refine k _ (T0.trans T₁) ⟨⟨_, es, ep, F'.keep _ _ hs, hLd, hLk, hLf⟩, S₁, by rw [T₁.size]; exact F.above⟩ (fun p hp => ⟨(N' p hp).1, fun q => ?_, ?_⟩) B₃ (XB.keeps B₃.stays) (TB.keeps B₃.stays) (D.turn T₁)
  · have := (N' p hp).2.2; rw [q, hs] at this; cases this
  · refine T₁.none_ _ ?_
    cases q : h₀.get? p.1 with
    | none => rfl
    | some o =>
      obtain ⟨sl', hs'⟩ := T'.up (st _ _ q)
      have := (N' p hp).2.2
      rw [hs'] at this
      cases this
theorem code_plainS0 (B : Below A₀ base [] h₀) (F : Fr h₀ L s.heap m) (X₀ : K.In h₀) (N : News h₀ L s.heap news) (T : Top p loose mean mg mb h₀) (hA : A.frames = some [env]) (hf : env.frame = some L) (hke : env.scope.kind = .function)
    (ho : K.lookup f = some ⟨oc, od, .func (fnOf name qual params body scope dV kV doc pm an cdv ct), osl⟩) (hcd : codeIn K cdv qual = true) (hroom : A.depth < recursionLimit)
    (hbind : BindsTo s (fnOf name qual params body scope dV kV doc pm an cdv ct) args binds) (hloc : ∀ y ∈ binds, scope.names.lookup y.1 = some .local)
    (h : ∀ g L' h₁, Fr h₀ L g m → Fr g L' h₁ (fun y => binds.reverse.lookup y) → News g L' h₁ news → Below A base [env] g → K.In g → Top p loose mean mg mb g → KtsDicts ([env].filterMap (·.frame)) g →
      wpAny (model prog w) (A.deeper (envOf qual scope L' f cdv)) (execs body (envOf qual scope L' f cdv))
        (fun fl s' => LeaveS0 ([env].filterMap (·.frame)) h₀ L m g R (match fl with | .ret v => v | _ => .none) s')
        (fun e s' => wpAny (model prog w) (A.deeper (envOf qual scope L' f cdv)) (leaving (envOf qual scope L' f cdv) e) (fun _ s'' => R (.error e) s'') (fun e' s'' => R (.error e') s'') s')
        { s with heap := h₁, toks := s.toks + binds.length })
    (hco : scope.isCoroutine = false) (hgen : scope.isGenerator = false) (hk : scope.kind = .function)
    (hcell : ∀ x ∈ scope.names, x.2 ≠ .cell) : codeAny (model prog w) A (.call (.ref f) args) R s := by
  have X := X₀.keeps F.keep
  obtain ⟨FG, BG, st, D, lv⟩ := groundS0 (R := R) B F N hA hf hke
  refine codeAny_call_def (fd := fnOf name qual params body scope dV kV doc pm an cdv ct) (body := body) (binds := binds) hroom (X _ _ ho) rfl (T.nolimit.keeps F.keep) (codeRec_of X hcd) rfl hbind hcell hloc (fun h₁ hns hk₁ => ?_) hco hgen hk
  exact wpAny_mono (h _ s.heap.objs.size h₁ FG ⟨hns, fun b o e => hk₁ b o (of_hideAll _ e), Nat.le_of_eq (hideAll_size _ _)⟩
    (fun p hp => ⟨hk₁ _ _ (N p hp).1, Nat.ne_of_lt (Heap.lt_size (N p hp).1), hideAll_none _ (List.mem_map_of_mem hp)⟩) BG (X₀.keeps st) (T.keeps st) D) (fun fl s' hl => lv _ _ hl) fun _ _ y => y
theorem code_plainS (B : Below A₀ base outer h₀) (F : Fr h₀ L s.heap m) (X₀ : K.In h₀) (N : News h₀ L s.heap news) (T : Top p loose mean mg mb h₀) (XB : K.In base) (TB : Top p loose mean mg mb base) (D : KtsDicts (outer.filterMap (·.frame)) h₀)
    (T0 : KtsTurn (outer.filterMap (·.frame)) g₀ h₀) (hA : A.frames = some (env :: outer)) (hf : env.frame = some L) (hke : env.scope.kind = .function)
    (ho : K.lookup f = some ⟨oc, od, .func (fnOf name qual params body scope dV kV doc pm an cdv ct), osl⟩) (hcd : codeIn K cdv qual = true) (hroom : A.depth < recursionLimit)
    (hbind : BindsTo s (fnOf name qual params body scope dV kV doc pm an cdv ct) args binds) (hloc : ∀ y ∈ binds, scope.names.lookup y.1 = some .local)
    (h : ∀ g L' h₁, Fr h₀ L g m → Fr g L' h₁ (fun y => binds.reverse.lookup y) → News g L' h₁ news → Below A base (env :: outer) g → K.In g → Top p loose mean mg mb g → KtsDicts ((env :: outer).filterMap (·.frame)) g →
      wpAny (model prog w) (A.deeper (envOf qual scope L' f cdv)) (execs body (envOf qual scope L' f cdv))
        (fun fl s' => LeaveS ((env :: outer).filterMap (·.frame)) A₀ base outer K p loose mean mg mb g₀ h₀ L m g R (match fl with | .ret v => v | _ => .none) s')
        (fun e s' => wpAny (model prog w) (A.deeper (envOf qual scope L' f cdv)) (leaving (envOf qual scope L' f cdv) e) (fun _ s'' => R (.error e) s'') (fun e' s'' => R (.error e') s'') s')
        { s with heap := h₁, toks := s.toks + binds.length })
    (hco : scope.isCoroutine = false) (hgen : scope.isGenerator = false) (hk : scope.kind = .function)
    (hcell : ∀ x ∈ scope.names, x.2 ≠ .cell) : codeAny (model prog w) A (.call (.ref f) args) R s := by
  have X := X₀.keeps F.keep
  obtain ⟨FG, BG, st, D', lv⟩ := groundS (R := R) B F N XB TB D T0 hA hf hke
  refine codeAny_call_def (fd := fnOf name qual params body scope dV kV doc pm an cdv ct) (body := body) (binds := binds) hroom (X _ _ ho) rfl (T.nolimit.keeps F.keep) (codeRec_of X hcd) rfl hbind hcell hloc (fun h₁ hns hk₁ => ?_) hco hgen hk
  exact wpAny_mono (h _ s.heap.objs.size h₁ FG ⟨hns, fun b o e => hk₁ b o (of_hideAll _ e), Nat.le_of_eq (hideAll_size _ _)⟩
    (fun p hp => ⟨hk₁ _ _ (N p hp).1, Nat.ne_of_lt (Heap.lt_size (N p hp).1), hideAll_none _ (List.mem_map_of_mem hp)⟩) BG (X₀.keeps st) (T.keeps st) D') (fun fl s' hl => lv _ _ hl) fun _ _ y => y
theorem code_cellS0 (B : Below A₀ base [] h₀) (F : Fr h₀ L s.heap m) (X₀ : K.In h₀) (N : News h₀ L s.heap news) (T : Top p loose mean mg mb h₀) (hA : A.frames = some [env]) (hf : env.frame = some L) (hke : env.scope.kind = .function)
    (ho : K.lookup f = some ⟨oc, od, .func (fnOf name qual params body scope dV kV doc pm an cdv ct), osl⟩) (hcd : codeIn K cdv qual = true) (hroom : A.depth < recursionLimit)
    (hbind : BindsTo s (fnOf name qual params body scope dV kV doc pm an cdv ct) args binds) (hkind : (binds.all fun y => scope.names.lookup y.1 == some .local || scope.names.lookup y.1 == some .cell) = true)
    (hnd : ((cellsFrom 0 scope.names []).map (·.1)).Nodup)
    (h : ∀ g L' h₁ tk cells, Fr h₀ L g m → Fr g L' h₁ (bindL (envOfC qual scope L' f cdv).kindOf binds fun _ => none) → News g L' h₁ (cells ++ news) →
      CellsAre (bindC (envOfC qual scope L' f cdv).kindOf binds fun _ => none) (cellsFrom (L' + 1) scope.names []) cells → Below A base [env] g → K.In g → Top p loose mean mg mb g → KtsDicts ([env].filterMap (·.frame)) g → (∀ p ∈ news, p.1 < L') →
      wpAny (model prog w) (A.deeper (envOfC qual scope L' f cdv)) (execs body (envOfC qual scope L' f cdv))
        (fun fl s' => LeaveS0 ([env].filterMap (·.frame)) h₀ L m g R (match fl with | .ret v => v | _ => .none) s')
        (fun e s' => wpAny (model prog w) (A.deeper (envOfC qual scope L' f cdv)) (leaving (envOfC qual scope L' f cdv) e) (fun _ s'' => R (.error e) s'') (fun e' s'' => R (.error e') s'') s')
        { s with heap := h₁, toks := tk })
    (hco : scope.isCoroutine = false) (hgen : scope.isGenerator = false) (hk : scope.kind = .function) : codeAny (model prog w) A (.call (.ref f) args) R s := by
  obtain ⟨FG, BG, st, D, lv⟩ := groundS0 (R := R) B F N hA hf hke
  have X := X₀.keeps F.keep
  have hlim := T.nolimit
  refine codeAny_call_function hroom (X _ _ ho) rfl hco hgen rfl (codeRec_of X hcd) (hbind _ _ _ _ ?_)
  refine wpAny_newFunctionEnv_cells hk (kindsX hkind _) fun env' he s' x => ?_
  subst he
  refine ⟨(hlim.keeps F.keep).keeps x.toInCall.keep, codeAny_func ?_⟩
  obtain ⟨h₁, tk, rfl, _⟩ := x.done
  have hk₁ := x.toInCall.keep
  obtain ⟨cells, NC, Y⟩ := Cl.news (h₀ := s.heap) (Nat.le_refl _) fun n c hm => ⟨x.cell n c (lookup_of_mem_nodup (cellsFrom_names scope.names 0 (s.heap.objs.size + 1) [] [] rfl ▸ hnd) hm), x.above n c hm⟩
  refine wpAny_mono (h _ s.heap.objs.size h₁ tk cells FG ⟨x.toInCall.ns, fun b o e => hk₁ b o (of_hideAll _ e), Nat.le_of_eq (hideAll_size _ _)⟩ (fun p hp => ?_) Y BG (X₀.keeps st) (T.keeps st) D (fun p hp => Heap.lt_size (N p hp).1)) (fun fl s' hl => lv _ _ hl) fun _ _ y => y
  rcases List.mem_append.mp hp with hp | hp
  · refine ⟨(NC p hp).1, (NC p hp).2.1, ?_⟩
    cases q : (hideAll s.heap (news.map (·.1))).get? p.1 with
    | none => rfl
    | some o => have := (NC p hp).2.2; rw [of_hideAll _ q] at this; cases this
  · exact ⟨hk₁ _ _ (N p hp).1, Nat.ne_of_lt (Heap.lt_size (N p hp).1), hideAll_none _ (List.mem_map_of_mem hp)⟩
end
end Mine
end
section
open PySem PySem.W PyProof.Rows PySem.Calls
namespace Mine
theorem map_range_take {α : Type} {l : List α} {n : Nat} (h : n ≤ l.length) : (List.range n).filterMap (fun k => l[k]?) = l.take n := by
  induction n with
  | zero => simp
  | succ n ih =>
    rw [List.range_succ, List.filterMap_append, ih (by (first | lia | omega)), List.take_add_one, List.getElem?_eq_getElem (by (first | lia | omega))]
    simp [List.getElem?_eq_getElem (show n < l.length by (first | lia | omega))]
theorem map_range_drop {α : Type} {l : List α} {a n : Nat} (h : a + n = l.length) : (List.range n).filterMap (fun k => l[a + k]?) = l.drop a := by
  have h2 : (List.range n).filterMap (fun k => l[a + k]?) = (List.range n).filterMap (fun k => (l.drop a)[k]?) := by
    congr 1; funext k; rw [List.getElem?_drop]
  rw [h2, map_range_take (by rw [List.length_drop]; (first | lia | omega)), List.take_of_length_le (by rw [List.length_drop]; (first | lia | omega))]
theorem slice_to (x : PySem.Str) (n : Nat) : Txt.slice x none (some (n : Int)) = ⟨(x.cps.toList.take n).toArray⟩ := by
  have key : PySem.Builtin.Str.strSliceIndices none (some (n : Int)) 1 x.length = List.range (min n x.length) := by
    unfold PySem.Builtin.Str.strSliceIndices PySem.sliceRange
    simp only [show (1 : Int) > 0 by decide, if_true]
    rw [if_neg (show ¬ ((n : Int) < 0) by (first | lia | omega))]
    have : ((if (0 : Int) < max 0 (min (n : Int) (x.length : Int)) then (max 0 (min (n : Int) (x.length : Int)) - 0 + 1 - 1) / 1 else 0)).toNat = min n x.length := by
      rw [Int.ediv_one]; split <;> (first | lia | omega)
    rw [this]
    conv => rhs; rw [← List.map_id (List.range (min n x.length))]
    apply List.map_congr_left
    intro k _
    show ((0 : Int) + 1 * (k : Int)).toNat = k
    (first | lia | omega)
  unfold Txt.slice
  rw [key]
  have hx : x.length = x.cps.toList.length := by simp [PySem.Str.length]
  split
  · rename_i h
    simp only [BEq.rfl, Bool.true_and, List.length_range, beq_iff_eq] at h
    rw [List.take_of_length_le (by (first | lia | omega))]
  · congr 1
    apply congrArg
    have := map_range_take (l := x.cps.toList) (n := min n x.length) (by (first | lia | omega))
    simp only [Array.getElem?_toList] at this
    rw [this, hx]
    rcases Nat.le_total n x.cps.toList.length with h | h
    · rw [Nat.min_eq_left h]
    · rw [Nat.min_eq_right h, List.take_of_length_le (Nat.le_refl _), List.take_of_length_le h]
theorem slice_from (x : PySem.Str) (n : Nat) : Txt.slice x (some (n : Int)) none = ⟨(x.cps.toList.drop n).toArray⟩ := by
  have key : PySem.Builtin.Str.strSliceIndices (some (n : Int)) none 1 x.length = (List.range (x.length - n)).map (fun k => min n x.length + k) := by
    unfold PySem.Builtin.Str.strSliceIndices PySem.sliceRange
    simp only [show (1 : Int) > 0 by decide, if_true]
    rw [if_neg (show ¬ ((n : Int) < 0) by (first | lia | omega))]
    have : ((if max 0 (min (n : Int) (x.length : Int)) < (x.length : Int) then ((x.length : Int) - max 0 (min (n : Int) (x.length : Int)) + 1 - 1) / 1 else 0)).toNat = x.length - n := by
      rw [Int.ediv_one]; split <;> (first | lia | omega)
    rw [this]
    apply List.map_congr_left
    intro k _
    show (max 0 (min (n : Int) (x.length : Int)) + 1 * (k : Int)).toNat = _
    (first | lia | omega)
  unfold Txt.slice
  rw [key]
  have hx : x.length = x.cps.toList.length := by simp [PySem.Str.length]
  split
  · rename_i h
    simp only [BEq.rfl, Bool.true_and, List.length_range, List.length_map, beq_iff_eq] at h
    rcases Nat.eq_zero_or_pos n with rfl | h0
    · simp
    · have : x.cps.toList = [] := List.eq_nil_of_length_eq_zero (by (first | lia | omega))
      rcases x with ⟨cps⟩
      simp only at this ⊢
      rw [this]
      simp
      simpa using this
  · congr 1
    apply congrArg
    rw [List.filterMap_map]
    by_cases h : n ≤ x.length
    · have := map_range_drop (l := x.cps.toList) (a := n) (n := x.length - n) (by (first | lia | omega))
      simp only [Array.getElem?_toList] at this
      rw [← this, Nat.min_eq_left h]
      rfl
    · rw [show x.length - n = 0 by (first | lia | omega), List.drop_of_length_le (by (first | lia | omega))]
      rfl
theorem bitT_toList (bs : List Nat) : (bitT bs).cps.toList = bs.map (· + 48) := by simp [bitT]
theorem bitT_length (bs : List Nat) : (bitT bs).length = bs.length := by simp [bitT, PySem.Str.length]
theorem bitT_inj {a b : List Nat} (h : bitT a = bitT b) : a = b := by
  have h1 := congrArg (fun s => s.cps.toList) h
  simp only [bitT_toList] at h1
  have h2 := congrArg (List.map (· - 48)) h1
  simpa [List.map_map, Function.comp_def] using h2
theorem slice_bitT_to (bs : List Nat) (n : Nat) : Txt.slice (bitT bs) none (some (n : Int)) = bitT (bs.take n) := by
  rw [slice_to, bitT_toList, ← List.map_take]; rfl
theorem slice_bitT_from (bs : List Nat) (n : Nat) : Txt.slice (bitT bs) (some (n : Int)) none = bitT (bs.drop n) := by
  rw [slice_from, bitT_toList, ← List.map_drop]; rfl
theorem bitsL_succ (x : Int) (y : Nat) : bitsL x (y + 1) = bitsL (x / 2) y ++ [(x % 2).toNat] := by
  unfold bitsL
  rw [List.range_succ, List.map_append]
  congr 1
  · apply List.map_congr_left
    intro j hj
    rw [List.mem_range] at hj
    rw [show y + 1 - 1 - j = (y - 1 - j) + 1 by (first | lia | omega), Int.pow_succ', Int.ediv_ediv_of_nonneg (by decide)]
  · simp
theorem bitsL_inj : ∀ {y : Nat} {a b : Int}, 0 ≤ a → 0 ≤ b → a < 2 ^ y → b < 2 ^ y → bitsL a y = bitsL b y → a = b
  | 0, a, b, h1, h2, h3, h4, _ => by
    simp only [Int.pow_zero] at h3 h4; (first | lia | omega)
  | y + 1, a, b, h1, h2, h3, h4, h => by
    rw [bitsL_succ, bitsL_succ] at h
    obtain ⟨e1, e2⟩ := List.append_inj' h rfl
    rw [Int.pow_succ] at h3 h4
    have := bitsL_inj (y := y) (a := a / 2) (b := b / 2) (by (first | lia | omega)) (by (first | lia | omega)) (by (first | lia | omega)) (by (first | lia | omega)) e1
    simp only [List.cons.injEq, and_true] at e2
    (first | lia | omega)
theorem bitsL_take (x : Int) {y z : Nat} (h : z ≤ y) : (bitsL x y).take z = bitsL (x / 2 ^ (y - z)) z := by
  unfold bitsL
  rw [← List.map_take, List.take_range, Nat.min_eq_left h]
  apply List.map_congr_left
  intro j hj
  rw [List.mem_range] at hj
  rw [show y - 1 - j = (y - z) + (z - 1 - j) by (first | lia | omega), Int.pow_add, Int.ediv_ediv_of_nonneg (Int.le_of_lt (Int.pow_pos (by decide)))]
end Mine
end
section
open PySem PySem.W PyProof.Rows PySem.Calls
namespace Mine
def wt (x : Int) : Int := 2 ^ (7 - x).toNat
def usum (ss : List Int) (k : Nat) : Int := ((ss.take k).map wt).sum
def ltN (ss : List Int) (i : Nat) : Nat := (ss.filter fun x => decide (x < (i : Int) + 1)).length
def eqN (ss : List Int) (i : Nat) : Nat := (ss.filter fun x => decide (x = (i : Int) + 1)).length
def wsum (ss : List Int) (i : Nat) : Int := ((ss.filter fun x => decide (x < (i : Int) + 1)).map wt).sum
structure Sizes (ss ks : List Int) : Prop where
  sorted : ss.Pairwise (· ≤ ·)
  range : ∀ x ∈ ss, 1 ≤ x ∧ x ≤ 7
  len : ss.length ≤ 8
  klen : ks.length = 16
  count : ∀ i < 16, ks.getD i 0 = (eqN ss i : Int)
theorem ltN_succ (ss : List Int) (i : Nat) : ltN ss (i + 1) = ltN ss i + eqN ss i := by
  unfold ltN eqN
  induction ss with
  | nil => rfl
  | cons a r ih =>
    simp only [List.filter_cons]
    by_cases h1 : a < (i : Int) + 1
    · rw [decide_eq_true h1, decide_eq_true (show a < ((i + 1 : Nat) : Int) + 1 by (first | lia | omega)), decide_eq_false (show ¬ a = (i : Int) + 1 by (first | lia | omega))]
      simp only [if_true, Bool.false_eq_true, if_false, List.length_cons, ih]; (first | lia | omega)
    · by_cases h2 : a = (i : Int) + 1
      · rw [decide_eq_false h1, decide_eq_true (show a < ((i + 1 : Nat) : Int) + 1 by (first | lia | omega)), decide_eq_true h2]
        simp only [if_true, Bool.false_eq_true, if_false, List.length_cons, ih]; (first | lia | omega)
      · rw [decide_eq_false h1, decide_eq_false (show ¬ a < ((i + 1 : Nat) : Int) + 1 by (first | lia | omega)), decide_eq_false h2]
        simp only [Bool.false_eq_true, if_false, ih]
theorem wsum_succ (ss : List Int) (i : Nat) : wsum ss (i + 1) = wsum ss i + eqN ss i * wt (i + 1) := by
  unfold wsum eqN
  induction ss with
  | nil => simp
  | cons a r ih =>
    simp only [List.filter_cons]
    by_cases h1 : a < (i : Int) + 1
    · simp only [h1, show a < ((i + 1 : Nat) : Int) + 1 by (first | lia | omega), show ¬ a = (i : Int) + 1 by (first | lia | omega), decide_true, decide_false, if_true, Bool.false_eq_true, if_false, List.map_cons, List.sum_cons, ih]; (first | lia | omega)
    · by_cases h2 : a = (i : Int) + 1
      · have e : wt a = wt (i + 1) := by rw [h2]
        simp only [h1, show a < ((i + 1 : Nat) : Int) + 1 by (first | lia | omega), decide_true, decide_false, if_true, Bool.false_eq_true, if_false, List.map_cons, List.sum_cons, ih]
        rw [decide_eq_true h2]
        simp only [if_true, List.length_cons]
        rw [e]
        have : (((r.filter fun x => decide (x = (i : Int) + 1)).length + 1 : Nat) : Int) = ((r.filter fun x => decide (x = (i : Int) + 1)).length : Int) + 1 := by (first | lia | omega)
        rw [this, Int.add_mul]; (first | lia | omega)
      · simp only [h1, h2, show ¬ a < ((i + 1 : Nat) : Int) + 1 by (first | lia | omega), decide_true, decide_false, if_true, Bool.false_eq_true, if_false, ih]
theorem split3 {ss : List Int} (h : ss.Pairwise (· ≤ ·)) (c : Int) : ss = (ss.filter fun x => decide (x < c)) ++ (ss.filter fun x => decide (x = c)) ++ (ss.filter fun x => decide (c < x)) := by
  induction ss with
  | nil => rfl
  | cons a r ih =>
    obtain ⟨h1, h2⟩ := List.pairwise_cons.mp h
    have ih' := ih h2
    simp only [List.filter_cons]
    by_cases q1 : a < c
    · rw [decide_eq_true q1, decide_eq_false (show ¬ a = c by (first | lia | omega)), decide_eq_false (show ¬ c < a by (first | lia | omega))]
      simp only [if_true, Bool.false_eq_true, if_false, List.cons_append]
      rw [← ih']
    · have e1 : r.filter (fun x => decide (x < c)) = [] := List.filter_eq_nil_iff.mpr fun x hx => by
        have := h1 x hx
        simp; (first | lia | omega)
      rw [e1] at ih' ⊢
      by_cases q2 : a = c
      · rw [decide_eq_false q1, decide_eq_true q2, decide_eq_false (show ¬ c < a by (first | lia | omega))]
        simp only [if_true, Bool.false_eq_true, if_false, List.nil_append, List.cons_append] at ih' ⊢
        rw [← ih']
      · have e2 : r.filter (fun x => decide (x = c)) = [] := List.filter_eq_nil_iff.mpr fun x hx => by
          have := h1 x hx
          simp; (first | lia | omega)
        rw [e2] at ih' ⊢
        rw [decide_eq_false q1, decide_eq_false q2, decide_eq_true (show c < a by (first | lia | omega))]
        simp only [if_true, Bool.false_eq_true, if_false, List.nil_append, List.cons_append] at ih' ⊢
        rw [← ih']
theorem filter_const (ss : List Int) (c : Int) : (ss.filter fun x => decide (x = c)) = List.replicate (ss.filter fun x => decide (x = c)).length c :=
  List.eq_replicate_of_mem fun x hx => by simpa using (List.mem_filter.mp hx).2
theorem sum_replicate' (n : Nat) (c : Int) : (List.replicate n c).sum = n * c := by
  induction n with
  | zero => simp
  | succ n ih => rw [List.replicate_succ, List.sum_cons, ih]; have : ((n + 1 : Nat) : Int) = (n : Int) + 1 := by (first | lia | omega)
                 rw [this, Int.add_mul]; (first | lia | omega)
theorem wt_pos (x : Int) : 0 < wt x := Int.pow_pos (by decide)
section
variable {ss ks : List Int} (S : Sizes ss ks)
include S
theorem placeAt_eq : ∀ {i : Nat}, i ≤ 16 → placeAt ks i = (ltN ss i : Int)
  | 0, _ => by
    have : (ss.filter fun x => decide (x < ((0 : Nat) : Int) + 1)) = [] := List.filter_eq_nil_iff.mpr fun x hx => by
      have := (S.range x hx).1
      simp; (first | lia | omega)
    show (0 : Int) = ((ss.filter fun x => decide (x < ((0 : Nat) : Int) + 1)).length : Int)
    rw [this]; rfl
  | i + 1, h => by
    show placeAt ks i + ks.getD i 0 = _
    rw [placeAt_eq (by (first | lia | omega)), S.count i (by (first | lia | omega)), ltN_succ]; (first | lia | omega)
theorem codeAt_w : ∀ {i : Nat}, i ≤ 6 → codeAt ks i * 2 ^ (6 - i) = wsum ss i
  | 0, _ => by
    have : (ss.filter fun x => decide (x < ((0 : Nat) : Int) + 1)) = [] := List.filter_eq_nil_iff.mpr fun x hx => by
      have := (S.range x hx).1
      simp; (first | lia | omega)
    show (0 : Int) * _ = ((ss.filter fun x => decide (x < ((0 : Nat) : Int) + 1)).map wt).sum
    rw [this]; simp
  | i + 1, h => by
    rw [wsum_succ, ← codeAt_w (i := i) (by (first | lia | omega))]
    show (codeAt ks i + ks.getD i 0) * 2 * 2 ^ (6 - (i + 1)) = _
    rw [S.count i (by (first | lia | omega)), Int.mul_assoc, ← Int.pow_succ', show 6 - (i + 1) + 1 = 6 - i by (first | lia | omega), Int.add_mul]
    unfold wt
    rw [show (7 - ((i : Int) + 1)).toNat = 6 - i by (first | lia | omega)]
theorem eqN_pos {i : Nat} (h : 0 < eqN ss i) : i ≤ 6 := by
  obtain ⟨x, hx⟩ := List.exists_mem_of_length_pos h
  have h1 := List.mem_filter.mp hx
  have h2 := S.range x h1.1
  have h3 : x = (i : Int) + 1 := by simpa using h1.2
  (first | lia | omega)
theorem at_split (i : Nat) : ss = (ss.filter fun x => decide (x < (i : Int) + 1)) ++ List.replicate (eqN ss i) ((i : Int) + 1) ++ (ss.filter fun x => decide ((i : Int) + 1 < x)) := by
  have := split3 S.sorted ((i : Int) + 1)
  rw [filter_const] at this
  exact this
theorem lt_eq_le (i : Nat) : ltN ss i + eqN ss i ≤ ss.length := by
  have := congrArg List.length (at_split S i)
  simp only [List.length_append, List.length_replicate] at this
  unfold ltN
  (first | lia | omega)
theorem at_place {i q : Nat} (h : q < eqN ss i) : ss[ltN ss i + q]? = some ((i : Int) + 1) := by
  have e : ltN ss i = (ss.filter fun x => decide (x < (i : Int) + 1)).length := rfl
  generalize ltN ss i = n at e ⊢
  rw [at_split S i, List.append_assoc, e, List.getElem?_append_right (by (first | lia | omega)), List.getElem?_append_left (by rw [List.length_replicate]; (first | lia | omega)), Nat.add_sub_cancel_left, List.getElem?_replicate, if_pos h]
theorem usum_at {i q : Nat} (h : q ≤ eqN ss i) : usum ss (ltN ss i + q) = wsum ss i + q * wt (i + 1) := by
  have e : ss.take (ltN ss i + q) = (ss.filter fun x => decide (x < (i : Int) + 1)) ++ List.replicate q ((i : Int) + 1) := by
    have e : ltN ss i = (ss.filter fun x => decide (x < (i : Int) + 1)).length := rfl
    generalize ltN ss i = n at e ⊢
    conv => lhs; rw [at_split S i]
    rw [List.append_assoc, e, List.take_length_add_append, List.take_append_of_le_length (by rw [List.length_replicate]; (first | lia | omega)), List.take_replicate, Nat.min_eq_left h]
  unfold usum wsum
  rw [e, List.map_append, List.sum_append, List.map_replicate, sum_replicate']
theorem find_place {k : Nat} (h : k < ss.length) : ∃ i q : Nat, i ≤ 6 ∧ q < eqN ss i ∧ k = ltN ss i + q ∧ ss.getD k 0 = (i : Int) + 1 := by
  have hx := S.range ss[k] (List.getElem_mem h)
  obtain ⟨i, hi⟩ : ∃ i : Nat, ss[k] = (i : Int) + 1 := ⟨(ss[k] - 1).toNat, by (first | lia | omega)⟩
  have e0 : ss[k]? = some ((i : Int) + 1) := by rw [List.getElem?_eq_getElem h, hi]
  have e1 := e0
  rw [at_split S i, List.append_assoc] at e1
  have e : ltN ss i = (ss.filter fun x => decide (x < (i : Int) + 1)).length := rfl
  have hk : ltN ss i ≤ k := by
    apply Nat.le_of_not_lt
    intro hlt
    rw [List.getElem?_append_left (by (first | lia | omega))] at e1
    have := (List.mem_filter.mp (List.mem_of_getElem? e1)).2
    simp at this
  rw [List.getElem?_append_right (by (first | lia | omega))] at e1
  have hq : k - ltN ss i < eqN ss i := by
    apply Nat.lt_of_not_le
    intro hle
    rw [List.getElem?_append_right (by rw [List.length_replicate]; (first | lia | omega))] at e1
    have := (List.mem_filter.mp (List.mem_of_getElem? e1)).2
    simp at this
  exact ⟨i, k - ltN ss i, by (first | lia | omega), hq, by (first | lia | omega), by rw [List.getD_eq_getElem?_getD, e0]; rfl⟩
/-- the code of the k-th size -/
theorem code_at {i q : Nat} (hi : i ≤ 6) (h : q < eqN ss i) : usum ss (ltN ss i + q) = (codeAt ks i + q) * 2 ^ (6 - i) ∧ usum ss (ltN ss i + q + 1) = (codeAt ks i + q + 1) * 2 ^ (6 - i) := by
  have e : wt ((i : Int) + 1) = 2 ^ (6 - i) := by unfold wt; rw [show (7 - ((i : Int) + 1)).toNat = 6 - i by (first | lia | omega)]
  have h2 := usum_at S (i := i) (q := q + 1) h
  rw [usum_at S (Nat.le_of_lt h), show ltN ss i + q + 1 = ltN ss i + (q + 1) by (first | lia | omega), h2, ← codeAt_w S hi, e]
  have : ((q + 1 : Nat) : Int) = (q : Int) + 1 := by (first | lia | omega)
  rw [this, ← Int.add_mul, Int.add_assoc, ← Int.add_mul]
  exact ⟨rfl, rfl⟩
end
theorem usum_mono_step (ss : List Int) (k : Nat) : usum ss k ≤ usum ss (k + 1) := by
  unfold usum
  rw [List.take_add_one, List.map_append, List.sum_append]
  cases h : ss[k]? with
  | none => simp
  | some x => have := wt_pos x; simp; (first | lia | omega)
theorem usum_mono (ss : List Int) {j k : Nat} (h : j ≤ k) : usum ss j ≤ usum ss k := by
  induction k with
  | zero => rw [Nat.le_zero.mp h]; exact Int.le_refl _
  | succ k ih =>
    rcases Nat.lt_or_ge k j with h1 | h1
    · rw [show j = k + 1 by (first | lia | omega)]; exact Int.le_refl _
    · exact Int.le_trans (ih h1) (usum_mono_step ss k)
def cdOf (ss : List Int) (k : Nat) : Int := usum ss k / wt (ss.getD k 0)
def tsOf (ss : List Int) : List PySem.Str := (List.range ss.length).map fun k => bitT (bitsL (cdOf ss k) (ss.getD k 0).toNat)
section
variable {ss ks : List Int} (S : Sizes ss ks)
include S
theorem cdOf_at {i q : Nat} (hi : i ≤ 6) (h : q < eqN ss i) : cdOf ss (ltN ss i + q) = codeAt ks i + q := by
  unfold cdOf
  rw [List.getD_eq_getElem?_getD, at_place S h, (code_at S hi h).1, Option.getD_some]
  unfold wt
  rw [show (7 - ((i : Int) + 1)).toNat = 6 - i by (first | lia | omega), Int.mul_ediv_cancel _ (Int.ne_of_gt (Int.pow_pos (by decide)))]
theorem cdOf_mul {k : Nat} (h : k < ss.length) : cdOf ss k * wt (ss.getD k 0) = usum ss k ∧ (cdOf ss k + 1) * wt (ss.getD k 0) = usum ss (k + 1) := by
  obtain ⟨i, q, hi, hq, rfl, e⟩ := find_place S h
  rw [cdOf_at S hi hq, e, (code_at S hi hq).1, (code_at S hi hq).2]
  unfold wt
  rw [show (7 - ((i : Int) + 1)).toNat = 6 - i by (first | lia | omega)]
  exact ⟨rfl, rfl⟩
omit S in
theorem cdOf_nn {k : Nat} : 0 ≤ cdOf ss k := by
  unfold cdOf
  refine Int.ediv_nonneg ?_ (Int.le_of_lt (wt_pos _))
  have := usum_mono ss (Nat.zero_le k)
  simpa [usum] using this
theorem cdOf_lt (hU : usum ss ss.length < 128) {k : Nat} (h : k < ss.length) : cdOf ss k < 2 ^ (ss.getD k 0).toNat := by
  have h1 := (cdOf_mul S h).2
  have h2 := usum_mono ss (show k + 1 ≤ ss.length by (first | lia | omega))
  have hx := S.range (ss.getD k 0) (by rw [List.getD_eq_getElem?_getD, List.getElem?_eq_getElem h]; exact List.getElem_mem h)
  generalize ss.getD k 0 = x at h1 hx ⊢
  have : (128 : Int) = 2 ^ x.toNat * wt x := by
    unfold wt
    rw [← Int.pow_add, show x.toNat + (7 - x).toNat = 7 by (first | lia | omega)]; rfl
  have h3 : (cdOf ss k + 1) * wt x < 2 ^ x.toNat * wt x := by (first | lia | omega)
  have h4 := Int.lt_of_mul_lt_mul_right h3 (Int.le_of_lt (wt_pos x))
  (first | lia | omega)
theorem wsum_le (i : Nat) : wsum ss i ≤ usum ss ss.length := by
  have h := usum_at S (i := i) (q := 0) (Nat.zero_le _)
  have h2 := usum_mono ss (show ltN ss i + 0 ≤ ss.length by have := lt_eq_le S i; (first | lia | omega))
  simp at h h2
  (first | lia | omega)
theorem ok_of (hU : usum ss ss.length < 128) {i : Nat} (h : i < 16) : okAt ks i := by
  rintro ⟨h1, h2⟩
  rw [S.count i h] at h1 h2
  have hi := eqN_pos S (i := i) (by (first | lia | omega))
  have h3 : (codeAt ks i + eqN ss i) * 2 ^ (6 - i) = wsum ss (i + 1) := by
    rw [wsum_succ, ← codeAt_w S hi, Int.add_mul]
    unfold wt
    rw [show (7 - ((i : Int) + 1)).toNat = 6 - i by (first | lia | omega)]
  have h4 := wsum_le S (i + 1)
  have h5 : (2 : Int) ^ (i + 1) * 2 ^ (6 - i) ≤ (codeAt ks i + eqN ss i) * 2 ^ (6 - i) := Int.mul_le_mul_of_nonneg_right h1 (Int.le_of_lt (Int.pow_pos (by decide)))
  rw [← Int.pow_add, show i + 1 + (6 - i) = 7 by (first | lia | omega)] at h5
  (first | lia | omega)
theorem bad_of (hU : 128 ≤ usum ss ss.length) : ¬ ∀ j < 16, okAt ks j := by
  intro hok
  have hl : 0 < ss.length := by
    apply Nat.pos_of_ne_zero
    intro e
    rw [e] at hU
    simp [usum] at hU
  obtain ⟨i, q, hi, hq, hk, e⟩ := find_place S (k := ss.length - 1) (by (first | lia | omega))
  have h1 := lt_eq_le S i
  have h2 : ltN ss i + eqN ss i = ss.length := by (first | lia | omega)
  have h3 := usum_at S (i := i) (q := eqN ss i) (Nat.le_refl _)
  rw [h2] at h3
  refine hok i (by (first | lia | omega)) ⟨?_, by rw [S.count i (by (first | lia | omega))]; (first | lia | omega)⟩
  rw [S.count i (by (first | lia | omega))]
  have h4 : (codeAt ks i + eqN ss i) * 2 ^ (6 - i) = usum ss ss.length := by
    rw [h3, ← codeAt_w S hi, Int.add_mul]
    unfold wt
    rw [show (7 - ((i : Int) + 1)).toNat = 6 - i by (first | lia | omega)]
  apply Int.le_of_mul_le_mul_right (a := 2 ^ (6 - i)) _ (Int.pow_pos (by decide))
  rw [← Int.pow_add, show i + 1 + (6 - i) = 7 by (first | lia | omega), h4]
  exact hU
end
end Mine
end
section
open PySem PySem.W PyProof.Rows PySem.Calls
namespace Mine
def ksOf (ss : List Int) : List Int := (List.range 16).map fun j => (eqN ss j : Int)
theorem ksOf_len (ss : List Int) : (ksOf ss).length = 16 := by simp [ksOf]
theorem ksOf_getD (ss : List Int) {i : Nat} (h : i < 16) : (ksOf ss).getD i 0 = (eqN ss i : Int) := by
  rw [List.getD_eq_getElem?_getD, ksOf, List.getElem?_map, List.getElem?_range h]; rfl
theorem sizes_of {ss : List Int} (h1 : ss.Pairwise (· ≤ ·)) (h2 : ∀ x ∈ ss, 1 ≤ x ∧ x ≤ 7) (h3 : ss.length ≤ 8) : Sizes ss (ksOf ss) :=
  ⟨h1, h2, h3, ksOf_len ss, fun i h => ksOf_getD ss h⟩
theorem ksOf_range {ss : List Int} (h3 : ss.length ≤ 8) : ∀ k ∈ ksOf ss, 0 ≤ k ∧ k ≤ 8 := fun k hk => by
  obtain ⟨j, _, rfl⟩ := List.mem_map.mp hk
  have : eqN ss j ≤ ss.length := List.length_filter_le ..
  (first | lia | omega)
theorem placeAt_take' (ks : List Int) : ∀ i, placeAt ks i = (ks.take i).sum
  | 0 => rfl
  | i + 1 => by
    rw [List.take_add_one, List.sum_append, ← placeAt_take' ks i]
    show placeAt ks i + ks.getD i 0 = placeAt ks i + _
    rw [List.getD_eq_getElem?_getD]
    cases ks[i]? <;> simp
theorem ksOf_sum {ss : List Int} (h1 : ss.Pairwise (· ≤ ·)) (h2 : ∀ x ∈ ss, 1 ≤ x ∧ x ≤ 7) (h3 : ss.length ≤ 8) : (ksOf ss).sum = (ss.length : Int) := by
  have S := sizes_of h1 h2 h3
  have h := placeAt_eq S (i := 16) (Nat.le_refl _)
  rw [placeAt_take', List.take_of_length_le (by rw [ksOf_len]; exact Nat.le_refl _)] at h
  rw [h]
  unfold ltN
  rw [List.filter_eq_self.mpr fun x hx => by have := h2 x hx; simp; (first | lia | omega)]
def SymsOk (sy : List Int) : Prop := ∀ (j : Nat) (v : Int), sy[j]? = some v → 31 * (j : Int) ≤ v ∧ v ≤ 31 * (j : Int) + 7
theorem SymsOk.nodup {sy : List Int} (h : SymsOk sy) : sy.Nodup := by
  refine List.pairwise_iff_getElem.mpr fun i j hi hj hij e => ?_
  have h1 := h i sy[i] (List.getElem?_eq_getElem hi)
  have h2 := h j sy[j] (List.getElem?_eq_getElem hj)
  (first | lia | omega)
theorem SymsOk.snoc {sy : List Int} {r : Int} (h : SymsOk sy) (h0 : 0 ≤ r) (h1 : r < 8) (hl : sy.length < 8) : SymsOk (sy ++ [Int.fmod (31 * (sy.length : Int) + r) 256]) := by
  intro j v hv
  by_cases hj : j < sy.length
  · rw [List.getElem?_append_left hj] at hv
    exact h j v hv
  · rw [List.getElem?_append_right (by (first | lia | omega))] at hv
    have e : j - sy.length = 0 := by
      apply Nat.eq_zero_of_not_pos
      intro hp
      rw [List.getElem?_eq_none (by simp; (first | lia | omega))] at hv
      cases hv
    rw [e] at hv
    simp only [List.getElem?_cons_zero, Option.some.injEq] at hv
    rw [← hv, Int.fmod_eq_emod_of_nonneg _ (by decide)]
    (first | lia | omega)
theorem SymsOk.nil : SymsOk [] := fun j v h => by simp at h
end Mine
end
section
open PySem PySem.W PyProof.Rows PySem.Calls PySem.NumText
set_option maxRecDepth 100000
namespace Mine
def bval (bs : List Nat) : Nat := bs.foldl (fun a d => a * 2 + d) 0
theorem foldlM_bits : ∀ (bs : List Nat), (∀ b ∈ bs, b < 2) → ∀ (ds : Array Nat) (f : Bool), (bs.map (· + 48)).foldlM (step 2) (ds, f) = some (ds ++ bs.toArray, f || !bs.isEmpty)
  | [], _, ds, f => by simp
  | b :: r, h, ds, f => by
    have hb := h b (List.mem_cons_self ..)
    have e : step 2 (ds, f) (b + 48) = some (ds.push b, true) := by
      have : b = 0 ∨ b = 1 := by (first | lia | omega)
      rcases this with rfl | rfl <;> rfl
    rw [List.map_cons, List.foldlM_cons, e]
    show (r.map (· + 48)).foldlM (step 2) (ds.push b, true) = _
    rw [foldlM_bits r (fun x hx => h x (List.mem_cons_of_mem _ hx))]
    simp
theorem bits_notblank {bs : List Nat} (h : ∀ b ∈ bs, b < 2) : ∀ c ∈ bs.map (· + 48), blank c = false := fun c hc => by
  obtain ⟨b, hb, rfl⟩ := List.mem_map.mp hc
  have := h b hb
  have : b = 0 ∨ b = 1 := by (first | lia | omega)
  rcases this with rfl | rfl <;> rfl
theorem dropWhile_none {l : List Nat} (h : ∀ c ∈ l, blank c = false) : l.dropWhile blank = l := by
  cases l with
  | nil => rfl
  | cons a r => rw [List.dropWhile_cons, h a (List.mem_cons_self ..)]; rfl
theorem read_bits {bs : List Nat} (h : ∀ b ∈ bs, b < 2) (hne : bs ≠ []) : (int_private% "readNumeral") 0 2 (bs.map (· + 48)) = (int_private% "Numeral.value") (bval bs : Int) := by
  have hb := bits_notblank h
  have hs : sign (bs.map (· + 48)) = (false, bs.map (· + 48)) := by
    cases bs with
    | nil => exact absurd rfl hne
    | cons a r =>
      have := h a (List.mem_cons_self ..)
      have : a = 0 ∨ a = 1 := by (first | lia | omega)
      rcases this with rfl | rfl <;> rfl
  have hp : prefix? (bs.map (· + 48)) = none := by
    match bs, h, hne with
    | [a], h, _ =>
      have := h a (List.mem_cons_self ..)
      have : a = 0 ∨ a = 1 := by (first | lia | omega)
      rcases this with rfl | rfl <;> rfl
    | a :: b :: r, h, _ =>
      have := h a (List.mem_cons_self ..)
      have h2 := h b (by simp)
      have qa : a = 0 ∨ a = 1 := by (first | lia | omega)
      have qb : b = 0 ∨ b = 1 := by (first | lia | omega)
      rcases qa with rfl | rfl <;> rcases qb with rfl | rfl <;> rfl
  refine (readNumeral_eq 0 2 _).trans ?_
  rw [dropWhile_none hb, hs]
  have hba : based 2 (bs.map (· + 48)) = (2, false, bs.map (· + 48)) := by
    unfold based; rw [hp]; rfl
  rw [hba]
  have hr : (bs.map (· + 48)).reverse.dropWhile blank = (bs.map (· + 48)).reverse := dropWhile_none fun c hc => hb c (List.mem_reverse.mp hc)
  simp only [hr, List.reverse_reverse]
  have hd : digits? 2 (bs.map (· + 48)) = some bs.toArray := by
    unfold digits?
    rw [foldlM_bits bs h]
    cases bs with
    | nil => exact absurd rfl hne
    | cons a r => simp
  rw [hd]
  unfold judge
  simp [bval]
theorem typeCall_int_2 (a b : Value) : checkTypeCall "int" ⟨[a, b], []⟩ = pure () := by kernel_rfl
theorem newCall_int_2 (a b : Value) : checkBuiltinCall "int.__new__" ⟨[.type "int", a, b], []⟩ = pure () := by kernel_rfl
theorem wp_text2 {M : Model} {A : Around} {E : Value → Shared → Prop} {s : Shared} {Q : Value → Shared → Prop} {v : Value} {text : List Nat} {n : Int}
    (hs : (text.takeWhile (· != 0)).length ≤ 640) (hr : (int_private% "readNumeral") 0 2 (text.takeWhile (· != 0)) = (int_private% "Numeral.value") n)
    (ha : ((text.takeWhile (· != 0)).length == text.length) = true) (h : Q (.int n s.toks) { s with toks := s.toks + 1 }) :
    wpAny M A ((int_private% "intFromText") v text 2) Q E s := by
  obtain ⟨hp, g, d, tk, os⟩ := s
  repeat (any_goals (first
    | assumption
    | (with_reducible refine wpAny_ite_true (decide_eq_true hs) ?_)
    | (with_reducible refine wpAny_ite_true (decide_eq_true ha) ?_)
    | wp_step))
  all_goals (try rw [hr])
  all_goals (try dsimp only)
  repeat (any_goals (first
    | assumption
    | (with_reducible refine wpAny_ite_true (decide_eq_true hs) ?_)
    | (with_reducible refine wpAny_ite_true (decide_eq_true ha) ?_)
    | wp_step))
theorem takeWhile_bits : ∀ bs : List Nat, (bs.map (· + 48)).takeWhile (· != 0) = bs.map (· + 48)
  | [] => rfl
  | b :: r => by rw [List.map_cons, List.takeWhile_cons, if_pos (by simp), takeWhile_bits r]
structure Hid2 (p : Prop) : Prop where
  out : p
theorem text_bits {bs : List Nat} (h : ∀ b ∈ bs, b < 2) : (if (bitT bs).cps.all (· < 128) then (bitT bs).cps.toList else Unicode.numberText (bitT bs).cps.toList) = bs.map (· + 48) := by
  rw [if_pos]
  · simp [bitT]
  · rw [Array.all_eq_true']
    intro x hx
    simp only [bitT, List.mem_toArray, List.mem_map] at hx
    obtain ⟨b, hb, rfl⟩ := hx
    have := h b hb
    simp; (first | lia | omega)
set_option maxHeartbeats 4000000 in
theorem gives_text2 {bs : List Nat} {u t : Tok} (h : ∀ b ∈ bs, b < 2) (hne : bs ≠ []) (hl : bs.length ≤ 640) : Gives (Builtin.«int.__new__» ⟨[.type "int", .str (bitT bs) u, .int 2 t], []⟩) (.int (bval bs : Int)) :=
  .of_wp fun M A E s Q hq => by
    obtain ⟨hp, g, d, tk, os⟩ := s
    have f1 := F.conv_sub_int
    have f2 := F.madeHere_int
    have f6 : typeOf (.str (bitT bs) u) = pure (.type "str") := rfl
    have hseen : (bs.map (· + 48)).takeWhile (· != 0) = bs.map (· + 48) := takeWhile_bits bs
    have htx := text_bits h
    have hk := Hid2.mk (p := ((if (bitT bs).cps.all (· < 128) then (bitT bs).cps.toList else Unicode.numberText (bitT bs).cps.toList).takeWhile (· != 0)).length ≤ 640 ∧ (int_private% "readNumeral") 0 2 ((if (bitT bs).cps.all (· < 128) then (bitT bs).cps.toList else Unicode.numberText (bitT bs).cps.toList).takeWhile (· != 0)) = (int_private% "Numeral.value") (bval bs : Int) ∧ (((if (bitT bs).cps.all (· < 128) then (bitT bs).cps.toList else Unicode.numberText (bitT bs).cps.toList).takeWhile (· != 0)).length == (if (bitT bs).cps.all (· < 128) then (bitT bs).cps.toList else Unicode.numberText (bitT bs).cps.toList).length) = true) (by
      rw [htx, hseen]
      exact ⟨by simpa using hl, read_bits h hne, by simp⟩)
    clear htx hseen hl hne h
    repeat (any_goals (first
      | assumption
      | ((with_reducible show wpAny _ _ ((int_private% "intFromText") _ _ _) _ _ _); refine wp_text2 hk.out.1 hk.out.2.1 hk.out.2.2 ?_)
      | wp_step))
    all_goals first | exact ⟨_, rfl, hq⟩ | skip
theorem args_object_init_3 (a b c : Value) : argsOk "object.__init__" ⟨[a, b, c], []⟩ := by
  unfold argsOk; rw [signature?_of (id := "object.__init__") (n := ['_', '_', 't', 'i', 'n', 'i', '_', '_']) (o := ['t', 'c', 'e', 'j', 'b', 'o']) (by kernel_rfl) F.owner_object]; kernel_rfl
section
variable {prog : Program} {w : World} {A : Around} {E : Value → Shared → Prop} {s : Shared} {Q : Value → Shared → Prop}
theorem call_int2 {bs : List Nat} {u t : Tok} (h : ∀ b ∈ bs, b < 2) (hne : bs ≠ []) (hl : bs.length ≤ 640) (hq : Q (.int (bval bs : Int) s.toks) { s with toks := s.toks + 1 }) :
    wpAny (model prog w) A (call (.type "int") [.str (bitT bs) u, .int 2 t]) Q E s :=
  callType_new F.called_int F.newNe_int (typeCall_int_2 _ _) (newCall_int_2 _ _) (fun obj => args_object_init_3 obj _ _) F.entry_int_new (gives_text2 h hne hl).meets (show (Made.int _).post _ s from ⟨rfl, hq⟩)
end
theorem bval_snoc (bs : List Nat) (d : Nat) : bval (bs ++ [d]) = bval bs * 2 + d := by simp [bval, List.foldl_append]
theorem bval_bitsL : ∀ {y : Nat} {x : Int}, 0 ≤ x → x < 2 ^ y → (bval (bitsL x y) : Int) = x
  | 0, x, h0, h1 => by simp only [Int.pow_zero] at h1; show (0 : Int) = x; (first | lia | omega)
  | y + 1, x, h0, h1 => by
    rw [bitsL_succ, bval_snoc]
    rw [Int.pow_succ] at h1
    have := bval_bitsL (y := y) (x := x / 2) (by (first | lia | omega)) (by (first | lia | omega))
    (first | lia | omega)
end Mine
end
section
open PySem PySem.W PyProof.Rows PySem.Calls
set_option maxRecDepth 100000
set_option compiler.extract_closed false
namespace Mine
theorem fillAll : (fun (_ : OpenLaw) (_ : Params → Frag) => True) PySem.Challenge.rw_ok0132_02 Mine.hdx.heap_1 := by
  w_top off
  k_fill
  trivial
local macro_rules | `(tactic| k_all) => `(tactic| assumption)
local macro_rules | `(tactic| k_ne) => `(tactic| (refine neN ?_; (try dsimp only); first | (with_reducible first | assumption | exact Ne.symm (by assumption) | exact Nat.ne_of_lt (by assumption) | exact Nat.ne_of_gt (by assumption) | exact neS1 _ | exact Nat.succ_ne_self _ | exact neS2 _ | exact neT2 _ | exact andL0 (by assumption) | exact andL1 (by assumption) | exact andL2 (by assumption) | exact andL3 (by assumption) | exact andL4 (by assumption) | exact andL5 (by assumption) | exact andL6 (by assumption) | exact andL7 (by assumption) | exact andL8 (by assumption) | exact andL9 (by assumption) | exact andL10 (by assumption) | exact andL11 (by assumption) | exact andG0 (by assumption) | exact andG1 (by assumption) | exact andG2 (by assumption) | exact andG3 (by assumption) | exact andG4 (by assumption) | exact andG5 (by assumption) | exact andG6 (by assumption) | exact andG7 (by assumption) | exact andG8 (by assumption) | exact andG9 (by assumption) | exact andG10 (by assumption) | exact andG11 (by assumption) | exact andS0 (by assumption) | exact andS1 (by assumption) | exact andS2 (by assumption) | exact andS3 (by assumption) | exact andS4 (by assumption) | exact andS5 (by assumption) | exact andS6 (by assumption) | exact andS7 (by assumption) | exact andS8 (by assumption) | exact andS9 (by assumption) | exact chS2 (by assumption) | exact chS (by assumption) | exact chT (by assumption) (by assumption)) | omega))
local macro_rules | `(tactic| omega) => `(tactic| first | (with_reducible first | exact Int.natCast_nonneg _ | exact Nat.le_of_ble_eq_true rfl | exact ltB rfl | exact un2 (by assumption) rfl | exact un1 (by assumption) rfl | exact un0 (by assumption)) | ((repeat (with_reducible rename _ ≠ _ ∧ _ => hNe; clear hNe)); (repeat (with_reducible rename @Ne Nat _ _ => hNe; clear hNe)); (repeat (with_reducible rename @LT.lt Nat _ _ _ ∧ _ => hNe; clear hNe)); omega (splitDisjunctions := true)) | omega (splitDisjunctions := true))
local macro_rules | `(tactic| ktr_enter) => `(tactic| first
  | (refine' code_def ?k1 ?k2 ?k3 ?k4 ?k5 ?kA ?kF ?kK ?k6 ?k7 ?k8 ?k9 ?kB ?_ ?c2 ?c3 ?c4 ?c5; (case kA | kF => exact rfl); (case kK => first | exact rfl | assumption); (case k1 | k2 | k3 | k4 | k5 => k_asm); (case k6 | k7 => k_is); (case k8 => ktr_room); (case k9 => exact BindsTo.of_eq rfl); (case c5 => decide); (case kB => exact locs rfl); (case c2 | c3 | c4 => exact rfl); k_whole; intro g' L' h' FG' F' N' B' X' T'; (try dsimp only); (try k_lift B'); (try k_fold))
  | (refine' code_defC ?k1 ?k2 ?k3 ?k4 ?k5 ?kA ?kF ?kK ?k6 ?k7 ?k8 ?k9 ?kB ?kD ?_ ?c2 ?c3 ?c4; (case kA | kF => exact rfl); (case kK => first | exact rfl | assumption); (case k1 | k2 | k3 | k4 | k5 => k_asm); (case k6 | k7 => k_is); (case k8 => ktr_room); (case k9 => exact BindsTo.of_eq rfl); (case kB => exact rfl); (case kD => decide +kernel); (case c2 | c3 | c4 => exact rfl); k_whole; intro g' L' h' tk' cells' FG' F' N' Y' B' X' T' l1; (try k_lt l1); k_cells Y'; (try simp only [List.cons_append, List.nil_append] at N'); (try dsimp only); (try k_lift B'); (try k_fold)))
local macro_rules | `(tactic| tb_rel) => `(tactic| ((fail_if_success (with_reducible first | refine stLoopV ?_ | refine stLC ?_ | refine stALC ?_ | refine stWhile ?_ | refine stFor ?_ | refine stSrcF ?_ | refine stSrcT ?_ | refine stSrcV ?_ | refine stForEndV ?_ | refine stForEnd ?_ | refine stWEnd ?_ | refine stSrcZ ?_ | refine stSrcW ?_ | refine stCompEnd ?_)); first | (k_unfold; (try dsimp only)) | (k_end; wrow_close) | walk1 | (dsimp only; walk1) | (leave1; walk_say "STEP leave1"; try dsimp only) | fail "no step"))
local macro_rules | `(tactic| k_steps) => `(tactic| repeat' tb_rel)
local macro_rules | `(tactic| walk_at "RaisePost") => `(tactic| refine RaisePost.intro (by assumption) ?_)
local macro_rules | `(tactic| walk_at "leaving ref") => `(tactic| (k_here; k_dflt (refine' leave_newC ?k1 ?k0 ?k2 ?k3 ?_; (case k0 | k1 | k2 => assumption); (case k3 => k_asm); k_whole); intro h' R' U'; (try dsimp only at R' U' ⊢)))
local macro_rules | `(tactic| walk_at "exec Raise some none") => `(tactic| (k_here; k_dflt ((first | ((with_reducible show wpAny _ _ (exec (Stmt.Raise (some (Expr.Call (Expr.Name ("TableError" : PySem.Str) _) (_ :: _) [] _)) none _) _) _ _ _); refine' Raise_own_x (C := 44) ?k1 ?k2 ?k3 ?k4 ?k5 ?_) | ((with_reducible show wpAny _ _ (exec (Stmt.Raise (some (Expr.Call (Expr.Name ("CodeError" : PySem.Str) _) (_ :: _) [] _)) none _) _) _ _ _); refine' Raise_own_x (C := 56) ?k1 ?k2 ?k3 ?k4 ?k5 ?_) | ((with_reducible show wpAny _ _ (exec (Stmt.Raise (some (Expr.Call (Expr.Name ("CutError" : PySem.Str) _) (_ :: _) [] _)) none _) _) _ _ _); refine' Raise_own_x (C := 68) ?k1 ?k2 ?k3 ?k4 ?k5 ?_)); (case k1 | k2 => k_asm); (case k3 => k_is); (case k4 | k5 => rfl))))
local macro_rules | `(tactic| walk_at "call ref") => `(tactic| (k_here; (with_reducible show wpAny _ _ (call (Value.ref _) [Value.str _ _]) _ _ _); k_dflt (refine' make_spec ?k1 ?k2 ?k3 ?k4 ?k5 ?k6 ?k7 ?k8 ?k9 ?k10 ?k11 ?k12 ?k13 ?k14 ?k15 ?k16 ?_; (case k1 | k2 | k3 | k4 => k_asm); (case k5 => first | exact rfl | assumption); (case k6 => ktr_room); (case k7 => ktr_units); (case k8 => k_is); (case k9 | k10 | k11 | k12 => rfl); (case k13 | k14 | k15 => k_is); (case k16 => intro x; kernel_rfl); k_whole); intro h' tk' e' x'))
local macro_rules | `(tactic| walk_at "call builtin:list.append") => `(tactic| (k_here; (with_reducible show wpAny _ _ (call (Value.builtin _) [Value.ref _, _]) _ _ _); k_dflt (refine' append_K ?k1 ?k2 ?k3 ?_ ?z; (case k1 | k2 => k_asm); (case k3 => k_upd); (case z => with_reducible assumption); k_whole); intro h' F' N'; (try k_sweep)))
local macro_rules | `(tactic| ktr_units) => `(tactic| ((simp only [Mine.units_under_make, units_in1, units_deeper, Around.mark_units, units_caller]); (try dsimp only [ktrTop]); first | (with_reducible exact ltC rfl) | (have hcL9 := cLine_is; omega)))
section
variable {w : World} {mean : ExcName → Option Value} {mg mb : PySem.Str → Option Value} {dp un : Nat} {gd : Option (List Code)} {cn : PySem.Str} {cs : Scope} {a : Addr} {ccd : Value} {cl : List (PySem.Str × Addr)} {outer : List Env} {A₀ : Around} {base h₀ : Heap} {L : Addr} {m : PySem.Str → Option Value} {s : Shared} {Q E : Value → Shared → Prop} {news : List (Addr × Obj)}
section
abbrev srcO (x y : Int) (tx ty : Tok) (n : Nat) : Obj := listOf #[.int x tx, .int y ty] n
set_option maxHeartbeats 4000000 in
theorem take_base {d : Addr} {x y : Int} {tx ty : Tok} {n : Nat} {top : Int} {tt : Tok}
    (B : Below A₀ base outer h₀) (F : Fr h₀ L s.heap m) (X : (hdx.heap_1 w.params).In h₀) (N : News h₀ L s.heap ((d, srcO x y tx ty n) :: news)) (T : Top vw (looseW vw []) mean mg mb h₀) (hk : cs.kind = .function)
    (hoff : ∀ p ∈ news, p.1 ≠ d) (hx0 : 0 ≤ x) (hy0 : 0 ≤ y) (hy1 : y < 2147483647) (ht : 0 < top) (ht' : top < 1000) (hd : dp + 1 < recursionLimit) (hu : un + 8 < cLine)
    (hret : ∀ (x' y' r : Int) (tx' ty' tr : Tok) (h' : Heap) (tk' : Nat), 0 ≤ x' → 0 ≤ y' → y' < 2147483647 → 0 ≤ r → r < top → Fr h₀ L h' m → News h₀ L h' ((d, srcO x' y' tx' ty' n) :: news) → Q (.int r tr) { s with heap := h', toks := tk' }) :
    wpAny (model PySem.Challenge.pw_ok0132_02 w) (ktrTop dp un gd cn cs L a ccd cl outer) (call (.ref 175) [.ref d, .int top tt]) Q E s := by
  refine wpAny_call ?_
  k_dflt ktr_enter
  k_steps
  · refine hret _ _ _ _ _ _ _ _ ?_ ?_ ?_ ?_ ?_ (by k_asm) (by k_asm)
    · show 0 ≤ Int.fdiv x top
      exact Int.fdiv_nonneg hx0 (Int.le_of_lt ht)
    · exact hy0
    · exact hy1
    · exact Int.fmod_nonneg_of_pos _ ht
    · exact Int.fmod_lt_of_pos _ ht
  · have z0 := Int.fmod_nonneg_of_pos (y * 39373 + 7) (b := 2147483647) (by decide)
    have z1 := Int.fmod_lt_of_pos (y * 39373 + 7) (b := 2147483647) (by decide)
    generalize hz : Int.fmod (y * 39373 + 7) 2147483647 = z at z0 z1
    refine mul_int ?_ (IntMulOk.of_left (intBits_le_64 ?_ ?_))
    · k_steps
      refine hret _ _ _ _ _ _ _ _ ?_ ?_ ?_ ?_ ?_ (by k_asm) (by k_asm)
      · exact hx0
      · show 0 ≤ Int.fmod (y * 39373 + 7) 2147483647
        rw [hz]; exact z0
      · show Int.fmod (y * 39373 + 7) 2147483647 < 2147483647
        rw [hz]; exact z1
      · exact Int.fmod_nonneg_of_pos _ ht
      · exact Int.fmod_lt_of_pos _ ht
    · show -(2 ^ 64) < Int.fmod (y * 39373 + 7) 2147483647
      rw [hz]; omega
    · show Int.fmod (y * 39373 + 7) 2147483647 < 2 ^ 64
      rw [hz]; omega
theorem take_spec {d : Addr} {x y : Int} {tx ty : Tok} {n : Nat} {top : Int} {tt : Tok} {nw : List (Addr × Obj)} {nw' : Int → Int → Tok → Tok → List (Addr × Obj)}
    (B : Below A₀ base outer h₀) (F : Fr h₀ L s.heap m) (X : (hdx.heap_1 w.params).In h₀) (N : News h₀ L s.heap (nw)) (T : Top vw (looseW vw []) mean mg mb h₀) (hk : cs.kind = .function) (U : ∀ x' y' tx' ty', Upd d (srcO x y tx ty n) (srcO x' y' tx' ty' n) nw (nw' x' y' tx' ty'))
    (hx0 : 0 ≤ x) (hy0 : 0 ≤ y) (hy1 : y < 2147483647) (ht : 0 < top) (ht' : top < 1000) (hd : dp + 1 < recursionLimit) (hu : un + 8 < cLine)
    (hret : ∀ (x' y' r : Int) (tx' ty' tr : Tok) (h' : Heap) (tk' : Nat), 0 ≤ x' → 0 ≤ y' → y' < 2147483647 → 0 ≤ r → r < top → Fr h₀ L h' m → News h₀ L h' (nw' x' y' tx' ty') → Q (.int r tr) { s with heap := h', toks := tk' }) :
    wpAny (model PySem.Challenge.pw_ok0132_02 w) (ktrTop dp un gd cn cs L a ccd cl outer) (call (.ref 175) [.ref d, .int top tt]) Q E s :=
  take_base B F X (news_headed N (U x y tx ty)) T hk offAddr_off hx0 hy0 hy1 ht ht' hd hu fun x' y' r tx' ty' tr h' tk' a1 a2 a3 a4 a5 F' N' => hret x' y' r tx' ty' tr h' tk' a1 a2 a3 a4 a5 F' (news_back N' (U x' y' tx' ty'))
end
section
def SeqO (o : Obj) (us : List Value) : Prop := o = tupO us ∨ ∃ n, o = listOf us.toArray n
theorem SeqO.noIt {o : Obj} {us : List Value} (h : SeqO o us) : isIt o.cls = false := by rcases h with rfl | ⟨n, rfl⟩ <;> rfl
theorem len_seqO {prog : Program} {A : Around} {l : Addr} {o : Obj} {vs : List Value} {ns : List Int} {nw : List (Addr × Obj)} (N : News h₀ L s.heap nw) (hm : (l, o) ∈ nw) (hO : SeqO o vs) (hi : IntsAre vs ns) (hn : ns.length < 1000)
    (h : Q (.int ns.length (s.toks + 1)) { s with toks := s.toks + 1 + 1 }) : wpAny (model prog w) A (call (.builtin "len") [.ref l]) Q E s := by
  rcases hO with rfl | ⟨n, rfl⟩
  · exact len_tup_ints N hm hi hn h
  · exact len_listN N hm hi.length hn h
theorem item_seqO {prog : Program} {A : Around} {value slice : PySem.Expr} {l : Addr} {o : Obj} {vs : List Value} {ns : List Int} {k : Int} {u : Tok} {nw : List (Addr × Obj)} (N : News h₀ L s.heap nw) (hm : (l, o) ∈ nw) (hO : SeqO o vs) (hi : IntsAre vs ns)
    (h0 : 0 ≤ k) (h1 : k < ns.length) (hfit : k < 2 ^ 63) (h : ∀ t, Q (.int (ns.getD k.toNat 0) t) s)
    (hs : subscripted slice false (.ref l) (.int k u) = operate [.ref l, .int k u] (getItem (.ref l) (.int k u)) := by with_unfolding_all rfl) :
    wpAny (model prog w) A (subscriptTail value slice (.ref l) (.int k u)) Q E s := by
  rcases hO with rfl | ⟨n, rfl⟩
  · exact item_tuple_intsR N hm hi h0 h1 hfit h hs
  · exact item_list_intsR (News.isList N hm) hi h0 h1 hfit h hs
local macro_rules | `(tactic| walk_at "call builtin:len") => `(tactic| (k_here; (with_reducible show wpAny _ _ (call (Value.builtin "len") [Value.ref _]) _ _ _); k_dflt (refine' Mine.len_seqO ?k1 ?k2 ?k3 ?k5 ?k4 ?_; (case k1 => k_asm); (case k2 => k_mem); (case k3 | k5 => assumption); (case k4 => omega); k_whole)))
local macro_rules | `(tactic| walk_at "subscriptTail") => `(tactic| ((with_reducible show wpAny _ _ (subscriptTail _ _ (Value.ref _) (Value.int _ _)) _ _ _); (refine Mine.item_seqO (by k_asm) (by k_mem) (by assumption) (by assumption) (by omega) (by omega) (by omega) ?_); intro _))
set_option maxHeartbeats 4000000 in
theorem rows_spec {ax : Addr} {oC : Obj} {us : List Value} {ks : List Int} (hO : SeqO oC us)
    (B : Below A₀ base outer h₀) (F : Fr h₀ L s.heap m) (X : (hdx.heap_1 w.params).In h₀) (N : News h₀ L s.heap ((ax, oC) :: news)) (T : Top vw (looseW vw []) mean mg mb h₀) (hk : cs.kind = .function)
    (hks : IntsAre us ks) (hlen : ks.length = 16) (hd : dp + 8 < recursionLimit) (hu : un + 30 < cLine)
    (hret : ∀ (lx : Addr) (va : Array Value) (n' : Nat) (extra : List (Addr × Obj)) (h' : Heap) (tk' : Nat), (∀ j < 16, okAt ks j) → (∀ p ∈ extra, p.2.cls = .type "tuple") → (∀ p ∈ extra, lx < p.1 ∧ ax < p.1 ∧ ∀ q ∈ news, q.1 < p.1) → ax < lx → AllLt lx news → RowsAt extra va.toList ks 16 →
      Fr h₀ L h' m → News h₀ L h' ((lx, listOf va n') :: (ax, oC) :: (extra ++ news)) → Q (.ref lx) { s with heap := h', toks := tk' })
    (hraise : ∀ (e : Addr) (h' G : Heap) (tk' : Nat) j, j < 16 → ¬ okAt ks j → Fr h₀ L G m → RaisedSN base G (envX cn cs L a ccd cl :: outer) e (.ref 44) ((ax, oC) :: news) h' → G.UpToSlots h' → E (.ref e) { s with heap := h', toks := tk' }) :
    wpAny (model PySem.Challenge.pw_ok0132_02 w) (ktrTop dp un gd cn cs L a ccd cl outer) (call (.ref 77) [.ref ax]) Q E s := by
  refine wpAny_call ?_
  k_dflt ktr_enter
  k_steps
  k_dflt (refine For_W (by k_asm) ?_)
  k_steps
  rename_i hr F1 N1 _
  rename_i lx _ l1 _ _ dx _ l2 _ _ _ _ _ _ _ _ _ _ _
  refine SrcF.intro (n := 16) (iterG_range (by exact rfl) hr (by rw [hlen]; decide) (by rw [hlen]; decide)) (by k_asm) (fun p hp => N1 p (List.mem_cons_of_mem _ hp)) trivial
    (fun i m₁ nw => ∃ tc tp n' va extra, m₁ "rows" = some (.ref lx) ∧ m₁ "counts" = some (.ref ax) ∧ m₁ "code" = some (.int (codeAt ks i) tc) ∧ m₁ "place" = some (.int (placeAt ks i) tp) ∧ nw = (lx, listOf va n') :: (ax, oC) :: (extra ++ news) ∧ (∀ p ∈ extra, p.2.cls = .type "tuple") ∧ (∀ p ∈ extra, lx < p.1 ∧ ax < p.1 ∧ ∀ q ∈ news, q.1 < p.1) ∧ RowsAt extra va.toList ks i ∧ ∀ j < i, okAt ks j)
    ⟨_, _, _, #[], [], by with_unfolding_all rfl, by with_unfolding_all rfl, by with_unfolding_all rfl, by with_unfolding_all rfl, rfl, (fun p hp => by cases hp), (fun p hp => by cases hp), .zero, fun j hj => absurd hj (Nat.not_lt_zero _)⟩ ?turn ?fin
  case turn =>
    rintro i v I oI m₁ nw h tk hi ⟨t, rfl⟩ ⟨tc, tp, n', va, extra, hm1, hm2, hm3, hm4, rfl, hex, hxx, hR, hok⟩ hcI O S F N
    have hxl : ∀ p ∈ extra ++ news, p.1 ≠ lx := off_append (fun p hp => Nat.ne_of_gt (hxx p hp).1) (fun p hp => Nat.ne_of_lt (ktn_ltOf l1.2 p hp))
    replace F := fr_cast F (pin hm1 (pin hm2 (pin hm3 (pin hm4 rfl))))
    have hlI := O _ (List.mem_cons_self ..)
    have hIl : I ≠ lx := fun e => hlI e.symm
    have hal : ax ≠ lx := Nat.ne_of_lt l1.1
    have hvs : va.size ≤ sizeLine := by rw [sizeLine_eq, ← Array.length_toList, hR.1]; omega
    have hx1 : (1 + (i : Int) * 1 - 1).toNat = i := by omega
    have hx2 : (1 + (i : Int) * 1).toNat = i + 1 := by omega
    generalize hcI' : extra ++ news = tl at N O hxl
    k_steps
    · rename_i a1 a2 _ _ _ _ _ R' U'
      rw [hx1, hx2] at a1
      rw [hx1] at a2
      refine hraise _ _ _ _ i hi (fun q => q ⟨a1, a2⟩) (by k_asm) (raisedSN_sub R' fun p hp => ?_) U'
      rcases List.mem_cons.mp hp with rfl | hp
      · exact List.mem_cons_of_mem _ (List.mem_cons_of_mem _ (List.mem_cons_of_mem _ (List.mem_cons_self ..)))
      · exact List.mem_cons_of_mem _ (List.mem_cons_of_mem _ (List.mem_cons_of_mem _ (List.mem_cons_of_mem _ (hcI' ▸ List.mem_append_right _ hp))))
    all_goals
      rename News _ _ _ _ => N'
      rename (I < _ ∧ _) => l2'
      rw [hx1] at N'
      refine ForEnd.next (by k_asm) (all := (I, oI) :: (lx, _) :: (ax, _) :: (_, _) :: tl) (by refine' cb_drop ?cbN ?cbS; (case cbN => exact N'); (case cbS => kcj_all)) hcI ((lx, _) :: (ax, _) :: (((_, _) :: extra) ++ news)) (by subst hcI'; exact fun p hp => hp) ⟨.inr rfl, .inr hO.noIt, .inr rfl, OffIt.of fun p hp => O p (List.mem_cons_of_mem _ (List.mem_cons_of_mem _ (hcI' ▸ hp)))⟩ trivial
        ⟨_, _, _, _, (_, _) :: extra, by with_unfolding_all rfl, by with_unfolding_all rfl, some_int (by with_unfolding_all rfl) (by rw [hx1]; rfl), some_int (by with_unfolding_all rfl) (by rw [hx1]; rfl), rfl, ?_, ?_, ?_, ?_⟩
      · intro p hp
        rcases List.mem_cons.mp hp with rfl | hp
        · rfl
        · exact hex p hp
      · intro p hp
        rcases List.mem_cons.mp hp with rfl | hp
        · exact ⟨l2'.2.1, l2'.2.2.1, fun q hq => ktn_ltOf l2'.2.2.2 q (hcI' ▸ List.mem_append_right _ hq)⟩
        · exact hxx p hp
      · rw [Array.toList_push]
        exact hR.snoc
      · intro j hj
        by_cases e : j < i
        · exact hok j e
        · obtain rfl : j = i := by omega
          rintro ⟨q1, q2⟩
          first
            | (rename ¬ (2 : Int) ^ _ ≤ _ => a1
               rw [hx1, hx2] at a1
               exact a1 q1)
            | (rename ¬ (0 : Int) < _ => a1
               rw [hx1] at a1
               exact a1 q2)
  case fin =>
    rintro h' tk' m' nw F N S ⟨tc, tp, n', va, extra, hm1, hm2, hm3, hm4, rfl, hex, hxl, hR, hok⟩
    replace F := fr_cast F (pin hm1 rfl)
    generalize hcI' : extra ++ news = tl at N
    k_steps
    subst hcI'
    exact hret _ _ _ _ _ _ hok hex hxl l1.1 l1.2 hR (by k_asm) (by k_asm)

theorem rows_use {ax : Addr} {us : List Value} {n : Nat} {ks : List Int} {nw : List (Addr × Obj)}
    (B : Below A₀ base outer h₀) (F : Fr h₀ L s.heap m) (X : (hdx.heap_1 w.params).In h₀) (N : News h₀ L s.heap (nw)) (T : Top vw (looseW vw []) mean mg mb h₀) (hk : cs.kind = .function) (m1 : (ax, listOf us.toArray n) ∈ nw)
    (hks : IntsAre us ks) (hlen : ks.length = 16) (hd : dp + 8 < recursionLimit) (hu : un + 30 < cLine)
    (hret : ∀ (lx : Addr) (va : Array Value) (n' : Nat) (extra : List (Addr × Obj)) (h' : Heap) (tk' : Nat), (∀ j < 16, okAt ks j) → (∀ p ∈ extra, p.2.cls = .type "tuple") → (∀ p ∈ extra, p.1 ≠ lx) → OffX extra nw → AllLt lx nw → RowsAt extra va.toList ks 16 →
      Fr h₀ L h' m → News h₀ L h' ((lx, listOf va n') :: (nw ++ extra)) → Q (.ref lx) { s with heap := h', toks := tk' })
    (hraise : ∀ (e : Addr) (h' G : Heap) (tk' : Nat) j, j < 16 → ¬ okAt ks j → Fr h₀ L G m → RaisedSN base G (envX cn cs L a ccd cl :: outer) e (.ref 44) nw h' → G.UpToSlots h' → E (.ref e) { s with heap := h', toks := tk' }) :
    wpAny (model PySem.Challenge.pw_ok0132_02 w) (ktrTop dp un gd cn cs L a ccd cl outer) (call (.ref 77) [.ref ax]) Q E s :=
  rows_spec (.inr ⟨n, rfl⟩) B F X (fun p hp => by rcases List.mem_cons.mp hp with rfl | hp; exact N _ m1; exact N _ hp) T hk hks hlen hd hu
    (fun lx va n' extra h' tk' a1 a2 a3 a4 a5 a6 F' N' => hret lx va n' extra h' tk' a1 a2 (fun p hp => Nat.ne_of_gt (a3 p hp).1) (fun p hp => (a3 p hp).2.2) a5 a6 F' fun p hp => by
      rcases List.mem_cons.mp hp with rfl | hp
      · exact N' _ (List.mem_cons_self ..)
      · refine N' p (List.mem_cons_of_mem _ (List.mem_cons_of_mem _ ?_))
        rcases List.mem_append.mp hp with hp | hp
        · exact List.mem_append_right _ hp
        · exact List.mem_append_left _ hp)
    (fun e h' G tk' j h1 h2 F' R' U' => hraise e h' G tk' j h1 h2 F' (raisedSN_sub R' fun p hp => List.mem_cons_of_mem _ hp) U')
theorem rowsT_use {ax : Addr} {us : List Value} {ks : List Int} {nw : List (Addr × Obj)}
    (B : Below A₀ base outer h₀) (F : Fr h₀ L s.heap m) (X : (hdx.heap_1 w.params).In h₀) (N : News h₀ L s.heap (nw)) (T : Top vw (looseW vw []) mean mg mb h₀) (hk : cs.kind = .function) (m1 : (ax, tupO us) ∈ nw)
    (hks : IntsAre us ks) (hlen : ks.length = 16) (hd : dp + 8 < recursionLimit) (hu : un + 30 < cLine)
    (hret : ∀ (lx : Addr) (va : Array Value) (n' : Nat) (extra : List (Addr × Obj)) (h' : Heap) (tk' : Nat), (∀ j < 16, okAt ks j) → (∀ p ∈ extra, p.2.cls = .type "tuple") → (∀ p ∈ extra, p.1 ≠ lx) → OffX extra nw → AllLt lx nw → RowsAt extra va.toList ks 16 →
      Fr h₀ L h' m → News h₀ L h' ((lx, listOf va n') :: (nw ++ extra)) → Q (.ref lx) { s with heap := h', toks := tk' })
    (hraise : ∀ (e : Addr) (h' G : Heap) (tk' : Nat) j, j < 16 → ¬ okAt ks j → Fr h₀ L G m → RaisedSN base G (envX cn cs L a ccd cl :: outer) e (.ref 44) nw h' → G.UpToSlots h' → E (.ref e) { s with heap := h', toks := tk' }) :
    wpAny (model PySem.Challenge.pw_ok0132_02 w) (ktrTop dp un gd cn cs L a ccd cl outer) (call (.ref 77) [.ref ax]) Q E s :=
  rows_spec (.inl rfl) B F X (fun p hp => by rcases List.mem_cons.mp hp with rfl | hp; exact N _ m1; exact N _ hp) T hk hks hlen hd hu
    (fun lx va n' extra h' tk' a1 a2 a3 a4 a5 a6 F' N' => hret lx va n' extra h' tk' a1 a2 (fun p hp => Nat.ne_of_gt (a3 p hp).1) (fun p hp => (a3 p hp).2.2) a5 a6 F' fun p hp => by
      rcases List.mem_cons.mp hp with rfl | hp
      · exact N' _ (List.mem_cons_self ..)
      · refine N' p (List.mem_cons_of_mem _ (List.mem_cons_of_mem _ ?_))
        rcases List.mem_append.mp hp with hp | hp
        · exact List.mem_append_right _ hp
        · exact List.mem_append_left _ hp)
    (fun e h' G tk' j h1 h2 F' R' U' => hraise e h' G tk' j h1 h2 F' (raisedSN_sub R' fun p hp => List.mem_cons_of_mem _ hp) U')
end
section
set_option maxHeartbeats 4000000 in
theorem told_spec {cx sx : Addr} {us vs : List Value} {n n2 : Nat} {ks sy : List Int}
    (B : Below A₀ base outer h₀) (F : Fr h₀ L s.heap m) (X : (hdx.heap_1 w.params).In h₀) (N : News h₀ L s.heap ((cx, listOf us.toArray n) :: (sx, listOf vs.toArray n2) :: news)) (T : Top vw (looseW vw []) mean mg mb h₀) (hk : cs.kind = .function)
    (hks : IntsAre us ks) (hsy : IntsAre vs sy) (hlen : ks.length = 16) (hk0 : ∀ k ∈ ks, 0 ≤ k ∧ k ≤ 8) (hsum : ks.sum = (sy.length : Int)) (hs8 : sy.length ≤ 8) (hnd : sy.Nodup) (hd : dp + 8 < recursionLimit) (hu : un + 30 < cLine)
    (hret : ∀ (h' : Heap) (tk' : Nat), Fr h₀ L h' m → News h₀ L h' ((cx, listOf us.toArray n) :: (sx, listOf vs.toArray n2) :: news) → Q .none { s with heap := h', toks := tk' }) :
    wpAny (model PySem.Challenge.pw_ok0132_02 w) (ktrTop dp un gd cn cs L a ccd cl outer) (call (.ref 84) [.ref cx, .ref sx]) Q E s := by
  refine wpAny_call ?_
  k_dflt ktr_enter
  k_steps
  · exfalso; omega
  · exfalso
    rename _ ∈ ks => hM
    have := hk0 _ hM
    omega
  · exfalso; omega
  rename Obj.SetObjOf (PySem.intKind _ _) _ _ _ => hs0
  rename (cx < _ ∧ _) => l1
  rename News _ _ _ _ => N1
  rename Obj.SetObjOf (PySem.strKind _ _) _ _ _ => hz0
  rename_i sa _ _ _ _
  clear hz0
  k_dflt (refine For_W (by k_asm) ?_)
  k_steps
  have hall := ktn_ltOf l1.2.2
  have hss : vs.length = sy.length := hsy.length
  refine SrcF.intro (n := vs.toArray.size) (S := LCg.SrcAt _ sx vs.toArray) (iterG_list (by exact rfl) (by k_asm) N1 (.inr ⟨_, List.mem_cons_of_mem _ (List.mem_cons_of_mem _ (List.mem_cons_self ..)), rfl, _, rfl⟩)) (by k_asm) N1 (.inr ⟨_, List.mem_cons_of_mem _ (List.mem_cons_of_mem _ (List.mem_cons_self ..)), rfl, _, rfl⟩)
    (fun i m₁ nw => ∃ so St, m₁ "met" = some (.ref sa) ∧ m₁ "symbols" = some (.ref sx) ∧ nw = (sa, so) :: (cx, listOf us.toArray n) :: (sx, listOf vs.toArray n2) :: news ∧ so.SetObjOf (PySem.intKind PySem.Challenge.pw_ok0132_02 w) St i ∧ ∀ k, St k = true → k ∈ sy.take i)
    ⟨_, _, by with_unfolding_all rfl, by with_unfolding_all rfl, rfl, hs0, fun k hk => by cases hk⟩ ?turn ?fin
  case turn =>
    rintro i v I oI m₁ nw h tk hi hv ⟨so, St, hm1, hm2, rfl, hso, hSt⟩ hcI O S F N
    replace F := fr_cast F (pin hm1 (pin hm2 rfl))
    have hsaI := O _ (List.mem_cons_self ..)
    have hIs : I ≠ sa := fun e => hsaI e.symm
    have hcs : cx ≠ sa := Nat.ne_of_lt l1.1
    have hxs : sx ≠ sa := Nat.ne_of_lt l1.2.1
    have hns : ∀ p ∈ news, p.1 ≠ sa := fun p hp => Nat.ne_of_lt (hall p hp)
    obtain ⟨x, tx, rfl, hx⟩ := hsy.at i v (by simpa using hv)
    have hi8 : i < 8 := by simp at hi; omega
    have hnew : St x = false := by
      cases e : St x with
      | false => rfl
      | true =>
        exfalso
        obtain ⟨j, hj, hjx⟩ := List.getElem_of_mem (hSt x e)
        rw [List.length_take] at hj
        rw [List.getElem_take] at hjx
        have hi' : i < sy.length := by simp at hi; omega
        have h2 : sy[i] = x := by rw [List.getElem?_eq_getElem hi'] at hx; exact Option.some.inj hx
        have := (List.getElem_inj hnd (h₀ := by omega) (h₁ := hi')).mp (hjx.trans h2.symm)
        omega
    k_steps
    rename News _ _ _ _ => N'
    rename Obj.SetObjOf _ _ _ _ => hs'
    rw [hnew] at hs'
    refine ForEnd.next (by k_asm) N' hcI _ (fun p hp => hp) ⟨.inl hsaI, .inr rfl, .inr rfl, OffIt.of fun p hp => O p (List.mem_cons_of_mem _ (List.mem_cons_of_mem _ (List.mem_cons_of_mem _ hp)))⟩ (.inr ⟨_, List.mem_cons_of_mem _ (List.mem_cons_of_mem _ (List.mem_cons_self ..)), rfl, _, rfl⟩)
      ⟨_, _, by with_unfolding_all rfl, by with_unfolding_all rfl, rfl, hs', fun k hk => ?_⟩
    rw [List.take_add_one]
    rcases Bool.or_eq_true_iff.mp hk with hk | hk
    · exact List.mem_append_left _ (hSt k hk)
    · rw [hx, of_decide_eq_true hk]
      exact List.mem_append_right _ (List.mem_singleton.mpr rfl)
  case fin =>
    rintro h' tk' m' nw F N S ⟨so, St, hm1, hm2, rfl, hso, hSt⟩
    k_steps
    exact hret _ _ (by k_asm) (by refine' cb_drop ?cbN ?cbS; (case cbN => assumption); (case cbS => kcj_all))

theorem told_use {cx sx : Addr} {us vs : List Value} {n n2 : Nat} {ks sy : List Int} {nw : List (Addr × Obj)}
    (B : Below A₀ base outer h₀) (F : Fr h₀ L s.heap m) (X : (hdx.heap_1 w.params).In h₀) (N : News h₀ L s.heap (nw)) (T : Top vw (looseW vw []) mean mg mb h₀) (hk : cs.kind = .function) (m1 : (cx, listOf us.toArray n) ∈ nw) (m2 : (sx, listOf vs.toArray n2) ∈ nw)
    (hks : IntsAre us ks) (hsy : IntsAre vs sy) (hlen : ks.length = 16) (hk0 : ∀ k ∈ ks, 0 ≤ k ∧ k ≤ 8) (hsum : ks.sum = (sy.length : Int)) (hs8 : sy.length ≤ 8) (hnd : sy.Nodup) (hd : dp + 8 < recursionLimit) (hu : un + 30 < cLine)
    (hret : ∀ (h' : Heap) (tk' : Nat), Fr h₀ L h' m → News h₀ L h' nw → Q .none { s with heap := h', toks := tk' }) :
    wpAny (model PySem.Challenge.pw_ok0132_02 w) (ktrTop dp un gd cn cs L a ccd cl outer) (call (.ref 84) [.ref cx, .ref sx]) Q E s :=
  told_spec B F X (fun p hp => by rcases List.mem_cons.mp hp with rfl | hp; exact N _ m1; rcases List.mem_cons.mp hp with rfl | hp; exact N _ m2; exact N _ hp) T hk hks hsy hlen hk0 hsum hs8 hnd hd hu
    fun h' tk' F' N' => hret h' tk' F' fun p hp => N' p (List.mem_cons_of_mem _ (List.mem_cons_of_mem _ hp))
end
section
local macro_rules | `(tactic| walk_at "call type:tuple") => `(tactic| (k_here; (with_reducible show wpAny _ _ (call (Value.type _) [Value.ref _]) _ _ _); k_dflt (refine' Mine.tuple_K ?k1 ?k2 ?k3 ?k4 ?_; (case k1 | k2 => k_asm); (case k3 => k_mem); (case k4 => with_reducible assumption); k_whole); intro D' h' F' N' l1; (try k_lt l1)))
local macro_rules | `(tactic| walk_at "call ref") => `(tactic| (k_here; k_dflt (refine' call_cls ?k1 ?k2 ?k3 ?k4 ?k5 ?k6 ?_; (case k1 | k2 | k3 => k_asm); (case k4 | k5 | k6 => k_is); k_whole; intro x' d' h' F' N' l1 l2; (try k_lt l1); (try k_lt2 l2); (try k_sweep); ktr_enter)))
local macro_rules | `(tactic| walk_at "call ref") => `(tactic| (k_here; (with_reducible show wpAny _ _ (call (Value.ref (84 : Addr)) [Value.ref _, Value.ref _]) _ _ _); k_dflt (refine' told_use ?k1 ?k2 ?k3 ?k4 ?k5 ?k6 ?k7 ?k8 ?k9 ?k10 ?k11 ?k12 ?k13 ?k14 ?k15 ?k16 ?k17 ?_; (case k1 | k2 | k3 | k4 | k5 => k_asm); (case k6 => first | exact rfl | assumption); (case k7 | k8 => k_mem); (case k9 | k10 | k11 | k12 | k13 | k14 | k15 => with_reducible assumption); (case k16 => ktr_room); (case k17 => ktr_units); k_whole); intro h' tk' F' N'))
local macro_rules | `(tactic| k_all) => `(tactic| (refine Mine.off_append ?a ?b; (case a => k_all); (case b => exact Mine.off_extra (by assumption) (by simp))))
local macro_rules | `(tactic| walk_at "call ref") => `(tactic| (k_here; (with_reducible show wpAny _ _ (call (Value.ref (77 : Addr)) [Value.ref _]) _ _ _); k_dflt (refine' rowsT_use ?k1 ?k2 ?k3 ?k4 ?k5 ?k6 ?k7 ?k8 ?k9 ?k10 ?k11 ?_ ?_; (case k1 | k2 | k3 | k4 | k5 => k_asm); (case k6 => first | exact rfl | assumption); (case k7 => k_mem); (case k8 | k9 => with_reducible assumption); (case k10 => ktr_room); (case k11 => ktr_units); k_whole); (first | (intro lx' va' n' extra' h' tk' hok' hex' hxl' hxo' l1 hR' F' N'; (simp only [AllLt, and_true] at l1); (simp only [List.cons_append, List.nil_append] at N')) | intro e' h' G' tk' j' hj' hno' FG' R' U')))
local macro_rules | `(tactic| walk_at "leaving ref") => `(tactic| (k_here; k_dflt (refine' leave_onSN ?k1 ?k2 ?k3 ?k4 ?_; (case k1 | k3 | k2 | k4 => assumption); k_whole); intro h' R' R2' U'; (try dsimp only at R' U' ⊢)))
local macro_rules | `(tactic| walk_at "subscriptTail") => `(tactic| ((with_reducible show wpAny _ _ (subscriptTail _ _ (Value.ref _) (Value.int _ _)) _ _ _); (refine Mine.item_tuple_intsR (by k_asm) (by k_mem) (by assumption) (by omega) (by omega) (by omega) ?_); intro _))
local macro_rules | `(tactic| walk_at "subscriptTail") => `(tactic| ((with_reducible show wpAny _ _ (subscriptTail _ _ (Value.ref _) (Value.int _ _)) _ _ _); (refine item_listR (by is_list) (by omega) (by omega) (by with_reducible assumption) ?_)))
local macro_rules | `(tactic| walk_at "setItem ref int") => `(tactic| (k_here; k_dflt (refine' kda_set (knd := PySem.intKind _ _) ?F ?N ?U ?d (intKind_is _ _ _ _) ?z ?_; (case F | N => k_asm); (case U => k_updF); (case d | z => with_reducible assumption)); intro h' o' F' N' hd'; (try dsimp only at N')))
abbrev huffDict (w : World) (ct st lx cd : Addr) (k1 k2 k3 k4 : Tok) : Obj := dictOf [⟨PyData.keyHash w.params (PySem.Str.ofString "counts"), .str (PySem.Str.ofString "counts") k1, .ref ct⟩, ⟨PyData.keyHash w.params (PySem.Str.ofString "symbols"), .str (PySem.Str.ofString "symbols") k2, .ref st⟩, ⟨PyData.keyHash w.params (PySem.Str.ofString "rows"), .str (PySem.Str.ofString "rows") k3, .ref lx⟩, ⟨PyData.keyHash w.params (PySem.Str.ofString "codes"), .str (PySem.Str.ofString "codes") k4, .ref cd⟩] 4
set_option maxHeartbeats 4000000 in
theorem huff_spec {cx sx : Addr} {us vs : List Value} {n n2 : Nat} {ks sy : List Int}
    (B : Below A₀ base outer h₀) (F : Fr h₀ L s.heap m) (X : (hdx.heap_1 w.params).In h₀) (N : News h₀ L s.heap ((cx, listOf us.toArray n) :: (sx, listOf vs.toArray n2) :: news)) (T : Top vw (looseW vw []) mean mg mb h₀) (hk : cs.kind = .function)
    (hks : IntsAre us ks) (hsy : IntsAre vs sy) (hlen : ks.length = 16) (hk0 : ∀ k ∈ ks, 0 ≤ k ∧ k ≤ 8) (hsum : ks.sum = (sy.length : Int)) (hs8 : sy.length ≤ 8) (hnd : sy.Nodup) (hd : dp + 12 < recursionLimit) (hu : un + 80 < cLine)
    (hret : ∀ (x dx ct st lx cd : Addr) (k1 k2 k3 k4 : Tok) (va : Array Value) (n' : Nat) (o : Obj) (kvs : List (Int × Value)) (extra ex2 : List (Addr × Obj)) (h' : Heap) (tk' : Nat), (∀ j < 16, okAt ks j) → (cd == sysModules) = false → RowsAt extra va.toList ks 16 →
      o.IsDictOf (PySem.intKind PySem.Challenge.pw_ok0132_02 w) kvs → CodesAt ex2 kvs sy ks sy.length → (∀ p ∈ extra ++ ex2, p.2.cls = .type "tuple") → (cx < dx ∧ sx < dx ∧ AllLt dx news) → dx < x → x < ct → ct < st → st < lx → lx < cd → (∀ p ∈ extra ++ ex2, st < p.1) →
      Fr h₀ L h' m → News h₀ L h' ((x, instObj 115 dx) :: (dx, huffDict w ct st lx cd k1 k2 k3 k4) :: (ct, tupO us) :: (st, tupO vs) :: (lx, listOf va n') :: (cd, o) :: (cx, listOf us.toArray n) :: (sx, listOf vs.toArray n2) :: (news ++ (extra ++ ex2))) → Q (.ref x) { s with heap := h', toks := tk' })
    (hraise : ∀ (e : Addr) (h' G : Heap) (tk' : Nat) j, j < 16 → ¬ okAt ks j → Fr h₀ L G m → RaisedSN base G (envX cn cs L a ccd cl :: outer) e (.ref 44) ((cx, listOf us.toArray n) :: (sx, listOf vs.toArray n2) :: news) h' → G.UpToSlots h' → E (.ref e) { s with heap := h', toks := tk' }) :
    wpAny (model PySem.Challenge.pw_ok0132_02 w) (ktrTop dp un gd cn cs L a ccd cl outer) (call (.ref 115) [.ref cx, .ref sx]) Q E s := by
  have hus : us.toArray.size ≤ sizeLine := by rw [sizeLine_eq, List.size_toArray, hks.length, hlen]; decide
  have hvs : vs.toArray.size ≤ sizeLine := by rw [sizeLine_eq, List.size_toArray, hsy.length]; omega
  k_steps
  case' _ =>
    rename_i x' dx h10 F1 N1 l1x l2x g' L' h9 FG' B' X' T' tk2 h8 tk1' ct h7 l13 h6 tk1 st h5 l12 h4 tk0 lx va n' extra h3 tk' hok hex hxl hxo l11 hR h2 cd h1 o0 lo hs fs hi fi l1 hh F' N'
    obtain ⟨k1, k2, k3, k4, N2⟩ : ∃ k1 k2 k3 k4, News g' L' hh ((cd, o0) :: (lx, listOf va n') :: (st, tupO vs) :: (ct, tupO us) :: (x', instObj 115 dx) :: (dx, huffDict w ct st lx cd k1 k2 k3 k4) :: (cx, listOf us.toArray n) :: (sx, listOf vs.toArray n2) :: (news ++ extra)) := ⟨_, _, _, _, N'⟩
    clear N' N1
    have hnn := placeAt_nn hk0
    have hxa : ∀ p ∈ news ++ extra, p.1 < cd := ktn_ltOf (by simpa using l1.2.2.2.2.2.2.2)
    have hvaS : va.size = 16 := by have := hR.1; simpa using this
    k_dflt (refine For_W (by k_asm) ?_)
    k_steps
    rename IsRange _ _ _ _ _ _ _ _ => hr
    rename News g' L' _ _ => N3
    refine SrcF.intro (n := 16) (iterG_range (by exact rfl) hr (by decide) (by decide)) (by k_asm) N3 trivial
      (fun i m₁ nw => ∃ o kvs ex2, m₁ "self" = some (.ref x') ∧ nw = (cd, o) :: (lx, listOf va n') :: (st, tupO vs) :: (ct, tupO us) :: (x', instObj 115 dx) :: (dx, huffDict w ct st lx cd k1 k2 k3 k4) :: (cx, listOf us.toArray n) :: (sx, listOf vs.toArray n2) :: (ex2 ++ (news ++ extra)) ∧ o.IsDictOf (PySem.intKind PySem.Challenge.pw_ok0132_02 w) kvs ∧ (∀ p ∈ ex2, p.2.cls = .type "tuple" ∧ cd < p.1) ∧ CodesAt ex2 kvs sy ks (placeAt ks i))
      ⟨o0, [], [], by with_unfolding_all rfl, rfl, hi, (fun p hp => by cases hp), CodesAt.zero hk0⟩ ?turn ?fin
    case turn =>
      rintro i v I oI m₁ nw h tk hi16 ⟨t, hv⟩ ⟨o, kvs, ex2, hm1, rfl, hod, hx2, hC⟩ hcI O S F N
      rw [show (1 + (i : Int) * 1) = i + 1 by omega] at hv
      subst hv
      replace F := fr_cast F (pin hm1 rfl)
      have hcdI := O _ (List.mem_cons_self ..)
      have hIcd : I ≠ cd := fun e => hcdI e.symm
      obtain ⟨Tr, t1, t2, t3, hva, hTr⟩ := hR.2 i hi16
      have hTcd : Tr ≠ cd := Nat.ne_of_lt (hxa _ (List.mem_append_right _ hTr))
      have hva' : va[((i : Int) + 1 - 1).toNat]? = some (.ref Tr) := by rw [show ((i : Int) + 1 - 1).toNat = i by omega]; simpa using hva
      have htcd : ∀ p ∈ ex2 ++ (news ++ extra), p.1 ≠ cd := off_append (fun p hp => Nat.ne_of_gt (hx2 p hp).2) (fun p hp => Nat.ne_of_lt (hxa p hp))
      have hTtl : (Tr, tup3 (codeAt ks i) (ks.getD i 0) (placeAt ks i) t1 t2 t3) ∈ ex2 ++ (news ++ extra) := List.mem_append_right _ (List.mem_append_right _ hTr)
      generalize htl : ex2 ++ (news ++ extra) = tl at N O htcd hTtl
      have N4 : News g' L' h ((Tr, tup3 (codeAt ks i) (ks.getD i 0) (placeAt ks i) t1 t2 t3) :: (I, oI) :: (cd, o) :: (lx, listOf va n') :: (st, tupO vs) :: (ct, tupO us) :: (x', instObj 115 dx) :: (dx, huffDict w ct st lx cd k1 k2 k3 k4) :: (cx, listOf us.toArray n) :: (sx, listOf vs.toArray n2) :: tl) := fun p hp => by
        rcases List.mem_cons.mp hp with rfl | hp
        · exact N _ (by simp only [List.mem_cons]; (iterate 9 right); exact hTtl)
        · exact N p hp
      clear N
      k_steps
      k_dflt (refine For_W (by k_asm) ?_)
      k_steps
      rename IsRange _ _ _ _ _ _ _ _ => hr2
      rename News g' L' _ _ => N5
      have hki := getD_nn hk0 i
      refine SrcF.intro (n := (ks.getD i 0).toNat) (iterG_range (by exact rfl) hr2 (range_up hki.1 hki.2).1 (range_up hki.1 hki.2).2) (by k_asm) (fun p hp => N5 p (List.mem_cons_of_mem _ hp)) trivial
        (fun k m₁ nw => ∃ o kvs ex2, m₁ "self" = some (.ref x') ∧ m₁ "size" = some (.int ((i : Int) + 1) t) ∧ m₁ "first" = some (.int (codeAt ks i) t1) ∧ m₁ "place" = some (.int (placeAt ks i) t3) ∧ nw = (I, oI) :: (cd, o) :: (lx, listOf va n') :: (st, tupO vs) :: (ct, tupO us) :: (x', instObj 115 dx) :: (dx, huffDict w ct st lx cd k1 k2 k3 k4) :: (cx, listOf us.toArray n) :: (sx, listOf vs.toArray n2) :: (ex2 ++ (news ++ extra)) ∧ o.IsDictOf (PySem.intKind PySem.Challenge.pw_ok0132_02 w) kvs ∧ (∀ p ∈ ex2, p.2.cls = .type "tuple" ∧ cd < p.1) ∧ CodesAt ex2 kvs sy ks (placeAt ks i + k))
        ⟨o, kvs, ex2, by with_unfolding_all rfl, by with_unfolding_all rfl, by with_unfolding_all rfl, by with_unfolding_all rfl, by subst htl; rfl, hod, hx2, hC.cast (by simp)⟩ ?t2 ?f2
      case t2 =>
        rintro k v I2 oI2 m₂ nw h5 tk5 hk8 ⟨tt, hv⟩ ⟨o, kvs, ex2, hm1, hm2, hm3, hm4, rfl, hod, hx2, hC⟩ hcI2 O2 S2 F N
        rw [show (0 + (k : Int) * 1) = k by omega] at hv
        subst hv
        replace F := fr_cast F (pin hm1 (pin hm2 (pin hm3 (pin hm4 rfl))))
        have hcdI2 := O2 (cd, o) (by simp)
        have hIcd2 : I2 ≠ cd := fun e => hcdI2 e.symm
        have hkk : (k : Int) < ks.getD i 0 := by omega
        have hpm := placeAt_mono hk0 (i := i + 1) (j := 16) hi16
        have hps : placeAt ks (i + 1) = placeAt ks i + ks.getD i 0 := rfl
        have hp16 : placeAt ks 16 = sy.length := by rw [placeAt_take, List.take_of_length_le (by omega)]; exact hsum
        have hpn := hnn i
        have hpl : placeAt ks i + k < sy.length := by omega
        have hkl : kvs.length ≤ sizeLine := by rw [sizeLine_eq]; have := hC.1; omega
        have htcd : ∀ p ∈ ex2 ++ (news ++ extra), p.1 ≠ cd := off_append (fun p hp => Nat.ne_of_gt (hx2 p hp).2) (fun p hp => Nat.ne_of_lt (hxa p hp))
        clear N5
        generalize htl2 : ex2 ++ (news ++ extra) = tl2 at N O2 htcd
        k_steps
        rename_i D' _ _ _ l2 _ _ o' _ N6 hd'
        rw [hC.stored hnd hk0 hpl] at hd'
        have hO2 : ∀ p ∈ tl2, p.1 ≠ I2 := fun p hp => O2 p (by simp only [List.mem_cons]; (iterate 9 right); exact hp)
        refine ForEnd.next (by k_asm) (all := (I2, oI2) :: (I, oI) :: (cd, o') :: (lx, listOf va n') :: (st, tupO vs) :: (ct, tupO us) :: (x', instObj 115 dx) :: (dx, huffDict w ct st lx cd k1 k2 k3 k4) :: (cx, listOf us.toArray n) :: (sx, listOf vs.toArray n2) :: (_, tup2 _ _ _ _) :: tl2) (by refine' cb_drop ?cbN ?cbS; (case cbN => exact N6); (case cbS => kcj_all)) hcI2
          ((I, oI) :: (cd, o') :: (lx, listOf va n') :: (st, tupO vs) :: (ct, tupO us) :: (x', instObj 115 dx) :: (dx, huffDict w ct st lx cd k1 k2 k3 k4) :: (cx, listOf us.toArray n) :: (sx, listOf vs.toArray n2) :: (((_, tup2 _ _ _ _) :: ex2) ++ (news ++ extra))) (by subst htl2; exact fun p hp => hp)
          ⟨.inl (O2 (I, oI) (List.mem_cons_self ..)), .inl hcdI2, .inr rfl, .inr rfl, .inr rfl, .inr rfl, .inr rfl, .inr rfl, .inr rfl, .inr rfl, OffIt.of (by subst htl2; exact hO2)⟩ trivial
          ⟨_, _, (_, _) :: ex2, by with_unfolding_all rfl, by with_unfolding_all rfl, by with_unfolding_all rfl, by with_unfolding_all rfl, rfl, hd', ?_, hC.snoc hk0 hkk⟩
        intro p hp
        rcases List.mem_cons.mp hp with rfl | hp
        · exact ⟨rfl, l2.2.2.1⟩
        · exact hx2 p hp
      case f2 =>
        rintro h5 tk5 m₂ nw F N S2 ⟨o, kvs, ex2', hm1, hm2, hm3, hm4, rfl, hod, hx2', hC'⟩
        k_steps
        refine ForEnd.next F N hcI ((cd, _) :: (lx, listOf va n') :: (st, tupO vs) :: (ct, tupO us) :: (x', instObj 115 dx) :: (dx, huffDict w ct st lx cd k1 k2 k3 k4) :: (cx, listOf us.toArray n) :: (sx, listOf vs.toArray n2) :: (ex2' ++ (news ++ extra))) (fun p hp => hp)
          ⟨.inl hcdI, .inr rfl, .inr rfl, .inr rfl, .inr rfl, .inr rfl, .inr rfl, .inr rfl, OffIt.append (OffIt.ofC fun p hp => by rw [(hx2' p hp).1]; rfl) (OffIt.of fun p hp => O p (by simp only [List.mem_cons]; (iterate 8 right); rw [← htl]; exact List.mem_append_right _ hp))⟩ trivial
          ⟨o, kvs, ex2', hm1, rfl, hod, hx2', hC'.cast (by show _ = placeAt ks i + ks.getD i 0; omega)⟩
    case fin =>
      rintro h' tk' m' nw F N S ⟨o, kvs, ex2, hm1, rfl, hod, hx2, hC⟩
      generalize htl : ex2 ++ (news ++ extra) = tl at N
      k_steps
      subst htl
      have hp16 : placeAt ks 16 = sy.length := by rw [placeAt_take, List.take_of_length_le (by omega)]; exact hsum
      refine hret x' dx ct st lx cd k1 k2 k3 k4 va n' o kvs extra ex2 _ _ hok lo hR hod (hC.cast hp16) ?_ l1x l2x l13.1 l12.1 l11.1 l1.1 ?_ (by k_asm) ?_
      · intro p hp
        rcases List.mem_append.mp hp with hp | hp
        · exact hex p hp
        · exact (hx2 p hp).1
      · intro p hp
        rcases List.mem_append.mp hp with hp | hp
        · exact hxo p hp _ (List.mem_cons_self ..)
        · exact Nat.lt_trans (Nat.lt_trans l11.1 l1.1) (hx2 p hp).2
      · rename News h₀ L _ _ => N9
        intro p hp
        refine N9 p ?_
        simp only [List.mem_cons, List.mem_append] at hp ⊢
        rcases hp with h | h | h | h | h | h | h | h | h | h | h <;> simp [h]
  rename RaisedSN _ _ _ _ _ _ _ => R'
  rename Heap.UpToSlots _ _ => U'
  exact hraise _ _ _ _ _ (by assumption) (by assumption) (by k_asm) (raisedSN_sub R' fun p hp => by simp only [List.mem_cons] at hp ⊢; rcases hp with h | h | h <;> simp [h]) U'
end
section
local macro_rules | `(tactic| ktr_enter) => `(tactic| (refine' code_plainS0 ?k1 ?k2 ?k3 ?k4 ?k5 ?kA ?kf ?kk ?k6 ?k7 ?k8 ?k9 ?kB ?_ ?c2 ?c3 ?c4 ?c5; (case kA | kf => exact rfl); (case kk => first | exact rfl | assumption); (case k1 | k2 | k3 | k4 | k5 => k_asm); (case k6 | k7 => k_is); (case k8 => ktr_room); (case k9 => exact BindsTo.of_eq rfl); (case c5 => decide); (case kB => exact locs rfl); (case c2 | c3 | c4 => exact rfl); k_whole; intro g' L' h' FG' F' N' B' X' T' D'; (try dsimp only); (try k_lift B'); (try k_fold)))
theorem huff_use {cx sx : Addr} {us vs : List Value} {n n2 : Nat} {ks sy : List Int} {nw : List (Addr × Obj)}
    (B : Below A₀ base outer h₀) (F : Fr h₀ L s.heap m) (X : (hdx.heap_1 w.params).In h₀) (N : News h₀ L s.heap (nw)) (T : Top vw (looseW vw []) mean mg mb h₀) (hk : cs.kind = .function) (m1 : (cx, listOf us.toArray n) ∈ nw) (m2 : (sx, listOf vs.toArray n2) ∈ nw)
    (hks : IntsAre us ks) (hsy : IntsAre vs sy) (hlen : ks.length = 16) (hk0 : ∀ k ∈ ks, 0 ≤ k ∧ k ≤ 8) (hsum : ks.sum = (sy.length : Int)) (hs8 : sy.length ≤ 8) (hnd : sy.Nodup) (hd : dp + 12 < recursionLimit) (hu : un + 80 < cLine)
    (hret : ∀ (x dx ct st lx cd : Addr) (k1 k2 k3 k4 : Tok) (va : Array Value) (n' : Nat) (o : Obj) (kvs : List (Int × Value)) (extra ex2 : List (Addr × Obj)) (h' : Heap) (tk' : Nat), (∀ j < 16, okAt ks j) → (cd == sysModules) = false → RowsAt extra va.toList ks 16 →
      o.IsDictOf (PySem.intKind PySem.Challenge.pw_ok0132_02 w) kvs → CodesAt ex2 kvs sy ks sy.length → (∀ p ∈ extra ++ ex2, p.2.cls = .type "tuple") → AllLt dx nw → dx < x → x < ct → ct < st → st < lx → lx < cd → (∀ p ∈ extra ++ ex2, st < p.1) →
      Fr h₀ L h' m → News h₀ L h' ((x, instObj 115 dx) :: (dx, huffDict w ct st lx cd k1 k2 k3 k4) :: (ct, tupO us) :: (st, tupO vs) :: (lx, listOf va n') :: (cd, o) :: (nw ++ (extra ++ ex2))) → Q (.ref x) { s with heap := h', toks := tk' })
    (hraise : ∀ (e : Addr) (h' G : Heap) (tk' : Nat) j, j < 16 → ¬ okAt ks j → Fr h₀ L G m → RaisedSN base G (envX cn cs L a ccd cl :: outer) e (.ref 44) nw h' → G.UpToSlots h' → E (.ref e) { s with heap := h', toks := tk' }) :
    wpAny (model PySem.Challenge.pw_ok0132_02 w) (ktrTop dp un gd cn cs L a ccd cl outer) (call (.ref 115) [.ref cx, .ref sx]) Q E s :=
  huff_spec B F X (fun p hp => by rcases List.mem_cons.mp hp with rfl | hp; exact N _ m1; rcases List.mem_cons.mp hp with rfl | hp; exact N _ m2; exact N _ hp) T hk hks hsy hlen hk0 hsum hs8 hnd hd hu
    (fun x dx ct st lx cd k1 k2 k3 k4 va n' o kvs extra ex2 h' tk' a1 a2 a3 a4 a5 a6 a7 a8 a9 b1 b2 b3 b4 F' N' => hret x dx ct st lx cd k1 k2 k3 k4 va n' o kvs extra ex2 h' tk' a1 a2 a3 a4 a5 a6 a7.2.2 a8 a9 b1 b2 b3 b4 F' fun p hp => N' p (by
      simp only [List.mem_cons, List.mem_append] at hp ⊢
      rcases hp with h | h | h | h | h | h | h | h | h <;> simp [h]))
    (fun e h' G tk' j h1 h2 F' R' U' => hraise e h' G tk' j h1 h2 F' (raisedSN_sub R' fun p hp => List.mem_cons_of_mem _ (List.mem_cons_of_mem _ hp)) U')
local macro_rules | `(tactic| walk_at "call ref") => `(tactic| (k_here; (with_reducible show wpAny _ _ (call (Value.ref (77 : Addr)) _) _ _ _); k_dflt (refine' rows_use ?k1 ?k2 ?k3 ?k4 ?k5 ?k6 ?k7 ?k8 ?k9 ?k10 ?k11 ?_ ?_; (case k1 | k2 | k3 | k4 | k5 => k_asm); (case k6 => first | exact rfl | assumption); (case k7 => k_mem); (case k8 | k9 => with_reducible assumption); (case k10 => ktr_room); (case k11 => ktr_units); k_whole); (first | (intro lx' va' n' extra' h' tk' hok' _ _ _ _ _ _ _; exact absurd hok' (by with_reducible assumption)) | intro e' h' G' tk' j' hj' hno' FG' R' U')))
local macro_rules | `(tactic| walk_at "call ref") => `(tactic| (k_here; (with_reducible show wpAny _ _ (call (Value.ref (115 : Addr)) _) _ _ _); k_dflt (refine' huff_use ?k1 ?k2 ?k3 ?k4 ?k5 ?k6 ?k7 ?k8 ?k9 ?k10 ?k11 ?k12 ?k13 ?k14 ?k15 ?k16 ?k17 ?_ ?_; (case k1 | k2 | k3 | k4 | k5 => k_asm); (case k6 => first | exact rfl | assumption); (case k7 | k8 => k_mem); (case k9 | k10 | k11 | k12 | k13 | k14 | k15 => with_reducible assumption); (case k16 => ktr_room); (case k17 => ktr_units); k_whole); (first | (intro _ _ _ _ _ _ _ _ _ _ _ _ _ _ _ _ _ _ hok' _ _ _ _ _ _ _ _ _ _ _ _ _ _; exact absurd hok' (by with_reducible assumption)) | intro e' h' G' tk' j' hj' hno' FG' R' U')))
set_option maxHeartbeats 4000000 in
theorem refused_spec {cx sx : Addr} {us vs : List Value} {n n2 : Nat} {ks sy : List Int}
    (B : Below A₀ base [] h₀) (F : Fr h₀ L s.heap m) (X : (hdx.heap_1 w.params).In h₀) (N : News h₀ L s.heap ((cx, listOf us.toArray n) :: (sx, listOf vs.toArray n2) :: news)) (T : Top vw (looseW vw []) mean mg mb h₀) (hk : cs.kind = .function)
    (XB : (hdx.heap_1 w.params).In base) (TB : Top vw (looseW vw []) mean mg mb base)
    (hks : IntsAre us ks) (hsy : IntsAre vs sy) (hlen : ks.length = 16) (hk0 : ∀ k ∈ ks, 0 ≤ k ∧ k ≤ 8) (hsum : ks.sum = (sy.length : Int)) (hs8 : sy.length ≤ 8) (hnd : sy.Nodup) (hbad : ¬ ∀ j < 16, okAt ks j) (hd : dp + 16 < recursionLimit) (hu : un + 100 < cLine)
    (hret : ∀ (h' : Heap) (tk' : Nat), Fr h₀ L h' m → News h₀ L h' ((cx, listOf us.toArray n) :: (sx, listOf vs.toArray n2) :: news) → Q (.bool true) { s with heap := h', toks := tk' }) :
    wpAny (model PySem.Challenge.pw_ok0132_02 w) (ktrTop dp un gd cn cs L a ccd cl []) (call (.ref 192) [.ref cx, .ref sx]) Q E s := by
  refine wpAny_call ?_
  k_dflt ktr_enter
  k_steps
  rename_i g' L' h1 FG' F' N' B' X' T' D'
  k_dflt (refine For_V (fun g => KtsTurn (List.filterMap (fun x : Env => x.frame) [envX cn cs L a ccd cl]) g' g ∧ Below (ktrTop dp un gd cn cs L a ccd cl []) base [envX cn cs L a ccd cl] g ∧ (hdx.heap_1 w.params).In g ∧ Top vw (looseW vw []) mean mg mb g ∧ KtsDicts (List.filterMap (fun x : Env => x.frame) [envX cn cs L a ccd cl]) g) ?_)
  k_steps
  rename IsRange _ _ _ _ _ _ _ _ => hr
  rename News g' L' _ _ => N3
  refine SrcV.intro (n := 2) (by exact rfl) hr (by decide) (by decide) ⟨KtsTurn.refl, B', X', T', D'⟩ (by k_asm) N3 (fun i m₁ nw => m₁ "counts" = some (.ref cx) ∧ m₁ "symbols" = some (.ref sx) ∧ nw = (cx, listOf us.toArray n) :: (sx, listOf vs.toArray n2) :: news) ⟨by with_unfolding_all rfl, by with_unfolding_all rfl, rfl⟩ ?turn ?fin
  case turn =>
    rintro i v g I oI m₁ nw h tk hi ⟨t, rfl⟩ ⟨KT, KB, KX, KTop, KD⟩ ⟨hm1, hm2, rfl⟩ hcI O F N
    replace F := fr_cast F (pin hm1 (pin hm2 rfl))
    clear B' X' T' D' FG' N3
    k_steps
    all_goals
      dsimp only
      rename KtsTurn _ _ _ => T1
      rename Below _ _ _ _ => K1
      rename Top _ _ _ _ _ _ => P1
      rename KtsDicts _ _ => D1
      rename Frag.In _ _ => X1
      rename Fr _ _ _ _ => F1
      rename News _ _ _ _ => N1
      exact ForEndV.cont ⟨T1, K1, X1, P1, D1⟩ F1 N1 O ⟨by with_unfolding_all rfl, by with_unfolding_all rfl, rfl⟩
  case fin =>
    rintro g h' tk' m' nw ⟨KT, KB, KX, KTop, KD⟩ F N ⟨hm1, hm2, rfl⟩
    clear B' X' T' D' N3
    k_steps
    exact hret _ _ (by k_asm) (by k_asm)
end
section
local macro_rules | `(tactic| walk_at "getMethod ref") => `(tactic| (k_here; (with_reducible show wpAny _ _ (getMethod (Value.ref _) (Str.ofString "get") _) _ _ _); k_dflt (refine kdg_method (knd := PySem.intKind _ _) (by k_asm) (by k_mem) (by with_reducible assumption) ?_)))
local macro_rules | `(tactic| walk_at "call builtin:dict.get") => `(tactic| (k_here; k_dflt (refine kdg_get1 (knd := PySem.intKind _ _) (by k_asm) (by k_mem) (by with_reducible assumption) (by with_reducible assumption) (intKind_is _ _ _ _) (some _) (by with_reducible assumption) ?_); (try dsimp only [Option.getD])))
set_option maxHeartbeats 4000000 in
theorem code_spec {tb td ct st lx cd Tc : Addr} {k1 k2 k3 k4 ty : Tok} {o : Obj} {kvs : List (Int × Value)} {y : Int}
    (B : Below A₀ base outer h₀) (F : Fr h₀ L s.heap m) (X : (hdx.heap_1 w.params).In h₀) (N : News h₀ L s.heap ((td, huffDict w ct st lx cd k1 k2 k3 k4) :: (tb, instObj 115 td) :: (cd, o) :: news)) (T : Top vw (looseW vw []) mean mg mb h₀) (hk : cs.kind = .function)
    (hod : o.IsDictOf (PySem.intKind PySem.Challenge.pw_ok0132_02 w) kvs) (lo : (cd == sysModules) = false) (hv : valueAt kvs y = some (.ref Tc)) (hd : dp + 4 < recursionLimit) (hu : un + 20 < cLine)
    (hret : ∀ (h' : Heap) (tk' : Nat), Fr h₀ L h' m → News h₀ L h' ((td, huffDict w ct st lx cd k1 k2 k3 k4) :: (tb, instObj 115 td) :: (cd, o) :: news) → Q (.ref Tc) { s with heap := h', toks := tk' }) :
    wpAny (model PySem.Challenge.pw_ok0132_02 w) (ktrTop dp un gd cn cs L a ccd cl outer) (call (.ref 105) [.ref tb, .int y ty]) Q E s := by
  refine wpAny_call ?_
  k_dflt ktr_enter
  k_steps
  · exact hret _ _ (by k_asm) (by k_asm)
end
section
theorem pool_nn (c : Int) (b : Bool) : 0 ≤ (if -1 - c > c then -1 - c else c) * (if b = true then 1 else 0) := by split <;> split <;> omega
set_option maxHeartbeats 4000000 in
theorem pool_spec {l : Addr} {vs : List Value} {ns : List Int}
    (B : Below A₀ base outer h₀) (F : Fr h₀ L s.heap m) (X : (hdx.heap_1 w.params).In h₀) (N : News h₀ L s.heap (news)) (T : Top vw (looseW vw []) mean mg mb h₀) (hk : cs.kind = .function)
    (hl : base.IsList l vs.toArray) (hs : IntsAre vs ns) (hlen : ns.length ≤ 63) (hd : dp + 1 < recursionLimit) (hu : un + 8 < cLine)
    (hret : ∀ (x y : Int) (tx ty : Tok) (n : Nat) (d : Addr) (h' : Heap) (tk' : Nat), 0 ≤ x → 0 ≤ y → y < 2147483647 → Fr h₀ L h' m → News h₀ L h' ((d, srcO x y tx ty n) :: news) → (∀ p ∈ news, p.1 < d) → Q (.ref d) { s with heap := h', toks := tk' }) :
    wpAny (model PySem.Challenge.pw_ok0132_02 w) (ktrTop dp un gd cn cs L a ccd cl outer) (call (.ref 168) [.ref l]) Q E s := by
  refine wpAny_call ?_
  k_dflt ktr_enter
  k_steps
  all_goals (refine hret _ _ _ _ _ _ _ _ ?_ ?_ ?_ (by k_asm) (by k_asm) (by k_asm))
  all_goals first
    | exact Int.fmod_nonneg_of_pos _ (by decide)
    | exact Int.fmod_lt_of_pos _ (by decide)
    | exact pool_nn _ _
end
section
theorem fdiv_8 {i : Int} {n : Nat} (h0 : 0 ≤ i) (h1 : ¬ 8 * (n : Int) ≤ i) : 0 ≤ i.fdiv (2 ^ Int.toNat 3) ∧ i.fdiv (2 ^ Int.toNat 3) < (n : Int) := by
  have e : i.fdiv (2 ^ Int.toNat 3) = i / 8 := by rw [Int.fdiv_eq_ediv_of_nonneg _ (by decide)]; rfl
  rw [e]; omega
theorem bInts_len (b : Array UInt8) : (KBw.bInts b).length = b.size := KBw.ints_length b
local macro_rules | `(tactic| walk_at "subscriptTail") => `(tactic| ((with_reducible show wpAny _ _ (subscriptTail _ _ (Value.bytes _ _) (Value.int _ _)) _ _ _); k_dflt (refine' KBw.item_K rfl ?k1 ?k2 ?k3 ?_ ?k4 ?k5; (case k1 => rw [bInts_len]; omega); (case k2 => exact (fdiv_8 (by assumption) (by assumption)).1); (case k3 => rw [bInts_len]; exact (fdiv_8 (by assumption) (by assumption)).2); (case k4 => with_unfolding_all rfl); (case k5 => intro _; with_unfolding_all rfl)); intro t' tk' hb0 hb1))
theorem sh_ok (i : Int) : 0 ≤ 7 - Builtin.bitAnd i 7 := by rw [bitAnd_m3]; omega
local macro_rules | `(tactic| walk_at "binaryOp RShift int int") => `(tactic| (with_reducible refine rshift_int (sh_ok _) ?_))
def bitOf (ks : List Int) (i : Int) : Int := (ks.getD (i / 8).toNat 0 / 2 ^ (7 - i % 8).toNat) % 2
theorem bitOf_eq (ks : List Int) {i : Int} : Builtin.bitAnd ((ks.getD (i.fdiv (2 ^ Int.toNat 3)).toNat 0).fdiv (2 ^ Int.toNat (7 - Builtin.bitAnd i 7))) 1 = bitOf ks i := by
  rw [bitAnd_m1, bitAnd_m3, Int.fdiv_eq_ediv_of_nonneg _ (show (0 : Int) ≤ 2 ^ Int.toNat 3 by decide), Int.fdiv_eq_ediv_of_nonneg _ (Int.le_of_lt (Int.pow_pos (by decide)))]
  rfl
abbrev rdDict (w : World) (b : Array UInt8) (at_ : Int) (k1 k2 tb ta : Tok) : Obj := dictOf [⟨PyData.keyHash w.params (PySem.Str.ofString "source"), .str (PySem.Str.ofString "source") k1, .bytes b tb⟩, ⟨PyData.keyHash w.params (PySem.Str.ofString "at"), .str (PySem.Str.ofString "at") k2,   .int at_ ta⟩] 2
set_option maxHeartbeats 4000000 in
theorem bit_spec {rd dx : Addr} {b : Array UInt8} {i : Int} {k1 k2 tb ta : Tok} {news : List (Addr × Obj)}
    (B : Below A₀ base outer h₀) (F : Fr h₀ L s.heap m) (X : (hdx.heap_1 w.params).In h₀) (N : News h₀ L s.heap ((dx, rdDict w b i k1 k2 tb ta) :: (rd, instObj 157 dx) :: news)) (T : Top vw (looseW vw []) mean mg mb h₀) (hk : cs.kind = .function)
    (hoff : ∀ p ∈ (rd, instObj 157 dx) :: news, p.1 ≠ dx) (hi0 : 0 ≤ i) (hb : b.size ≤ 8) (hi1 : i ≤ 64)
    (hd : dp + 8 < recursionLimit) (hu : un + 30 < cLine)
    (hret : ∀ (tr ta' : Tok) (h' : Heap) (tk' : Nat), i < 8 * b.size → Fr h₀ L h' m → News h₀ L h' ((dx, rdDict w b (i + 1) k1 k2 tb ta') :: (rd, instObj 157 dx) :: news) → Q (.int (bitOf (KBw.bInts b) i) tr) { s with heap := h', toks := tk' })
    (hraise : ∀ (e : Addr) (h' G : Heap) (tk' : Nat), 8 * b.size ≤ i → Fr h₀ L G m → RaisedSN base G (envX cn cs L a ccd cl :: outer) e (.ref 68) ((dx, rdDict w b i k1 k2 tb ta) :: (rd, instObj 157 dx) :: news) h' → G.UpToSlots h' → E (.ref e) { s with heap := h', toks := tk' }) :
    wpAny (model PySem.Challenge.pw_ok0132_02 w) (ktrTop dp un gd cn cs L a ccd cl outer) (call (.ref 147) [.ref rd]) Q E s := by
  refine wpAny_call ?_
  k_dflt ktr_enter
  k_steps
  · exact hraise _ _ _ _ (by with_reducible assumption) (by k_asm) (by k_asm) (by k_asm)
  · rw [bitOf_eq]
    exact hret _ _ _ _ (Int.not_le.mp (by with_reducible assumption)) (by k_asm) (by k_asm)
end
section
theorem bit_use {rd dx : Addr} {b : Array UInt8} {i : Int} {k1 k2 tb ta : Tok} {nw : List (Addr × Obj)} {nw' : Tok → List (Addr × Obj)}
    (B : Below A₀ base outer h₀) (F : Fr h₀ L s.heap m) (X : (hdx.heap_1 w.params).In h₀) (N : News h₀ L s.heap (nw)) (T : Top vw (looseW vw []) mean mg mb h₀) (hk : cs.kind = .function) (m1 : (rd, instObj 157 dx) ∈ nw) (U : ∀ ta', Upd dx (rdDict w b i k1 k2 tb ta) (rdDict w b (i + 1) k1 k2 tb ta') nw (nw' ta'))
    (hi0 : 0 ≤ i) (hb : b.size ≤ 8) (hi1 : i ≤ 64)
    (hd : dp + 8 < recursionLimit) (hu : un + 30 < cLine)
    (hret : ∀ (tr ta' : Tok) (h' : Heap) (tk' : Nat), i < 8 * b.size → Fr h₀ L h' m → News h₀ L h' (nw' ta') → Q (.int (bitOf (KBw.bInts b) i) tr) { s with heap := h', toks := tk' })
    (hraise : ∀ (e : Addr) (h' G : Heap) (tk' : Nat), 8 * b.size ≤ i → Fr h₀ L G m → RaisedSN base G (envX cn cs L a ccd cl :: outer) e (.ref 68) nw h' → G.UpToSlots h' → E (.ref e) { s with heap := h', toks := tk' }) :
    wpAny (model PySem.Challenge.pw_ok0132_02 w) (ktrTop dp un gd cn cs L a ccd cl outer) (call (.ref 147) [.ref rd]) Q E s := by
  have hd0 := (N _ (upd_split (U 0)).1).1
  have hr0 := (N _ m1).1
  have hne : rd ≠ dx := fun e => by
    rw [e] at hr0
    dsimp only at hd0 hr0
    rw [hd0] at hr0
    have := congrArg (fun o => o.cls) (Option.some.inj hr0)
    cases this
  refine bit_spec (dx := dx) (k1 := k1) (k2 := k2) (tb := tb) (ta := ta) (news := offAddr dx nw) B F X (fun p hp => ?_) T hk (fun p hp => ?_) hi0 hb hi1 hd hu ?_ ?_
  · rcases List.mem_cons.mp hp with rfl | hp
    · exact N _ (upd_split (U 0)).1
    · rcases List.mem_cons.mp hp with rfl | hp
      · exact N _ m1
      · exact N _ (List.mem_filter.mp hp).1
  · rcases List.mem_cons.mp hp with rfl | hp
    · exact hne
    · exact offAddr_off p hp
  · intro tr ta' h' tk' hlt F' N'
    refine hret tr ta' h' tk' hlt F' fun p hp => ?_
    rcases (upd_split (U ta')).2 p hp with rfl | ⟨h1, h2⟩
    · exact N' _ (List.mem_cons_self ..)
    · exact N' _ (List.mem_cons_of_mem _ (List.mem_cons_of_mem _ (List.mem_filter.mpr ⟨h1, by simpa using h2⟩)))
  · intro e h' G tk' hle F' R' U'
    refine hraise e h' G tk' hle F' (raisedSN_sub R' fun p hp => ?_) U'
    by_cases e : p.1 = dx
    · have h1 := (N p hp).1
      rw [e, hd0] at h1
      have : p = (dx, rdDict w b i k1 k2 tb ta) := by
        obtain ⟨p1, p2⟩ := p
        dsimp only at e h1
        rw [e, ← Option.some.inj h1]
      rw [this]
      exact List.mem_cons_self ..
    · exact List.mem_cons_of_mem _ (List.mem_cons_of_mem _ (List.mem_filter.mpr ⟨hp, by simpa using e⟩))
end
section
def vAt (b : Array UInt8) (p : Int) : Nat → Int
  | 0 => 0
  | i + 1 => vAt b p i * 2 + bitOf (KBw.bInts b) (p + i)
def missAt (b : Array UInt8) (p : Int) (ks : List Int) (i : Nat) : Prop := ks.getD i 0 ≤ vAt b p (i + 1) - codeAt ks i
theorem bitOf_nn (l : List Int) (i : Int) : 0 ≤ bitOf l i := Int.emod_nonneg _ (by decide)
theorem vAt_ge {b : Array UInt8} {p : Int} {ks : List Int} : ∀ {i : Nat}, (∀ j < i, missAt b p ks j) → codeAt ks i ≤ vAt b p i * 2 + bitOf (KBw.bInts b) (p + i)
  | 0, _ => by
    have := bitOf_nn (KBw.bInts b) (p + (0 : Nat))
    show (0 : Int) ≤ 0 * 2 + _
    omega
  | i + 1, h => by
    have h1 := h i (Nat.lt_succ_self i)
    have h2 := bitOf_nn (KBw.bInts b) (p + (i + 1 : Nat))
    unfold missAt at h1
    show (codeAt ks i + ks.getD i 0) * 2 ≤ _
    omega
local macro_rules | `(tactic| walk_at "call ref") => `(tactic| (k_here; (with_reducible show wpAny _ _ (call (Value.ref (147 : Addr)) _) _ _ _); k_dflt (refine' bit_use ?k1 ?k2 ?k3 ?k4 ?k5 ?k6 ?k7 ?k8 ?k9 ?k10 ?k11 ?k12 ?k13 ?_ ?_; (case k1 | k2 | k3 | k4 | k5 => k_asm); (case k6 => first | exact rfl | assumption); (case k7 => k_mem); (case k8 => intro ta'; k_upd); (case k9 => omega); (case k10 => with_reducible assumption); (case k11 => omega); (case k12 => ktr_room); (case k13 => ktr_units); k_whole); (first | (intro tr' ta' h' tk' hlt' F' N') | intro e' h' G' tk' hle' FG' R' U')))
local macro_rules | `(tactic| walk_at "leaving ref") => `(tactic| (k_here; k_dflt (refine' leave_onSN ?k1 ?k2 ?k3 ?k4 ?_; (case k1 | k3 | k2 | k4 => assumption); k_whole); intro h' R' R2' U'; (try dsimp only at R' U' ⊢)))
local macro_rules | `(tactic| walk_at "subscriptTail") => `(tactic| ((with_reducible show wpAny _ _ (subscriptTail _ _ (Value.ref _) (Value.int _ _)) _ _ _); (refine Mine.item_tuple_intsR (by k_asm) (by k_mem) (by assumption) (by omega) (by omega) (by omega) ?_); intro _))
set_option maxHeartbeats 4000000 in
theorem read_spec {tb td ct st lx cd rd dx : Addr} {k1 k2 k3 k4 r1 r2 r3 r4 : Tok} {vs : List Value} {ks sy : List Int} {b : Array UInt8} {p : Int} {va : Array Value} {n' : Nat}
    (B : Below A₀ base outer h₀) (F : Fr h₀ L s.heap m) (X : (hdx.heap_1 w.params).In h₀) (N : News h₀ L s.heap ((td, huffDict w ct st lx cd k1 k2 k3 k4) :: (tb, instObj 115 td) :: (st, tupO vs) :: (lx, listOf va n') :: (dx, rdDict w b p r1 r2 r3 r4) :: (rd, instObj 157 dx) :: news)) (T : Top vw (looseW vw []) mean mg mb h₀) (hk : cs.kind = .function)
    (hsy : IntsAre vs sy) (hlen : ks.length = 16) (hk0 : ∀ k ∈ ks, 0 ≤ k ∧ k ≤ 8) (hsum : ks.sum = (sy.length : Int)) (hs8 : sy.length ≤ 8) (hp0 : 0 ≤ p) (hp1 : p ≤ 32) (hb : b.size ≤ 8)
    (hR : RowsAt news va.toList ks 16) (hoff : ∀ q ∈ (td, huffDict w ct st lx cd k1 k2 k3 k4) :: (tb, instObj 115 td) :: (st, tupO vs) :: (lx, listOf va n') :: (rd, instObj 157 dx) :: news, q.1 ≠ dx)
    (hd : dp + 14 < recursionLimit) (hu : un + 60 < cLine)
    (hret : ∀ (i : Nat) (tr ta' : Tok) (h' : Heap) (tk' : Nat), i < 16 → p + i < 8 * b.size → (∀ j < i, missAt b p ks j) → ¬ missAt b p ks i → Fr h₀ L h' m →
      News h₀ L h' ((td, huffDict w ct st lx cd k1 k2 k3 k4) :: (tb, instObj 115 td) :: (st, tupO vs) :: (lx, listOf va n') :: (dx, rdDict w b (p + i + 1) r1 r2 r3 ta') :: (rd, instObj 157 dx) :: news) → Q (.int (sy.getD (placeAt ks i + vAt b p (i + 1) - codeAt ks i).toNat 0) tr) { s with heap := h', toks := tk' })
    (hcut : ∀ (i : Nat) (e : Addr) (h' G : Heap) (tk' : Nat) (ta' : Tok), i < 16 → 8 * b.size ≤ p + i → (∀ j < i, missAt b p ks j) → (∀ j < i, p + j < 8 * b.size) → Fr h₀ L G m →
      RaisedSN base G (envX cn cs L a ccd cl :: outer) e (.ref 68) ((td, huffDict w ct st lx cd k1 k2 k3 k4) :: (tb, instObj 115 td) :: (st, tupO vs) :: (lx, listOf va n') :: (dx, rdDict w b (p + i) r1 r2 r3 ta') :: (rd, instObj 157 dx) :: news) h' → G.UpToSlots h' → E (.ref e) { s with heap := h', toks := tk' })
    (hcode : ∀ (e : Addr) (h' G : Heap) (tk' : Nat) (ta' : Tok), (∀ j < 16, missAt b p ks j) → (∀ j : Nat, j < 16 → p + j < 8 * b.size) → Fr h₀ L G m →
      RaisedSN base G (envX cn cs L a ccd cl :: outer) e (.ref 56) ((td, huffDict w ct st lx cd k1 k2 k3 k4) :: (tb, instObj 115 td) :: (st, tupO vs) :: (lx, listOf va n') :: (dx, rdDict w b (p + 16) r1 r2 r3 ta') :: (rd, instObj 157 dx) :: news) h' → G.UpToSlots h' → E (.ref e) { s with heap := h', toks := tk' }) :
    wpAny (model PySem.Challenge.pw_ok0132_02 w) (ktrTop dp un gd cn cs L a ccd cl outer) (call (.ref 112) [.ref tb, .ref rd]) Q E s := by
  have hvaS : va.size = 16 := by have := hR.1; simpa using this
  refine wpAny_call ?_
  k_dflt ktr_enter
  k_steps
  k_dflt (refine For_W (by k_asm) ?_)
  k_steps
  rename News _ _ _ _ => N3
  refine SrcF.intro (n := va.size) (S := LCg.SrcAt _ lx va) (iterG_list (by exact rfl) (by k_asm) N3 (.inr ⟨_, by k_mem, rfl, _, rfl⟩)) (by k_asm) N3 (.inr ⟨_, by k_mem, rfl, _, rfl⟩)
    (fun i m₁ nw => ∃ tc ta' q, q = p + (i : Int) ∧ m₁ "self" = some (.ref tb) ∧ m₁ "reader" = some (.ref rd) ∧ m₁ "code" = some (.int (vAt b p i) tc) ∧ nw = (td, huffDict w ct st lx cd k1 k2 k3 k4) :: (tb, instObj 115 td) :: (st, tupO vs) :: (lx, listOf va n') :: (dx, rdDict w b q r1 r2 r3 ta') :: (rd, instObj 157 dx) :: news ∧ (∀ j < i, missAt b p ks j) ∧ ∀ j < i, p + j < 8 * b.size)
    ⟨_, _, p, by omega, by with_unfolding_all rfl, by with_unfolding_all rfl, by with_unfolding_all rfl, rfl, (fun j hj => absurd hj (Nat.not_lt_zero _)), fun j hj => absurd hj (Nat.not_lt_zero _)⟩ ?turn ?fin
  case turn =>
    rintro i v I oI m₁ nw h tk hi hv ⟨tc, ta', q, hq, hm1, hm2, hm3, rfl, hmiss, hroom⟩ hcI O S F N
    replace F := fr_cast F (pin hm1 (pin hm2 (pin hm3 rfl)))
    rw [hvaS] at hi
    obtain ⟨Tr, t1, t2, t3, hva, hTr⟩ := hR.2 i hi
    have hv' : v = .ref Tr := by
      have : va[i]? = some (.ref Tr) := by simpa using hva
      rw [this] at hv
      exact (Option.some.inj hv).symm
    subst hv'
    have hTd : Tr ≠ dx := hoff _ (by simp only [List.mem_cons]; (iterate 5 right); exact hTr)
    have hdI : I ≠ dx := fun e => O _ (by simp only [List.mem_cons]; (iterate 4 right); left; rfl) e.symm
    have hd : td ≠ dx := hoff _ (List.mem_cons_self ..)
    have hd : tb ≠ dx := hoff _ (by simp only [List.mem_cons]; right; left; rfl)
    have hd3 : st ≠ dx := hoff _ (by simp only [List.mem_cons]; right; right; left; rfl)
    have hd4 : lx ≠ dx := hoff _ (by simp only [List.mem_cons]; right; right; right; left; rfl)
    have hd5 : rd ≠ dx := hoff _ (by simp only [List.mem_cons]; right; right; right; right; left; rfl)
    have hd6 : ∀ q ∈ news, q.1 ≠ dx := fun q hq => hoff q (by simp only [List.mem_cons]; (iterate 5 right); exact hq)
    have hge := vAt_ge hmiss
    have hki := getD_nn hk0 i
    have hpm := placeAt_mono hk0 (i := i + 1) (j := 16) hi
    have hps : placeAt ks (i + 1) = placeAt ks i + ks.getD i 0 := rfl
    have hp16 : placeAt ks 16 = sy.length := by rw [placeAt_take, List.take_of_length_le (by omega)]; exact hsum
    have hpn := placeAt_nn hk0 i
    rw [← hq] at hge
    have N4 := N
    replace N4 := (show News _ _ h ((Tr, tup3 (codeAt ks i) (ks.getD i 0) (placeAt ks i) t1 t2 t3) :: (I, oI) :: (td, huffDict w ct st lx cd k1 k2 k3 k4) :: (tb, instObj 115 td) :: (st, tupO vs) :: (lx, listOf va n') :: (dx, rdDict w b q r1 r2 r3 ta') :: (rd, instObj 157 dx) :: news) from fun p hp => by
      rcases List.mem_cons.mp hp with rfl | hp
      · exact N _ (by simp only [List.mem_cons]; (iterate 7 right); exact hTr)
      · exact N p hp)
    clear N N3
    k_steps
    · dsimp only
      refine ForEnd.ret ?_
      dsimp only
      k_steps
      rename (_ - codeAt ks i < ks.getD i 0) => hm
      subst hq
      rename News h₀ L _ _ => N9
      exact hret i _ _ _ _ hi (by assumption) hmiss (Int.not_le.mpr hm) (by k_asm) (fun x hx => N9 x (List.mem_cons_of_mem _ (List.mem_cons_of_mem _ hx)))
    · rename ¬ (_ - codeAt ks i < ks.getD i 0) => hm
      rename News _ _ _ _ => N6
      refine ForEnd.next (by k_asm) N6 hcI ((td, huffDict w ct st lx cd k1 k2 k3 k4) :: (tb, instObj 115 td) :: (st, tupO vs) :: (lx, listOf va n') :: (dx, _) :: (rd, instObj 157 dx) :: news) (fun x hx => List.mem_cons_of_mem _ hx)
        ⟨.inr rfl, .inr rfl, .inr rfl, .inr rfl, .inr rfl, .inr rfl, OffIt.of fun x hx => O x (by simp only [List.mem_cons]; (iterate 6 right); exact hx)⟩ (.inr ⟨_, by simp only [List.mem_cons]; right; right; right; left; rfl, rfl, _, rfl⟩)
        ⟨_, _, _, ?_, by with_unfolding_all rfl, by with_unfolding_all rfl, some_int (by with_unfolding_all rfl) (by subst hq; rfl), rfl, fun j hj => ?_, fun j hj => ?_⟩
      · omega
      · by_cases e : j < i
        · exact hmiss j e
        · obtain rfl : j = i := by omega
          subst hq
          exact Int.not_lt.mp hm
      · by_cases e : j < i
        · exact hroom j e
        · obtain rfl : j = i := by omega
          omega
    · rename RaisedSN _ _ _ _ _ _ _ => R'
      rename Heap.UpToSlots _ _ => U'
      subst hq
      exact hcut i _ _ _ _ _ hi (by assumption) hmiss hroom (by k_asm) (raisedSN_sub R' fun x hx => List.mem_cons_of_mem _ (List.mem_cons_of_mem _ hx)) U'
  case fin =>
    rintro h' tk' m' nw F N S ⟨tc, ta', q, hq, hm1, hm2, hm3, rfl, hmiss, hroom⟩
    rw [hvaS] at hmiss hroom hq
    subst hq
    k_steps
    rename RaisedSN _ _ _ _ _ _ _ => R'
    rename Heap.UpToSlots _ _ => U'
    exact hcode _ _ _ _ _ hmiss hroom (by k_asm) R' U'
end
section
local macro_rules | `(tactic| walk_at "call ref") => `(tactic| (k_here; (with_reducible show wpAny _ _ (call (Value.ref (112 : Addr)) _) _ _ _); k_dflt (refine' read_spec ?k1 ?k2 ?k3 ?k4 ?k5 ?k6 ?k7 ?k8 ?k9 ?k10 ?k11 ?k12 ?k13 ?k14 ?k15 ?k16 ?k17 ?k18 ?_ ?_ ?_; (case k1 | k2 | k3 | k4 | k5 => k_asm); (case k6 => first | exact rfl | assumption); (case k7 | k8 | k9 | k10 | k11 | k12 | k13 | k14 | k15 | k16 => with_reducible assumption); (case k17 => ktr_room); (case k18 => ktr_units); k_whole); (first | (intro i tr ta' h' tk' hi' hroom' hmiss' hhit' F' N') | (intro i e' h' G' tk' ta' hi' hend' hmiss' hroom' FG' R' U') | (intro e' h' G' tk' ta' hmiss' hroom' FG' R' U'))))
set_option maxHeartbeats 4000000 in
theorem heard_spec {tb td ct st lx cd rd dx : Addr} {k1 k2 k3 k4 r1 r2 r3 r4 : Tok} {vs : List Value} {ks sy : List Int} {b : Array UInt8} {p : Int} {va : Array Value} {n' : Nat}
    (B : Below A₀ base outer h₀) (F : Fr h₀ L s.heap m) (X : (hdx.heap_1 w.params).In h₀) (N : News h₀ L s.heap ((td, huffDict w ct st lx cd k1 k2 k3 k4) :: (tb, instObj 115 td) :: (st, tupO vs) :: (lx, listOf va n') :: (dx, rdDict w b p r1 r2 r3 r4) :: (rd, instObj 157 dx) :: news)) (T : Top vw (looseW vw []) mean mg mb h₀) (hk : cs.kind = .function)
    (XB : (hdx.heap_1 w.params).In base) (TB : Top vw (looseW vw []) mean mg mb base) (D : KtsDicts (outer.filterMap (·.frame)) h₀)
    (hsy : IntsAre vs sy) (hlen : ks.length = 16) (hk0 : ∀ k ∈ ks, 0 ≤ k ∧ k ≤ 8) (hsum : ks.sum = (sy.length : Int)) (hs8 : sy.length ≤ 8) (hp0 : 0 ≤ p) (hp1 : p ≤ 32) (hb : b.size ≤ 8)
    (hR : RowsAt news va.toList ks 16) (hoff : ∀ q ∈ (td, huffDict w ct st lx cd k1 k2 k3 k4) :: (tb, instObj 115 td) :: (st, tupO vs) :: (lx, listOf va n') :: (rd, instObj 157 dx) :: news, q.1 ≠ dx)
    (hd : dp + 18 < recursionLimit) (hu : un + 80 < cLine)
    (hret : ∀ (i : Nat) (tr ta' : Tok) (h' : Heap) (tk' : Nat), i < 16 → p + i < 8 * b.size → (∀ j < i, missAt b p ks j) → ¬ missAt b p ks i → Fr h₀ L h' m →
      News h₀ L h' ((td, huffDict w ct st lx cd k1 k2 k3 k4) :: (tb, instObj 115 td) :: (st, tupO vs) :: (lx, listOf va n') :: (dx, rdDict w b (p + i + 1) r1 r2 r3 ta') :: (rd, instObj 157 dx) :: news) → Q (.int (sy.getD (placeAt ks i + vAt b p (i + 1) - codeAt ks i).toNat 0) tr) { s with heap := h', toks := tk' })
    (hcut : ∀ (i : Nat) (t : Tok) (h' h₀' : Heap) (tk' : Nat) (ta' : Tok), i < 16 → 8 * b.size ≤ p + i → (∀ j < i, missAt b p ks j) → (∀ j < i, p + j < 8 * b.size) → KtsTurn (outer.filterMap (·.frame)) h₀ h₀' → Fr h₀' L h' m →
      News h₀' L h' ((td, huffDict w ct st lx cd k1 k2 k3 k4) :: (tb, instObj 115 td) :: (st, tupO vs) :: (lx, listOf va n') :: (dx, rdDict w b (p + i) r1 r2 r3 ta') :: (rd, instObj 157 dx) :: news) → Below A₀ base outer h₀' → (hdx.heap_1 w.params).In h₀' → Top vw (looseW vw []) mean mg mb h₀' → KtsDicts (outer.filterMap (·.frame)) h₀' → Q (.str "cut" t) { s with heap := h', toks := tk' })
    (hcode : ∀ (t : Tok) (h' h₀' : Heap) (tk' : Nat) (ta' : Tok), (∀ j < 16, missAt b p ks j) → (∀ j : Nat, j < 16 → p + j < 8 * b.size) → KtsTurn (outer.filterMap (·.frame)) h₀ h₀' → Fr h₀' L h' m →
      News h₀' L h' ((td, huffDict w ct st lx cd k1 k2 k3 k4) :: (tb, instObj 115 td) :: (st, tupO vs) :: (lx, listOf va n') :: (dx, rdDict w b (p + 16) r1 r2 r3 ta') :: (rd, instObj 157 dx) :: news) → Below A₀ base outer h₀' → (hdx.heap_1 w.params).In h₀' → Top vw (looseW vw []) mean mg mb h₀' → KtsDicts (outer.filterMap (·.frame)) h₀' → Q (.str "code" t) { s with heap := h', toks := tk' }) :
    wpAny (model PySem.Challenge.pw_ok0132_02 w) (ktrTop dp un gd cn cs L a ccd cl outer) (call (.ref 204) [.ref tb, .ref rd]) Q E s := by
  refine wpAny_call ?_
  k_dflt (refine' code_plainS ?k1 ?k2 ?k3 ?k4 ?k5 ?XB ?TB ?D ?T0 ?kA ?kf ?kk ?k6 ?k7 ?k8 ?k9 ?kB ?_ ?c2 ?c3 ?c4 ?c5; (case kA | kf => exact rfl); (case kk => first | exact rfl | assumption); (case k1 | k2 | k3 | k4 | k5 => k_asm); (case XB | TB | D => assumption); (case T0 => exact KtsTurn.refl); (case k6 | k7 => k_is); (case k8 => ktr_room); (case k9 => exact BindsTo.of_eq rfl); (case c5 => decide); (case kB => exact locs rfl); (case c2 | c3 | c4 => exact rfl); k_whole; intro g' L' h' FG' F' N' B' X' T' D'; (try dsimp only); (try k_lift B'); (try k_fold))
  k_steps
  · exact hret _ _ _ _ _ (by assumption) (by assumption) (by assumption) (by assumption) (by k_asm) (by k_asm)
  · exact hcut _ _ _ _ _ _ (by assumption) (by assumption) (by assumption) (by assumption) (by assumption) (by k_asm) (by k_asm) (by assumption) (by assumption) (by assumption) (by assumption)
  · exact hcode _ _ _ _ _ (by assumption) (by assumption) (by assumption) (by k_asm) (by k_asm) (by assumption) (by assumption) (by assumption) (by assumption)
end
section
theorem rows_off {dx : Addr} {nw : List (Addr × Obj)} {vals : List Value} {ks : List Int} {n : Nat} {o : Obj} {h : Heap} (N : News h₀ L h nw) (hd : (dx, o) ∈ nw) (hc : o.cls = .type "dict") (R : RowsAt nw vals ks n) : RowsAt (offAddr dx nw) vals ks n :=
  ⟨R.1, fun i hi => by
    obtain ⟨T, t, u, v, h1, h2⟩ := R.2 i hi
    refine ⟨T, t, u, v, h1, List.mem_filter.mpr ⟨h2, ?_⟩⟩
    simp only [decide_eq_true_eq]
    intro e
    have a := (N _ hd).1
    have b := (N _ h2).1
    dsimp only at a b e
    rw [e, a] at b
    have := congrArg Obj.cls (Option.some.inj b)
    rw [hc] at this
    exact absurd (show Value.type "dict" = Value.type "tuple" from this) (by decide)⟩
theorem ne_cls {h : Heap} {a d : Addr} {o o' : Obj} {nw : List (Addr × Obj)} (N : News h₀ L h nw) (h1 : (a, o) ∈ nw) (h2 : (d, o') ∈ nw) (hc : o.cls ≠ o'.cls) : a ≠ d := fun e => by
  have x := (N _ h1).1
  have y := (N _ h2).1
  dsimp only at x y
  rw [e, y] at x
  exact hc (congrArg Obj.cls (Option.some.inj x)).symm
theorem heard_use {tb td ct st lx cd rd dx : Addr} {k1 k2 k3 k4 r1 r2 r3 r4 : Tok} {vs : List Value} {ks sy : List Int} {b : Array UInt8} {p : Int} {va : Array Value} {n' : Nat} {nw : List (Addr × Obj)} {nw' : Int → Tok → List (Addr × Obj)}
    (B : Below A₀ base outer h₀) (F : Fr h₀ L s.heap m) (X : (hdx.heap_1 w.params).In h₀) (N : News h₀ L s.heap (nw)) (T : Top vw (looseW vw []) mean mg mb h₀) (hk : cs.kind = .function) (XB : (hdx.heap_1 w.params).In base) (TB : Top vw (looseW vw []) mean mg mb base) (D : KtsDicts (outer.filterMap (·.frame)) h₀)
    (m1 : (td, huffDict w ct st lx cd k1 k2 k3 k4) ∈ nw) (m2 : (tb, instObj 115 td) ∈ nw) (m3 : (st, tupO vs) ∈ nw) (m4 : (lx, listOf va n') ∈ nw) (m5 : (rd, instObj 157 dx) ∈ nw) (htd : td ≠ dx)
    (U : ∀ p' ta', Upd dx (rdDict w b p r1 r2 r3 r4) (rdDict w b p' r1 r2 r3 ta') nw (nw' p' ta'))
    (hsy : IntsAre vs sy) (hlen : ks.length = 16) (hk0 : ∀ k ∈ ks, 0 ≤ k ∧ k ≤ 8) (hsum : ks.sum = (sy.length : Int)) (hs8 : sy.length ≤ 8) (hp0 : 0 ≤ p) (hp1 : p ≤ 32) (hb : b.size ≤ 8)
    (hR : RowsAt nw va.toList ks 16)
    (hd : dp + 18 < recursionLimit) (hu : un + 80 < cLine)
    (hret : ∀ (i : Nat) (tr ta' : Tok) (h' : Heap) (tk' : Nat), i < 16 → p + i < 8 * b.size → (∀ j < i, missAt b p ks j) → ¬ missAt b p ks i → Fr h₀ L h' m →
      News h₀ L h' (nw' (p + i + 1) ta') → Q (.int (sy.getD (placeAt ks i + vAt b p (i + 1) - codeAt ks i).toNat 0) tr) { s with heap := h', toks := tk' })
    (hcut : ∀ (i : Nat) (t : Tok) (h' h₀' : Heap) (tk' : Nat) (ta' : Tok), i < 16 → 8 * b.size ≤ p + i → (∀ j < i, missAt b p ks j) → (∀ j < i, p + j < 8 * b.size) → KtsTurn (outer.filterMap (·.frame)) h₀ h₀' → Fr h₀' L h' m →
      News h₀' L h' (nw' (p + i) ta') → Below A₀ base outer h₀' → (hdx.heap_1 w.params).In h₀' → Top vw (looseW vw []) mean mg mb h₀' → KtsDicts (outer.filterMap (·.frame)) h₀' → Q (.str "cut" t) { s with heap := h', toks := tk' })
    (hcode : ∀ (t : Tok) (h' h₀' : Heap) (tk' : Nat) (ta' : Tok), (∀ j < 16, missAt b p ks j) → (∀ j : Nat, j < 16 → p + j < 8 * b.size) → KtsTurn (outer.filterMap (·.frame)) h₀ h₀' → Fr h₀' L h' m →
      News h₀' L h' (nw' (p + 16) ta') → Below A₀ base outer h₀' → (hdx.heap_1 w.params).In h₀' → Top vw (looseW vw []) mean mg mb h₀' → KtsDicts (outer.filterMap (·.frame)) h₀' → Q (.str "code" t) { s with heap := h', toks := tk' }) :
    wpAny (model PySem.Challenge.pw_ok0132_02 w) (ktrTop dp un gd cn cs L a ccd cl outer) (call (.ref 204) [.ref tb, .ref rd]) Q E s := by
  have md := (upd_split (U 0 0)).1
  have e2 := ne_cls N m2 md (by intro h; cases h)
  have e3 := ne_cls N m3 md (show Value.type "tuple" ≠ Value.type "dict" by decide)
  have e4 := ne_cls N m4 md (show Value.type "list" ≠ Value.type "dict" by decide)
  have e5 := ne_cls N m5 md (by intro h; cases h)
  have back : ∀ {g hh : Heap} {p' : Int} {ta' : Tok}, News g L hh ((td, huffDict w ct st lx cd k1 k2 k3 k4) :: (tb, instObj 115 td) :: (st, tupO vs) :: (lx, listOf va n') :: (dx, rdDict w b p' r1 r2 r3 ta') :: (rd, instObj 157 dx) :: offAddr dx nw) → News g L hh (nw' p' ta') := fun N' q hq => by
    rcases (upd_split (U _ _)).2 q hq with rfl | ⟨h1, h2⟩
    · exact N' _ (by simp)
    · exact N' _ (by simp only [List.mem_cons]; (iterate 6 right); exact List.mem_filter.mpr ⟨h1, by simpa using h2⟩)
  refine heard_spec (dx := dx) (news := offAddr dx nw) (r4 := r4) (r3 := r3) (r2 := r2) (r1 := r1) B F X (fun q hq => ?_) T hk XB TB D hsy hlen hk0 hsum hs8 hp0 hp1 hb (rows_off N md rfl hR) (fun q hq => ?_) hd hu
    (fun i tr ta' h' tk' a1 a2 a3 a4 F' N' => hret i tr ta' h' tk' a1 a2 a3 a4 F' (back N'))
    (fun i t h' h₀' tk' ta' a1 a2 a3 a4 a5 F' N' b1 b2 b3 b4 => hcut i t h' h₀' tk' ta' a1 a2 a3 a4 a5 F' (back N') b1 b2 b3 b4)
    (fun t h' h₀' tk' ta' a1 a2 a3 F' N' b1 b2 b3 b4 => hcode t h' h₀' tk' ta' a1 a2 a3 F' (back N') b1 b2 b3 b4)
  · simp only [List.mem_cons] at hq
    rcases hq with rfl | rfl | rfl | rfl | rfl | rfl | hq
    · exact N _ m1
    · exact N _ m2
    · exact N _ m3
    · exact N _ m4
    · exact N _ md
    · exact N _ m5
    · exact N _ (List.mem_filter.mp hq).1
  · simp only [List.mem_cons] at hq
    rcases hq with rfl | rfl | rfl | rfl | rfl | hq
    · exact htd
    · exact e2
    · exact e3
    · exact e4
    · exact e5
    · exact offAddr_off q hq
end
section
def bitsK (x : Int) (y i : Nat) : List Nat := (List.range i).map fun j => ((x / 2 ^ (y - 1 - j)) % 2).toNat
theorem bitsK_succ (x : Int) (y i : Nat) : bitsK x y (i + 1) = bitsK x y i ++ [((x / 2 ^ (y - 1 - i)) % 2).toNat] := by
  simp [bitsK, List.range_succ]
theorem bits_elt (x y : Int) (i : Nat) (hi : i < y.toNat) : (x.fdiv (2 ^ (y - 1 + (i : Int) * -1).toNat)).fmod 2 = (x / 2 ^ (y.toNat - 1 - i)) % 2 := by
  rw [Int.fdiv_eq_ediv_of_nonneg _ (Int.le_of_lt (Int.pow_pos (by decide))), Int.fmod_eq_emod_of_nonneg _ (by decide), show (y - 1 + (i : Int) * -1).toNat = y.toNat - 1 - i by omega]
def ones (bs : List Nat) : List PySem.Str := bs.map fun d => bitT [d]
theorem join_ones (bs : List Nat) : Txt.join (PySem.Str.ofString "") (ones bs) = bitT bs := by
  have := join_bitTs (bs.map fun d => [d])
  rw [List.map_map] at this
  have h2 : ∀ l : List Nat, (l.map fun d => [d]).flatten = l := fun l => by
    induction l with
    | nil => rfl
    | cons a r ih => simp only [List.map_cons, List.flatten_cons, List.singleton_append, ih]
  rw [h2 bs] at this
  exact this
theorem ones_weight (bs : List Nat) : ((ones bs).map (·.length)).sum + (ones bs).length = 2 * bs.length := by
  induction bs with
  | nil => rfl
  | cons a r ih => simp only [ones, List.map_cons, List.sum_cons, List.length_cons] at ih ⊢; rw [show (bitT [a]).length = 1 from rfl]; omega
theorem range_down {y : Int} (h3 : 1 ≤ y) (h4 : y ≤ 16) : Builtin.Range.small (y - 1) (-1) (-1) = true ∧ Builtin.Range.rangeSize (y - 1) (-1) (-1) = ((y.toNat : Nat) : Int) := by
  obtain ⟨n, rfl⟩ : ∃ n : Nat, y = (n : Int) := ⟨y.toNat, by omega⟩
  have h : ∀ n : Fin 17, 1 ≤ n.val → Builtin.Range.small (((n.val : Nat) : Int) - 1) (-1) (-1) = true ∧ Builtin.Range.rangeSize (((n.val : Nat) : Int) - 1) (-1) (-1) = ((((n.val : Nat) : Int).toNat : Nat) : Int) := by decide
  exact h ⟨n, by omega⟩ (by show 1 ≤ n; omega)
theorem strs_cast {vs : List Value} {a b : List PySem.Str} (h : PyProof.Rows.StrsAre vs a) (e : a = b) : PyProof.Rows.StrsAre vs b := e ▸ h
theorem elt_text (x y : Int) (i : Nat) (hi : i < y.toNat) : ones (bitsK x y.toNat i) ++ [PySem.Str.ofString (toString ((x.fdiv (2 ^ (y - 1 + (i : Int) * -1).toNat)).fmod 2))] = ones (bitsK x y.toNat (i + 1)) := by
  rw [bits_elt x y i hi, digit_text (by omega), bitsK_succ, ones, ones, List.map_append]
  rfl
set_option maxHeartbeats 4000000 in
theorem bits_spec {x y : Int} {tx ty : Tok}
    (B : Below A₀ base outer h₀) (F : Fr h₀ L s.heap m) (X : (hdx.heap_1 w.params).In h₀) (N : News h₀ L s.heap (news)) (T : Top vw (looseW vw []) mean mg mb h₀) (hk : cs.kind = .function)
    (h1 : 0 ≤ x) (h2 : x < 70000) (h3 : 1 ≤ y) (h4 : y ≤ 16) (hd : dp + 1 < recursionLimit) (hu : un + 8 < cLine)
    (hret : ∀ t h' tk', Fr h₀ L h' m → News h₀ L h' news → Q (.str (bitT (bitsL x y.toNat)) t) { s with heap := h', toks := tk' }) :
    wpAny (model PySem.Challenge.pw_ok0132_02 w) (ktrTop dp un gd cn cs L a ccd cl outer) (call (.ref 180) [.int x tx, .int y ty]) Q E s := by
  refine wpAny_call ?_
  k_dflt ktr_enter
  k_steps
  k_dflt (refine ListComp_W (F₀ := by k_asm) (by with_unfolding_all rfl) (by decide) (by rfl) (by decide) (by rfl) ?_)
  k_steps
  refine SrcW.pure (n := y.toNat) (iterAs_range rfl (by assumption) (range_down h3 h4).1 (range_down h3 h4).2) (by k_asm) (by k_asm) (by rw [sizeLine_eq]; omega) trivial (fun i ys => PyProof.Rows.StrsAre ys (ones (bitsK x y.toNat i))) .nil ?turn ?fin
  case turn =>
    rintro hh i ys v I oI C oC D m₂ h tk E' hi ⟨t, rfl⟩ hJ hC hx F N O D3
    k_steps
    refine LCg.CompEnd.intro F N _ (fun p hp => hp) O trivial ⟨rfl, ?_⟩
    exact strs_cast (kct_snoc hJ) (elt_text x y i hi)
  intro hh ys hys D h tk F N O
  k_steps
  refine join_listW (News.isList N (List.mem_cons_self ..)) hys (by decide) (by rw [ones_weight]; show 2 * (bitsK x y.toNat y.toNat).length ≤ _; simp only [bitsK, List.length_map, List.length_range]; omega) fun t' k => ?_
  rw [join_ones]
  k_steps
  exact hret _ _ _ (by k_asm) (by refine' cb_drop ?cbN ?cbS; (case cbN => assumption); (case cbS => kcj_all))
end
section
theorem range_two {y : Int} (h3 : 1 ≤ y) (h4 : y ≤ 7) : Builtin.Range.small 0 (2 ^ y.toNat) 1 = true ∧ Builtin.Range.rangeSize 0 (2 ^ y.toNat) 1 = ((2 ^ y.toNat : Nat) : Int) := by
  obtain ⟨n, rfl⟩ : ∃ n : Nat, y = (n : Int) := ⟨y.toNat, by omega⟩
  have h : ∀ n : Fin 8, 1 ≤ n.val → Builtin.Range.small 0 (2 ^ ((n.val : Nat) : Int).toNat) 1 = true ∧ Builtin.Range.rangeSize 0 (2 ^ ((n.val : Nat) : Int).toNat) 1 = ((2 ^ ((n.val : Nat) : Int).toNat : Nat) : Int) := by decide
  exact h ⟨n, by omega⟩ (by show 1 ≤ n; omega)
local macro_rules | `(tactic| walk_at "call ref") => `(tactic| (k_here; (with_reducible show wpAny _ _ (call (Value.ref (180 : Addr)) [Value.int _ _, Value.int _ _]) _ _ _); k_dflt (refine' bits_spec ?k1 ?k2 ?k3 ?k4 ?k5 ?k6 ?k7 ?k8 ?k9 ?k10 ?k11 ?k12 ?_; (case k1 | k2 | k3 | k4 | k5 => k_asm); (case k6 => first | exact rfl | assumption); (case k7 | k8 | k9 | k10 => omega); (case k11 => ktr_room); (case k12 => ktr_units); k_whole); intro t' h' tk' F' N'))
local macro_rules | `(tactic| walk_at "call builtin:len") => `(tactic| ((with_reducible show wpAny _ _ (call (Value.builtin "len") [Value.str _ _]) _ _ _); (refine len_str (by omega) ?_)))
local macro_rules | `(tactic| walk_at "compareOp Eq ref ref") => `(tactic| (k_here; (with_reducible show wpAny _ _ (compareOp CmpOp.Eq (Value.ref _) (Value.ref _)) _ _ _); k_dflt (refine' Mine.eq_nilK ?k1 ?k2 ?k3 ?k4 ?_; (case k1 => k_asm); (case k2 | k3 => k_mem); (case k4 => ktr_units))))
local macro_rules | `(tactic| walk_at "subscriptTail") => `(tactic| (k_here; (with_reducible show wpAny _ _ (subscriptTail _ (PySem.Expr.Slice none (some _) none _) (Value.str _ _) (Value.ref _)) _ _ _); (with_reducible rename Fr _ _ _ _ => F'); (with_reducible rename News _ _ _ _ => N'); (refine slice_strN_ns (hsz := ?hsz) (s := ⟨_, _, _, _, _⟩) F' N' ?_); (case hsz => with_reducible assumption); intro _ _ _ _ _))
def preT (o x : PySem.Str) : Bool := Txt.slice o none (some (x.length : Int)) == x
theorem filt_step {α : Type} {ts : List α} {p : α → Bool} {j : Nat} {x : α} (h : ts[j]? = some x) : (ts.take (j + 1)).filter p = (ts.take j).filter p ++ (if p x = true then [x] else []) := by
  rw [List.take_add_one, h, List.filter_append]
  congr 1
  simp only [Option.toList_some, List.filter_cons, List.filter_nil]
def isFree (ts : List PySem.Str) (o : PySem.Str) : Bool := (ts.filter (preT o)).isEmpty
def freeTs (y : Nat) : List PySem.Str := (List.range (2 ^ y)).map fun (x : Nat) => bitT (bitsL x y)
theorem strs_at : ∀ {vs : List Value} {xs : List PySem.Str}, PyProof.Rows.StrsAre vs xs → ∀ {i : Nat} {v : Value}, vs[i]? = some v → ∃ x t, v = .str x t ∧ xs[i]? = some x
  | _, _, .nil, i, v, h => by simp at h
  | _, _, .cons x t r, 0, v, h => by
    simp only [List.getElem?_cons_zero, Option.some.injEq] at h ⊢
    exact ⟨x, t, h.symm, rfl⟩
  | _, _, .cons x t r, i + 1, v, h => by
    simp only [List.getElem?_cons_succ] at h ⊢
    exact strs_at r h
set_option maxHeartbeats 4000000 in
theorem free_spec {cx : Addr} {us : List Value} {n : Nat} {y : Int} {ty : Tok} {ts : List PySem.Str}
    (B : Below A₀ base outer h₀) (F : Fr h₀ L s.heap m) (X : (hdx.heap_1 w.params).In h₀) (N : News h₀ L s.heap ((cx, listOf us.toArray n) :: news)) (T : Top vw (looseW vw []) mean mg mb h₀) (hk : cs.kind = .function)
    (hus : PyProof.Rows.StrsAre us ts) (h1 : 1 ≤ y) (h2 : y ≤ 7) (hl : us.length ≤ 8) (hts : ∀ t ∈ ts, t.length ≤ 7) (hd : dp + 8 < recursionLimit) (hu : un + 40 < cLine)
    (r : PySem.Str) (hr : (freeTs y.toNat).find? (isFree ts) = some r)
    (hret : ∀ (t : Tok) (h' : Heap) (tk' : Nat), Fr h₀ L h' m → News h₀ L h' ((cx, listOf us.toArray n) :: news) → Q (.str r t) { s with heap := h', toks := tk' }) :
    wpAny (model PySem.Challenge.pw_ok0132_02 w) (ktrTop dp un gd cn cs L a ccd cl outer) (call (.ref 185) [.int y ty, .ref cx]) Q E s := by
  have hp2 : (2 : Nat) ^ y.toNat ≤ 128 := Nat.le_trans (Nat.pow_le_pow_right (by decide) (show y.toNat ≤ 7 by omega)) (by decide)
  refine wpAny_call ?_
  k_dflt ktr_enter
  k_steps
  k_dflt (refine Assign_ListComp_WF (F₀ := by k_asm) rfl (by with_unfolding_all rfl) (by with_unfolding_all rfl) (by decide) (by rfl) (by decide) (by rfl) (by rfl) (by rfl) ?_)
  k_steps
  rename IsRange _ _ _ _ _ _ _ _ => hrg
  rename News _ _ _ _ => N3
  refine SrcW.pure (n := 2 ^ y.toNat) (iterAs_range rfl hrg (range_two h1 h2).1 (range_two h1 h2).2) (by k_asm) N3 (by rw [sizeLine_eq]; omega) trivial (fun i ys => PyProof.Rows.StrsAre ys ((freeTs y.toNat).take i)) .nil ?turn ?fin
  case turn =>
    rintro hh i ys v I oI C oC D m₂ h tk E' hi ⟨t, rfl⟩ hJ hC hx F N O D3
    k_steps
    rename Fr _ _ _ _ => F6
    rename News _ _ _ _ => N6
    refine LCg.CompEnd.intro F6 N6 _ (fun p hp => hp) O trivial ⟨rfl, ?_⟩
    have hi' : i < (freeTs y.toNat).length := by rw [freeTs, List.length_map, List.length_range]; exact hi
    rw [List.take_add_one, List.getElem?_eq_getElem hi', Option.toList_some]
    have : (freeTs y.toNat)[i] = bitT (bitsL (0 + (i : Int) * 1) y.toNat) := by simp [freeTs]
    rw [this]
    exact kct_snoc hJ
  intro hh ys hys D h tk F N O
  rw [List.take_of_length_le (by rw [freeTs, List.length_map, List.length_range]; exact Nat.le_refl _)] at hys
  k_steps
  first
    | k_dflt (refine LCt.ListComp_T (F₀ := by k_asm) (by with_unfolding_all rfl) (by decide) (by rfl) (by decide) (by rfl) ?_)
    | k_dflt (refine ListComp_ZF (F₀ := by k_asm) (by with_unfolding_all rfl) (fun _ _ => ⟨rfl, rfl⟩) (by rfl) (by decide) (by rfl) ?_)
  k_steps
  refine SrcZ.pure1 (n := ys.toArray.size) (S := LCg.SrcAt _ D ys.toArray) (iterAs_list (by exact rfl) F N (.inr ⟨_, List.mem_cons_self .., rfl, _, rfl⟩)) F N (by rw [sizeLine_eq, List.size_toArray, hys.length, freeTs, List.length_map, List.length_range]; omega) (.inr ⟨_, List.mem_cons_self .., rfl, _, rfl⟩) srcAt_drop
    (fun i zs => PyProof.Rows.StrsAre zs (((freeTs y.toNat).take i).filter (isFree ts))) .nil ?turn2 ?fin2
  case turn2 =>
    rintro hh2 i zs v I oI C oC Z oZ D2 h2 tk2 E' hi hv hz hoZ F2 N2 O2 hZn D3
    k_steps
    k_dflt (refine LCt.ListComp_T (F₀ := by k_asm) (by with_unfolding_all rfl) (by decide) (by rfl) (by decide) (by rfl) ?_)
    k_steps
    obtain ⟨o, to, rfl, ho⟩ := strs_at hys (by simpa using hv)
    have hos : o.length ≤ sizeLine := by
      have := List.mem_of_getElem? ho
      obtain ⟨x, _, rfl⟩ := List.mem_map.mp this
      rw [sizeLine_eq]
      show (bitT _).cps.size ≤ _
      simp only [bitT, List.size_toArray, List.length_map, bitsL_length]
      omega
    refine SrcT.pureL (by exact rfl) F2 N2 (by k_mem) (by rw [sizeLine_eq, List.size_toArray]; omega) (fun j ws => PyProof.Rows.StrsAre ws ((ts.take j).filter (preT o))) .nil ?turn3 ?fin3
    case turn3 =>
      rintro g3 j ws v3 I3 oI3 C3 oC3 D3 m3 h3 tk3 E3 hj hv3 hw hC3 hx3 F3 N3 O3 D33
      obtain ⟨x, tx, rfl, hx⟩ := strs_at hus (by simpa using hv3)
      have hx7 : x.length ≤ 7 := hts x (List.mem_of_getElem? hx)
      k_steps
      all_goals
        rename (_ == x) = _ => he
        rename Fr _ _ _ _ => F6
        rename News _ _ _ _ => N6
        refine LCg.CompEnd.intro F6 N6 _ (fun p hp => hp) O3 (.inr ⟨_, by k_mem, rfl, _, rfl⟩) ⟨rfl, ?_⟩
        rw [filt_step hx, show preT o x = _ from he]
        first
          | exact kct_snoc hw
          | (simp only [Bool.false_eq_true, if_false, List.append_nil]; exact hw)
    rintro g3 ws hw D4 h4 tk4 F4 N4 O4
    rw [List.take_of_length_le (by rw [List.size_toArray, hus.length]; exact Nat.le_refl _)] at hw
    have hwe : isFree ts o = decide (ws.toArray.size = 0) := by
      unfold isFree
      rw [List.size_toArray, hw.length]
      cases ts.filter (preT o) <;> simp
    k_steps
    all_goals
      rename Fr _ _ _ _ => F6
      rename News _ _ _ _ => N6
      refine LCg.CompEnd.intro F6 (all := (I, oI) :: (C, oC) :: (D2, LCg.lst zs) :: (Z, oZ) :: _) (by refine' cb_drop ?cbN ?cbS; (case cbN => exact N6); (case cbS => kcj_all)) _ (fun p hp => hp) O2 (.inr ⟨_, by k_mem, rfl, _, rfl⟩) ⟨rfl, ?_⟩
      rw [filt_step ho, hwe]
    · rename _ = 0 => he
      rw [he]
      exact kct_snoc hz
    · rename ¬ (_ = 0) => he
      rw [decide_eq_false he]
      simp only [Bool.false_eq_true, if_false, List.append_nil]
      exact hz
  rintro hh2 zs hz D2 h2 tk2 F2 N2 O2
  rw [List.take_of_length_le (by rw [List.size_toArray, hys.length]; exact Nat.le_refl _)] at hz
  obtain ⟨tr, hr0⟩ : ∃ t, zs.toArray[(0 : Int).toNat]? = some (.str r t) := by
    have h3 : ((freeTs y.toNat).filter (isFree ts))[0]? = some r := by
      rw [← List.head?_eq_getElem?, List.head?_filter]; exact hr
    obtain ⟨t, h4⟩ := hz.at h3
    exact ⟨t, by simpa using h4⟩
  k_steps
  refine item_listR (News.isList N2 (List.mem_cons_self ..)) (by omega) (by omega) hr0 ?_
  k_steps
  exact hret _ _ _ (by k_asm) (by refine' cb_drop ?cbN ?cbS; (case cbN => assumption); (case cbS => kcj_all))
local macro_rules | `(tactic| walk_at "call builtin:len") => `(tactic| (k_here; (with_reducible show wpAny _ _ (call (Value.builtin "len") [Value.ref _]) _ _ _); k_dflt (refine' Mine.len_listN ?k1 ?k2 ?k3 ?k4 ?_; (case k1 => k_asm); (case k2 => k_mem); (case k3 => with_reducible assumption); (case k4 => omega); k_whole)))
local macro_rules | `(tactic| walk_at "subscriptTail") => `(tactic| ((with_reducible show wpAny _ _ (subscriptTail _ _ (Value.ref _) (Value.int _ _)) _ _ _); (refine item_listR (by is_list) (by omega) (by omega) (by with_reducible assumption) ?_)))
local macro_rules | `(tactic| walk_at "subscriptTail") => `(tactic| (k_here; (with_reducible show wpAny _ _ (subscriptTail _ (PySem.Expr.Slice (some _) (some _) none _) (Value.ref _) (Value.ref _)) _ _ _); k_dflt (refine' slice_K ?F ?N ?m ?a ?b ?c ?z ?_ ?s ?t; (case F | N => k_asm); (case m => k_mem); (case a | b | c | z => omega); (case s => with_unfolding_all rfl); (case t => kmk_pure)); intro D' h' F' N' l1; (try k_lt l1)))
local macro_rules | `(tactic| walk_at "compareOp NotEq ref ref") => `(tactic| (k_here; (with_reducible show wpAny _ _ (compareOp CmpOp.NotEq (Value.ref _) (Value.ref _)) _ _ _); k_dflt (refine' Mine.ne_strsK ?k1 ?k2 ?k3 ?k4 ?k5 ?k6 ?k7 ?k8 ?_; (case k1 => k_asm); (case k2 | k4 => k_mem); (case k3 | k5 => with_reducible assumption); (case k6 => ktr_units); (case k7 | k8 => with_reducible assumption))))
theorem strOk_bitT {bs : List Nat} (h : ∀ b ∈ bs, b < 2) : PyData.strOk (bitT bs) = true := by
  show (Array.all _ _) = true
  rw [Array.all_eq_true']
  intro x hx
  simp only [bitT, List.mem_toArray, List.mem_map] at hx
  obtain ⟨b, hb, rfl⟩ := hx
  have := h b hb
  simp; omega
theorem bitsL_lt {x : Int} {y : Nat} : ∀ b ∈ bitsL x y, b < 2 := fun b hb => by
  obtain ⟨j, _, rfl⟩ := List.mem_map.mp hb
  omega
theorem ints_snoc {k : Int} {t : Tok} : ∀ {vs : List Value} {ks : List Int}, IntsAre vs ks → IntsAre (vs ++ [.int k t]) (ks ++ [k])
  | _, _, .nil => .cons k t .nil
  | _, _, .cons x u r => .cons x u (ints_snoc r)
set_option maxHeartbeats 4000000 in
theorem right_spec {tx zx hx : Addr} {va : Array Value} {ws vs : List Value} {n n2 n3 : Nat} {ks ss : List Int} {ts : List PySem.Str}
    (B : Below A₀ base outer h₀) (F : Fr h₀ L s.heap m) (X : (hdx.heap_1 w.params).In h₀) (N : News h₀ L s.heap ((tx, listOf va n) :: (zx, listOf ws.toArray n2) :: (hx, listOf vs.toArray n3) :: news)) (T : Top vw (looseW vw []) mean mg mb h₀) (hk : cs.kind = .function)
    (hR : RowsAt news va.toList ks 16) (hws : IntsAre ws ss) (hvs : PyProof.Rows.StrsAre vs ts) (hlen : ks.length = 16) (hk0 : ∀ k ∈ ks, 0 ≤ k ∧ k ≤ 8) (hss : ss.length ≤ 8) (hts : ts.length ≤ 8)
    (hA : ∀ i < 16, ks.getD i 0 = (((ss.filter fun x => decide (x = (i : Int) + 1)).length : Nat) : Int)) (hB : ∀ i < 16, placeAt ks i = (((ss.filter fun x => decide (x < (i : Int) + 1)).length : Nat) : Int))
    (hC : ∀ i < 16, (List.range (ks.getD i 0).toNat).map (fun k => bitT (bitsL (codeAt ks i + (k : Nat)) (i + 1))) = (ts.drop (placeAt ks i).toNat).take (ks.getD i 0).toNat) (hpl : ∀ i < 16, placeAt ks i + ks.getD i 0 ≤ ts.length) (hok : ∀ t ∈ ts, PyData.strOk t = true) (hbnd : ∀ i < 16, 0 < ks.getD i 0 → codeAt ks i + ks.getD i 0 ≤ 2 ^ 16)
    (hd : dp + 12 < recursionLimit) (hu : un + 120 < cLine)
    (hret : ∀ (h' : Heap) (tk' : Nat), Fr h₀ L h' m → News h₀ L h' ((tx, listOf va n) :: (zx, listOf ws.toArray n2) :: (hx, listOf vs.toArray n3) :: news) → Q (.bool true) { s with heap := h', toks := tk' }) :
    wpAny (model PySem.Challenge.pw_ok0132_02 w) (ktrTop dp un gd cn cs L a ccd cl outer) (call (.ref 197) [.ref tx, .ref zx, .ref hx]) Q E s := by
  have hvaS : va.size = 16 := by have := hR.1; simpa using this
  refine wpAny_call ?_
  k_dflt ktr_enter
  k_steps
  k_dflt (refine For_W (by k_asm) ?_)
  k_steps
  rename IsRange _ _ _ _ _ _ _ _ => hrg
  rename_i g' L' _ _ _ _ _ _ _ l1 oF oS dF dS _ _ _ _ _ _ F3 N3 _
  refine SrcF.intro (n := 16) (iterG_range (by exact rfl) hrg (by decide) (by decide)) F3 N3 trivial
    (fun i m₁ nw => ∃ oF oS cF cS, m₁ "told" = some (.ref tx) ∧ m₁ "sizes" = some (.ref zx) ∧ m₁ "chosen" = some (.ref hx) ∧ nw = (L' + 1 + 1, oF) :: (L' + 1, oS) :: (tx, listOf va n) :: (zx, listOf ws.toArray n2) :: (hx, listOf vs.toArray n3) :: news ∧ oF.data = .cell cF ∧ oS.data = .cell cS)
    ⟨oF, oS, _, _, by with_unfolding_all rfl, by with_unfolding_all rfl, by with_unfolding_all rfl, rfl, dF, dS⟩ ?turn ?fin
  case turn =>
    rintro i v I oI m₁ nw h tk hi ⟨t, hv⟩ ⟨oF, oS, cF, cS, hm1, hm2, hm3, rfl, dF, dS⟩ hcI O S F N
    rw [show (1 + (i : Int) * 1) = i + 1 by omega] at hv
    subst hv
    replace F := fr_cast F (pin hm1 (pin hm2 (pin hm3 rfl)))
    obtain ⟨Tr, t1, t2, t3, hva, hTr⟩ := hR.2 i hi
    have hI1 : @Ne Nat I (L' + 1) := fun e => O (L' + 1, oS) (by simp) e.symm
    have hI2 : @Ne Nat I (L' + 1 + 1) := fun e => O (L' + 1 + 1, oF) (by simp) e.symm
    have hnL := ktn_ltOf l1.2.2.2
    have hn1 : ∀ p ∈ news, p.1 ≠ L' + 1 := fun p hp => Nat.ne_of_lt (Nat.lt_succ_of_lt (hnL p hp))
    have hn2 : ∀ p ∈ news, p.1 ≠ L' + 1 + 1 := fun p hp => Nat.ne_of_lt (Nat.lt_succ_of_lt (Nat.lt_succ_of_lt (hnL p hp)))
    have hTL : @LT.lt Nat _ Tr L' := hnL _ hTr
    have hva' : va[((i : Int) + 1 - 1).toNat]? = some (.ref Tr) := by rw [show ((i : Int) + 1 - 1).toNat = i by omega]; simpa using hva
    have N4 : News g' L' h ((Tr, tup3 (codeAt ks i) (ks.getD i 0) (placeAt ks i) t1 t2 t3) :: (I, oI) :: (L' + 1 + 1, oF) :: (L' + 1, oS) :: (tx, listOf va n) :: (zx, listOf ws.toArray n2) :: (hx, listOf vs.toArray n3) :: news) := fun p hp => by
      rcases List.mem_cons.mp hp with rfl | hp
      · exact N _ (by simp only [List.mem_cons]; (iterate 6 right); exact hTr)
      · exact N p hp
    clear N3 N
    k_steps
    rename_i _ oS' dS' _ _ oF' dF' _ _ _ N5
    k_dflt (refine LCt.ListComp_T (F₀ := by k_asm) (by with_unfolding_all rfl) (by decide) (by rfl) (by decide) (by rfl) ?_)
    k_steps
    refine SrcT.pureL (by exact rfl) (by k_asm) N5 (by k_mem) (by rw [sizeLine_eq, List.size_toArray, hws.length]; omega) (fun j ys => IntsAre ys ((ss.take j).filter fun x => decide (x = (i : Int) + 1))) .nil ?turn3 ?fin3
    case turn3 =>
      rintro g3 j ys v3 I3 oI3 C3 oC3 D3 m3 h3 tk3 E3 hj hv3 hw hC3 hx3 F3 N3 O3 D33
      obtain ⟨x, tx', rfl, hx'⟩ := hws.at j v3 (by simpa using hv3)
      k_steps
      · refine LCg.CompEnd.intro F3 N3 _ (fun p hp => hp) O3 (.inr ⟨_, by k_mem, rfl, _, rfl⟩) ⟨rfl, ?_⟩
        rename x = _ => he
        rw [filt_step hx', decide_eq_true he]
        exact ints_snoc hw
      · refine LCg.CompEnd.intro F3 N3 _ (fun p hp => hp) O3 (.inr ⟨_, by k_mem, rfl, _, rfl⟩) ⟨rfl, ?_⟩
        rename x ≠ _ => he
        rw [filt_step hx', decide_eq_false he]
        simp only [Bool.false_eq_true, if_false, List.append_nil]
        exact hw
    rintro g3 ys hw D4 h4 tk4 F4 N4 O4
    rw [List.take_of_length_le (by rw [List.size_toArray, hws.length]; exact Nat.le_refl _)] at hw
    have hwl := hw.length
    have hf1 : (ss.filter fun x => decide (x = (i : Int) + 1)).length ≤ 8 := Nat.le_trans (List.length_filter_le ..) hss
    have hAi := hA i hi
    have hBi := hB i hi
    clear N5
    k_steps
    · exfalso; omega
    k_dflt (refine LCt.ListComp_T (F₀ := by k_asm) (by with_unfolding_all rfl) (by decide) (by rfl) (by decide) (by rfl) ?_)
    k_steps
    clear hwl hw
    refine SrcT.pureL (by exact rfl) (by k_asm) N4 (by k_mem) (by rw [sizeLine_eq, List.size_toArray, hws.length]; omega) (fun j ys => IntsAre ys ((ss.take j).filter fun x => decide (x < (i : Int) + 1))) .nil ?turn4 ?fin4
    case turn4 =>
      rintro g3 j ys v3 I3 oI3 C3 oC3 D3 m3 h3 tk3 E3 hj hv3 hw hC3 hx3 F3 N3 O3 D33
      obtain ⟨x, tx', rfl, hx'⟩ := hws.at j v3 (by simpa using hv3)
      k_steps
      · refine LCg.CompEnd.intro F3 N3 _ (fun p hp => hp) O3 (.inr ⟨_, by k_mem, rfl, _, rfl⟩) ⟨rfl, ?_⟩
        rename x < _ => he
        rw [filt_step hx', decide_eq_true he]
        exact ints_snoc hw
      · refine LCg.CompEnd.intro F3 N3 _ (fun p hp => hp) O3 (.inr ⟨_, by k_mem, rfl, _, rfl⟩) ⟨rfl, ?_⟩
        rename ¬ x < _ => he
        rw [filt_step hx', decide_eq_false he]
        simp only [Bool.false_eq_true, if_false, List.append_nil]
        exact hw
    rintro g5 ys5 hw D5 h5 tk5 F5 N5 O5
    rw [List.take_of_length_le (by rw [List.size_toArray, hws.length]; exact Nat.le_refl _)] at hw
    have hwl := hw.length
    have hf2 : (ss.filter fun x => decide (x < (i : Int) + 1)).length ≤ 8 := Nat.le_trans (List.length_filter_le ..) hss
    clear N4
    k_steps
    · exfalso; omega
    k_dflt (refine ListComp_W (F₀ := by k_asm) (by with_unfolding_all rfl) (by decide) (by rfl) (by decide) (by rfl) ?_)
    k_steps
    clear hwl hw
    have hki := getD_nn hk0 i
    have hcn := codeAt_nn (ks := ks) (fun k hk => (hk0 k hk).1) i
    have hbi := hbnd i hi
    rename IsRange _ _ _ _ _ _ _ _ => hr5
    rename News _ _ _ _ => N6
    refine SrcW.pure (n := (ks.getD i 0).toNat) (iterAs_range rfl hr5 (range_up hki.1 hki.2).1 (range_up hki.1 hki.2).2) (by k_asm) N6 (by rw [sizeLine_eq]; omega) trivial (fun j ys => PyProof.Rows.StrsAre ys ((List.range j).map fun k => bitT (bitsL (codeAt ks i + (k : Nat)) (i + 1)))) .nil ?turn5 ?fin5
    case turn5 =>
      rintro hh j ys v I3 oI3 C3 oC3 D3 m3 h3 tk3 E3 hj ⟨t5, hv5⟩ hJ hC3 hx3 F3 N3 O3 D33
      rw [show (0 + (j : Int) * 1) = j by omega] at hv5
      subst hv5
      k_steps
      rename Fr _ _ _ _ => F7
      rename News _ _ _ _ => N7
      refine LCg.CompEnd.intro F7 N7 _ (fun p hp => hp) O3 trivial ⟨rfl, ?_⟩
      rw [List.range_succ, List.map_append, show ((i : Int) + 1).toNat = i + 1 by omega]
      exact kct_snoc hJ
    intro hh ys6 hys6 D6 h6 tk6 F6 N6 O6
    have hvl := hvs.length
    have hpi := hpl i hi
    have hpn := placeAt_nn hk0 i
    have hsl := (hvs.drop' (placeAt ks i).toNat).take' (ks.getD i 0).toNat
    have ho1 : ∀ x ∈ (List.range (ks.getD i 0).toNat).map (fun k => bitT (bitsL (codeAt ks i + (k : Nat)) (i + 1))), PyData.strOk x = true := fun x hx => by
      obtain ⟨k, _, rfl⟩ := List.mem_map.mp hx
      exact strOk_bitT bitsL_lt
    have ho2 : ∀ x ∈ (ts.drop (placeAt ks i).toNat).take (ks.getD i 0).toNat, PyData.strOk x = true := fun x hx => hok x (List.mem_of_mem_drop (List.mem_of_mem_take hx))
    have hCi := decide_eq_true (hC i hi)
    k_steps
    rename News _ _ _ _ => N9
    refine ForEnd.next (by k_asm) N9 hcI ((L' + 1 + 1, oF') :: (L' + 1, oS') :: (tx, listOf va n) :: (zx, listOf ws.toArray n2) :: (hx, listOf vs.toArray n3) :: news) (fun p hp => List.mem_cons_of_mem _ (List.mem_cons_of_mem _ (List.mem_cons_of_mem _ (List.mem_cons_of_mem _ (List.mem_cons_of_mem _ hp)))))
      ⟨.inl (Ne.symm hI2), .inl (Ne.symm hI1), .inr rfl, .inr rfl, .inr rfl, OffIt.of fun p hp => O p (by simp only [List.mem_cons]; (iterate 5 right); exact hp)⟩ trivial
      ⟨oF', oS', _, _, by with_unfolding_all rfl, by with_unfolding_all rfl, by with_unfolding_all rfl, rfl, dF', dS'⟩
  case fin =>
    rintro h' tk' m' nw F N S ⟨oF, oS, cF, cS, hm1, hm2, hm3, rfl, dF, dS⟩
    k_steps
    exact hret _ _ (by k_asm) (by refine' cb_drop ?cbN ?cbS; (case cbN => assumption); (case cbS => kcj_all))
local macro_rules | `(tactic| ktr_enter) => `(tactic| (refine' code_cellS0 ?k1 ?k2 ?k3 ?k4 ?k5 ?kA ?kf ?kk ?k6 ?k7 ?k8 ?k9 ?kB ?kD ?_ ?c2 ?c3 ?c4; (case kA | kf => exact rfl); (case kk => first | exact rfl | assumption); (case k1 | k2 | k3 | k4 | k5 => k_asm); (case k6 | k7 => k_is); (case k8 => ktr_room); (case k9 => exact BindsTo.of_eq rfl); (case kB => exact rfl); (case kD => decide +kernel); (case c2 | c3 | c4 => exact rfl); k_whole; intro g' L' h' tk' cells' FG' F' N' Y' B' X' T' D' l1; (try k_lt l1); k_cells Y'; (try simp only [List.cons_append, List.nil_append] at N'); (try dsimp only); (try k_lift B'); (try k_fold)))
local macro_rules | `(tactic| walk_at "call ref") => `(tactic| (k_here; k_dflt (refine' call_cls ?k1 ?k2 ?k3 ?k4 ?k5 ?k6 ?_; (case k1 | k2 | k3 => k_asm); (case k4 | k5 | k6 => k_is); k_whole; intro x' d' h' F' N' l1 l2; (try k_lt l1); (try k_lt2 l2); (try k_sweep); (refine' code_def ?k1 ?k2 ?k3 ?k4 ?k5 ?kA ?kF ?kK ?k6 ?k7 ?k8 ?k9 ?kB ?_ ?c2 ?c3 ?c4 ?c5; (case kA | kF => exact rfl); (case kK => first | exact rfl | assumption); (case k1 | k2 | k3 | k4 | k5 => k_asm); (case k6 | k7 => k_is); (case k8 => ktr_room); (case k9 => exact BindsTo.of_eq rfl); (case c5 => decide); (case kB => exact locs rfl); (case c2 | c3 | c4 => exact rfl); k_whole; intro g' L' h' FG' F' N' B' X' T'; (try dsimp only); (try k_lift B'); (try k_fold)))))
def bitRows (b : Array UInt8) : List (List Nat) := (KBw.bInts b).map fun x => bitsL x 8
def bitsAll (b : Array UInt8) : List Nat := (bitRows b).flatten
local macro_rules | `(tactic| walk_at "subscriptTail") => `(tactic| (k_here; (with_reducible show wpAny _ _ (subscriptTail _ (PySem.Expr.Slice (some _) none none _) (Value.str _ _) (Value.ref _)) _ _ _); (with_reducible rename Fr _ _ _ _ => F'); (with_reducible rename News _ _ _ _ => N'); (refine slice_strN_sn (hsz := ?hsz) (s := ⟨_, _, _, _, _⟩) F' N' ?_); (case hsz => with_reducible assumption); intro _ _ _ _ _))
local macro_rules | `(tactic| walk_at "compareOp NotEq ref ref") => `(tactic| (k_here; (with_reducible show wpAny _ _ (compareOp CmpOp.NotEq (Value.ref _) (Value.ref _)) _ _ _); k_dflt (refine' Mine.ne_intsN (us := []) (ms := []) ?k1 ?k2 ?k3 ?k4 ?k5 ?k6 ?_; (case k1 => k_asm); (case k2 | k4 => k_mem); (case k3 | k5 => with_reducible assumption); (case k6 => ktr_units)); (try simp only [reduceCtorEq, decide_false, decide_true, Bool.not_false, Bool.not_true])))
local macro_rules | `(tactic| walk_at "compareOp Eq ref ref") => `(tactic| (k_here; (with_reducible show wpAny _ _ (compareOp CmpOp.Eq (Value.ref _) (Value.ref _)) _ _ _); k_dflt (refine' Mine.eq_intsN (us := []) (ms := []) ?k1 ?k2 ?k3 ?k4 ?k5 ?k6 ?_; (case k1 => k_asm); (case k2 | k4 => k_mem); (case k3 | k5 => with_reducible assumption); (case k6 => ktr_units)); (try simp only [reduceCtorEq, decide_false, decide_true, Bool.not_false, Bool.not_true])))
local macro_rules | `(tactic| walk_at "subscriptTail") => `(tactic| ((with_reducible show wpAny _ _ (subscriptTail _ _ (Value.ref _) (Value.int _ _)) _ _ _); (refine item_list_intsR (by is_list) (by with_reducible assumption) (by omega) (by omega) (by omega) ?_); intro _))
theorem item_atN {prog : Program} {A : Around} {value slice : PySem.Expr} {l : Addr} {items : Array Value} {n : Nat} {k : Int} {u : Tok} {x : Value} {nw : List (Addr × Obj)} (N : News h₀ L s.heap nw) (hm : (l, listOf items n) ∈ nw) (hx : items[k.toNat]? = some x) (h0 : 0 ≤ k) (hfit : k < 2 ^ 63) (h : Q x s)
    (hs : subscripted slice false (.ref l) (.int k u) = operate [.ref l, .int k u] (getItem (.ref l) (.int k u)) := by with_unfolding_all rfl) :
    wpAny (model prog w) A (subscriptTail value slice (.ref l) (.int k u)) Q E s := item_listR (News.isList N hm) h0 hfit hx h hs
local macro_rules | `(tactic| walk_at "subscriptTail") => `(tactic| (k_here; (with_reducible show wpAny _ _ (subscriptTail _ _ (Value.ref _) (Value.int _ _)) _ _ _); k_dflt (refine' item_atN ?k1 ?k2 ?k3 ?k4 ?k5 ?_; (case k1 => k_asm); (case k2 => k_mem); (case k3 => with_reducible assumption); (case k4 | k5 => omega); k_whole)))
local macro_rules | `(tactic| k_steps) => `(tactic| repeat' ((fail_if_success (with_reducible first | refine stSub ?_)); tb_rel))
def textAt (b : Array UInt8) (p : Nat) : PySem.Str := bitT ((bitsAll b).drop p)
def matchIdx (b : Array UInt8) (ts : List PySem.Str) (p : Nat) : List Nat := (List.range ts.length).filter fun k => preT (textAt b p) (ts.getD k PySem.Str.empty)
theorem bitRows_weight {b : Array UInt8} (hb : b.size = 3) : ((((bitRows b).take b.size).map bitT).map (·.length)).sum + (((bitRows b).take b.size).map bitT).length ≤ 1048576 := by
  have hl : (bitRows b).length = 3 := by simp [bitRows, KBw.ints_length, hb]
  have h8 : ∀ r ∈ bitRows b, (bitT r).length = 8 := fun r hr => by
    obtain ⟨x, _, rfl⟩ := List.mem_map.mp hr
    show (bitT _).cps.size = 8
    simp [bitT, bitsL_length]
  rw [List.take_of_length_le (by omega)]
  match hm : bitRows b, hl with
  | [x, y, z], _ =>
    rw [hm] at h8
    have hx := h8 x (by simp)
    have hy := h8 y (by simp)
    have hz := h8 z (by simp)
    simp [hx, hy, hz]
theorem textAt_length {b : Array UInt8} (hb : b.size = 3) (p : Nat) : (textAt b p).length = 24 - p := by
  have hl : (bitRows b).length = 3 := by simp [bitRows, KBw.ints_length, hb]
  have h8 : ∀ r ∈ bitRows b, r.length = 8 := fun r hr => by
    obtain ⟨x, _, rfl⟩ := List.mem_map.mp hr
    exact bitsL_length _ _
  have h24 : (bitsAll b).length = 24 := by
    unfold bitsAll
    match hm : bitRows b, hl with
    | [x, y, z], _ =>
      rw [hm] at h8
      have hx := h8 x (by simp)
      have hy := h8 y (by simp)
      have hz := h8 z (by simp)
      simp [hx, hy, hz]
  show (bitT _).cps.size = _
  simp [bitT, h24]
set_option maxHeartbeats 4000000 in
theorem rright_spec {tb td ct st lx cd sx hx : Addr} {k1 k2 k3 k4 tbt : Tok} {vs us : List Value} {ks sy : List Int} {ts : List PySem.Str} {b : Array UInt8} {va : Array Value} {n' n2 n3 : Nat}
    (B : Below A₀ base [] h₀) (F : Fr h₀ L s.heap m) (X : (hdx.heap_1 w.params).In h₀) (N : News h₀ L s.heap ((td, huffDict w ct st lx cd k1 k2 k3 k4) :: (tb, instObj 115 td) :: (st, tupO vs) :: (lx, listOf va n') :: (sx, listOf vs.toArray n2) :: (hx, listOf us.toArray n3) :: news)) (T : Top vw (looseW vw []) mean mg mb h₀) (hk : cs.kind = .function)
    (XB : (hdx.heap_1 w.params).In base) (TB : Top vw (looseW vw []) mean mg mb base)
    (hsy : IntsAre vs sy) (hus : PyProof.Rows.StrsAre us ts) (hlen : ks.length = 16) (hk0 : ∀ k ∈ ks, 0 ≤ k ∧ k ≤ 8) (hsum : ks.sum = (sy.length : Int)) (hs8 : sy.length ≤ 8) (hb : b.size = 3)
    (hM1 : ∀ p k : Nat, p ≤ 24 → (matchIdx b ts p)[0]? = some k → ∃ i, i < 16 ∧ p + i < 24 ∧ (∀ j < i, missAt b p ks j) ∧ ¬ missAt b p ks i ∧ (placeAt ks i + vAt b p (i + 1) - codeAt ks i).toNat = k ∧ (ts.getD k PySem.Str.empty).length = i + 1)
    (hM0 : ∀ p : Nat, p ≤ 24 → matchIdx b ts p = [] → ∀ i : Nat, i < 16 → p + i < 24 → (∀ j < i, missAt b p ks j) → missAt b p ks i)
    (hts : ts.length ≤ 8) (hts7 : ∀ t ∈ ts, t.length ≤ 7) (hss : sy.length = ts.length)
    (hR : RowsAt news va.toList ks 16) (hd : dp + 24 < recursionLimit) (hu : un + 160 < cLine)
    (hret : ∀ (h' : Heap) (tk' : Nat) (nw' : List (Addr × Obj)), Fr h₀ L h' m → News h₀ L h' nw' → Q (.bool true) { s with heap := h', toks := tk' }) :
    wpAny (model PySem.Challenge.pw_ok0132_02 w) (ktrTop dp un gd cn cs L a ccd cl []) (call (.ref 209) [.ref tb, .ref sx, .ref hx, .bytes b tbt]) Q E s := by
  refine wpAny_call ?_
  k_dflt ktr_enter
  rename_i g' L' h1 tk1 FG' F' B' X' T' D' l1 oT oC dT dC N'
  have hnL := ktn_ltOf l1.2.2.2.2.2.2
  have hn1 : ∀ p ∈ news, p.1 ≠ L' + 1 := fun p hp => Nat.ne_of_lt (Nat.lt_succ_of_lt (hnL p hp))
  have hn2 : ∀ p ∈ news, p.1 ≠ L' + 1 + 1 := fun p hp => Nat.ne_of_lt (Nat.lt_succ_of_lt (Nat.lt_succ_of_lt (hnL p hp)))
  k_steps
  k_dflt (refine ListComp_W (F₀ := by k_asm) (by with_unfolding_all rfl) (by decide) (by rfl) (by decide) (by rfl) ?_)
  k_steps
  rename News _ _ _ _ => N3
  refine SrcW.pure (n := b.size) (iterAs_bytes rfl) (by k_asm) N3 (by rw [sizeLine_eq]; omega) trivial (fun i ys => PyProof.Rows.StrsAre ys (((bitRows b).take i).map bitT)) .nil ?turn ?fin
  case turn =>
    rintro hh i ys v I oI C oC D m₂ h tk E' hi ⟨c, u, hc, rfl⟩ hJ hC hx F N O D3
    have hc256 : c.toNat < 256 := c.toNat_lt
    k_steps
    rename Fr _ _ _ _ => F6
    rename News _ _ _ _ => N6
    refine LCg.CompEnd.intro F6 N6 _ (fun p hp => hp) O trivial ⟨rfl, ?_⟩
    have hb' : (bitRows b)[i]? = some (bitsL (c.toNat : Int) 8) := by
      rw [bitRows, List.getElem?_map, KBw.ints_get hc]; rfl
    rw [List.take_add_one, hb', Option.toList_some, List.map_append]
    exact kct_snoc hJ
  intro hh ys hys D h tk F N O
  have hD1 : @Ne Nat (L' + 1 + 1) D := O.1
  have hD2 : @Ne Nat (L' + 1) D := O.2.1
  k_steps
  refine join_listW (News.isList N (List.mem_cons_self ..)) hys (by decide) (bitRows_weight hb) fun t' k => ?_
  rw [show Txt.join (PySem.Str.ofString "") (((bitRows b).take b.size).map bitT) = bitT (bitsAll b) by rw [List.take_of_length_le (by simp [bitRows, KBw.ints_length]), join_bitTs]; rfl]
  k_steps
  rename_i x' dx h7 lA lB g2 L2 h6 B2 X2 T2 tk0 h5 h4 F1 N1 Tc kX Dt h3 lC h2 h1' oT2 dT2 hh' F2 N2
  clear N1
  obtain ⟨r1, r2, r3, r4, N2⟩ : ∃ r1 r2 r3 r4, News g' L' hh' ((dx, rdDict w b 0 r1 r2 r3 r4) :: (x', instObj 157 dx) :: (L' + 1 + 1, oT2) :: (L' + 1, oC) :: (td, huffDict w ct st lx cd k1 k2 k3 k4) :: (tb, instObj 115 td) :: (st, tupO vs) :: (lx, listOf va n') :: (sx, listOf vs.toArray n2) :: (hx, listOf us.toArray n3) :: news) := ⟨_, _, _, _, by refine' cb_drop ?cbN ?cbS; (case cbN => exact N2); (case cbS => kcj_all)⟩
  refine While_W (fun n m₁ nw => ∃ (p : Nat) (oT oC : Obj) (r4 tt : Tok), n = 24 - p ∧ p ≤ 24 ∧ m₁ "table" = some (.ref tb) ∧ m₁ "symbols" = some (.ref sx) ∧ m₁ "reader" = some (.ref x') ∧ oT.data = .cell (some (.str (textAt b p) tt)) ∧ oC.data = .cell (some (.ref hx)) ∧ nw = (dx, rdDict w b p r1 r2 r3 r4) :: (x', instObj 157 dx) :: (L' + 1 + 1, oT) :: (L' + 1, oC) :: (td, huffDict w ct st lx cd k1 k2 k3 k4) :: (tb, instObj 115 td) :: (st, tupO vs) :: (lx, listOf va n') :: (sx, listOf vs.toArray n2) :: (hx, listOf us.toArray n3) :: news) 24 F2 N2
    ⟨0, oT2, oC, r4, t', rfl, Nat.zero_le _, by with_unfolding_all rfl, by with_unfolding_all rfl, by with_unfolding_all rfl, dT2, dC, rfl⟩ ?turn
  rintro n m₁ nw h tk F N ⟨p, oT, oC, r4, tt, hn, hp24, hm1, hm2, hm3, dT, dC, rfl⟩
  replace F := fr_cast F (pin hm1 (pin hm2 (pin hm3 rfl)))
  clear F2 N2
  k_steps
  k_dflt (refine LCt.Assign_ListComp_T (F₀ := by k_asm) rfl (by with_unfolding_all rfl) (by with_unfolding_all rfl) (by decide) (by rfl) (by decide) (by rfl) (by rfl) (by rfl) ?_)
  have hul := hus.length
  k_steps
  rename IsRange _ _ _ _ _ _ _ _ => hrg
  rename News _ _ _ _ => N3
  clear N
  have htl := textAt_length hb p
  have hts1 : (textAt b p).length ≤ sizeLine := by rw [sizeLine_eq]; omega
  have hru := range_up (y := (ts.length : Int)) (by omega) (by omega)
  refine SrcT.pureR (n := ts.length) (by exact rfl) (by k_asm) N3 hrg hru.1 (by simpa using hru.2) (by rw [sizeLine_eq]; omega) (fun j ys => IntsAre ys ((((List.range ts.length).take j).filter fun k => preT (textAt b p) (ts.getD k PySem.Str.empty)).map fun (k : Nat) => (k : Int))) .nil ?turn5 ?fin5
  case turn5 =>
    rintro g5 j ys v I5 oI5 C5 oC5 D5 m5 h5 tk5 E5 hj ⟨t5, hv5⟩ hw hC5 hx5 F5 N5 O5 D35
    rw [Int.zero_add] at hv5
    subst hv5
    have hj' : ts[j]? = some (ts.getD j PySem.Str.empty) := by rw [List.getD_eq_getElem?_getD, List.getElem?_eq_getElem hj]; rfl
    obtain ⟨tx, hxj⟩ := hus.get j _ hj'
    have hxj' : us.toArray[((j : Int)).toNat]? = some (.str (ts.getD j PySem.Str.empty) tx) := by simpa using hxj
    have hx7 := hts7 _ (List.mem_of_getElem? hj')
    clear N3
    k_steps
    refine' item_atN ?k1 ?k2 ?k3 ?k4 ?k5 ?_; (case k1 => k_asm); (case k2 => k_mem); (case k3 => with_reducible assumption); (case k4 | k5 => omega); k_whole
    k_steps
    refine' item_atN ?k1 ?k2 ?k3 ?k4 ?k5 ?_; (case k1 => k_asm); (case k2 => k_mem); (case k3 => with_reducible assumption); (case k4 | k5 => omega); k_whole
    k_steps
    all_goals
      rename (_ == _) = _ => he
      rename Fr _ _ _ _ => F7
      rename News _ _ _ _ => N7
      refine LCg.CompEnd.intro F7 N7 _ (fun p hp => hp) O5 trivial ⟨rfl, ?_⟩
      rw [filt_step (show (List.range ts.length)[j]? = some j by rw [List.getElem?_eq_getElem (by simpa using hj)]; simp), show preT (textAt b p) (ts.getD j PySem.Str.empty) = _ from he]
      first
        | (rw [if_pos rfl, List.map_append]; exact ints_snoc hw)
        | (simp only [Bool.false_eq_true, if_false, List.append_nil]; exact hw)
  rintro g5 ys hw D6 h6 tk6 F6 N6 O6
  rw [List.take_of_length_le (by simp)] at hw
  replace hw : IntsAre ys ((matchIdx b ts p).map fun (k : Nat) => (k : Int)) := hw
  have hnil : IntsAre ([] : List Value) [] := .nil
  have q1 : @Ne Nat dx D6 := O6.1
  have q2 : @Ne Nat x' D6 := O6.2.1
  have q3 : @Ne Nat (L' + 1 + 1) D6 := O6.2.2.1
  have q4 : ∀ q ∈ news, q.1 ≠ dx := fun q hq => Nat.ne_of_lt (ktn_ltOf lA.2.2.2.2.2.2.2.2.2 q hq)
  have hRR : ∀ nw, (∀ q ∈ news, q ∈ nw) → RowsAt nw va.toList ks 16 := fun nw hq => hR.up hq
  have hbs : b.size ≤ 8 := by omega
  have hp0 : (0 : Int) ≤ (p : Int) := by omega
  have hp1 : (p : Int) ≤ 32 := by omega
  rcases hm : matchIdx b ts p with _ | ⟨k, rest⟩
  · rw [hm, List.map_nil] at hw
    k_steps
    all_goals
      (k_dflt (refine' heard_use ?k1 ?k2 ?k3 ?k4 ?k5 ?k6 ?k7 ?k8 ?k9 ?k10 ?k11 ?k12 ?k13 ?k14 ?k15 ?k16 ?k17 ?k18 ?k19 ?k20 ?k21 ?k22 ?k23 ?k24 ?k25 ?k26 ?k27 ?_ ?_ ?_); (case k1 | k2 | k3 | k4 | k5 => k_asm); (case k6 => first | exact rfl | assumption); (case k7 | k8 | k9 => assumption); (case k10 | k11 | k12 | k13 | k14 => k_mem); (case k15 => k_ne); (case k16 => intro p' ta'; k_upd); (case k17 | k18 | k19 | k20 | k21 | k22 | k23 | k24 => with_reducible assumption); (case k25 => exact hRR _ (fun q hq => by repeat (first | exact hq | apply List.mem_cons_of_mem))); (case k26 => ktr_room); (case k27 => ktr_units); k_whole)
      · intro i tr ta' h' tk' hi' hroom' hmiss' hhit' F' N'
        exact absurd (hM0 p hp24 hm i hi' (by omega) hmiss') hhit'
    · intro i t h' g3' tk' ta' hi' hend' hmiss' hroom' KT' F' N' K' X' P' D'
      exfalso; omega
    · intro t h' g3' tk' ta' hmiss' hroom' KT' F' N' K' X' P' D'
      k_steps
      dsimp only
      refine WEnd.ret ?_
      dsimp only
      k_steps
      exact hret _ _ _ (by k_asm) (by k_asm)
    · intro i t h' g3' tk' ta' hi' hend' hmiss' hroom' KT' F' N' K' X' P' D'
      k_steps
      dsimp only
      refine WEnd.ret ?_
      dsimp only
      k_steps
      exact hret _ _ _ (by k_asm) (by k_asm)
    · intro t h' g3' tk' ta' hmiss' hroom' KT' F' N' K' X' P' D'
      have := hroom' 15 (by omega)
      exfalso; omega
  · rw [hm, List.map_cons] at hw
    obtain ⟨tk0, ys', rfl, hw'⟩ := hw.cons_inv
    have hy0 : (Value.int (k : Int) tk0 :: ys').toArray[(0 : Int).toNat]? = some (.int (k : Int) tk0) := rfl
    have hkm : k ∈ matchIdx b ts p := by rw [hm]; exact List.mem_cons_self ..
    have hkl : k < ts.length := by simpa using (List.mem_filter.mp hkm).1
    obtain ⟨ts0, hs0⟩ := hsy.get k (sy.getD k 0) (by rw [List.getD_eq_getElem?_getD, List.getElem?_eq_getElem (by omega)]; rfl)
    have hs1 : vs.toArray[((k : Int)).toNat]? = some (.int (sy.getD k 0) ts0) := by simpa using hs0
    clear hw hnil
    have hnil : IntsAre ([] : List Value) [] := .nil
    have hcons : IntsAre (Value.int (k : Int) tk0 :: ys') ((k : Int) :: rest.map fun (k : Nat) => (k : Int)) := .cons _ _ hw'
    clear hw'
    obtain ⟨i0, hi0, hpi0, hmb, hhit, hidx, hlen0⟩ := hM1 p k hp24 (by rw [hm]; rfl)
    have huk : us.toArray[((k : Int)).toNat]? = some (.str (ts.getD k PySem.Str.empty) (Classical.choose (hus.get k _ (show ts[k]? = some (ts.getD k PySem.Str.empty) by rw [List.getD_eq_getElem?_getD, List.getElem?_eq_getElem hkl]; rfl)))) := by
      simpa using Classical.choose_spec (hus.get k _ (show ts[k]? = some (ts.getD k PySem.Str.empty) by rw [List.getD_eq_getElem?_getD, List.getElem?_eq_getElem hkl]; rfl))
    generalize Classical.choose (hus.get k _ (show ts[k]? = some (ts.getD k PySem.Str.empty) by rw [List.getD_eq_getElem?_getD, List.getElem?_eq_getElem hkl]; rfl)) = tuk at huk
    k_steps
    refine' item_atN ?k1 ?k2 ?k3 ?k4 ?k5 ?_; (case k1 => k_asm); (case k2 => k_mem); (case k3 => with_reducible assumption); (case k4 | k5 => omega); k_whole
    k_steps
    refine' item_atN ?k1 ?k2 ?k3 ?k4 ?k5 ?_; (case k1 => k_asm); (case k2 => k_mem); (case k3 => with_reducible assumption); (case k4 | k5 => omega); k_whole
    k_steps
    all_goals
      (k_dflt (refine' heard_use ?k1 ?k2 ?k3 ?k4 ?k5 ?k6 ?k7 ?k8 ?k9 ?k10 ?k11 ?k12 ?k13 ?k14 ?k15 ?k16 ?k17 ?k18 ?k19 ?k20 ?k21 ?k22 ?k23 ?k24 ?k25 ?k26 ?k27 ?_ ?_ ?_); (case k1 | k2 | k3 | k4 | k5 => k_asm); (case k6 => first | exact rfl | assumption); (case k7 | k8 | k9 => assumption); (case k10 | k11 | k12 | k13 | k14 => k_mem); (case k15 => k_ne); (case k16 => intro p' ta'; k_upd); (case k17 | k18 | k19 | k20 | k21 | k22 | k23 | k24 => with_reducible assumption); (case k25 => exact hRR _ (fun q hq => by repeat (first | exact hq | apply List.mem_cons_of_mem))); (case k26 => ktr_room); (case k27 => ktr_units); k_whole)
      · intro i tr ta' h' tk' hi' hroom' hmiss' hhit' F' N'
        have hii : i = i0 := by
          rcases Nat.lt_trichotomy i i0 with h | h | h
          · exact absurd (hmb i h) hhit'
          · exact h
          · exact absurd (hmiss' i0 h) hhit
        subst hii
        rw [hidx]
        rw [show (p : Int) + i + 1 = ((p + (i + 1) : Nat) : Int) by omega] at N'
        k_steps
        any_goals (exfalso; (rename sy.getD k 0 ≠ sy.getD k 0 => hne); exact hne rfl)
        refine' item_atN ?k1 ?k2 ?k3 ?k4 ?k5 ?_; (case k1 => k_asm); (case k2 => k_mem); (case k3 => with_reducible assumption); (case k4 | k5 => omega); k_whole
        k_steps
        refine' item_atN ?k1 ?k2 ?k3 ?k4 ?k5 ?_; (case k1 => k_asm); (case k2 => k_mem); (case k3 => with_reducible assumption); (case k4 | k5 => omega); k_whole
        k_steps
        rename _ = Data.cell (some (Value.str (Txt.slice _ _ _) _)) => dT'
        rename Fr _ _ _ _ => F9
        rename News _ _ _ _ => N9
        rw [show ((ts.getD k PySem.Str.empty).length : Int) = ((i + 1 : Nat) : Int) by rw [hlen0], show textAt b p = bitT ((bitsAll b).drop p) from rfl, slice_bitT_from, List.drop_drop] at dT'
        exact WEnd.next (n' := 24 - (p + (i + 1))) F9 (by refine' cb_drop ?cbN ?cbS; (case cbN => exact N9); (case cbS => kcj_all)) (by omega)
          ⟨p + (i + 1), _, oC, ta', _, rfl, by omega, by with_unfolding_all rfl, by with_unfolding_all rfl, by with_unfolding_all rfl, dT', dC, rfl⟩
      · intro i t h' g3' tk' ta' hi' hend' hmiss' hroom' KT' F' N' K' X' P' D'
        exfalso
        rcases Nat.lt_or_ge i0 i with h | h
        · exact hhit (hmiss' i0 h)
        · omega
      · intro t h' g3' tk' ta' hmiss' hroom' KT' F' N' K' X' P' D'
        exact absurd (hmiss' i0 hi0) hhit
end
section
open PySem PySem.W PyProof.Rows PySem.Calls
theorem preT_bits {bs cs : List Nat} : preT (bitT bs) (bitT cs) = true ↔ bs.take cs.length = cs := by
  unfold preT
  rw [bitT_length, slice_bitT_to, beq_iff_eq]
  exact ⟨bitT_inj, fun h => by rw [h]⟩
section
variable {ss ks : List Int} (S : Sizes ss ks)
include S
theorem tsOf_at {k : Nat} (h : k < ss.length) : (tsOf ss)[k]? = some (bitT (bitsL (cdOf ss k) (ss.getD k 0).toNat)) := by
  unfold tsOf
  rw [List.getElem?_map, List.getElem?_range h]; rfl
omit S in
theorem tsOf_length : (tsOf ss).length = ss.length := by simp [tsOf]
omit S in
theorem getD_mem {k : Nat} (h : k < ss.length) : ss.getD k 0 ∈ ss := by
  rw [List.getD_eq_getElem?_getD, List.getElem?_eq_getElem h]; exact List.getElem_mem h
theorem getD_mono {j k : Nat} (h : j ≤ k) (hk : k < ss.length) : ss.getD j 0 ≤ ss.getD k 0 := by
  rcases Nat.lt_or_eq_of_le h with h | rfl
  · have := List.pairwise_iff_getElem.mp S.sorted j k (by omega) hk h
    simpa [List.getD_eq_getElem?_getD, List.getElem?_eq_getElem hk, List.getElem?_eq_getElem (show j < ss.length by omega)] using this
  · exact Int.le_refl _
theorem tsOf_len7 : ∀ t ∈ tsOf ss, t.length ≤ 7 := fun t ht => by
  obtain ⟨k, hk, rfl⟩ := List.mem_map.mp ht
  rw [List.mem_range] at hk
  have := S.range _ (getD_mem hk)
  rw [bitT_length, bitsL_length]
  omega
/-- no earlier code begins o, just if o's number stands behind them all -/
theorem pre_iff (hU : usum ss ss.length < 128) {j : Nat} {y : Int} {x : Int} (hj : j < ss.length) (hy : ss.getD j 0 ≤ y) (hy7 : y ≤ 7) (h0 : 0 ≤ x) (h1 : x < 2 ^ y.toNat) :
    preT (bitT (bitsL x y.toNat)) (bitT (bitsL (cdOf ss j) (ss.getD j 0).toNat)) = true ↔ usum ss j ≤ x * wt y ∧ x * wt y < usum ss (j + 1) := by
  have hr := S.range _ (getD_mem hj)
  obtain ⟨e1, e2⟩ := cdOf_mul S hj
  have hc := cdOf_lt S hU hj
  have hc0 := cdOf_nn (ss := ss) (k := j)
  generalize ss.getD j 0 = z at *
  generalize cdOf ss j = c at *
  rw [preT_bits, bitsL_length, bitsL_take _ (by omega)]
  have hw : wt z = 2 ^ (y.toNat - z.toNat) * wt y := by
    unfold wt
    rw [← Int.pow_add, show y.toNat - z.toNat + (7 - y).toNat = (7 - z).toNat by omega]
  have hp : (0 : Int) < 2 ^ (y.toNat - z.toNat) := Int.pow_pos (by decide)
  have hwy := wt_pos y
  rw [← e1, ← e2, hw]
  generalize hP : (2 : Int) ^ (y.toNat - z.toNat) = P at *
  have hq : x / P < 2 ^ z.toNat := by
    apply Int.ediv_lt_of_lt_mul hp
    rw [← hP, ← Int.pow_add, show z.toNat + (y.toNat - z.toNat) = y.toNat by omega]
    exact h1
  have hq0 : 0 ≤ x / P := Int.ediv_nonneg h0 (Int.le_of_lt hp)
  have key : x / P = c ↔ c * P ≤ x ∧ x < (c + 1) * P := by
    constructor
    · intro e
      rw [← e]
      exact ⟨Int.ediv_mul_le _ (Int.ne_of_gt hp), Int.lt_ediv_add_one_mul_self _ hp⟩
    · rintro ⟨a, b⟩
      have h1 := (Int.le_ediv_iff_mul_le hp).mpr a
      have h2 := (Int.ediv_lt_iff_lt_mul hp).mpr b
      omega
  have m1 : c * (P * wt y) ≤ x * wt y ↔ c * P ≤ x := by
    rw [← Int.mul_assoc]
    exact ⟨fun h => Int.le_of_mul_le_mul_right h hwy, fun h => Int.mul_le_mul_of_nonneg_right h (Int.le_of_lt hwy)⟩
  have m2 : x * wt y < (c + 1) * (P * wt y) ↔ x < (c + 1) * P := by
    rw [← Int.mul_assoc]
    exact ⟨fun h => Int.lt_of_mul_lt_mul_right h (Int.le_of_lt hwy), fun h => Int.mul_lt_mul_of_pos_right h hwy⟩
  rw [m1, m2, ← key]
  exact ⟨fun h => bitsL_inj hq0 hc0 hq hc h, fun h => by rw [h]⟩
omit S in
theorem usum_find {v : Int} (h0 : 0 ≤ v) : ∀ {k : Nat}, v < usum ss k → ∃ j, j < k ∧ usum ss j ≤ v ∧ v < usum ss (j + 1)
  | 0, h => by simp [usum] at h; omega
  | k + 1, h => by
    by_cases h' : v < usum ss k
    · obtain ⟨j, a, b⟩ := usum_find h0 h'
      exact ⟨j, by omega, b⟩
    · exact ⟨k, by omega, by omega, h⟩
theorem free_at (hU : usum ss ss.length < 128) {k : Nat} (hk : k < ss.length) : (freeTs (ss.getD k 0).toNat).find? (isFree ((tsOf ss).take k)) = (tsOf ss)[k]? := by
  have hr := S.range _ (getD_mem hk)
  obtain ⟨e1, e2⟩ := cdOf_mul S hk
  have hc := cdOf_lt S hU hk
  have hc0 := cdOf_nn (ss := ss) (k := k)
  rw [tsOf_at S hk]
  have hmem : ∀ t, t ∈ (tsOf ss).take k ↔ ∃ j, j < k ∧ t = bitT (bitsL (cdOf ss j) (ss.getD j 0).toNat) := fun t => by
    constructor
    · intro h
      obtain ⟨j, hj, e⟩ := List.getElem_of_mem h
      rw [List.length_take] at hj
      refine ⟨j, by omega, ?_⟩
      have := tsOf_at S (k := j) (by omega)
      rw [← e, List.getElem_take]
      rw [List.getElem?_eq_getElem (by rw [tsOf_length]; omega)] at this
      exact Option.some.inj this
    · rintro ⟨j, hj, rfl⟩
      have := tsOf_at S (k := j) (by omega)
      exact List.mem_of_getElem? (i := j) (by rw [List.getElem?_take, if_pos hj]; exact this)
  have hfree : ∀ x : Int, 0 ≤ x → x < 2 ^ (ss.getD k 0).toNat → (isFree ((tsOf ss).take k) (bitT (bitsL x (ss.getD k 0).toNat)) = true ↔ cdOf ss k ≤ x) := fun x h0 h1 => by
    have hw := wt_pos (ss.getD k 0)
    have hx : cdOf ss k ≤ x ↔ usum ss k ≤ x * wt (ss.getD k 0) := by
      rw [← e1]
      exact ⟨fun h => Int.mul_le_mul_of_nonneg_right h (Int.le_of_lt hw), fun h => Int.le_of_mul_le_mul_right h hw⟩
    rw [hx]
    unfold isFree
    rw [List.isEmpty_iff, List.filter_eq_nil_iff]
    constructor
    · intro h
      apply Int.le_of_not_gt
      intro hlt
      obtain ⟨j, hj, a, b⟩ := usum_find (ss := ss) (Int.mul_nonneg h0 (Int.le_of_lt hw)) hlt
      exact h _ ((hmem _).mpr ⟨j, hj, rfl⟩) ((pre_iff S hU (by omega) (getD_mono S (by omega) hk) hr.2 h0 h1).mpr ⟨a, b⟩)
    · intro h t ht hp
      obtain ⟨j, hj, rfl⟩ := (hmem t).mp ht
      have := (pre_iff S hU (by omega) (getD_mono S (by omega) hk) hr.2 h0 h1).mp hp
      have := usum_mono ss (show j + 1 ≤ k by omega)
      omega
  generalize ss.getD k 0 = y at *
  generalize cdOf ss k = c at *
  obtain ⟨n, rfl⟩ := Int.eq_ofNat_of_zero_le hc0
  have hn : n < 2 ^ y.toNat := by
    have : ((n : Nat) : Int) < ((2 ^ y.toNat : Nat) : Int) := by rw [Int.natCast_pow]; exact hc
    omega
  unfold freeTs
  rw [List.find?_map, List.find?_range_eq_some.mpr]
  · rfl
  · refine ⟨(hfree n (by omega) hc).mpr (Int.le_refl _), List.mem_range.mpr hn, fun j hj => ?_⟩
    have h1 : ((j : Nat) : Int) < 2 ^ y.toNat := Int.lt_trans (by omega) hc
    have := hfree j (by omega) h1
    simp only [Function.comp_apply, Bool.not_eq_eq_eq_not, Bool.not_true]
    rw [← Bool.not_eq_true, this]
    omega
end
end
section
open PySem PySem.W PyProof.Rows PySem.Calls
theorem bits_at {b : Array UInt8} (hb : b.size = 3) {q : Nat} (h : q < 24) : (bitsAll b)[q]? = some (bitOf (KBw.bInts b) (q : Int)).toNat := by
  have hl : (KBw.bInts b).length = 3 := by rw [KBw.ints_length, hb]
  unfold bitsAll bitRows
  match hm : KBw.bInts b, hl with
  | [x, y, z], _ =>
    have e : ([x, y, z].map fun x => bitsL x 8).flatten = (List.range 24).map fun (q : Nat) => (bitOf [x, y, z] (q : Int)).toNat := rfl
    rw [e, List.getElem?_map, List.getElem?_range h]
    rfl
theorem bitsAll_length {b : Array UInt8} (hb : b.size = 3) : (bitsAll b).length = 24 := by
  have h := textAt_length hb 0
  unfold textAt at h
  rw [bitT_length, List.drop_zero] at h
  exact h
theorem bitOf_01 (l : List Int) (i : Int) : bitOf l i = 0 ∨ bitOf l i = 1 := by
  have := bitOf_nn l i
  have h2 : bitOf l i < 2 := Int.emod_lt_of_pos _ (by decide)
  omega
theorem vAt_bits {b : Array UInt8} (hb : b.size = 3) {p : Nat} : ∀ {n : Nat}, p + n ≤ 24 → ((bitsAll b).drop p).take n = bitsL (vAt b p n) n ∧ 0 ≤ vAt b p n ∧ vAt b p n < 2 ^ n
  | 0, _ => ⟨by simp [bitsL], Int.le_refl _, by show (0 : Int) < 2 ^ 0; decide⟩
  | n + 1, h => by
    obtain ⟨h1, h2, h3⟩ := vAt_bits hb (p := p) (n := n) (by omega)
    have hd := bitOf_01 (KBw.bInts b) ((p : Int) + n)
    have e : vAt b p (n + 1) = vAt b p n * 2 + bitOf (KBw.bInts b) ((p : Int) + n) := rfl
    refine ⟨?_, by rw [e]; omega, by rw [e, Int.pow_succ]; omega⟩
    rw [List.take_add_one, h1, List.getElem?_drop, bits_at hb (by omega), bitsL_succ, e]
    rw [show ((p + n : Nat) : Int) = (p : Int) + n by omega]
    generalize bitOf (KBw.bInts b) ((p : Int) + n) = d at hd ⊢
    rw [show (vAt b p n * 2 + d) / 2 = vAt b p n by omega, show (vAt b p n * 2 + d) % 2 = d by omega]
    rfl
theorem vAt_div (b : Array UInt8) (p : Int) (j : Nat) : ∀ m : Nat, vAt b p j = vAt b p (j + m) / 2 ^ m
  | 0 => by simp
  | m + 1 => by
    have hd := bitOf_01 (KBw.bInts b) (p + (j + m : Nat))
    have e : vAt b p (j + m + 1) = vAt b p (j + m) * 2 + bitOf (KBw.bInts b) (p + (j + m : Nat)) := rfl
    rw [vAt_div b p j m, show j + (m + 1) = j + m + 1 by omega, Int.pow_succ', ← Int.ediv_ediv_of_nonneg (by decide), e]
    congr 1
    omega
section
variable {ss ks : List Int} (S : Sizes ss ks)
include S
theorem match_iff {b : Array UInt8} (hb : b.size = 3) (hU : usum ss ss.length < 128) {p k : Nat} (hp : p ≤ 24) (hk : k < ss.length) :
    preT (textAt b p) ((tsOf ss).getD k PySem.Str.empty) = true ↔ p + (ss.getD k 0).toNat ≤ 24 ∧ vAt b p (ss.getD k 0).toNat = cdOf ss k := by
  have e : (tsOf ss).getD k PySem.Str.empty = bitT (bitsL (cdOf ss k) (ss.getD k 0).toNat) := by
    rw [List.getD_eq_getElem?_getD, tsOf_at S hk]; rfl
  rw [e]
  unfold textAt
  rw [preT_bits, bitsL_length]
  constructor
  · intro h
    have hle : p + (ss.getD k 0).toNat ≤ 24 := by
      have hl := congrArg List.length h
      rw [bitsL_length, List.length_take, List.length_drop, bitsAll_length hb] at hl
      omega
    obtain ⟨h1, h2, h3⟩ := vAt_bits hb hle
    exact ⟨hle, bitsL_inj h2 cdOf_nn h3 (cdOf_lt S hU hk) (h1.symm.trans h)⟩
  · rintro ⟨hle, hv⟩
    rw [(vAt_bits hb hle).1, hv]
theorem tsOf_getD_len {k : Nat} (hk : k < ss.length) : ((tsOf ss).getD k PySem.Str.empty).length = (ss.getD k 0).toNat := by
  rw [List.getD_eq_getElem?_getD, tsOf_at S hk, Option.getD_some, bitT_length, bitsL_length]
theorem wsum_mono_le {i j : Nat} (h : i ≤ j) : wsum ss i ≤ wsum ss j := by
  induction j with
  | zero => rw [Nat.le_zero.mp h]; exact Int.le_refl _
  | succ j ih =>
    rcases Nat.lt_or_ge j i with h1 | h1
    · rw [show i = j + 1 by omega]; exact Int.le_refl _
    · rw [wsum_succ]
      have := wt_pos ((j : Int) + 1)
      have h2 : 0 ≤ (eqN ss j : Int) * wt (j + 1) := Int.mul_nonneg (by omega) (Int.le_of_lt this)
      have := ih h1
      omega
theorem misses_before {b : Array UInt8} {p i q : Nat} (hi : i ≤ 6) (hq : q < eqN ss i) (hv : vAt b p (i + 1) = codeAt ks i + q) {j : Nat} (hj : j < i) : missAt b p ks j := by
  unfold missAt
  rw [S.count j (by omega)]
  have h1 : wsum ss (j + 1) = (codeAt ks j + eqN ss j) * 2 ^ (6 - j) := by
    rw [wsum_succ, ← codeAt_w S (i := j) (by omega), Int.add_mul]
    unfold wt
    rw [show (7 - ((j : Int) + 1)).toNat = 6 - j by omega]
  have h2 : wsum ss (j + 1) ≤ wsum ss i := wsum_mono_le S hj
  rw [← codeAt_w S hi, h1, show 6 - j = (i - j) + (6 - i) by omega, Int.pow_add, ← Int.mul_assoc] at h2
  have h3 := Int.le_of_mul_le_mul_right h2 (Int.pow_pos (by decide))
  rw [vAt_div b p (j + 1) (i - j), show j + 1 + (i - j) = i + 1 by omega, hv]
  have h4 := (Int.le_ediv_iff_mul_le (b := codeAt ks i + q) (a := codeAt ks j + eqN ss j) (c := 2 ^ (i - j)) (Int.pow_pos (by decide))).mpr (by omega)
  omega
theorem hM1_of {b : Array UInt8} (hb : b.size = 3) (hU : usum ss ss.length < 128) : ∀ p k : Nat, p ≤ 24 → (matchIdx b (tsOf ss) p)[0]? = some k → ∃ i, i < 16 ∧ p + i < 24 ∧ (∀ j < i, missAt b p ks j) ∧ ¬ missAt b p ks i ∧ (placeAt ks i + vAt b p (i + 1) - codeAt ks i).toNat = k ∧ ((tsOf ss).getD k PySem.Str.empty).length = i + 1 := by
  intro p k hp hk
  have hm := List.mem_of_getElem? hk
  obtain ⟨hk1, hk2⟩ := List.mem_filter.mp hm
  rw [List.mem_range, tsOf_length] at hk1
  have hkl := hk1
  obtain ⟨hle, hv⟩ := (match_iff S hb hU hp hk1).mp hk2
  have hlen := tsOf_getD_len S hk1
  obtain ⟨i, q, hi, hq, rfl, e⟩ := find_place S hk1
  rw [e, show ((i : Int) + 1).toNat = i + 1 by omega] at hle hv hlen
  rw [cdOf_at S hi hq] at hv
  refine ⟨i, by omega, by omega, fun j hj => misses_before S hi hq hv hj, ?_, ?_, hlen⟩
  · unfold missAt
    rw [S.count i (by omega), hv]
    omega
  · rw [placeAt_eq S (by omega), hv]
    omega
theorem hM0_of {b : Array UInt8} (hb : b.size = 3) (hU : usum ss ss.length < 128) : ∀ p : Nat, p ≤ 24 → matchIdx b (tsOf ss) p = [] → ∀ i : Nat, i < 16 → p + i < 24 → (∀ j < i, missAt b p ks j) → missAt b p ks i := by
  intro p hp hnil i hi hpi hmiss
  unfold missAt
  rw [S.count i hi]
  apply Int.le_of_not_gt
  intro hlt
  have hge := vAt_ge hmiss
  have e : vAt b p (i + 1) = vAt b p i * 2 + bitOf (KBw.bInts b) ((p : Int) + i) := rfl
  rw [← e] at hge
  obtain ⟨q, hq⟩ : ∃ q : Nat, vAt b p (i + 1) = codeAt ks i + q := ⟨(vAt b p (i + 1) - codeAt ks i).toNat, by omega⟩
  have hq' : q < eqN ss i := by omega
  have hi6 := eqN_pos S (i := i) (by omega)
  have hk : ltN ss i + q < ss.length := by have := lt_eq_le S i; omega
  have hsz : ss.getD (ltN ss i + q) 0 = (i : Int) + 1 := by rw [List.getD_eq_getElem?_getD, at_place S hq']; rfl
  have hmem : ltN ss i + q ∈ matchIdx b (tsOf ss) p := by
    refine List.mem_filter.mpr ⟨List.mem_range.mpr (by rw [tsOf_length]; exact hk), (match_iff S hb hU hp hk).mpr ?_⟩
    rw [hsz, show ((i : Int) + 1).toNat = i + 1 by omega, cdOf_at S hi6 hq']
    exact ⟨by omega, hq⟩
  rw [hnil] at hmem
  cases hmem
theorem hpl_of : ∀ i < 16, placeAt ks i + ks.getD i 0 ≤ (tsOf ss).length := fun i hi => by
  rw [placeAt_eq S (by omega), S.count i hi, tsOf_length]
  have := lt_eq_le S i
  omega
theorem hC_of : ∀ i < 16, (List.range (ks.getD i 0).toNat).map (fun k => bitT (bitsL (codeAt ks i + (k : Nat)) (i + 1))) = ((tsOf ss).drop (placeAt ks i).toNat).take (ks.getD i 0).toNat := fun i hi => by
  rw [placeAt_eq S (by omega), S.count i hi]
  simp only [Int.toNat_natCast]
  have hle := lt_eq_le S i
  apply List.ext_getElem?
  intro k
  by_cases hk : k < eqN ss i
  · have hi6 := eqN_pos S (i := i) (by omega)
    have hsz : ss.getD (ltN ss i + k) 0 = (i : Int) + 1 := by rw [List.getD_eq_getElem?_getD, at_place S hk]; rfl
    rw [List.getElem?_map, List.getElem?_range hk, List.getElem?_take, if_pos hk, List.getElem?_drop, tsOf_at S (by omega), hsz, cdOf_at S hi6 hk, show ((i : Int) + 1).toNat = i + 1 by omega]
    rfl
  · rw [List.getElem?_eq_none (by simp; omega), List.getElem?_eq_none (by simp; omega)]
theorem hbnd_of (hU : usum ss ss.length < 128) : ∀ i < 16, 0 < ks.getD i 0 → codeAt ks i + ks.getD i 0 ≤ 2 ^ 16 := fun i hi h => by
  have h1 := ok_of S hU hi
  have h2 : ¬ (2 : Int) ^ (i + 1) ≤ codeAt ks i + ks.getD i 0 := fun q => h1 ⟨q, h⟩
  have h3 : ((2 ^ (i + 1) : Nat) : Int) ≤ ((2 ^ 16 : Nat) : Int) := Int.ofNat_le.mpr (Nat.pow_le_pow_right (by decide) (by omega))
  rw [Int.natCast_pow, Int.natCast_pow] at h3
  change (2 : Int) ^ (i + 1) ≤ (2 : Int) ^ 16 at h3
  omega
theorem hok_of : ∀ t ∈ tsOf ss, PyData.strOk t = true := fun t ht => by
  obtain ⟨k, _, rfl⟩ := List.mem_map.mp ht
  exact strOk_bitT bitsL_lt
theorem hB_of : ∀ i < 16, placeAt ks i = (((ss.filter fun x => decide (x < (i : Int) + 1)).length : Nat) : Int) := fun i hi => placeAt_eq S (by omega)
end
end
section
open PySem PySem.W PyProof.Rows PySem.Calls
theorem codes_find {ss ks sy : List Int} (S : Sizes ss ks) {ex : List (Addr × Obj)} {kvs : List (Int × Value)} (C : CodesAt ex kvs sy ks sy.length) (hl : sy.length = ss.length) (hnd : sy.Nodup) {k : Nat} (hk : k < ss.length) :
    ∃ T t u, valueAt kvs (sy.getD k 0) = some (.ref T) ∧ (T, tup2 (cdOf ss k) (ss.getD k 0) t u) ∈ ex := by
  obtain ⟨c1, c2, c3⟩ := C
  have hm : kvs.map (·.1) = sy := by
    apply List.ext_getElem?
    intro q
    rw [List.getElem?_map]
    by_cases hq : q < kvs.length
    · obtain ⟨T, hT⟩ := c2 q hq
      have hq' : q < sy.length := by omega
      rw [hT, List.getElem?_eq_getElem hq', List.getD_eq_getElem?_getD, List.getElem?_eq_getElem hq']; rfl
    · rw [List.getElem?_eq_none (by omega), List.getElem?_eq_none (by omega)]; rfl
  obtain ⟨i, q, hi, hq, rfl, e⟩ := find_place S hk
  have hp := placeAt_eq S (i := i) (by omega)
  obtain ⟨T, t, u, h1, h2⟩ := c3 i q (by omega) (by rw [S.count i (by omega)]; omega) (by omega)
  rw [show (placeAt ks i + q).toNat = ltN ss i + q by omega] at h1
  refine ⟨T, t, u, valueAt_of_get (by rw [hm]; exact hnd) h1, ?_⟩
  rw [cdOf_at S hi hq, e]
  exact h2
section
variable {prog : Program} {w : World} {A : Around} {E : Value → Shared → Prop} {s : Shared} {Q : Value → Shared → Prop}
theorem call_int2v {bs : List Nat} {u t : Tok} {v : Int} (h : (∀ b ∈ bs, b < 2) ∧ bs ≠ [] ∧ bs.length ≤ 640 ∧ (bval bs : Int) = v) (hq : Q (.int v s.toks) { s with toks := s.toks + 1 }) :
    wpAny (model prog w) A (call (.type "int") [.str (bitT bs) u, .int 2 t]) Q E s := by
  obtain ⟨a, b, c, rfl⟩ := h
  exact call_int2 a b c hq
theorem item_atL {value slice : PySem.Expr} {l : Addr} {items : Array Value} {n : Nat} {k : Int} {u : Tok} {x : Value} {nw : List (Addr × Obj)} {h₀ : Heap} {L : Addr} (N : News h₀ L s.heap nw) (hm : (l, listOf items n) ∈ nw) (hx : items[k.toNat]? = some x) (h0 : 0 ≤ k) (hfit : k < 2 ^ 63) (h : Q x s)
    (hs : subscripted slice false (.ref l) (.int k u) = operate [.ref l, .int k u] (getItem (.ref l) (.int k u)) := by with_unfolding_all rfl) :
    wpAny (model prog w) A (subscriptTail value slice (.ref l) (.int k u)) Q E s := item_listR (News.isList N hm) h0 hfit hx h hs
end
end
section
local macro_rules | `(tactic| walk_at "subscriptTail Name Name ref int") => `(tactic| (k_here; (with_reducible show wpAny _ _ (subscriptTail (Expr.Name ("symbols" : PySem.Str) _) _ (Value.ref _) (Value.int _ _)) _ _ _); k_dflt (refine' item_atL ?k1 ?k2 ?k3 ?k4 ?k5 ?_; (case k1 => k_asm); (case k2 => k_mem); (case k3 => with_reducible assumption); (case k4 | k5 => omega); k_whole)))
local macro_rules | `(tactic| walk_at "subscriptTail Name Name ref int") => `(tactic| (k_here; (with_reducible show wpAny _ _ (subscriptTail (Expr.Name ("chosen" : PySem.Str) _) _ (Value.ref _) (Value.int _ _)) _ _ _); k_dflt (refine' item_atL ?k1 ?k2 ?k3 ?k4 ?k5 ?_; (case k1 => k_asm); (case k2 => k_mem); (case k3 => with_reducible assumption); (case k4 | k5 => omega); k_whole)))
local macro_rules | `(tactic| walk_at "subscriptTail Name Name ref int") => `(tactic| (k_here; (with_reducible show wpAny _ _ (subscriptTail (Expr.Name ("sizes" : PySem.Str) _) _ (Value.ref _) (Value.int _ _)) _ _ _); k_dflt (refine' item_atL ?k1 ?k2 ?k3 ?k4 ?k5 ?_; (case k1 => k_asm); (case k2 => k_mem); (case k3 => with_reducible assumption); (case k4 | k5 => omega); k_whole)))
local macro_rules | `(tactic| walk_at "call type:int") => `(tactic| (k_here; (with_reducible show wpAny _ _ (call (Value.type "int") [Value.str _ _, Value.int _ _]) _ _ _); (refine call_int2v (by with_reducible assumption) ?_)))
local macro_rules | `(tactic| walk_at "call builtin:len") => `(tactic| (k_here; (with_reducible show wpAny _ _ (call (Value.builtin "len") [Value.ref _]) _ _ _); k_dflt (refine' Mine.len_listN ?k1 ?k2 ?k3 ?k4 ?_; (case k1 => k_asm); (case k2 => k_mem); (case k3 => with_reducible assumption); (case k4 => omega); k_whole)))
local macro_rules | `(tactic| walk_at "call ref") => `(tactic| (k_here; (with_reducible show wpAny _ _ (call (Value.ref (175 : Addr)) [Value.ref _, Value.int _ _]) _ _ _); k_dflt (refine' take_spec ?k1 ?k2 ?k3 ?k4 ?k5 ?k6 ?k7 ?k8 ?k9 ?k10 ?k11 ?k12 ?k13 ?k14 ?_; (case k1 | k2 | k3 | k4 | k5 => k_asm); (case k6 => first | exact rfl | assumption); (case k7 => intro x' y' tx' ty'; k_upd); (case k8 | k9 | k10 | k11 | k12 => omega); (case k13 => ktr_room); (case k14 => ktr_units); k_whole); intro x' y' r' tx' ty' tr' h' tk' hx0' hy0' hy1' hr0' hr1' F' N'))
theorem news_front3 {h₀ h : Heap} {L : Addr} {nw : List (Addr × Obj)} {a b c : Addr × Obj} (N : News h₀ L h nw) (m1 : a ∈ nw) (m2 : b ∈ nw) (m3 : c ∈ nw) : News h₀ L h (a :: b :: c :: nw) := fun p hp => by
  rcases List.mem_cons.mp hp with rfl | hp
  · exact N _ m1
  rcases List.mem_cons.mp hp with rfl | hp
  · exact N _ m2
  rcases List.mem_cons.mp hp with rfl | hp
  · exact N _ m3
  exact N _ hp
theorem news_front1 {h₀ h : Heap} {L : Addr} {nw : List (Addr × Obj)} {a : Addr × Obj} (N : News h₀ L h nw) (m1 : a ∈ nw) : News h₀ L h (a :: nw) := fun p hp => by
  rcases List.mem_cons.mp hp with rfl | hp
  · exact N _ m1
  exact N _ hp
theorem news_abs {h₀ h : Heap} {L : Addr} {nw : List (Addr × Obj)} (N : News h₀ L h nw) : ∃ base, base = nw ∧ News h₀ L h base := ⟨nw, rfl, N⟩
def CutEnd (P : Shared → Prop) (f : Flow) (s' : Shared) : Prop := f = .next ∧ P s'
theorem CutEnd.intro {P : Shared → Prop} {s' : Shared} (h : P s') : CutEnd P .next s' := ⟨rfl, h⟩
theorem stCut {P : Shared → Prop} {f : Flow} {s' : Shared} (h : CutEnd P f s') : CutEnd P f s' := h
local macro_rules | `(tactic| k_qdec) => `(tactic| decide +kernel)
theorem cut_next {M : Model} {A : Around} {E : Value → Shared → Prop} {s : Shared} {tree : Sem Flow} {Q : Flow → Shared → Prop} (P : Shared → Prop) (h1 : wpAny M A tree (CutEnd P) E s) (h2 : ∀ s', P s' → Q .next s') : wpAny M A tree Q E s :=
  wpAny_mono h1 (fun f s' h => h.1 ▸ h2 s' h.2) (fun _ _ e => e)
local macro_rules | `(tactic| k_steps) => `(tactic| repeat' ((fail_if_success (with_reducible first | refine stCall 168 ?_ | refine stCall 185 ?_ | refine stCall 192 ?_ | refine stCall 115 ?_ | refine stCall 77 ?_ | refine stCall 197 ?_ | refine stCall 105 ?_ | refine stCall 209 ?_ | refine stCut ?_ | refine stIfE ?_ | refine stIf ?_)); tb_rel))
theorem fr_abs {h₀ h : Heap} {L : Addr} {m : PySem.Str → Option Value} (F : Fr h₀ L h m) : ∃ m', Fr h₀ L h m' ∧ m' = m := ⟨m, F, rfl⟩
set_option maxHeartbeats 8000000 in
theorem law_holds : PySem.Challenge.rw_ok0132_02.Holds := hdx (by
  k_go0
  all_goals try k_fold
  rename_i h0 tk0 F0 oc3 oc2 oc1 dc3 dc2 dc1 N0 X0
  rename Shared => s1
  have hend : ∀ (h : Heap) (tk : Nat) (m : PySem.Str → Option Value), Fr s1.heap s1.heap.objs.size h m → qk (Flow.ret (.bool true)) { s1 with heap := h, toks := tk } := by
    clear F0 N0
    intro h tk m F
    k_steps
  k_steps
  k_dflt (refine' pool_spec ?k1 ?k2 ?k3 ?k4 ?k5 ?k6 ?k7 ?k8 ?k9 ?k10 ?k11 ?_; (case k1 | k2 | k3 | k4 | k5 => k_asm); (case k6 => first | exact rfl | assumption); (case k7 | k8 => with_reducible assumption); (case k9 => omega); (case k10 => ktr_room); (case k11 => ktr_units); k_whole)
  intro _ _ _ _ _ _ _ _ _ _ _ _ _ _
  k_steps
  rename World => ww
  rename_i x0 y0 tx0 ty0 n0 d h1 tk1 hx0 hy0 hy1 F1 N1 l1 h2 oS F2 N2 dS
  simp only [List.cons_append, List.nil_append] at N2
  obtain ⟨m0, F2, hm0⟩ := fr_abs F2
  have hdL : @LT.lt Nat _ (s1.heap.objs.size + 1 + 1 + 1) d := l1 (s1.heap.objs.size + 1 + 1 + 1, oc3) (by simp)
  clear F1 F0 N1 N0
  refine cut_next (fun s' => ∃ (h : Heap) (tk : Nat) (oM : Obj) (mo : Int) (tm : Tok), (mo = 5 ∨ mo = 7) ∧ s' = { s1 with heap := h, toks := tk } ∧ Fr s1.heap s1.heap.objs.size h m0 ∧ News s1.heap s1.heap.objs.size h [(d, srcO x0 y0 tx0 ty0 n0), (s1.heap.objs.size + 1 + 1 + 1, oc3), (s1.heap.objs.size + 1 + 1, oM), (s1.heap.objs.size + 1, oS)] ∧ oM.data = .cell (some (.int mo tm))) ?st2 ?st3
  case st2 =>
    walk1
    k_steps
    · rename _ = Data.cell (some (Value.int 7 _)) => dM
      rename Fr _ _ _ _ => F3
      rename News _ _ _ _ => N3
      exact CutEnd.intro ⟨_, _, _, _, _, .inr rfl, rfl, F3, N3, dM⟩
    · rename _ = Data.cell (some (Value.int 5 _)) => dM
      rename Fr _ _ _ _ => F3
      rename News _ _ _ _ => N3
      exact CutEnd.intro ⟨_, _, _, _, _, .inl rfl, rfl, F3, N3, dM⟩
  case st3 =>
    clear F2 N2
    rintro s' ⟨h2, tk2, oM, mo, tm, hmo, rfl, F2, N2, dM⟩
    dsimp only
    k_steps
    refine cut_next (fun s' => ∃ (h : Heap) (tk : Nat) (oZ : Obj) (x1 y1 : Int) (tx1 ty1 : Tok) (D : Addr) (ys : List Value) (zs : List Int) (tz : Nat), 0 ≤ x1 ∧ 0 ≤ y1 ∧ y1 < 2147483647 ∧ s' = { s1 with heap := h, toks := tk } ∧ IntsAre ys zs ∧ (∀ z ∈ zs, 1 ≤ z ∧ z ≤ mo) ∧ zs.length ≤ 8 ∧ @Ne Nat d D ∧ @Ne Nat (s1.heap.objs.size + 1 + 1 + 1) D ∧ @Ne Nat (s1.heap.objs.size + 1 + 1) D ∧ @Ne Nat (s1.heap.objs.size + 1) D ∧ Fr s1.heap s1.heap.objs.size h m0 ∧ News s1.heap s1.heap.objs.size h [(D, LCg.lst ys), (d, srcO x1 y1 tx1 ty1 n0), (s1.heap.objs.size + 1 + 1 + 1, oZ), (s1.heap.objs.size + 1 + 1, oM), (s1.heap.objs.size + 1, oS)] ∧ oZ.data = .cell (some (.ref D))) ?st4 ?st5
    case st4 =>
      walk1
      k_dflt (refine ListComp_W (F₀ := by k_asm) (by with_unfolding_all rfl) (by decide) (by rfl) (by decide) (by rfl) ?_)
      k_steps
      rename IsRange _ _ _ _ _ _ _ _ => hrg
      rename_i x1 y1 r1 tx1 ty1 tr1 h3 tk3 hx1 hy1 hy1b hr0 hr1 F3 N3 h4 tk4 t1 u1 v1 F4 N4 kp
      have hru := range_up (y := 1 + r1) (by omega) (by omega)
      refine SrcW.intro (n := (1 + r1).toNat) (iterAs_range (by exact rfl) hrg hru.1 hru.2) F4 N4 (by rw [sizeLine_eq]; omega) trivial
        (fun i ys nw => ∃ (x1 y1 : Int) (tx1 ty1 : Tok) (zs : List Int), 0 ≤ x1 ∧ 0 ≤ y1 ∧ y1 < 2147483647 ∧ nw = [(d, srcO x1 y1 tx1 ty1 n0), (s1.heap.objs.size + 1 + 1 + 1, oc3), (s1.heap.objs.size + 1 + 1, oM), (s1.heap.objs.size + 1, oS)] ∧ IntsAre ys zs ∧ (∀ z ∈ zs, 1 ≤ z ∧ z ≤ mo) ∧ zs.length = i)
        ⟨x1, y1, tx1, ty1, [], hx1, hy1, hy1b, rfl, .nil, by simp, rfl⟩ ?turn4 ?fin4
      case turn4 =>
        rintro hh i ys nw v I oI C oC D m₂ h tk E' hi hv ⟨x1, y1, tx1, ty1, zs, hx1, hy1, hy1b, rfl, hys, hzs, hzl⟩ hC hx F N O D3
        clear N4 F4 N3 F3 N2 F2
        obtain ⟨⟨o1, o2, o3⟩, ⟨o4, o5, o6⟩, ⟨o7, o8, o9⟩, ⟨p1, p2, p3⟩, _⟩ := O
        obtain ⟨q1, q2, q3⟩ := D3
        k_steps
        rename_i x2 y2 r2 tx2 ty2 tr2 h5 tk5 hx2 hy2 hy2b hr20 hr21 F5 N5
        refine LCg.CompEnd.intro F5 N5 _ (fun p hp => hp) ⟨⟨o1, o2, o3⟩, ⟨o4, o5, o6⟩, ⟨o7, o8, o9⟩, ⟨p1, p2, p3⟩, trivial⟩ trivial ⟨x2, y2, tx2, ty2, zs ++ [1 + r2], hx2, hy2, hy2b, rfl, ints_snoc hys, fun z hz => ?_, by simp [hzl]⟩
        rcases List.mem_append.mp hz with hz | hz
        · exact hzs z hz
        · rw [List.mem_singleton.mp hz]; omega
      rintro hh ys nw ⟨x1, y1, tx1, ty1, zs, hx1, hy1, hy1b, rfl, hys, hzs, hzl⟩ D h tk F N O
      clear N4 F4 N3 F3 N2 F2
      obtain ⟨o1, o2, o3, o4, _⟩ := O
      k_steps
      rename _ = Data.cell (some (Value.ref D)) => dZ
      rename Fr _ _ _ _ => F3
      rename News _ _ _ _ => N3
      exact CutEnd.intro ⟨_, _, _, x1, y1, tx1, ty1, D, ys, zs, 0, hx1, hy1, hy1b, rfl, hys, hzs, by omega, o1, o2, o3, o4, F3, N3, dZ⟩
    clear F2 N2
    rintro s' ⟨h3, tk3, oZ, x1, y1, tx1, ty1, D, ys, zs, tz, hx1, hy1, hy1b, rfl, hys, hzs, hzl, o1, o2, o3, o4, F3, N3, dZ⟩
    dsimp only
    k_steps
    refine cut_next (fun s' => ∃ (h : Heap) (tk : Nat) (oZ : Obj) (x1 y1 : Int) (tx1 ty1 : Tok) (D : Addr) (ys : List Value) (zs : List Int), 0 ≤ x1 ∧ 0 ≤ y1 ∧ y1 < 2147483647 ∧ s' = { s1 with heap := h, toks := tk } ∧ IntsAre ys zs ∧ (∀ z ∈ zs, 1 ≤ z ∧ z ≤ mo) ∧ zs.length ≤ 8 ∧ @Ne Nat d D ∧ @Ne Nat (s1.heap.objs.size + 1 + 1 + 1) D ∧ @Ne Nat (s1.heap.objs.size + 1 + 1) D ∧ @Ne Nat (s1.heap.objs.size + 1) D ∧ Fr s1.heap s1.heap.objs.size h m0 ∧ News s1.heap s1.heap.objs.size h [(D, LCg.lst ys), (d, srcO x1 y1 tx1 ty1 n0), (s1.heap.objs.size + 1 + 1 + 1, oZ), (s1.heap.objs.size + 1 + 1, oM), (s1.heap.objs.size + 1, oS)] ∧ oZ.data = .cell (some (.ref D))) ?st6 ?st7
    case st6 =>
      walk1
      k_steps
      · rename_i x2 y2 r2 tx2 ty2 tr2 h5 tk5 hx2 hy2 hy2b hr20 hr21 F5 N5 hpos
        walk1
        k_dflt (refine ListComp_W (F₀ := by k_asm) (by with_unfolding_all rfl) (by decide) (by rfl) (by decide) (by rfl) ?_)
        k_steps
        refine SrcW.pure (n := ys.toArray.size) (S := LCg.SrcAt _ D ys.toArray) (iterAs_list (by exact rfl) (by k_asm) N5 (.inr ⟨_, List.mem_cons_self .., rfl, _, rfl⟩)) (by k_asm) N5 (by rw [sizeLine_eq, List.size_toArray, hys.length]; omega) (.inr ⟨_, List.mem_cons_self .., rfl, _, rfl⟩)
          (fun i us => ∃ ws : List Int, IntsAre us ws ∧ (∀ z ∈ ws, 1 ≤ z ∧ z ≤ mo) ∧ ws.length = i) ⟨[], .nil, by simp, rfl⟩ ?turn6 ?fin6
        case turn6 =>
          rintro hh i us v I oI C oC D2 m₂ h tk E' hi hv ⟨ws, hus, hws, hwl⟩ hC hx F N O D3
          obtain ⟨x, tx', rfl, hx'⟩ := hys.at i v (by simpa using hv)
          have hxz := hzs x (List.mem_of_getElem? hx')
          clear N5 F5 N3 F3
          k_steps
          rename Fr _ _ _ _ => F6
          rename News _ _ _ _ => N6
          refine LCg.CompEnd.intro F6 N6 _ (fun p hp => hp) O (.inr ⟨_, List.mem_cons_self .., rfl, _, rfl⟩) ⟨rfl, _, ints_snoc hus, fun z hz => ?_, by simp [hwl]⟩
          rcases List.mem_append.mp hz with hz | hz
          · exact hws z hz
          · rw [List.mem_singleton.mp hz]; split <;> omega
        rintro hh us ⟨ws, hus, hws, hwl⟩ D2 h tk F N O
        obtain ⟨p1, p2, p3, p4, p5, _⟩ := O
        clear N5 F5 N3 F3
        k_steps
        rename _ = Data.cell (some (Value.ref D2)) => dZ2
        rename Fr _ _ _ _ => F6
        rename News _ _ _ _ => N6
        exact CutEnd.intro ⟨_, _, _, x2, y2, tx2, ty2, D2, us, ws, hx2, hy2, hy2b, rfl, hus, hws, by have := hys.length; simp at hwl; omega, p2, p3, p4, p5, F6, by refine' cb_drop ?cbN ?cbS; (case cbN => exact N6); (case cbS => kcj_all), dZ2⟩
      · rename_i x2 y2 r2 tx2 ty2 tr2 h5 tk5 hx2 hy2 hy2b hr20 hr21 F5 N5 hpos
        exact CutEnd.intro ⟨_, _, _, x2, y2, tx2, ty2, D, ys, zs, hx2, hy2, hy2b, rfl, hys, hzs, hzl, o1, o2, o3, o4, F5, N5, dZ⟩
    clear F3 N3 dZ oZ o1 o2 o3 o4 hys hzs hzl
    clear zs ys hx1 hy1 hy1b x1 y1 D
    rintro s' ⟨h3, tk3, oZ, x1, y1, tx1, ty1, D, ys, zs, hx1, hy1, hy1b, rfl, hys, hzs, hzl, o1, o2, o3, o4, F3, N3, dZ⟩
    dsimp only
    walk1
    refine cut_next (fun s' => ∃ (h : Heap) (tk : Nat) (oZ : Obj) (D : Addr) (vs : List Value) (ss : List Int) (n : Nat), s' = { s1 with heap := h, toks := tk } ∧ IntsAre vs ss ∧ ss.Pairwise (· ≤ ·) ∧ (∀ z ∈ ss, 1 ≤ z ∧ z ≤ 7) ∧ ss.length ≤ 8 ∧ @Ne Nat d D ∧ @Ne Nat (s1.heap.objs.size + 1 + 1 + 1) D ∧ @Ne Nat (s1.heap.objs.size + 1 + 1) D ∧ @Ne Nat (s1.heap.objs.size + 1) D ∧ Fr s1.heap s1.heap.objs.size h m0 ∧ News s1.heap s1.heap.objs.size h [(D, listOf vs.toArray n), (d, srcO x1 y1 tx1 ty1 n0), (s1.heap.objs.size + 1 + 1 + 1, oZ), (s1.heap.objs.size + 1 + 1, oM), (s1.heap.objs.size + 1, oS)] ∧ oZ.data = .cell (some (.ref D))) ?st8 ?st9
    case st8 =>
      walk1
      k_steps
      k_dflt (refine ListComp_W (F₀ := by k_asm) (by with_unfolding_all rfl) (by decide) (by rfl) (by decide) (by rfl) ?_)
      k_steps
      refine SrcW.pure (n := ys.toArray.size) (S := LCg.SrcAt _ D ys.toArray) (iterAs_list (by exact rfl) (by k_asm) N3 (.inr ⟨_, List.mem_cons_self .., rfl, _, rfl⟩)) (by k_asm) N3 (by rw [sizeLine_eq, List.size_toArray, hys.length]; omega) (.inr ⟨_, List.mem_cons_self .., rfl, _, rfl⟩)
        (fun i us => IntsAre us (zs.take i)) .nil ?turn8 ?fin8
      case turn8 =>
        rintro hh i us v I oI C oC D2 m₂ h tk E' hi hv hus hC hx F N O D3
        obtain ⟨x, tx', rfl, hx'⟩ := hys.at i v (by simpa using hv)
        clear N3 F3
        k_steps
        rename Fr _ _ _ _ => F6
        rename News _ _ _ _ => N6
        refine LCg.CompEnd.intro F6 N6 _ (fun p hp => hp) O (.inr ⟨_, List.mem_cons_self .., rfl, _, rfl⟩) ⟨rfl, ?_⟩
        rw [List.take_add_one, hx']
        exact ints_snoc hus
      rintro hh us hus D2 h tk F N O
      obtain ⟨p1, p2, p3, p4, p5, _⟩ := O
      rw [List.take_of_length_le (by rw [List.size_toArray, hys.length]; exact Nat.le_refl _)] at hus
      clear N3 F3
      have hul := hus.length
      k_steps
      rename_i D3 vs ss c h6 hvs hsl hsp hso hb hp0 l3 h7 oZ2 F7 N7 dZ2
      exact CutEnd.intro ⟨_, _, oZ2, D3, vs, ss, c, rfl, hvs, hso, fun z hz => by have := hzs z (hsp.mem_iff.mp hz); omega, by omega, Nat.ne_of_lt l3.2.2.1, Nat.ne_of_lt l3.2.2.2.1, Nat.ne_of_lt l3.2.2.2.2.1, Nat.ne_of_lt l3.2.2.2.2.2, F7, by refine' cb_drop ?cbN ?cbS; (case cbN => exact N7); (case cbS => kcj_all), dZ2⟩
    clear F3 N3 dZ oZ o1 o2 o3 o4 hys hzs hzl zs ys D
    rintro s' ⟨h3, tk3, oZ, D, vs, ss, ns, rfl, hvs, hso, hs17, hsl, o1, o2, o3, o4, F3, N3, dZ⟩
    dsimp only
    k_steps
    refine cut_next (fun s' => ∃ (h : Heap) (tk : Nat) (cx : Addr) (us : List Value) (m1 : PySem.Str → Option Value), s' = { s1 with heap := h, toks := tk } ∧ IntsAre us (ksOf ss) ∧ @Ne Nat d cx ∧ @Ne Nat (s1.heap.objs.size + 1 + 1 + 1) cx ∧ @Ne Nat (s1.heap.objs.size + 1 + 1) cx ∧ @Ne Nat (s1.heap.objs.size + 1) cx ∧ @Ne Nat D cx ∧ m1 "counts" = some (.ref cx) ∧ Fr s1.heap s1.heap.objs.size h m1 ∧ News s1.heap s1.heap.objs.size h [(cx, LCg.lst us), (D, listOf vs.toArray ns), (d, srcO x1 y1 tx1 ty1 n0), (s1.heap.objs.size + 1 + 1 + 1, oZ), (s1.heap.objs.size + 1 + 1, oM), (s1.heap.objs.size + 1, oS)]) ?st10 ?st11
    case st10 =>
      k_dflt (refine Assign_ListComp_ZF (F₀ := by k_asm) rfl (by with_unfolding_all rfl) (by with_unfolding_all rfl) (fun _ _ => ⟨rfl, rfl⟩) (by rfl) (by decide) (by rfl) (by rfl) (by rfl) ?_)
      k_steps
      rename IsRange _ _ _ _ _ _ _ _ => hrg
      rename News _ _ _ _ => N4
      rename Fr _ _ _ _ => F4
      refine SrcZ.pure0 (n := 16) (S := fun _ => True) (iterAs_range (by exact rfl) hrg (by decide) (by decide)) F4 N4 (by rw [sizeLine_eq]; decide) trivial (fun _ _ _ _ _ _ => trivial)
        (fun i us => IntsAre us ((List.range i).map fun j => (eqN ss j : Int))) .nil ?turn10 ?fin10
      case turn10 =>
        rintro hh i us v I oI C oC Z oZ' D2 h tk E' hi ⟨t, hv⟩ hus hoZ' F N O hZn D3
        rw [show (1 + (i : Int) * 1) = i + 1 by omega] at hv
        subst hv
        clear N4 F4
        k_steps
        k_dflt (refine LCt.ListComp_T (F₀ := by k_asm) (by with_unfolding_all rfl) (by decide) (by rfl) (by decide) (by rfl) ?_)
        k_steps
        refine SrcT.pureL (by exact rfl) F N (by k_mem) (by rw [sizeLine_eq, List.size_toArray, hvs.length]; omega) (fun j ws => IntsAre ws ((ss.take j).filter fun x => decide (x = (i : Int) + 1))) .nil ?turn11 ?fin11
        case turn11 =>
          rintro g3 j ws v3 I3 oI3 C3 oC3 D4 m3 h3 tk3 E3 hj hv3 hw hC3 hx3 F5 N5 O5 D35
          obtain ⟨x, tx', rfl, hx'⟩ := hvs.at j v3 (by simpa using hv3)
          clear N F
          k_steps
          · refine LCg.CompEnd.intro F5 N5 _ (fun p hp => hp) O5 (.inr ⟨_, by k_mem, rfl, _, rfl⟩) ⟨rfl, ?_⟩
            rename x = _ => he
            rw [filt_step hx', decide_eq_true he]
            exact ints_snoc hw
          · refine LCg.CompEnd.intro F5 N5 _ (fun p hp => hp) O5 (.inr ⟨_, by k_mem, rfl, _, rfl⟩) ⟨rfl, ?_⟩
            rename x ≠ _ => he
            rw [filt_step hx', decide_eq_false he]
            simp only [Bool.false_eq_true, if_false, List.append_nil]
            exact hw
        rintro g3 ws hw D4 h4 tk4 F5 N5 O5
        rw [List.take_of_length_le (by rw [List.size_toArray, hvs.length]; exact Nat.le_refl _)] at hw
        have hwl := hw.length
        have hf1 : (ss.filter fun x => decide (x = (i : Int) + 1)).length ≤ 8 := Nat.le_trans (List.length_filter_le ..) hsl
        clear N F
        k_steps
        refine LCg.CompEnd.intro F5 (all := (I, oI) :: (C, oC) :: (D2, LCg.lst us) :: (Z, oZ') :: _) (by refine' cb_drop ?cbN ?cbS; (case cbN => exact N5); (case cbS => kcj_all)) _ (fun p hp => hp) O trivial ⟨rfl, ?_⟩
        rw [List.range_succ, List.map_append]
        exact ints_snoc hus
      rintro hh us hus cx h tk F N O
      obtain ⟨p1, p2, p3, p4, p5, _⟩ := O
      clear N4 F4
      k_steps
      rename Fr _ _ _ _ => F6
      rename News _ _ _ _ => N6
      exact CutEnd.intro ⟨_, _, cx, us, _, rfl, hus, p2, p3, p4, p5, p1, by with_unfolding_all rfl, F6, N6⟩
    clear F3 N3
    rintro s' ⟨h3, tk3, cx, us, m1, rfl, hus, c1, c2, c3, c4, c5, hm1, F3, N3⟩
    replace F3 := fr_cast F3 (pin hm1 rfl)
    dsimp only
    k_steps
    refine cut_next (fun s' => ∃ (h : Heap) (tk : Nat) (sx : Addr) (ws : List Value) (sy : List Int) (m2 : PySem.Str → Option Value) (x1 y1 : Int) (tx1 ty1 : Tok), s' = { s1 with heap := h, toks := tk } ∧ 0 ≤ x1 ∧ 0 ≤ y1 ∧ y1 < 2147483647 ∧ IntsAre ws sy ∧ SymsOk sy ∧ sy.length = ss.length ∧ @Ne Nat cx sx ∧ @Ne Nat d sx ∧ @Ne Nat (s1.heap.objs.size + 1 + 1 + 1) sx ∧ @Ne Nat (s1.heap.objs.size + 1 + 1) sx ∧ @Ne Nat (s1.heap.objs.size + 1) sx ∧ @Ne Nat D sx ∧ m2 "counts" = some (.ref cx) ∧ m2 "symbols" = some (.ref sx) ∧ Fr s1.heap s1.heap.objs.size h m2 ∧ News s1.heap s1.heap.objs.size h [(sx, LCg.lst ws), (cx, LCg.lst us), (D, listOf vs.toArray ns), (d, srcO x1 y1 tx1 ty1 n0), (s1.heap.objs.size + 1 + 1 + 1, oZ), (s1.heap.objs.size + 1 + 1, oM), (s1.heap.objs.size + 1, oS)]) ?st12 ?st13
    case st12 =>
      have hvl := hvs.length
      k_dflt (refine Assign_ListComp_WF (F₀ := by k_asm) rfl (by with_unfolding_all rfl) (by with_unfolding_all rfl) (by decide) (by rfl) (by decide) (by rfl) (by rfl) (by rfl) ?_)
      k_steps
      rename IsRange _ _ _ _ _ _ _ _ => hrg
      rename News _ _ _ _ => N4
      rename Fr _ _ _ _ => F4
      have hru := range_up (y := (ss.length : Int)) (by omega) (by omega)
      refine SrcW.intro (n := ss.length) (iterAs_range (by exact rfl) hrg hru.1 (by simpa using hru.2)) F4 N4 (by rw [sizeLine_eq]; omega) trivial
        (fun i ws nw => ∃ (x1 y1 : Int) (tx1 ty1 : Tok) (sy : List Int), 0 ≤ x1 ∧ 0 ≤ y1 ∧ y1 < 2147483647 ∧ nw = [(cx, LCg.lst us), (D, listOf vs.toArray ns), (d, srcO x1 y1 tx1 ty1 n0), (s1.heap.objs.size + 1 + 1 + 1, oZ), (s1.heap.objs.size + 1 + 1, oM), (s1.heap.objs.size + 1, oS)] ∧ IntsAre ws sy ∧ SymsOk sy ∧ sy.length = i)
        ⟨x1, y1, tx1, ty1, [], hx1, hy1, hy1b, rfl, .nil, .nil, rfl⟩ ?turn12 ?fin12
      case turn12 =>
        rintro hh i ws nw v I oI C oC D2 m₂ h tk E' hi ⟨t, hv⟩ ⟨x1, y1, tx1, ty1, sy, hx1, hy1, hy1b, rfl, hws, hsy, hyl⟩ hC hx F N O D3
        rw [show (0 + (i : Int) * 1) = i by omega] at hv
        subst hv
        clear N4 F4
        obtain ⟨⟨p1, p2, p3⟩, ⟨p4, p5, p6⟩, ⟨p7, p8, p9⟩, ⟨r1, r2, r3⟩, ⟨r4, r5, r6⟩, ⟨r7, r8, r9⟩, _⟩ := O
        obtain ⟨q1, q2, q3⟩ := D3
        k_steps
        rename_i x2 y2 r2' tx2 ty2 tr2 h5 tk5 hx2 hy2 hy2b hr20 hr21 F5 N5
        refine LCg.CompEnd.intro F5 N5 _ (fun p hp => hp) ⟨⟨p1, p2, p3⟩, ⟨p4, p5, p6⟩, ⟨p7, p8, p9⟩, ⟨r1, r2, r3⟩, ⟨r4, r5, r6⟩, ⟨r7, r8, r9⟩, trivial⟩ trivial ⟨x2, y2, tx2, ty2, _, hx2, hy2, hy2b, rfl, ints_snoc hws, ?_, by simp [hyl]⟩
        have := hsy.snoc hr20 hr21 (by omega)
        rw [hyl] at this
        exact this
      rintro hh ws nw ⟨x1, y1, tx1, ty1, sy, hx1, hy1, hy1b, rfl, hws, hsy, hyl⟩ sx h tk F N O
      obtain ⟨p1, p2, p3, p4, p5, p6, _⟩ := O
      clear N4 F4
      k_steps
      rename Fr _ _ _ _ => F6
      rename News _ _ _ _ => N6
      exact CutEnd.intro ⟨_, _, sx, ws, sy, _, x1, y1, tx1, ty1, rfl, hx1, hy1, hy1b, hws, hsy, hyl, p1, p3, p4, p5, p6, p2, by with_unfolding_all rfl, by with_unfolding_all rfl, F6, N6⟩
    clear F3 N3 hx1 hy1 hy1b
    clear x1 y1
    rintro s' ⟨h3, tk3, sx, ws, sy, m2, x1, y1, tx1, ty1, rfl, hx1, hy1, hy1b, hws, hsy, hyl, e1, e2, e3, e4, e5, e6, hm2, hm3, F3, N3⟩
    replace F3 := fr_cast F3 (pin hm2 (pin hm3 rfl))
    dsimp only
    k_steps
    have hvl := hvs.length
    have S := sizes_of hso hs17 hsl
    have hkS : (ksOf ss).sum = (sy.length : Int) := by rw [ksOf_sum hso hs17 hsl, hyl]
    walk1
    k_steps
    k_dflt (refine ListComp_W (F₀ := by k_asm) (by with_unfolding_all rfl) (by decide) (by rfl) (by decide) (by rfl) ?_)
    k_steps
    refine SrcW.pure (n := vs.toArray.size) (S := LCg.SrcAt _ D vs.toArray) (iterAs_list (by exact rfl) (by k_asm) N3 (.inr ⟨_, by k_mem, rfl, _, rfl⟩)) (by k_asm) N3 (by rw [sizeLine_eq, List.size_toArray]; omega) (.inr ⟨_, by k_mem, rfl, _, rfl⟩)
      (fun i qs => IntsAre qs ((ss.take i).map wt)) .nil ?turn14 ?fin14
    case turn14 =>
      rintro hh i qs v I oI C oC D2 m₂ h tk E' hi hv hqs hC hx F N O D3
      obtain ⟨x, tx', rfl, hx'⟩ := hvs.at i v (by simpa using hv)
      have hx17 := hs17 x (List.mem_of_getElem? hx')
      clear N3 F3
      k_steps
      rename Fr _ _ _ _ => F6
      rename News _ _ _ _ => N6
      refine LCg.CompEnd.intro F6 N6 _ (fun p hp => hp) O (.inr ⟨_, by k_mem, rfl, _, rfl⟩) ⟨rfl, ?_⟩
      rw [List.take_add_one, hx', List.map_append]
      exact ints_snoc hqs
    rintro hh qs hqs D2 h tk F N O
    rw [List.take_of_length_le (by rw [List.size_toArray]; omega)] at hqs
    clear N3 F3
    obtain ⟨p1, p2, p3, p4, p5, p6, p7, _⟩ := O
    k_steps
    · rename _ ≤ (List.map wt ss).sum => hsum
      have hbad := bad_of S (show 128 ≤ usum ss ss.length by unfold usum; rw [List.take_length]; exact hsum)
      rename Fr _ _ _ _ => F5
      rename News _ _ _ _ => N5
      have N6 : News s1.heap s1.heap.objs.size _ [(cx, listOf us.toArray us.length), (sx, listOf ws.toArray ws.length)] := fun p hp => by
        rcases List.mem_cons.mp hp with rfl | hp
        · exact N5 _ (by k_mem)
        rcases List.mem_cons.mp hp with rfl | hp
        · exact N5 _ (by k_mem)
        cases hp
      k_dflt (refine' refused_spec ?k1 ?k2 ?k3 N6 ?k5 ?k6 ?k7 ?k8 hus hws (ksOf_len ss) (ksOf_range hsl) hkS (by omega) hsy.nodup hbad ?k9 ?k10 ?_; (case k1 | k2 | k3 | k5 => k_asm); (case k6 => first | exact rfl | assumption); (case k7 | k8 => k_asm); (case k9 => ktr_room); (case k10 => ktr_units); k_whole)
      intro h' tk' F' N'
      exact hend _ _ _ F'
    rename ¬ (_ ≤ (List.map wt ss).sum) => hsum
    have hU : usum ss ss.length < 128 := by
      unfold usum
      rw [List.take_length]
      exact Int.lt_of_not_ge hsum
    rename_i tk5 hx h5 l5 h6 F6 N6
    k_dflt (refine For_W (by k_asm) ?_)
    k_steps
    rename News _ _ _ _ => N6
    rename Fr _ _ _ _ => F6
    have N7 : News s1.heap s1.heap.objs.size h6 [(hx, listOf #[] 0), (sx, LCg.lst ws), (cx, LCg.lst us), (D, listOf vs.toArray ns), (d, srcO x1 y1 tx1 ty1 n0), (s1.heap.objs.size + 1 + 1 + 1, oZ), (s1.heap.objs.size + 1 + 1, oM), (s1.heap.objs.size + 1, oS)] := by refine' cb_drop ?cbN ?cbS; (case cbN => exact N6); (case cbS => kcj_all)
    have hS7 : ∀ (cv : List Value) (nn : Nat), LCg.SrcAt s1.heap D vs.toArray [(hx, listOf cv.toArray nn), (sx, LCg.lst ws), (cx, LCg.lst us), (D, listOf vs.toArray ns), (d, srcO x1 y1 tx1 ty1 n0), (s1.heap.objs.size + 1 + 1 + 1, oZ), (s1.heap.objs.size + 1 + 1, oM), (s1.heap.objs.size + 1, oS)] := fun cv nn => .inr ⟨_, by k_mem, rfl, _, rfl⟩
    refine SrcF.intro (n := vs.toArray.size) (S := LCg.SrcAt _ D vs.toArray) (iterG_list (by exact rfl) F6 N7 (hS7 [] 0)) F6 N7 (hS7 [] 0)
      (fun i m₁ nw => ∃ (cv : List Value) (nn : Nat), m₁ "counts" = some (.ref cx) ∧ m₁ "symbols" = some (.ref sx) ∧ m₁ "chosen" = some (.ref hx) ∧ PyProof.Rows.StrsAre cv ((tsOf ss).take i) ∧ nw = [(hx, listOf cv.toArray nn), (sx, LCg.lst ws), (cx, LCg.lst us), (D, listOf vs.toArray ns), (d, srcO x1 y1 tx1 ty1 n0), (s1.heap.objs.size + 1 + 1 + 1, oZ), (s1.heap.objs.size + 1 + 1, oM), (s1.heap.objs.size + 1, oS)])
      ⟨[], 0, by with_unfolding_all rfl, by with_unfolding_all rfl, by with_unfolding_all rfl, .nil, rfl⟩ ?turn15 ?fin15
    case turn15 =>
      rintro i v I oI m₁ nw h tk hi hv ⟨cv, nn, hm1, hm2, hm3, hcv, rfl⟩ hcI O S' F N
      obtain ⟨x, tx', rfl, hx'⟩ := hvs.at i v (by simpa using hv)
      have hx17 := hs17 x (List.mem_of_getElem? hx')
      replace F := fr_cast F (pin hm1 (pin hm2 (pin hm3 rfl)))
      have hil : i < ss.length := by simp at hi; omega
      have hxe : ss.getD i 0 = x := by rw [List.getD_eq_getElem?_getD, hx']; rfl
      obtain ⟨r, hr1⟩ : ∃ r, (tsOf ss)[i]? = some r := ⟨_, tsOf_at S hil⟩
      have hr2 := free_at S hU hil
      rw [hxe, hr1] at hr2
      have hcl : cv.length ≤ 8 := by rw [hcv.length, List.length_take]; omega
      have hcs : cv.toArray.size ≤ sizeLine := by rw [sizeLine_eq, List.size_toArray]; omega
      have htl : ∀ t ∈ (tsOf ss).take i, t.length ≤ 7 := fun t ht => tsOf_len7 S t (List.mem_of_mem_take ht)
      have a1 := O (hx, listOf cv.toArray nn) (by simp)
      have a2 := O (sx, LCg.lst ws) (by simp)
      have a3 := O (cx, LCg.lst us) (by simp)
      have N8 : News s1.heap s1.heap.objs.size h [(hx, listOf cv.toArray nn), (I, oI), (sx, LCg.lst ws), (cx, LCg.lst us), (D, listOf vs.toArray ns), (d, srcO x1 y1 tx1 ty1 n0), (s1.heap.objs.size + 1 + 1 + 1, oZ), (s1.heap.objs.size + 1 + 1, oM), (s1.heap.objs.size + 1, oS)] := fun p hp => N p (by
        simp only [List.mem_cons] at hp ⊢
        rcases hp with hp | hp | hp
        · exact .inr (.inl hp)
        · exact .inl hp
        · exact .inr (.inr hp))
      clear N N7 F6 N6
      have b1 : @Ne Nat hx I := a1
      k_steps
      k_dflt (refine' free_spec ?k1 ?k2 ?k3 ?k4 ?k5 ?k6 ?k7 ?k8 ?k9 ?k10 ?k11 ?k12 ?k13 _ ?k14 ?_; (case k1 | k2 | k3 | k4 | k5 => k_asm); (case k6 => first | exact rfl | assumption); (case k7 => with_reducible assumption); (case k8 | k9 | k10 => omega); (case k11 => with_reducible assumption); (case k12 => ktr_room); (case k13 => ktr_units); (case k14 => with_reducible assumption); k_whole)
      intro _ _ _ _ _
      k_steps
      rename Fr _ _ _ _ => F9
      rename News _ _ _ _ => N9
      rw [List.push_toArray] at N9
      refine ForEnd.next F9 N9 hcI [(hx, listOf (cv ++ [Value.str r _]).toArray (nn + 1)), (sx, LCg.lst ws), (cx, LCg.lst us), (D, listOf vs.toArray ns), (d, srcO x1 y1 tx1 ty1 n0), (s1.heap.objs.size + 1 + 1 + 1, oZ), (s1.heap.objs.size + 1 + 1, oM), (s1.heap.objs.size + 1, oS)] (fun p hp => by
        simp only [List.mem_cons] at hp ⊢
        rcases hp with hp | hp | hp
        · exact .inr (.inl hp)
        · exact .inl hp
        · exact .inr (.inr hp)) ⟨.inl a1, OffIt.of fun p hp => O p (List.mem_cons_of_mem _ hp)⟩ (hS7 _ _)
        ⟨_, _, by with_unfolding_all rfl, by with_unfolding_all rfl, by with_unfolding_all rfl, ?_, rfl⟩
      rw [List.take_add_one, hr1]
      exact kct_snoc hcv
    clear N7 F6 N6
    rintro h' tk' m' nw F N S' ⟨cv, nn, hm1, hm2, hm3, hcv, rfl⟩
    rw [List.take_of_length_le (by rw [tsOf_length, List.size_toArray]; omega)] at hcv
    have hcvl := hcv.length
    rw [tsOf_length] at hcvl
    replace F := fr_cast F (pin hm1 (pin hm2 (pin hm3 rfl)))
    dsimp only
    k_steps
    rename News _ _ _ _ => N
    k_dflt (refine' huff_use ?k1 ?k2 ?k3 N ?k5 ?k6 (cx := cx) (sx := sx) (n := us.length) (n2 := ws.length) (by k_mem) (by k_mem) hus hws (ksOf_len ss) (ksOf_range hsl) hkS (by omega) hsy.nodup ?k9 ?k10 ?_ ?_; (case k1 | k2 | k3 | k5 => k_asm); (case k6 => first | exact rfl | assumption); (case k9 => ktr_room); (case k10 => ktr_units); k_whole)
    rotate_left
    · intro e h' G tk' j hj hnok
      exact absurd (ok_of S hU hj) hnok
    clear N F
    intro tb td ct st lx cd k1 k2 k3 k4 va n' od kvs extra ex2 h' tk' hok hcd hRA hod hCA htc lA l6 l7 l8 l9 l10 l11 F N
    simp only [List.cons_append, List.nil_append] at N
    have hRt : RowsAt (extra ++ ex2) va.toList (ksOf ss) 16 := hRA.up fun p hp => List.mem_append_left _ hp
    have hCt : ∀ p ∈ ex2, p ∈ extra ++ ex2 := fun p hp => List.mem_append_right _ hp
    generalize extra ++ ex2 = tl at N hRt hCt htc l11
    k_steps
    walk1
    k_steps
    rename News _ _ _ _ => N
    k_dflt (refine' rows_use ?k1 ?k2 ?k3 N ?k5 ?k6 (n := us.length) (by k_mem) hus (ksOf_len ss) ?k9 ?k10 ?_ ?_; (case k1 | k2 | k3 | k5 => k_asm); (case k6 => first | exact rfl | assumption); (case k9 => ktr_room); (case k10 => ktr_units); k_whole)
    rotate_left
    · intro e h' G tk' j hj hnok
      exact absurd (ok_of S hU hj) hnok
    clear N
    intro rx vb nb ex3 h' tk' hok2 hxc hxn hxo hxl hRb F N
    simp only [List.cons_append, List.nil_append] at N
    have hRb' : RowsAt (tl ++ ex3) vb.toList (ksOf ss) 16 := hRb.up fun p hp => List.mem_append_right _ hp
    k_steps
    rename News _ _ _ _ => N
    obtain ⟨base, hbase, N⟩ := news_abs N
    have hRc : RowsAt base vb.toList (ksOf ss) 16 := hRb'.up fun p hp => by
      rw [hbase]
      repeat (first | exact hp | apply List.mem_cons_of_mem)
    have g1 : (rx, listOf vb nb) ∈ base := by rw [hbase]; k_mem
    have g2 : (D, listOf vs.toArray ns) ∈ base := by rw [hbase]; k_mem
    have g3 : (hx, listOf cv.toArray nn) ∈ base := by rw [hbase]; k_mem
    have g4 : (sx, LCg.lst ws) ∈ base := by rw [hbase]; k_mem
    have g5 : (td, huffDict ww ct st lx cd k1 k2 k3 k4) ∈ base := by rw [hbase]; k_mem
    have g6 : (tb, instObj 115 td) ∈ base := by rw [hbase]; k_mem
    have g7 : (cd, od) ∈ base := by rw [hbase]; k_mem
    have g8 : (s1.heap.objs.size + 1 + 1 + 1, oZ) ∈ base := by rw [hbase]; k_mem
    have g9 : ∀ p ∈ tl, p ∈ base := fun p hp => by
      have hp' : p ∈ tl ++ ex3 := List.mem_append_left _ hp
      rw [hbase]
      repeat (first | exact hp' | apply List.mem_cons_of_mem)
    k_dflt (refine' right_spec ?k1 ?k2 ?k3 (news_front3 N g1 g2 g3) ?k5 ?k6 hRc hvs hcv (ksOf_len ss) (ksOf_range hsl) hsl (by rw [tsOf_length]; omega) S.count (hB_of S) (hC_of S) (hpl_of S) (hok_of S) (hbnd_of S hU) ?k9 ?k10 ?_; (case k1 | k2 | k3 | k5 => k_asm); (case k6 => first | exact rfl | assumption); (case k9 => ktr_room); (case k10 => ktr_units); k_whole)
    clear N
    intro h' tk' F N
    replace N : News s1.heap s1.heap.objs.size _ base := fun p hp => N p (List.mem_cons_of_mem _ (List.mem_cons_of_mem _ (List.mem_cons_of_mem _ hp)))
    k_steps
    have N18 := news_front1 (news_front1 N g2) (List.mem_cons_of_mem _ g8)
    k_dflt (refine For_W (by k_asm) ?_)
    clear N
    k_steps
    rename IsRange _ _ _ _ _ _ _ _ => hrg
    rename News _ _ _ _ => N18
    rename Fr _ _ _ _ => F18
    have hru := range_up (y := (ss.length : Int)) (by omega) (by omega)
    refine SrcF.intro (n := ss.length) (iterG_range (by exact rfl) hrg hru.1 (by simpa using hru.2)) F18 (fun p hp => N18 p (List.mem_cons_of_mem _ (List.mem_cons_of_mem _ hp)) : News _ _ _ base) trivial
      (fun i m₁ nw => m₁ "table" = some (.ref tb) ∧ m₁ "symbols" = some (.ref sx) ∧ m₁ "chosen" = some (.ref hx) ∧ nw = base)
      ⟨by with_unfolding_all rfl, by with_unfolding_all rfl, by with_unfolding_all rfl, rfl⟩ ?turn18 ?fin18
    case turn18 =>
      rintro i v I oI m₁ nw h tk hi ⟨t, hv⟩ ⟨hm1, hm2, hm3, hnw⟩ hcI O S' F N
      rw [show (0 + (i : Int) * 1) = i by omega] at hv
      subst hv
      rw [hnw] at N O
      replace F := fr_cast F (pin hm1 (pin hm2 (pin hm3 rfl)))
      obtain ⟨Tc, t1, t2, hval, hTc⟩ := codes_find S hCA hyl hsy.nodup hi
      obtain ⟨tws, hws'⟩ := hws.get i (sy.getD i 0) (by rw [List.getD_eq_getElem?_getD, List.getElem?_eq_getElem (by omega)]; rfl)
      have hsyi : ws.toArray[((i : Int)).toNat]? = some (.int (sy.getD i 0) tws) := by simpa using hws'
      obtain ⟨tcv, hcv'⟩ := hcv.get i _ (tsOf_at S hi)
      have hcvi : cv.toArray[((i : Int)).toNat]? = some (.str (bitT (bitsL (cdOf ss i) (ss.getD i 0).toNat)) tcv) := by simpa using hcv'
      obtain ⟨tvs, hvs'⟩ := hvs.get i (ss.getD i 0) (by rw [List.getD_eq_getElem?_getD, List.getElem?_eq_getElem hi]; rfl)
      have hvsi : vs.toArray[((i : Int)).toNat]? = some (.int (ss.getD i 0) tvs) := by simpa using hvs'
      have hx17 := hs17 _ (getD_mem hi)
      have hint : (∀ b ∈ bitsL (cdOf ss i) (ss.getD i 0).toNat, b < 2) ∧ bitsL (cdOf ss i) (ss.getD i 0).toNat ≠ [] ∧ (bitsL (cdOf ss i) (ss.getD i 0).toNat).length ≤ 640 ∧ (bval (bitsL (cdOf ss i) (ss.getD i 0).toNat) : Int) = cdOf ss i :=
        ⟨bitsL_lt, fun e => by have := congrArg List.length e; rw [bitsL_length, List.length_nil] at this; omega, by rw [bitsL_length]; omega, bval_bitsL cdOf_nn (cdOf_lt S hU hi)⟩
      have N8 : News s1.heap s1.heap.objs.size h ((td, huffDict ww ct st lx cd k1 k2 k3 k4) :: (tb, instObj 115 td) :: (cd, od) :: (I, oI) :: (Tc, tup2 (cdOf ss i) (ss.getD i 0) t1 t2) :: (sx, LCg.lst ws) :: (hx, listOf cv.toArray nn) :: (D, listOf vs.toArray ns) :: (s1.heap.objs.size + 1 + 1 + 1, oZ) :: base) := fun p hp => by
        simp only [List.mem_cons] at hp
        rcases hp with rfl | rfl | rfl | rfl | rfl | rfl | rfl | rfl | rfl | hp
        · exact N _ (List.mem_cons_of_mem _ g5)
        · exact N _ (List.mem_cons_of_mem _ g6)
        · exact N _ (List.mem_cons_of_mem _ g7)
        · exact N _ (List.mem_cons_self ..)
        · exact N _ (List.mem_cons_of_mem _ (g9 _ (hCt _ hTc)))
        · exact N _ (List.mem_cons_of_mem _ g4)
        · exact N _ (List.mem_cons_of_mem _ g3)
        · exact N _ (List.mem_cons_of_mem _ g2)
        · exact N _ (List.mem_cons_of_mem _ g8)
        · exact N _ (List.mem_cons_of_mem _ hp)
      clear N N18 F18
      k_steps
      walk1
      k_steps
      rename News _ _ _ _ => N9
      k_dflt (refine' code_spec ?k1 ?k2 ?k3 N9 ?k5 ?k6 hod hcd hval ?k9 ?k10 ?_; (case k1 | k2 | k3 | k5 => k_asm); (case k6 => first | exact rfl | assumption); (case k9 => ktr_room); (case k10 => ktr_units); k_whole)
      clear N9
      intro h' tk' F N
      k_steps
      rename Fr _ _ _ _ => F9
      rename News _ _ _ _ => N9
      exact ForEnd.next F9 N9 hcI base (fun p hp => by
        rcases List.mem_cons.mp hp with rfl | hp
        · k_mem
        · repeat (first | exact hp | apply List.mem_cons_of_mem)) (OffIt.of O) trivial
        ⟨by with_unfolding_all rfl, by with_unfolding_all rfl, by with_unfolding_all rfl, rfl⟩
    rintro h' tk' m' nw F N S' ⟨hm1, hm2, hm3, hnw⟩
    rw [hnw] at N
    replace F := fr_cast F (pin hm1 (pin hm2 (pin hm3 rfl)))
    have j1 : (d, srcO x1 y1 tx1 ty1 n0) ∈ base := by rw [hbase]; k_mem
    have j2 : (s1.heap.objs.size + 1, oS) ∈ base := by rw [hbase]; k_mem
    have j3 : (st, tupO ws) ∈ base := by rw [hbase]; k_mem
    have j4 : (lx, listOf va n') ∈ base := by rw [hbase]; k_mem
    have hdtd : @LT.lt Nat _ d td := ktn_ltOf lA (d, srcO x1 y1 tx1 ty1 n0) (by simp)
    have hdhx : @LT.lt Nat _ d hx := l5.2.2.2.2.1
    have hdtl : ∀ p ∈ tl, p.1 ≠ d := fun p hp => by
      have h1 : @LT.lt Nat _ st p.1 := l11 p hp
      have h2 : @LT.lt Nat _ td tb := l6
      have h3 : @LT.lt Nat _ tb ct := l7
      have h4 : @LT.lt Nat _ ct st := l8
      have : @LT.lt Nat _ d p.1 := by omega
      exact Nat.ne_of_gt this
    have v6 : @LT.lt Nat _ td tb := l6
    have v7 : @LT.lt Nat _ tb ct := l7
    have v8 : @LT.lt Nat _ ct st := l8
    have v9 : @LT.lt Nat _ st lx := l9
    have N20 : News s1.heap s1.heap.objs.size h' ((d, srcO x1 y1 tx1 ty1 n0) :: (s1.heap.objs.size + 1, oS) :: (td, huffDict ww ct st lx cd k1 k2 k3 k4) :: (tb, instObj 115 td) :: (st, tupO ws) :: (lx, listOf va n') :: (sx, LCg.lst ws) :: (hx, listOf cv.toArray nn) :: tl) := fun p hp => by
      simp only [List.mem_cons] at hp
      rcases hp with rfl | rfl | rfl | rfl | rfl | rfl | rfl | rfl | hp
      · exact N _ j1
      · exact N _ j2
      · exact N _ g5
      · exact N _ g6
      · exact N _ j3
      · exact N _ j4
      · exact N _ g4
      · exact N _ g3
      · exact N _ (g9 _ hp)
    clear N N18 F18 hbase
    dsimp only
    k_steps
    k_dflt (refine ListComp_W (F₀ := by k_asm) (by with_unfolding_all rfl) (by decide) (by rfl) (by decide) (by rfl) ?_)
    k_steps
    rename IsRange _ _ _ _ _ _ _ _ => hrg
    rename News _ _ _ _ => N20
    rename Fr _ _ _ _ => F20
    refine SrcW.intro (n := 3) (iterAs_range (by exact rfl) hrg (by decide) (by decide)) F20 N20 (by rw [sizeLine_eq]; decide) trivial
      (fun i qs nw => ∃ (x1 y1 : Int) (tx1 ty1 : Tok) (bs : List Int), 0 ≤ x1 ∧ 0 ≤ y1 ∧ y1 < 2147483647 ∧ nw = (d, srcO x1 y1 tx1 ty1 n0) :: (s1.heap.objs.size + 1, oS) :: (td, huffDict ww ct st lx cd k1 k2 k3 k4) :: (tb, instObj 115 td) :: (st, tupO ws) :: (lx, listOf va n') :: (sx, LCg.lst ws) :: (hx, listOf cv.toArray nn) :: tl ∧ IntsAre qs bs ∧ KBa.In bs ∧ bs.length = i)
      ⟨x1, y1, tx1, ty1, [], hx1, hy1, hy1b, rfl, .nil, (fun _ h => by cases h), rfl⟩ ?turn20 ?fin20
    case turn20 =>
      rintro hh i qs nw v I oI C oC D2 m₂ h tk E' hi hv ⟨x1, y1, tx1, ty1, bs, hx1, hy1, hy1b, rfl, hqs, hbs, hbl⟩ hC hx F N O D3
      clear N20 F20
      obtain ⟨⟨o1, o2, o3⟩, O⟩ := O
      obtain ⟨q1, q2, q3⟩ := D3
      k_steps
      rename_i x2 y2 r2 tx2 ty2 tr2 h5 tk5 hx2 hy2 hy2b hr20 hr21 F5 N5
      refine LCg.CompEnd.intro F5 N5 _ (fun p hp => hp) ⟨⟨o1, o2, o3⟩, O⟩ trivial ⟨x2, y2, tx2, ty2, bs ++ [r2], hx2, hy2, hy2b, rfl, ints_snoc hqs, fun z hz => ?_, by simp [hbl]⟩
      rcases List.mem_append.mp hz with hz | hz
      · exact hbs z hz
      · rw [List.mem_singleton.mp hz]; omega
    rintro hh qs nw ⟨x2, y2, tx2, ty2, bs, hx2, hy2, hy2b, rfl, hqs, hbs, hbl⟩ D2 h tk F N O
    have hb3 : (byteArr bs).size = 3 := by rw [← KBw.ints_length, KBa.ints_make hbs]; exact hbl
    clear N20 F20
    k_steps
    rename News _ _ _ _ => N
    have N21 : News s1.heap s1.heap.objs.size _ ((td, huffDict ww ct st lx cd k1 k2 k3 k4) :: (tb, instObj 115 td) :: (st, tupO ws) :: (lx, listOf va n') :: (sx, listOf ws.toArray ws.length) :: (hx, listOf cv.toArray nn) :: tl) := fun p hp => N p (by
      repeat (first | exact hp | apply List.mem_cons_of_mem))
    clear N
    k_dflt (refine' rright_spec ?k1 ?k2 ?k3 N21 ?k5 ?k6 ?k7 ?k8 hws hcv (ksOf_len ss) (ksOf_range hsl) hkS (by omega) hb3 (hM1_of S hb3 hU) (hM0_of S hb3 hU) (by rw [tsOf_length]; omega) (tsOf_len7 S) (by rw [tsOf_length]; exact hyl) hRt ?k9 ?k10 ?_; (case k1 | k2 | k3 | k5 => k_asm); (case k6 => first | exact rfl | assumption); (case k7 | k8 => k_asm); (case k9 => ktr_room); (case k10 => ktr_units); k_whole)
    intro h' tk' nw' F N
    exact hend _ _ _ F)
end
end
end Mine
end
set_option maxRecDepth 100000 in
set_option maxHeartbeats 8000000 in
theorem PySem.Challenge.cw_ok0132_02_holds : PySem.Challenge.rw_ok0132_02.Holds := by
  exact Mine.law_holds
