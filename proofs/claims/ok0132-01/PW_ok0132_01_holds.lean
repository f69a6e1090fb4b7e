import PyProof.Rows.All
import Wide.All
import OpenK.AllK
import Wide.FinOn
import PySem.Challenge.RW_ok0132_01
set_option Elab.async false
set_option linter.unusedVariables false
set_option linter.unusedSectionVars false
set_option linter.unusedSimpArgs false
set_option rowWalk.seconds 0
set_option compiler.extract_closed false
section
open PySem PySem.W PyProof.Rows PySem.Calls
set_option maxRecDepth 100000
namespace Mine
def topRunT (den : Code → Sem Fin) (sT : (Code → Sem Fin) → Program → World → SharedT → Thread → Option (SharedT × Thread)) (ok : Nat → Option Value → Thread → Bool) (p : Program) (w : World) (n₀ : Nat) (ann : Option Value) : Nat → SharedT → Thread → Option SharedT
  | 0, _, _ => none
  | n + 1, s, t => match through t with
    | true => some s
    | false => match ok n₀ ann t with
      | false => none
      | true => match sT den p w s t with
        | some (s', t') => topRunT den sT ok p w n₀ ann n s' t'
        | none => none
theorem topRunT_of {tb : String → Option Builtin} {p : Program} {w : World} {n₀ : Nat} {ann : Option Value} : ∀ {n : Nat} {s s' : SharedT} {t : Thread}, topRunT (denote tb) stepT stepOk p w n₀ ann n s t = some s' → topRun tb p w n₀ ann n s.abs t = some s'.abs
  | 0, _, _, _, h => by cases h
  | n + 1, s, s', t, h => by
    unfold topRunT at h
    unfold topRun
    cases ht : through t with
    | true => rw [ht] at h; cases h; rfl
    | false =>
      rw [ht] at h
      cases hk : stepOk n₀ ann t with
      | false => rw [hk] at h; cases h
      | true =>
        rw [hk] at h
        cases hs : stepT (denote tb) p w s t with
        | none => rw [hs] at h; cases h
        | some r => obtain ⟨s₂, t₂⟩ := r; rw [hs] at h; dsimp only; rw [stepT_spec hs]; exact topRunT_of h
def treeOf (l : List Obj) : BT × Nat := l.foldl (fun x o => (x.1.ins x.2 o, x.2 + 1)) (BT.nil, 0)
noncomputable def boot (P : Params) (os : OsState) : SharedT := ⟨(treeOf (boot_heap P).objs.toList).1, (boot_heap P).objs.size, (boot_heap P).life, Array.mk [], boot_drawn, boot_toks, os⟩
theorem boot_abs (P : Params) (os : OsState) : (boot P os).abs = ⟨boot_heap P, Array.mk [], boot_drawn, boot_toks, os⟩ := by kernel_rfl
theorem left_of {p q : Program} {loose : List Str} {Xt : Shared → Bool} {α : Type} {Yf : Shared → α} {Ya : World → α} {N : Nat} {g0 : Bool}
    (e : opening p = plainProg p.main.scope.names) (hN : Nat.ble 600 N = true) (f : ∀ s, fenceModules? p s = some s)
    (size : ∀ w : World, (boot_heap w.params).isNs mainGlobals = true)
    (h : ∀ (w : World) (os : OsState), (topRunT (Fast.tw11892475500146522536 Fast.tw14364793385576792824) Fast.tw10156331382660048174 Fast.tw6613529449190102663 p w (boot_heap w.params).objs.size ((boot_heap w.params).nsMap mainGlobals "__annotations__") N (boot w.params os) (topStub p)).map
        (fun s => (staticsOk (Fast.tw5923862056798008813 p.main.body) (boot_heap w.params) s.abs.heap && namesBound p s.abs.heap && gensDone s.abs && laidKept (boot_heap w.params) s.abs.heap, Fast.tw4187177175401517315 q loose (Fast.tw5923862056798008813 p.main.body) Xt g0 s.abs, Yf s.abs)) =
      some (true, openGood q loose, Ya w)) : LeftO p q loose Xt Yf Ya N g0 := fun w => by
  obtain ⟨⟨hp, gs, d, k, os⟩, e1, e2⟩ := Option.map_eq_some_iff.mp (boot_open e hN f w)
  obtain ⟨rfl, rfl, rfl, rfl⟩ : hp = boot_heap w.params ∧ gs = Array.mk [] ∧ d = boot_drawn ∧ k = boot_toks := by simpa using e2
  have h := h w os
  rw [← Fast.te11892475500146522536, ← Fast.te14364793385576792824, ← Fast.te10156331382660048174, ← Fast.te6613529449190102663, ← Fast.te5923862056798008813, ← Fast.te4187177175401517315] at h
  obtain ⟨s, r, l⟩ := Option.map_eq_some_iff.mp h
  obtain ⟨l1, l2, l3⟩ : _ ∧ _ ∧ _ := by simpa only [Prod.mk.injEq] using l
  have r := topRunT_of r
  rw [boot_abs] at r
  have t : topFrom treeTable p w N ⟨boot_heap w.params, Array.mk [], boot_drawn, boot_toks, os⟩ = some s.abs := by
    unfold topFrom
    dsimp only
    rw [size w, show ((Array.mk [] : Array GenState).size == 0) = true from rfl, r]
    show (match staticsOk (importedModules p.main.body) (boot_heap w.params) s.abs.heap && namesBound p s.abs.heap && gensDone s.abs && laidKept (boot_heap w.params) s.abs.heap with | true => _ | false => _) = _
    rw [l1]
  unfold openEnds
  rw [e1]
  show (topFrom treeTable p w N _).map _ = _
  rw [t]
  exact congrArg some (Prod.ext l2 l3)
abbrev pw := PySem.Challenge.pw_ok0132_01
abbrev rw := PySem.Challenge.rw_ok0132_01
noncomputable def vw : Program := { pw with main := { pw.main with body := [1, 2, 3, 4, 6, 8, 9, 10, 11, 12, 14, 15, 16, 17, 18, 19, 20, 21].filterMap fun i => pw.main.body[i]? } }
theorem said : rw.wellSaid = true := by
  rw [Fast.te9446332074065402090]
  kernel_rfl
local macro_rules | `(tactic| o_law) => `(tactic| refine holds_law said fun said => ?_)
local macro_rules | `(tactic| o_head $H) => `(tactic| refine' holds_open (q := vw) (loose := []) (Xt := fun s => xlAt vw [] s && recOk (RowW.records rw.row.toRowW) s) (XP := XL vw []) (Yf := Hook.obs $H) (Ya := Hook.val $H) (YP := Hook.says $H) (N := 3842) (left_of (by kernel_rfl) (by decide) (by intro s; kernel_rfl) (by intro w; kernel_rfl) (by intro w os; kernel_rfl)) (Hook.of $H) (Hook.keeps $H) (fun s e => xl_of s (Bool.and_eq_true_iff.mp e).1) XL.keeps (by rfl) (by rfl) (by rfl) (fun s e => recFacts_of (Bool.and_eq_true_iff.mp e).2) (by rfl) (by first | assumption | decide +kernel) (by decide +kernel) ⟨rfl, rfl, rfl, rfl, rfl, by decide +kernel⟩ ?hw ?hc)
set_option maxRecDepth 100000 in
set_option maxHeartbeats 8000000 in
open_top hdx for PySem.Challenge.rw_ok0132_01
end Mine
end
section
namespace Mine
theorem chS {p q : Nat} (h : p < q) : p ≠ q + 1 := Nat.ne_of_lt (Nat.lt_succ_of_lt h)
theorem chS2 {p q : Nat} (h : p < q) : p ≠ q + 1 + 1 := Nat.ne_of_lt (Nat.lt_succ_of_lt (Nat.lt_succ_of_lt h))
theorem andL0 {p q : Nat} {B : Prop} (h : p < q ∧ B) : p ≠ q := Nat.ne_of_lt h.1
theorem andG0 {p q : Nat} {B : Prop} (h : p < q ∧ B) : q ≠ p := Nat.ne_of_gt h.1
theorem andS0 {p q : Nat} {B : Prop} (h : p < q ∧ B) : p ≠ q + 1 + 1 := chS2 h.1
theorem andL1 {p q : Nat} {A0 B : Prop} (h : A0 ∧ p < q ∧ B) : p ≠ q := Nat.ne_of_lt h.2.1
theorem andG1 {p q : Nat} {A0 B : Prop} (h : A0 ∧ p < q ∧ B) : q ≠ p := Nat.ne_of_gt h.2.1
theorem andS1 {p q : Nat} {A0 B : Prop} (h : A0 ∧ p < q ∧ B) : p ≠ q + 1 + 1 := chS2 h.2.1
theorem andL2 {p q : Nat} {A0 A1 B : Prop} (h : A0 ∧ A1 ∧ p < q ∧ B) : p ≠ q := Nat.ne_of_lt h.2.2.1
theorem andG2 {p q : Nat} {A0 A1 B : Prop} (h : A0 ∧ A1 ∧ p < q ∧ B) : q ≠ p := Nat.ne_of_gt h.2.2.1
theorem andS2 {p q : Nat} {A0 A1 B : Prop} (h : A0 ∧ A1 ∧ p < q ∧ B) : p ≠ q + 1 + 1 := chS2 h.2.2.1
theorem andL3 {p q : Nat} {A0 A1 A2 B : Prop} (h : A0 ∧ A1 ∧ A2 ∧ p < q ∧ B) : p ≠ q := Nat.ne_of_lt h.2.2.2.1
theorem andG3 {p q : Nat} {A0 A1 A2 B : Prop} (h : A0 ∧ A1 ∧ A2 ∧ p < q ∧ B) : q ≠ p := Nat.ne_of_gt h.2.2.2.1
theorem andS3 {p q : Nat} {A0 A1 A2 B : Prop} (h : A0 ∧ A1 ∧ A2 ∧ p < q ∧ B) : p ≠ q + 1 + 1 := chS2 h.2.2.2.1
theorem andL4 {p q : Nat} {A0 A1 A2 A3 B : Prop} (h : A0 ∧ A1 ∧ A2 ∧ A3 ∧ p < q ∧ B) : p ≠ q := Nat.ne_of_lt h.2.2.2.2.1
theorem andG4 {p q : Nat} {A0 A1 A2 A3 B : Prop} (h : A0 ∧ A1 ∧ A2 ∧ A3 ∧ p < q ∧ B) : q ≠ p := Nat.ne_of_gt h.2.2.2.2.1
theorem andS4 {p q : Nat} {A0 A1 A2 A3 B : Prop} (h : A0 ∧ A1 ∧ A2 ∧ A3 ∧ p < q ∧ B) : p ≠ q + 1 + 1 := chS2 h.2.2.2.2.1
theorem andL5 {p q : Nat} {A0 A1 A2 A3 A4 B : Prop} (h : A0 ∧ A1 ∧ A2 ∧ A3 ∧ A4 ∧ p < q ∧ B) : p ≠ q := Nat.ne_of_lt h.2.2.2.2.2.1
theorem andG5 {p q : Nat} {A0 A1 A2 A3 A4 B : Prop} (h : A0 ∧ A1 ∧ A2 ∧ A3 ∧ A4 ∧ p < q ∧ B) : q ≠ p := Nat.ne_of_gt h.2.2.2.2.2.1
theorem andS5 {p q : Nat} {A0 A1 A2 A3 A4 B : Prop} (h : A0 ∧ A1 ∧ A2 ∧ A3 ∧ A4 ∧ p < q ∧ B) : p ≠ q + 1 + 1 := chS2 h.2.2.2.2.2.1
theorem andL6 {p q : Nat} {A0 A1 A2 A3 A4 A5 B : Prop} (h : A0 ∧ A1 ∧ A2 ∧ A3 ∧ A4 ∧ A5 ∧ p < q ∧ B) : p ≠ q := Nat.ne_of_lt h.2.2.2.2.2.2.1
theorem andG6 {p q : Nat} {A0 A1 A2 A3 A4 A5 B : Prop} (h : A0 ∧ A1 ∧ A2 ∧ A3 ∧ A4 ∧ A5 ∧ p < q ∧ B) : q ≠ p := Nat.ne_of_gt h.2.2.2.2.2.2.1
theorem andS6 {p q : Nat} {A0 A1 A2 A3 A4 A5 B : Prop} (h : A0 ∧ A1 ∧ A2 ∧ A3 ∧ A4 ∧ A5 ∧ p < q ∧ B) : p ≠ q + 1 + 1 := chS2 h.2.2.2.2.2.2.1
theorem andL7 {p q : Nat} {A0 A1 A2 A3 A4 A5 A6 B : Prop} (h : A0 ∧ A1 ∧ A2 ∧ A3 ∧ A4 ∧ A5 ∧ A6 ∧ p < q ∧ B) : p ≠ q := Nat.ne_of_lt h.2.2.2.2.2.2.2.1
theorem andG7 {p q : Nat} {A0 A1 A2 A3 A4 A5 A6 B : Prop} (h : A0 ∧ A1 ∧ A2 ∧ A3 ∧ A4 ∧ A5 ∧ A6 ∧ p < q ∧ B) : q ≠ p := Nat.ne_of_gt h.2.2.2.2.2.2.2.1
theorem andS7 {p q : Nat} {A0 A1 A2 A3 A4 A5 A6 B : Prop} (h : A0 ∧ A1 ∧ A2 ∧ A3 ∧ A4 ∧ A5 ∧ A6 ∧ p < q ∧ B) : p ≠ q + 1 + 1 := chS2 h.2.2.2.2.2.2.2.1
theorem andL8 {p q : Nat} {A0 A1 A2 A3 A4 A5 A6 A7 B : Prop} (h : A0 ∧ A1 ∧ A2 ∧ A3 ∧ A4 ∧ A5 ∧ A6 ∧ A7 ∧ p < q ∧ B) : p ≠ q := Nat.ne_of_lt h.2.2.2.2.2.2.2.2.1
theorem andG8 {p q : Nat} {A0 A1 A2 A3 A4 A5 A6 A7 B : Prop} (h : A0 ∧ A1 ∧ A2 ∧ A3 ∧ A4 ∧ A5 ∧ A6 ∧ A7 ∧ p < q ∧ B) : q ≠ p := Nat.ne_of_gt h.2.2.2.2.2.2.2.2.1
theorem andS8 {p q : Nat} {A0 A1 A2 A3 A4 A5 A6 A7 B : Prop} (h : A0 ∧ A1 ∧ A2 ∧ A3 ∧ A4 ∧ A5 ∧ A6 ∧ A7 ∧ p < q ∧ B) : p ≠ q + 1 + 1 := chS2 h.2.2.2.2.2.2.2.2.1
theorem andL9 {p q : Nat} {A0 A1 A2 A3 A4 A5 A6 A7 A8 B : Prop} (h : A0 ∧ A1 ∧ A2 ∧ A3 ∧ A4 ∧ A5 ∧ A6 ∧ A7 ∧ A8 ∧ p < q ∧ B) : p ≠ q := Nat.ne_of_lt h.2.2.2.2.2.2.2.2.2.1
theorem andG9 {p q : Nat} {A0 A1 A2 A3 A4 A5 A6 A7 A8 B : Prop} (h : A0 ∧ A1 ∧ A2 ∧ A3 ∧ A4 ∧ A5 ∧ A6 ∧ A7 ∧ A8 ∧ p < q ∧ B) : q ≠ p := Nat.ne_of_gt h.2.2.2.2.2.2.2.2.2.1
theorem andS9 {p q : Nat} {A0 A1 A2 A3 A4 A5 A6 A7 A8 B : Prop} (h : A0 ∧ A1 ∧ A2 ∧ A3 ∧ A4 ∧ A5 ∧ A6 ∧ A7 ∧ A8 ∧ p < q ∧ B) : p ≠ q + 1 + 1 := chS2 h.2.2.2.2.2.2.2.2.2.1
theorem andL10 {p q : Nat} {A0 A1 A2 A3 A4 A5 A6 A7 A8 A9 B : Prop} (h : A0 ∧ A1 ∧ A2 ∧ A3 ∧ A4 ∧ A5 ∧ A6 ∧ A7 ∧ A8 ∧ A9 ∧ p < q ∧ B) : p ≠ q := Nat.ne_of_lt h.2.2.2.2.2.2.2.2.2.2.1
theorem andG10 {p q : Nat} {A0 A1 A2 A3 A4 A5 A6 A7 A8 A9 B : Prop} (h : A0 ∧ A1 ∧ A2 ∧ A3 ∧ A4 ∧ A5 ∧ A6 ∧ A7 ∧ A8 ∧ A9 ∧ p < q ∧ B) : q ≠ p := Nat.ne_of_gt h.2.2.2.2.2.2.2.2.2.2.1
theorem andL11 {p q : Nat} {A0 A1 A2 A3 A4 A5 A6 A7 A8 A9 A10 B : Prop} (h : A0 ∧ A1 ∧ A2 ∧ A3 ∧ A4 ∧ A5 ∧ A6 ∧ A7 ∧ A8 ∧ A9 ∧ A10 ∧ p < q ∧ B) : p ≠ q := Nat.ne_of_lt h.2.2.2.2.2.2.2.2.2.2.2.1
theorem andG11 {p q : Nat} {A0 A1 A2 A3 A4 A5 A6 A7 A8 A9 A10 B : Prop} (h : A0 ∧ A1 ∧ A2 ∧ A3 ∧ A4 ∧ A5 ∧ A6 ∧ A7 ∧ A8 ∧ A9 ∧ A10 ∧ p < q ∧ B) : q ≠ p := Nat.ne_of_gt h.2.2.2.2.2.2.2.2.2.2.2.1
theorem chT {p q r : Nat} (k : q < r) (h : p < q) : p ≠ r := Nat.ne_of_lt (Nat.lt_trans h k)
theorem neS1 (p : Nat) : p ≠ p + 1 := (Nat.succ_ne_self p).symm
theorem neS2 (p : Nat) : p ≠ p + 1 + 1 := Nat.ne_of_lt (Nat.lt_succ_of_lt (Nat.lt_succ_self p))
theorem neT2 (p : Nat) : p + 1 + 1 ≠ p := (neS2 p).symm
theorem un1 {u m c k : Nat} (h : u + m < c) (e : Nat.ble k m = true) : u + k < c := Nat.lt_of_le_of_lt (Nat.add_le_add_left (Nat.le_of_ble_eq_true e) u) h
theorem un2 {u m c k l : Nat} (h : u + m < c) (e : Nat.ble (k + l) m = true) : u + k + l < c := by rw [Nat.add_assoc]; exact un1 h e
theorem un3 {u m c k l j : Nat} (h : u + m < c) (e : Nat.ble (k + l + j) m = true) : u + k + l + j < c := by rw [Nat.add_assoc u k l, Nat.add_assoc u (k + l) j]; exact un1 h e
theorem ltR {a : Nat} (h : Nat.ble (a + 1) 1000 = true) : a < PySem.recursionLimit := by rw [show PySem.recursionLimit = 1000 from rfl]; exact Nat.le_of_ble_eq_true h
theorem un0 {u m c : Nat} (h : u + m < c) : u < c := Nat.lt_of_le_of_lt (Nat.le_add_right u m) h
theorem ltB {a b : Nat} (h : Nat.ble (a + 1) b = true) : a < b := Nat.le_of_ble_eq_true h
theorem ltC {a : Nat} (h : Nat.ble (a + 1) 9900 = true) : a < PySem.cLine := by rw [show PySem.cLine = 9900 from rfl]; exact Nat.le_of_ble_eq_true h
end Mine
end
section
open PySem Builtin Builtin.ObjectAttr
open PySem.W (Looks)
set_option maxRecDepth 100000
namespace Mine
section
variable {M : Model} {prog : Program} {w : World} {A : Around} {E : Value → Shared → Prop} {R : Result → Shared → Prop} {h : Heap} {g : Array GenState} {d : Drawn} {t : Nat} {os : OsState}
variable {nm q : PySem.Str} {C N : Addr} {bs bm : List Value} {hdct : Bool} {sn : List PySem.Str} {sub : List Value} {ab : Bool} {col : Option Bool} {dd : Option Addr} {k0 k1 k2 k3 k5 : Option Value}

theorem x_check_new {rest : List Value} {Q : Unit → Shared → Prop} (hcB : (Value.ref C :: bm).contains (.type "Exception") = true)
    (hC : h.get? C = some (excClassObj nm q C N bs bm hdct sn sub ab col dd k0 k1 k2 k3 k5 "Exception.__new__"))
    (hq : Q () ⟨h, g, d, t, os⟩) : wpAny M A (checkBuiltinCall "Exception.__new__" ⟨.ref C :: rest, []⟩) Q E ⟨h, g, d, t, os⟩ := by
  have F := PySem.F.excBase_Exception
  have hstar := F.noStar
  simp only [checkBuiltinCall, F.newKind, F.newSplit, F.newRow]
  repeat (first | refine wpAny_loadPart_at hC ?_ | (refine wpAny_isSubtype_exc hC ?_; rw [hcB]) | refine wpAny_staticBase_exc hC ?_ | refine wpAny_madeBy_exc hC ?_ | simp only [bne_self_eq_false, Bool.false_eq_true, if_false] | wp_step)
  exact hq

theorem x_new {rest : List Value} (hcB : (Value.ref C :: bm).contains (.type "Exception") = true) (hcA : (Value.ref C :: bm).contains (.type "AttributeError") = false)
    (hcN : (Value.ref C :: bm).contains (.type "NameError") = false)
    (hC : h.get? C = some (excClassObj nm q C N bs bm hdct sn sub ab col dd k0 k1 k2 k3 k5 "Exception.__new__"))
    (hq : R (.ok (.ret (.ref (h.objs.size + 1)))) ⟨(h.push { cls := .type "tuple", data := .seq rest.toArray }).push
      { cls := .ref C, data := .fields #[.ref h.objs.size, .none, .none, .none, .bool false, .none] }, g, d, t, os⟩) (hrest : rest.length ≤ sizeLine := by size_fits) :
    codeAny (model prog w) A (.builtin "Exception.__new__" ⟨.ref C :: rest, []⟩) R ⟨h, g, d, t, os⟩ := by
  have F := PySem.F.excBase_Exception
  have hends := F.ends
  refine codeAny_builtinAt F.entry ?_
  unfold Builtin.«BaseException.__new__»
  refine wpAt_bind ?_
  show wpAt _ _ _ (stack >>= _) _ _ _
  refine wpAt_bind (wpAt_stack fun p below => wpAt_of_wpAny ?_)
  wp_walk
  refine wpAt_of_wpAny ?_
  rw [F.owner]
  repeat (first | with_reducible refine wpAny_madeHere_exc F.canon hC ?_ | with_reducible refine wpAny_loadPart_at hC ?_ | (with_reducible refine wpAny_isSubtype_exc hC ?_; first | rw [hcB] | rw [hcA] | rw [hcN]) | wp_step)
  show R _ _
  rw [Heap.size_push]
  exact hq

theorem x_type_call {rest : List Value} {fI : Addr} {oI : Obj} {Q : Fin → Shared → Prop} (hcB : (Value.ref C :: bm).contains (.type "Exception") = true) (hcA : (Value.ref C :: bm).contains (.type "AttributeError") = false)
    (hcN : (Value.ref C :: bm).contains (.type "NameError") = false)
    (hC : h.get? C = some (excClassObj nm q C N bs bm hdct sn sub ab col dd k0 k1 k2 k3 k5 "Exception.__new__")) (hi : Looks (model prog w) h (typeLookup (.ref C) "__init__") (some (.ref fI)))
    (hfI : h.get? fI = some oI) (hfc : oI.cls = .type "function")
    (hq : ∀ h' e, Heap.MadeExcOf h h' e (.ref C) rest →
      wpAny (model prog w) A (call (.ref fI) (.ref e :: rest)) (fun r s' => r = .none ∧ Q (.done (.ret (.ref e))) s') E ⟨h', g, d, t, os⟩) (hrest : rest.length ≤ sizeLine := by size_fits) :
    wpAny (model prog w) A (Builtin.«type.__call__» ⟨.ref C :: rest, []⟩) Q E ⟨h, g, d, t, os⟩ := by
  have F := PySem.F.excBase_Exception
  repeat (first | with_reducible refine wpAny_loadPart_at hC ?_ | with_reducible refine wpAny_madeBy_exc hC ?_ | wp_step)
  refine codeAny_call_builtin_code (Code.quiet_builtin _ F.quiet) (x_check_new hcB hC ?_)
  refine x_new hcB hcA hcN hC ?_ hrest
  show wpAny _ _ _ _ _ _
  have hC₁ := Heap.get?_push_of_some { cls := .ref C, data := .fields #[.ref h.objs.size, .none, .none, .none, .bool false, .none] }
    (Heap.get?_push_of_some { cls := .type "tuple", data := .seq rest.toArray } hC)
  have hfI₁ := Heap.get?_push_of_some { cls := .ref C, data := .fields #[.ref h.objs.size, .none, .none, .none, .bool false, .none] }
    (Heap.get?_push_of_some { cls := .type "tuple", data := .seq rest.toArray } hfI)
  have hget : ((h.push { cls := .type "tuple", data := .seq rest.toArray }).push
      { cls := .ref C, data := .fields #[.ref h.objs.size, .none, .none, .none, .bool false, .none] }).get? (h.objs.size + 1) = some
      { cls := .ref C, data := .fields #[.ref h.objs.size, .none, .none, .none, .bool false, .none] } := by heap_get
  have hcC : (Value.ref C :: bm).contains (.ref C) = true := by simp
  unfold isInstance
  repeat (first | with_reducible refine wpAny_loadPart_at hget ?_ | (with_reducible refine wpAny_isSubtype_exc hC₁ ?_; rw [hcC]) | wp_step)
  show wpAny _ _ (typeLookup (.ref C) _) _ _ _
  refine hi _ _ _ _ (fun b o hb => Heap.get?_push_of_some _ (Heap.get?_push_of_some _ hb)) ?_
  refine wpAny_holding (wpAny_bind ?_)
  unfold bindSpecial
  refine wpAny_bind (wpAny_typeOf (T := "function") ⟨_, hfI₁, hfc⟩ ?_)
  rw [if_pos (by decide)]
  refine wpAny_pure (wpAny_bind (wpAny_mono (hq _ (h.objs.size + 1) ⟨fun b o hb => Heap.get?_push_of_some _ (Heap.get?_push_of_some _ hb), Heap.get?_none_of_le (Nat.le_succ _), h.objs.size, hget, Heap.get?_none_of_le (Nat.le_refl _), ?_⟩) (fun r s' hr => ?_) fun _ _ x => x))
  · exact Heap.get?_push_of_some _ (Heap.get?_push_at rfl rfl)
  · obtain ⟨rfl, hQ⟩ := hr
    wp_walk
    exact hQ

theorem x_call {rest : List Value} {fI : Addr} {oI : Obj} {Q : Value → Shared → Prop} (hcB : (Value.ref C :: bm).contains (.type "Exception") = true) (hcA : (Value.ref C :: bm).contains (.type "AttributeError") = false)
    (hcN : (Value.ref C :: bm).contains (.type "NameError") = false)
    (hC : h.get? C = some (excClassObj nm q C N bs bm hdct sn sub ab col dd k0 k1 k2 k3 k5 "Exception.__new__")) (hi : Looks (model prog w) h (typeLookup (.ref C) "__init__") (some (.ref fI)))
    (hfI : h.get? fI = some oI) (hfc : oI.cls = .type "function")
    (hq : ∀ h' e, Heap.MadeExcOf h h' e (.ref C) rest →
      wpAny (model prog w) (A.under (.builtin "type.__call__" ⟨.ref C :: rest, []⟩)) (call (.ref fI) (.ref e :: rest)) (fun r s' => r = .none ∧ Q (.ref e) s') E ⟨h', g, d, t, os⟩) (hrest : rest.length ≤ sizeLine := by size_fits) :
    wpAny (model prog w) A (call (.ref C) rest) Q E ⟨h, g, d, t, os⟩ := by
  have f1 := tc_lookup
  have f2 := tc_bind (.ref C)
  have hT : (⟨h, g, d, t, os⟩ : Shared).TypeIs (.ref C) "type" := ⟨_, hC, rfl⟩
  refine wpAny_call (codeAny_of_tree ?_)
  show wpAny _ _ (callAny (.ref C) _) _ _ _
  repeat (any_goals (first | assumption | with_reducible refine wpAny_loadPart_at hC ?_ | wp_step))
  refine ⟨rfl, ?_⟩
  refine codeAny_call_builtin_at (Code.quiet_builtin _ (by decide +kernel)) entry_typeCall (wpAny_check_type_call_sub hC (x_type_call (hrest := hrest) hcB hcA hcN hC hi hfI hfc fun h' e hm => ?_))
  exact hq h' e hm
end
end Mine
end
section
open PySem Builtin Builtin.ObjectAttr
open PySem.W (Looks)
set_option maxRecDepth 100000
namespace Mine
abbrev excObj (C t : Addr) : Obj := { cls := .ref C, data := .fields #[.ref t, .none, .none, .none, .bool false, .none] }
abbrev tupObj (vs : List Value) : Obj := { cls := .type "tuple", data := .seq vs.toArray }
section
variable {M : Model} {prog : Program} {w : World} {A : Around} {E : Value → Shared → Prop} {R : Result → Shared → Prop} {h : Heap} {g : Array GenState} {d : Drawn} {t : Nat} {os : OsState}
variable {nm q : PySem.Str} {C N : Addr} {bs bm : List Value} {hdct : Bool} {sn : List PySem.Str} {sub : List Value} {ab : Bool} {col : Option Bool} {dd : Option Addr} {k0 k1 k2 k3 k5 : Option Value}

theorem x_check_init {e : Addr} {oe : Obj} {rest : List Value} {Q : Unit → Shared → Prop} (hcB : (Value.ref C :: bm).contains (.type "Exception") = true)
    (hC : h.get? C = some (excClassObj nm q C N bs bm hdct sn sub ab col dd k0 k1 k2 k3 k5 "Exception.__new__")) (he : h.get? e = some oe) (hcls : oe.cls = .ref C) (hq : Q () ⟨h, g, d, t, os⟩) :
    wpAny M A (checkBuiltinCall "Exception.__init__" ⟨.ref e :: rest, []⟩) Q E ⟨h, g, d, t, os⟩ := by
  have F := PySem.F.excBase_Exception
  have hshort := F.noStar
  simp only [checkBuiltinCall, F.initKind, F.initSplit, F.initRow]
  repeat (first | (with_reducible refine wpAny_loadPart_at he ?_; rw [hcls]) | with_reducible refine wpAny_loadPart_at hC ?_ | (with_reducible refine wpAny_isSubtype_exc hC ?_; rw [hcB]) | wp_step)
  refine wpAny_onRaise ?_
  rw [show ∀ (a b : String) (n : Nat), Bind.check ⟨.positional, "*", "Exception", .self, [⟨"args", .varPos, false⟩]⟩ a b n (List.map (fun x => x.fst) ({ pos := Value.ref e :: rest } : Args).kw) = pure () from
    fun a b n => check_star_args _ _ _ _ _ _]
  exact wpAny_pure hq

theorem x_base_init {e tt : Addr} {v : Value} {Q : Value → Shared → Prop} (hcB : (Value.ref C :: bm).contains (.type "Exception") = true)
    (hC : h.get? C = some (excClassObj nm q C N bs bm hdct sn sub ab col dd k0 k1 k2 k3 k5 "Exception.__new__")) (he : h.get? e = some (excObj C tt))
    (hq : ∀ h' t2, (∀ b o, b ≠ e → h.get? b = some o → h'.get? b = some o) → h'.get? e = some (excObj C t2) → h'.get? t2 = some (tupObj [v]) → h.get? t2 = none → Q .none ⟨h', g, d, t, os⟩) :
    wpAny (model prog w) A (call (.builtin "Exception.__init__") [.ref e, v]) Q E ⟨h, g, d, t, os⟩ := by
  have F := PySem.F.excBase_Exception
  refine wpAny_call (codeAny_call_builtin F.init.plain F.initEntry (x_check_init hcB hC he rfl ?_))
  wp_walk
  have hes : e ≠ h.objs.size := Nat.ne_of_lt (Heap.lt_size he)
  refine hq _ h.objs.size (fun b o hb ho => ?_) ?_ ?_ (Heap.get?_none_of_le (Nat.le_refl _))
  · rw [Heap.get?_update_other _ _ (Ne.symm hb)]
    exact Heap.get?_push_of_some _ ho
  · rw [Heap.get?_update_self _ (Heap.get?_push_of_some _ he) rfl]
    rfl
  · rw [Heap.get?_update_other _ _ hes]
    exact Heap.get?_push_at rfl rfl
end
end Mine
end
section
open PySem Builtin Builtin.ObjectAttr
open PySem.W (Looks)
set_option maxRecDepth 100000
namespace Mine
section
variable {M : Model} {prog : Program} {w : World} {A : Around} {E : Value → Shared → Prop} {R : Result → Shared → Prop} {h : Heap} {g : Array GenState} {d : Drawn} {t : Nat} {os : OsState}
variable {nm q : PySem.Str} {C N : Addr} {bs bm : List Value} {sn : List PySem.Str} {sub : List Value} {ab : Bool} {col : Option Bool} {dd : Option Addr} {k0 k1 k2 k3 k5 : Option Value}

theorem x_check_sa {x : Addr} {o : Obj} {nameV v : Value} {Q : Unit → Shared → Prop} (hcO : (Value.ref C :: bm).contains (.type "object") = true)
    (hC : h.get? C = some (excClassObj nm q C N bs bm true sn sub ab col dd k0 k1 k2 k3 k5 "Exception.__new__")) (hx : h.get? x = some o) (hc : o.cls = .ref C) (hq : Q () ⟨h, g, d, t, os⟩) :
    wpAny M A (checkBuiltinCall "object.__setattr__" ⟨[.ref x, nameV, v], []⟩) Q E ⟨h, g, d, t, os⟩ := by
  have SF := PySem.F.store_Exception
  have ha := SF.args (.ref x) nameV v
  simp only [checkBuiltinCall, SF.kind, SF.split]
  refine wpAny_bind ?_
  · unfold isInstance
    repeat (first | (with_reducible refine wpAny_loadPart_at hx ?_; rw [hc]) | (with_reducible refine wpAny_isSubtype_exc hC ?_; rw [hcO]) | wp_step)
    exact hq

theorem x_store {x : Addr} {o : Obj} {name : PySem.Str} {tk : Tok} {v : Value} {Q : Fin → Shared → Prop}
    (hC : h.get? C = some (excClassObj nm q C N bs bm true sn sub ab col dd k0 k1 k2 k3 k5 "Exception.__new__"))
    (LN : Looks (model prog w) h (typeLookup (.ref C) name) none) (hpass : refuseLoop (.ref x) "__setattr__" (.ref C :: bm) = pure ())
    (hx : h.get? x = some o) (hc : o.cls = .ref C) (hdn : o.dict = none) (hnc : ∀ c, o.data ≠ .cls c)
    (hq : ∀ h' tk' dx, (∀ b o', b ≠ x → h.get? b = some o' → h'.get? b = some o') → h'.get? x = some { o with dict := some dx } → h.get? dx = none → dx ≠ x → (∃ od, h'.get? dx = some od) → Q (.done (.ret .none)) ⟨h', g, d, tk', os⟩) :
    wpAny (model prog w) A (Builtin.«object.__setattr__» ⟨[.ref x, .str name tk, v], []⟩) Q E ⟨h, g, d, t, os⟩ := by
  unfold Builtin.«object.__setattr__»
  repeat (first | rw [refuse_eq] | (rw [hpass]) | (with_reducible refine wpAny_loadPart_at hx ?_; rw [hc]) | with_reducible refine wpAny_mroOf_exc hC ?_ | (with_reducible refine LN.at ?_) | wp_step)
  rw [hdn, if_neg (by simp [typeHasDict])]
  split
  · rename_i hcd
    cases hcd
  split
  · rename_i c hcd
    exact absurd hcd (hnc c)
  · have hx₁ : (h.push { cls := .type "dict", data := .dict #[] }).get? x = some o := Heap.get?_push_of_some _ hx
    have hxs : x ≠ h.objs.size := Nat.ne_of_lt (Heap.lt_size hx)
    refine wpAny_bind (wpAny_alloc' ?_)
    refine wpAny_bind (wpAny_update' hx₁ ?_)
    refine wpAny_pure ?_
    have hgd : ((h.push { cls := .type "dict", data := .dict #[] }).update x fun o => { cls := o.cls, dict := some h.objs.size, data := o.data, slots := o.slots }).get? h.objs.size
        = some { cls := .type "dict", data := .dict #[] } :=
      (Heap.get?_update_ne _ _ _ _ hxs.symm).trans (Heap.get?_push_at rfl rfl)
    have hnd : ((h.push { cls := .type "dict", data := .dict #[] }).update x fun o => { cls := o.cls, dict := some h.objs.size, data := o.data, slots := o.slots }).Ns h.objs.size (fun _ => none) :=
      ⟨_, #[], _, hgd, rfl, fun e he => absurd he (by simp), fun _ => rfl⟩
    show wpAny _ _ (storeInDict h.objs.size (.str name tk) name v) _ _ _
    unfold storeInDict newKeyGuard
    refine wpAny_bind (wpAny_pure (wpAny_bind (wpAny_nsSet1 (Heap.Ns1.of_empty hnd) fun h' hn' hs => ?_)))
    obtain ⟨oD, esD, epD, hoD, hdD, hcD⟩ := hn'.count (Within.cons name v Within.nil)
    refine wpAny_bind (wpAny_lookBehind hoD (by rw [hdD]; exact pastItsLine_dict (Nat.le_trans hcD (by rw [List.length_cons, List.length_nil, sizeLine_eq]; (first | lia | omega)))) ?_)
    wp_walk
    refine hq h' _ h.objs.size (fun b ob hbx hb => ?_) ?_ (Heap.get?_none_of_le (Nat.le_refl _)) hxs.symm ⟨oD, hoD⟩
    · exact (hs.2 b (Nat.ne_of_lt (Heap.lt_size hb))).trans ((Heap.get?_update_ne _ _ _ _ hbx).trans (Heap.get?_push_of_some _ hb))
    · refine (hs.2 x hxs).trans (Heap.get?_update_self _ hx₁ ?_)
      have hfr := (Heap.get?_some_iff.mp hx).2
      obtain ⟨oc, od, odt, osl⟩ := o
      cases odt <;> first | rfl | exact hfr

theorem x_setattr {x : Addr} {o : Obj} {name : PySem.Str} {v : Value} {Q : Unit → Shared → Prop} (hcO : (Value.ref C :: bm).contains (.type "object") = true)
    (hC : h.get? C = some (excClassObj nm q C N bs bm true sn sub ab col dd k0 k1 k2 k3 k5 "Exception.__new__"))
    (LS : Looks (model prog w) h (typeLookup (.ref C) "__setattr__") (some (.builtin "object.__setattr__")))
    (LN : Looks (model prog w) h (typeLookup (.ref C) name) none) (hpass : refuseLoop (.ref x) "__setattr__" (.ref C :: bm) = pure ())
    (hx : h.get? x = some o) (hc : o.cls = .ref C) (hdn : o.dict = none) (hnc : ∀ c, o.data ≠ .cls c)
    (hq : ∀ h' tk' dx, (∀ b o', b ≠ x → h.get? b = some o' → h'.get? b = some o') → h'.get? x = some { o with dict := some dx } → h.get? dx = none → dx ≠ x → (∃ od, h'.get? dx = some od) → Q () ⟨h', g, d, tk', os⟩) :
    wpAny (model prog w) A (setAttr (.ref x) name v) Q E ⟨h, g, d, t, os⟩ := by
  have SF := PySem.F.store_Exception
  have f3 := SF.slot.bind (.ref x)
  unfold setAttr callSpecial? specialOf
  repeat (any_goals (first | assumption | (with_reducible refine wpAny_loadPart_at hx ?_; rw [hc]) | (with_reducible refine LS.at ?_) | wp_step))
  refine codeAny_call_builtin SF.slot.plain SF.entry (x_check_sa hcO hC hx hc (x_store hC LN hpass hx hc hdn hnc fun h' tk' dx a b c e f => ?_))
  repeat (any_goals (first | assumption | wp_step))
  exact hq h' tk' dx a b c e f
end
end Mine
end
section
open PySem PySem.W PyProof.Rows PySem.Calls
set_option maxRecDepth 100000
namespace Mine
section
variable {prog : Program} {w : World} {A : Around} {E : Value → Shared → Prop} {s : Shared} {K : Frag} {h₀ : Heap} {L e t : Addr} {m : PySem.Str → Option Value} {news : List (Addr × Obj)} {v : Value}
variable {nm q : PySem.Str} {C N₁ : Addr} {bs bm : List Value} {sn : List PySem.Str} {sub : List Value} {ab : Bool} {col : Option Bool} {dd : Option Addr} {k0 k1 k2 k3 k5 : Option Value}
theorem fr_upd {h' : Heap} {o : Obj} (F : Fr h₀ L s.heap m) (N : News h₀ L s.heap ((e, o) :: news)) (k : ∀ b o, b ≠ e → s.heap.get? b = some o → h'.get? b = some o) : Fr h₀ L h' m := by
  have h1 := N _ (List.mem_cons_self ..)
  exact ⟨F.ns.at' fun o ho => k L o (fun q => h1.2.1 q.symm) ho, fun b o ho => k b o (fun q => by have z := h1.2.2; dsimp only at z; rw [← q, ho] at z; cases z) (F.keep b o ho), F.above⟩
theorem news_upd1 {h' : Heap} {o o' : Obj} (N : News h₀ L s.heap ((e, o) :: news)) (off : ∀ p ∈ news, p.1 ≠ e) (k : ∀ b o, b ≠ e → s.heap.get? b = some o → h'.get? b = some o) (he : h'.get? e = some o') : News h₀ L h' ((e, o') :: news) := fun p hp => by
  rcases List.mem_cons.mp hp with rfl | hp
  · exact ⟨he, (N _ (List.mem_cons_self ..)).2⟩
  · exact ⟨k _ _ (off p hp) (N p (List.mem_cons_of_mem _ hp)).1, (N p (List.mem_cons_of_mem _ hp)).2⟩
theorem x_init_N {Q : Value → Shared → Prop} (F : Fr h₀ L s.heap m) (X₀ : K.In h₀) (N : News h₀ L s.heap ((e, excObj C t) :: news))
    (hC : K.lookup C = some (excClassObj nm q C N₁ bs bm true sn sub ab col dd k0 k1 k2 k3 k5 "Exception.__new__")) (hcB : (Value.ref C :: bm).contains (.type "Exception") = true) (off : ∀ p ∈ news, p.1 ≠ e)
    (h : ∀ h' t2, Fr h₀ L h' m → News h₀ L h' ((e, excObj C t2) :: news) → (∀ b o, b ≠ e → s.heap.get? b = some o → h'.get? b = some o) → Q .none { s with heap := h' }) :
    wpAny (model prog w) A (call (.builtin "Exception.__init__") [.ref e, v]) Q E s := by
  obtain ⟨hh, g, d, tk, os⟩ := s
  refine x_base_init hcB ((X₀.keeps F.keep) _ _ hC) (N _ (List.mem_cons_self ..)).1 fun h' t2 k he _ _ => h h' t2 (fr_upd F N k) (news_upd1 N off k he) k
theorem x_set_N {name : PySem.Str} {Q : Unit → Shared → Prop} (F : Fr h₀ L s.heap m) (X₀ : K.In h₀) (N : News h₀ L s.heap ((e, excObj C t) :: news))
    (hC : K.lookup C = some (excClassObj nm q C N₁ bs bm true sn sub ab col dd k0 k1 k2 k3 k5 "Exception.__new__")) (hcO : (Value.ref C :: bm).contains (.type "object") = true)
    (LS : findIn K (.ref C) "__setattr__" = some (some (.builtin "object.__setattr__"))) (LN : findIn K (.ref C) name = some none)
    (hpass : ∀ x, refuseLoop (.ref x) "__setattr__" (.ref C :: bm) = pure ()) (off : ∀ p ∈ news, p.1 ≠ e)
    (h : ∀ h' tk' dx, Fr h₀ L h' m → News h₀ L h' ((e, { excObj C t with dict := some dx }) :: news) → (∀ b o, b ≠ e → s.heap.get? b = some o → h'.get? b = some o) → Q () { s with heap := h', toks := tk' }) :
    wpAny (model prog w) A (setAttr (.ref e) name v) Q E s := by
  obtain ⟨hh, g, d, tk, os⟩ := s
  have X := X₀.keeps F.keep
  refine x_setattr hcO (X _ _ hC) (looks_findIn X LS) (looks_findIn X LN) (hpass e) (N _ (List.mem_cons_self ..)).1 rfl rfl (by intro c q; cases q) fun h' tk' dx k he _ _ _ => h h' tk' dx (fr_upd F N k) (news_upd1 N off k he) k
end
end Mine
end
section
open PySem Builtin Builtin.ObjectAttr
open PySem.W (Looks)
set_option maxRecDepth 100000
namespace Mine
structure NewExcC (h h' : Heap) (e : Addr) (cls : Value) : Prop where
  keeps : ∀ b o, h.get? b = some o → h'.get? b = some o
  new : h.get? e = none
  there : ∃ oe a0, h'.get? e = some oe ∧ oe.cls = cls ∧ oe.data = .fields #[a0, .none, .none, .none, .bool false, .none]
section
variable {M : Model} {prog : Program} {w : World} {A : Around} {E : Value → Shared → Prop} {s : Shared} {env : Env}
variable {nm q : PySem.Str} {C N : Addr} {bs bm : List Value} {hdct : Bool} {sn : List PySem.Str} {sub : List Value} {ab : Bool} {col : Option Bool} {dd : Option Addr} {k0 k1 k2 k3 k5 : Option Value} {newId : String}
def ExcAt (nm q : PySem.Str) (C N : Addr) (bs bm : List Value) (hdct : Bool) (sn : List PySem.Str) (sub : List Value) (ab : Bool) (col : Option Bool) (dd : Option Addr) (k0 k1 k2 k3 k5 : Option Value) (newId : String) (E : Value → Shared → Prop) (v : Value) (s₁ : Shared) : Prop :=
  ∃ e oe a0, v = .ref e ∧ s₁.heap.get? C = some (excClassObj nm q C N bs bm hdct sn sub ab col dd k0 k1 k2 k3 k5 newId) ∧ s₁.heap.get? e = some oe ∧ oe.cls = .ref C ∧ oe.data = .fields #[a0, .none, .none, .none, .bool false, .none] ∧ E (.ref e) s₁

theorem x_raiseStmt {x : Sem Value} {Q : Flow → Shared → Prop} (hbase : (Value.ref C :: bm).contains (.type "BaseException") = true) (hh : A.handled = none)
    (h : wpAny M A x (ExcAt nm q C N bs bm hdct sn sub ab col dd k0 k1 k2 k3 k5 newId E) E s) : wpAny M A (raiseStmt env (some x) none) Q E s := by
  unfold raiseStmt
  refine wpAny_bind (wpAny_mono h (fun v s₁ h₁ => ?_) fun _ _ x => x)
  obtain ⟨e, oe, a0, rfl, hC, he, hc, hd, hE⟩ := h₁
  obtain ⟨hp, g, d, tk, os⟩ := s₁
  obtain ⟨oc, odd, oda, osl⟩ := oe
  dsimp only at hc hd
  subst hc hd
  repeat (first | with_reducible refine wpAny_loadPart_at he ?_ | with_reducible refine wpAny_loadPart_at hC ?_ | (with_reducible refine wpAny_isSubtype_exc hC ?_; rw [hbase]) | wp_step)
  exact wpAny_raiseNew_none hh hE

theorem Raise_x {ce : PySem.Expr} {pos : Pos} {Q : Flow → Shared → Prop} (hbase : (Value.ref C :: bm).contains (.type "BaseException") = true) (hh : A.handled = none)
    (h : wpAny M A (eval ce env) (ExcAt nm q C N bs bm hdct sn sub ab col dd k0 k1 k2 k3 k5 newId E) E s) : wpAny M A (exec (.Raise (some ce) none pos) env) Q E s := by
  rw [arm_exec_Raise]
  refine wpAny_bind (wpAny_standAt (x_raiseStmt (C := C) (nm := nm) (q := q) (N := N) (bs := bs) (bm := bm) (hdct := hdct) (sn := sn) (sub := sub) (ab := ab) (col := col) (dd := dd) (k0 := k0) (k1 := k1) (k2 := k2) (k3 := k3) (k5 := k5) (newId := newId) hbase hh ?_))
  refine wpAny_bind (wpAny_mono h (fun v s₃ h₃ => wpAny_bind (wpAny_standAt (wpAny_pure h₃))) fun _ _ x => x)
end
end Mine
end
section
open PySem PySem.W PyProof.Rows PySem.Calls
set_option maxRecDepth 100000
namespace Mine
section
variable {M : Model} {A : Around} {E : Value → Shared → Prop} {s' : Shared} {base g g₂ h : Heap} {outer : List Env} {L a e : Addr} {m : PySem.Str → Option Value} {name : PySem.Str} {scope : Scope} {cd : Value} {Q : Unit → Shared → Prop} {news : List (Addr × Obj)}
/-- an own exception, raised in this frame, leaves it -/
theorem leave_newC {cls : Value} (K : Below A base outer g) (hx : NewExcC h s'.heap e cls) (F : Fr g L h m) (N : News g L h news)
    (hQ : ∀ h', RaisedSN base g outer e cls news h' → g.UpToSlots h' → Q () { s' with heap := h' }) (hk : scope.kind = .function := by rfl) :
    wpAny M (A.deeper (envOf name scope L a cd)) (leaving (envOf name scope L a cd) (.ref e)) Q E s' := by
  have K' := K.push (name := name) (a := a) (cd := cd) F hk
  have mine : ∀ env ∈ (envOf name scope L a cd :: outer), ∀ b, env.frame = some b → b ∈ (envOf name scope L a cd :: outer).filterMap (·.frame) := fun env he b hb => List.mem_filterMap.mpr ⟨env, he, hb⟩
  have st : base.StaysIn (hideAll h ((envOf name scope L a cd :: outer).filterMap (·.frame))) := fun b o q => hideAll_get _ (K'.stays b o q) fun hm => by
    rw [(K'.frames.mem hm).1] at q; cases q
  have sg : ∀ b o, g.get? b = some o → b ∉ outer.filterMap (·.frame) → (hideAll h ((envOf name scope L a cd :: outer).filterMap (·.frame))).get? b = some o := fun b o q nm => hideAll_get _ (F.keep b o q) fun hm => by
    rcases kts_mem hm with z | z
    · rw [z, kts_self F] at q
      cases q
    · exact nm z
  have hl : ∀ q ∈ news, (hideAll h ((envOf name scope L a cd :: outer).filterMap (·.frame))).get? q.1 = some q.2 ∧ g.get? q.1 = none ∧ base.get? q.1 = none := fun q hq => by
    refine ⟨hideAll_get _ (N q hq).1 fun hm => ?_, (N q hq).2.2, fresh_of_stays K.stays (N q hq).2.2⟩
    obtain ⟨env, he, hf⟩ := List.mem_filterMap.mp hm
    rcases List.mem_cons.mp he with rfl | he
    · exact (N q hq).2.1 (Option.some.inj hf).symm
    · obtain ⟨o, ho, _⟩ := (K.frames.mem (List.mem_filterMap.mpr ⟨env, he, hf⟩)).2
      rw [(N q hq).2.2] at ho; cases ho
  obtain ⟨ob, a0, he, hcls, hd⟩ := hx.there
  have hen : (hideAll h ((envOf name scope L a cd :: outer).filterMap (·.frame))).get? e = none := by
    cases q : (hideAll h ((envOf name scope L a cd :: outer).filterMap (·.frame))).get? e with
    | none => rfl
    | some o => have := of_hideAll _ q; rw [hx.new] at this; cases this
  refine wpAny_leaving_firstW (a0 := a0) K'.stack ((funFrames_hide K'.frames mine).of_keeps fun b o hb _ => ⟨o, hx.keeps b o hb, rfl⟩) rfl he (fun b o hb => hx.keeps b o (of_hideAll _ hb)) hen hd rfl rfl fun h' hL => ?_
  obtain ⟨k1, ⟨_, _, k2⟩, k3, k4⟩ := hL
  exact hQ h' ⟨_, a0, st, sg, hl, k1, hen, k2, by rw [← hcls]; exact k3⟩ (((Heap.UpToSlots.of_keeps F.keep).trans (Heap.UpToSlots.of_keeps hx.keeps)).trans k4)
end
end Mine
end
section
open PySem PySem.W PyProof.Rows PySem.Calls
set_option maxRecDepth 100000
namespace Mine
theorem fill2 : (fun (_ : OpenLaw) (_ : Params → Frag) => True) PySem.Challenge.rw_ok0132_01 Mine.hdx.heap_1 := by
  w_top off
  k_fill
  trivial

local macro_rules | `(tactic| k_all) => `(tactic| assumption)
set_option maxHeartbeats 8000000 in
theorem init_spec {w : World} {mean : ExcName → Option Value} {mg mb : PySem.Str → Option Value} {dp un : Nat} {gd : Option (List Code)} {cn : PySem.Str} {cs : Scope} {a : Addr} {ccd : Value} {cl : List (PySem.Str × Addr)} {outer : List Env} {A₀ : Around} {base h₀ : Heap} {L : Addr} {m : PySem.Str → Option Value} {s : Shared} {Q E : Value → Shared → Prop}
    {e t : Addr} {C : Addr} {msg : PySem.Str} {tt : Tok} 
    {nm q : PySem.Str} {N₁ : Addr} {bs bm : List Value} {sn : List PySem.Str} {sub : List Value} {ab : Bool} {col : Option Bool} {dd : Option Addr} {k0 k1 k2 k3 k5 : Option Value}
    (B : Below A₀ base outer h₀) (F : Fr h₀ L s.heap m) (X : (hdx.heap_1 w.params).In h₀) (N : News h₀ L s.heap [(e, excObj C t)]) (T : Top vw (looseW vw []) mean mg mb h₀) (hk : cs.kind = .function)
    (hd : dp + 4 < recursionLimit) (hu : un + 20 < cLine)
    (hC : (hdx.heap_1 w.params).lookup C = some (excClassObj nm q C N₁ bs bm true sn sub ab col dd k0 k1 k2 k3 k5 "Exception.__new__"))
    (hcB : (Value.ref C :: bm).contains (.type "Exception") = true) (hcO : (Value.ref C :: bm).contains (.type "object") = true)
    (LS : findIn (hdx.heap_1 w.params) (.ref C) "__setattr__" = some (some (.builtin "object.__setattr__"))) (LN : findIn (hdx.heap_1 w.params) (.ref C) "message" = some none)
    (hpass : ∀ x, refuseLoop (.ref x) "__setattr__" (.ref C :: bm) = pure ())
    (hret : ∀ h' tk' oe a0, (∀ b o, b ≠ e → s.heap.get? b = some o → h'.get? b = some o) → h'.get? e = some oe → oe.cls = .ref C → oe.data = .fields #[a0, .none, .none, .none, .bool false, .none] → Q .none { s with heap := h', toks := tk' }) :
    wpAny (model PySem.Challenge.pw_ok0132_01 w) ((ktrTop dp un gd cn cs L a ccd cl outer).under (.builtin "type.__call__" ⟨[.ref C, .str msg tt], []⟩)) (call (.ref 28) [.ref e, .str msg tt]) Q E s := by
  refine wpAny_call ?_
  k_dflt (refine' code_defG ?k1 ?k2 ?k3 ?k4 ?k5 ?kA ?kF ?kK ?k6 ?k7 ?k8 ?k9 ?kB ?_ ?c2 ?c3 ?c4 ?c5; (case kA => exact rfl); (case kF => exact rfl); (case kK => assumption); (case k1 => k_asm); (case k2 => k_asm); (case k3 => k_asm); (case k4 => k_asm); (case k5 => k_asm); (case k6 => k_is); (case k7 => k_is); (case k8 => ktr_room); (case k9 => exact BindsTo.of_eq rfl); (case c5 => decide); (case kB => exact locs rfl); (case c2 => exact rfl); (case c3 => exact rfl); (case c4 => exact rfl); k_whole; intro g' L' h' FG' F' N' B' X' T' GS'; (try dsimp only); (try k_fold))
  iterate 5 walk1
  refine method_type F' X' (by kernel_rfl) (by decide +kernel) (v := .builtin "Exception.__init__") (by k_is) (by k_handed) ?_
  dsimp only
  iterate 6 walk1
  refine x_init_N F' X' N' hC hcB (List.forall_mem_nil _) ?_
  intro h1 t2 F1 N1 kk1
  clear F' N'
  dsimp only
  iterate 5 walk1
  refine x_set_N F1 X' N1 hC hcO LS LN hpass (List.forall_mem_nil _) ?_
  intro h2 tk2 dx F2 N2 kk2
  clear F1 N1
  dsimp only
  k_steps
  exact hret h2 tk2 _ _ (fun b o hb ho => F2.keep b o (GS' b o ho (by simpa using hb))) (N2 _ (List.mem_cons_self ..)).1 rfl rfl
end Mine
end
section
open PySem PySem.W PyProof.Rows PySem.Calls
set_option maxRecDepth 100000
namespace Mine
theorem fill9 : (fun (_ : OpenLaw) (_ : Params → Frag) => True) PySem.Challenge.rw_ok0132_01 Mine.hdx.heap_1 := by
  w_top off
  k_fill
  trivial
section
variable {w : World} {mean : ExcName → Option Value} {mg mb : PySem.Str → Option Value} {dp un : Nat} {gd : Option (List Code)} {cn : PySem.Str} {cs : Scope} {a : Addr} {ccd : Value} {cl : List (PySem.Str × Addr)} {outer : List Env} {A₀ : Around} {base h₀ : Heap} {L : Addr} {m : PySem.Str → Option Value} {s : Shared} {Q E : Value → Shared → Prop}
theorem make_spec {C : Addr} {msg : PySem.Str} {tt : Tok}
    {nm q : PySem.Str} {N₁ : Addr} {bs bm : List Value} {sn : List PySem.Str} {sub : List Value} {ab : Bool} {col : Option Bool} {dd : Option Addr} {k0 k1 k2 k3 k5 : Option Value}
    (B : Below A₀ base outer h₀) (F : Fr h₀ L s.heap m) (X : (hdx.heap_1 w.params).In h₀) (T : Top vw (looseW vw []) mean mg mb h₀) (hk : cs.kind = .function)
    (hd : dp + 4 < recursionLimit) (hu : un + 20 < cLine)
    (hC : (hdx.heap_1 w.params).lookup C = some (excClassObj nm q C N₁ bs bm true sn sub ab col dd k0 k1 k2 k3 k5 "Exception.__new__"))
    (hcB : (Value.ref C :: bm).contains (.type "Exception") = true) (hcO : (Value.ref C :: bm).contains (.type "object") = true)
    (hcA : (Value.ref C :: bm).contains (.type "AttributeError") = false) (hcN : (Value.ref C :: bm).contains (.type "NameError") = false)
    (LI : findIn (hdx.heap_1 w.params) (.ref C) "__init__" = some (some (.ref 28)))
    (LS : findIn (hdx.heap_1 w.params) (.ref C) "__setattr__" = some (some (.builtin "object.__setattr__"))) (LN : findIn (hdx.heap_1 w.params) (.ref C) "message" = some none)
    (hpass : ∀ x, refuseLoop (.ref x) "__setattr__" (.ref C :: bm) = pure ())
    (hret : ∀ h' tk' e, NewExcC s.heap h' e (.ref C) → Q (.ref e) { s with heap := h', toks := tk' }) :
    wpAny (model PySem.Challenge.pw_ok0132_01 w) (ktrTop dp un gd cn cs L a ccd cl outer) (call (.ref C) [.str msg tt]) Q E s := by
  obtain ⟨hh, g, d, tk, os⟩ := s
  have Xs := X.keeps F.keep
  refine x_call hcB hcA hcN (Xs _ _ hC) (looks_findIn Xs LI) (Xs 28 _ (by k_is)) rfl fun h1 e hm => ?_
  obtain ⟨t, ht, htn, htt⟩ := hm.there
  have F1 := F.keeps hm.keeps
  have N1 : News h₀ L h1 [(e, excObj C t)] := fun p hp => by
    rw [List.mem_singleton.mp hp]
    refine ⟨ht, fun q => ?_, ?_⟩
    · obtain ⟨o, _, _, ho, _⟩ := F.ns
      have := hm.new
      dsimp only at this q
      rw [q] at this
      rw [this] at ho
      cases ho
    · cases q : h₀.get? e with
      | none => rfl
      | some o => have z := F.keep _ _ q; dsimp only at z; rw [hm.new] at z; cases z
  refine init_spec (s := ⟨h1, g, d, tk, os⟩) B F1 X N1 T hk hd hu hC hcB hcO LS LN hpass fun h' tk' oe a0 k he hc hdat => ⟨rfl, ?_⟩
  refine hret h' tk' e ⟨fun b o hb => ?_, hm.new, oe, a0, he, hc, hdat⟩
  exact k b o (fun q => by have := hm.new; rw [← q] at this; dsimp only at hb; rw [this] at hb; cases hb) (hm.keeps b o hb)
end
end Mine
end
section
open PySem PySem.W PyProof.Rows PySem.Calls
set_option maxRecDepth 100000
namespace Mine
def RaisePost (h : Heap) (C : Addr) (E : Value → Shared → Prop) (v : Value) (s₁ : Shared) : Prop := ∃ e, v = .ref e ∧ NewExcC h s₁.heap e (.ref C) ∧ E (.ref e) s₁
section
variable {M : Model} {prog : Program} {w : World} {A : Around} {E : Value → Shared → Prop} {s : Shared} {env : Env} {K : Frag} {h₀ : Heap} {L : Addr} {m : PySem.Str → Option Value}
variable {nm q : PySem.Str} {C N : Addr} {bs bm : List Value} {hdct : Bool} {sn : List PySem.Str} {sub : List Value} {ab : Bool} {col : Option Bool} {dd : Option Addr} {k0 k1 k2 k3 k5 : Option Value} {newId : String}
theorem Raise_own_x {ce : PySem.Expr} {pos : Pos} {Q : Flow → Shared → Prop} (F : Fr h₀ L s.heap m) (X₀ : K.In h₀) (hC : K.lookup C = some (excClassObj nm q C N bs bm hdct sn sub ab col dd k0 k1 k2 k3 k5 newId)) (hbase : (Value.ref C :: bm).contains (.type "BaseException") = true) (hh : A.handled = none)
    (h : wpAny M A (eval ce env) (RaisePost s.heap C E) E s) : wpAny M A (exec (.Raise (some ce) none pos) env) Q E s := by
  refine Raise_x (C := C) (nm := nm) (q := q) (N := N) (bs := bs) (bm := bm) (hdct := hdct) (sn := sn) (sub := sub) (ab := ab) (col := col) (dd := dd) (k0 := k0) (k1 := k1) (k2 := k2) (k3 := k3) (k5 := k5) (newId := newId) hbase hh (wpAny_mono h (fun v s₁ h₁ => ?_) fun _ _ x => x)
  obtain ⟨e, rfl, hN, hE⟩ := h₁
  obtain ⟨oe, a0, he, hc, hd⟩ := hN.there
  exact ⟨e, oe, a0, rfl, hN.keeps _ _ ((X₀.keeps F.keep) _ _ hC), he, hc, hd, hE⟩
end
theorem RaisePost.intro {h : Heap} {C e : Addr} {E : Value → Shared → Prop} {s₁ : Shared} (hx : NewExcC h s₁.heap e (.ref C)) (hE : E (.ref e) s₁) : RaisePost h C E (.ref e) s₁ := ⟨e, rfl, hx, hE⟩
end Mine
end
section
open PySem PySem.W PyProof.Rows PySem.Calls
set_option maxRecDepth 100000
namespace Mine
open LCg LCt
section
variable {prog : Program} {w : World} {A : Around} {h₀ : Heap} {L : Addr} {m : PySem.Str → Option Value} {env : Env} {elt ct : PySem.Expr} {x : PySem.Str} {scope : Scope} {cl : List (PySem.Str × Addr)} {s : Shared} {S : List (Addr × Obj) → Prop} {P : Nat → Value → Prop} {Fin : List Value → List (Addr × Obj) → Prop} {n : Nat}
/-- a comprehension by an invariant over the turn, what is made so far, and the ledger -/
theorem comp_inv (J : Nat → List Value → List (Addr × Obj) → Prop)
    (turn : ∀ i ys news v I oI C oC D m₂ h tk (E' : Value → Shared → Prop), i < n → P i v → J i ys news → NsObj oC m₂ → m₂ x = some v → Fr h₀ L h m → News h₀ L h ((I, oI) :: (C, oC) :: (D, lst ys) :: news) → Off3 I C D news → ((@Ne Nat I C) ∧ (@Ne Nat I D) ∧ (@Ne Nat C D)) →
      wpAny (model prog w) A (eval elt (compEnvC scope cl C env)) (CompEnd h₀ L m { s with heap := h, toks := tk } I oI C oC D (lst ys) S (fun y news' => J (i + 1) (ys ++ [y]) news')) E' { s with heap := h, toks := tk })
    (fin : ∀ ys news, J n ys news → Fin ys news) : ∀ (k i : Nat) (ys : List Value) (news : List (Addr × Obj)), k + i = n → J i ys news → CompRest prog w A h₀ L m env elt x scope cl s S P Fin k i ys news := by
  intro k
  induction k with
  | zero => intro i ys news e hj; obtain rfl : i = n := by (first | lia | omega)
            exact CompRest.zero (fin ys news hj)
  | succ k ih =>
    intro i ys news e hj
    refine CompRest.succ fun v I oI C oC D m₂ h tk E' hP hC hx F N O D3 => ?_
    refine wpAny_mono (turn i ys news v I oI C oC D m₂ h tk E' (by (first | lia | omega)) hP hj hC hx F N O D3) (fun y s' hy => ?_) fun _ _ e => e
    obtain ⟨h', tk', news', e', F', N', O', hS, hj'⟩ := hy
    exact ⟨h', tk', news', e', F', N', O', hS, ih _ _ _ (by (first | lia | omega)) hj'⟩
theorem comp_inv0 (J : Nat → List Value → List (Addr × Obj) → Prop) {news : List (Addr × Obj)} (h0 : J 0 [] news)
    (turn : ∀ i ys news v I oI C oC D m₂ h tk (E' : Value → Shared → Prop), i < n → P i v → J i ys news → NsObj oC m₂ → m₂ x = some v → Fr h₀ L h m → News h₀ L h ((I, oI) :: (C, oC) :: (D, lst ys) :: news) → Off3 I C D news → ((@Ne Nat I C) ∧ (@Ne Nat I D) ∧ (@Ne Nat C D)) →
      wpAny (model prog w) A (eval elt (compEnvC scope cl C env)) (CompEnd h₀ L m { s with heap := h, toks := tk } I oI C oC D (lst ys) S (fun y news' => J (i + 1) (ys ++ [y]) news')) E' { s with heap := h, toks := tk })
    (fin : ∀ ys news, J n ys news → Fin ys news) : CompRest prog w A h₀ L m env elt x scope cl s S P Fin n 0 [] news := comp_inv J turn fin n 0 [] news (by (first | lia | omega)) h0

theorem compT_inv (J : Nat → List Value → List (Addr × Obj) → Prop)
    (turn : ∀ i ys news v I oI C oC D m₂ h tk (E' : Value → Shared → Prop), i < n → P i v → J i ys news → NsObj oC m₂ → m₂ x = some v → Fr h₀ L h m → News h₀ L h ((I, oI) :: (C, oC) :: (D, lst ys) :: news) → Off3 I C D news → ((@Ne Nat I C) ∧ (@Ne Nat I D) ∧ (@Ne Nat C D)) →
      wpAny (model prog w) A (isTrue ct (compEnvC scope cl C env) (eval ct (compEnvC scope cl C env))) (fun ok s' => if ok = true then
        wpAny (model prog w) A (eval elt (compEnvC scope cl C env)) (CompEnd h₀ L m { s with heap := h, toks := tk } I oI C oC D (lst ys) S (fun y news' => J (i + 1) (ys ++ [y]) news')) E' s'
        else CompEnd h₀ L m { s with heap := h, toks := tk } I oI C oC D (lst ys) S (fun _ news' => J (i + 1) ys news') Value.none s') E' { s with heap := h, toks := tk })
    (fin : ∀ ys news, J n ys news → Fin ys news) : ∀ (k i : Nat) (ys : List Value) (news : List (Addr × Obj)), k + i = n → J i ys news → CompRestT prog w A h₀ L m env ct elt x scope cl s S P Fin k i ys news := by
  intro k
  induction k with
  | zero => intro i ys news e hj; obtain rfl : i = n := by (first | lia | omega)
            exact CompRestT.zero (fin ys news hj)
  | succ k ih =>
    intro i ys news e hj
    refine CompRestT.succ fun v I oI C oC D m₂ h tk E' hP hC hx F N O D3 => ?_
    have up : ∀ ys' y s', CompEnd h₀ L m { s with heap := h, toks := tk } I oI C oC D (lst ys) S (fun _ news' => J (i + 1) ys' news') y s' →
        CompEnd h₀ L m { s with heap := h, toks := tk } I oI C oC D (lst ys) S (fun _ news' => CompRestT prog w A h₀ L m env ct elt x scope cl s S P Fin k (i + 1) ys' news') y s' := by
      rintro ys' y s' ⟨h', tk', news', e', F', N', O', hS, hj'⟩
      exact ⟨h', tk', news', e', F', N', O', hS, ih _ _ _ (by (first | lia | omega)) hj'⟩
    refine wpAny_mono (turn i ys news v I oI C oC D m₂ h tk E' (by (first | lia | omega)) hP hj hC hx F N O D3) (fun ok s' hy => ?_) fun _ _ e => e
    cases ok with
    | true =>
      simp only [if_true] at hy ⊢
      refine wpAny_mono hy (fun y s'' hy' => ?_) fun _ _ e => e
      obtain ⟨h', tk', news', e', F', N', O', hS, hj'⟩ := hy'
      exact ⟨h', tk', news', e', F', N', O', hS, ih _ _ _ (by (first | lia | omega)) hj'⟩
    | false =>
      simp only [Bool.false_eq_true, if_false] at hy ⊢
      exact up _ _ _ hy
theorem compT_inv0 (J : Nat → List Value → List (Addr × Obj) → Prop) {news : List (Addr × Obj)} (h0 : J 0 [] news)
    (turn : ∀ i ys news v I oI C oC D m₂ h tk (E' : Value → Shared → Prop), i < n → P i v → J i ys news → NsObj oC m₂ → m₂ x = some v → Fr h₀ L h m → News h₀ L h ((I, oI) :: (C, oC) :: (D, lst ys) :: news) → Off3 I C D news → ((@Ne Nat I C) ∧ (@Ne Nat I D) ∧ (@Ne Nat C D)) →
      wpAny (model prog w) A (isTrue ct (compEnvC scope cl C env) (eval ct (compEnvC scope cl C env))) (fun ok s' => if ok = true then
        wpAny (model prog w) A (eval elt (compEnvC scope cl C env)) (CompEnd h₀ L m { s with heap := h, toks := tk } I oI C oC D (lst ys) S (fun y news' => J (i + 1) (ys ++ [y]) news')) E' s'
        else CompEnd h₀ L m { s with heap := h, toks := tk } I oI C oC D (lst ys) S (fun _ news' => J (i + 1) ys news') Value.none s') E' { s with heap := h, toks := tk })
    (fin : ∀ ys news, J n ys news → Fin ys news) : CompRestT prog w A h₀ L m env ct elt x scope cl s S P Fin n 0 [] news := compT_inv J turn fin n 0 [] news (by (first | lia | omega)) h0
end
theorem upd_split {d : Addr} {o o' : Obj} {l l' : List (Addr × Obj)} (U : Upd d o o' l l') : (d, o) ∈ l ∧ ∀ p ∈ l', p = (d, o') ∨ (p ∈ l ∧ p.1 ≠ d) := by
  induction U with
  | head h => exact ⟨List.mem_cons_self .., fun p hp => (List.mem_cons.mp hp).elim .inl fun hp => .inr ⟨List.mem_cons_of_mem _ hp, h p hp⟩⟩
  | tail h _ ih => exact ⟨List.mem_cons_of_mem _ ih.1, fun p hp => (List.mem_cons.mp hp).elim (fun e => .inr ⟨e ▸ List.mem_cons_self .., e ▸ h⟩) fun hp => (ih.2 p hp).imp id fun z => ⟨List.mem_cons_of_mem _ z.1, z.2⟩⟩
def offAddr (d : Addr) (l : List (Addr × Obj)) : List (Addr × Obj) := l.filter fun p => decide (p.1 ≠ d)
theorem offAddr_off {d : Addr} {l : List (Addr × Obj)} : ∀ p ∈ offAddr d l, p.1 ≠ d := fun p hp => by simpa [offAddr] using (List.mem_filter.mp hp).2
theorem news_headed {h₀ h : Heap} {L d : Addr} {o o' : Obj} {l l' : List (Addr × Obj)} (N : News h₀ L h l) (U : Upd d o o' l l') : News h₀ L h ((d, o) :: offAddr d l) := fun p hp => by
  rcases List.mem_cons.mp hp with rfl | hp
  · exact N _ (upd_split U).1
  · exact N _ (List.mem_filter.mp hp).1
theorem news_back {h₀ h : Heap} {L d : Addr} {o o' : Obj} {l l' : List (Addr × Obj)} (N : News h₀ L h ((d, o') :: offAddr d l)) (U : Upd d o o' l l') : News h₀ L h l' := fun p hp => by
  rcases (upd_split U).2 p hp with rfl | ⟨h1, h2⟩
  · exact N _ (List.mem_cons_self ..)
  · exact N _ (List.mem_cons_of_mem _ (List.mem_filter.mpr ⟨h1, by simpa using h2⟩))
end Mine
end
section
open PySem PySem.W PyProof.Rows PySem.Calls
set_option maxRecDepth 100000
namespace Mine
open LCg LCt
def IterAs (prog : Program) (w : World) (A : Around) (h₀ : Heap) (L : Addr) (S : List (Addr × Obj) → Prop) (xv : Value) (s₁ : Shared) (n : Nat) (P : Nat → Value → Prop) : Prop :=
  ∀ (Q : Value → Shared → Prop) (E : Value → Shared → Prop), (∀ I fp St h₂, I = s₁.heap.objs.size → h₂.objs.size = s₁.heap.objs.size + 1 → Walks prog w A I fp [I] n P St → (∀ i h, St i h → ∃ o, h.get? I = some o) →
    (∀ i h h' o nw, St i h → h.get? I = some o → h'.get? I = some o → (∀ b o, h₀.get? b = some o → h'.get? b = some o) → News h₀ L h' nw → S nw → St i h') → St 0 h₂ → (∀ b ∈ fp, b < h₂.objs.size) →
    (∀ b o, s₁.heap.get? b = some o → h₂.get? b = some o) → Q (.ref I) { s₁ with heap := h₂ }) → wpAny (model prog w) A (pyIter xv) Q E s₁
section
variable {prog : Program} {w : World} {A : Around} {E : Value → Shared → Prop} {s s₁ : Shared} {h₀ : Heap} {L : Addr} {m : PySem.Str → Option Value} {env : Env} {news : List (Addr × Obj)}
theorem iterAs_range {r : Addr} {a b c : Int} {t u v : Tok} {n : Nat} (hh : A.handled = none) (hr : IsRange s₁.heap r a b c t u v) (hsm : Builtin.Range.small a b c = true) (hn : Builtin.Range.rangeSize a b c = ((n : Nat) : Int)) :
    IterAs prog w A h₀ L (fun _ => True) (.ref r) s₁ n (fun i v => ∃ t, v = .int (a + (i : Int) * c) t) := fun Q E k => by
  refine wpAny_pyIter_range hr hsm ?_
  refine k s₁.heap.objs.size [s₁.heap.objs.size] _ _ rfl (Heap.size_push ..) (Walks.range hh _ a c n) (fun i h st => ⟨_, st⟩) (fun i h h' o nw st e e' _ _ _ => ?_) ?_ (fun b hb => ?_) fun _ _ e => Heap.get?_push_of_some _ e
  · have st' : h.get? s₁.heap.objs.size = some _ := st
    show h'.get? s₁.heap.objs.size = some _
    rw [e', ← e]; exact st'
  · show IsRangeIter _ _ _ _ _
    rw [hn]
    simpa using Heap.get?_push_size _ rfl
  · rw [List.mem_singleton.mp hb, Heap.size_push]; exact Nat.lt_succ_self _
theorem iterAs_list {ax : Addr} {its : Array Value} (hh : A.handled = none) (F : Fr h₀ L s₁.heap m) (N : News h₀ L s₁.heap news) (hS : SrcAt h₀ ax its news) :
    IterAs prog w A h₀ L (SrcAt h₀ ax its) (.ref ax) s₁ its.size (fun i v => its[i]? = some v) := fun Q E k => by
  have hl := hS.list F.keep N
  have hlt : ax < s₁.heap.objs.size := by obtain ⟨_, e, _⟩ := hl; exact Heap.lt_size e
  refine wpAny_pyIter_list hl ?_
  refine k s₁.heap.objs.size [s₁.heap.objs.size, ax] _ _ rfl (Heap.size_push ..) (Walks.list hh s₁.heap.objs.size ax (Nat.ne_of_lt hlt) its) (fun i h st => by obtain ⟨o, e, _⟩ := st.1; exact ⟨o, e⟩) list_st ⟨⟨_, Heap.get?_push_size _ rfl, rfl, rfl⟩, hl.push _⟩ (fun b hb => ?_) fun _ _ e => Heap.get?_push_of_some _ e
  rw [Heap.size_push]
  rcases List.mem_cons.mp hb with rfl | hb
  · exact Nat.lt_succ_self _
  · rw [List.mem_singleton.mp hb]; exact Nat.lt_succ_of_lt hlt

def SrcW (prog : Program) (w : World) (A : Around) (h₀ : Heap) (L : Addr) (m : PySem.Str → Option Value) (env : Env) (elt : PySem.Expr) (x : PySem.Str) (scope : Scope) (cl : List (PySem.Str × Addr)) (Fin : Shared → List Value → List (Addr × Obj) → Prop) (xv : Value) (s₁ : Shared) : Prop :=
  ∃ n P S news, Fr h₀ L s₁.heap m ∧ News h₀ L s₁.heap news ∧ n ≤ sizeLine ∧ S news ∧ IterAs prog w A h₀ L S xv s₁ n P ∧
    ∀ s₂ : Shared, (∃ h, s₂ = { s₁ with heap := h }) → CompRest prog w A h₀ L m env elt x scope cl s₂ S P (Fin s₂) n 0 [] news
theorem SrcW.intro {elt : PySem.Expr} {x : PySem.Str} {scope : Scope} {cl : List (PySem.Str × Addr)} {Fin : Shared → List Value → List (Addr × Obj) → Prop} {xv : Value} {n : Nat} {P : Nat → Value → Prop} {S : List (Addr × Obj) → Prop}
    (it : IterAs prog w A h₀ L S xv s₁ n P) (F : Fr h₀ L s₁.heap m) (N : News h₀ L s₁.heap news) (hn : n ≤ sizeLine) (hS : S news) (J : Nat → List Value → List (Addr × Obj) → Prop) (h0 : J 0 [] news)
    (turn : ∀ hh i ys news v I oI C oC D m₂ h tk (E' : Value → Shared → Prop), i < n → P i v → J i ys news → NsObj oC m₂ → m₂ x = some v → Fr h₀ L h m → News h₀ L h ((I, oI) :: (C, oC) :: (D, lst ys) :: news) → Off3 I C D news → ((@Ne Nat I C) ∧ (@Ne Nat I D) ∧ (@Ne Nat C D)) →
      wpAny (model prog w) A (eval elt (compEnvC scope cl C env)) (CompEnd h₀ L m { { s₁ with heap := hh } with heap := h, toks := tk } I oI C oC D (lst ys) S (fun y news' => J (i + 1) (ys ++ [y]) news')) E' { { s₁ with heap := hh } with heap := h, toks := tk })
    (fin : ∀ hh ys news, J n ys news → Fin { s₁ with heap := hh } ys news) : SrcW prog w A h₀ L m env elt x scope cl Fin xv s₁ :=
  ⟨n, P, S, news, F, N, hn, hS, it, fun _ ⟨hh, e⟩ => by subst e; exact comp_inv0 J h0 (turn hh) (fin hh)⟩

theorem ListComp_W {elt iter : PySem.Expr} {x : PySem.Str} {px : Pos} {scope : Scope} {cl : List (PySem.Str × Addr)} {pos : Pos} {Q : Value → Shared → Prop} (F₀ : Fr h₀ L s.heap m)
    (hclos : closureFor scope env = pure cl) (hcell : ∀ y ∈ scope.names, y.2 ≠ .cell) (hkind : scope.kind = .function)
    (hnames : ∀ y ∈ scope.names, y.2 = .local → scope.names.lookup y.1 = some .local) (hx : scope.names.lookup x = some .local)
    (h : wpAny (model prog w) A (eval iter env) (SrcW prog w A h₀ L m env elt x scope cl (fun s₂ => FinE h₀ L m s₂ Q)) E s)
    (hs : ∀ x, foldedSetIterable iter env x = pure x := by intro _; rfl) :
    wpAny (model prog w) A (eval (.ListComp elt [⟨.Name x px, iter, [], 0⟩] scope pos) env) Q E s := by
  rw [eval_ListComp]
  refine wpAny_comprehension_free (use := none) rfl hs hclos hkind hnames (wpAny_mono h (fun xv s₁ h₁ => ?_) fun _ _ e => e)
  obtain ⟨n, P, S, news, F, N, hn, hS, it, R⟩ := h₁
  refine it _ _ fun I fp St h₂ hI hsz W hIo hSt hst hfp up => ?_
  have hI₀ : h₀.get? I = none := by rw [hI]; exact next_is_new F
  refine block_U (s₂ := { s₁ with heap := h₂ }) W hn hIo hSt hcell hkind hx hst hfp (F.keeps up) (N.grown up) (by rw [hI]; exact Nat.ne_of_lt F.ns.lt) hI₀ (fun p hp => by rw [hI]; exact Nat.ne_of_lt (Heap.lt_size (N p hp).1)) hS (R _ ⟨_, rfl⟩) ?_
  intro D C h tk m' ys news' F' N' o1 hn hC₀ hD₀ hCL hDL hCD offC fin
  refine ⟨m', hn, fun h'' hs'' => fin D h'' tk (F'.change hs'' hCL hC₀) (fun p hp => ?_) o1⟩
  refine ⟨hs''.extBut _ _ ?_ (N' p hp).1, (N' p hp).2⟩
  rcases List.mem_cons.mp hp with rfl | hp
  · exact Ne.symm hCD
  · exact offC p hp
end
end Mine
namespace Mine
open PySem PySem.W PyProof.Rows PySem.Calls LCg LCt
section
variable {prog : Program} {w : World} {A : Around} {E : Value → Shared → Prop} {s s₁ : Shared} {h₀ : Heap} {L : Addr} {m : PySem.Str → Option Value} {env : Env} {news : List (Addr × Obj)}
theorem SrcW.pure {elt : PySem.Expr} {x : PySem.Str} {scope : Scope} {cl : List (PySem.Str × Addr)} {Fin : Shared → List Value → List (Addr × Obj) → Prop} {xv : Value} {n : Nat} {P : Nat → Value → Prop} {S : List (Addr × Obj) → Prop}
    (it : IterAs prog w A h₀ L S xv s₁ n P) (F : Fr h₀ L s₁.heap m) (N : News h₀ L s₁.heap news) (hn : n ≤ sizeLine) (hS : S news) (J : Nat → List Value → Prop) (h0 : J 0 [])
    (turn : ∀ hh i ys v I oI C oC D m₂ h tk (E' : Value → Shared → Prop), i < n → P i v → J i ys → NsObj oC m₂ → m₂ x = some v → Fr h₀ L h m → News h₀ L h ((I, oI) :: (C, oC) :: (D, lst ys) :: news) → Off3 I C D news → ((@Ne Nat I C) ∧ (@Ne Nat I D) ∧ (@Ne Nat C D)) →
      wpAny (model prog w) A (eval elt (compEnvC scope cl C env)) (CompEnd h₀ L m { { s₁ with heap := hh } with heap := h, toks := tk } I oI C oC D (lst ys) S (fun y nw => nw = news ∧ J (i + 1) (ys ++ [y]))) E' { { s₁ with heap := hh } with heap := h, toks := tk })
    (fin : ∀ hh ys, J n ys → Fin { s₁ with heap := hh } ys news) : SrcW prog w A h₀ L m env elt x scope cl Fin xv s₁ :=
  SrcW.intro it F N hn hS (fun i ys nw => nw = news ∧ J i ys) ⟨rfl, h0⟩ (fun hh i ys nw v I oI C oC D m₂ h tk E' hi hP hJ => by obtain ⟨rfl, hJ⟩ := hJ; exact turn hh i ys v I oI C oC D m₂ h tk E' hi hP hJ) fun hh ys nw hJ => by obtain ⟨rfl, hJ⟩ := hJ; exact fin hh ys hJ
end
end Mine
end
section
open PySem PySem.W PyProof.Rows PySem.Calls
set_option maxRecDepth 100000
namespace Mine
open LCg LCt
/-- behind a turn whose variable stands in the cell Z -/
def ZRest (Z : Addr) (oZ : Obj) (J : List (Addr × Obj) → Prop) (nw : List (Addr × Obj)) : Prop := ∃ nw', nw = (Z, oZ) :: nw' ∧ (∀ p ∈ nw', p.1 ≠ Z) ∧ J nw'
section
variable {prog : Program} {w : World} {A : Around} {E : Value → Shared → Prop} {s s₁ : Shared} {h₀ : Heap} {L : Addr} {m : PySem.Str → Option Value} {env : Env} {news : List (Addr × Obj)}
def TurnZ (prog : Program) (w : World) (A : Around) (h₀ : Heap) (L : Addr) (m : PySem.Str → Option Value) (env : Env) (ifs : List PySem.Expr) (elt : PySem.Expr) (x : PySem.Str) (scope : Scope) (cl : List (PySem.Str × Addr)) (s : Shared) (S : List (Addr × Obj) → Prop) (P : Nat → Value → Prop) (J : Nat → List Value → List (Addr × Obj) → Prop) (n : Nat) : Prop :=
  ∀ i ys news v I oI C oC Z oZ D h tk (E' : Value → Shared → Prop), i < n → P i v → J i ys news → oZ.data = .cell (some v) → Fr h₀ L h m → News h₀ L h ((I, oI) :: (C, oC) :: (D, lst ys) :: (Z, oZ) :: news) → Off3 I C D ((Z, oZ) :: news) → (∀ p ∈ news, p.1 ≠ Z) → ((@Ne Nat I C) ∧ (@Ne Nat I D) ∧ (@Ne Nat C D)) →
    wpAny (model prog w) A (forIn ifs true fun c r => if r = true then do let ok ← isTrue c (compEnvC scope ((x, Z) :: cl) C env) (eval c (compEnvC scope ((x, Z) :: cl) C env)); pure (ForInStep.yield ok) else pure (ForInStep.yield r)) (fun ok s' => if ok = true then
      wpAny (model prog w) A (eval elt (compEnvC scope ((x, Z) :: cl) C env)) (CompEnd h₀ L m { s with heap := h, toks := tk } I oI C oC D (lst ys) S (fun y nw => ZRest Z oZ (J (i + 1) (ys ++ [y])) nw)) E' s'
      else CompEnd h₀ L m { s with heap := h, toks := tk } I oI C oC D (lst ys) S (fun _ nw => ZRest Z oZ (J (i + 1) ys) nw) Value.none s') E' { s with heap := h, toks := tk }

theorem wpAny_newFunctionEnv_one {M : Model} {scope : Scope} {globals : Addr} {cl : List (PySem.Str × Addr)} {qual : PySem.Str} {x : PySem.Str} {Q : Env → Shared → Prop}
    (hZ : ∀ (h : Heap) n, pushCells h scope.names = h.push { cls := .type "cell", data := .cell none } ∧ cellsFrom n scope.names cl = (x, n) :: cl)
    (hQ : Q (newEnv scope s.heap.objs.size globals ((x, s.heap.objs.size + 1) :: cl) qual none .none (some env) builtinsNs) { s with heap := (s.heap.push { cls := .type "dict", data := .dict #[] }).push { cls := .type "cell", data := .cell none } }) :
    wpAny M A (newFunctionEnv scope globals cl [] qual none .none (some env)) Q E s := by
  simp only [newFunctionEnv, Option.isSome_some, if_true]
  refine wpAny_bind (wpAny_alloc ?_)
  refine wpAny_bind (wpAny_layCells _ (fun name kind cells => by cases hkc : kind == NameKind.cell <;> simp [hkc]) _ _ _ _ ?_)
  rw [show ({ s with heap := s.heap.push { cls := .type "dict", data := .dict #[] } } : Shared).heap.objs.size = s.heap.objs.size + 1 from Heap.size_push .., (hZ (s.heap.push { cls := .type "dict", data := .dict #[] }) 0).1, (hZ s.heap (s.heap.objs.size + 1)).2]
  exact wpAny_bind (wpAny_pure (wpAny_pure hQ))

theorem lookup_relabel_cell {env : Env} {x : PySem.Str} : ∀ {names : List (PySem.Str × NameKind)}, names.lookup x = some .cell →
    (names.map fun (n, k) => if (k == NameKind.free && env.scope.kind == .function && env.kindOf n == some .cell) then (n, NameKind.cell) else (n, k)).lookup x = some .cell
  | (n, k) :: r, h => by
    rw [List.lookup_cons] at h
    rw [List.map_cons, List.lookup_cons]
    cases hb : x == n with
    | true =>
      rw [hb] at h
      cases h
      simp [hb]
    | false =>
      rw [hb] at h
      have ih := lookup_relabel_cell (env := env) (names := r) h
      have e : ∀ (c : Bool), (match x == (if c = true then (n, NameKind.cell) else (n, k)).1 with | true => some (if c = true then (n, NameKind.cell) else (n, k)).2 | false => (r.map fun (n, k) => if (k == NameKind.free && env.scope.kind == .function && env.kindOf n == some .cell) then (n, NameKind.cell) else (n, k)).lookup x) = some NameKind.cell := fun c => by
        cases c <;> simp only [Bool.false_eq_true, if_false, if_true, hb] <;> exact ih
      exact e _

theorem z_below {D b : Nat} (h : b < D) : b ≠ D ∧ b ≠ D + 1 ∧ b ≠ D + 1 + 1 := by (first | lia | omega)
theorem z_apart (D : Nat) : D ≠ D + 1 ∧ D ≠ D + 1 + 1 ∧ D + 1 ≠ D + 1 + 1 ∧ D ≤ D + 1 ∧ D ≤ D + 1 + 1 := by (first | lia | omega)
theorem block_Z {elt iter : PySem.Expr} {ifs : List PySem.Expr} {x : PySem.Str} {px : Pos} {scope : Scope} {cl : List (PySem.Str × Addr)} {pos : Pos} {s₂ : Shared} {I : Addr} {fp : List Addr} {n : Nat} {P : Nat → Value → Prop} {St : Nat → Heap → Prop} {S : List (Addr × Obj) → Prop}
    {J : Nat → List Value → List (Addr × Obj) → Prop} {RR : Value → Addr → Result → Shared → Prop}
    (W : Walks prog w A I fp [I] n P St) (hsz : n ≤ sizeLine) (hIo : ∀ i h, St i h → ∃ o, h.get? I = some o)
    (hSt : ∀ i h h' o nw, St i h → h.get? I = some o → h'.get? I = some o → (∀ b o, h₀.get? b = some o → h'.get? b = some o) → News h₀ L h' nw → S nw → St i h')
    (hZ : ∀ (h : Heap) n, pushCells h scope.names = h.push { cls := .type "cell", data := .cell none } ∧ cellsFrom n scope.names cl = (x, n) :: cl)
    (hkind : scope.kind = .function) (hx : scope.names.lookup x = some .cell) (hst : St 0 s₂.heap) (hfp : ∀ b ∈ fp, b < s₂.heap.objs.size)
    (F : Fr h₀ L s₂.heap m) (N : News h₀ L s₂.heap news) (hIL : L ≠ I) (hI₀ : h₀.get? I = none) (off : ∀ p ∈ news, p.1 ≠ I) (hS : S news) (hSm : ∀ Z (oZ : Obj) v l, oZ.data = .cell (some v) → S ((Z, oZ) :: l) → S l)
    (h0 : J 0 [] news) (R : TurnZ prog w A h₀ L m env ifs elt x scope cl s₂ S P J n)
    (hRR : ∀ D C h tk m' ys news', Fr h₀ L h m → News h₀ L h ((D, lst ys) :: news') → Off1 D news' → h.Ns C m' → h₀.get? C = none → h₀.get? D = none → C ≠ L → D ≠ L → C ≠ D → (∀ p ∈ news', p.1 ≠ C) → J n ys news' → RR (.ref D) C (.ok .next) { s₂ with heap := h, toks := tk }) :
    wpAny (model prog w) A (newList []) (fun acc s₃ => wpAny (model prog w) A (newFunctionEnv scope env.globals cl [] env.qual none .none (some env)) (fun cenv s₄ =>
      codeAny (model prog w) A (.compStart (.ListComp elt [⟨.Name x px, iter, ifs, 0⟩] scope pos) 0 (.ref I) acc { cenv with scope := relabel scope env }) (RR acc cenv.locals) s₄) E s₃) E s₂ := by
  refine wpAny_newObj_type (wpAny_newFunctionEnv_one hZ ?_)
  dsimp only
  generalize hH2 : s₂.heap.push { cls := .type "list", dict := none, data := .seq ([] : List Value).toArray } = H2
  generalize hD : s₂.heap.objs.size = D
  have hC : H2.objs.size = D + 1 := by rw [← hH2, Heap.size_push, hD]
  have e3 : (H2.push { cls := .type "dict", data := .dict #[] }).objs.size = D + 2 := by rw [Heap.size_push, hC]
  generalize hH3 : (H2.push { cls := .type "dict", data := .dict #[] }).push { cls := .type "cell", data := .cell none } = H3
  have hIlt : I < D := hD ▸ hfp I (W.sub I (List.mem_singleton.mpr rfl))
  have hLlt : L < D := hD ▸ F.ns.lt
  have up2 : ∀ b o, H2.get? b = some o → H3.get? b = some o := fun b o e => hH3 ▸ Heap.get?_push_of_some _ (Heap.get?_push_of_some _ e)
  have up : ∀ b o, s₂.heap.get? b = some o → H3.get? b = some o := fun b o e => up2 _ _ (hH2 ▸ Heap.get?_push_of_some _ e)
  have gD : H3.get? D = some (lst []) := up2 _ _ (by rw [← hH2, ← hD]; exact Heap.get?_push_size _ rfl)
  have gC : H3.Ns H2.objs.size (fun _ => none) := by
    refine ⟨_, #[], _, hH3 ▸ Heap.get?_push_of_some _ (Heap.get?_push_size _ rfl), rfl, fun e he => absurd he (by simp), fun _ => rfl⟩
  have gZ : H3.get? (H2.objs.size + 1) = some { cls := .type "cell", data := .cell none } := by
    rw [← hH3, hC, ← e3]; exact Heap.get?_push_size _ rfl
  rw [hC] at gC gZ ⊢
  have fresh₀ : ∀ a, D ≤ a → h₀.get? a = none := fun a ha => by
    cases e : h₀.get? a with
    | none => rfl
    | some o' => exact absurd (Heap.lt_size (F.keep a o' e)) (by rw [hD]; exact Nat.not_lt.mpr ha)
  have hlt : ∀ p ∈ news, p.1 < D := fun p hp => hD ▸ Heap.lt_size (N p hp).1
  have hfpD : ∀ b ∈ fp, b < D := fun b hb => hD ▸ hfp b hb
  have loop : ∀ s₃ : Shared, s₃ = { s₂ with heap := H3 } →
      codeAny (model prog w) A (.compLoop (.ListComp elt [⟨.Name x px, iter, ifs, 0⟩] scope pos) 0 (.ref I) (.ref D) (compEnvC scope ((x, D + 1 + 1) :: cl) (D + 1) env)) (RR (.ref D) (D + 1)) s₃ := by
    rintro s₃ rfl
    refine codeAny_compLoop_tests
      (fun k s' => ∃ h' tk i ys mC oZ vZ news', s' = { s₂ with heap := h', toks := tk } ∧ i ≤ n ∧ k = n + 1 - i ∧ ys.length ≤ i ∧ St i h' ∧ Fr h₀ L h' m ∧ h'.Ns (D + 1) mC ∧ h'.get? (D + 1 + 1) = some oZ ∧ oZ.data = .cell vZ ∧
        News h₀ L h' ((D, lst ys) :: news') ∧ Off3 I (D + 1) D news' ∧ (∀ p ∈ news', p.1 ≠ D + 1 + 1) ∧ S news' ∧ J i ys news') ?_ (n + 1)
      ⟨H3, _, 0, [], _, _, none, news, rfl, Nat.zero_le _, rfl, Nat.le_refl _, W.frame _ _ _ hst fun b _ o e => up b o e, F.keeps up, gC, gZ, rfl, fun p hp => ?_, Off3.of fun p hp => ⟨off p hp, (z_below (hlt p hp)).2.1, (z_below (hlt p hp)).1⟩, fun p hp => (z_below (hlt p hp)).2.2, hS, h0⟩
    · rintro k s' ⟨h', tk, i, ys, mC, oZ, vZ, news', rfl, hi, rfl, hyl, hst', F', hn', hz', hzd, N', off', offZ, hS', hJ'⟩
      by_cases hlt' : i < n
      · refine W.item i _ _ _ hlt' hst' fun v h₂ tk₂ hPv hst₂ hk₂ => ?_
        have hz₂ : h₂.get? (D + 1 + 1) = some _ := hk₂ _ _ (by simpa using Ne.symm (z_below hIlt).2.2) hz'
        refine wpAny_assign_Name (wpAny_storeName_cell (c := D + 1 + 1) (v₀ := vZ) (by simp [compEnvC, relabel, hkind]) (lookup_relabel_cell hx) (by show List.lookup x ((x, D + 1 + 1) :: cl) = _; simp) ⟨_, hz₂, hzd⟩ fun h₃ hc₃ hs₃ => ?_)
        obtain ⟨oZ', hz₃, hzd'⟩ := hc₃
        refine wpAny_mono (?_ : wpAny _ _ _ (fun ok s₄ => if ok = true then _ else _) _ _) (fun _ _ q => q) fun _ _ e => e
        have off3 := off'.mem
        have fpZ : ∀ b ∈ fp, b ≠ D + 1 + 1 := fun b hb => (z_below (hfpD b hb)).2.2
        have hst₃ : St (i + 1) h₃ := W.frame _ _ _ hst₂ fun b hb o e => hs₃.extBut b o (fpZ b hb) e
        obtain ⟨oI, heI⟩ := hIo _ _ hst₃
        have hnC₃ : h₃.Ns (D + 1) mC := (hn'.at' fun o e => hk₂ _ o (by simpa using Ne.symm (z_below hIlt).2.1) e).sameBut hs₃ (z_apart D).2.2.1
        obtain ⟨oC, heC, hoC⟩ := ns_obj hnC₃
        have F₃ : Fr h₀ L h₃ m := (fr_but F' hk₂ hIL hI₀).change hs₃ (Ne.symm (z_below hLlt).2.2) (fresh₀ _ (z_apart D).2.2.2.2)
        have N₂ : News h₀ L h₂ ((D, lst ys) :: news') := news_but N' hk₂ fun p hp => by
          rcases List.mem_cons.mp hp with rfl | hp
          · exact Ne.symm (z_below hIlt).1
          · exact (off3 p hp).1
        have N₃ : News h₀ L h₃ ((I, oI) :: (D + 1, oC) :: (D, lst ys) :: (D + 1 + 1, oZ') :: news') := fun p hp => by
          rcases List.mem_cons.mp hp with rfl | hp
          · exact ⟨heI, Ne.symm hIL, hI₀⟩
          · rcases List.mem_cons.mp hp with rfl | hp
            · exact ⟨heC, Ne.symm (z_below hLlt).2.1, fresh₀ _ (z_apart D).2.2.2.1⟩
            · rcases List.mem_cons.mp hp with rfl | hp
              · exact ⟨hs₃.extBut _ _ (z_apart D).2.1 (N₂ _ (List.mem_cons_self ..)).1, (N₂ _ (List.mem_cons_self ..)).2⟩
              · rcases List.mem_cons.mp hp with rfl | hp
                · exact ⟨hz₃, Ne.symm (z_below hLlt).2.2, fresh₀ _ (z_apart D).2.2.2.2⟩
                · have z := N₂ p (List.mem_cons_of_mem _ hp)
                  exact ⟨hs₃.extBut _ _ (offZ p hp) z.1, z.2⟩
        have offA : Off3 I (D + 1) D ((D + 1 + 1, oZ') :: news') := ⟨⟨Ne.symm (z_below hIlt).2.2, Ne.symm (z_apart D).2.2.1, Ne.symm (z_apart D).2.1⟩, off'⟩
        have after : ∀ (ys' : List Value) (y : Value) (s₄ : Shared), ys'.length ≤ i + 1 → CompEnd h₀ L m { s₂ with heap := h₃, toks := tk₂ } I oI (D + 1) oC D (lst ys) S (fun _ nw => ZRest (D + 1 + 1) oZ' (J (i + 1) ys') nw) y s₄ →
            ∃ h₄ tk₄ news₄, s₄ = { s₂ with heap := h₄, toks := tk₄ } ∧ Fr h₀ L h₄ m ∧ h₄.get? D = some (lst ys) ∧ h₄.Ns (D + 1) mC ∧ h₄.get? (D + 1 + 1) = some oZ' ∧ News h₀ L h₄ news₄ ∧ Off3 I (D + 1) D news₄ ∧ (∀ p ∈ news₄, p.1 ≠ D + 1 + 1) ∧ S news₄ ∧ J (i + 1) ys' news₄ ∧ St (i + 1) h₄ := by
          rintro ys' y s₄ _ ⟨h₄, tk₄, nw, rfl, F₄, N₄, off₄, hS₄, news₄, rfl, offZ₄, hJ₄⟩
          have zI := (N₄ (I, oI) List.mem_cons_self).1
          have zC := (N₄ (D + 1, oC) (List.mem_cons_of_mem _ List.mem_cons_self)).1
          have zD := (N₄ (D, lst ys) (List.mem_cons_of_mem _ (List.mem_cons_of_mem _ List.mem_cons_self))).1
          have N₄' : News h₀ L h₄ ((D + 1 + 1, oZ') :: news₄) := fun p hp => N₄ p (List.mem_cons_of_mem _ (List.mem_cons_of_mem _ (List.mem_cons_of_mem _ hp)))
          exact ⟨h₄, tk₄, news₄, rfl, F₄, zD, hoC.ns zC, (N₄' _ (List.mem_cons_self ..)).1, fun p hp => N₄' p (List.mem_cons_of_mem _ hp), off₄.2, offZ₄, hSm _ _ _ _ hzd' hS₄, hJ₄, hSt _ _ _ _ _ hst₃ heI zI F₄.keep N₄' hS₄⟩
        refine wpAny_mono (R i ys news' v I oI (D + 1) oC (D + 1 + 1) oZ' D h₃ tk₂ _ hlt' hPv hJ' hzd' F₃ N₃ offA offZ ⟨(z_below hIlt).2.1, (z_below hIlt).1, Ne.symm (z_apart D).1⟩) (fun ok s₄ h₄ => ?_) fun _ _ e => e
        cases ok with
        | true =>
          simp only [if_true] at h₄ ⊢
          refine wpAny_mono h₄ (fun y s₅ h₅ => ?_) fun _ _ e => e
          obtain ⟨h₄, tk₄, news₄, rfl, F₄, zD, hCn, zZ, N₄', off₄, offZ₄, hS₄, hJ₄, hst₄⟩ := after (ys ++ [y]) y s₅ (by rw [List.length_append, List.length_singleton]; (first | lia | omega)) h₅
          refine append_at (hsz := by show ys.toArray.size ≤ sizeLine; rw [List.size_toArray]; exact Nat.le_trans (Nat.le_trans hyl hi) hsz) zD fun h₅ hs₅ hD₅ => ?_
          have off4 := off₄.mem
          refine ⟨n + 1 - (i + 1), by (first | lia | omega), h₅, tk₄, i + 1, ys ++ [y], mC, oZ', some v, news₄, rfl, hlt', rfl, by rw [List.length_append, List.length_singleton]; (first | lia | omega), W.frame _ _ _ hst₄ fun b hb o e => hs₅.extBut b o (z_below (hfpD b hb)).1 e, F₄.change hs₅ (Ne.symm (z_below hLlt).1) (fresh₀ _ (Nat.le_refl _)),
            hCn.sameBut hs₅ (Ne.symm (z_apart D).1), hs₅.extBut _ _ (Ne.symm (z_apart D).2.1) zZ, hzd', fun p hp => ?_, off₄, offZ₄, hS₄, hJ₄⟩
          rcases List.mem_cons.mp hp with rfl | hp
          · exact ⟨hD₅.trans (congrArg some (lst_snoc ys y)), Ne.symm (z_below hLlt).1, fresh₀ _ (Nat.le_refl _)⟩
          · exact ⟨hs₅.extBut _ _ (off4 p hp).2.2 (N₄' p hp).1, (N₄' p hp).2⟩
        | false =>
          simp only [Bool.false_eq_true, if_false] at h₄ ⊢
          obtain ⟨h₅, tk₄, news₄, rfl, F₄, zD, hCn, zZ, N₄', off₄, offZ₄, hS₄, hJ₄, hst₄⟩ := after ys .none s₄ (by (first | lia | omega)) h₄
          refine ⟨n + 1 - (i + 1), by (first | lia | omega), h₅, tk₄, i + 1, ys, mC, oZ', some v, news₄, rfl, hlt', rfl, by (first | lia | omega), hst₄, F₄, hCn, zZ, hzd', fun p hp => ?_, off₄, offZ₄, hS₄, hJ₄⟩
          rcases List.mem_cons.mp hp with rfl | hp
          · exact ⟨zD, Ne.symm (z_below hLlt).1, fresh₀ _ (Nat.le_refl _)⟩
          · exact N₄' p hp
      · obtain rfl : i = n := Nat.le_antisymm hi (Nat.not_lt.mp hlt')
        refine W.done _ _ _ hst' fun h₂ tk₂ hk₂ => ?_
        have off3 := off'.mem
        exact hRR _ _ h₂ tk₂ _ ys news' (fr_but F' hk₂ hIL hI₀) (news_but N' hk₂ fun p hp => by
          rcases List.mem_cons.mp hp with rfl | hp
          · exact Ne.symm (z_below hIlt).1
          · exact (off3 p hp).1) off'.one (hn'.at' fun o e => hk₂ _ o (by simpa using Ne.symm (z_below hIlt).2.1) e) (fresh₀ _ (z_apart D).2.2.2.1) (fresh₀ _ (Nat.le_refl _)) (Ne.symm (z_below hLlt).2.1) (Ne.symm (z_below hLlt).1) (Ne.symm (z_apart D).1) (fun p hp => (off3 p hp).2.1) hJ'
    · rcases List.mem_cons.mp hp with rfl | hp
      · exact ⟨gD, Ne.symm (z_below hLlt).1, fresh₀ _ (Nat.le_refl _)⟩
      · exact ⟨up _ _ (N p hp).1, (N p hp).2⟩
  exact codeAny_compStart_list (loop _ rfl) (W.self 0 _ _ _ (W.frame _ _ _ hst fun b _ o e => up b o e) (loop _ rfl))
end
end Mine
end
section
open PySem PySem.W PyProof.Rows PySem.Calls
set_option maxRecDepth 100000
namespace Mine
open LCg LCt
section
variable {prog : Program} {w : World} {A : Around} {E : Value → Shared → Prop} {s s₁ : Shared} {h₀ : Heap} {L : Addr} {m : PySem.Str → Option Value} {env : Env} {news : List (Addr × Obj)}
theorem end_A {y : PySem.Str} {py : Pos} {Q : Flow → Shared → Prop} {Fin : List Value → List (Addr × Obj) → Prop} (hy : env.kindOf y = some .local) (hp : (env.scope.kind == .class || (env.scope.kind == .module && env.locals != env.globals)) = false)
    (fin : ∀ ys nw, Fin ys nw → FinA h₀ env.locals m s y Q ys nw) :
    ∀ D C h tk m' ys news', Fr h₀ env.locals h m → News h₀ env.locals h ((D, lst ys) :: news') → Off1 D news' → h.Ns C m' → h₀.get? C = none → h₀.get? D = none → C ≠ env.locals → D ≠ env.locals → C ≠ D → (∀ p ∈ news', p.1 ≠ C) → Fin ys news' →
      wpAny (model prog w) A (assign (.Name y py) env (.ref D)) (fun _ s'' => ∃ m, s''.heap.Ns C m ∧ ∀ h', Heap.SameBut C s''.heap h' → Q .next { s'' with heap := h' }) E { s with heap := h, toks := tk } := by
  intro D C h' tk m' ys news' F' N' o1 hn hC₀ hD₀ hCL hDL hCD offC hf
  refine wpAny_assign_Name (wpAny_storeName_local hy F'.ns (fun h₂ hn₂ hs₂ => ?_) hp)
  have hL₀ : h₀.get? env.locals = none := Heap.get?_none_of_le F'.above
  have F₂ : Fr h₀ env.locals h₂ (fun z => if z = y then some (.ref D) else m z) := ⟨hn₂, fun b o e => hs₂.extBut b o (fun q => by rw [q, hL₀] at e; cases e) (F'.keep b o e), F'.above⟩
  refine ⟨m', hn.sameBut hs₂ hCL, fun h'' hs'' => fin _ _ hf D h'' _ (F₂.change hs'' hCL hC₀) (fun p hp => ?_) o1⟩
  have z : h₂.get? p.1 = some p.2 := hs₂.extBut _ _ (N' p hp).2.1 (N' p hp).1
  refine ⟨hs''.extBut _ _ ?_ z, (N' p hp).2⟩
  rcases List.mem_cons.mp hp with rfl | hp
  · exact Ne.symm hCD
  · exact offC p hp

theorem Assign_ListComp_W {elt iter : PySem.Expr} {x y : PySem.Str} {px py : Pos} {scope : Scope} {cl : List (PySem.Str × Addr)} {pos spos : Pos} {Q : Flow → Shared → Prop} (hLe : env.locals = L)
    (hsw : swapsWith (.ListComp elt [⟨.Name x px, iter, [], 0⟩] scope pos) (some (.Name y py)) spos.line env = pure true)
    (hclos : closureFor scope env = pure cl) (hcell : ∀ z ∈ scope.names, z.2 ≠ .cell) (hkind : scope.kind = .function)
    (hnames : ∀ z ∈ scope.names, z.2 = .local → scope.names.lookup z.1 = some .local) (hx : scope.names.lookup x = some .local)
    (hy : env.kindOf y = some .local) (hp : (env.scope.kind == .class || (env.scope.kind == .module && env.locals != env.globals)) = false)
    (h : wpAny (model prog w) A (eval iter env) (SrcW prog w A h₀ L m env elt x scope cl (fun s₂ => FinA h₀ L m s₂ y Q)) E s)
    (hs : ∀ x, foldedSetIterable iter env x = pure x := by intro _; rfl) :
    wpAny (model prog w) A (exec (.Assign [.Name y py] (.ListComp elt [⟨.Name x px, iter, [], 0⟩] scope pos) spos) env) Q E s := by
  subst hLe
  rw [exec_Assign_Name_used _ _ _ _ hsw]
  refine wpAny_bind (wpAny_standAt (wpAny_bind ?_))
  show wpAny _ A (do let _ ← comprehension (.ListComp elt [⟨.Name x px, iter, [], 0⟩] scope pos) scope env _ (newList []) false (eval iter env) (some (assign (.Name y py) env))) _ _ s
  refine wpAny_bind (wpAny_mono (wpAny_comprehension_free (use := some (assign (.Name y py) env)) (Q := fun _ s' => Q .next s') rfl hs hclos hkind hnames
    (wpAny_mono h (fun xv s₁ h₁ => ?_) fun _ _ e => e)) (fun _ s' hq => wpAny_pure (wpAny_pure hq)) fun _ _ e => e)
  obtain ⟨n, P, S, news, F, N, hn, hS, it, R⟩ := h₁
  refine it _ _ fun I fp St h₂ hI hsz W hIo hSt hst hfp up => ?_
  have hI₀ : h₀.get? I = none := by rw [hI]; exact next_is_new F
  refine block_U (s₂ := { s₁ with heap := h₂ }) W hn hIo hSt hcell hkind hx hst hfp (F.keeps up) (N.grown up) (by rw [hI]; exact Nat.ne_of_lt F.ns.lt) hI₀ (fun p hp => by rw [hI]; exact Nat.ne_of_lt (Heap.lt_size (N p hp).1)) hS (R _ ⟨_, rfl⟩) ?_
  exact end_A hy hp fun _ _ h => h

def SrcZ (prog : Program) (w : World) (A : Around) (h₀ : Heap) (L : Addr) (m : PySem.Str → Option Value) (env : Env) (ifs : List PySem.Expr) (elt : PySem.Expr) (x : PySem.Str) (scope : Scope) (cl : List (PySem.Str × Addr)) (Fin : Shared → List Value → List (Addr × Obj) → Prop) (xv : Value) (s₁ : Shared) : Prop :=
  ∃ n P S news J, Fr h₀ L s₁.heap m ∧ News h₀ L s₁.heap news ∧ n ≤ sizeLine ∧ S news ∧ (∀ Z (oZ : Obj) v l, oZ.data = .cell (some v) → S ((Z, oZ) :: l) → S l) ∧ IterAs prog w A h₀ L S xv s₁ n P ∧ J 0 [] news ∧
    ∀ s₂ : Shared, (∃ h, s₂ = { s₁ with heap := h }) → TurnZ prog w A h₀ L m env ifs elt x scope cl s₂ S P J n ∧ ∀ ys nw, J n ys nw → Fin s₂ ys nw
theorem SrcZ.intro {ifs : List PySem.Expr} {elt : PySem.Expr} {x : PySem.Str} {scope : Scope} {cl : List (PySem.Str × Addr)} {Fin : Shared → List Value → List (Addr × Obj) → Prop} {xv : Value} {n : Nat} {P : Nat → Value → Prop} {S : List (Addr × Obj) → Prop}
    (it : IterAs prog w A h₀ L S xv s₁ n P) (F : Fr h₀ L s₁.heap m) (N : News h₀ L s₁.heap news) (hn : n ≤ sizeLine) (hS : S news) (hSm : ∀ Z (oZ : Obj) v l, oZ.data = .cell (some v) → S ((Z, oZ) :: l) → S l) (J : Nat → List Value → List (Addr × Obj) → Prop) (h0 : J 0 [] news)
    (turn : ∀ hh, TurnZ prog w A h₀ L m env ifs elt x scope cl { s₁ with heap := hh } S P J n)
    (fin : ∀ hh ys news, J n ys news → Fin { s₁ with heap := hh } ys news) : SrcZ prog w A h₀ L m env ifs elt x scope cl Fin xv s₁ :=
  ⟨n, P, S, news, J, F, N, hn, hS, hSm, it, h0, fun _ ⟨hh, e⟩ => by subst e; exact ⟨turn hh, fin hh⟩⟩

theorem Assign_ListComp_Z {ifs : List PySem.Expr} {elt iter : PySem.Expr} {x y : PySem.Str} {px py : Pos} {scope : Scope} {cl : List (PySem.Str × Addr)} {pos spos : Pos} {Q : Flow → Shared → Prop} (hLe : env.locals = L)
    (hsw : swapsWith (.ListComp elt [⟨.Name x px, iter, ifs, 0⟩] scope pos) (some (.Name y py)) spos.line env = pure true)
    (hclos : closureFor scope env = pure cl) (hZ : ∀ (h : Heap) n, pushCells h scope.names = h.push { cls := .type "cell", data := .cell none } ∧ cellsFrom n scope.names cl = (x, n) :: cl) (hkind : scope.kind = .function)
    (hnames : ∀ z ∈ scope.names, z.2 = .local → scope.names.lookup z.1 = some .local) (hx : scope.names.lookup x = some .cell)
    (hy : env.kindOf y = some .local) (hp : (env.scope.kind == .class || (env.scope.kind == .module && env.locals != env.globals)) = false)
    (h : wpAny (model prog w) A (eval iter env) (SrcZ prog w A h₀ L m env ifs elt x scope cl (fun s₂ => FinA h₀ L m s₂ y Q)) E s)
    (hs : ∀ x, foldedSetIterable iter env x = pure x := by intro _; rfl) :
    wpAny (model prog w) A (exec (.Assign [.Name y py] (.ListComp elt [⟨.Name x px, iter, ifs, 0⟩] scope pos) spos) env) Q E s := by
  subst hLe
  rw [exec_Assign_Name_used _ _ _ _ hsw]
  refine wpAny_bind (wpAny_standAt (wpAny_bind ?_))
  show wpAny _ A (do let _ ← comprehension (.ListComp elt [⟨.Name x px, iter, ifs, 0⟩] scope pos) scope env _ (newList []) false (eval iter env) (some (assign (.Name y py) env))) _ _ s
  refine wpAny_bind (wpAny_mono (wpAny_comprehension_free (use := some (assign (.Name y py) env)) (Q := fun _ s' => Q .next s') rfl hs hclos hkind hnames
    (wpAny_mono h (fun xv s₁ h₁ => ?_) fun _ _ e => e)) (fun _ s' hq => wpAny_pure (wpAny_pure hq)) fun _ _ e => e)
  obtain ⟨n, P, S, news, J, F, N, hn, hS, hSm, it, h0, R⟩ := h₁
  refine it _ _ fun I fp St h₂ hI hsz W hIo hSt hst hfp up => ?_
  have hI₀ : h₀.get? I = none := by rw [hI]; exact next_is_new F
  refine block_Z (s₂ := { s₁ with heap := h₂ }) W hn hIo hSt hZ hkind hx hst hfp (F.keeps up) (N.grown up) (by rw [hI]; exact Nat.ne_of_lt F.ns.lt) hI₀ (fun p hp => by rw [hI]; exact Nat.ne_of_lt (Heap.lt_size (N p hp).1)) hS hSm h0 (R _ ⟨_, rfl⟩).1 ?_
  exact end_A hy hp fun ys nw hj => (R _ ⟨_, rfl⟩).2 ys nw hj
end
end Mine
end
section
open PySem PySem.W PyProof.Rows PySem.Calls
set_option maxRecDepth 100000
namespace Mine
open LCg LCt
def isIt : Value → Bool
  | .type n => n == "list_iterator" || n == "range_iterator" || n == "bytes_iterator"
  | _ => false
def OffIt (I : Addr) : List (Addr × Obj) → Prop
  | [] => True
  | p :: r => (p.1 ≠ I ∨ isIt p.2.cls = false) ∧ OffIt I r
theorem OffIt.of {I : Addr} : ∀ {l : List (Addr × Obj)}, (∀ p ∈ l, p.1 ≠ I) → OffIt I l
  | [], _ => trivial
  | p :: r, h => ⟨.inl (h p (List.mem_cons_self ..)), OffIt.of fun q hq => h q (List.mem_cons_of_mem _ hq)⟩
theorem OffIt.ofC {I : Addr} : ∀ {l : List (Addr × Obj)}, (∀ p ∈ l, isIt p.2.cls = false) → OffIt I l
  | [], _ => trivial
  | p :: r, h => ⟨.inr (h p (List.mem_cons_self ..)), OffIt.ofC fun q hq => h q (List.mem_cons_of_mem _ hq)⟩
theorem OffIt.append {I : Addr} : ∀ {l r : List (Addr × Obj)}, OffIt I l → OffIt I r → OffIt I (l ++ r)
  | [], _, _, h => h
  | _ :: _, _, h, h' => ⟨h.1, OffIt.append h.2 h'⟩
theorem OffIt.at {I : Addr} {l : List (Addr × Obj)} (h : OffIt I l) : ∀ p ∈ l, p.1 ≠ I ∨ isIt p.2.cls = false := by
  induction l with
  | nil => intro p hp; cases hp
  | cons q r ih =>
    intro p hp
    have h' : (q.1 ≠ I ∨ isIt q.2.cls = false) ∧ OffIt I r := h
    rcases List.mem_cons.mp hp with e | hp
    · rw [e]; exact h'.1
    · exact ih h'.2 p hp
def IterG (prog : Program) (w : World) (A : Around) (target : PySem.Expr) (h₀ : Heap) (L : Addr) (S : List (Addr × Obj) → Prop) (xv : Value) (s₁ : Shared) (n : Nat) (P : Nat → Value → Prop) : Prop :=
  ∀ (Q : Value → Shared → Prop) (E : Value → Shared → Prop), (∀ I fp St h₂, I = s₁.heap.objs.size → h₂.objs.size = s₁.heap.objs.size + 1 → Walks prog w A I fp [I] n P St → (∀ i h, St i h → ∃ o, h.get? I = some o ∧ isIt o.cls = true) →
    (∀ i h h' o nw, St i h → h.get? I = some o → h'.get? I = some o → (∀ b o, h₀.get? b = some o → h'.get? b = some o) → News h₀ L h' nw → S nw → St i h') → St 0 h₂ → (∀ b ∈ fp, b < h₂.objs.size) →
    (∀ b o, s₁.heap.get? b = some o → h₂.get? b = some o) → (∀ i v (s : Shared) (Q : Unit → Shared → Prop) (E : Value → Shared → Prop), St i s.heap → Q () s → wpAny (model prog w) A (letOwnedTupleGo target (.ref I) v) Q E s) → Q (.ref I) { s₁ with heap := h₂ }) → wpAny (model prog w) A (pyIter xv) Q E s₁
section
variable {prog : Program} {w : World} {A : Around} {E : Value → Shared → Prop} {s s₁ : Shared} {h₀ : Heap} {L : Addr} {m : PySem.Str → Option Value} {env : Env} {news : List (Addr × Obj)}
theorem iterG_range {x : PySem.Str} {px : Pos} {r : Addr} {a b c : Int} {t u v : Tok} {n : Nat} (hh : A.handled = none) (hr : IsRange s₁.heap r a b c t u v) (hsm : Builtin.Range.small a b c = true) (hn : Builtin.Range.rangeSize a b c = ((n : Nat) : Int)) :
    IterG prog w A (.Name x px) h₀ L (fun _ => True) (.ref r) s₁ n (fun i v => ∃ t, v = .int (a + (i : Int) * c) t) := fun Q E k => by
  refine wpAny_pyIter_range hr hsm ?_
  refine k s₁.heap.objs.size [s₁.heap.objs.size] _ _ rfl (Heap.size_push ..) (Walks.range hh _ a c n) (fun i h st => ⟨_, st, rfl⟩) (fun i h h' o nw st e e' _ _ _ => ?_) ?_ (fun b hb => ?_) (fun _ _ e => Heap.get?_push_of_some _ e) (fun _ _ _ _ _ _ q => wpAny_of_eq (a := ()) rfl q)
  · have st' : h.get? s₁.heap.objs.size = some _ := st
    show h'.get? s₁.heap.objs.size = some _
    rw [e', ← e]; exact st'
  · show IsRangeIter _ _ _ _ _
    rw [hn]
    simpa using Heap.get?_push_size _ rfl
  · rw [List.mem_singleton.mp hb, Heap.size_push]; exact Nat.lt_succ_self _
theorem iterG_list {target : PySem.Expr} {ax : Addr} {its : Array Value} (hh : A.handled = none) (F : Fr h₀ L s₁.heap m) (N : News h₀ L s₁.heap news) (hS : SrcAt h₀ ax its news) :
    IterG prog w A target h₀ L (SrcAt h₀ ax its) (.ref ax) s₁ its.size (fun i v => its[i]? = some v) := fun Q E k => by
  have hl := hS.list F.keep N
  have hlt : ax < s₁.heap.objs.size := by obtain ⟨_, e, _⟩ := hl; exact Heap.lt_size e
  refine wpAny_pyIter_list hl ?_
  refine k s₁.heap.objs.size [s₁.heap.objs.size, ax] _ _ rfl (Heap.size_push ..) (Walks.list hh s₁.heap.objs.size ax (Nat.ne_of_lt hlt) its) (fun i h st => by obtain ⟨o, e, c, _⟩ := st.1; exact ⟨o, e, by rw [c]; rfl⟩) list_st ⟨⟨_, Heap.get?_push_size _ rfl, rfl, rfl⟩, hl.push _⟩ (fun b hb => ?_) (fun _ _ e => Heap.get?_push_of_some _ e) (fun i v s Q E st q => letGo_listiter st.1 q)
  rw [Heap.size_push]
  rcases List.mem_cons.mp hb with rfl | hb
  · exact Nat.lt_succ_self _
  · rw [List.mem_singleton.mp hb]; exact Nat.lt_succ_of_lt hlt
def ForEnd (h₀ : Heap) (L : Addr) (s₁ : Shared) (I : Addr) (oI : Obj) (S : List (Addr × Obj) → Prop) (Jn : (PySem.Str → Option Value) → List (Addr × Obj) → Prop) (Q : Flow → Shared → Prop) (f : Flow) (s₂ : Shared) : Prop :=
  match f with
  | .ret v => Q (.ret v) s₂
  | .brk => Q .next s₂
  | _ => ∃ h' tk m' news', s₂ = { s₁ with heap := h', toks := tk } ∧ Fr h₀ L h' m' ∧ News h₀ L h' ((I, oI) :: news') ∧ (∀ p ∈ news', p.1 ≠ I) ∧ S news' ∧ Jn m' news'
theorem ForEnd.next' {L : Addr} {s₁ : Shared} {I : Addr} {oI : Obj} {S : List (Addr × Obj) → Prop} {Jn : (PySem.Str → Option Value) → List (Addr × Obj) → Prop} {Q : Flow → Shared → Prop} {f : Flow} {h' : Heap} {tk : Nat} {m' : PySem.Str → Option Value} {all : List (Addr × Obj)} (hf : f = .next ∨ f = .cont)
    (F : Fr h₀ L h' m') (N : News h₀ L h' all) (hI : isIt oI.cls = true) (news' : List (Addr × Obj)) (sub : ∀ p ∈ (I, oI) :: news', p ∈ all) (off : OffIt I news') (hS : S news') (hJ : Jn m' news') : ForEnd h₀ L s₁ I oI S Jn Q f { s₁ with heap := h', toks := tk } := by
  have : ∃ h'' tk' m' news', ({ s₁ with heap := h', toks := tk } : Shared) = { s₁ with heap := h'', toks := tk' } ∧ Fr h₀ L h'' m' ∧ News h₀ L h'' ((I, oI) :: news') ∧ (∀ p ∈ news', p.1 ≠ I) ∧ S news' ∧ Jn m' news' := by
    refine ⟨h', tk, m', news', rfl, F, fun p hp => N p (sub p hp), fun p hp e => ?_, hS, hJ⟩
    rcases off.at p hp with h | h
    · exact h e
    · have h1 := (N _ (sub p (List.mem_cons_of_mem _ hp))).1
      have h2 := (N _ (sub _ (List.mem_cons_self ..))).1
      rw [e] at h1
      have := Option.some.inj (h1.symm.trans h2)
      rw [this, hI] at h
      cases h
  rcases hf with rfl | rfl <;> exact this
theorem ForEnd.next {L : Addr} {s₁ : Shared} {I : Addr} {oI : Obj} {S : List (Addr × Obj) → Prop} {Jn : (PySem.Str → Option Value) → List (Addr × Obj) → Prop} {Q : Flow → Shared → Prop} {h' : Heap} {tk : Nat} {m' : PySem.Str → Option Value} {all : List (Addr × Obj)}
    (F : Fr h₀ L h' m') (N : News h₀ L h' all) (hI : isIt oI.cls = true) (news' : List (Addr × Obj)) (sub : ∀ p ∈ (I, oI) :: news', p ∈ all) (off : OffIt I news') (hS : S news') (hJ : Jn m' news') : ForEnd h₀ L s₁ I oI S Jn Q .next { s₁ with heap := h', toks := tk } := ForEnd.next' (.inl rfl) F N hI news' sub off hS hJ
theorem ForEnd.ret {L : Addr} {s₁ s₂ : Shared} {I : Addr} {oI : Obj} {S : List (Addr × Obj) → Prop} {Jn : (PySem.Str → Option Value) → List (Addr × Obj) → Prop} {Q : Flow → Shared → Prop} {v : Value} (h : Q (.ret v) s₂) : ForEnd h₀ L s₁ I oI S Jn Q (.ret v) s₂ := h
def TurnF (prog : Program) (w : World) (A : Around) (E : Value → Shared → Prop) (h₀ : Heap) (env : Env) (target : PySem.Expr) (body : List Stmt) (Q : Flow → Shared → Prop) (S : List (Addr × Obj) → Prop) (P : Nat → Value → Prop) (J : Nat → (PySem.Str → Option Value) → List (Addr × Obj) → Prop) (n : Nat) (s₁ : Shared) : Prop :=
  ∀ i v I oI m₁ news₁ h tk, i < n → P i v → J i m₁ news₁ → isIt oI.cls = true → (∀ p ∈ news₁, p.1 ≠ I) → S news₁ → Fr h₀ env.locals h m₁ → News h₀ env.locals h ((I, oI) :: news₁) →
    wpAny (model prog w) A (assign target env v) (fun _ s₃ => wpAny (model prog w) A (execs body env) (ForEnd h₀ env.locals { s₁ with heap := h, toks := tk } I oI S (J (i + 1)) Q) E s₃) E { s₁ with heap := h, toks := tk }
def SrcF (prog : Program) (w : World) (A : Around) (E : Value → Shared → Prop) (h₀ : Heap) (env : Env) (target : PySem.Expr) (body : List Stmt) (Q : Flow → Shared → Prop) (xv : Value) (s₁ : Shared) : Prop :=
  ∃ n P S m news J, Fr h₀ env.locals s₁.heap m ∧ News h₀ env.locals s₁.heap news ∧ S news ∧ IterG prog w A target h₀ env.locals S xv s₁ n P ∧ J 0 m news ∧
    TurnF prog w A E h₀ env target body Q S P J n s₁ ∧
    ∀ h' tk m' news', Fr h₀ env.locals h' m' → News h₀ env.locals h' news' → S news' → J n m' news' → Q .next { s₁ with heap := h', toks := tk }
theorem SrcF.intro {target : PySem.Expr} {body : List Stmt} {Q : Flow → Shared → Prop} {xv : Value} {n : Nat} {P : Nat → Value → Prop} {S : List (Addr × Obj) → Prop}
    (it : IterG prog w A target h₀ env.locals S xv s₁ n P) (F : Fr h₀ env.locals s₁.heap m) (N : News h₀ env.locals s₁.heap news) (hS : S news) (J : Nat → (PySem.Str → Option Value) → List (Addr × Obj) → Prop) (h0 : J 0 m news)
    (turn : TurnF prog w A E h₀ env target body Q S P J n s₁)
    (fin : ∀ h' tk m' news', Fr h₀ env.locals h' m' → News h₀ env.locals h' news' → S news' → J n m' news' → Q .next { s₁ with heap := h', toks := tk }) : SrcF prog w A E h₀ env target body Q xv s₁ :=
  ⟨n, P, S, m, news, J, F, N, hS, it, h0, turn, fin⟩
theorem For_W {target iter : PySem.Expr} {body : List Stmt} {pos : Pos} {Q : Flow → Shared → Prop} (F₀ : Fr h₀ env.locals s.heap m)
    (h : wpAny (model prog w) A (eval iter env) (SrcF prog w A E h₀ env target body Q) E s)
    (hs : ∀ x, foldedSetIterable iter env x = pure x := by intro _; rfl)
    (hE : PassesOwn (model prog w) A env E := by passes_own) :
    wpAny (model prog w) A (exec (.For target iter body [] pos) env) Q E s := by
  refine wpAny_For (wpAny_mono h (fun xv s₁ h₁ => ?_) fun _ _ e => e) hs
  obtain ⟨n, P, S, m, news, J, F, N, hS, it, h0, turn, fin⟩ := h₁
  refine it _ _ fun I fp St h₂ hI hsz W hIo hSt hst hfp up go => ?_
  have hI₀ : h₀.get? I = none := by rw [hI]; exact next_is_new F
  have hLI : env.locals ≠ I := by rw [hI]; exact Nat.ne_of_lt F.ns.lt
  have hNI : ∀ p ∈ news, p.1 ≠ I := fun p hp => by rw [hI]; exact Nat.ne_of_lt (Heap.lt_size (N p hp).1)
  refine codeAny_forLoop_any
    (fun k s' => ∃ h' tk m' news' i, s' = { s₁ with heap := h', toks := tk } ∧ St i h' ∧ Fr h₀ env.locals h' m' ∧ News h₀ env.locals h' news' ∧ (∀ p ∈ news', p.1 ≠ I) ∧ S news' ∧ J i m' news' ∧ i ≤ n ∧ k = n + 1 - i) ?_ (n + 1)
    ⟨h₂, s₁.toks, m, news, 0, rfl, hst, F.keeps up, N.grown up, hNI, hS, h0, Nat.zero_le _, rfl⟩
  rintro k s' ⟨h', tk, m', news', i, rfl, hst', F', N', hnw', hS', hJ, hi, rfl⟩
  have next : ∀ h₁ : Heap, (∀ b o, b ∉ [I] → h'.get? b = some o → h₁.get? b = some o) → Fr h₀ env.locals h₁ m' ∧ News h₀ env.locals h₁ news' := fun h₁ hk₁ =>
    ⟨⟨F'.ns.at' fun o e => hk₁ _ o (by simpa using hLI) e, fun b o e => hk₁ b o (fun q => by rw [List.mem_singleton.mp q, hI₀] at e; cases e) (F'.keep b o e), F'.above⟩, fun p hp => ⟨hk₁ _ _ (by simpa using hnw' p hp) (N' p hp).1, (N' p hp).2⟩⟩
  by_cases hlt : i < n
  · refine W.item i _ _ _ hlt hst' fun v h₁ tk₁ hP hst₁ hk₁ => ?_
    refine go (i + 1) v _ _ _ hst₁ ?_
    obtain ⟨F₁, N₁⟩ := next h₁ hk₁
    obtain ⟨oI, hoI, hcI⟩ := hIo _ _ hst₁
    have N₂ : News h₀ env.locals h₁ ((I, oI) :: news') := fun p hp => by
      rcases List.mem_cons.mp hp with rfl | hp
      · exact ⟨hoI, fun e => hLI e.symm, hI₀⟩
      · exact N₁ p hp
    refine wpAny_mono (turn i v I oI m' news' h₁ tk₁ hlt hP hJ hcI hnw' hS' F₁ N₂) (fun _ s₂ h₂' => wpAny_mono (wpAny_passesOwn hE h₂') (fun f s₃ h₃ => ?_) fun _ _ e => e) hE
    have rest : (∃ h'' tk m' news', s₃ = { s₁ with heap := h'', toks := tk } ∧ Fr h₀ env.locals h'' m' ∧ News h₀ env.locals h'' ((I, oI) :: news') ∧ (∀ p ∈ news', p.1 ≠ I) ∧ S news' ∧ J (i + 1) m' news') →
        ∃ m_1, m_1 < n + 1 - i ∧ ∃ h' tk m' news' i, s₃ = { s₁ with heap := h', toks := tk } ∧ St i h' ∧ Fr h₀ env.locals h' m' ∧ News h₀ env.locals h' news' ∧ (∀ p ∈ news', p.1 ≠ I) ∧ S news' ∧ J i m' news' ∧ i ≤ n ∧ m_1 = n + 1 - i := by
      rintro ⟨h'', tk'', m'', news'', rfl, F₃, N₃, o₃, S₃, J₃⟩
      have N₄ : News h₀ env.locals h'' news'' := fun p hp => N₃ p (List.mem_cons_of_mem _ hp)
      refine ⟨n + 1 - (i + 1), by (first | lia | omega), h'', tk'', m'', news'', i + 1, rfl, ?_, F₃, N₄, o₃, S₃, J₃, hlt, rfl⟩
      exact hSt _ _ _ oI _ hst₁ hoI (N₃ _ (List.mem_cons_self ..)).1 F₃.keep N₄ S₃
    cases f with
    | ret v => exact h₃
    | brk => exact h₃
    | cont => exact rest h₃
    | next => exact rest h₃
  · have hin : i = n := by (first | lia | omega)
    subst hin
    refine W.done _ _ _ hst' fun h₁ tk₁ hk₁ => wpAny_execs_nil ?_
    obtain ⟨F₁, N₁⟩ := next h₁ hk₁
    exact fin h₁ tk₁ m' news' F₁ N₁ hS' hJ
def WEnd (h₀ : Heap) (L : Addr) (s : Shared) (J : Nat → (PySem.Str → Option Value) → List (Addr × Obj) → Prop) (n : Nat) (Q : Flow → Shared → Prop) (f : Flow) (s₃ : Shared) : Prop :=
  match f with
  | .ret v => Q (.ret v) s₃
  | .brk => Q .next s₃
  | _ => ∃ h' tk m₂ news₂ n', s₃ = { s with heap := h', toks := tk } ∧ Fr h₀ L h' m₂ ∧ News h₀ L h' news₂ ∧ n' < n ∧ J n' m₂ news₂
theorem WEnd.next {h' : Heap} {J : Nat → (PySem.Str → Option Value) → List (Addr × Obj) → Prop} {n n' tk : Nat} {Q : Flow → Shared → Prop} {news₂ : List (Addr × Obj)} (F : Fr h₀ L h' m) (N : News h₀ L h' news₂) (hn : n' < n) (hJ : J n' m news₂) : WEnd h₀ L s J n Q .next { s with heap := h', toks := tk } :=
  ⟨h', tk, m, news₂, n', rfl, F, N, hn, hJ⟩
theorem WEnd.ret {J : Nat → (PySem.Str → Option Value) → List (Addr × Obj) → Prop} {n : Nat} {Q : Flow → Shared → Prop} {v : Value} {s₃ : Shared} (h : Q (.ret v) s₃) : WEnd h₀ L s J n Q (.ret v) s₃ := h
theorem While_W {Q : Flow → Shared → Prop} {test : PySem.Expr} {body : List Stmt} {pos : Pos} (J : Nat → (PySem.Str → Option Value) → List (Addr × Obj) → Prop) (n₀ : Nat)
    (F : Fr h₀ L s.heap m) (N : News h₀ L s.heap news) (hJ : J n₀ m news)
    (turn : ∀ n m₁ news₁ h₁ tk₁, Fr h₀ L h₁ m₁ → News h₀ L h₁ news₁ → J n m₁ news₁ →
      wpAny (model prog w) A (isTrue test env (eval test env)) (fun b s₂ =>
        if b = true then wpAny (model prog w) A (execs body env) (WEnd h₀ L s J n Q) E s₂ else Q .next s₂) E { s with heap := h₁, toks := tk₁ })
    (hE : PassesOwn (model prog w) A env E := by passes_own) :
    wpAny (model prog w) A (exec (.While test body [] pos) env) Q E s := by
  refine wpAny_While (codeAny_whileLoop (fun n s' => ∃ h₁ tk₁ m₁ news₁, s' = { s with heap := h₁, toks := tk₁ } ∧ Fr h₀ L h₁ m₁ ∧ News h₀ L h₁ news₁ ∧ J n m₁ news₁) ?_ n₀ ⟨s.heap, s.toks, m, news, rfl, F, N, hJ⟩)
  rintro n s' ⟨h₁, tk₁, m₁, news₁, rfl, F₁, N₁, J₁⟩
  refine wpAny_mono (turn n m₁ news₁ h₁ tk₁ F₁ N₁ J₁) (fun b s₂ h₂ => ?_) hE
  cases b with
  | false =>
    simp only [Bool.false_eq_true, if_false] at h₂ ⊢
    exact wpAny_execs_nil h₂
  | true =>
    simp only [if_true] at h₂ ⊢
    refine wpAny_mono h₂ (fun f s₃ h₃ => ?_) hE
    have rest : (∃ h' tk m₂ news₂ n', s₃ = { s with heap := h', toks := tk } ∧ Fr h₀ L h' m₂ ∧ News h₀ L h' news₂ ∧ n' < n ∧ J n' m₂ news₂) → ∃ m_1, m_1 < n ∧ ∃ h₁ tk₁ m₁ news₁, s₃ = { s with heap := h₁, toks := tk₁ } ∧ Fr h₀ L h₁ m₁ ∧ News h₀ L h₁ news₁ ∧ J m_1 m₁ news₁ := by
      rintro ⟨h', tk, m₂, news₂, n', rfl, F₂, N₂, hn, J₂⟩
      exact ⟨n', hn, h', tk, m₂, news₂, rfl, F₂, N₂, J₂⟩
    cases f with
    | ret v => exact h₃
    | brk => exact h₃
    | cont => exact rest h₃
    | next => exact rest h₃
end
end Mine
end
section
open PySem PySem.W PyProof.Rows PySem.Calls
set_option maxRecDepth 100000
namespace Mine
open LCg LCt
section
variable {prog : Program} {w : World} {A : Around} {E : Value → Shared → Prop} {s s₁ : Shared} {h₀ : Heap} {L : Addr} {m : PySem.Str → Option Value} {env : Env} {news : List (Addr × Obj)}
theorem Assign_ListComp_WF {elt iter : PySem.Expr} {x y : PySem.Str} {px py : Pos} {scope : Scope} {cl : List (PySem.Str × Addr)} {pos spos : Pos} {Q : Flow → Shared → Prop}  (F₀ : Fr h₀ L s.heap m) (hLe : env.locals = L)
    (hsw : swapsWith (.ListComp elt [⟨.Name x px, iter, [], 0⟩] scope pos) (some (.Name y py)) spos.line env = pure true)
    (hclos : closureFor scope env = pure cl) (hcell : ∀ z ∈ scope.names, z.2 ≠ .cell) (hkind : scope.kind = .function)
    (hnames : ∀ z ∈ scope.names, z.2 = .local → scope.names.lookup z.1 = some .local) (hx : scope.names.lookup x = some .local)
    (hy : env.kindOf y = some .local) (hp : (env.scope.kind == .class || (env.scope.kind == .module && env.locals != env.globals)) = false)
    (h : wpAny (model prog w) A (eval iter env) (SrcW prog w A h₀ L m env elt x scope cl (fun s₂ => FinA h₀ L m s₂ y Q)) E s)
    (hs : ∀ x, foldedSetIterable iter env x = pure x := by intro _; rfl) :
    wpAny (model prog w) A (exec (.Assign [.Name y py] (.ListComp elt [⟨.Name x px, iter, [], 0⟩] scope pos) spos) env) Q E s :=
  Assign_ListComp_W hLe hsw hclos hcell hkind hnames hx hy hp h hs
theorem Assign_ListComp_ZF {ifs : List PySem.Expr} {elt iter : PySem.Expr} {x y : PySem.Str} {px py : Pos} {scope : Scope} {cl : List (PySem.Str × Addr)} {pos spos : Pos} {Q : Flow → Shared → Prop}  (F₀ : Fr h₀ L s.heap m) (hLe : env.locals = L)
    (hsw : swapsWith (.ListComp elt [⟨.Name x px, iter, ifs, 0⟩] scope pos) (some (.Name y py)) spos.line env = pure true)
    (hclos : closureFor scope env = pure cl) (hZ : ∀ (h : Heap) n, pushCells h scope.names = h.push { cls := .type "cell", data := .cell none } ∧ cellsFrom n scope.names cl = (x, n) :: cl) (hkind : scope.kind = .function)
    (hnames : ∀ z ∈ scope.names, z.2 = .local → scope.names.lookup z.1 = some .local) (hx : scope.names.lookup x = some .cell)
    (hy : env.kindOf y = some .local) (hp : (env.scope.kind == .class || (env.scope.kind == .module && env.locals != env.globals)) = false)
    (h : wpAny (model prog w) A (eval iter env) (SrcZ prog w A h₀ L m env ifs elt x scope cl (fun s₂ => FinA h₀ L m s₂ y Q)) E s)
    (hs : ∀ x, foldedSetIterable iter env x = pure x := by intro _; rfl) :
    wpAny (model prog w) A (exec (.Assign [.Name y py] (.ListComp elt [⟨.Name x px, iter, ifs, 0⟩] scope pos) spos) env) Q E s :=
  Assign_ListComp_Z hLe hsw hclos hZ hkind hnames hx hy hp h hs
theorem ifs_nil {env : Env} {Q : Bool → Shared → Prop} (h : Q true s) :
    wpAny (model prog w) A (forIn [] true fun c r => if r = true then do let ok ← isTrue c env (eval c env); pure (ForInStep.yield ok) else pure (ForInStep.yield r)) Q E s := by
  simp only [List.forIn_nil]
  exact wpAny_pure h
theorem turnZ_nil {elt : PySem.Expr} {x : PySem.Str} {scope : Scope} {cl : List (PySem.Str × Addr)} {S : List (Addr × Obj) → Prop} {P : Nat → Value → Prop} {J : Nat → List Value → List (Addr × Obj) → Prop} {n : Nat}
    (turn : ∀ i ys news v I oI C oC Z oZ D h tk (E' : Value → Shared → Prop), i < n → P i v → J i ys news → oZ.data = .cell (some v) → Fr h₀ L h m → News h₀ L h ((I, oI) :: (C, oC) :: (D, lst ys) :: (Z, oZ) :: news) → Off3 I C D ((Z, oZ) :: news) → (∀ p ∈ news, p.1 ≠ Z) → ((@Ne Nat I C) ∧ (@Ne Nat I D) ∧ (@Ne Nat C D)) →
        wpAny (model prog w) A (eval elt (compEnvC scope ((x, Z) :: cl) C env)) (CompEnd h₀ L m { s with heap := h, toks := tk } I oI C oC D (lst ys) S (fun y nw => ZRest Z oZ (J (i + 1) (ys ++ [y])) nw)) E' { s with heap := h, toks := tk }) : TurnZ prog w A h₀ L m env [] elt x scope cl s S P J n :=
  fun i ys news v I oI C oC Z oZ D h tk E' a b c d e f g k l => ifs_nil (turn i ys news v I oI C oC Z oZ D h tk E' a b c d e f g k l)
theorem compEnd_mono {s₁ s₂ : Shared} {I C D : Addr} {oI oC oD : Obj} {S : List (Addr × Obj) → Prop} {r r' : Value → List (Addr × Obj) → Prop} {y : Value} (h : CompEnd h₀ L m s₁ I oI C oC D oD S r y s₂) (hr : ∀ nw, r y nw → r' y nw) : CompEnd h₀ L m s₁ I oI C oC D oD S r' y s₂ := by
  obtain ⟨h', tk', nw, e, F, N, O, hS, h⟩ := h
  exact ⟨h', tk', nw, e, F, N, O, hS, hr _ h⟩
theorem SrcZ.pure0 {elt : PySem.Expr} {x : PySem.Str} {scope : Scope} {cl : List (PySem.Str × Addr)} {Fin : Shared → List Value → List (Addr × Obj) → Prop} {xv : Value} {n : Nat} {P : Nat → Value → Prop} {S : List (Addr × Obj) → Prop}
    (it : IterAs prog w A h₀ L S xv s₁ n P) (F : Fr h₀ L s₁.heap m) (N : News h₀ L s₁.heap news) (hn : n ≤ sizeLine) (hS : S news) (hSm : ∀ Z (oZ : Obj) v l, oZ.data = .cell (some v) → S ((Z, oZ) :: l) → S l) (J : Nat → List Value → Prop) (h0 : J 0 [])
    (turn : ∀ hh i ys v I oI C oC Z oZ D h tk (E' : Value → Shared → Prop), i < n → P i v → J i ys → oZ.data = .cell (some v) → Fr h₀ L h m → News h₀ L h ((I, oI) :: (C, oC) :: (D, lst ys) :: (Z, oZ) :: news) → Off3 I C D ((Z, oZ) :: news) → (∀ p ∈ news, p.1 ≠ Z) → ((@Ne Nat I C) ∧ (@Ne Nat I D) ∧ (@Ne Nat C D)) →
        wpAny (model prog w) A (eval elt (compEnvC scope ((x, Z) :: cl) C env)) (CompEnd h₀ L m { { s₁ with heap := hh } with heap := h, toks := tk } I oI C oC D (lst ys) S (fun y nw => nw = (Z, oZ) :: news ∧ J (i + 1) (ys ++ [y]))) E' { { s₁ with heap := hh } with heap := h, toks := tk })
    (fin : ∀ hh ys, J n ys → Fin { s₁ with heap := hh } ys news) : SrcZ prog w A h₀ L m env [] elt x scope cl Fin xv s₁ :=
  SrcZ.intro it F N hn hS hSm (fun i ys nw => nw = news ∧ J i ys) ⟨rfl, h0⟩ (fun hh => turnZ_nil fun i ys nw v I oI C oC Z oZ D h tk E' a b c d e f g k l => by
    obtain ⟨rfl, c⟩ := c
    exact wpAny_mono (turn hh i ys v I oI C oC Z oZ D h tk E' a b c d e f g k l) (fun y s'' h' => compEnd_mono h' fun nw hr => ⟨_, hr.1, k, rfl, hr.2⟩) fun _ _ e => e) fun hh ys nw hJ => by obtain ⟨rfl, hJ⟩ := hJ; exact fin hh ys hJ
theorem SrcT.pureL {ct elt : PySem.Expr} {x : PySem.Str} {scope : Scope} {cl : List (PySem.Str × Addr)} {Fin : Shared → List Value → List (Addr × Obj) → Prop} {ax : Addr} {its : Array Value} {k : Nat}
    (hh : A.handled = none) (F : Fr h₀ L s₁.heap m) (N : News h₀ L s₁.heap news) (hm : (ax, ({ cls := .type "list", data := .seq its k } : Obj)) ∈ news) (hsz : its.size ≤ sizeLine) (J : Nat → List Value → Prop) (h0 : J 0 [])
    (turn : ∀ g i ys v I oI C oC D m₂ h tk (E' : Value → Shared → Prop), i < its.size → its[i]? = some v → J i ys → NsObj oC m₂ → m₂ x = some v → Fr h₀ L h m → News h₀ L h ((I, oI) :: (C, oC) :: (D, lst ys) :: news) → Off3 I C D news → ((@Ne Nat I C) ∧ (@Ne Nat I D) ∧ (@Ne Nat C D)) →
      wpAny (model prog w) A (isTrue ct (compEnvC scope cl C env) (eval ct (compEnvC scope cl C env))) (fun ok s' => if ok = true then
        wpAny (model prog w) A (eval elt (compEnvC scope cl C env)) (CompEnd h₀ L m { { s₁ with heap := g } with heap := h, toks := tk } I oI C oC D (lst ys) (SrcAt h₀ ax its) (fun y nw => nw = news ∧ J (i + 1) (ys ++ [y]))) E' s'
        else CompEnd h₀ L m { { s₁ with heap := g } with heap := h, toks := tk } I oI C oC D (lst ys) (SrcAt h₀ ax its) (fun _ nw => nw = news ∧ J (i + 1) ys) Value.none s') E' { { s₁ with heap := g } with heap := h, toks := tk })
    (fin : ∀ g ys, J its.size ys → Fin { s₁ with heap := g } ys news) : CompSrcT prog w A h₀ L m env ct elt x scope cl Fin (.ref ax) s₁ :=
  CompSrcT.ledger hh F N hm hsz fun g => compT_inv0 (fun i ys nw => nw = news ∧ J i ys) ⟨rfl, h0⟩ (fun i ys nw v I oI C oC D m₂ h tk E' a b c d e f g' k l => by
    obtain ⟨rfl, c⟩ := c
    exact turn g i ys v I oI C oC D m₂ h tk E' a b c d e f g' k l) fun ys nw hJ => by obtain ⟨rfl, hJ⟩ := hJ; exact fin g ys hJ
end
end Mine
end
section
open PySem PySem.W PyProof.Rows PySem.Calls
set_option maxRecDepth 100000
namespace Mine
open LCg LCt
section
variable {prog : Program} {w : World} {A : Around} {E : Value → Shared → Prop} {s s₁ : Shared} {g h₀ : Heap} {L : Addr} {m : PySem.Str → Option Value} {env : Env} {news : List (Addr × Obj)}
end
end Mine
end
section
open PySem PySem.W PyProof.Rows PySem.Calls
set_option maxRecDepth 100000
namespace Mine
section
variable {prog : Program} {w : World} {A : Around} {E : Value → Shared → Prop} {s : Shared} {h₀ : Heap} {L : Addr} {m : PySem.Str → Option Value} {nw : List (Addr × Obj)}
theorem len_listN {l : Addr} {vs : List Value} {n k : Nat} {Q : Value → Shared → Prop} (N : News h₀ L s.heap nw) (hm : (l, ({ cls := .type "list", data := .seq vs.toArray n } : Obj)) ∈ nw) (hk : vs.length = k) (hn : k < 1000)
    (h : Q (.int k (s.toks + 1)) { s with toks := s.toks + 1 + 1 }) : wpAny (model prog w) A (call (.builtin "len") [.ref l]) Q E s := by
  have e : vs.toArray.size = k := by simp [hk]
  exact call_len_list (PySem.IsL.isList (n := n) (N _ hm).1) (by rw [e]; (first | lia | omega)) (by rw [e]; exact h)
end
end Mine
namespace Mine
open PyProof.V PySem.Spec PySem.SeqAt
section
variable {prog : Program} {w : World} {A : Around} {E : Value → Shared → Prop} {s : Shared} {h₀ : Heap} {L : Addr} {m : PySem.Str → Option Value} {nw : List (Addr × Obj)}
theorem slice_K {value slice : PySem.Expr} {l : Addr} {vs : List Value} {n : Nat} {a k : Int} {t u : Tok} {Q : Value → Shared → Prop} (F : Fr h₀ L s.heap m) (N : News h₀ L s.heap nw) (hm : (l, ({ cls := .type "list", data := .seq vs.toArray n } : Obj)) ∈ nw) (ha : 0 ≤ a) (hk : 0 ≤ k) (hab : a + k ≤ vs.length) (hz : vs.length ≤ 1000)
    (h : ∀ D h', Fr h₀ L h' m → News h₀ L h' ((D, listOf ((vs.drop a.toNat).take k.toNat).toArray 0) :: nw) → (∀ p ∈ nw, p.1 < D) → Q (.ref D) { s with heap := h' })
    (hs : subscripted slice false (.ref l) (.ref s.heap.objs.size) = operate [.ref s.heap.objs.size, .ref l] (getItem (.ref l) (.ref s.heap.objs.size)) := by with_unfolding_all rfl) (ht : ∀ r, letTemporaryGo value (.ref l) r = pure () := by intro _; with_unfolding_all rfl) :
    wpAny (model prog w) A (subscriptTail value slice (.ref l) (.ref s.heap.objs.size)) Q E { s with heap := s.heap.push { cls := .type "slice", data := .fields #[.int a t, .int (a + k) u, .none] } } := by
  refine kmk_slice F N (PySem.IsL.isList (n := n) (N _ hm).1) (.int a t) (.int (a + k) u) (fun D h' F' N' l1 => h D h' F' ?_ l1) hs ht (by rw [sizeLine_eq, List.size_toArray]; (first | lia | omega))
  have ea : a = ((a.toNat : Nat) : Int) := by (first | lia | omega)
  have ek : a + k = (((a + k).toNat : Nat) : Int) := by (first | lia | omega)
  have e := slicePick_run vs.toArray a.toNat (a + k).toNat (by rw [List.size_toArray]; (first | lia | omega)) (by (first | lia | omega))
  rw [← ea, ← ek] at e
  rw [e] at N'
  rw [show (a + k).toNat - a.toNat = k.toNat by (first | lia | omega)] at N'
  exact N'
end
end Mine
end
section
open PySem PySem.W PyProof.Rows PySem.Calls
set_option maxRecDepth 100000
namespace Mine
/-- the text of ones and zeros -/
def bitT (bs : List Nat) : PySem.Str := ⟨(bs.map (· + 48)).toArray⟩
theorem glue_fold : ∀ (rest : List PySem.Str) (acc : Array Nat), (rest.foldl (fun acc p => acc ++ (PySem.Str.ofString "").cps ++ p.cps) acc) = acc ++ (rest.map (·.cps.toList)).flatten.toArray
  | [], acc => by simp
  | p :: r, acc => by
    rw [List.foldl_cons, glue_fold r]
    apply Array.ext'
    simp [show (PySem.Str.ofString "").cps = #[] from rfl]
theorem join_empty (ts : List PySem.Str) : Txt.join (PySem.Str.ofString "") ts = ⟨(ts.map (·.cps.toList)).flatten.toArray⟩ := by
  cases ts with
  | nil => rfl
  | cons p r =>
    show (⟨r.foldl (fun acc q => acc ++ (PySem.Str.ofString "").cps ++ q.cps) p.cps⟩ : PySem.Str) = _
    rw [glue_fold]
    congr 1
    apply Array.ext'
    simp
theorem digit_text {d : Int} (h : d = 0 ∨ d = 1) : PySem.Str.ofString (toString d) = bitT [d.toNat] := by
  rcases h with rfl | rfl <;> decide
theorem join_bitTs (bss : List (List Nat)) : Txt.join (PySem.Str.ofString "") (bss.map bitT) = bitT bss.flatten := by
  rw [join_empty]
  unfold bitT
  congr 1
  induction bss with
  | nil => rfl
  | cons a r ih =>
    have ih' := congrArg Array.toList ih
    simp only [List.toList_toArray] at ih'
    simp only [List.map_cons, List.flatten_cons, List.map_append]
    rw [ih']
/-- the size bits of x, the greatest first -/
def bitsL (x : Int) (y : Nat) : List Nat := (List.range y).map fun j => ((x / 2 ^ (y - 1 - j)) % 2).toNat
theorem bitsL_length (x : Int) (y : Nat) : (bitsL x y).length = y := by simp [bitsL]
end Mine
end
section
open PySem PySem.W PyProof.Rows PySem.Calls
namespace Mine
section
variable {M : Model} {A : Around} {E : Value → Shared → Prop} {s : Shared}
theorem stCall (n : Nat) {args : List Value} {kw : List (PySem.Str × Value)} {Q : Value → Shared → Prop} (h : wpAny M A (call (.ref n) args kw) Q E s) : wpAny M A (call (.ref n) args kw) Q E s := h
theorem stWhile {t : PySem.Expr} {a b : List Stmt} {q : Pos} {env : Env} {Q : Flow → Shared → Prop} (h : wpAny M A (exec (.While t a b q) env) Q E s) : wpAny M A (exec (.While t a b q) env) Q E s := h
theorem stFor {t i : PySem.Expr} {a b : List Stmt} {q : Pos} {env : Env} {Q : Flow → Shared → Prop} (h : wpAny M A (exec (.For t i a b q) env) Q E s) : wpAny M A (exec (.For t i a b q) env) Q E s := h
theorem stLC {e gs x p env} {Q : Value → Shared → Prop} (h : wpAny M A (eval (.ListComp e gs x p) env) Q E s) : wpAny M A (eval (.ListComp e gs x p) env) Q E s := h
theorem stALC {t e gs x p q env} {Q : Flow → Shared → Prop} (h : wpAny M A (exec (.Assign [t] (.ListComp e gs x p) q) env) Q E s) : wpAny M A (exec (.Assign [t] (.ListComp e gs x p) q) env) Q E s := h
theorem stAS {t e i p q env} {Q : Flow → Shared → Prop} (h : wpAny M A (exec (.Assign [t] (.Subscript e i p) q) env) Q E s) : wpAny M A (exec (.Assign [t] (.Subscript e i p) q) env) Q E s := h
theorem stSub {e i l k u} {Q : Value → Shared → Prop} (h : wpAny M A (subscriptTail e i (.ref l) (.int k u)) Q E s) : wpAny M A (subscriptTail e i (.ref l) (.int k u)) Q E s := h
theorem stSlice {e a b c p l k} {Q : Value → Shared → Prop} (h : wpAny M A (subscriptTail e (.Slice a b c p) (.ref l) (.ref k)) Q E s) : wpAny M A (subscriptTail e (.Slice a b c p) (.ref l) (.ref k)) Q E s := h
theorem stGM (n : PySem.Str) {o p} {Q : Value × List Value → Shared → Prop} (h : wpAny M A (getMethod o n p) Q E s) : wpAny M A (getMethod o n p) Q E s := h
theorem stBi (n : String) {args : List Value} {kw : List (PySem.Str × Value)} {Q : Value → Shared → Prop} (h : wpAny M A (call (.builtin n) args kw) Q E s) : wpAny M A (call (.builtin n) args kw) Q E s := h
theorem stTy (n : String) {v args} {kw : List (PySem.Str × Value)} {Q : Value → Shared → Prop} (h : wpAny M A (call (.type n) (.ref v :: args) kw) Q E s) : wpAny M A (call (.type n) (.ref v :: args) kw) Q E s := h
theorem stRS {a b} {Q : Value → Shared → Prop} (h : wpAny M A (binaryOp .RShift a b) Q E s) : wpAny M A (binaryOp .RShift a b) Q E s := h
theorem stSI {a i v} {Q : Unit → Shared → Prop} (h : wpAny M A (setItem (.ref a) i v) Q E s) : wpAny M A (setItem (.ref a) i v) Q E s := h
theorem stBy {e i b t k u} {Q : Value → Shared → Prop} (h : wpAny M A (subscriptTail e i (.bytes b t) (.int k u)) Q E s) : wpAny M A (subscriptTail e i (.bytes b t) (.int k u)) Q E s := h
end
theorem stSrcF {a b c d e f g h i j k} (q : SrcF a b c d e f g h i j k) : SrcF a b c d e f g h i j k := q
theorem stForEnd {a b c d e f g h i j} (q : ForEnd a b c d e f g h i j) : ForEnd a b c d e f g h i j := q
theorem stWEnd {a b c d e f g h} (q : WEnd a b c d e f g h) : WEnd a b c d e f g h := q
theorem stSrcZ {a b c d e f g h i j k l m n o} (q : SrcZ a b c d e f g h i j k l m n o) : SrcZ a b c d e f g h i j k l m n o := q
theorem stSrcW {a b c d e f g h i j k l m n} (q : SrcW a b c d e f g h i j k l m n) : SrcW a b c d e f g h i j k l m n := q
theorem stSrcT {a b c d e f g h i j k l m n o} (q : LCt.CompSrcT a b c d e f g h i j k l m n o) : LCt.CompSrcT a b c d e f g h i j k l m n o := q
theorem stCompEnd {a b c d e f g h i j k l m n} (q : LCg.CompEnd a b c d e f g h i j k l m n) : LCg.CompEnd a b c d e f g h i j k l m n := q
end Mine
end
section
open PySem PySem.W PyProof.Rows PySem.Calls
set_option maxRecDepth 100000
namespace Mine
/-- a name's value put in front of the frame -/
theorem pin {m m'' : PySem.Str → Option Value} {x : PySem.Str} {v : Value} (e : m x = some v) (h : m'' = m) : (fun y => if y = x then some v else m'' y) = m := by
  subst h
  funext y
  by_cases q : y = x
  · rw [if_pos q, q, e]
  · rw [if_neg q]
theorem fr_cast {h₀ h : Heap} {L : Addr} {m m' : PySem.Str → Option Value} (F : Fr h₀ L h m) (e : m' = m) : Fr h₀ L h m' := e ▸ F
def codeAt (ks : List Int) : Nat → Int
  | 0 => 0
  | i + 1 => (codeAt ks i + ks.getD i 0) * 2
def placeAt (ks : List Int) : Nat → Int
  | 0 => 0
  | i + 1 => placeAt ks i + ks.getD i 0
def okAt (ks : List Int) (i : Nat) : Prop := ¬ ((2 : Int) ^ (i + 1) ≤ codeAt ks i + ks.getD i 0 ∧ 0 < ks.getD i 0)
abbrev tup3 (a b c : Int) (t u v : Tok) : Obj := { cls := .type "tuple", data := .seq #[.int a t, .int b u, .int c v] }
def RowsAt (nw : List (Addr × Obj)) (vals : List Value) (ks : List Int) (n : Nat) : Prop :=
  vals.length = n ∧ ∀ i, i < n → ∃ T t u v, vals[i]? = some (.ref T) ∧ (T, tup3 (codeAt ks i) (ks.getD i 0) (placeAt ks i) t u v) ∈ nw
theorem RowsAt.zero {nw : List (Addr × Obj)} {ks : List Int} : RowsAt nw [] ks 0 := ⟨rfl, fun i h => absurd h (Nat.not_lt_zero i)⟩
theorem RowsAt.snoc {nw : List (Addr × Obj)} {vals : List Value} {ks : List Int} {n : Nat} {T : Addr} {t u v : Tok} (R : RowsAt nw vals ks n) : RowsAt ((T, tup3 (codeAt ks n) (ks.getD n 0) (placeAt ks n) t u v) :: nw) (vals ++ [.ref T]) ks (n + 1) := by
  refine ⟨by rw [List.length_append, R.1]; rfl, fun i hi => ?_⟩
  by_cases e : i < n
  · obtain ⟨T', t', u', v', h1, h2⟩ := R.2 i e
    exact ⟨T', t', u', v', by rw [List.getElem?_append_left (by rw [R.1]; exact e)]; exact h1, List.mem_cons_of_mem _ h2⟩
  · have : i = n := by (first | lia | omega)
    subst this
    exact ⟨T, t, u, v, by rw [List.getElem?_append_right (by rw [R.1]; exact Nat.le_refl _), R.1]; simp, List.mem_cons_self ..⟩
theorem RowsAt.up {nw nw' : List (Addr × Obj)} {vals : List Value} {ks : List Int} {n : Nat} (R : RowsAt nw vals ks n) (h : ∀ p ∈ nw, p ∈ nw') : RowsAt nw' vals ks n :=
  ⟨R.1, fun i hi => let ⟨T, t, u, v, a, b⟩ := R.2 i hi; ⟨T, t, u, v, a, h _ b⟩⟩
end Mine
namespace Mine
theorem raisedSN_sub {base G h : Heap} {l : List Env} {e : Addr} {cls : Value} {nw nw' : List (Addr × Obj)} (R : RaisedSN base G l e cls nw h) (hs : ∀ p ∈ nw', p ∈ nw) : RaisedSN base G l e cls nw' h := by
  obtain ⟨B, a0, h1, h2, h3, h4⟩ := R
  exact ⟨B, a0, h1, h2, fun q hq => h3 q (hs q hq), h4⟩
end Mine
namespace Mine
theorem some_int {v : Option Value} {a b : Int} {t : Tok} (e : v = some (.int a t)) (h : a = b) : v = some (.int b t) := h ▸ e
end Mine
namespace Mine
theorem units_under_make (A : Around) (C : Addr) (vals : List Value) : (A.under (.builtin "type.__call__" ⟨.ref C :: vals, []⟩)).units = A.units + 1 := rfl
end Mine
namespace Mine
section
variable {prog : Program} {w : World} {A : Around} {E : Value → Shared → Prop} {s : Shared} {h₀ : Heap} {L : Addr} {m : PySem.Str → Option Value} {nw : List (Addr × Obj)}
theorem tuple_K {l : Addr} {items : Array Value} {n : Nat} {Q : Value → Shared → Prop} (F : Fr h₀ L s.heap m) (N : News h₀ L s.heap nw) (hm : (l, listOf items n) ∈ nw) (hsz : items.size ≤ sizeLine)
    (h : ∀ D h', Fr h₀ L h' m → News h₀ L h' ((D, { cls := .type "tuple", data := .seq items }) :: nw) → (∀ p ∈ nw, p.1 < D) → Q (.ref D) { s with heap := h' }) :
    wpAny (model prog w) A (call (.type "tuple") [.ref l]) Q E s := by
  refine call_tuple_list (PySem.IsL.isList (n := n) (N _ hm).1) (fun h' hk => ?_) hsz
  have F' := F.keeps hk
  have N' : News h₀ L h' nw := N.grown hk
  refine h h'.objs.size _ (F'.push _) (fun p hp => ?_) fun p hp => Heap.lt_size (N' p hp).1
  rcases List.mem_cons.mp hp with rfl | hp
  · exact ⟨Heap.get?_push_size _ rfl, fun e => absurd F'.ns.lt (e ▸ Nat.lt_irrefl _), next_is_new F'⟩
  · exact ⟨Heap.get?_push_of_some _ (N' p hp).1, (N' p hp).2⟩
end
end Mine
namespace Mine
abbrev tupO (us : List Value) : Obj := { cls := .type "tuple", data := .seq us.toArray }
section
variable {prog : Program} {w : World} {A : Around} {E : Value → Shared → Prop} {s : Shared} {h₀ : Heap} {L : Addr} {m : PySem.Str → Option Value} {nw : List (Addr × Obj)}
theorem item_tuple_intsR {value slice : PySem.Expr} {l : Addr} {vs : List Value} {ns : List Int} {k : Int} {u : Tok} {Q : Value → Shared → Prop} (N : News h₀ L s.heap nw) (hm : (l, tupO vs) ∈ nw) (hi : IntsAre vs ns)
    (h0 : 0 ≤ k) (h1 : k < ns.length) (hfit : k < 2 ^ 63) (h : ∀ t, Q (.int (ns.getD k.toNat 0) t) s)
    (hs : subscripted slice false (.ref l) (.int k u) = operate [.ref l, .int k u] (getItem (.ref l) (.int k u)) := by with_unfolding_all rfl) :
    wpAny (model prog w) A (subscriptTail value slice (.ref l) (.int k u)) Q E s := by
  obtain ⟨t, hx⟩ := hi.get k.toNat _ (ints_getD h0 h1)
  exact item_tupleT (j := k.toNat) (News.isTup N hm) (by (first | lia | omega)) hfit (seqIndex_of h0 (by simpa [hi.length] using h1)) hx (h t) hs
end
end Mine
namespace Mine
section
variable {prog : Program} {w : World} {A : Around} {E : Value → Shared → Prop} {s : Shared} {h₀ : Heap} {L : Addr} {m : PySem.Str → Option Value} {nw : List (Addr × Obj)}
theorem len_tup_ints {l : Addr} {vs : List Value} {ns : List Int} {Q : Value → Shared → Prop} (N : News h₀ L s.heap nw) (hm : (l, tupO vs) ∈ nw) (hi : IntsAre vs ns) (hn : ns.length < 1000)
    (h : Q (.int ns.length (s.toks + 1)) { s with toks := s.toks + 1 + 1 }) : wpAny (model prog w) A (call (.builtin "len") [.ref l]) Q E s := by
  have e : vs.toArray.size = ns.length := by simp [hi.length]
  exact len_tuple (News.isTup N hm) (by rw [e]; (first | lia | omega)) (by rw [e]; exact h)
end
end Mine
namespace Mine
def OffX (extra nw : List (Addr × Obj)) : Prop := ∀ p ∈ extra, ∀ q ∈ nw, q.1 < p.1
theorem off_append {d : Addr} {l r : List (Addr × Obj)} (h1 : ∀ p ∈ l, p.1 ≠ d) (h2 : ∀ p ∈ r, p.1 ≠ d) : ∀ p ∈ l ++ r, p.1 ≠ d := fun p hp => (List.mem_append.mp hp).elim (h1 p) (h2 p)
theorem off_extra {d : Addr} {extra nw : List (Addr × Obj)} (h : OffX extra nw) (hd : d ∈ nw.map Prod.fst) : ∀ p ∈ extra, p.1 ≠ d := fun p hp e => by
  obtain ⟨q, hq, rfl⟩ := List.mem_map.mp hd
  exact absurd (h p hp q hq) (e ▸ Nat.lt_irrefl _)
end Mine
end
section
open PySem PySem.W PyProof.Rows PySem.Calls
set_option maxRecDepth 100000
namespace Mine
abbrev tup2 (a b : Int) (t u : Tok) : Obj := { cls := .type "tuple", data := .seq #[.int a t, .int b u] }
theorem getD_nn {ks : List Int} (h : ∀ k ∈ ks, 0 ≤ k ∧ k ≤ 17) (i : Nat) : 0 ≤ ks.getD i 0 ∧ ks.getD i 0 ≤ 17 := by
  rw [List.getD_eq_getElem?_getD]
  cases e : ks[i]? with
  | none => exact ⟨Int.le_refl _, by decide⟩
  | some k => exact h k (List.mem_of_getElem? e)
theorem placeAt_nn {ks : List Int} (h : ∀ k ∈ ks, 0 ≤ k ∧ k ≤ 17) : ∀ i, 0 ≤ placeAt ks i
  | 0 => Int.le_refl _
  | i + 1 => by
    have h1 := placeAt_nn h i
    have h2 := (getD_nn h i).1
    show 0 ≤ placeAt ks i + ks.getD i 0
    (first | lia | omega)
theorem placeAt_mono {ks : List Int} (h : ∀ k ∈ ks, 0 ≤ k ∧ k ≤ 17) {i : Nat} : ∀ {j : Nat}, i ≤ j → placeAt ks i ≤ placeAt ks j
  | 0, hij => by obtain rfl : i = 0 := by (first | lia | omega)
                 exact Int.le_refl _
  | j + 1, hij => by
    by_cases e : i = j + 1
    · rw [e]; exact Int.le_refl _
    · have h1 := placeAt_mono h (i := i) (j := j) (by (first | lia | omega))
      have h2 := (getD_nn h j).1
      show placeAt ks i ≤ placeAt ks j + ks.getD j 0
      (first | lia | omega)
theorem placeAt_take (ks : List Int) : ∀ i, placeAt ks i = (ks.take i).sum
  | 0 => rfl
  | i + 1 => by
    rw [List.take_add_one, List.sum_append, ← placeAt_take ks i]
    show placeAt ks i + ks.getD i 0 = placeAt ks i + _
    rw [List.getD_eq_getElem?_getD]
    cases ks[i]? <;> simp
def CodesAt (ex : List (Addr × Obj)) (kvs : List (Int × Value)) (sy ks : List Int) (n : Int) : Prop :=
  (kvs.length : Int) = n ∧ (∀ q, q < kvs.length → ∃ T, kvs[q]? = some (sy.getD q 0, .ref T)) ∧ ∀ j k : Nat, j < 16 → (k : Int) < ks.getD j 0 → placeAt ks j + k < n →
    ∃ T t u, kvs[(placeAt ks j + k).toNat]? = some (sy.getD (placeAt ks j + k).toNat 0, .ref T) ∧ (T, tup2 (codeAt ks j + k) ((j : Int) + 1) t u) ∈ ex
theorem CodesAt.zero {sy ks : List Int} (h : ∀ k ∈ ks, 0 ≤ k ∧ k ≤ 17) : CodesAt [] [] sy ks 0 := by
  refine ⟨rfl, fun q hq => absurd hq (Nat.not_lt_zero _), fun j k _ _ hk => ?_⟩
  have := placeAt_nn h j
  (first | lia | omega)
theorem codes_at_unique {ks : List Int} (h : ∀ k ∈ ks, 0 ≤ k ∧ k ≤ 17) {i j k l : Nat} (hk : (k : Int) < ks.getD i 0) (hl : (l : Int) < ks.getD j 0) (e : placeAt ks i + k = placeAt ks j + l) : i = j ∧ k = l := by
  have h1 : ¬ i < j := fun hij => by
    have h2 := placeAt_mono h (i := i + 1) (j := j) hij
    have h3 : placeAt ks (i + 1) = placeAt ks i + ks.getD i 0 := rfl
    (first | lia | omega)
  have h2 : ¬ j < i := fun hij => by
    have h2 := placeAt_mono h (i := j + 1) (j := i) hij
    have h3 : placeAt ks (j + 1) = placeAt ks j + ks.getD j 0 := rfl
    (first | lia | omega)
  obtain rfl : i = j := by (first | lia | omega)
  exact ⟨rfl, by (first | lia | omega)⟩
theorem CodesAt.stored {ex : List (Addr × Obj)} {kvs : List (Int × Value)} {sy ks : List Int} {i k : Nat} {T : Addr} (C : CodesAt ex kvs sy ks (placeAt ks i + k)) (hnd : sy.Nodup) (h0 : ∀ k ∈ ks, 0 ≤ k ∧ k ≤ 17) (hn : placeAt ks i + k < sy.length) :
    stored kvs (sy.getD (placeAt ks i + k).toNat 0) (.ref T) = kvs ++ [(sy.getD (placeAt ks i + k).toNat 0, .ref T)] := by
  unfold PySem.stored
  rw [if_neg]
  intro hany
  rw [List.any_eq_true] at hany
  obtain ⟨p, hp, hpk⟩ := hany
  obtain ⟨q, hq, e⟩ := List.getElem_of_mem hp
  obtain ⟨T', hT⟩ := C.2.1 q hq
  rw [List.getElem?_eq_getElem hq, e] at hT
  have hT' := Option.some.inj hT
  have hpk' := of_decide_eq_true hpk
  rw [hT'] at hpk'
  have hlen := C.1
  have hnn := placeAt_nn h0 i
  have hq' : q < sy.length := by (first | lia | omega)
  have hn' : (placeAt ks i + k).toNat < sy.length := by (first | lia | omega)
  simp only [List.getD_eq_getElem?_getD, List.getElem?_eq_getElem hq', List.getElem?_eq_getElem hn', Option.getD_some] at hpk'
  have := (List.getElem_inj hnd (h₀ := hq') (h₁ := hn')).mp hpk'
  (first | lia | omega)
theorem CodesAt.snoc {ex : List (Addr × Obj)} {kvs : List (Int × Value)} {sy ks : List Int} {i k : Nat} {T : Addr} {t u : Tok} (C : CodesAt ex kvs sy ks (placeAt ks i + k)) (h0 : ∀ k ∈ ks, 0 ≤ k ∧ k ≤ 17) (hk : (k : Int) < ks.getD i 0) :
    CodesAt ((T, tup2 (codeAt ks i + k) ((i : Int) + 1) t u) :: ex) (kvs ++ [(sy.getD (placeAt ks i + k).toNat 0, .ref T)]) sy ks (placeAt ks i + (k + 1 : Nat)) := by
  have hnn := placeAt_nn h0 i
  have hl : kvs.length = (placeAt ks i + k).toNat := by have := C.1; (first | lia | omega)
  refine ⟨by rw [List.length_append]; have := C.1; simp only [List.length_singleton]; (first | lia | omega), fun q hq => ?_, fun j l hj hl' hn => ?_⟩
  · rw [List.length_append, List.length_singleton] at hq
    by_cases e : q < kvs.length
    · obtain ⟨T', hT⟩ := C.2.1 q e
      exact ⟨T', by rw [List.getElem?_append_left e]; exact hT⟩
    · obtain rfl : q = kvs.length := by (first | lia | omega)
      exact ⟨T, by rw [List.getElem?_append_right (Nat.le_refl _), hl]; simp⟩
  · by_cases e : placeAt ks j + l < placeAt ks i + k
    · obtain ⟨T', t', u', h1, h2⟩ := C.2.2 j l hj hl' e
      have := placeAt_nn h0 j
      exact ⟨T', t', u', by rw [List.getElem?_append_left (by (first | lia | omega))]; exact h1, List.mem_cons_of_mem _ h2⟩
    · have e' : placeAt ks j + l = placeAt ks i + k := by (first | lia | omega)
      obtain ⟨rfl, rfl⟩ := codes_at_unique h0 hl' hk e'
      exact ⟨T, t, u, by rw [List.getElem?_append_right (by (first | lia | omega)), hl]; simp, List.mem_cons_self ..⟩
theorem CodesAt.cast {ex : List (Addr × Obj)} {kvs : List (Int × Value)} {sy ks : List Int} {n n' : Int} (C : CodesAt ex kvs sy ks n) (h : n = n') : CodesAt ex kvs sy ks n' := h ▸ C
theorem range_up {y : Int} (h3 : 0 ≤ y) (h4 : y ≤ 17) : Builtin.Range.small 0 y 1 = true ∧ Builtin.Range.rangeSize 0 y 1 = ((y.toNat : Nat) : Int) := by
  obtain ⟨n, rfl⟩ : ∃ n : Nat, y = (n : Int) := ⟨y.toNat, by (first | lia | omega)⟩
  have h : ∀ n : Fin 18, Builtin.Range.small 0 ((n.val : Nat) : Int) 1 = true ∧ Builtin.Range.rangeSize 0 ((n.val : Nat) : Int) 1 = ((((n.val : Nat) : Int).toNat : Nat) : Int) := by decide
  exact h ⟨n, by (first | lia | omega)⟩
end Mine
end
section
open PySem PySem.W PyProof.Rows PySem.Calls
set_option maxRecDepth 100000
namespace Mine
section
variable {prog : Program} {w : World} {A₀ A : Around} {s : Shared} {base h₀ g₀ : Heap} {outer : List Env} {L a : Addr} {m : PySem.Str → Option Value} {env : Env} {news : List (Addr × Obj)} {K : Frag} {p : Program} {loose : List PySem.Str} {mean : ExcName → Option Value} {mg mb : PySem.Str → Option Value}
    {R : Result → Shared → Prop} {name qual : PySem.Str} {params : Arguments} {body : List Stmt} {scope : Scope} {dV kV doc pm cdv ct oc : Value} {an od : Option Addr} {osl : Array (Option Value)} {f : Addr} {args : Args} {binds : List (PySem.Str × Value)}
theorem mem_fs {env : Env} {L b : Addr} {outer : List Env} (hf : env.frame = some L) (hm : b ∈ (env :: outer).filterMap (·.frame)) : b = L ∨ b ∈ outer.filterMap (·.frame) := by
  obtain ⟨env', he, hf'⟩ := List.mem_filterMap.mp hm
  rcases List.mem_cons.mp he with rfl | he
  · exact .inl (Option.some.inj (hf'.symm.trans hf))
  · exact .inr (List.mem_filterMap.mpr ⟨env', he, hf'⟩)
theorem groundS (B : Below A₀ base outer h₀) (F : Fr h₀ L s.heap m) (N : News h₀ L s.heap news) (XB : K.In base) (TB : Top p loose mean mg mb base) (D : KtsDicts (outer.filterMap (·.frame)) h₀)
    (T0 : KtsTurn (outer.filterMap (·.frame)) g₀ h₀) (hA : A.frames = some (env :: outer)) (hf : env.frame = some L) (hke : env.scope.kind = .function) :
    Fr h₀ L (hideAll s.heap (news.map (·.1))) m ∧ Below A base (env :: outer) (hideAll s.heap (news.map (·.1))) ∧ h₀.StaysIn (hideAll s.heap (news.map (·.1))) ∧ KtsDicts ((env :: outer).filterMap (·.frame)) (hideAll s.heap (news.map (·.1))) ∧
      ∀ v s', LeaveS ((env :: outer).filterMap (·.frame)) A₀ base outer K p loose mean mg mb g₀ h₀ L m (hideAll s.heap (news.map (·.1))) R v s' → R (.ok (.ret v)) s' := by
  obtain ⟨FG, BG, st, _⟩ := groundX (R := R) B F N hA hf hke
  obtain ⟨oL, es, ep, hLg, hLd, hLk, hLf⟩ := FG.ns
  refine ⟨FG, BG, st, fun b hb => ?_, fun v s' hl => ?_⟩
  · rcases mem_fs hf hb with rfl | hb
    · exact ⟨oL, es, ep, hLg, hLd⟩
    · obtain ⟨o, es', n', ho', hd'⟩ := D b hb
      exact ⟨o, es', n', st b o ho', hd'⟩
  have nL₀ : h₀.get? L = none := kts_self F
  rcases hl with ⟨L', m', news', F', N', k⟩ | ⟨g', L', m', news', T', F', N', k⟩
  · refine k ⟨⟨oL, es, ep, F'.keep _ _ hLg, hLd, hLk, hLf⟩, fun b o e => F'.keep b o (st b o e), F.above⟩ fun p hp => ⟨(N' p hp).1, fun q => ?_, ?_⟩
    · have := (N' p hp).2.2; rw [q, hLg] at this; cases this
    · cases q : h₀.get? p.1 with
      | none => rfl
      | some o => have := (N' p hp).2.2; rw [st _ _ q] at this; cases this
  obtain ⟨sl, hs⟩ := T'.up hLg
  obtain ⟨T₁, S₁⟩ := kts_turn_at (h := s'.heap) (fs := outer.filterMap (·.frame)) (g := h₀)
    (fun b hb => by
      obtain ⟨_, o, ho', _⟩ := B.frames.mem hb
      exact ⟨o, ho'⟩)
    (fun b o e nmem => F'.keep b o (T'.other b o (st b o e) (fun q => by
      rcases mem_fs hf q with z | z
      · rw [z, nL₀] at e
        cases e
      · exact nmem z)))
    (fun b o e hm => by
      obtain ⟨sl', hs'⟩ := T'.up (st b o e)
      exact ⟨sl', F'.keep _ _ hs'⟩)
  have B₃ : Below A₀ base outer (ktsHeap s'.heap (outer.filterMap (·.frame)) h₀) := ⟨B.stack, fun b o e => T₁.other b o (B.stays b o e) (fun hm => by
    rw [(B.frames.mem hm).1] at e
    cases e), B.frames.of_keeps fun b o e _ => by
    obtain ⟨sl', hs'⟩ := T₁.up e
    exact ⟨_, hs', rfl⟩⟩
  refine k _ (T0.trans T₁) ⟨⟨_, es, ep, F'.keep _ _ hs, hLd, hLk, hLf⟩, S₁, by rw [T₁.size]; exact F.above⟩ (fun p hp => ⟨(N' p hp).1, fun q => ?_, ?_⟩) B₃ (XB.keeps B₃.stays) (TB.keeps B₃.stays) (D.turn T₁)
  · have := (N' p hp).2.2; rw [q, hs] at this; cases this
  · refine T₁.none_ _ ?_
    cases q : h₀.get? p.1 with
    | none => rfl
    | some o =>
      obtain ⟨sl', hs'⟩ := T'.up (st _ _ q)
      have := (N' p hp).2.2
      rw [hs'] at this
      cases this
theorem code_plainS (B : Below A₀ base outer h₀) (F : Fr h₀ L s.heap m) (X₀ : K.In h₀) (N : News h₀ L s.heap news) (T : Top p loose mean mg mb h₀) (XB : K.In base) (TB : Top p loose mean mg mb base) (D : KtsDicts (outer.filterMap (·.frame)) h₀)
    (T0 : KtsTurn (outer.filterMap (·.frame)) g₀ h₀) (hA : A.frames = some (env :: outer)) (hf : env.frame = some L) (hke : env.scope.kind = .function)
    (ho : K.lookup f = some ⟨oc, od, .func (fnOf name qual params body scope dV kV doc pm an cdv ct), osl⟩) (hcd : codeIn K cdv qual = true) (hroom : A.depth < recursionLimit)
    (hbind : BindsTo s (fnOf name qual params body scope dV kV doc pm an cdv ct) args binds) (hloc : ∀ y ∈ binds, scope.names.lookup y.1 = some .local)
    (h : ∀ g L' h₁, Fr h₀ L g m → Fr g L' h₁ (fun y => binds.reverse.lookup y) → News g L' h₁ news → Below A base (env :: outer) g → K.In g → Top p loose mean mg mb g → KtsDicts ((env :: outer).filterMap (·.frame)) g →
      wpAny (model prog w) (A.deeper (envOf qual scope L' f cdv)) (execs body (envOf qual scope L' f cdv))
        (fun fl s' => LeaveS ((env :: outer).filterMap (·.frame)) A₀ base outer K p loose mean mg mb g₀ h₀ L m g R (match fl with | .ret v => v | _ => .none) s')
        (fun e s' => wpAny (model prog w) (A.deeper (envOf qual scope L' f cdv)) (leaving (envOf qual scope L' f cdv) e) (fun _ s'' => R (.error e) s'') (fun e' s'' => R (.error e') s'') s')
        { s with heap := h₁, toks := s.toks + binds.length })
    (hco : scope.isCoroutine = false) (hgen : scope.isGenerator = false) (hk : scope.kind = .function)
    (hcell : ∀ x ∈ scope.names, x.2 ≠ .cell) : codeAny (model prog w) A (.call (.ref f) args) R s := by
  have X := X₀.keeps F.keep
  obtain ⟨FG, BG, st, D', lv⟩ := groundS (R := R) B F N XB TB D T0 hA hf hke
  refine codeAny_call_def (fd := fnOf name qual params body scope dV kV doc pm an cdv ct) (body := body) (binds := binds) hroom (X _ _ ho) rfl (T.nolimit.keeps F.keep) (codeRec_of X hcd) rfl hbind hcell hloc (fun h₁ hns hk₁ => ?_) hco hgen hk
  exact wpAny_mono (h _ s.heap.objs.size h₁ FG ⟨hns, fun b o e => hk₁ b o (of_hideAll _ e), Nat.le_of_eq (hideAll_size _ _)⟩
    (fun p hp => ⟨hk₁ _ _ (N p hp).1, Nat.ne_of_lt (Heap.lt_size (N p hp).1), hideAll_none _ (List.mem_map_of_mem hp)⟩) BG (X₀.keeps st) (T.keeps st) D') (fun fl s' hl => lv _ _ hl) fun _ _ y => y
end
end Mine
end
section
open PySem PySem.W PyProof.Rows PySem.Calls
namespace Mine
theorem bitsL_getElem (x : Int) {y j : Nat} (h : j < y) : (bitsL x y)[j]? = some ((x / 2 ^ (y - 1 - j)) % 2).toNat := by
  unfold bitsL
  rw [List.getElem?_map, List.getElem?_range h]; rfl
end Mine
end
section
open PySem PySem.W PyProof.Rows PySem.Calls
set_option maxRecDepth 100000
namespace Mine
structure TS where
  doms : List (Nat × Int)
  A : Nat → Int → Addr
  ch : Nat → Int → Nat → Value
def TS.obj (t : TS) (j : Nat) (x : Int) : Obj := listOf #[t.ch j x 0, t.ch j x 1] 0
def TS.In (t : TS) (nw : List (Addr × Obj)) : Prop := ∀ p ∈ t.doms, (t.A p.1 p.2, t.obj p.1 p.2) ∈ nw
/-- what the children of the nodes above depth s are, by the number c of the next code of s bits -/
structure WayOk (t : TS) (s : Nat) (c : Int) : Prop where
  free : ∀ j x (b : Nat), (j, x) ∈ t.doms → j < s → b < 2 → c ≤ (2 * x + b) * 2 ^ (s - j - 1) → t.ch j x b = .none
  taken : ∀ j x (b : Nat), (j, x) ∈ t.doms → j < s → b < 2 → (2 * x + b) * 2 ^ (s - j - 1) < c →
    (∃ v u, t.ch j x b = .int v u ∧ (2 * x + b + 1) * 2 ^ (s - j - 1) ≤ c) ∨ ((j + 1, 2 * x + b) ∈ t.doms ∧ t.ch j x b = .ref (t.A (j + 1) (2 * x + b)))
theorem TS.In.up {t : TS} {nw nw' : List (Addr × Obj)} (h : t.In nw) (hs : ∀ p ∈ nw, p ∈ nw') : t.In nw' := fun p hp => hs _ (h p hp)
theorem TS.item {t : TS} {j : Nat} {x : Int} {b : Nat} (h : b < 2) : (#[t.ch j x 0, t.ch j x 1] : Array Value)[((b : Nat) : Int).toNat]? = some (t.ch j x b) := by
  have : b = 0 ∨ b = 1 := by (first | lia | omega)
  rcases this with rfl | rfl <;> rfl
def bitI (x : Int) (y : Nat) : List Int := (bitsL x y).map fun (d : Nat) => (d : Int)
theorem bitI_length (x : Int) (y : Nat) : (bitI x y).length = y := by simp [bitI, bitsL_length]
theorem bitI_cons (c : Int) (y : Nat) : bitI c (y + 1) = (c / 2 ^ y) % 2 :: bitI c y := by
  unfold bitI bitsL
  rw [List.range_succ_eq_map, List.map_cons, List.map_map, List.map_cons, List.map_map]
  congr 1
  · have : 0 ≤ (c / 2 ^ y) % 2 := Int.emod_nonneg _ (by decide)
    show ((((c / 2 ^ (y + 1 - 1 - 0)) % 2).toNat : Nat) : Int) = _
    rw [show y + 1 - 1 - 0 = y by (first | lia | omega)]
    (first | lia | omega)
  · rw [List.map_map]
    apply List.map_congr_left
    intro k hk
    rw [List.mem_range] at hk
    show ((((c / 2 ^ (y + 1 - 1 - (k + 1))) % 2).toNat : Nat) : Int) = (((c / 2 ^ (y - 1 - k)) % 2).toNat : Int)
    rw [show y + 1 - 1 - (k + 1) = y - 1 - k by (first | lia | omega)]
theorem bitI_zeros : ∀ (y : Nat) (m : Int), bitI (m * 2 ^ y) y = List.replicate y 0
  | 0, m => rfl
  | y + 1, m => by
    rw [bitI_cons, List.replicate_succ]
    have e : m * 2 ^ (y + 1) = (m * 2) * 2 ^ y := by rw [Int.pow_succ', Int.mul_assoc]
    rw [e, Int.mul_ediv_cancel _ (Int.ne_of_gt (Int.pow_pos (by decide))), bitI_zeros y (m * 2)]
    congr 1
    (first | lia | omega)
/-- the free child -/
theorem bitI_free {c x : Int} {y b : Nat} (hb : b < 2) (h : c = (2 * x + b) * 2 ^ y) : bitI c (y + 1) = (b : Int) :: List.replicate y 0 := by
  rw [bitI_cons, h, bitI_zeros, Int.mul_ediv_cancel _ (Int.ne_of_gt (Int.pow_pos (by decide)))]
  congr 1
  (first | lia | omega)
/-- the child that is taken in part -/
theorem bitI_part {c x : Int} {y b : Nat} (hb : b < 2) (h1 : (2 * x + b) * 2 ^ y ≤ c) (h2 : c < (2 * x + b + 1) * 2 ^ y) : bitI c (y + 1) = (b : Int) :: bitI c y := by
  rw [bitI_cons]
  have hp : (0 : Int) < 2 ^ y := Int.pow_pos (by decide)
  have e : c / 2 ^ y = 2 * x + b := by
    have a1 := (Int.le_ediv_iff_mul_le hp).mpr h1
    have a2 := (Int.ediv_lt_iff_lt_mul hp).mpr h2
    (first | lia | omega)
  rw [e]
  congr 1
  (first | lia | omega)
end Mine
end
section
open PySem PySem.W PyProof.Rows PySem.Calls
namespace Mine
def wt (x : Int) : Int := 2 ^ (16 - x).toNat
def usum (ss : List Int) (k : Nat) : Int := ((ss.take k).map wt).sum
def ltN (ss : List Int) (i : Nat) : Nat := (ss.filter fun x => decide (x < (i : Int) + 1)).length
def eqN (ss : List Int) (i : Nat) : Nat := (ss.filter fun x => decide (x = (i : Int) + 1)).length
def wsum (ss : List Int) (i : Nat) : Int := ((ss.filter fun x => decide (x < (i : Int) + 1)).map wt).sum
structure Sizes (ss ks : List Int) : Prop where
  sorted : ss.Pairwise (· ≤ ·)
  range : ∀ x ∈ ss, 1 ≤ x ∧ x ≤ 16
  len : ss.length ≤ 17
  klen : ks.length = 16
  count : ∀ i < 16, ks.getD i 0 = (eqN ss i : Int)
theorem ltN_succ (ss : List Int) (i : Nat) : ltN ss (i + 1) = ltN ss i + eqN ss i := by
  unfold ltN eqN
  induction ss with
  | nil => rfl
  | cons a r ih =>
    simp only [List.filter_cons]
    by_cases h1 : a < (i : Int) + 1
    · rw [decide_eq_true h1, decide_eq_true (show a < ((i + 1 : Nat) : Int) + 1 by (first | lia | omega)), decide_eq_false (show ¬ a = (i : Int) + 1 by (first | lia | omega))]
      simp only [if_true, Bool.false_eq_true, if_false, List.length_cons, ih]; (first | lia | omega)
    · by_cases h2 : a = (i : Int) + 1
      · rw [decide_eq_false h1, decide_eq_true (show a < ((i + 1 : Nat) : Int) + 1 by (first | lia | omega)), decide_eq_true h2]
        simp only [if_true, Bool.false_eq_true, if_false, List.length_cons, ih]; (first | lia | omega)
      · rw [decide_eq_false h1, decide_eq_false (show ¬ a < ((i + 1 : Nat) : Int) + 1 by (first | lia | omega)), decide_eq_false h2]
        simp only [Bool.false_eq_true, if_false, ih]
theorem wsum_succ (ss : List Int) (i : Nat) : wsum ss (i + 1) = wsum ss i + eqN ss i * wt (i + 1) := by
  unfold wsum eqN
  induction ss with
  | nil => simp
  | cons a r ih =>
    simp only [List.filter_cons]
    by_cases h1 : a < (i : Int) + 1
    · simp only [h1, show a < ((i + 1 : Nat) : Int) + 1 by (first | lia | omega), show ¬ a = (i : Int) + 1 by (first | lia | omega), decide_true, decide_false, if_true, Bool.false_eq_true, if_false, List.map_cons, List.sum_cons, ih]; (first | lia | omega)
    · by_cases h2 : a = (i : Int) + 1
      · have e : wt a = wt (i + 1) := by rw [h2]
        simp only [h1, show a < ((i + 1 : Nat) : Int) + 1 by (first | lia | omega), decide_true, decide_false, if_true, Bool.false_eq_true, if_false, List.map_cons, List.sum_cons, ih]
        rw [decide_eq_true h2]
        simp only [if_true, List.length_cons]
        rw [e]
        have : (((r.filter fun x => decide (x = (i : Int) + 1)).length + 1 : Nat) : Int) = ((r.filter fun x => decide (x = (i : Int) + 1)).length : Int) + 1 := by (first | lia | omega)
        rw [this, Int.add_mul]; (first | lia | omega)
      · simp only [h1, h2, show ¬ a < ((i + 1 : Nat) : Int) + 1 by (first | lia | omega), decide_true, decide_false, if_true, Bool.false_eq_true, if_false, ih]
theorem split3 {ss : List Int} (h : ss.Pairwise (· ≤ ·)) (c : Int) : ss = (ss.filter fun x => decide (x < c)) ++ (ss.filter fun x => decide (x = c)) ++ (ss.filter fun x => decide (c < x)) := by
  induction ss with
  | nil => rfl
  | cons a r ih =>
    obtain ⟨h1, h2⟩ := List.pairwise_cons.mp h
    have ih' := ih h2
    simp only [List.filter_cons]
    by_cases q1 : a < c
    · rw [decide_eq_true q1, decide_eq_false (show ¬ a = c by (first | lia | omega)), decide_eq_false (show ¬ c < a by (first | lia | omega))]
      simp only [if_true, Bool.false_eq_true, if_false, List.cons_append]
      rw [← ih']
    · have e1 : r.filter (fun x => decide (x < c)) = [] := List.filter_eq_nil_iff.mpr fun x hx => by
        have := h1 x hx
        simp; (first | lia | omega)
      rw [e1] at ih' ⊢
      by_cases q2 : a = c
      · rw [decide_eq_false q1, decide_eq_true q2, decide_eq_false (show ¬ c < a by (first | lia | omega))]
        simp only [if_true, Bool.false_eq_true, if_false, List.nil_append, List.cons_append] at ih' ⊢
        rw [← ih']
      · have e2 : r.filter (fun x => decide (x = c)) = [] := List.filter_eq_nil_iff.mpr fun x hx => by
          have := h1 x hx
          simp; (first | lia | omega)
        rw [e2] at ih' ⊢
        rw [decide_eq_false q1, decide_eq_false q2, decide_eq_true (show c < a by (first | lia | omega))]
        simp only [if_true, Bool.false_eq_true, if_false, List.nil_append, List.cons_append] at ih' ⊢
        rw [← ih']
theorem filter_const (ss : List Int) (c : Int) : (ss.filter fun x => decide (x = c)) = List.replicate (ss.filter fun x => decide (x = c)).length c :=
  List.eq_replicate_of_mem fun x hx => by simpa using (List.mem_filter.mp hx).2
theorem sum_replicate' (n : Nat) (c : Int) : (List.replicate n c).sum = n * c := by
  induction n with
  | zero => simp
  | succ n ih => rw [List.replicate_succ, List.sum_cons, ih]; have : ((n + 1 : Nat) : Int) = (n : Int) + 1 := by (first | lia | omega)
                 rw [this, Int.add_mul]; (first | lia | omega)
theorem wt_pos (x : Int) : 0 < wt x := Int.pow_pos (by decide)
section
variable {ss ks : List Int} (S : Sizes ss ks)
include S
theorem placeAt_eq : ∀ {i : Nat}, i ≤ 16 → placeAt ks i = (ltN ss i : Int)
  | 0, _ => by
    have : (ss.filter fun x => decide (x < ((0 : Nat) : Int) + 1)) = [] := List.filter_eq_nil_iff.mpr fun x hx => by
      have := (S.range x hx).1
      simp; (first | lia | omega)
    show (0 : Int) = ((ss.filter fun x => decide (x < ((0 : Nat) : Int) + 1)).length : Int)
    rw [this]; rfl
  | i + 1, h => by
    show placeAt ks i + ks.getD i 0 = _
    rw [placeAt_eq (by (first | lia | omega)), S.count i (by (first | lia | omega)), ltN_succ]; (first | lia | omega)
theorem codeAt_w : ∀ {i : Nat}, i ≤ 15 → codeAt ks i * 2 ^ (15 - i) = wsum ss i
  | 0, _ => by
    have : (ss.filter fun x => decide (x < ((0 : Nat) : Int) + 1)) = [] := List.filter_eq_nil_iff.mpr fun x hx => by
      have := (S.range x hx).1
      simp; (first | lia | omega)
    show (0 : Int) * _ = ((ss.filter fun x => decide (x < ((0 : Nat) : Int) + 1)).map wt).sum
    rw [this]; simp
  | i + 1, h => by
    rw [wsum_succ, ← codeAt_w (i := i) (by (first | lia | omega))]
    show (codeAt ks i + ks.getD i 0) * 2 * 2 ^ (15 - (i + 1)) = _
    rw [S.count i (by (first | lia | omega)), Int.mul_assoc, ← Int.pow_succ', show 15 - (i + 1) + 1 = 15 - i by (first | lia | omega), Int.add_mul]
    unfold wt
    rw [show (16 - ((i : Int) + 1)).toNat = 15 - i by (first | lia | omega)]
theorem eqN_pos {i : Nat} (h : 0 < eqN ss i) : i ≤ 15 := by
  obtain ⟨x, hx⟩ := List.exists_mem_of_length_pos h
  have h1 := List.mem_filter.mp hx
  have h2 := S.range x h1.1
  have h3 : x = (i : Int) + 1 := by simpa using h1.2
  (first | lia | omega)
theorem at_split (i : Nat) : ss = (ss.filter fun x => decide (x < (i : Int) + 1)) ++ List.replicate (eqN ss i) ((i : Int) + 1) ++ (ss.filter fun x => decide ((i : Int) + 1 < x)) := by
  have := split3 S.sorted ((i : Int) + 1)
  rw [filter_const] at this
  exact this
theorem lt_eq_le (i : Nat) : ltN ss i + eqN ss i ≤ ss.length := by
  have := congrArg List.length (at_split S i)
  simp only [List.length_append, List.length_replicate] at this
  unfold ltN
  (first | lia | omega)
theorem at_place {i q : Nat} (h : q < eqN ss i) : ss[ltN ss i + q]? = some ((i : Int) + 1) := by
  have e : ltN ss i = (ss.filter fun x => decide (x < (i : Int) + 1)).length := rfl
  generalize ltN ss i = n at e ⊢
  rw [at_split S i, List.append_assoc, e, List.getElem?_append_right (by (first | lia | omega)), List.getElem?_append_left (by rw [List.length_replicate]; (first | lia | omega)), Nat.add_sub_cancel_left, List.getElem?_replicate, if_pos h]
theorem usum_at {i q : Nat} (h : q ≤ eqN ss i) : usum ss (ltN ss i + q) = wsum ss i + q * wt (i + 1) := by
  have e : ss.take (ltN ss i + q) = (ss.filter fun x => decide (x < (i : Int) + 1)) ++ List.replicate q ((i : Int) + 1) := by
    have e : ltN ss i = (ss.filter fun x => decide (x < (i : Int) + 1)).length := rfl
    generalize ltN ss i = n at e ⊢
    conv => lhs; rw [at_split S i]
    rw [List.append_assoc, e, List.take_length_add_append, List.take_append_of_le_length (by rw [List.length_replicate]; (first | lia | omega)), List.take_replicate, Nat.min_eq_left h]
  unfold usum wsum
  rw [e, List.map_append, List.sum_append, List.map_replicate, sum_replicate']
theorem find_place {k : Nat} (h : k < ss.length) : ∃ i q : Nat, i ≤ 15 ∧ q < eqN ss i ∧ k = ltN ss i + q ∧ ss.getD k 0 = (i : Int) + 1 := by
  have hx := S.range ss[k] (List.getElem_mem h)
  obtain ⟨i, hi⟩ : ∃ i : Nat, ss[k] = (i : Int) + 1 := ⟨(ss[k] - 1).toNat, by (first | lia | omega)⟩
  have e0 : ss[k]? = some ((i : Int) + 1) := by rw [List.getElem?_eq_getElem h, hi]
  have e1 := e0
  rw [at_split S i, List.append_assoc] at e1
  have e : ltN ss i = (ss.filter fun x => decide (x < (i : Int) + 1)).length := rfl
  have hk : ltN ss i ≤ k := by
    apply Nat.le_of_not_lt
    intro hlt
    rw [List.getElem?_append_left (by (first | lia | omega))] at e1
    have := (List.mem_filter.mp (List.mem_of_getElem? e1)).2
    simp at this
  rw [List.getElem?_append_right (by (first | lia | omega))] at e1
  have hq : k - ltN ss i < eqN ss i := by
    apply Nat.lt_of_not_le
    intro hle
    rw [List.getElem?_append_right (by rw [List.length_replicate]; (first | lia | omega))] at e1
    have := (List.mem_filter.mp (List.mem_of_getElem? e1)).2
    simp at this
  exact ⟨i, k - ltN ss i, by (first | lia | omega), hq, by (first | lia | omega), by rw [List.getD_eq_getElem?_getD, e0]; rfl⟩
/-- the code of the k-th size -/
theorem code_at {i q : Nat} (hi : i ≤ 15) (h : q < eqN ss i) : usum ss (ltN ss i + q) = (codeAt ks i + q) * 2 ^ (15 - i) ∧ usum ss (ltN ss i + q + 1) = (codeAt ks i + q + 1) * 2 ^ (15 - i) := by
  have e : wt ((i : Int) + 1) = 2 ^ (15 - i) := by unfold wt; rw [show (16 - ((i : Int) + 1)).toNat = 15 - i by (first | lia | omega)]
  have h2 := usum_at S (i := i) (q := q + 1) h
  rw [usum_at S (Nat.le_of_lt h), show ltN ss i + q + 1 = ltN ss i + (q + 1) by (first | lia | omega), h2, ← codeAt_w S hi, e]
  have : ((q + 1 : Nat) : Int) = (q : Int) + 1 := by (first | lia | omega)
  rw [this, ← Int.add_mul, Int.add_assoc, ← Int.add_mul]
  exact ⟨rfl, rfl⟩
end
theorem usum_mono_step (ss : List Int) (k : Nat) : usum ss k ≤ usum ss (k + 1) := by
  unfold usum
  rw [List.take_add_one, List.map_append, List.sum_append]
  cases h : ss[k]? with
  | none => simp
  | some x => have := wt_pos x; simp; (first | lia | omega)
theorem usum_mono (ss : List Int) {j k : Nat} (h : j ≤ k) : usum ss j ≤ usum ss k := by
  induction k with
  | zero => rw [Nat.le_zero.mp h]; exact Int.le_refl _
  | succ k ih =>
    rcases Nat.lt_or_ge k j with h1 | h1
    · rw [show j = k + 1 by (first | lia | omega)]; exact Int.le_refl _
    · exact Int.le_trans (ih h1) (usum_mono_step ss k)
def cdOf (ss : List Int) (k : Nat) : Int := usum ss k / wt (ss.getD k 0)
section
variable {ss ks : List Int} (S : Sizes ss ks)
include S
theorem cdOf_at {i q : Nat} (hi : i ≤ 15) (h : q < eqN ss i) : cdOf ss (ltN ss i + q) = codeAt ks i + q := by
  unfold cdOf
  rw [List.getD_eq_getElem?_getD, at_place S h, (code_at S hi h).1, Option.getD_some]
  unfold wt
  rw [show (16 - ((i : Int) + 1)).toNat = 15 - i by (first | lia | omega), Int.mul_ediv_cancel _ (Int.ne_of_gt (Int.pow_pos (by decide)))]
theorem cdOf_mul {k : Nat} (h : k < ss.length) : cdOf ss k * wt (ss.getD k 0) = usum ss k ∧ (cdOf ss k + 1) * wt (ss.getD k 0) = usum ss (k + 1) := by
  obtain ⟨i, q, hi, hq, rfl, e⟩ := find_place S h
  rw [cdOf_at S hi hq, e, (code_at S hi hq).1, (code_at S hi hq).2]
  unfold wt
  rw [show (16 - ((i : Int) + 1)).toNat = 15 - i by (first | lia | omega)]
  exact ⟨rfl, rfl⟩
omit S in
theorem cdOf_nn {k : Nat} : 0 ≤ cdOf ss k := by
  unfold cdOf
  refine Int.ediv_nonneg ?_ (Int.le_of_lt (wt_pos _))
  have := usum_mono ss (Nat.zero_le k)
  simpa [usum] using this
theorem cdOf_lt (hU : usum ss ss.length < 65536) {k : Nat} (h : k < ss.length) : cdOf ss k < 2 ^ (ss.getD k 0).toNat := by
  have h1 := (cdOf_mul S h).2
  have h2 := usum_mono ss (show k + 1 ≤ ss.length by (first | lia | omega))
  have hx := S.range (ss.getD k 0) (by rw [List.getD_eq_getElem?_getD, List.getElem?_eq_getElem h]; exact List.getElem_mem h)
  generalize ss.getD k 0 = x at h1 hx ⊢
  have : (65536 : Int) = 2 ^ x.toNat * wt x := by
    unfold wt
    rw [← Int.pow_add, show x.toNat + (16 - x).toNat = 16 by (first | lia | omega)]; rfl
  have h3 : (cdOf ss k + 1) * wt x < 2 ^ x.toNat * wt x := by (first | lia | omega)
  have h4 := Int.lt_of_mul_lt_mul_right h3 (Int.le_of_lt (wt_pos x))
  (first | lia | omega)
theorem wsum_le (i : Nat) : wsum ss i ≤ usum ss ss.length := by
  have h := usum_at S (i := i) (q := 0) (Nat.zero_le _)
  have h2 := usum_mono ss (show ltN ss i + 0 ≤ ss.length by have := lt_eq_le S i; (first | lia | omega))
  simp at h h2
  (first | lia | omega)
theorem ok_of (hU : usum ss ss.length < 65536) {i : Nat} (h : i < 16) : okAt ks i := by
  rintro ⟨h1, h2⟩
  rw [S.count i h] at h1 h2
  have hi := eqN_pos S (i := i) (by (first | lia | omega))
  have h3 : (codeAt ks i + eqN ss i) * 2 ^ (15 - i) = wsum ss (i + 1) := by
    rw [wsum_succ, ← codeAt_w S hi, Int.add_mul]
    unfold wt
    rw [show (16 - ((i : Int) + 1)).toNat = 15 - i by (first | lia | omega)]
  have h4 := wsum_le S (i + 1)
  have h5 : (2 : Int) ^ (i + 1) * 2 ^ (15 - i) ≤ (codeAt ks i + eqN ss i) * 2 ^ (15 - i) := Int.mul_le_mul_of_nonneg_right h1 (Int.le_of_lt (Int.pow_pos (by decide)))
  rw [← Int.pow_add, show i + 1 + (15 - i) = 16 by (first | lia | omega)] at h5
  (first | lia | omega)
end
end Mine
end
section
open PySem PySem.W PyProof.Rows PySem.Calls
set_option maxRecDepth 100000
namespace Mine
def sz (ss : List Int) (i : Nat) : Nat := (ss.getD i 0).toNat
def isNode (ss : List Int) (k : Nat) (j : Nat) (x : Int) : Prop := (j = 0 ∧ x = 0) ∨ ∃ i, i < k ∧ j < sz ss i ∧ cdOf ss i / 2 ^ (sz ss i - j) = x
structure Tree (P : Nat → Int → Prop) (ss sy : List Int) (k : Nat) (t : TS) : Prop where
  nodes : ∀ j x, (j, x) ∈ t.doms ↔ P j x
  inj : ∀ p ∈ t.doms, ∀ q ∈ t.doms, t.A p.1 p.2 = t.A q.1 q.2 → p = q
  leaf : ∀ j x (b i : Nat), (j, x) ∈ t.doms → b < 2 → i < k → sz ss i = j + 1 → cdOf ss i = 2 * x + b → ∃ u, t.ch j x b = .int (sy.getD i 0) u
  node : ∀ j x (b : Nat), (j, x) ∈ t.doms → b < 2 → (j + 1, 2 * x + (b : Int)) ∈ t.doms → t.ch j x b = .ref (t.A (j + 1) (2 * x + b))
  free : ∀ j x (b : Nat), (j, x) ∈ t.doms → b < 2 → (j + 1, 2 * x + (b : Int)) ∉ t.doms → (∀ i, i < k → ¬ (sz ss i = j + 1 ∧ cdOf ss i = 2 * x + b)) → t.ch j x b = .none
abbrev Canon (ss sy : List Int) (k : Nat) (t : TS) : Prop := Tree (isNode ss k) ss sy k t
abbrev Mid (ss sy : List Int) (k i : Nat) (t : TS) : Prop := Tree (fun j x => isNode ss k j x ∨ (j ≤ i ∧ cdOf ss k / 2 ^ (sz ss k - j) = x)) ss sy k t
def TS.start (a : Addr) : TS := ⟨[(0, 0)], fun _ _ => a, fun _ _ _ => .none⟩
def TS.setc (t : TS) (j : Nat) (x : Int) (b : Nat) (v : Value) : TS := { t with ch := fun j' x' b' => if j' = j ∧ x' = x ∧ b' = b then v else t.ch j' x' b' }
def TS.addn (t : TS) (j : Nat) (x : Int) (a : Addr) : TS := ⟨(j, x) :: t.doms, fun j' x' => if j' = j ∧ x' = x then a else t.A j' x', fun j' x' b' => if j' = j ∧ x' = x then .none else t.ch j' x' b'⟩
theorem canon_start (ss sy : List Int) (a : Addr) : Canon ss sy 0 (TS.start a) := by
  refine ⟨fun j x => ?_, fun p hp q hq _ => ?_, fun j x b i _ _ hi => absurd hi (Nat.not_lt_zero _), fun j x b h _ h2 => ?_, fun _ _ _ _ _ _ _ => rfl⟩
  · show (j, x) ∈ [((0 : Nat), (0 : Int))] ↔ _
    rw [List.mem_singleton]
    constructor
    · intro h; injection h with h1 h2; exact .inl ⟨h1, h2⟩
    · rintro (⟨rfl, rfl⟩ | ⟨i, hi, _⟩)
      · rfl
      · exact absurd hi (Nat.not_lt_zero _)
  · have hp' : p ∈ [((0 : Nat), (0 : Int))] := hp
    have hq' : q ∈ [((0 : Nat), (0 : Int))] := hq
    rw [List.mem_singleton.mp hp', List.mem_singleton.mp hq']
  · have h2' : (j + 1, 2 * x + (b : Int)) ∈ [((0 : Nat), (0 : Int))] := h2
    have := congrArg Prod.fst (List.mem_singleton.mp h2')
    simp at this
theorem pow_split {a b c : Nat} (h : a = b + c) : (2 : Int) ^ a = 2 ^ b * 2 ^ c := by rw [h, Int.pow_add]
theorem p2 (n : Nat) : (0 : Int) < 2 ^ n := Int.pow_pos (by decide)
section
variable {ss ks sy : List Int} (S : Sizes ss ks) (hU : usum ss ss.length < 65536)
include S
theorem sz_range {i : Nat} (h : i < ss.length) : 1 ≤ sz ss i ∧ sz ss i ≤ 16 := by
  have hm : ss.getD i 0 ∈ ss := by rw [List.getD_eq_getElem?_getD, List.getElem?_eq_getElem h]; exact List.getElem_mem h
  have := S.range _ hm
  unfold sz
  (first | lia | omega)
theorem cd_mul {i : Nat} (h : i < ss.length) : cdOf ss i * 2 ^ (16 - sz ss i) = usum ss i ∧ (cdOf ss i + 1) * 2 ^ (16 - sz ss i) = usum ss (i + 1) := by
  have h1 := cdOf_mul S h
  have h2 := sz_range S h
  have e : wt (ss.getD i 0) = 2 ^ (16 - sz ss i) := by
    unfold wt
    rw [show (16 - ss.getD i 0).toNat = 16 - sz ss i by unfold sz at h2 ⊢; (first | lia | omega)]
  rw [e] at h1
  exact h1
theorem sz_mono {i j : Nat} (h : i ≤ j) (hj : j < ss.length) : sz ss i ≤ sz ss j := by
  rcases Nat.lt_or_eq_of_le h with h | rfl
  · have := List.pairwise_iff_getElem.mp S.sorted i j (by (first | lia | omega)) hj h
    unfold sz
    simp only [List.getD_eq_getElem?_getD, List.getElem?_eq_getElem hj, List.getElem?_eq_getElem (show i < ss.length by (first | lia | omega)), Option.getD_some]
    (first | lia | omega)
  · exact Nat.le_refl _
/-- what lies below the number of the k-th code belongs to an earlier one -/
theorem usum_lt {i k : Nat} (h : i < k) (hk : k ≤ ss.length) : usum ss i < usum ss k ∧ usum ss (i + 1) ≤ usum ss k := by
  have h1 := usum_mono ss (show i + 1 ≤ k by (first | lia | omega))
  have h2 := cd_mul S (i := i) (by (first | lia | omega))
  have := p2 (16 - sz ss i)
  rw [Int.add_mul] at h2
  (first | lia | omega)
omit S in
theorem usum_find {v : Int} (h0 : 0 ≤ v) : ∀ {k : Nat}, v < usum ss k → ∃ j, j < k ∧ usum ss j ≤ v ∧ v < usum ss (j + 1)
  | 0, h => by simp [usum] at h; (first | lia | omega)
  | k + 1, h => by
    by_cases h' : v < usum ss k
    · obtain ⟨j, a, b⟩ := usum_find h0 h'
      exact ⟨j, by (first | lia | omega), b⟩
    · exact ⟨k, by (first | lia | omega), by (first | lia | omega), h⟩
/-- no code of the first k is begun by another -/
theorem no_prefix {i i' : Nat} (hi : i < ss.length) (hi' : i' < ss.length) (hz : sz ss i < sz ss i') : cdOf ss i' / 2 ^ (sz ss i' - sz ss i) ≠ cdOf ss i := by
  intro e
  have hr := sz_range S hi'
  obtain ⟨a1, a2⟩ := cd_mul S hi
  obtain ⟨b1, b2⟩ := cd_mul S hi'
  have hp := p2 (sz ss i' - sz ss i)
  have hq := p2 (16 - sz ss i')
  have c1 : cdOf ss i * 2 ^ (sz ss i' - sz ss i) ≤ cdOf ss i' := by rw [← e]; exact Int.ediv_mul_le _ (Int.ne_of_gt hp)
  have c2 : cdOf ss i' < (cdOf ss i + 1) * 2 ^ (sz ss i' - sz ss i) := by rw [← e]; exact Int.lt_ediv_add_one_mul_self _ hp
  have hs : (2 : Int) ^ (16 - sz ss i) = 2 ^ (sz ss i' - sz ss i) * 2 ^ (16 - sz ss i') := pow_split (by (first | lia | omega))
  rw [hs, ← Int.mul_assoc] at a1 a2
  have d1 := Int.mul_le_mul_of_nonneg_right c1 (Int.le_of_lt hq)
  have d2 := Int.mul_lt_mul_of_pos_right c2 hq
  rw [a1, b1] at d1
  rw [a2, b1] at d2
  rcases Nat.lt_trichotomy i i' with h | h | h
  · have := usum_lt S h (by (first | lia | omega))
    (first | lia | omega)
  · rw [h] at hz; (first | lia | omega)
  · have := usum_lt S h (by (first | lia | omega))
    have h3 := usum_lt S (i := i) (k := i + 1) (by (first | lia | omega)) (by (first | lia | omega))
    (first | lia | omega)
/-- the place of a node's child against the earlier codes -/
theorem child_place {k : Nat} (hk : k ≤ ss.length) {j : Nat} {x : Int} {b : Nat} (hb : b < 2) (hn : isNode ss k j x) (hj : j < 16) (hx : 0 ≤ x) (hlt : (2 * x + b) * 2 ^ (15 - j) < usum ss k) :
    (∃ i, i < k ∧ sz ss i = j + 1 ∧ cdOf ss i = 2 * x + b) ∨ isNode ss k (j + 1) (2 * x + b) := by
  obtain ⟨i, hi, h1, h2⟩ := usum_find (ss := ss) (v := (2 * x + b) * 2 ^ (15 - j)) (Int.mul_nonneg (by (first | lia | omega)) (Int.le_of_lt (p2 _))) hlt
  obtain ⟨a1, a2⟩ := cd_mul S (i := i) (by (first | lia | omega))
  have hr := sz_range S (i := i) (by (first | lia | omega))
  rw [← a1] at h1
  rw [← a2] at h2
  rcases Nat.lt_trichotomy (sz ss i) (j + 1) with hz | hz | hz
  · exfalso
    -- the code lies above the node
    have e : (2 : Int) ^ (16 - sz ss i) = 2 ^ (j + 1 - sz ss i) * 2 ^ (15 - j) := pow_split (by (first | lia | omega))
    rw [e, ← Int.mul_assoc] at h1 h2
    have c1 := Int.le_of_mul_le_mul_right h1 (p2 _)
    have c2 := Int.lt_of_mul_lt_mul_right h2 (Int.le_of_lt (p2 _))
    have e2 : (2 : Int) ^ (j + 1 - sz ss i) = 2 * 2 ^ (j - sz ss i) := by rw [show j + 1 - sz ss i = (j - sz ss i) + 1 by (first | lia | omega), Int.pow_succ']
    rw [e2, ← Int.mul_assoc] at c1 c2
    have hpj := p2 (j - sz ss i)
    have d1 : cdOf ss i * 2 ^ (j - sz ss i) ≤ x := by
      rw [Int.mul_comm (cdOf ss i) 2, Int.mul_assoc] at c1; (first | lia | omega)
    have d2 : x < (cdOf ss i + 1) * 2 ^ (j - sz ss i) := by
      rw [Int.mul_comm (cdOf ss i + 1) 2, Int.mul_assoc] at c2; (first | lia | omega)
    have ex : x / 2 ^ (j - sz ss i) = cdOf ss i := by
      have q1 := (Int.le_ediv_iff_mul_le hpj).mpr d1
      have q2 := (Int.ediv_lt_iff_lt_mul hpj).mpr d2
      (first | lia | omega)
    rcases hn with ⟨rfl, rfl⟩ | ⟨i', hi', hz', hc'⟩
    · (first | lia | omega)
    · refine no_prefix S (i := i) (i' := i') (by (first | lia | omega)) (by (first | lia | omega)) (by (first | lia | omega)) ?_
      rw [← ex, ← hc', Int.ediv_ediv_of_nonneg (Int.le_of_lt (p2 _)), ← Int.pow_add, show sz ss i' - j + (j - sz ss i) = sz ss i' - sz ss i by (first | lia | omega)]
  · left
    refine ⟨i, hi, hz, ?_⟩
    rw [hz, show 16 - (j + 1) = 15 - j by (first | lia | omega)] at h1 h2
    have c1 := Int.le_of_mul_le_mul_right h1 (p2 _)
    have c2 := Int.lt_of_mul_lt_mul_right h2 (Int.le_of_lt (p2 _))
    (first | lia | omega)
  · right; right
    refine ⟨i, hi, hz, ?_⟩
    have e : (2 : Int) ^ (15 - j) = 2 ^ (sz ss i - (j + 1)) * 2 ^ (16 - sz ss i) := pow_split (by (first | lia | omega))
    rw [e, ← Int.mul_assoc] at h1 h2
    have c1 := Int.le_of_mul_le_mul_right h1 (p2 _)
    have c2 := Int.lt_of_mul_lt_mul_right h2 (Int.le_of_lt (p2 _))
    have ec : cdOf ss i = (2 * x + b) * 2 ^ (sz ss i - (j + 1)) := by (first | lia | omega)
    rw [ec, Int.mul_ediv_cancel _ (Int.ne_of_gt (p2 _))]
theorem code_below {k i : Nat} (hk : k ≤ ss.length) (hi : i < k) {j : Nat} {y : Int} (hz : sz ss i = j + 1) (hc : cdOf ss i = y) : (y + 1) * 2 ^ (15 - j) ≤ usum ss k := by
  obtain ⟨a1, a2⟩ := cd_mul S (i := i) (by (first | lia | omega))
  rw [hz, hc, show 16 - (j + 1) = 15 - j by (first | lia | omega)] at a2
  rw [a2]
  exact (usum_lt S hi hk).2
theorem node_below {k j : Nat} {y : Int} (hk : k ≤ ss.length) (hn : isNode ss k (j + 1) y) : y * 2 ^ (15 - j) < usum ss k := by
  rcases hn with ⟨h, _⟩ | ⟨i, hi, hz, hc⟩
  · (first | lia | omega)
  · obtain ⟨a1, a2⟩ := cd_mul S (i := i) (by (first | lia | omega))
    have hr := sz_range S (i := i) (by (first | lia | omega))
    have h1 : y * 2 ^ (sz ss i - (j + 1)) ≤ cdOf ss i := by rw [← hc]; exact Int.ediv_mul_le _ (Int.ne_of_gt (p2 _))
    have h2 := Int.mul_le_mul_of_nonneg_right h1 (Int.le_of_lt (p2 (16 - sz ss i)))
    rw [Int.mul_assoc, ← Int.pow_add, show sz ss i - (j + 1) + (16 - sz ss i) = 15 - j by (first | lia | omega), a1] at h2
    exact Int.lt_of_le_of_lt h2 (usum_lt S hi hk).1
omit S in
theorem node_nn {k j : Nat} {x : Int} (hn : isNode ss k j x) : 0 ≤ x := by
  rcases hn with ⟨_, rfl⟩ | ⟨i, hi, hz, rfl⟩
  · exact Int.le_refl _
  · exact Int.ediv_nonneg cdOf_nn (Int.le_of_lt (p2 _))
theorem way_ok {k : Nat} {t : TS} (hk : k < ss.length) (C : Canon ss sy k t) : WayOk t (sz ss k) (cdOf ss k) := by
  have hr := sz_range S hk
  obtain ⟨a1, a2⟩ := cd_mul S hk
  have key : ∀ (j : Nat) (y : Int), j < sz ss k → y * 2 ^ (sz ss k - j - 1) * 2 ^ (16 - sz ss k) = y * 2 ^ (15 - j) := fun j y hj => by
    rw [Int.mul_assoc, ← Int.pow_add, show sz ss k - j - 1 + (16 - sz ss k) = 15 - j by (first | lia | omega)]
  refine ⟨fun j x b hd hj hb hle => ?_, fun j x b hd hj hb hlt => ?_⟩
  · have h1 := Int.mul_le_mul_of_nonneg_right hle (Int.le_of_lt (p2 (16 - sz ss k)))
    rw [a1, key j _ hj] at h1
    refine C.free j x b hd hb (fun hq => ?_) fun i hi ⟨hz, hc⟩ => ?_
    · have := node_below S (Nat.le_of_lt hk) ((C.nodes _ _).mp hq)
      (first | lia | omega)
    · have h2 := code_below S (Nat.le_of_lt hk) hi hz hc
      have := p2 (15 - j)
      rw [Int.add_mul] at h2
      (first | lia | omega)
  · have h1 := Int.mul_lt_mul_of_pos_right hlt (p2 (16 - sz ss k))
    rw [a1, key j _ hj] at h1
    have hn := (C.nodes _ _).mp hd
    rcases child_place S (Nat.le_of_lt hk) hb hn (by (first | lia | omega)) (node_nn hn) h1 with ⟨i, hi, hz, hc⟩ | hq
    · left
      obtain ⟨u, hu⟩ := C.leaf j x b i hd hb hi hz hc
      refine ⟨_, u, hu, ?_⟩
      have h2 := code_below S (Nat.le_of_lt hk) hi hz hc
      rw [← a1, ← key j _ hj] at h2
      exact Int.le_of_mul_le_mul_right h2 (p2 _)
    · right
      have hq' := (C.nodes _ _).mpr hq
      exact ⟨hq', C.node j x b hd hb hq'⟩
end
end Mine
end
section
open PySem PySem.W PyProof.Rows PySem.Calls
set_option maxRecDepth 100000
namespace Mine
theorem Tree.cast {P P' : Nat → Int → Prop} {ss sy : List Int} {k : Nat} {t : TS} (C : Tree P ss sy k t) (h : ∀ j x, P j x ↔ P' j x) : Tree P' ss sy k t :=
  ⟨fun j x => (C.nodes j x).trans (h j x), C.inj, C.leaf, C.node, C.free⟩
section
variable {ss ks sy : List Int} (S : Sizes ss ks) (hU : usum ss ss.length < 65536)
include S
theorem cd_lt (hU : usum ss ss.length < 65536) {k : Nat} (h : k < ss.length) : cdOf ss k < 2 ^ sz ss k := cdOf_lt S hU h
theorem mid_start (hU : usum ss ss.length < 65536) {k : Nat} {t : TS} (hk : k < ss.length) (C : Canon ss sy k t) : Mid ss sy k 0 t := by
  refine C.cast fun j x => ⟨.inl, fun h => ?_⟩
  rcases h with h | ⟨hj, hx⟩
  · exact h
  · obtain rfl : j = 0 := by (first | lia | omega)
    refine .inl ⟨rfl, ?_⟩
    rw [← hx, Nat.sub_zero]
    exact Int.ediv_eq_zero_of_lt cdOf_nn (cd_lt S hU hk)
/-- the way down to the next code -/
theorem mid_at {k i : Nat} {t : TS} (hk : k < ss.length) (C : Mid ss sy k i t) : (i, cdOf ss k / 2 ^ (sz ss k - i)) ∈ t.doms := (C.nodes _ _).mpr (.inr ⟨Nat.le_refl _, rfl⟩)
omit S in
theorem next_bit {c : Int} {s i : Nat} (h : i < s) : ∃ b : Nat, b < 2 ∧ c / 2 ^ (s - (i + 1)) = 2 * (c / 2 ^ (s - i)) + b ∧ (c / 2 ^ (s - (i + 1))) % 2 = b := by
  refine ⟨((c / 2 ^ (s - (i + 1))) % 2).toNat, by (first | lia | omega), ?_, by (first | lia | omega)⟩
  have e : c / 2 ^ (s - i) = (c / 2 ^ (s - (i + 1))) / 2 := by
    rw [show s - i = s - (i + 1) + 1 by (first | lia | omega), Int.pow_succ, Int.ediv_ediv_of_nonneg (Int.le_of_lt (p2 _))]
  rw [e]
  (first | lia | omega)
theorem no_code_on_way {k i : Nat} (hk : k < ss.length) {i' : Nat} (hi' : i' < k) (h : i + 1 < sz ss k) : ¬ (sz ss i' = i + 1 ∧ cdOf ss i' = cdOf ss k / 2 ^ (sz ss k - (i + 1))) := by
  rintro ⟨hz, hc⟩
  refine no_prefix S (i := i') (i' := k) (by (first | lia | omega)) hk (by (first | lia | omega)) ?_
  rw [hz]; exact hc.symm
/-- a node that stands already -/
theorem mid_go {k i : Nat} {t : TS} (hk : k < ss.length) (h : i + 1 < sz ss k) (C : Mid ss sy k i t) (hq : (i + 1, cdOf ss k / 2 ^ (sz ss k - (i + 1))) ∈ t.doms) : Mid ss sy k (i + 1) t := by
  refine C.cast fun j x => ⟨fun h => ?_, fun h => ?_⟩
  · rcases h with h | ⟨hj, hx⟩
    · exact .inl h
    · exact .inr ⟨by (first | lia | omega), hx⟩
  · rcases h with h | ⟨hj, hx⟩
    · exact .inl h
    · by_cases e : j ≤ i
      · exact .inr ⟨e, hx⟩
      · obtain rfl : j = i + 1 := by (first | lia | omega)
        subst hx
        exact (C.nodes _ _).mp hq
/-- a node of its own -/
theorem mid_new {k i : Nat} {t : TS} (hk : k < ss.length) (h : i + 1 < sz ss k) (C : Mid ss sy k i t) {x y : Int} {b : Nat} {a : Addr} (hb : b < 2) (hx : x = cdOf ss k / 2 ^ (sz ss k - i)) (hy : y = cdOf ss k / 2 ^ (sz ss k - (i + 1))) (hxy : y = 2 * x + b)
    (hq : (i + 1, y) ∉ t.doms) (ha : ∀ p ∈ t.doms, t.A p.1 p.2 ≠ a) : Mid ss sy k (i + 1) ((t.addn (i + 1) y a).setc i x b (.ref a)) := by
  have hmem : ∀ j z, (j, z) ∈ ((t.addn (i + 1) y a).setc i x b (.ref a)).doms ↔ (j = i + 1 ∧ z = y) ∨ (j, z) ∈ t.doms := fun j z => by
    show (j, z) ∈ (i + 1, y) :: t.doms ↔ _
    rw [List.mem_cons, Prod.mk.injEq]
  have hA : ∀ j z, ((t.addn (i + 1) y a).setc i x b (.ref a)).A j z = if j = i + 1 ∧ z = y then a else t.A j z := fun _ _ => rfl
  have hch : ∀ j z c, ((t.addn (i + 1) y a).setc i x b (.ref a)).ch j z c = if j = i ∧ z = x ∧ c = b then .ref a else if j = i + 1 ∧ z = y then .none else t.ch j z c := fun _ _ _ => rfl
  -- nothing stands below the new node
  have hbel : ∀ (c : Nat), c < 2 → (i + 2, 2 * y + (c : Int)) ∉ t.doms := fun c hc hm => by
    rcases (C.nodes _ _).mp hm with hn | ⟨hj, _⟩
    · rcases hn with ⟨h0, _⟩ | ⟨i', hi', hz', hc'⟩
      · (first | lia | omega)
      · refine hq ((C.nodes _ _).mpr (.inl (.inr ⟨i', hi', by (first | lia | omega), ?_⟩)))
        have e : sz ss i' - (i + 1) = (sz ss i' - (i + 2)) + 1 := by (first | lia | omega)
        rw [e, Int.pow_succ, ← Int.ediv_ediv_of_nonneg (Int.le_of_lt (p2 _)), hc']
        (first | lia | omega)
    · (first | lia | omega)
  have hcode : ∀ (c i' : Nat), c < 2 → i' < k → ¬ (sz ss i' = i + 2 ∧ cdOf ss i' = 2 * y + c) := fun c i' hc hi' ⟨hz', hc'⟩ => by
    refine hq ((C.nodes _ _).mpr (.inl (.inr ⟨i', hi', by (first | lia | omega), ?_⟩)))
    rw [hz', hc', show i + 2 - (i + 1) = 1 by (first | lia | omega), Int.pow_one]
    (first | lia | omega)
  have hno : ∀ i', i' < k → ¬ (sz ss i' = i + 1 ∧ cdOf ss i' = y) := fun i' hi' => by rw [hy]; exact no_code_on_way S hk hi' h
  have hdx : (i, x) ∈ t.doms := by rw [hx]; exact mid_at S hk C
  refine ⟨fun j z => ?_, fun p hp q hq' e => ?_, fun j z c i' hm hc hi' hz hcd => ?_, fun j z c hm hc hm2 => ?_, fun j z c hm hc hm2 hno2 => ?_⟩
  · rw [hmem, C.nodes]
    constructor
    · rintro (⟨rfl, rfl⟩ | h1 | ⟨h1, h2⟩)
      · exact .inr ⟨Nat.le_refl _, hy.symm⟩
      · exact .inl h1
      · exact .inr ⟨by (first | lia | omega), h2⟩
    · rintro (h1 | ⟨h1, h2⟩)
      · exact .inr (.inl h1)
      · by_cases e : j ≤ i
        · exact .inr (.inr ⟨e, h2⟩)
        · obtain rfl : j = i + 1 := by (first | lia | omega)
          exact .inl ⟨rfl, by rw [hy, h2]⟩
  · obtain ⟨p1, p2'⟩ := p
    obtain ⟨q1, q2⟩ := q
    rw [hmem] at hp hq'
    rw [hA, hA] at e
    by_cases ep : p1 = i + 1 ∧ p2' = y
    · by_cases eq : q1 = i + 1 ∧ q2 = y
      · rw [ep.1, ep.2, eq.1, eq.2]
      · rw [if_pos ep, if_neg eq] at e
        exact absurd e.symm (ha (q1, q2) (hq'.resolve_left eq))
    · by_cases eq : q1 = i + 1 ∧ q2 = y
      · rw [if_neg ep, if_pos eq] at e
        exact absurd e (ha (p1, p2') (hp.resolve_left ep))
      · rw [if_neg ep, if_neg eq] at e
        exact C.inj _ (hp.resolve_left ep) _ (hq'.resolve_left eq) e
  · rw [hmem] at hm
    rw [hch]
    rcases hm with ⟨rfl, rfl⟩ | hm
    · exact absurd ⟨hz, hcd⟩ (hcode c i' hc hi')
    · by_cases e1 : j = i ∧ z = x ∧ c = b
      · obtain ⟨rfl, rfl, rfl⟩ := e1
        exact absurd ⟨hz, by rw [hcd, hxy]⟩ (hno i' hi')
      · rw [if_neg e1, if_neg (fun e => hq (by rw [e.1, e.2] at hm; exact hm))]
        exact C.leaf j z c i' hm hc hi' hz hcd
  · rw [hmem] at hm hm2
    rw [hch, hA]
    rcases hm with ⟨rfl, rfl⟩ | hm
    · rcases hm2 with ⟨h1, _⟩ | hm2
      · (first | lia | omega)
      · exact absurd hm2 (hbel c hc)
    · rcases hm2 with ⟨h1, h2⟩ | hm2
      · obtain rfl : j = i := by (first | lia | omega)
        have : z = x ∧ c = b := by (first | lia | omega)
        obtain ⟨rfl, rfl⟩ := this
        rw [if_pos ⟨rfl, rfl, rfl⟩, if_pos ⟨h1, h2⟩]
      · have e1 : ¬ (j = i ∧ z = x ∧ c = b) := fun ⟨r1, r2, r3⟩ => hq (by rw [r1, r2, r3, ← hxy] at hm2; exact hm2)
        have e2 : ¬ (j + 1 = i + 1 ∧ 2 * z + (c : Int) = y) := fun ⟨r1, r2⟩ => hq (by rw [r1, r2] at hm2; exact hm2)
        rw [if_neg e1, if_neg (fun e => hq (by rw [e.1, e.2] at hm; exact hm)), if_neg e2]
        exact C.node j z c hm hc hm2
  · rw [hmem] at hm
    rw [hmem] at hm2
    rw [hch]
    rcases hm with ⟨rfl, rfl⟩ | hm
    · rw [if_neg (by (first | lia | omega)), if_pos ⟨rfl, rfl⟩]
    · by_cases e1 : j = i ∧ z = x ∧ c = b
      · obtain ⟨rfl, rfl, rfl⟩ := e1
        exact absurd (.inl ⟨rfl, hxy.symm⟩) hm2
      · rw [if_neg e1, if_neg (fun e => hq (by rw [e.1, e.2] at hm; exact hm))]
        exact C.free j z c hm hc (fun q => hm2 (.inr q)) hno2
/-- the leaf itself -/
theorem mid_end (hU : usum ss ss.length < 65536) {k : Nat} {t : TS} (hk : k < ss.length) {i : Nat} (h : i + 1 = sz ss k) (C : Mid ss sy k i t) {x : Int} {b : Nat} {u : Tok} (hb : b < 2) (hx : x = cdOf ss k / 2) (hxy : cdOf ss k = 2 * x + b) :
    Canon ss sy (k + 1) (t.setc i x b (.int (sy.getD k 0) u)) := by
  have hch : ∀ j z c, (t.setc i x b (.int (sy.getD k 0) u)).ch j z c = if j = i ∧ z = x ∧ c = b then .int (sy.getD k 0) u else t.ch j z c := fun _ _ _ => rfl
  have hnd : ∀ j z, (j, z) ∈ t.doms ↔ isNode ss (k + 1) j z := fun j z => by
    rw [C.nodes]
    constructor
    · rintro (h1 | ⟨h1, h2⟩)
      · rcases h1 with h1 | ⟨i', hi', h1⟩
        · exact .inl h1
        · exact .inr ⟨i', by (first | lia | omega), h1⟩
      · exact .inr ⟨k, by (first | lia | omega), by (first | lia | omega), h2⟩
    · rintro (h1 | ⟨i', hi', h1, h2⟩)
      · exact .inl (.inl h1)
      · by_cases e : i' < k
        · exact .inl (.inr ⟨i', e, h1, h2⟩)
        · obtain rfl : i' = k := by (first | lia | omega)
          exact .inr ⟨by (first | lia | omega), h2⟩
  have hns : ∀ z, (sz ss k, z) ∈ t.doms → z ≠ cdOf ss k := fun z hm e => by
    rcases (C.nodes _ _).mp hm with h1 | ⟨h1, _⟩
    · rcases h1 with ⟨h1, _⟩ | ⟨i', hi', h1, h2⟩
      · (first | lia | omega)
      · have := sz_mono S (Nat.le_of_lt hi') hk
        (first | lia | omega)
    · (first | lia | omega)
  refine ⟨hnd, C.inj, fun j z c i' hm hc hi' hz hcd => ?_, fun j z c hm hc hm2 => ?_, fun j z c hm hc hm2 hno => ?_⟩
  · rw [hch]
    by_cases e1 : j = i ∧ z = x ∧ c = b
    · rw [if_pos e1]
      obtain ⟨rfl, rfl, rfl⟩ := e1
      have : i' = k := by
        apply Classical.byContradiction
        intro hne
        have h1 := cd_mul S (i := i') (by (first | lia | omega))
        have h2 := cd_mul S hk
        have h3 := usum_lt S (i := i') (k := k) (by (first | lia | omega)) (Nat.le_of_lt hk)
        rw [hcd, hz, ← hxy, h] at h1
        (first | lia | omega)
      rw [this]
      exact ⟨u, rfl⟩
    · rw [if_neg e1]
      have hlt : i' < k := by
        apply Nat.lt_of_le_of_ne (by (first | lia | omega))
        rintro rfl
        exact e1 (by (first | lia | omega))
      exact C.leaf j z c i' hm hc hlt hz hcd
  · rw [hch, if_neg (fun ⟨r1, r2, r3⟩ => by
      have hm2' : (j + 1, 2 * z + (c : Int)) ∈ t.doms := hm2
      rw [r1, r2, r3, h, ← hxy] at hm2'
      exact hns _ hm2' rfl)]
    exact C.node j z c hm hc hm2
  · rw [hch, if_neg (fun ⟨r1, r2, r3⟩ => hno k (by (first | lia | omega)) ⟨by (first | lia | omega), by rw [hxy, r2, r3]⟩)]
    exact C.free j z c hm hc hm2 fun i' hi' => hno i' (by (first | lia | omega))
end
/-- the ledger of a tree -/
def TS.led (t : TS) : List (Addr × Obj) := t.doms.map fun p => (t.A p.1 p.2, t.obj p.1 p.2)
theorem TS.led_in (t : TS) : t.In t.led := fun p hp => List.mem_map.mpr ⟨p, hp, rfl⟩
theorem news_set {h₀ h : Heap} {L : Addr} {t : TS} {ot : List (Addr × Obj)} {j b : Nat} {x : Int} {v : Value} (inj : ∀ p ∈ t.doms, ∀ q ∈ t.doms, t.A p.1 p.2 = t.A q.1 q.2 → p = q) (hd : (j, x) ∈ t.doms) (hs : ∀ q ∈ ot, q.1 ≠ t.A j x)
    (N : News h₀ L h ((t.A j x, (t.setc j x b v).obj j x) :: offAddr (t.A j x) (t.led ++ ot))) : News h₀ L h ((t.setc j x b v).led ++ ot) := fun q hq => by
  rcases List.mem_append.mp hq with hq | hq
  · obtain ⟨p, hp, rfl⟩ := List.mem_map.mp hq
    by_cases e : p = (j, x)
    · subst e; exact N _ (List.mem_cons_self ..)
    · have hA : t.A p.1 p.2 ≠ t.A j x := fun e' => e (inj p hp (j, x) hd e')
      have ho : (t.setc j x b v).obj p.1 p.2 = t.obj p.1 p.2 := by
        unfold TS.obj TS.setc
        dsimp only
        rw [if_neg (fun r => e (Prod.ext r.1 r.2.1)), if_neg (fun r => e (Prod.ext r.1 r.2.1))]
      rw [ho]
      exact N _ (List.mem_cons_of_mem _ (List.mem_filter.mpr ⟨List.mem_append_left _ (List.mem_map.mpr ⟨p, hp, rfl⟩), decide_eq_true (show (t.setc j x b v).A p.1 p.2 ≠ t.A j x from hA)⟩))
  · exact N _ (List.mem_cons_of_mem _ (List.mem_filter.mpr ⟨List.mem_append_right _ hq, by simpa using hs q hq⟩))
theorem news_front {h₀ h : Heap} {L : Addr} {t : TS} {ot : List (Addr × Obj)} {j : Nat} {x : Int} (hd : (j, x) ∈ t.doms) (N : News h₀ L h (t.led ++ ot)) : News h₀ L h ((t.A j x, listOf #[t.ch j x 0, t.ch j x 1] 0) :: offAddr (t.A j x) (t.led ++ ot)) := fun q hq => by
  rcases List.mem_cons.mp hq with rfl | hq
  · exact N _ (List.mem_append_left _ (t.led_in (j, x) hd))
  · exact N _ (List.mem_filter.mp hq).1
theorem led_add {t : TS} {j : Nat} {x : Int} {a : Addr} (hq : (j, x) ∉ t.doms) : (t.addn j x a).led = (a, listOf #[.none, .none] 0) :: t.led := by
  show ((t.addn j x a).A j x, (t.addn j x a).obj j x) :: t.doms.map (fun p => ((t.addn j x a).A p.1 p.2, (t.addn j x a).obj p.1 p.2)) = _
  have e1 : (t.addn j x a).A j x = a := if_pos ⟨rfl, rfl⟩
  have e2 : (t.addn j x a).obj j x = listOf #[.none, .none] 0 := by
    unfold TS.obj TS.addn
    dsimp only
    rw [if_pos ⟨rfl, rfl⟩, if_pos ⟨rfl, rfl⟩]
  rw [e1, e2]
  congr 1
  apply List.map_congr_left
  intro p hp
  have hne : ¬ (p.1 = j ∧ p.2 = x) := fun r => hq (by rw [← r.1, ← r.2]; exact hp)
  have e3 : (t.addn j x a).A p.1 p.2 = t.A p.1 p.2 := if_neg hne
  have e4 : (t.addn j x a).obj p.1 p.2 = t.obj p.1 p.2 := by
    unfold TS.obj TS.addn
    dsimp only
    rw [if_neg hne, if_neg hne]
  rw [e3, e4]
end Mine
end
section
open PySem PySem.W PyProof.Rows PySem.Calls
set_option maxRecDepth 100000
namespace Mine
/-- the number of the first j figures -/
def valF (fs : List Int) : Nat → Int
  | 0 => 0
  | j + 1 => 2 * valF fs j + fs.getD j 0
def Figs (fs : List Int) : Prop := ∀ d ∈ fs, d = 0 ∨ d = 1
theorem Figs.at {fs : List Int} (h : Figs fs) (j : Nat) : ∃ b : Nat, b < 2 ∧ fs.getD j 0 = (b : Int) := by
  by_cases hj : j < fs.length
  · have e : fs.getD j 0 = fs[j] := by rw [List.getD_eq_getElem?_getD, List.getElem?_eq_getElem hj]; rfl
    rcases h _ (List.getElem_mem hj) with q | q
    · exact ⟨0, by (first | lia | omega), by rw [e, q]; rfl⟩
    · exact ⟨1, by (first | lia | omega), by rw [e, q]; rfl⟩
  · exact ⟨0, by (first | lia | omega), by rw [List.getD_eq_getElem?_getD, List.getElem?_eq_none (by (first | lia | omega))]; rfl⟩
theorem valF_nn {fs : List Int} (h : Figs fs) : ∀ j, 0 ≤ valF fs j
  | 0 => Int.le_refl _
  | j + 1 => by
    have := valF_nn h j
    obtain ⟨b, _, e⟩ := h.at j
    show 0 ≤ 2 * valF fs j + fs.getD j 0
    (first | lia | omega)
theorem valF_div {fs : List Int} (h : Figs fs) (j : Nat) : ∀ m : Nat, valF fs j = valF fs (j + m) / 2 ^ m
  | 0 => by simp
  | m + 1 => by
    obtain ⟨b, hb, e⟩ := h.at (j + m)
    have e2 : valF fs (j + m + 1) = 2 * valF fs (j + m) + fs.getD (j + m) 0 := rfl
    rw [valF_div h j m, show j + (m + 1) = j + m + 1 by (first | lia | omega), Int.pow_succ', ← Int.ediv_ediv_of_nonneg (by decide), e2, e]
    congr 1
    (first | lia | omega)
def codePre (ss fs : List Int) (k : Nat) : Prop := sz ss k ≤ fs.length ∧ valF fs (sz ss k) = cdOf ss k
section
variable {ss ks sy : List Int} (S : Sizes ss ks) {fs : List Int} (hf : Figs fs)
include S hf
/-- above a node stands no code -/
theorem node_no {j k : Nat} (hn : isNode ss ss.length j (valF fs j)) (hk : k < ss.length) (hz : sz ss k ≤ j) : valF fs (sz ss k) ≠ cdOf ss k := by
  intro e
  have hr := sz_range S hk
  rcases hn with ⟨rfl, _⟩ | ⟨i, hi, hz', hc⟩
  · (first | lia | omega)
  · refine no_prefix S (i := k) (i' := i) hk hi (by (first | lia | omega)) ?_
    rw [← e, valF_div hf (sz ss k) (j - sz ss k), show sz ss k + (j - sz ss k) = j by (first | lia | omega), ← hc, Int.ediv_ediv_of_nonneg (Int.le_of_lt (p2 _)), ← Int.pow_add, show sz ss i - j + (j - sz ss k) = sz ss i - sz ss k by (first | lia | omega)]
theorem node_up {j k : Nat} (hk : k < ss.length) (hz : j < sz ss k) (e : valF fs (sz ss k) = cdOf ss k) : isNode ss ss.length j (valF fs j) :=
  .inr ⟨k, hk, hz, by rw [← e, valF_div hf j (sz ss k - j), show j + (sz ss k - j) = sz ss k by (first | lia | omega)]⟩
end
end Mine
end
section
open PySem PySem.W PyProof.Rows PySem.Calls
namespace Mine
def ksOf (ss : List Int) : List Int := (List.range 16).map fun j => (eqN ss j : Int)
theorem ksOf_len (ss : List Int) : (ksOf ss).length = 16 := by simp [ksOf]
theorem ksOf_getD (ss : List Int) {i : Nat} (h : i < 16) : (ksOf ss).getD i 0 = (eqN ss i : Int) := by
  rw [List.getD_eq_getElem?_getD, ksOf, List.getElem?_map, List.getElem?_range h]; rfl
theorem sizes_of {ss : List Int} (h1 : ss.Pairwise (· ≤ ·)) (h2 : ∀ x ∈ ss, 1 ≤ x ∧ x ≤ 16) (h3 : ss.length ≤ 17) : Sizes ss (ksOf ss) :=
  ⟨h1, h2, h3, ksOf_len ss, fun i h => ksOf_getD ss h⟩
theorem ksOf_range {ss : List Int} (h3 : ss.length ≤ 17) : ∀ k ∈ ksOf ss, 0 ≤ k ∧ k ≤ 17 := fun k hk => by
  obtain ⟨j, _, rfl⟩ := List.mem_map.mp hk
  have : eqN ss j ≤ ss.length := List.length_filter_le ..
  (first | lia | omega)
theorem placeAt_take' (ks : List Int) : ∀ i, placeAt ks i = (ks.take i).sum
  | 0 => rfl
  | i + 1 => by
    rw [List.take_add_one, List.sum_append, ← placeAt_take' ks i]
    show placeAt ks i + ks.getD i 0 = placeAt ks i + _
    rw [List.getD_eq_getElem?_getD]
    cases ks[i]? <;> simp
theorem ksOf_sum {ss : List Int} (h1 : ss.Pairwise (· ≤ ·)) (h2 : ∀ x ∈ ss, 1 ≤ x ∧ x ≤ 16) (h3 : ss.length ≤ 17) : (ksOf ss).sum = (ss.length : Int) := by
  have S := sizes_of h1 h2 h3
  have h := placeAt_eq S (i := 16) (Nat.le_refl _)
  rw [placeAt_take', List.take_of_length_le (by rw [ksOf_len]; exact Nat.le_refl _)] at h
  rw [h]
  unfold ltN
  rw [List.filter_eq_self.mpr fun x hx => by have := h2 x hx; simp; (first | lia | omega)]
def SymsOk (sy : List Int) : Prop := ∀ (j : Nat) (v : Int), sy[j]? = some v → 15 * (j : Int) ≤ v ∧ v ≤ 15 * (j : Int) + 14
theorem SymsOk.nodup {sy : List Int} (h : SymsOk sy) : sy.Nodup := by
  refine List.pairwise_iff_getElem.mpr fun i j hi hj hij e => ?_
  have h1 := h i sy[i] (List.getElem?_eq_getElem hi)
  have h2 := h j sy[j] (List.getElem?_eq_getElem hj)
  (first | lia | omega)
theorem SymsOk.snoc {sy : List Int} {r : Int} (h : SymsOk sy) (h0 : 0 ≤ r) (h1 : r < 15) : SymsOk (sy ++ [r + 15 * (sy.length : Int)]) := by
  intro j v hv
  by_cases hj : j < sy.length
  · rw [List.getElem?_append_left hj] at hv
    exact h j v hv
  · rw [List.getElem?_append_right (by (first | lia | omega))] at hv
    have e : j - sy.length = 0 := by
      apply Nat.eq_zero_of_not_pos
      intro hp
      rw [List.getElem?_eq_none (by simp; (first | lia | omega))] at hv
      cases hv
    rw [e] at hv
    simp only [List.getElem?_cons_zero, Option.some.injEq] at hv
    (first | lia | omega)
theorem SymsOk.nil : SymsOk [] := fun j v h => by simp at h
theorem perm_sum {a b : List Int} (h : a.Perm b) : a.sum = b.sum := by
  induction h with
  | nil => rfl
  | cons x _ ih => rw [List.sum_cons, List.sum_cons, ih]
  | swap x y l => simp only [List.sum_cons]; (first | lia | omega)
  | trans _ _ i1 i2 => exact i1.trans i2
/-- the sizes without the greatest -/
theorem usum_init {ds ns : List Int} (hp : ns.Perm ds) (hs : (ds.map wt).sum = 65536) (hl : 1 ≤ ns.length) : usum (ns.take (ns.length - 1)) (ns.take (ns.length - 1)).length < 65536 := by
  unfold usum
  rw [List.take_length]
  have h1 : (ns.map wt).sum = 65536 := by rw [← hs]; exact perm_sum (hp.map wt)
  have e : ns = ns.take (ns.length - 1) ++ [ns[ns.length - 1]] := by
    conv => lhs; rw [← List.take_append_drop (ns.length - 1) ns]
    rw [List.drop_eq_getElem_cons (by (first | lia | omega)), List.drop_of_length_le (by (first | lia | omega))]
  rw [e, List.map_append, List.sum_append] at h1
  simp only [List.map_cons, List.map_nil, List.sum_cons, List.sum_nil] at h1
  have := wt_pos (ns[ns.length - 1])
  (first | lia | omega)
end Mine
end
section
open PySem PySem.W PyProof.Rows PySem.Calls PySem.NumText
set_option maxRecDepth 100000
namespace Mine
def bval (bs : List Nat) : Nat := bs.foldl (fun a d => a * 2 + d) 0
theorem foldlM_bits : ∀ (bs : List Nat), (∀ b ∈ bs, b < 2) → ∀ (ds : Array Nat) (f : Bool), (bs.map (· + 48)).foldlM (step 2) (ds, f) = some (ds ++ bs.toArray, f || !bs.isEmpty)
  | [], _, ds, f => by simp
  | b :: r, h, ds, f => by
    have hb := h b (List.mem_cons_self ..)
    have e : step 2 (ds, f) (b + 48) = some (ds.push b, true) := by
      have : b = 0 ∨ b = 1 := by (first | lia | omega)
      rcases this with rfl | rfl <;> rfl
    rw [List.map_cons, List.foldlM_cons, e]
    show (r.map (· + 48)).foldlM (step 2) (ds.push b, true) = _
    rw [foldlM_bits r (fun x hx => h x (List.mem_cons_of_mem _ hx))]
    simp
theorem bits_notblank {bs : List Nat} (h : ∀ b ∈ bs, b < 2) : ∀ c ∈ bs.map (· + 48), blank c = false := fun c hc => by
  obtain ⟨b, hb, rfl⟩ := List.mem_map.mp hc
  have := h b hb
  have : b = 0 ∨ b = 1 := by (first | lia | omega)
  rcases this with rfl | rfl <;> rfl
theorem dropWhile_none {l : List Nat} (h : ∀ c ∈ l, blank c = false) : l.dropWhile blank = l := by
  cases l with
  | nil => rfl
  | cons a r => rw [List.dropWhile_cons, h a (List.mem_cons_self ..)]; rfl
theorem read_bits {bs : List Nat} (h : ∀ b ∈ bs, b < 2) (hne : bs ≠ []) : (int_private% "readNumeral") 0 2 (bs.map (· + 48)) = (int_private% "Numeral.value") (bval bs : Int) := by
  have hb := bits_notblank h
  have hs : sign (bs.map (· + 48)) = (false, bs.map (· + 48)) := by
    cases bs with
    | nil => exact absurd rfl hne
    | cons a r =>
      have := h a (List.mem_cons_self ..)
      have : a = 0 ∨ a = 1 := by (first | lia | omega)
      rcases this with rfl | rfl <;> rfl
  have hp : prefix? (bs.map (· + 48)) = none := by
    match bs, h, hne with
    | [a], h, _ =>
      have := h a (List.mem_cons_self ..)
      have : a = 0 ∨ a = 1 := by (first | lia | omega)
      rcases this with rfl | rfl <;> rfl
    | a :: b :: r, h, _ =>
      have := h a (List.mem_cons_self ..)
      have h2 := h b (by simp)
      have qa : a = 0 ∨ a = 1 := by (first | lia | omega)
      have qb : b = 0 ∨ b = 1 := by (first | lia | omega)
      rcases qa with rfl | rfl <;> rcases qb with rfl | rfl <;> rfl
  refine (readNumeral_eq 0 2 _).trans ?_
  rw [dropWhile_none hb, hs]
  have hba : based 2 (bs.map (· + 48)) = (2, false, bs.map (· + 48)) := by
    unfold based; rw [hp]; rfl
  rw [hba]
  have hr : (bs.map (· + 48)).reverse.dropWhile blank = (bs.map (· + 48)).reverse := dropWhile_none fun c hc => hb c (List.mem_reverse.mp hc)
  simp only [hr, List.reverse_reverse]
  have hd : digits? 2 (bs.map (· + 48)) = some bs.toArray := by
    unfold digits?
    rw [foldlM_bits bs h]
    cases bs with
    | nil => exact absurd rfl hne
    | cons a r => simp
  rw [hd]
  unfold judge
  simp [bval]
theorem typeCall_int_2 (a b : Value) : checkTypeCall "int" ⟨[a, b], []⟩ = pure () := by kernel_rfl
theorem newCall_int_2 (a b : Value) : checkBuiltinCall "int.__new__" ⟨[.type "int", a, b], []⟩ = pure () := by kernel_rfl
theorem wp_text2 {M : Model} {A : Around} {E : Value → Shared → Prop} {s : Shared} {Q : Value → Shared → Prop} {v : Value} {text : List Nat} {n : Int}
    (hs : (text.takeWhile (· != 0)).length ≤ 640) (hr : (int_private% "readNumeral") 0 2 (text.takeWhile (· != 0)) = (int_private% "Numeral.value") n)
    (ha : ((text.takeWhile (· != 0)).length == text.length) = true) (h : Q (.int n s.toks) { s with toks := s.toks + 1 }) :
    wpAny M A ((int_private% "intFromText") v text 2) Q E s := by
  obtain ⟨hp, g, d, tk, os⟩ := s
  repeat (any_goals (first
    | assumption
    | (with_reducible refine wpAny_ite_true (decide_eq_true hs) ?_)
    | (with_reducible refine wpAny_ite_true (decide_eq_true ha) ?_)
    | wp_step))
  all_goals (try rw [hr])
  all_goals (try dsimp only)
  repeat (any_goals (first
    | assumption
    | (with_reducible refine wpAny_ite_true (decide_eq_true hs) ?_)
    | (with_reducible refine wpAny_ite_true (decide_eq_true ha) ?_)
    | wp_step))
theorem takeWhile_bits : ∀ bs : List Nat, (bs.map (· + 48)).takeWhile (· != 0) = bs.map (· + 48)
  | [] => rfl
  | b :: r => by rw [List.map_cons, List.takeWhile_cons, if_pos (by simp), takeWhile_bits r]
structure Hid2 (p : Prop) : Prop where
  out : p
theorem text_bits {bs : List Nat} (h : ∀ b ∈ bs, b < 2) : (if (bitT bs).cps.all (· < 128) then (bitT bs).cps.toList else Unicode.numberText (bitT bs).cps.toList) = bs.map (· + 48) := by
  rw [if_pos]
  · simp [bitT]
  · rw [Array.all_eq_true']
    intro x hx
    simp only [bitT, List.mem_toArray, List.mem_map] at hx
    obtain ⟨b, hb, rfl⟩ := hx
    have := h b hb
    simp; (first | lia | omega)
set_option maxHeartbeats 4000000 in
theorem gives_text2 {bs : List Nat} {u t : Tok} (h : ∀ b ∈ bs, b < 2) (hne : bs ≠ []) (hl : bs.length ≤ 640) : Gives (Builtin.«int.__new__» ⟨[.type "int", .str (bitT bs) u, .int 2 t], []⟩) (.int (bval bs : Int)) :=
  .of_wp fun M A E s Q hq => by
    obtain ⟨hp, g, d, tk, os⟩ := s
    have f1 := F.conv_sub_int
    have f2 := F.madeHere_int
    have f6 : typeOf (.str (bitT bs) u) = pure (.type "str") := rfl
    have hseen : (bs.map (· + 48)).takeWhile (· != 0) = bs.map (· + 48) := takeWhile_bits bs
    have htx := text_bits h
    have hk := Hid2.mk (p := ((if (bitT bs).cps.all (· < 128) then (bitT bs).cps.toList else Unicode.numberText (bitT bs).cps.toList).takeWhile (· != 0)).length ≤ 640 ∧ (int_private% "readNumeral") 0 2 ((if (bitT bs).cps.all (· < 128) then (bitT bs).cps.toList else Unicode.numberText (bitT bs).cps.toList).takeWhile (· != 0)) = (int_private% "Numeral.value") (bval bs : Int) ∧ (((if (bitT bs).cps.all (· < 128) then (bitT bs).cps.toList else Unicode.numberText (bitT bs).cps.toList).takeWhile (· != 0)).length == (if (bitT bs).cps.all (· < 128) then (bitT bs).cps.toList else Unicode.numberText (bitT bs).cps.toList).length) = true) (by
      rw [htx, hseen]
      exact ⟨by simpa using hl, read_bits h hne, by simp⟩)
    clear htx hseen hl hne h
    repeat (any_goals (first
      | assumption
      | ((with_reducible show wpAny _ _ ((int_private% "intFromText") _ _ _) _ _ _); refine wp_text2 hk.out.1 hk.out.2.1 hk.out.2.2 ?_)
      | wp_step))
    all_goals first | exact ⟨_, rfl, hq⟩ | skip
theorem args_object_init_3 (a b c : Value) : argsOk "object.__init__" ⟨[a, b, c], []⟩ := by
  unfold argsOk; rw [signature?_of (id := "object.__init__") (n := ['_', '_', 't', 'i', 'n', 'i', '_', '_']) (o := ['t', 'c', 'e', 'j', 'b', 'o']) (by kernel_rfl) F.owner_object]; kernel_rfl
section
variable {prog : Program} {w : World} {A : Around} {E : Value → Shared → Prop} {s : Shared} {Q : Value → Shared → Prop}
theorem call_int2 {bs : List Nat} {u t : Tok} (h : ∀ b ∈ bs, b < 2) (hne : bs ≠ []) (hl : bs.length ≤ 640) (hq : Q (.int (bval bs : Int) s.toks) { s with toks := s.toks + 1 }) :
    wpAny (model prog w) A (call (.type "int") [.str (bitT bs) u, .int 2 t]) Q E s :=
  callType_new F.called_int F.newNe_int (typeCall_int_2 _ _) (newCall_int_2 _ _) (fun obj => args_object_init_3 obj _ _) F.entry_int_new (gives_text2 h hne hl).meets (show (Made.int _).post _ s from ⟨rfl, hq⟩)
end
theorem bval_snoc (bs : List Nat) (d : Nat) : bval (bs ++ [d]) = bval bs * 2 + d := by simp [bval, List.foldl_append]
end Mine
end
section
open PySem PySem.W PyProof.Rows PySem.Calls
set_option maxRecDepth 100000
set_option compiler.extract_closed false
namespace Mine
theorem fillAll : (fun (_ : OpenLaw) (_ : Params → Frag) => True) PySem.Challenge.rw_ok0132_01 Mine.hdx.heap_1 := by
  w_top off
  k_fill
  trivial
local macro_rules | `(tactic| k_all) => `(tactic| assumption)
local macro_rules | `(tactic| k_ne) => `(tactic| (refine neN ?_; (try dsimp only); first | (with_reducible first | assumption | exact Ne.symm (by assumption) | exact Nat.ne_of_lt (by assumption) | exact Nat.ne_of_gt (by assumption) | exact neS1 _ | exact Nat.succ_ne_self _ | exact neS2 _ | exact neT2 _ | exact andL0 (by assumption) | exact andL1 (by assumption) | exact andL2 (by assumption) | exact andL3 (by assumption) | exact andL4 (by assumption) | exact andL5 (by assumption) | exact andL6 (by assumption) | exact andL7 (by assumption) | exact andL8 (by assumption) | exact andL9 (by assumption) | exact andL10 (by assumption) | exact andL11 (by assumption) | exact andG0 (by assumption) | exact andG1 (by assumption) | exact andG2 (by assumption) | exact andG3 (by assumption) | exact andG4 (by assumption) | exact andG5 (by assumption) | exact andG6 (by assumption) | exact andG7 (by assumption) | exact andG8 (by assumption) | exact andG9 (by assumption) | exact andG10 (by assumption) | exact andG11 (by assumption) | exact andS0 (by assumption) | exact andS1 (by assumption) | exact andS2 (by assumption) | exact andS3 (by assumption) | exact andS4 (by assumption) | exact andS5 (by assumption) | exact andS6 (by assumption) | exact andS7 (by assumption) | exact andS8 (by assumption) | exact andS9 (by assumption) | exact chS2 (by assumption) | exact chS (by assumption) | exact chT (by assumption) (by assumption)) | omega))
local macro_rules | `(tactic| omega) => `(tactic| first | (with_reducible first | exact Int.natCast_nonneg _ | exact Nat.le_of_ble_eq_true rfl | exact ltB rfl | exact un2 (by assumption) rfl | exact un1 (by assumption) rfl | exact un0 (by assumption)) | ((repeat (with_reducible rename _ ≠ _ ∧ _ => hNe; clear hNe)); (repeat (with_reducible rename @Ne Nat _ _ => hNe; clear hNe)); (repeat (with_reducible rename @LT.lt Nat _ _ _ ∧ _ => hNe; clear hNe)); first | lia | omega (splitDisjunctions := true)) | omega (splitDisjunctions := true))
local macro_rules | `(tactic| ktr_enter) => `(tactic| first
  | (refine' code_def ?k1 ?k2 ?k3 ?k4 ?k5 ?kA ?kF ?kK ?k6 ?k7 ?k8 ?k9 ?kB ?_ ?c2 ?c3 ?c4 ?c5; (case kA | kF => exact rfl); (case kK => first | exact rfl | assumption); (case k1 | k2 | k3 | k4 | k5 => k_asm); (case k6 | k7 => k_is); (case k8 => ktr_room); (case k9 => exact BindsTo.of_eq rfl); (case c5 => decide); (case kB => exact locs rfl); (case c2 | c3 | c4 => exact rfl); k_whole; intro g' L' h' FG' F' N' B' X' T'; (try dsimp only); (try k_lift B'); (try k_fold))
  | (refine' code_defC ?k1 ?k2 ?k3 ?k4 ?k5 ?kA ?kF ?kK ?k6 ?k7 ?k8 ?k9 ?kB ?kD ?_ ?c2 ?c3 ?c4; (case kA | kF => exact rfl); (case kK => first | exact rfl | assumption); (case k1 | k2 | k3 | k4 | k5 => k_asm); (case k6 | k7 => k_is); (case k8 => ktr_room); (case k9 => exact BindsTo.of_eq rfl); (case kB => exact rfl); (case kD => decide +kernel); (case c2 | c3 | c4 => exact rfl); k_whole; intro g' L' h' tk' cells' FG' F' N' Y' B' X' T' l1; (try k_lt l1); k_cells Y'; (try simp only [List.cons_append, List.nil_append] at N'); (try dsimp only); (try k_lift B'); (try k_fold)))
local macro_rules | `(tactic| tb_rel) => `(tactic| ((fail_if_success (with_reducible first | refine stLC ?_ | refine stALC ?_ | refine stWhile ?_ | refine stFor ?_ | refine stSrcF ?_ | refine stSrcT ?_ | refine stForEnd ?_ | refine stWEnd ?_ | refine stSrcZ ?_ | refine stSrcW ?_ | refine stCompEnd ?_ | refine stCall 168 ?_ | refine stCall 98 ?_ | refine stCall 154 ?_ | refine stCall 126 ?_ | refine stCall 119 ?_ | refine stCall 108 ?_ | refine stCall 157 ?_ | refine stCall 189 ?_ | refine stCall 203 ?_ | refine stCall 210 ?_ | refine stCall 147 ?_ | refine stCall 182 ?_ | refine stCall 196 ?_ | refine stSlice ?_ | refine stGM "get" ?_ | refine stBi "dict.get" ?_ | refine stTy "tuple" ?_ | refine stRS ?_ | refine stBy ?_)); first | (k_unfold; (try dsimp only)) | (k_end; wrow_close) | walk1 | (dsimp only; walk1) | (leave1; walk_say "STEP leave1"; try dsimp only) | fail "no step"))
local macro_rules | `(tactic| k_steps) => `(tactic| repeat' tb_rel)
local macro_rules | `(tactic| k_in) => `(tactic| first | with_reducible assumption | exact Frag.In.keeps (by with_reducible assumption) (Fr.keep (by with_reducible assumption)))
local macro_rules | `(tactic| walk_at "RaisePost") => `(tactic| refine RaisePost.intro (by assumption) ?_)
local macro_rules | `(tactic| walk_at "leaving ref") => `(tactic| (k_here; k_dflt (refine' leave_newC ?k1 ?k0 ?k2 ?k3 ?_; (case k0 | k1 | k2 => assumption); (case k3 => k_asm); k_whole); intro h' R' U'; (try dsimp only at R' U' ⊢)))
local macro_rules | `(tactic| walk_at "exec Raise some none") => `(tactic| (k_here; k_dflt ((first | ((with_reducible show wpAny _ _ (exec (Stmt.Raise (some (Expr.Call (Expr.Name ("TableError" : PySem.Str) _) (_ :: _) [] _)) none _) _) _ _ _); refine' Raise_own_x (C := 44) ?k1 ?k2 ?k3 ?k4 ?k5 ?_) | ((with_reducible show wpAny _ _ (exec (Stmt.Raise (some (Expr.Call (Expr.Name ("CodeError" : PySem.Str) _) (_ :: _) [] _)) none _) _) _ _ _); refine' Raise_own_x (C := 56) ?k1 ?k2 ?k3 ?k4 ?k5 ?_) | ((with_reducible show wpAny _ _ (exec (Stmt.Raise (some (Expr.Call (Expr.Name ("CutError" : PySem.Str) _) (_ :: _) [] _)) none _) _) _ _ _); refine' Raise_own_x (C := 68) ?k1 ?k2 ?k3 ?k4 ?k5 ?_)); (case k1 | k2 => k_asm); (case k3 => k_is); (case k4 | k5 => rfl))))
local macro_rules | `(tactic| walk_at "call ref") => `(tactic| (k_here; (with_reducible show wpAny _ _ (call (Value.ref _) [Value.str _ _]) _ _ _); k_dflt (refine' make_spec ?k1 ?k2 ?k3 ?k4 ?k5 ?k6 ?k7 ?k8 ?k9 ?k10 ?k11 ?k12 ?k13 ?k14 ?k15 ?k16 ?_; (case k1 | k2 | k3 | k4 => k_asm); (case k5 => first | exact rfl | assumption); (case k6 => ktr_room); (case k7 => ktr_units); (case k8 => k_is); (case k9 | k10 | k11 | k12 => rfl); (case k13 | k14 | k15 => k_is); (case k16 => intro x; kernel_rfl); k_whole); intro h' tk' e' x'))
local macro_rules | `(tactic| walk_at "call builtin:list.append") => `(tactic| (k_here; (with_reducible show wpAny _ _ (call (Value.builtin _) [Value.ref _, _]) _ _ _); k_dflt (refine' append_K ?k1 ?k2 ?k3 ?_ ?z; (case k1 | k2 => k_asm); (case k3 => k_upd); (case z => with_reducible assumption); k_whole); intro h' F' N'; (try k_sweep)))
local macro_rules | `(tactic| ktr_units) => `(tactic| ((try dsimp only [Mine.units_under_make, units_in1, units_deeper, Around.mark_units, units_caller, ktrTop]); first | (with_reducible first | exact un1 (by assumption) rfl | exact un2 (by assumption) rfl | exact un3 (by assumption) rfl | exact un0 (by assumption) | exact ltC rfl) | (have hcL9 := cLine_is; omega)))
local macro_rules | `(tactic| ktr_room) => `(tactic| ((try dsimp only [depth_under_make, depth_in1, depth_deeper, depth_caller, ktrTop]); (with_reducible first | exact un1 (by assumption) rfl | exact un2 (by assumption) rfl | exact un3 (by assumption) rfl | exact un0 (by assumption) | exact ltR rfl)))
section
variable {w : World} {mean : ExcName → Option Value} {mg mb : PySem.Str → Option Value} {dp un : Nat} {gd : Option (List Code)} {cn : PySem.Str} {cs : Scope} {a : Addr} {ccd : Value} {cl : List (PySem.Str × Addr)} {outer : List Env} {A₀ : Around} {base h₀ : Heap} {L : Addr} {m : PySem.Str → Option Value} {s : Shared} {Q E : Value → Shared → Prop} {news : List (Addr × Obj)}
section
set_option maxHeartbeats 4000000 in
theorem told_spec {cx sx : Addr} {us vs : List Value} {n n2 : Nat} {ks sy : List Int}
    (B : Below A₀ base outer h₀) (F : Fr h₀ L s.heap m) (X : (hdx.heap_1 w.params).In h₀) (N : News h₀ L s.heap ((cx, listOf us.toArray n) :: (sx, listOf vs.toArray n2) :: news)) (T : Top vw (looseW vw []) mean mg mb h₀) (hk : cs.kind = .function)
    (hks : IntsAre us ks) (hsy : IntsAre vs sy) (hlen : ks.length = 16) (hk0 : ∀ k ∈ ks, 0 ≤ k ∧ k ≤ 17) (hsum : ks.sum = (sy.length : Int)) (hs8 : sy.length ≤ 17) (hnd : sy.Nodup) (hd : dp + 8 < recursionLimit) (hu : un + 30 < cLine)
    (hret : ∀ (h' : Heap) (tk' : Nat), Fr h₀ L h' m → News h₀ L h' ((cx, listOf us.toArray n) :: (sx, listOf vs.toArray n2) :: news) → Q .none { s with heap := h', toks := tk' }) :
    wpAny (model PySem.Challenge.pw_ok0132_01 w) (ktrTop dp un gd cn cs L a ccd cl outer) (call (.ref 126) [.ref cx, .ref sx]) Q E s := by
  refine wpAny_call ?_
  k_dflt ktr_enter
  k_steps
  all_goals try (exfalso; omega)
  all_goals try (exfalso; rename _ ∈ ks => hM; have := hk0 _ hM; omega)
  rename Obj.SetObjOf (PySem.intKind _ _) _ _ _ => hs0
  rename (cx < _ ∧ _) => l1
  rename News _ _ _ _ => N1
  rename Obj.SetObjOf (PySem.strKind _ _) _ _ _ => hz0
  rename_i sa _ _ _ _
  clear hz0
  k_dflt (refine For_W (by k_asm) ?_)
  k_steps
  have hall := ktn_ltOf l1.2.2
  have hss : vs.length = sy.length := hsy.length
  refine SrcF.intro (n := vs.toArray.size) (S := LCg.SrcAt _ sx vs.toArray) (iterG_list (by exact rfl) (by k_asm) N1 (.inr ⟨_, List.mem_cons_of_mem _ (List.mem_cons_of_mem _ (List.mem_cons_self ..)), rfl, _, rfl⟩)) (by k_asm) N1 (.inr ⟨_, List.mem_cons_of_mem _ (List.mem_cons_of_mem _ (List.mem_cons_self ..)), rfl, _, rfl⟩)
    (fun i m₁ nw => ∃ so St, m₁ "met" = some (.ref sa) ∧ m₁ "symbols" = some (.ref sx) ∧ nw = (sa, so) :: (cx, listOf us.toArray n) :: (sx, listOf vs.toArray n2) :: news ∧ so.SetObjOf (PySem.intKind PySem.Challenge.pw_ok0132_01 w) St i ∧ ∀ k, St k = true → k ∈ sy.take i)
    ⟨_, _, by with_unfolding_all rfl, by with_unfolding_all rfl, rfl, hs0, fun k hk => by cases hk⟩ ?turn ?fin
  case turn =>
    rintro i v I oI m₁ nw h tk hi hv ⟨so, St, hm1, hm2, rfl, hso, hSt⟩ hcI O S F N
    replace F := fr_cast F (pin hm1 (pin hm2 rfl))
    have hsaI := O _ (List.mem_cons_self ..)
    have hIs : I ≠ sa := fun e => hsaI e.symm
    have hcs : cx ≠ sa := Nat.ne_of_lt l1.1
    have hxs : sx ≠ sa := Nat.ne_of_lt l1.2.1
    have hns : ∀ p ∈ news, p.1 ≠ sa := fun p hp => Nat.ne_of_lt (hall p hp)
    obtain ⟨x, tx, rfl, hx⟩ := hsy.at i v (by simpa using hv)
    have hi8 : i < 17 := by simp at hi; omega
    have hnew : St x = false := by
      cases e : St x with
      | false => rfl
      | true =>
        exfalso
        obtain ⟨j, hj, hjx⟩ := List.getElem_of_mem (hSt x e)
        rw [List.length_take] at hj
        rw [List.getElem_take] at hjx
        have hi' : i < sy.length := by simp at hi; omega
        have h2 : sy[i] = x := by rw [List.getElem?_eq_getElem hi'] at hx; exact Option.some.inj hx
        have := (List.getElem_inj hnd (h₀ := by omega) (h₁ := hi')).mp (hjx.trans h2.symm)
        omega
    k_steps
    rename News _ _ _ _ => N'
    rename Obj.SetObjOf _ _ _ _ => hs'
    rw [hnew] at hs'
    refine ForEnd.next (by k_asm) N' hcI _ (fun p hp => hp) ⟨.inl hsaI, .inr rfl, .inr rfl, OffIt.of fun p hp => O p (List.mem_cons_of_mem _ (List.mem_cons_of_mem _ (List.mem_cons_of_mem _ hp)))⟩ (.inr ⟨_, List.mem_cons_of_mem _ (List.mem_cons_of_mem _ (List.mem_cons_self ..)), rfl, _, rfl⟩)
      ⟨_, _, by with_unfolding_all rfl, by with_unfolding_all rfl, rfl, hs', fun k hk => ?_⟩
    rw [List.take_add_one]
    rcases Bool.or_eq_true_iff.mp hk with hk | hk
    · exact List.mem_append_left _ (hSt k hk)
    · rw [hx, of_decide_eq_true hk]
      exact List.mem_append_right _ (List.mem_singleton.mpr rfl)
  case fin =>
    rintro h' tk' m' nw F N S ⟨so, St, hm1, hm2, rfl, hso, hSt⟩
    k_steps
    exact hret _ _ (by k_asm) (by refine' cb_drop ?cbN ?cbS; (case cbN => assumption); (case cbS => kcj_all))

theorem told_use {cx sx : Addr} {us vs : List Value} {n n2 : Nat} {ks sy : List Int} {nw : List (Addr × Obj)}
    (B : Below A₀ base outer h₀) (F : Fr h₀ L s.heap m) (X : (hdx.heap_1 w.params).In h₀) (N : News h₀ L s.heap (nw)) (T : Top vw (looseW vw []) mean mg mb h₀) (hk : cs.kind = .function) (m1 : (cx, listOf us.toArray n) ∈ nw) (m2 : (sx, listOf vs.toArray n2) ∈ nw)
    (hks : IntsAre us ks) (hsy : IntsAre vs sy) (hlen : ks.length = 16) (hk0 : ∀ k ∈ ks, 0 ≤ k ∧ k ≤ 17) (hsum : ks.sum = (sy.length : Int)) (hs8 : sy.length ≤ 17) (hnd : sy.Nodup) (hd : dp + 8 < recursionLimit) (hu : un + 30 < cLine)
    (hret : ∀ (h' : Heap) (tk' : Nat), Fr h₀ L h' m → News h₀ L h' nw → Q .none { s with heap := h', toks := tk' }) :
    wpAny (model PySem.Challenge.pw_ok0132_01 w) (ktrTop dp un gd cn cs L a ccd cl outer) (call (.ref 126) [.ref cx, .ref sx]) Q E s :=
  told_spec B F X (fun p hp => by rcases List.mem_cons.mp hp with rfl | hp; exact N _ m1; rcases List.mem_cons.mp hp with rfl | hp; exact N _ m2; exact N _ hp) T hk hks hsy hlen hk0 hsum hs8 hnd hd hu
    fun h' tk' F' N' => hret h' tk' F' fun p hp => N' p (List.mem_cons_of_mem _ (List.mem_cons_of_mem _ hp))
end
section
def SeqO (o : Obj) (us : List Value) : Prop := o = tupO us ∨ ∃ n, o = listOf us.toArray n
theorem SeqO.noIt {o : Obj} {us : List Value} (h : SeqO o us) : isIt o.cls = false := by rcases h with rfl | ⟨n, rfl⟩ <;> rfl
theorem len_seqO {prog : Program} {A : Around} {l : Addr} {o : Obj} {vs : List Value} {ns : List Int} {nw : List (Addr × Obj)} (N : News h₀ L s.heap nw) (hm : (l, o) ∈ nw) (hO : SeqO o vs) (hi : IntsAre vs ns) (hn : ns.length < 1000)
    (h : Q (.int ns.length (s.toks + 1)) { s with toks := s.toks + 1 + 1 }) : wpAny (model prog w) A (call (.builtin "len") [.ref l]) Q E s := by
  rcases hO with rfl | ⟨n, rfl⟩
  · exact len_tup_ints N hm hi hn h
  · exact len_listN N hm hi.length hn h
theorem item_seqO {prog : Program} {A : Around} {value slice : PySem.Expr} {l : Addr} {o : Obj} {vs : List Value} {ns : List Int} {k : Int} {u : Tok} {nw : List (Addr × Obj)} (N : News h₀ L s.heap nw) (hm : (l, o) ∈ nw) (hO : SeqO o vs) (hi : IntsAre vs ns)
    (h0 : 0 ≤ k) (h1 : k < ns.length) (hfit : k < 2 ^ 63) (h : ∀ t, Q (.int (ns.getD k.toNat 0) t) s)
    (hs : subscripted slice false (.ref l) (.int k u) = operate [.ref l, .int k u] (getItem (.ref l) (.int k u)) := by with_unfolding_all rfl) :
    wpAny (model prog w) A (subscriptTail value slice (.ref l) (.int k u)) Q E s := by
  rcases hO with rfl | ⟨n, rfl⟩
  · exact item_tuple_intsR N hm hi h0 h1 hfit h hs
  · exact item_list_intsR (News.isList N hm) hi h0 h1 hfit h hs
local macro_rules | `(tactic| walk_at "call builtin:len") => `(tactic| (k_here; (with_reducible show wpAny _ _ (call (Value.builtin "len") [Value.ref _]) _ _ _); k_dflt (refine' Mine.len_seqO ?k1 ?k2 ?k3 ?k5 ?k4 ?_; (case k1 => k_asm); (case k2 => k_mem); (case k3 | k5 => assumption); (case k4 => omega); k_whole)))
local macro_rules | `(tactic| walk_at "subscriptTail") => `(tactic| ((with_reducible show wpAny _ _ (subscriptTail _ _ (Value.ref _) (Value.int _ _)) _ _ _); (refine Mine.item_seqO (by k_asm) (by k_mem) (by assumption) (by assumption) (by omega) (by omega) (by omega) ?_); intro _))
set_option maxHeartbeats 4000000 in
theorem rows_spec {ax : Addr} {oC : Obj} {us : List Value} {ks : List Int} (hO : SeqO oC us)
    (B : Below A₀ base outer h₀) (F : Fr h₀ L s.heap m) (X : (hdx.heap_1 w.params).In h₀) (N : News h₀ L s.heap ((ax, oC) :: news)) (T : Top vw (looseW vw []) mean mg mb h₀) (hk : cs.kind = .function)
    (hks : IntsAre us ks) (hlen : ks.length = 16) (hd : dp + 8 < recursionLimit) (hu : un + 30 < cLine)
    (hret : ∀ (lx : Addr) (va : Array Value) (n' : Nat) (extra : List (Addr × Obj)) (h' : Heap) (tk' : Nat), (∀ j < 16, okAt ks j) → (∀ p ∈ extra, p.2.cls = .type "tuple") → (∀ p ∈ extra, lx < p.1 ∧ ax < p.1 ∧ ∀ q ∈ news, q.1 < p.1) → ax < lx → AllLt lx news → RowsAt extra va.toList ks 16 →
      Fr h₀ L h' m → News h₀ L h' ((lx, listOf va n') :: (ax, oC) :: (extra ++ news)) → Q (.ref lx) { s with heap := h', toks := tk' })
    (hraise : ∀ (e : Addr) (h' G : Heap) (tk' : Nat) j, j < 16 → ¬ okAt ks j → Fr h₀ L G m → RaisedSN base G (envX cn cs L a ccd cl :: outer) e (.ref 44) ((ax, oC) :: news) h' → G.UpToSlots h' → E (.ref e) { s with heap := h', toks := tk' }) :
    wpAny (model PySem.Challenge.pw_ok0132_01 w) (ktrTop dp un gd cn cs L a ccd cl outer) (call (.ref 119) [.ref ax]) Q E s := by
  refine wpAny_call ?_
  k_dflt ktr_enter
  k_steps
  k_dflt (refine For_W (by k_asm) ?_)
  k_steps
  rename_i hr F1 N1 _
  rename_i lx _ l1 _ _ dx _ l2 _ _ _ _ _ _ _ _ _ _ _
  refine SrcF.intro (n := 16) (iterG_range (by exact rfl) hr (by rw [hlen]; decide) (by rw [hlen]; decide)) (by k_asm) (fun p hp => N1 p (List.mem_cons_of_mem _ hp)) trivial
    (fun i m₁ nw => ∃ tc tp n' va extra, m₁ "rows" = some (.ref lx) ∧ m₁ "counts" = some (.ref ax) ∧ m₁ "code" = some (.int (codeAt ks i) tc) ∧ m₁ "place" = some (.int (placeAt ks i) tp) ∧ nw = (lx, listOf va n') :: (ax, oC) :: (extra ++ news) ∧ (∀ p ∈ extra, p.2.cls = .type "tuple") ∧ (∀ p ∈ extra, lx < p.1 ∧ ax < p.1 ∧ ∀ q ∈ news, q.1 < p.1) ∧ RowsAt extra va.toList ks i ∧ ∀ j < i, okAt ks j)
    ⟨_, _, _, #[], [], by with_unfolding_all rfl, by with_unfolding_all rfl, by with_unfolding_all rfl, by with_unfolding_all rfl, rfl, (fun p hp => by cases hp), (fun p hp => by cases hp), .zero, fun j hj => absurd hj (Nat.not_lt_zero _)⟩ ?turn ?fin
  case turn =>
    rintro i v I oI m₁ nw h tk hi ⟨t, rfl⟩ ⟨tc, tp, n', va, extra, hm1, hm2, hm3, hm4, rfl, hex, hxx, hR, hok⟩ hcI O S F N
    have hxl : ∀ p ∈ extra ++ news, p.1 ≠ lx := off_append (fun p hp => Nat.ne_of_gt (hxx p hp).1) (fun p hp => Nat.ne_of_lt (ktn_ltOf l1.2 p hp))
    replace F := fr_cast F (pin hm1 (pin hm2 (pin hm3 (pin hm4 rfl))))
    have hlI := O _ (List.mem_cons_self ..)
    have hIl : I ≠ lx := fun e => hlI e.symm
    have hal : ax ≠ lx := Nat.ne_of_lt l1.1
    have hvs : va.size ≤ sizeLine := by rw [sizeLine_eq, ← Array.length_toList, hR.1]; omega
    have hx1 : (1 + (i : Int) * 1 - 1).toNat = i := by omega
    have hx2 : (1 + (i : Int) * 1).toNat = i + 1 := by omega
    generalize hcI' : extra ++ news = tl at N O hxl
    k_steps
    · rename_i a1 a2 _ _ _ _ _ R' U'
      rw [hx1, hx2] at a1
      rw [hx1] at a2
      refine hraise _ _ _ _ i hi (fun q => q ⟨a1, a2⟩) (by k_asm) (raisedSN_sub R' fun p hp => ?_) U'
      rcases List.mem_cons.mp hp with rfl | hp
      · exact List.mem_cons_of_mem _ (List.mem_cons_of_mem _ (List.mem_cons_of_mem _ (List.mem_cons_self ..)))
      · exact List.mem_cons_of_mem _ (List.mem_cons_of_mem _ (List.mem_cons_of_mem _ (List.mem_cons_of_mem _ (hcI' ▸ List.mem_append_right _ hp))))
    all_goals
      rename News _ _ _ _ => N'
      rename (I < _ ∧ _) => l2'
      rw [hx1] at N'
      refine ForEnd.next (by k_asm) (all := (I, oI) :: (lx, _) :: (ax, _) :: (_, _) :: tl) (by refine' cb_drop ?cbN ?cbS; (case cbN => exact N'); (case cbS => kcj_all)) hcI ((lx, _) :: (ax, _) :: (((_, _) :: extra) ++ news)) (by subst hcI'; exact fun p hp => hp) ⟨.inr rfl, .inr hO.noIt, .inr rfl, OffIt.of fun p hp => O p (List.mem_cons_of_mem _ (List.mem_cons_of_mem _ (hcI' ▸ hp)))⟩ trivial
        ⟨_, _, _, _, (_, _) :: extra, by with_unfolding_all rfl, by with_unfolding_all rfl, some_int (by with_unfolding_all rfl) (by rw [hx1]; rfl), some_int (by with_unfolding_all rfl) (by rw [hx1]; rfl), rfl, ?_, ?_, ?_, ?_⟩
      · intro p hp
        rcases List.mem_cons.mp hp with rfl | hp
        · rfl
        · exact hex p hp
      · intro p hp
        rcases List.mem_cons.mp hp with rfl | hp
        · exact ⟨l2'.2.1, l2'.2.2.1, fun q hq => ktn_ltOf l2'.2.2.2 q (hcI' ▸ List.mem_append_right _ hq)⟩
        · exact hxx p hp
      · rw [Array.toList_push]
        exact hR.snoc
      · intro j hj
        by_cases e : j < i
        · exact hok j e
        · obtain rfl : j = i := by omega
          rintro ⟨q1, q2⟩
          first
            | (rename ¬ (2 : Int) ^ _ ≤ _ => a1
               rw [hx1, hx2] at a1
               exact a1 q1)
            | (rename ¬ (0 : Int) < _ => a1
               rw [hx1] at a1
               exact a1 q2)
  case fin =>
    rintro h' tk' m' nw F N S ⟨tc, tp, n', va, extra, hm1, hm2, hm3, hm4, rfl, hex, hxl, hR, hok⟩
    replace F := fr_cast F (pin hm1 rfl)
    generalize hcI' : extra ++ news = tl at N
    k_steps
    subst hcI'
    exact hret _ _ _ _ _ _ hok hex hxl l1.1 l1.2 hR (by k_asm) (by k_asm)

theorem rowsT_use {ax : Addr} {us : List Value} {ks : List Int} {nw : List (Addr × Obj)}
    (B : Below A₀ base outer h₀) (F : Fr h₀ L s.heap m) (X : (hdx.heap_1 w.params).In h₀) (N : News h₀ L s.heap (nw)) (T : Top vw (looseW vw []) mean mg mb h₀) (hk : cs.kind = .function) (m1 : (ax, tupO us) ∈ nw)
    (hks : IntsAre us ks) (hlen : ks.length = 16) (hd : dp + 8 < recursionLimit) (hu : un + 30 < cLine)
    (hret : ∀ (lx : Addr) (va : Array Value) (n' : Nat) (extra : List (Addr × Obj)) (h' : Heap) (tk' : Nat), (∀ j < 16, okAt ks j) → (∀ p ∈ extra, p.2.cls = .type "tuple") → (∀ p ∈ extra, p.1 ≠ lx) → OffX extra nw → AllLt lx nw → RowsAt extra va.toList ks 16 →
      Fr h₀ L h' m → News h₀ L h' ((lx, listOf va n') :: (nw ++ extra)) → Q (.ref lx) { s with heap := h', toks := tk' })
    (hraise : ∀ (e : Addr) (h' G : Heap) (tk' : Nat) j, j < 16 → ¬ okAt ks j → Fr h₀ L G m → RaisedSN base G (envX cn cs L a ccd cl :: outer) e (.ref 44) nw h' → G.UpToSlots h' → E (.ref e) { s with heap := h', toks := tk' }) :
    wpAny (model PySem.Challenge.pw_ok0132_01 w) (ktrTop dp un gd cn cs L a ccd cl outer) (call (.ref 119) [.ref ax]) Q E s :=
  rows_spec (.inl rfl) B F X (fun p hp => by rcases List.mem_cons.mp hp with rfl | hp; exact N _ m1; exact N _ hp) T hk hks hlen hd hu
    (fun lx va n' extra h' tk' a1 a2 a3 a4 a5 a6 F' N' => hret lx va n' extra h' tk' a1 a2 (fun p hp => Nat.ne_of_gt (a3 p hp).1) (fun p hp => (a3 p hp).2.2) a5 a6 F' fun p hp => by
      rcases List.mem_cons.mp hp with rfl | hp
      · exact N' _ (List.mem_cons_self ..)
      · refine N' p (List.mem_cons_of_mem _ (List.mem_cons_of_mem _ ?_))
        rcases List.mem_append.mp hp with hp | hp
        · exact List.mem_append_right _ hp
        · exact List.mem_append_left _ hp)
    (fun e h' G tk' j h1 h2 F' R' U' => hraise e h' G tk' j h1 h2 F' (raisedSN_sub R' fun p hp => List.mem_cons_of_mem _ hp) U')
end
section
theorem fdiv_8 {i : Int} {n : Nat} (h0 : 0 ≤ i) (h1 : ¬ 8 * (n : Int) ≤ i) : 0 ≤ i.fdiv (2 ^ Int.toNat 3) ∧ i.fdiv (2 ^ Int.toNat 3) < (n : Int) := by
  have e : i.fdiv (2 ^ Int.toNat 3) = i / 8 := by rw [Int.fdiv_eq_ediv_of_nonneg _ (by decide)]; rfl
  rw [e]; omega
theorem bInts_len (b : Array UInt8) : (KBw.bInts b).length = b.size := KBw.ints_length b
theorem sh_ok (i : Int) : 0 ≤ 7 - Builtin.bitAnd i 7 := by rw [bitAnd_m3]; omega
def bitOf (ks : List Int) (i : Int) : Int := (ks.getD (i / 8).toNat 0 / 2 ^ (7 - i % 8).toNat) % 2
theorem bitOf_eq (ks : List Int) {i : Int} : Builtin.bitAnd ((ks.getD (i.fdiv (2 ^ Int.toNat 3)).toNat 0).fdiv (2 ^ Int.toNat (7 - Builtin.bitAnd i 7))) 1 = bitOf ks i := by
  rw [bitAnd_m1, bitAnd_m3, Int.fdiv_eq_ediv_of_nonneg _ (show (0 : Int) ≤ 2 ^ Int.toNat 3 by decide), Int.fdiv_eq_ediv_of_nonneg _ (Int.le_of_lt (Int.pow_pos (by decide)))]
  rfl
abbrev rdDict (w : World) (b : Array UInt8) (at_ : Int) (k1 k2 tb ta : Tok) : Obj := dictOf [⟨PyData.keyHash w.params (PySem.Str.ofString "source"), .str (PySem.Str.ofString "source") k1, .bytes b tb⟩, ⟨PyData.keyHash w.params (PySem.Str.ofString "at"), .str (PySem.Str.ofString "at") k2,   .int at_ ta⟩] 2
set_option maxHeartbeats 4000000 in
theorem bit_spec {rd dx : Addr} {b : Array UInt8} {i : Int} {k1 k2 tb ta : Tok} {news : List (Addr × Obj)}
    (B : Below A₀ base outer h₀) (F : Fr h₀ L s.heap m) (X : (hdx.heap_1 w.params).In h₀) (N : News h₀ L s.heap ((dx, rdDict w b i k1 k2 tb ta) :: (rd, instObj 108 dx) :: news)) (T : Top vw (looseW vw []) mean mg mb h₀) (hk : cs.kind = .function)
    (hoff : ∀ p ∈ (rd, instObj 108 dx) :: news, p.1 ≠ dx) (hi0 : 0 ≤ i) (hb : b.size ≤ 8) (hi1 : i ≤ 100)
    (hd : dp + 8 < recursionLimit) (hu : un + 30 < cLine)
    (hret : ∀ (tr ta' : Tok) (h' : Heap) (tk' : Nat), i < 8 * b.size → Fr h₀ L h' m → News h₀ L h' ((dx, rdDict w b (i + 1) k1 k2 tb ta') :: (rd, instObj 108 dx) :: news) → Q (.int (bitOf (KBw.bInts b) i) tr) { s with heap := h', toks := tk' })
    (hraise : ∀ (e : Addr) (h' G : Heap) (tk' : Nat), 8 * b.size ≤ i → Fr h₀ L G m → RaisedSN base G (envX cn cs L a ccd cl :: outer) e (.ref 68) ((dx, rdDict w b i k1 k2 tb ta) :: (rd, instObj 108 dx) :: news) h' → G.UpToSlots h' → E (.ref e) { s with heap := h', toks := tk' }) :
    wpAny (model PySem.Challenge.pw_ok0132_01 w) (ktrTop dp un gd cn cs L a ccd cl outer) (call (.ref 98) [.ref rd]) Q E s := by
  refine wpAny_call ?_
  k_dflt ktr_enter
  k_steps
  · exact hraise _ _ _ _ (by with_reducible assumption) (by k_asm) (by k_asm) (by k_asm)
  · walk1
    k_steps
    k_dflt (refine' KBw.item_K rfl ?k1 ?k2 ?k3 ?_ ?k4 ?k5; (case k1 => rw [bInts_len]; omega); (case k2 => exact (fdiv_8 (by assumption) (by assumption)).1); (case k3 => rw [bInts_len]; exact (fdiv_8 (by assumption) (by assumption)).2); (case k4 => with_unfolding_all rfl); (case k5 => intro _; with_unfolding_all rfl))
    intro _ _ _ _
    k_steps
    with_reducible refine rshift_int (sh_ok _) ?_
    k_steps
    rw [bitOf_eq]
    exact hret _ _ _ _ (Int.not_le.mp (by with_reducible assumption)) (by k_asm) (by k_asm)
end
section
theorem bit_use {rd dx : Addr} {b : Array UInt8} {i : Int} {k1 k2 tb ta : Tok} {nw : List (Addr × Obj)} {nw' : Tok → List (Addr × Obj)}
    (B : Below A₀ base outer h₀) (F : Fr h₀ L s.heap m) (X : (hdx.heap_1 w.params).In h₀) (N : News h₀ L s.heap (nw)) (T : Top vw (looseW vw []) mean mg mb h₀) (hk : cs.kind = .function) (m1 : (rd, instObj 108 dx) ∈ nw) (U : ∀ ta', Upd dx (rdDict w b i k1 k2 tb ta) (rdDict w b (i + 1) k1 k2 tb ta') nw (nw' ta'))
    (hi0 : 0 ≤ i) (hb : b.size ≤ 8) (hi1 : i ≤ 100)
    (hd : dp + 8 < recursionLimit) (hu : un + 30 < cLine)
    (hret : ∀ (tr ta' : Tok) (h' : Heap) (tk' : Nat), i < 8 * b.size → Fr h₀ L h' m → News h₀ L h' (nw' ta') → Q (.int (bitOf (KBw.bInts b) i) tr) { s with heap := h', toks := tk' })
    (hraise : ∀ (e : Addr) (h' G : Heap) (tk' : Nat), 8 * b.size ≤ i → Fr h₀ L G m → RaisedSN base G (envX cn cs L a ccd cl :: outer) e (.ref 68) nw h' → G.UpToSlots h' → E (.ref e) { s with heap := h', toks := tk' }) :
    wpAny (model PySem.Challenge.pw_ok0132_01 w) (ktrTop dp un gd cn cs L a ccd cl outer) (call (.ref 98) [.ref rd]) Q E s := by
  have hd0 := (N _ (upd_split (U 0)).1).1
  have hr0 := (N _ m1).1
  have hne : rd ≠ dx := fun e => by
    rw [e] at hr0
    dsimp only at hd0 hr0
    rw [hd0] at hr0
    have := congrArg (fun o => o.cls) (Option.some.inj hr0)
    cases this
  refine bit_spec (dx := dx) (k1 := k1) (k2 := k2) (tb := tb) (ta := ta) (news := offAddr dx nw) B F X (fun p hp => ?_) T hk (fun p hp => ?_) hi0 hb hi1 hd hu ?_ ?_
  · rcases List.mem_cons.mp hp with rfl | hp
    · exact N _ (upd_split (U 0)).1
    · rcases List.mem_cons.mp hp with rfl | hp
      · exact N _ m1
      · exact N _ (List.mem_filter.mp hp).1
  · rcases List.mem_cons.mp hp with rfl | hp
    · exact hne
    · exact offAddr_off p hp
  · intro tr ta' h' tk' hlt F' N'
    refine hret tr ta' h' tk' hlt F' fun p hp => ?_
    rcases (upd_split (U ta')).2 p hp with rfl | ⟨h1, h2⟩
    · exact N' _ (List.mem_cons_self ..)
    · exact N' _ (List.mem_cons_of_mem _ (List.mem_cons_of_mem _ (List.mem_filter.mpr ⟨h1, by simpa using h2⟩)))
  · intro e h' G tk' hle F' R' U'
    refine hraise e h' G tk' hle F' (raisedSN_sub R' fun p hp => ?_) U'
    by_cases e : p.1 = dx
    · have h1 := (N p hp).1
      rw [e, hd0] at h1
      have : p = (dx, rdDict w b i k1 k2 tb ta) := by
        obtain ⟨p1, p2⟩ := p
        dsimp only at e h1
        rw [e, ← Option.some.inj h1]
      rw [this]
      exact List.mem_cons_self ..
    · exact List.mem_cons_of_mem _ (List.mem_cons_of_mem _ (List.mem_filter.mpr ⟨hp, by simpa using e⟩))
end
section
local macro_rules | `(tactic| k_all) => `(tactic| (refine Mine.off_append ?a ?b; (case a => k_all); (case b => exact Mine.off_extra (by assumption) (by simp))))
local macro_rules | `(tactic| walk_at "leaving ref") => `(tactic| (k_here; k_dflt (refine' leave_onSN ?k1 ?k2 ?k3 ?k4 ?_; (case k1 | k3 | k2 | k4 => assumption); k_whole); intro h' R' R2' U'; (try dsimp only at R' U' ⊢)))
local macro_rules | `(tactic| walk_at "subscriptTail") => `(tactic| ((with_reducible show wpAny _ _ (subscriptTail _ _ (Value.ref _) (Value.int _ _)) _ _ _); (refine Mine.item_tuple_intsR (by k_asm) (by k_mem) (by assumption) (by omega) (by omega) (by omega) ?_); intro _))
local macro_rules | `(tactic| walk_at "subscriptTail") => `(tactic| ((with_reducible show wpAny _ _ (subscriptTail _ _ (Value.ref _) (Value.int _ _)) _ _ _); (refine item_listR (by is_list) (by omega) (by omega) (by with_reducible assumption) ?_)))
abbrev huffDict (w : World) (ct st lx cd : Addr) (k1 k2 k3 k4 : Tok) : Obj := dictOf [⟨PyData.keyHash w.params (PySem.Str.ofString "counts"), .str (PySem.Str.ofString "counts") k1, .ref ct⟩, ⟨PyData.keyHash w.params (PySem.Str.ofString "symbols"), .str (PySem.Str.ofString "symbols") k2, .ref st⟩, ⟨PyData.keyHash w.params (PySem.Str.ofString "rows"), .str (PySem.Str.ofString "rows") k3, .ref lx⟩, ⟨PyData.keyHash w.params (PySem.Str.ofString "codes"), .str (PySem.Str.ofString "codes") k4, .ref cd⟩] 4
set_option maxHeartbeats 4000000 in
theorem huff_spec {cx sx : Addr} {us vs : List Value} {n n2 : Nat} {ks sy : List Int}
    (B : Below A₀ base outer h₀) (F : Fr h₀ L s.heap m) (X : (hdx.heap_1 w.params).In h₀) (N : News h₀ L s.heap ((cx, listOf us.toArray n) :: (sx, listOf vs.toArray n2) :: news)) (T : Top vw (looseW vw []) mean mg mb h₀) (hk : cs.kind = .function)
    (hks : IntsAre us ks) (hsy : IntsAre vs sy) (hlen : ks.length = 16) (hk0 : ∀ k ∈ ks, 0 ≤ k ∧ k ≤ 17) (hsum : ks.sum = (sy.length : Int)) (hs8 : sy.length ≤ 17) (hnd : sy.Nodup) (hd : dp + 12 < recursionLimit) (hu : un + 80 < cLine)
    (hret : ∀ (x dx ct st lx cd : Addr) (k1 k2 k3 k4 : Tok) (va : Array Value) (n' : Nat) (o : Obj) (kvs : List (Int × Value)) (extra ex2 : List (Addr × Obj)) (h' : Heap) (tk' : Nat), (∀ j < 16, okAt ks j) → (cd == sysModules) = false → RowsAt extra va.toList ks 16 →
      o.IsDictOf (PySem.intKind PySem.Challenge.pw_ok0132_01 w) kvs → CodesAt ex2 kvs sy ks sy.length → (∀ p ∈ extra ++ ex2, p.2.cls = .type "tuple") → (cx < dx ∧ sx < dx ∧ AllLt dx news) → dx < x → x < ct → ct < st → st < lx → lx < cd → (∀ p ∈ extra ++ ex2, st < p.1) →
      Fr h₀ L h' m → News h₀ L h' ((x, instObj 157 dx) :: (dx, huffDict w ct st lx cd k1 k2 k3 k4) :: (ct, tupO us) :: (st, tupO vs) :: (lx, listOf va n') :: (cd, o) :: (cx, listOf us.toArray n) :: (sx, listOf vs.toArray n2) :: (news ++ (extra ++ ex2))) → Q (.ref x) { s with heap := h', toks := tk' })
    (hraise : ∀ (e : Addr) (h' G : Heap) (tk' : Nat) j, j < 16 → ¬ okAt ks j → Fr h₀ L G m → RaisedSN base G (envX cn cs L a ccd cl :: outer) e (.ref 44) ((cx, listOf us.toArray n) :: (sx, listOf vs.toArray n2) :: news) h' → G.UpToSlots h' → E (.ref e) { s with heap := h', toks := tk' }) :
    wpAny (model PySem.Challenge.pw_ok0132_01 w) (ktrTop dp un gd cn cs L a ccd cl outer) (call (.ref 157) [.ref cx, .ref sx]) Q E s := by
  have hus : us.toArray.size ≤ sizeLine := by rw [sizeLine_eq, List.size_toArray, hks.length, hlen]; decide
  have hvs : vs.toArray.size ≤ sizeLine := by rw [sizeLine_eq, List.size_toArray, hsy.length]; omega
  k_dflt (refine' call_cls ?k1 ?k2 ?k3 ?k4 ?k5 ?k6 ?_; (case k1 | k2 | k3 => k_asm); (case k4 | k5 | k6 => k_is); k_whole; intro x' dx h10 F1 N1 l1x l2x; (try k_lt l1x); (try k_lt2 l2x); (try k_sweep); ktr_enter)
  k_steps
  k_dflt (refine' told_use ?k1 ?k2 ?k3 ?k4 ?k5 ?k6 ?k7 ?k8 ?k9 ?k10 ?k11 ?k12 ?k13 ?k14 ?k15 ?k16 ?k17 ?_; (case k1 | k2 | k3 | k4 | k5 => k_asm); (case k6 => first | exact rfl | assumption); (case k7 | k8 => k_mem); (case k9 | k10 | k11 | k12 | k13 | k14 | k15 => with_reducible assumption); (case k16 => ktr_room); (case k17 => ktr_units); k_whole)
  intro _ _ _ _
  k_steps
  k_dflt (refine' Mine.tuple_K ?k1 ?k2 ?k3 ?k4 ?_; (case k1 | k2 => k_asm); (case k3 => k_mem); (case k4 => with_reducible assumption); k_whole)
  intro ct h7 F7 N7 l13
  (try k_lt l13)
  k_steps
  k_dflt (refine' Mine.tuple_K ?k1 ?k2 ?k3 ?k4 ?_; (case k1 | k2 => k_asm); (case k3 => k_mem); (case k4 => with_reducible assumption); k_whole)
  intro st h5 F5 N5 l12
  (try k_lt l12)
  k_steps
  rename_i g' L' h9 FG' B' X' T' tk2 h8 tk1' h6 tk1 h4 F2 N2
  k_dflt (refine' rowsT_use ?k1 ?k2 ?k3 ?k4 ?k5 ?k6 ?k7 ?k8 ?k9 ?k10 ?k11 ?_ ?_; (case k1 | k2 | k3 | k4 | k5 => k_asm); (case k6 => first | exact rfl | assumption); (case k7 => k_mem); (case k8 | k9 => with_reducible assumption); (case k10 => ktr_room); (case k11 => ktr_units); k_whole)
  case' _ =>
    intro lx va n' extra h3 tk' hok hex hxl hxo l11 hR F3 N3
    simp only [AllLt, and_true] at l11
    simp only [List.cons_append, List.nil_append] at N3
    k_steps
    rename_i h2 cd h1 o0 lo hs fs hi fi l1 hh F' N'
    obtain ⟨k1, k2, k3, k4, N2⟩ : ∃ k1 k2 k3 k4, News g' L' hh ((cd, o0) :: (lx, listOf va n') :: (st, tupO vs) :: (ct, tupO us) :: (x', instObj 157 dx) :: (dx, huffDict w ct st lx cd k1 k2 k3 k4) :: (cx, listOf us.toArray n) :: (sx, listOf vs.toArray n2) :: (news ++ extra)) := ⟨_, _, _, _, N'⟩
    clear N' N1
    have hnn := placeAt_nn hk0
    have hxa : ∀ p ∈ news ++ extra, p.1 < cd := ktn_ltOf (by simpa using l1.2.2.2.2.2.2.2)
    have hvaS : va.size = 16 := by have := hR.1; simpa using this
    k_dflt (refine For_W (by k_asm) ?_)
    k_steps
    rename IsRange _ _ _ _ _ _ _ _ => hr
    rename News g' L' _ _ => N3
    refine SrcF.intro (n := 16) (iterG_range (by exact rfl) hr (by decide) (by decide)) (by k_asm) N3 trivial
      (fun i m₁ nw => ∃ o kvs ex2, m₁ "self" = some (.ref x') ∧ nw = (cd, o) :: (lx, listOf va n') :: (st, tupO vs) :: (ct, tupO us) :: (x', instObj 157 dx) :: (dx, huffDict w ct st lx cd k1 k2 k3 k4) :: (cx, listOf us.toArray n) :: (sx, listOf vs.toArray n2) :: (ex2 ++ (news ++ extra)) ∧ o.IsDictOf (PySem.intKind PySem.Challenge.pw_ok0132_01 w) kvs ∧ (∀ p ∈ ex2, p.2.cls = .type "tuple" ∧ cd < p.1) ∧ CodesAt ex2 kvs sy ks (placeAt ks i))
      ⟨o0, [], [], by with_unfolding_all rfl, rfl, hi, (fun p hp => by cases hp), CodesAt.zero hk0⟩ ?turn ?fin
    case turn =>
      rintro i v I oI m₁ nw h tk hi16 ⟨t, hv⟩ ⟨o, kvs, ex2, hm1, rfl, hod, hx2, hC⟩ hcI O S F N
      rw [show (1 + (i : Int) * 1) = i + 1 by omega] at hv
      subst hv
      replace F := fr_cast F (pin hm1 rfl)
      have hcdI := O _ (List.mem_cons_self ..)
      have hIcd : I ≠ cd := fun e => hcdI e.symm
      obtain ⟨Tr, t1, t2, t3, hva, hTr⟩ := hR.2 i hi16
      have hTcd : Tr ≠ cd := Nat.ne_of_lt (hxa _ (List.mem_append_right _ hTr))
      have hva' : va[((i : Int) + 1 - 1).toNat]? = some (.ref Tr) := by rw [show ((i : Int) + 1 - 1).toNat = i by omega]; simpa using hva
      have htcd : ∀ p ∈ ex2 ++ (news ++ extra), p.1 ≠ cd := off_append (fun p hp => Nat.ne_of_gt (hx2 p hp).2) (fun p hp => Nat.ne_of_lt (hxa p hp))
      have hTtl : (Tr, tup3 (codeAt ks i) (ks.getD i 0) (placeAt ks i) t1 t2 t3) ∈ ex2 ++ (news ++ extra) := List.mem_append_right _ (List.mem_append_right _ hTr)
      generalize htl : ex2 ++ (news ++ extra) = tl at N O htcd hTtl
      have N4 : News g' L' h ((Tr, tup3 (codeAt ks i) (ks.getD i 0) (placeAt ks i) t1 t2 t3) :: (I, oI) :: (cd, o) :: (lx, listOf va n') :: (st, tupO vs) :: (ct, tupO us) :: (x', instObj 157 dx) :: (dx, huffDict w ct st lx cd k1 k2 k3 k4) :: (cx, listOf us.toArray n) :: (sx, listOf vs.toArray n2) :: tl) := fun p hp => by
        rcases List.mem_cons.mp hp with rfl | hp
        · exact N _ (by simp only [List.mem_cons]; (iterate 9 right); exact hTtl)
        · exact N p hp
      clear N
      k_steps
      k_dflt (refine For_W (by k_asm) ?_)
      k_steps
      rename IsRange _ _ _ _ _ _ _ _ => hr2
      rename News g' L' _ _ => N5
      have hki := getD_nn hk0 i
      refine SrcF.intro (n := (ks.getD i 0).toNat) (iterG_range (by exact rfl) hr2 (range_up hki.1 hki.2).1 (range_up hki.1 hki.2).2) (by k_asm) (fun p hp => N5 p (List.mem_cons_of_mem _ hp)) trivial
        (fun k m₁ nw => ∃ o kvs ex2, m₁ "self" = some (.ref x') ∧ m₁ "size" = some (.int ((i : Int) + 1) t) ∧ m₁ "first" = some (.int (codeAt ks i) t1) ∧ m₁ "place" = some (.int (placeAt ks i) t3) ∧ nw = (I, oI) :: (cd, o) :: (lx, listOf va n') :: (st, tupO vs) :: (ct, tupO us) :: (x', instObj 157 dx) :: (dx, huffDict w ct st lx cd k1 k2 k3 k4) :: (cx, listOf us.toArray n) :: (sx, listOf vs.toArray n2) :: (ex2 ++ (news ++ extra)) ∧ o.IsDictOf (PySem.intKind PySem.Challenge.pw_ok0132_01 w) kvs ∧ (∀ p ∈ ex2, p.2.cls = .type "tuple" ∧ cd < p.1) ∧ CodesAt ex2 kvs sy ks (placeAt ks i + k))
        ⟨o, kvs, ex2, by with_unfolding_all rfl, by with_unfolding_all rfl, by with_unfolding_all rfl, by with_unfolding_all rfl, by subst htl; rfl, hod, hx2, hC.cast (by simp)⟩ ?t2 ?f2
      case t2 =>
        rintro k v I2 oI2 m₂ nw h5 tk5 hk8 ⟨tt, hv⟩ ⟨o, kvs, ex2, hm1, hm2, hm3, hm4, rfl, hod, hx2, hC⟩ hcI2 O2 S2 F N
        rw [show (0 + (k : Int) * 1) = k by omega] at hv
        subst hv
        replace F := fr_cast F (pin hm1 (pin hm2 (pin hm3 (pin hm4 rfl))))
        have hcdI2 := O2 (cd, o) (by simp)
        have hIcd2 : I2 ≠ cd := fun e => hcdI2 e.symm
        have hkk : (k : Int) < ks.getD i 0 := by omega
        have hpm := placeAt_mono hk0 (i := i + 1) (j := 16) hi16
        have hps : placeAt ks (i + 1) = placeAt ks i + ks.getD i 0 := rfl
        have hp16 : placeAt ks 16 = sy.length := by rw [placeAt_take, List.take_of_length_le (by omega)]; exact hsum
        have hpn := hnn i
        have hpl : placeAt ks i + k < sy.length := by omega
        have hkl : kvs.length ≤ sizeLine := by rw [sizeLine_eq]; have := hC.1; omega
        have htcd : ∀ p ∈ ex2 ++ (news ++ extra), p.1 ≠ cd := off_append (fun p hp => Nat.ne_of_gt (hx2 p hp).2) (fun p hp => Nat.ne_of_lt (hxa p hp))
        clear N5
        generalize htl2 : ex2 ++ (news ++ extra) = tl2 at N O2 htcd
        repeat' ((fail_if_success (with_reducible refine stSI ?_)); tb_rel)
        k_dflt (refine' kda_set (knd := PySem.intKind _ _) ?F ?N ?U ?d (intKind_is _ _ _ _) ?z ?_; (case F | N => k_asm); (case U => k_updF); (case d | z => with_reducible assumption))
        intro h6 o' F6 N6 hd'
        (try dsimp only at N6)
        k_steps
        rename (I2 < _ ∧ _) => l2
        rw [hC.stored hnd hk0 hpl] at hd'
        have hO2 : ∀ p ∈ tl2, p.1 ≠ I2 := fun p hp => O2 p (by simp only [List.mem_cons]; (iterate 9 right); exact hp)
        refine ForEnd.next (by k_asm) (all := (I2, oI2) :: (I, oI) :: (cd, o') :: (lx, listOf va n') :: (st, tupO vs) :: (ct, tupO us) :: (x', instObj 157 dx) :: (dx, huffDict w ct st lx cd k1 k2 k3 k4) :: (cx, listOf us.toArray n) :: (sx, listOf vs.toArray n2) :: (_, tup2 _ _ _ _) :: tl2) (by refine' cb_drop ?cbN ?cbS; (case cbN => exact N6); (case cbS => kcj_all)) hcI2
          ((I, oI) :: (cd, o') :: (lx, listOf va n') :: (st, tupO vs) :: (ct, tupO us) :: (x', instObj 157 dx) :: (dx, huffDict w ct st lx cd k1 k2 k3 k4) :: (cx, listOf us.toArray n) :: (sx, listOf vs.toArray n2) :: (((_, tup2 _ _ _ _) :: ex2) ++ (news ++ extra))) (by subst htl2; exact fun p hp => hp)
          ⟨.inl (O2 (I, oI) (List.mem_cons_self ..)), .inl hcdI2, .inr rfl, .inr rfl, .inr rfl, .inr rfl, .inr rfl, .inr rfl, .inr rfl, .inr rfl, OffIt.of (by subst htl2; exact hO2)⟩ trivial
          ⟨_, _, (_, _) :: ex2, by with_unfolding_all rfl, by with_unfolding_all rfl, by with_unfolding_all rfl, by with_unfolding_all rfl, rfl, hd', ?_, hC.snoc hk0 hkk⟩
        intro p hp
        rcases List.mem_cons.mp hp with rfl | hp
        · exact ⟨rfl, l2.2.2.1⟩
        · exact hx2 p hp
      case f2 =>
        rintro h5 tk5 m₂ nw F N S2 ⟨o, kvs, ex2', hm1, hm2, hm3, hm4, rfl, hod, hx2', hC'⟩
        k_steps
        refine ForEnd.next F N hcI ((cd, _) :: (lx, listOf va n') :: (st, tupO vs) :: (ct, tupO us) :: (x', instObj 157 dx) :: (dx, huffDict w ct st lx cd k1 k2 k3 k4) :: (cx, listOf us.toArray n) :: (sx, listOf vs.toArray n2) :: (ex2' ++ (news ++ extra))) (fun p hp => hp)
          ⟨.inl hcdI, .inr rfl, .inr rfl, .inr rfl, .inr rfl, .inr rfl, .inr rfl, .inr rfl, OffIt.append (OffIt.ofC fun p hp => by rw [(hx2' p hp).1]; rfl) (OffIt.of fun p hp => O p (by simp only [List.mem_cons]; (iterate 8 right); rw [← htl]; exact List.mem_append_right _ hp))⟩ trivial
          ⟨o, kvs, ex2', hm1, rfl, hod, hx2', hC'.cast (by show _ = placeAt ks i + ks.getD i 0; omega)⟩
    case fin =>
      rintro h' tk' m' nw F N S ⟨o, kvs, ex2, hm1, rfl, hod, hx2, hC⟩
      generalize htl : ex2 ++ (news ++ extra) = tl at N
      k_steps
      subst htl
      have hp16 : placeAt ks 16 = sy.length := by rw [placeAt_take, List.take_of_length_le (by omega)]; exact hsum
      refine hret x' dx ct st lx cd k1 k2 k3 k4 va n' o kvs extra ex2 _ _ hok lo hR hod (hC.cast hp16) ?_ l1x l2x l13.1 l12.1 l11.1 l1.1 ?_ (by k_asm) ?_
      · intro p hp
        rcases List.mem_append.mp hp with hp | hp
        · exact hex p hp
        · exact (hx2 p hp).1
      · intro p hp
        rcases List.mem_append.mp hp with hp | hp
        · exact hxo p hp _ (List.mem_cons_self ..)
        · exact Nat.lt_trans (Nat.lt_trans l11.1 l1.1) (hx2 p hp).2
      · rename News h₀ L _ _ => N9
        intro p hp
        refine N9 p ?_
        simp only [List.mem_cons, List.mem_append] at hp ⊢
        rcases hp with h | h | h | h | h | h | h | h | h | h | h <;> simp [h]
  intro _ _ _ _ _ _ _ _ _ _
  k_steps
  rename RaisedSN _ _ _ _ _ _ _ => R'
  rename Heap.UpToSlots _ _ => U'
  exact hraise _ _ _ _ _ (by assumption) (by assumption) (by k_asm) (raisedSN_sub R' fun p hp => by simp only [List.mem_cons] at hp ⊢; rcases hp with h | h | h <;> simp [h]) U'
def vAt (b : Array UInt8) (p : Int) : Nat → Int
  | 0 => 0
  | i + 1 => vAt b p i * 2 + bitOf (KBw.bInts b) (p + i)
def missAt (b : Array UInt8) (p : Int) (ks : List Int) (i : Nat) : Prop := ks.getD i 0 ≤ vAt b p (i + 1) - codeAt ks i
theorem bitOf_nn (l : List Int) (i : Int) : 0 ≤ bitOf l i := Int.emod_nonneg _ (by decide)
theorem vAt_ge {b : Array UInt8} {p : Int} {ks : List Int} : ∀ {i : Nat}, (∀ j < i, missAt b p ks j) → codeAt ks i ≤ vAt b p i * 2 + bitOf (KBw.bInts b) (p + i)
  | 0, _ => by
    have := bitOf_nn (KBw.bInts b) (p + (0 : Nat))
    show (0 : Int) ≤ 0 * 2 + _
    omega
  | i + 1, h => by
    have h1 := h i (Nat.lt_succ_self i)
    have h2 := bitOf_nn (KBw.bInts b) (p + (i + 1 : Nat))
    unfold missAt at h1
    show (codeAt ks i + ks.getD i 0) * 2 ≤ _
    omega
set_option maxHeartbeats 4000000 in
theorem read_spec {tb td ct st lx cd rd dx : Addr} {k1 k2 k3 k4 r1 r2 r3 r4 : Tok} {vs : List Value} {ks sy : List Int} {b : Array UInt8} {p : Int} {va : Array Value} {n' : Nat}
    (B : Below A₀ base outer h₀) (F : Fr h₀ L s.heap m) (X : (hdx.heap_1 w.params).In h₀) (N : News h₀ L s.heap ((td, huffDict w ct st lx cd k1 k2 k3 k4) :: (tb, instObj 157 td) :: (st, tupO vs) :: (lx, listOf va n') :: (dx, rdDict w b p r1 r2 r3 r4) :: (rd, instObj 108 dx) :: news)) (T : Top vw (looseW vw []) mean mg mb h₀) (hk : cs.kind = .function)
    (hsy : IntsAre vs sy) (hlen : ks.length = 16) (hk0 : ∀ k ∈ ks, 0 ≤ k ∧ k ≤ 17) (hsum : ks.sum = (sy.length : Int)) (hs8 : sy.length ≤ 17) (hp0 : 0 ≤ p) (hp1 : p ≤ 64) (hb : b.size ≤ 8)
    (hR : RowsAt news va.toList ks 16) (hoff : ∀ q ∈ (td, huffDict w ct st lx cd k1 k2 k3 k4) :: (tb, instObj 157 td) :: (st, tupO vs) :: (lx, listOf va n') :: (rd, instObj 108 dx) :: news, q.1 ≠ dx)
    (hd : dp + 14 < recursionLimit) (hu : un + 60 < cLine)
    (hret : ∀ (i : Nat) (tr ta' : Tok) (h' : Heap) (tk' : Nat), i < 16 → p + i < 8 * b.size → (∀ j < i, missAt b p ks j) → ¬ missAt b p ks i → Fr h₀ L h' m →
      News h₀ L h' ((td, huffDict w ct st lx cd k1 k2 k3 k4) :: (tb, instObj 157 td) :: (st, tupO vs) :: (lx, listOf va n') :: (dx, rdDict w b (p + i + 1) r1 r2 r3 ta') :: (rd, instObj 108 dx) :: news) → Q (.int (sy.getD (placeAt ks i + vAt b p (i + 1) - codeAt ks i).toNat 0) tr) { s with heap := h', toks := tk' })
    (hcut : ∀ (i : Nat) (e : Addr) (h' G : Heap) (tk' : Nat) (ta' : Tok), i < 16 → 8 * b.size ≤ p + i → (∀ j < i, missAt b p ks j) → (∀ j < i, p + j < 8 * b.size) → Fr h₀ L G m →
      RaisedSN base G (envX cn cs L a ccd cl :: outer) e (.ref 68) ((td, huffDict w ct st lx cd k1 k2 k3 k4) :: (tb, instObj 157 td) :: (st, tupO vs) :: (lx, listOf va n') :: (dx, rdDict w b (p + i) r1 r2 r3 ta') :: (rd, instObj 108 dx) :: news) h' → G.UpToSlots h' → E (.ref e) { s with heap := h', toks := tk' })
    (hcode : ∀ (e : Addr) (h' G : Heap) (tk' : Nat) (ta' : Tok), (∀ j < 16, missAt b p ks j) → (∀ j : Nat, j < 16 → p + j < 8 * b.size) → Fr h₀ L G m →
      RaisedSN base G (envX cn cs L a ccd cl :: outer) e (.ref 56) ((td, huffDict w ct st lx cd k1 k2 k3 k4) :: (tb, instObj 157 td) :: (st, tupO vs) :: (lx, listOf va n') :: (dx, rdDict w b (p + 16) r1 r2 r3 ta') :: (rd, instObj 108 dx) :: news) h' → G.UpToSlots h' → E (.ref e) { s with heap := h', toks := tk' }) :
    wpAny (model PySem.Challenge.pw_ok0132_01 w) (ktrTop dp un gd cn cs L a ccd cl outer) (call (.ref 154) [.ref tb, .ref rd]) Q E s := by
  have hvaS : va.size = 16 := by have := hR.1; simpa using this
  refine wpAny_call ?_
  k_dflt ktr_enter
  k_steps
  k_dflt (refine For_W (by k_asm) ?_)
  k_steps
  rename News _ _ _ _ => N3
  refine SrcF.intro (n := va.size) (S := LCg.SrcAt _ lx va) (iterG_list (by exact rfl) (by k_asm) N3 (.inr ⟨_, by k_mem, rfl, _, rfl⟩)) (by k_asm) N3 (.inr ⟨_, by k_mem, rfl, _, rfl⟩)
    (fun i m₁ nw => ∃ tc ta' q, q = p + (i : Int) ∧ m₁ "self" = some (.ref tb) ∧ m₁ "reader" = some (.ref rd) ∧ m₁ "code" = some (.int (vAt b p i) tc) ∧ nw = (td, huffDict w ct st lx cd k1 k2 k3 k4) :: (tb, instObj 157 td) :: (st, tupO vs) :: (lx, listOf va n') :: (dx, rdDict w b q r1 r2 r3 ta') :: (rd, instObj 108 dx) :: news ∧ (∀ j < i, missAt b p ks j) ∧ ∀ j < i, p + j < 8 * b.size)
    ⟨_, _, p, by omega, by with_unfolding_all rfl, by with_unfolding_all rfl, by with_unfolding_all rfl, rfl, (fun j hj => absurd hj (Nat.not_lt_zero _)), fun j hj => absurd hj (Nat.not_lt_zero _)⟩ ?turn ?fin
  case turn =>
    rintro i v I oI m₁ nw h tk hi hv ⟨tc, ta', q, hq, hm1, hm2, hm3, rfl, hmiss, hroom⟩ hcI O S F N
    replace F := fr_cast F (pin hm1 (pin hm2 (pin hm3 rfl)))
    rw [hvaS] at hi
    obtain ⟨Tr, t1, t2, t3, hva, hTr⟩ := hR.2 i hi
    have hv' : v = .ref Tr := by
      have : va[i]? = some (.ref Tr) := by simpa using hva
      rw [this] at hv
      exact (Option.some.inj hv).symm
    subst hv'
    have hTd : Tr ≠ dx := hoff _ (by simp only [List.mem_cons]; (iterate 5 right); exact hTr)
    have hdI : I ≠ dx := fun e => O _ (by simp only [List.mem_cons]; (iterate 4 right); left; rfl) e.symm
    have hd : td ≠ dx := hoff _ (List.mem_cons_self ..)
    have hd : tb ≠ dx := hoff _ (by simp only [List.mem_cons]; right; left; rfl)
    have hd3 : st ≠ dx := hoff _ (by simp only [List.mem_cons]; right; right; left; rfl)
    have hd4 : lx ≠ dx := hoff _ (by simp only [List.mem_cons]; right; right; right; left; rfl)
    have hd5 : rd ≠ dx := hoff _ (by simp only [List.mem_cons]; right; right; right; right; left; rfl)
    have hd6 : ∀ q ∈ news, q.1 ≠ dx := fun q hq => hoff q (by simp only [List.mem_cons]; (iterate 5 right); exact hq)
    have hge := vAt_ge hmiss
    have hki := getD_nn hk0 i
    have hpm := placeAt_mono hk0 (i := i + 1) (j := 16) hi
    have hps : placeAt ks (i + 1) = placeAt ks i + ks.getD i 0 := rfl
    have hp16 : placeAt ks 16 = sy.length := by rw [placeAt_take, List.take_of_length_le (by omega)]; exact hsum
    have hpn := placeAt_nn hk0 i
    rw [← hq] at hge
    have N4 := N
    replace N4 := (show News _ _ h ((Tr, tup3 (codeAt ks i) (ks.getD i 0) (placeAt ks i) t1 t2 t3) :: (I, oI) :: (td, huffDict w ct st lx cd k1 k2 k3 k4) :: (tb, instObj 157 td) :: (st, tupO vs) :: (lx, listOf va n') :: (dx, rdDict w b q r1 r2 r3 ta') :: (rd, instObj 108 dx) :: news) from fun p hp => by
      rcases List.mem_cons.mp hp with rfl | hp
      · exact N _ (by simp only [List.mem_cons]; (iterate 7 right); exact hTr)
      · exact N p hp)
    clear N N3
    k_steps
    k_dflt (refine' bit_use ?k1 ?k2 ?k3 ?k4 ?k5 ?k6 ?k7 ?k8 ?k9 ?k10 ?k11 ?k12 ?k13 ?_ ?_; (case k1 | k2 | k3 | k4 | k5 => k_asm); (case k6 => first | exact rfl | assumption); (case k7 => k_mem); (case k8 => intro ta'; k_upd); (case k9 => omega); (case k10 => with_reducible assumption); (case k11 => omega); (case k12 => ktr_room); (case k13 => ktr_units); k_whole)
    · intro _ _ _ _ _ _ _
      k_steps
      · dsimp only
        refine ForEnd.ret ?_
        dsimp only
        k_steps
        rename (_ - codeAt ks i < ks.getD i 0) => hm
        subst hq
        rename News h₀ L _ _ => N9
        exact hret i _ _ _ _ hi (by assumption) hmiss (Int.not_le.mpr hm) (by k_asm) (fun x hx => N9 x (List.mem_cons_of_mem _ (List.mem_cons_of_mem _ hx)))
      · rename ¬ (_ - codeAt ks i < ks.getD i 0) => hm
        rename News _ _ _ _ => N6
        refine ForEnd.next (by k_asm) N6 hcI ((td, huffDict w ct st lx cd k1 k2 k3 k4) :: (tb, instObj 157 td) :: (st, tupO vs) :: (lx, listOf va n') :: (dx, _) :: (rd, instObj 108 dx) :: news) (fun x hx => List.mem_cons_of_mem _ hx)
          ⟨.inr rfl, .inr rfl, .inr rfl, .inr rfl, .inr rfl, .inr rfl, OffIt.of fun x hx => O x (by simp only [List.mem_cons]; (iterate 6 right); exact hx)⟩ (.inr ⟨_, by simp only [List.mem_cons]; right; right; right; left; rfl, rfl, _, rfl⟩)
          ⟨_, _, _, ?_, by with_unfolding_all rfl, by with_unfolding_all rfl, some_int (by with_unfolding_all rfl) (by subst hq; rfl), rfl, fun j hj => ?_, fun j hj => ?_⟩
        · omega
        · by_cases e : j < i
          · exact hmiss j e
          · obtain rfl : j = i := by omega
            subst hq
            exact Int.not_lt.mp hm
        · by_cases e : j < i
          · exact hroom j e
          · obtain rfl : j = i := by omega
            omega
    · intro _ _ _ _ _ _ _ _
      k_steps
      rename RaisedSN _ _ _ _ _ _ _ => R'
      rename Heap.UpToSlots _ _ => U'
      subst hq
      exact hcut i _ _ _ _ _ hi (by assumption) hmiss hroom (by k_asm) (raisedSN_sub R' fun x hx => List.mem_cons_of_mem _ (List.mem_cons_of_mem _ hx)) U'
  case fin =>
    rintro h' tk' m' nw F N S ⟨tc, ta', q, hq, hm1, hm2, hm3, rfl, hmiss, hroom⟩
    rw [hvaS] at hmiss hroom hq
    subst hq
    k_steps
    rename RaisedSN _ _ _ _ _ _ _ => R'
    rename Heap.UpToSlots _ _ => U'
    exact hcode _ _ _ _ _ hmiss hroom (by k_asm) R' U'
end
section
theorem huff_use {cx sx : Addr} {us vs : List Value} {n n2 : Nat} {ks sy : List Int} {nw : List (Addr × Obj)}
    (B : Below A₀ base outer h₀) (F : Fr h₀ L s.heap m) (X : (hdx.heap_1 w.params).In h₀) (N : News h₀ L s.heap (nw)) (T : Top vw (looseW vw []) mean mg mb h₀) (hk : cs.kind = .function) (m1 : (cx, listOf us.toArray n) ∈ nw) (m2 : (sx, listOf vs.toArray n2) ∈ nw)
    (hks : IntsAre us ks) (hsy : IntsAre vs sy) (hlen : ks.length = 16) (hk0 : ∀ k ∈ ks, 0 ≤ k ∧ k ≤ 17) (hsum : ks.sum = (sy.length : Int)) (hs8 : sy.length ≤ 17) (hnd : sy.Nodup) (hd : dp + 12 < recursionLimit) (hu : un + 80 < cLine)
    (hret : ∀ (x dx ct st lx cd : Addr) (k1 k2 k3 k4 : Tok) (va : Array Value) (n' : Nat) (o : Obj) (kvs : List (Int × Value)) (extra ex2 : List (Addr × Obj)) (h' : Heap) (tk' : Nat), (∀ j < 16, okAt ks j) → (cd == sysModules) = false → RowsAt extra va.toList ks 16 →
      o.IsDictOf (PySem.intKind PySem.Challenge.pw_ok0132_01 w) kvs → CodesAt ex2 kvs sy ks sy.length → (∀ p ∈ extra ++ ex2, p.2.cls = .type "tuple") → AllLt dx nw → dx < x → x < ct → ct < st → st < lx → lx < cd → (∀ p ∈ extra ++ ex2, st < p.1) →
      Fr h₀ L h' m → News h₀ L h' ((x, instObj 157 dx) :: (dx, huffDict w ct st lx cd k1 k2 k3 k4) :: (ct, tupO us) :: (st, tupO vs) :: (lx, listOf va n') :: (cd, o) :: (nw ++ (extra ++ ex2))) → Q (.ref x) { s with heap := h', toks := tk' })
    (hraise : ∀ (e : Addr) (h' G : Heap) (tk' : Nat) j, j < 16 → ¬ okAt ks j → Fr h₀ L G m → RaisedSN base G (envX cn cs L a ccd cl :: outer) e (.ref 44) nw h' → G.UpToSlots h' → E (.ref e) { s with heap := h', toks := tk' }) :
    wpAny (model PySem.Challenge.pw_ok0132_01 w) (ktrTop dp un gd cn cs L a ccd cl outer) (call (.ref 157) [.ref cx, .ref sx]) Q E s :=
  huff_spec B F X (fun p hp => by rcases List.mem_cons.mp hp with rfl | hp; exact N _ m1; rcases List.mem_cons.mp hp with rfl | hp; exact N _ m2; exact N _ hp) T hk hks hsy hlen hk0 hsum hs8 hnd hd hu
    (fun x dx ct st lx cd k1 k2 k3 k4 va n' o kvs extra ex2 h' tk' a1 a2 a3 a4 a5 a6 a7 a8 a9 b1 b2 b3 b4 F' N' => hret x dx ct st lx cd k1 k2 k3 k4 va n' o kvs extra ex2 h' tk' a1 a2 a3 a4 a5 a6 a7.2.2 a8 a9 b1 b2 b3 b4 F' fun p hp => N' p (by
      simp only [List.mem_cons, List.mem_append] at hp ⊢
      rcases hp with h | h | h | h | h | h | h | h | h <;> simp [h]))
    (fun e h' G tk' j h1 h2 F' R' U' => hraise e h' G tk' j h1 h2 F' (raisedSN_sub R' fun p hp => List.mem_cons_of_mem _ (List.mem_cons_of_mem _ hp)) U')
end
section
set_option maxHeartbeats 4000000 in
theorem code_spec {tb td ct st lx cd Tc : Addr} {k1 k2 k3 k4 ty : Tok} {o : Obj} {kvs : List (Int × Value)} {y : Int}
    (B : Below A₀ base outer h₀) (F : Fr h₀ L s.heap m) (X : (hdx.heap_1 w.params).In h₀) (N : News h₀ L s.heap ((td, huffDict w ct st lx cd k1 k2 k3 k4) :: (tb, instObj 157 td) :: (cd, o) :: news)) (T : Top vw (looseW vw []) mean mg mb h₀) (hk : cs.kind = .function)
    (hod : o.IsDictOf (PySem.intKind PySem.Challenge.pw_ok0132_01 w) kvs) (lo : (cd == sysModules) = false) (hv : valueAt kvs y = some (.ref Tc)) (hd : dp + 4 < recursionLimit) (hu : un + 20 < cLine)
    (hret : ∀ (h' : Heap) (tk' : Nat), Fr h₀ L h' m → News h₀ L h' ((td, huffDict w ct st lx cd k1 k2 k3 k4) :: (tb, instObj 157 td) :: (cd, o) :: news) → Q (.ref Tc) { s with heap := h', toks := tk' }) :
    wpAny (model PySem.Challenge.pw_ok0132_01 w) (ktrTop dp un gd cn cs L a ccd cl outer) (call (.ref 147) [.ref tb, .int y ty]) Q E s := by
  refine wpAny_call ?_
  k_dflt ktr_enter
  k_steps
  k_dflt (refine kdg_method (knd := PySem.intKind _ _) (by k_asm) (by k_mem) (by with_reducible assumption) ?_)
  k_steps
  k_dflt (refine kdg_get1 (knd := PySem.intKind _ _) (by k_asm) (by k_mem) (by with_reducible assumption) (by with_reducible assumption) (intKind_is _ _ _ _) (some _) (by with_reducible assumption) ?_)
  (try dsimp only [Option.getD])
  k_steps
  · exact hret _ _ (by k_asm) (by k_asm)
end
section
set_option maxHeartbeats 4000000 in
theorem heard_spec {tb td ct st lx cd rd dx : Addr} {k1 k2 k3 k4 r1 r2 r3 r4 : Tok} {vs : List Value} {ks sy : List Int} {b : Array UInt8} {p : Int} {va : Array Value} {n' : Nat}
    (B : Below A₀ base outer h₀) (F : Fr h₀ L s.heap m) (X : (hdx.heap_1 w.params).In h₀) (N : News h₀ L s.heap ((td, huffDict w ct st lx cd k1 k2 k3 k4) :: (tb, instObj 157 td) :: (st, tupO vs) :: (lx, listOf va n') :: (dx, rdDict w b p r1 r2 r3 r4) :: (rd, instObj 108 dx) :: news)) (T : Top vw (looseW vw []) mean mg mb h₀) (hk : cs.kind = .function)
    (XB : (hdx.heap_1 w.params).In base) (TB : Top vw (looseW vw []) mean mg mb base) (D : KtsDicts (outer.filterMap (·.frame)) h₀)
    (hsy : IntsAre vs sy) (hlen : ks.length = 16) (hk0 : ∀ k ∈ ks, 0 ≤ k ∧ k ≤ 17) (hsum : ks.sum = (sy.length : Int)) (hs8 : sy.length ≤ 17) (hp0 : 0 ≤ p) (hp1 : p ≤ 64) (hb : b.size ≤ 8)
    (hR : RowsAt news va.toList ks 16) (hoff : ∀ q ∈ (td, huffDict w ct st lx cd k1 k2 k3 k4) :: (tb, instObj 157 td) :: (st, tupO vs) :: (lx, listOf va n') :: (rd, instObj 108 dx) :: news, q.1 ≠ dx)
    (hd : dp + 18 < recursionLimit) (hu : un + 80 < cLine)
    (hret : ∀ (i : Nat) (tr ta' : Tok) (h' : Heap) (tk' : Nat), i < 16 → p + i < 8 * b.size → (∀ j < i, missAt b p ks j) → ¬ missAt b p ks i → Fr h₀ L h' m →
      News h₀ L h' ((td, huffDict w ct st lx cd k1 k2 k3 k4) :: (tb, instObj 157 td) :: (st, tupO vs) :: (lx, listOf va n') :: (dx, rdDict w b (p + i + 1) r1 r2 r3 ta') :: (rd, instObj 108 dx) :: news) → Q (.int (sy.getD (placeAt ks i + vAt b p (i + 1) - codeAt ks i).toNat 0) tr) { s with heap := h', toks := tk' })
    (hcut : ∀ (i : Nat) (t : Tok) (h' h₀' : Heap) (tk' : Nat) (ta' : Tok), i < 16 → 8 * b.size ≤ p + i → (∀ j < i, missAt b p ks j) → (∀ j < i, p + j < 8 * b.size) → KtsTurn (outer.filterMap (·.frame)) h₀ h₀' → Fr h₀' L h' m →
      News h₀' L h' ((td, huffDict w ct st lx cd k1 k2 k3 k4) :: (tb, instObj 157 td) :: (st, tupO vs) :: (lx, listOf va n') :: (dx, rdDict w b (p + i) r1 r2 r3 ta') :: (rd, instObj 108 dx) :: news) → Below A₀ base outer h₀' → (hdx.heap_1 w.params).In h₀' → Top vw (looseW vw []) mean mg mb h₀' → KtsDicts (outer.filterMap (·.frame)) h₀' → Q (.str "cut" t) { s with heap := h', toks := tk' })
    (hcode : ∀ (t : Tok) (h' h₀' : Heap) (tk' : Nat) (ta' : Tok), (∀ j < 16, missAt b p ks j) → (∀ j : Nat, j < 16 → p + j < 8 * b.size) → KtsTurn (outer.filterMap (·.frame)) h₀ h₀' → Fr h₀' L h' m →
      News h₀' L h' ((td, huffDict w ct st lx cd k1 k2 k3 k4) :: (tb, instObj 157 td) :: (st, tupO vs) :: (lx, listOf va n') :: (dx, rdDict w b (p + 16) r1 r2 r3 ta') :: (rd, instObj 108 dx) :: news) → Below A₀ base outer h₀' → (hdx.heap_1 w.params).In h₀' → Top vw (looseW vw []) mean mg mb h₀' → KtsDicts (outer.filterMap (·.frame)) h₀' → Q (.str "code" t) { s with heap := h', toks := tk' }) :
    wpAny (model PySem.Challenge.pw_ok0132_01 w) (ktrTop dp un gd cn cs L a ccd cl outer) (call (.ref 210) [.ref tb, .ref rd]) Q E s := by
  refine wpAny_call ?_
  k_dflt (refine' code_plainS ?k1 ?k2 ?k3 ?k4 ?k5 ?XB ?TB ?D ?T0 ?kA ?kf ?kk ?k6 ?k7 ?k8 ?k9 ?kB ?_ ?c2 ?c3 ?c4 ?c5; (case kA | kf => exact rfl); (case kk => first | exact rfl | assumption); (case k1 | k2 | k3 | k4 | k5 => k_asm); (case XB | TB | D => assumption); (case T0 => exact KtsTurn.refl); (case k6 | k7 => k_is); (case k8 => ktr_room); (case k9 => exact BindsTo.of_eq rfl); (case c5 => decide); (case kB => exact locs rfl); (case c2 | c3 | c4 => exact rfl); k_whole; intro g' L' h' FG' F' N' B' X' T' D'; (try dsimp only); (try k_lift B'); (try k_fold))
  k_steps
  k_dflt (refine' read_spec ?k1 ?k2 ?k3 ?k4 ?k5 ?k6 ?k7 ?k8 ?k9 ?k10 ?k11 ?k12 ?k13 ?k14 ?k15 ?k16 ?k17 ?k18 ?_ ?_ ?_; (case k1 | k2 | k3 | k4 | k5 => k_asm); (case k6 => first | exact rfl | assumption); (case k7 | k8 | k9 | k10 | k11 | k12 | k13 | k14 | k15 | k16 => with_reducible assumption); (case k17 => ktr_room); (case k18 => ktr_units); k_whole)
  · intro i tr ta' h' tk' hi' hroom' hmiss' hhit' F' N'
    k_steps
    exact hret _ _ _ _ _ (by assumption) (by assumption) (by assumption) (by assumption) (by k_asm) (by k_asm)
  · intro i e' h' G' tk' ta' hi' hend' hmiss' hroom' FG' R' U'
    k_steps
    exact hcut _ _ _ _ _ _ (by assumption) (by assumption) (by assumption) (by assumption) (by assumption) (by k_asm) (by k_asm) (by assumption) (by assumption) (by assumption) (by assumption)
  · intro e' h' G' tk' ta' hmiss' hroom' FG' R' U'
    k_steps
    exact hcode _ _ _ _ _ (by assumption) (by assumption) (by assumption) (by k_asm) (by k_asm) (by assumption) (by assumption) (by assumption) (by assumption)
end
section
theorem rows_off {dx : Addr} {nw : List (Addr × Obj)} {vals : List Value} {ks : List Int} {n : Nat} {o : Obj} {h : Heap} (N : News h₀ L h nw) (hd : (dx, o) ∈ nw) (hc : o.cls = .type "dict") (R : RowsAt nw vals ks n) : RowsAt (offAddr dx nw) vals ks n :=
  ⟨R.1, fun i hi => by
    obtain ⟨T, t, u, v, h1, h2⟩ := R.2 i hi
    refine ⟨T, t, u, v, h1, List.mem_filter.mpr ⟨h2, ?_⟩⟩
    simp only [decide_eq_true_eq]
    intro e
    have a := (N _ hd).1
    have b := (N _ h2).1
    dsimp only at a b e
    rw [e, a] at b
    have := congrArg Obj.cls (Option.some.inj b)
    rw [hc] at this
    exact absurd (show Value.type "dict" = Value.type "tuple" from this) (by decide)⟩
theorem ne_cls {h : Heap} {a d : Addr} {o o' : Obj} {nw : List (Addr × Obj)} (N : News h₀ L h nw) (h1 : (a, o) ∈ nw) (h2 : (d, o') ∈ nw) (hc : o.cls ≠ o'.cls) : a ≠ d := fun e => by
  have x := (N _ h1).1
  have y := (N _ h2).1
  dsimp only at x y
  rw [e, y] at x
  exact hc (congrArg Obj.cls (Option.some.inj x)).symm
theorem heard_use {tb td ct st lx cd rd dx : Addr} {k1 k2 k3 k4 r1 r2 r3 r4 : Tok} {vs : List Value} {ks sy : List Int} {b : Array UInt8} {p : Int} {va : Array Value} {n' : Nat} {nw : List (Addr × Obj)} {nw' : Int → Tok → List (Addr × Obj)}
    (B : Below A₀ base outer h₀) (F : Fr h₀ L s.heap m) (X : (hdx.heap_1 w.params).In h₀) (N : News h₀ L s.heap (nw)) (T : Top vw (looseW vw []) mean mg mb h₀) (hk : cs.kind = .function) (XB : (hdx.heap_1 w.params).In base) (TB : Top vw (looseW vw []) mean mg mb base) (D : KtsDicts (outer.filterMap (·.frame)) h₀)
    (m1 : (td, huffDict w ct st lx cd k1 k2 k3 k4) ∈ nw) (m2 : (tb, instObj 157 td) ∈ nw) (m3 : (st, tupO vs) ∈ nw) (m4 : (lx, listOf va n') ∈ nw) (m5 : (rd, instObj 108 dx) ∈ nw) (htd : td ≠ dx)
    (U : ∀ p' ta', Upd dx (rdDict w b p r1 r2 r3 r4) (rdDict w b p' r1 r2 r3 ta') nw (nw' p' ta'))
    (hsy : IntsAre vs sy) (hlen : ks.length = 16) (hk0 : ∀ k ∈ ks, 0 ≤ k ∧ k ≤ 17) (hsum : ks.sum = (sy.length : Int)) (hs8 : sy.length ≤ 17) (hp0 : 0 ≤ p) (hp1 : p ≤ 64) (hb : b.size ≤ 8)
    (hR : RowsAt nw va.toList ks 16)
    (hd : dp + 18 < recursionLimit) (hu : un + 80 < cLine)
    (hret : ∀ (i : Nat) (tr ta' : Tok) (h' : Heap) (tk' : Nat), i < 16 → p + i < 8 * b.size → (∀ j < i, missAt b p ks j) → ¬ missAt b p ks i → Fr h₀ L h' m →
      News h₀ L h' (nw' (p + i + 1) ta') → Q (.int (sy.getD (placeAt ks i + vAt b p (i + 1) - codeAt ks i).toNat 0) tr) { s with heap := h', toks := tk' })
    (hcut : ∀ (i : Nat) (t : Tok) (h' h₀' : Heap) (tk' : Nat) (ta' : Tok), i < 16 → 8 * b.size ≤ p + i → (∀ j < i, missAt b p ks j) → (∀ j < i, p + j < 8 * b.size) → KtsTurn (outer.filterMap (·.frame)) h₀ h₀' → Fr h₀' L h' m →
      News h₀' L h' (nw' (p + i) ta') → Below A₀ base outer h₀' → (hdx.heap_1 w.params).In h₀' → Top vw (looseW vw []) mean mg mb h₀' → KtsDicts (outer.filterMap (·.frame)) h₀' → Q (.str "cut" t) { s with heap := h', toks := tk' })
    (hcode : ∀ (t : Tok) (h' h₀' : Heap) (tk' : Nat) (ta' : Tok), (∀ j < 16, missAt b p ks j) → (∀ j : Nat, j < 16 → p + j < 8 * b.size) → KtsTurn (outer.filterMap (·.frame)) h₀ h₀' → Fr h₀' L h' m →
      News h₀' L h' (nw' (p + 16) ta') → Below A₀ base outer h₀' → (hdx.heap_1 w.params).In h₀' → Top vw (looseW vw []) mean mg mb h₀' → KtsDicts (outer.filterMap (·.frame)) h₀' → Q (.str "code" t) { s with heap := h', toks := tk' }) :
    wpAny (model PySem.Challenge.pw_ok0132_01 w) (ktrTop dp un gd cn cs L a ccd cl outer) (call (.ref 210) [.ref tb, .ref rd]) Q E s := by
  have md := (upd_split (U 0 0)).1
  have e2 := ne_cls N m2 md (by intro h; cases h)
  have e3 := ne_cls N m3 md (show Value.type "tuple" ≠ Value.type "dict" by decide)
  have e4 := ne_cls N m4 md (show Value.type "list" ≠ Value.type "dict" by decide)
  have e5 := ne_cls N m5 md (by intro h; cases h)
  have back : ∀ {g hh : Heap} {p' : Int} {ta' : Tok}, News g L hh ((td, huffDict w ct st lx cd k1 k2 k3 k4) :: (tb, instObj 157 td) :: (st, tupO vs) :: (lx, listOf va n') :: (dx, rdDict w b p' r1 r2 r3 ta') :: (rd, instObj 108 dx) :: offAddr dx nw) → News g L hh (nw' p' ta') := fun N' q hq => by
    rcases (upd_split (U _ _)).2 q hq with rfl | ⟨h1, h2⟩
    · exact N' _ (by simp)
    · exact N' _ (by simp only [List.mem_cons]; (iterate 6 right); exact List.mem_filter.mpr ⟨h1, by simpa using h2⟩)
  refine heard_spec (dx := dx) (news := offAddr dx nw) (r4 := r4) (r3 := r3) (r2 := r2) (r1 := r1) B F X (fun q hq => ?_) T hk XB TB D hsy hlen hk0 hsum hs8 hp0 hp1 hb (rows_off N md rfl hR) (fun q hq => ?_) hd hu
    (fun i tr ta' h' tk' a1 a2 a3 a4 F' N' => hret i tr ta' h' tk' a1 a2 a3 a4 F' (back N'))
    (fun i t h' h₀' tk' ta' a1 a2 a3 a4 a5 F' N' b1 b2 b3 b4 => hcut i t h' h₀' tk' ta' a1 a2 a3 a4 a5 F' (back N') b1 b2 b3 b4)
    (fun t h' h₀' tk' ta' a1 a2 a3 F' N' b1 b2 b3 b4 => hcode t h' h₀' tk' ta' a1 a2 a3 F' (back N') b1 b2 b3 b4)
  · simp only [List.mem_cons] at hq
    rcases hq with rfl | rfl | rfl | rfl | rfl | rfl | hq
    · exact N _ m1
    · exact N _ m2
    · exact N _ m3
    · exact N _ m4
    · exact N _ md
    · exact N _ m5
    · exact N _ (List.mem_filter.mp hq).1
  · simp only [List.mem_cons] at hq
    rcases hq with rfl | rfl | rfl | rfl | rfl | hq
    · exact htd
    · exact e2
    · exact e3
    · exact e4
    · exact e5
    · exact offAddr_off q hq
end
section
open PySem PySem.W PyProof.Rows PySem.Calls
theorem bitsL_lt {x : Int} {y : Nat} : ∀ b ∈ bitsL x y, b < 2 := fun b hb => by
  obtain ⟨k, _, rfl⟩ := List.mem_map.mp hb
  have h1 := Int.emod_nonneg (x / 2 ^ (y - 1 - k)) (show (2 : Int) ≠ 0 by decide)
  have h2 := Int.emod_lt_of_pos (x / 2 ^ (y - 1 - k)) (show (0 : Int) < 2 by decide)
  omega
theorem valF_bitI {c : Int} {y : Nat} (h0 : 0 ≤ c) (h1 : c < 2 ^ y) : ∀ j, j ≤ y → valF (bitI c y) j = c / 2 ^ (y - j)
  | 0, _ => by rw [Nat.sub_zero, Int.ediv_eq_zero_of_lt h0 h1]; rfl
  | j + 1, hj => by
    show 2 * valF (bitI c y) j + (bitI c y).getD j 0 = _
    rw [valF_bitI h0 h1 j (by omega)]
    have e : (bitI c y).getD j 0 = (c / 2 ^ (y - 1 - j)) % 2 := by
      rw [List.getD_eq_getElem?_getD, bitI, List.getElem?_map, bitsL_getElem c (show j < y by omega)]
      have : 0 ≤ (c / 2 ^ (y - 1 - j)) % 2 := Int.emod_nonneg _ (by decide)
      show (((c / 2 ^ (y - 1 - j)) % 2).toNat : Int) = _
      omega
    rw [e, show y - j = (y - 1 - j) + 1 by omega, Int.pow_succ, ← Int.ediv_ediv_of_nonneg (Int.le_of_lt (p2 _)), show y - (j + 1) = y - 1 - j by omega]
    omega
theorem valF_full {c : Int} {y : Nat} (h0 : 0 ≤ c) (h1 : c < 2 ^ y) : valF (bitI c y) y = c := by
  rw [valF_bitI h0 h1 y (Nat.le_refl _), Nat.sub_self, Int.pow_zero, Int.ediv_one]
theorem valF_small {fs : List Int} (h : Figs fs) : ∀ j, valF fs j < 2 ^ j
  | 0 => by show (0 : Int) < 2 ^ 0; decide
  | j + 1 => by
    have := valF_small h j
    obtain ⟨b, hb, e⟩ := h.at j
    show 2 * valF fs j + fs.getD j 0 < 2 ^ (j + 1)
    rw [Int.pow_succ, e]; omega
theorem valF_lt16 {fs : List Int} (h : Figs fs) {j : Nat} (hj : j ≤ 16) : valF fs j ≤ 65536 := by
  have h1 := valF_small h j
  have h2 : ∀ j : Fin 17, (2 : Int) ^ j.val ≤ 65536 := by decide
  have h3 : (2 : Int) ^ j ≤ 65536 := h2 ⟨j, by omega⟩
  omega
theorem figs_bitI (c : Int) (y : Nat) : Figs (bitI c y) := fun d hd => by
  obtain ⟨b, hb, rfl⟩ := List.mem_map.mp hd
  have := bitsL_lt b hb
  omega
theorem figs_append {a b : List Int} (h : Figs a) (h' : Figs b) : Figs (a ++ b) := fun d hd => (List.mem_append.mp hd).elim (h d) (h' d)
theorem figs_drop {a : List Int} (h : Figs a) (n : Nat) : Figs (a.drop n) := fun d hd => h d (List.mem_of_mem_drop hd)
theorem figs_ones (n : Nat) : Figs (List.replicate n 1) := fun d hd => .inr (List.eq_of_mem_replicate hd)
theorem figs_one {r : Int} (h0 : 0 ≤ r) (h1 : r < 2) : Figs [r] := fun d hd => by rw [List.mem_singleton.mp hd]; omega
def ones (bs : List Nat) : List PySem.Str := bs.map fun d => bitT [d]
theorem join_ones (bs : List Nat) : Txt.join (PySem.Str.ofString "") (ones bs) = bitT bs := by
  have := join_bitTs (bs.map fun d => [d])
  rw [List.map_map] at this
  have h2 : ∀ l : List Nat, (l.map fun d => [d]).flatten = l := fun l => by
    induction l with
    | nil => rfl
    | cons a r ih => simp only [List.map_cons, List.flatten_cons, List.singleton_append, ih]
  rw [h2 bs] at this
  exact this
theorem ones_weight (bs : List Nat) : ((ones bs).map (·.length)).sum + (ones bs).length = 2 * bs.length := by
  induction bs with
  | nil => rfl
  | cons a r ih => simp only [ones, List.map_cons, List.sum_cons, List.length_cons] at ih ⊢; rw [show (bitT [a]).length = 1 from rfl]; omega
theorem strs_cast {vs : List Value} {a b : List PySem.Str} (h : PyProof.Rows.StrsAre vs a) (e : a = b) : PyProof.Rows.StrsAre vs b := e ▸ h
theorem range_8 {y : Int} (h3 : 0 ≤ y) (h4 : y ≤ 64) : Builtin.Range.small 0 y 8 = true ∧ Builtin.Range.rangeSize 0 y 8 = (((y.toNat + 7) / 8 : Nat) : Int) := by
  obtain ⟨n, rfl⟩ : ∃ n : Nat, y = (n : Int) := ⟨y.toNat, by omega⟩
  have h : ∀ n : Fin 65, Builtin.Range.small 0 ((n.val : Nat) : Int) 8 = true ∧ Builtin.Range.rangeSize 0 ((n.val : Nat) : Int) 8 = ((((((n.val : Nat) : Int).toNat) + 7) / 8 : Nat) : Int) := by decide
  exact h ⟨n, by omega⟩
theorem ints_take' {vs : List Value} {ns : List Int} (h : IntsAre vs ns) : ∀ n : Nat, IntsAre (vs.take n) (ns.take n) := by
  induction h with
  | nil => intro n; rw [List.take_nil, List.take_nil]; exact .nil
  | cons a t h ih => intro n; cases n with
    | zero => exact .nil
    | succ n => exact .cons _ _ (ih n)
theorem ints_drop' {vs : List Value} {ns : List Int} (h : IntsAre vs ns) : ∀ n : Nat, IntsAre (vs.drop n) (ns.drop n) := by
  induction h with
  | nil => intro n; rw [List.drop_nil, List.drop_nil]; exact .nil
  | cons a t h ih => intro n; cases n with
    | zero => exact .cons _ _ h
    | succ n => exact ih n
def natF (fs : List Int) : List Nat := fs.map Int.toNat
theorem natF_lt {fs : List Int} (h : Figs fs) : ∀ b ∈ natF fs, b < 2 := fun b hb => by
  obtain ⟨x, hx, rfl⟩ := List.mem_map.mp hb
  have := h x hx
  omega
theorem bval_valF {fs : List Int} (h : Figs fs) : ∀ n, n ≤ fs.length → (bval ((natF fs).take n) : Int) = valF fs n
  | 0, _ => rfl
  | n + 1, hn => by
    have e : (natF fs).take (n + 1) = (natF fs).take n ++ [(fs.getD n 0).toNat] := by
      rw [List.take_add_one]
      congr 1
      rw [natF, List.getElem?_map, List.getElem?_eq_getElem (by omega), List.getD_eq_getElem?_getD, List.getElem?_eq_getElem (by omega)]
      rfl
    rw [e, bval_snoc]
    have ih := bval_valF h n (by omega)
    obtain ⟨b, hb, eb⟩ := h.at n
    show _ = 2 * valF fs n + fs.getD n 0
    rw [← ih, eb]
    show ((bval ((natF fs).take n) * 2 + (b : Int).toNat : Nat) : Int) = _
    omega
theorem valF_take {fs : List Int} (n : Nat) : ∀ j, j ≤ n → valF (fs.take n) j = valF fs j
  | 0, _ => rfl
  | j + 1, hj => by
    show 2 * valF (fs.take n) j + (fs.take n).getD j 0 = 2 * valF fs j + fs.getD j 0
    rw [valF_take n j (by omega), List.getD_eq_getElem?_getD, List.getD_eq_getElem?_getD, List.getElem?_take, if_pos (by omega)]
/-- one octet of eight figures -/
theorem octet_of {fs : List Int} (h : Figs fs) {i : Nat} (hi : 8 * i + 8 ≤ fs.length) : (bval (natF ((fs.drop (8 * i)).take 8)) : Int) = valF (fs.drop (8 * i)) 8 ∧ 0 ≤ valF (fs.drop (8 * i)) 8 ∧ valF (fs.drop (8 * i)) 8 < 256 := by
  have hf : Figs ((fs.drop (8 * i)).take 8) := fun x hx => h x (List.mem_of_mem_drop (List.mem_of_mem_take hx))
  have hl : ((fs.drop (8 * i)).take 8).length = 8 := by rw [List.length_take, List.length_drop]; omega
  have e := bval_valF hf 8 (by omega)
  rw [List.take_of_length_le (by rw [natF, List.length_map]; omega), valF_take 8 8 (Nat.le_refl _)] at e
  exact ⟨e, valF_nn (figs_drop h _) 8, valF_small (figs_drop h _) 8⟩
theorem codes_find {ss ks sy : List Int} (S : Sizes ss ks) {ex : List (Addr × Obj)} {kvs : List (Int × Value)} (C : CodesAt ex kvs sy ks sy.length) (hl : sy.length = ss.length) (hnd : sy.Nodup) {k : Nat} (hk : k < ss.length) :
    ∃ T t u, valueAt kvs (sy.getD k 0) = some (.ref T) ∧ (T, tup2 (cdOf ss k) (ss.getD k 0) t u) ∈ ex := by
  obtain ⟨c1, c2, c3⟩ := C
  have hm : kvs.map (·.1) = sy := by
    apply List.ext_getElem?
    intro q
    rw [List.getElem?_map]
    by_cases hq : q < kvs.length
    · obtain ⟨T, hT⟩ := c2 q hq
      have hq' : q < sy.length := by omega
      rw [hT, List.getElem?_eq_getElem hq', List.getD_eq_getElem?_getD, List.getElem?_eq_getElem hq']; rfl
    · rw [List.getElem?_eq_none (by omega), List.getElem?_eq_none (by omega)]; rfl
  obtain ⟨i, q, hi, hq, rfl, e⟩ := find_place S hk
  have hp := placeAt_eq S (i := i) (by omega)
  obtain ⟨T, t, u, h1, h2⟩ := c3 i q (by omega) (by rw [S.count i (by omega)]; omega) (by omega)
  rw [show (placeAt ks i + q).toNat = ltN ss i + q by omega] at h1
  refine ⟨T, t, u, valueAt_of_get (by rw [hm]; exact hnd) h1, ?_⟩
  rw [cdOf_at S hi hq, e]
  exact h2
theorem bitOf_01 (l : List Int) (i : Int) : bitOf l i = 0 ∨ bitOf l i = 1 := by
  have := bitOf_nn l i
  have h2 : bitOf l i < 2 := Int.emod_lt_of_pos _ (by decide)
  omega
theorem vAt_div (b : Array UInt8) (p : Int) (j : Nat) : ∀ m : Nat, vAt b p j = vAt b p (j + m) / 2 ^ m
  | 0 => by simp
  | m + 1 => by
    have hd := bitOf_01 (KBw.bInts b) (p + (j + m : Nat))
    have e : vAt b p (j + m + 1) = vAt b p (j + m) * 2 + bitOf (KBw.bInts b) (p + (j + m : Nat)) := rfl
    rw [vAt_div b p j m, show j + (m + 1) = j + m + 1 by omega, Int.pow_succ', ← Int.ediv_ediv_of_nonneg (by decide), e]
    congr 1
    omega
/-- the octets bear the figures -/
def BitsAre (b : Array UInt8) (fs : List Int) : Prop := fs.length = 8 * b.size ∧ ∀ q, q < fs.length → bitOf (KBw.bInts b) (q : Int) = fs.getD q 0
theorem vAt_valF {b : Array UInt8} {fs : List Int} (h : BitsAre b fs) {p : Nat} : ∀ {n : Nat}, p + n ≤ fs.length → vAt b p n = valF (fs.drop p) n
  | 0, _ => rfl
  | n + 1, hn => by
    have e : vAt b p (n + 1) = vAt b p n * 2 + bitOf (KBw.bInts b) ((p : Int) + n) := rfl
    have e2 : valF (fs.drop p) (n + 1) = 2 * valF (fs.drop p) n + (fs.drop p).getD n 0 := rfl
    rw [e, e2, vAt_valF h (by omega), show (p : Int) + n = ((p + n : Nat) : Int) by omega, h.2 (p + n) (by omega)]
    rw [List.getD_eq_getElem?_getD, List.getD_eq_getElem?_getD, List.getElem?_drop]
    omega
/-- the octet of eight figures -/
theorem valF_bit {fs : List Int} (hf : Figs fs) {n j : Nat} (hj : j < n) : valF fs n / 2 ^ (n - 1 - j) % 2 = fs.getD j 0 := by
  have e := valF_div hf (j + 1) (n - 1 - j)
  rw [show j + 1 + (n - 1 - j) = n by omega] at e
  rw [← e]
  obtain ⟨b, hb, eb⟩ := hf.at j
  show (2 * valF fs j + fs.getD j 0) % 2 = fs.getD j 0
  rw [eb]; omega
theorem bitsAre_of {b : Array UInt8} {fs bs : List Int} (hf : Figs fs) (hb : KBw.bInts b = bs) (hl : fs.length = 8 * bs.length) (hbs : ∀ j, j < bs.length → bs.getD j 0 = valF (fs.drop (8 * j)) 8) : BitsAre b fs := by
  refine ⟨by rw [← KBw.ints_length, hb, hl], fun q hq => ?_⟩
  rw [hb]
  unfold bitOf
  have e1 : ((q : Int) / 8).toNat = q / 8 := by omega
  have e2 : (7 - (q : Int) % 8).toNat = 8 - 1 - q % 8 := by omega
  rw [e1, e2, hbs (q / 8) (by omega), valF_bit (figs_drop hf _) (by omega)]
  rw [List.getD_eq_getElem?_getD, List.getD_eq_getElem?_getD, List.getElem?_drop, show 8 * (q / 8) + q % 8 = q by omega]
section
variable {ss ks : List Int} (S : Sizes ss ks)
include S
theorem wsum_mono_le {i j : Nat} (h : i ≤ j) : wsum ss i ≤ wsum ss j := by
  induction j with
  | zero => rw [Nat.le_zero.mp h]; exact Int.le_refl _
  | succ j ih =>
    rcases Nat.lt_or_ge j i with h1 | h1
    · rw [show i = j + 1 by omega]; exact Int.le_refl _
    · rw [wsum_succ]
      have := wt_pos ((j : Int) + 1)
      have h2 : 0 ≤ (eqN ss j : Int) * wt (j + 1) := Int.mul_nonneg (by omega) (Int.le_of_lt this)
      have := ih h1
      omega
theorem misses_before {b : Array UInt8} {p i q : Nat} (hi : i ≤ 15) (hq : q < eqN ss i) (hv : vAt b p (i + 1) = codeAt ks i + q) {j : Nat} (hj : j < i) : missAt b p ks j := by
  unfold missAt
  rw [S.count j (by omega)]
  have h1 : wsum ss (j + 1) = (codeAt ks j + eqN ss j) * 2 ^ (15 - j) := by
    rw [wsum_succ, ← codeAt_w S (i := j) (by omega), Int.add_mul]
    unfold wt
    rw [show (16 - ((j : Int) + 1)).toNat = 15 - j by omega]
  have h2 : wsum ss (j + 1) ≤ wsum ss i := wsum_mono_le S hj
  rw [← codeAt_w S hi, h1, show 15 - j = (i - j) + (15 - i) by omega, Int.pow_add, ← Int.mul_assoc] at h2
  have h3 := Int.le_of_mul_le_mul_right h2 (Int.pow_pos (by decide))
  rw [vAt_div b p (j + 1) (i - j), show j + 1 + (i - j) = i + 1 by omega, hv]
  have h4 := (Int.le_ediv_iff_mul_le (b := codeAt ks i + q) (a := codeAt ks j + eqN ss j) (c := 2 ^ (i - j)) (Int.pow_pos (by decide))).mpr (by omega)
  omega
theorem hit_of {b : Array UInt8} {fs : List Int} (H : BitsAre b fs) {p k : Nat} (hk : k < ss.length) (hc : codePre ss (fs.drop p) k) :
    ∃ i, i < 16 ∧ p + (i + 1) ≤ fs.length ∧ (∀ j < i, missAt b p ks j) ∧ ¬ missAt b p ks i ∧ (placeAt ks i + vAt b p (i + 1) - codeAt ks i).toNat = k ∧ sz ss k = i + 1 := by
  obtain ⟨hle, hv⟩ := hc
  rw [List.length_drop] at hle
  have hr := sz_range S hk
  obtain ⟨i, q, hi, hq, rfl, e⟩ := find_place S hk
  have es : sz ss (ltN ss i + q) = i + 1 := by unfold sz; rw [e]; omega
  rw [es] at hle hv
  rw [cdOf_at S hi hq] at hv
  have hv' : vAt b p (i + 1) = codeAt ks i + q := by rw [vAt_valF H (by omega)]; exact hv
  refine ⟨i, by omega, by omega, fun j hj => misses_before S hi hq hv' hj, ?_, ?_, es⟩
  · unfold missAt
    rw [S.count i (by omega), hv']
    omega
  · rw [placeAt_eq S (by omega), hv']
    omega
theorem miss_of {b : Array UInt8} {fs : List Int} (H : BitsAre b fs) {p : Nat} (hno : ∀ k, k < ss.length → ¬ codePre ss (fs.drop p) k) : ∀ i : Nat, i < 16 → p + i < fs.length → (∀ j < i, missAt b p ks j) → missAt b p ks i := by
  intro i hi hpi hmiss
  unfold missAt
  rw [S.count i hi]
  apply Int.le_of_not_gt
  intro hlt
  have hge := vAt_ge hmiss
  have e : vAt b p (i + 1) = vAt b p i * 2 + bitOf (KBw.bInts b) ((p : Int) + i) := rfl
  rw [← e] at hge
  obtain ⟨q, hq⟩ : ∃ q : Nat, vAt b p (i + 1) = codeAt ks i + q := ⟨(vAt b p (i + 1) - codeAt ks i).toNat, by omega⟩
  have hq' : q < eqN ss i := by omega
  have hi6 := eqN_pos S (i := i) (by omega)
  have hk : ltN ss i + q < ss.length := by have := lt_eq_le S i; omega
  have hsz : ss.getD (ltN ss i + q) 0 = (i : Int) + 1 := by rw [List.getD_eq_getElem?_getD, at_place S hq']; rfl
  have es : sz ss (ltN ss i + q) = i + 1 := by unfold sz; rw [hsz]; omega
  refine hno _ hk ⟨?_, ?_⟩
  · rw [es, List.length_drop]; omega
  · rw [es, cdOf_at S hi6 hq', ← vAt_valF H (by omega)]; exact hq
end
end
section
abbrev srcO (x y : Int) (tx ty : Tok) (n : Nat) : Obj := listOf #[.int x tx, .int y ty] n
theorem fm0 (s : Int) : 0 ≤ s.fmod 999983 + 29 := by
  have := Int.fmod_nonneg_of_pos s (b := 999983) (by decide)
  omega
theorem fm1 (s : Int) : s.fmod 999983 + 29 < 2147483647 := by
  have := Int.fmod_lt_of_pos s (b := 999983) (by decide)
  omega
theorem fdiv_big {s : Int} (h : 2 * 10 ^ Int.toNat 18 ≤ s) : 0 ≤ s.fdiv 2 := by
  have h2 : (0 : Int) ≤ 2 * 10 ^ Int.toNat 18 := by decide
  exact Int.fdiv_nonneg (Int.le_trans h2 h) (by decide)
set_option maxHeartbeats 4000000 in
theorem well_spec {l : Addr} {vs : List Value} {ns : List Int}
    (B : Below A₀ base outer h₀) (F : Fr h₀ L s.heap m) (X : (hdx.heap_1 w.params).In h₀) (N : News h₀ L s.heap (news)) (T : Top vw (looseW vw []) mean mg mb h₀) (hk : cs.kind = .function)
    (hl : base.IsList l vs.toArray) (hs : IntsAre vs ns) (hlen : ns.length ≤ 63) (hd : dp + 1 < recursionLimit) (hu : un + 8 < cLine)
    (hret : ∀ (x y : Int) (tx ty : Tok) (n : Nat) (d : Addr) (h' : Heap) (tk' : Nat), 0 ≤ x → 0 ≤ y → y < 2147483647 → Fr h₀ L h' m → News h₀ L h' ((d, srcO x y tx ty n) :: news) → (∀ p ∈ news, p.1 < d) → Q (.ref d) { s with heap := h', toks := tk' }) :
    wpAny (model PySem.Challenge.pw_ok0132_01 w) (ktrTop dp un gd cn cs L a ccd cl outer) (call (.ref 168) [.ref l]) Q E s := by
  refine wpAny_call ?_
  k_dflt ktr_enter
  k_steps
  all_goals (refine hret _ _ _ _ _ _ _ _ ?_ ?_ ?_ (by k_asm) (by k_asm) (by k_asm))
  all_goals first
    | exact Int.le_refl _
    | exact fm0 _
    | exact fm1 _
    | exact fdiv_big (by with_reducible assumption)
    | exact Int.fdiv_nonneg (by omega) (by decide)
end
section
set_option maxHeartbeats 4000000 in
theorem dip_base {d : Addr} {x y : Int} {tx ty : Tok} {n : Nat} {top : Int} {tt : Tok}
    (B : Below A₀ base outer h₀) (F : Fr h₀ L s.heap m) (X : (hdx.heap_1 w.params).In h₀) (N : News h₀ L s.heap ((d, srcO x y tx ty n) :: news)) (T : Top vw (looseW vw []) mean mg mb h₀) (hk : cs.kind = .function)
    (hoff : ∀ p ∈ news, p.1 ≠ d) (hx0 : 0 ≤ x) (hy0 : 0 ≤ y) (hy1 : y < 2147483647) (ht : 0 < top) (ht' : top < 1000) (hd : dp + 1 < recursionLimit) (hu : un + 8 < cLine)
    (hret : ∀ (x' y' r : Int) (tx' ty' tr : Tok) (h' : Heap) (tk' : Nat), 0 ≤ x' → 0 ≤ y' → y' < 2147483647 → 0 ≤ r → r < top → Fr h₀ L h' m → News h₀ L h' ((d, srcO x' y' tx' ty' n) :: news) → Q (.int r tr) { s with heap := h', toks := tk' }) :
    wpAny (model PySem.Challenge.pw_ok0132_01 w) (ktrTop dp un gd cn cs L a ccd cl outer) (call (.ref 175) [.ref d, .int top tt]) Q E s := by
  refine wpAny_call ?_
  k_dflt ktr_enter
  k_steps
  · refine hret _ _ _ _ _ _ _ _ ?_ ?_ ?_ ?_ ?_ (by k_asm) (by k_asm)
    · exact Int.fdiv_nonneg hx0 (Int.le_of_lt ht)
    · exact hy0
    · exact hy1
    · exact Int.fmod_nonneg_of_pos _ ht
    · exact Int.fmod_lt_of_pos _ ht
  · refine hret _ _ _ _ _ _ _ _ ?_ ?_ ?_ ?_ ?_ (by k_asm) (by k_asm)
    · exact hx0
    · exact Int.fmod_nonneg_of_pos _ (by decide)
    · exact Int.fmod_lt_of_pos _ (by decide)
    · exact Int.fmod_nonneg_of_pos _ ht
    · exact Int.fmod_lt_of_pos _ ht
theorem dip_spec {d : Addr} {x y : Int} {tx ty : Tok} {n : Nat} {top : Int} {tt : Tok} {nw : List (Addr × Obj)} {nw' : Int → Int → Tok → Tok → List (Addr × Obj)}
    (B : Below A₀ base outer h₀) (F : Fr h₀ L s.heap m) (X : (hdx.heap_1 w.params).In h₀) (N : News h₀ L s.heap (nw)) (T : Top vw (looseW vw []) mean mg mb h₀) (hk : cs.kind = .function) (U : ∀ x' y' tx' ty', Upd d (srcO x y tx ty n) (srcO x' y' tx' ty' n) nw (nw' x' y' tx' ty'))
    (hx0 : 0 ≤ x) (hy0 : 0 ≤ y) (hy1 : y < 2147483647) (ht : 0 < top) (ht' : top < 1000) (hd : dp + 1 < recursionLimit) (hu : un + 8 < cLine)
    (hret : ∀ (x' y' r : Int) (tx' ty' tr : Tok) (h' : Heap) (tk' : Nat), 0 ≤ x' → 0 ≤ y' → y' < 2147483647 → 0 ≤ r → r < top → Fr h₀ L h' m → News h₀ L h' (nw' x' y' tx' ty') → Q (.int r tr) { s with heap := h', toks := tk' }) :
    wpAny (model PySem.Challenge.pw_ok0132_01 w) (ktrTop dp un gd cn cs L a ccd cl outer) (call (.ref 175) [.ref d, .int top tt]) Q E s :=
  dip_base B F X (news_headed N (U x y tx ty)) T hk offAddr_off hx0 hy0 hy1 ht ht' hd hu fun x' y' r tx' ty' tr h' tk' a1 a2 a3 a4 a5 F' N' => hret x' y' r tx' ty' tr h' tk' a1 a2 a3 a4 a5 F' (news_back N' (U x' y' tx' ty'))
end
section
local macro_rules | `(tactic| walk_at "call ref") => `(tactic| (k_here; (with_reducible show wpAny _ _ (call (Value.ref (175 : Addr)) [Value.ref _, Value.int _ _]) _ _ _); k_dflt (refine' dip_spec ?k1 ?k2 ?k3 ?k4 ?k5 ?k6 ?k7 ?k8 ?k9 ?k10 ?k11 ?k12 ?k13 ?k14 ?_; (case k1 | k2 | k3 | k4 | k5 => k_asm); (case k6 => first | exact rfl | assumption); (case k7 => intro x' y' tx' ty'; k_upd); (case k8 | k9 | k10 | k11 | k12 => omega); (case k13 => ktr_room); (case k14 => ktr_units); k_whole); intro x' y' r' tx' ty' tr' h' tk' hx0' hy0' hy1' hr0' hr1' F' N'))
local macro_rules | `(tactic| walk_at "call builtin:len") => `(tactic| (k_here; (with_reducible show wpAny _ _ (call (Value.builtin "len") [Value.ref _]) _ _ _); k_dflt (refine' Mine.len_listN ?k1 ?k2 ?k3 ?k4 ?_; (case k1 => k_asm); (case k2 => k_mem); (case k3 => with_reducible assumption); (case k4 => omega); k_whole)))
section
variable {prog : Program} {w : World} {A : Around} {E : Value → Shared → Prop} {s : Shared} {h₀ : Heap} {L : Addr} {m : PySem.Str → Option Value} {nw : List (Addr × Obj)} {value slice : PySem.Expr} {l : Addr} {vs : List Value} {ns : List Int} {n : Nat} {k : Int} {t : Tok} {Q : Value → Shared → Prop}
theorem slice_upK (F : Fr h₀ L s.heap m) (N : News h₀ L s.heap nw) (hm : (l, listOf vs.toArray n) ∈ nw) (hi : IntsAre vs ns) (h0 : 0 ≤ k) (hz : ns.length ≤ 1000)
    (h : ∀ D ws h', Fr h₀ L h' m → News h₀ L h' ((D, listOf (List.toArray ws) 0) :: nw) → (∀ p ∈ nw, p.1 < D) → IntsAre ws (ns.take k.toNat) → Q (.ref D) { s with heap := h' })
    (hs : subscripted slice false (.ref l) (.ref s.heap.objs.size) = operate [.ref s.heap.objs.size, .ref l] (getItem (.ref l) (.ref s.heap.objs.size)) := by with_unfolding_all rfl) (ht : ∀ r, letTemporaryGo value (.ref l) r = pure () := by intro _; with_unfolding_all rfl) :
    wpAny (model prog w) A (subscriptTail value slice (.ref l) (.ref s.heap.objs.size)) Q E { s with heap := s.heap.push { cls := .type "slice", data := .fields #[.none, .int k t, .none] } } :=
  kmk_slice_ints F N (News.isList N hm) .none (.int k t) hi (kmk_upto hi h0) rfl (fun D ws h' F' N' l1 hw _ _ => h D ws h' F' N' l1 hw) hs ht (by rw [sizeLine_eq, List.size_toArray, hi.length]; omega)
theorem slice_fromK (F : Fr h₀ L s.heap m) (N : News h₀ L s.heap nw) (hm : (l, listOf vs.toArray n) ∈ nw) (hi : IntsAre vs ns) (h0 : 0 ≤ k) (hz : ns.length ≤ 1000)
    (h : ∀ D ws h', Fr h₀ L h' m → News h₀ L h' ((D, listOf (List.toArray ws) 0) :: nw) → (∀ p ∈ nw, p.1 < D) → IntsAre ws (ns.drop k.toNat) → Q (.ref D) { s with heap := h' })
    (hs : subscripted slice false (.ref l) (.ref s.heap.objs.size) = operate [.ref s.heap.objs.size, .ref l] (getItem (.ref l) (.ref s.heap.objs.size)) := by with_unfolding_all rfl) (ht : ∀ r, letTemporaryGo value (.ref l) r = pure () := by intro _; with_unfolding_all rfl) :
    wpAny (model prog w) A (subscriptTail value slice (.ref l) (.ref s.heap.objs.size)) Q E { s with heap := s.heap.push { cls := .type "slice", data := .fields #[.int k t, .none, .none] } } :=
  kmk_slice_ints F N (News.isList N hm) (.int k t) .none hi (kmk_from hi h0) rfl (fun D ws h' F' N' l1 hw _ _ => h D ws h' F' N' l1 hw) hs ht (by rw [sizeLine_eq, List.size_toArray, hi.length]; omega)
end
structure DepOk (ds : List Int) : Prop where
  range : ∀ x ∈ ds, 1 ≤ x ∧ x ≤ 16
  lo : 2 ≤ ds.length
  hi : ds.length ≤ 18
  sum : (ds.map wt).sum = 65536
theorem wt_half {x : Int} (h : x < 16) (h0 : 0 ≤ x) : wt (x + 1) + wt (x + 1) = wt x := by
  unfold wt
  rw [show (16 - x).toNat = (16 - (x + 1)).toNat + 1 by omega, Int.pow_succ]
  omega
theorem DepOk.start : DepOk [1, 1] := ⟨fun x hx => by simp at hx; omega, by decide, by decide, by decide⟩
theorem DepOk.split {ds : List Int} (h : DepOk ds) {a : Nat} (ha : a < ds.length) (hx : ds.getD a 0 < 16) (hl : ds.length < 18) : DepOk (ds.take a ++ [ds.getD a 0 + 1, ds.getD a 0 + 1] ++ ds.drop (a + 1)) := by
  have e : ds.getD a 0 = ds[a] := by rw [List.getD_eq_getElem?_getD, List.getElem?_eq_getElem ha]; rfl
  have hm := h.range _ (e ▸ List.getElem_mem ha)
  refine ⟨fun x hx' => ?_, ?_, ?_, ?_⟩
  · simp only [List.mem_append, List.mem_cons, List.not_mem_nil, or_false] at hx'
    rcases hx' with (hx' | hx' | hx') | hx'
    · exact h.range _ (List.mem_of_mem_take hx')
    · omega
    · omega
    · exact h.range _ (List.mem_of_mem_drop hx')
  · simp only [List.length_append, List.length_take, List.length_drop, List.length_cons, List.length_nil]; have := h.lo; omega
  · simp only [List.length_append, List.length_take, List.length_drop, List.length_cons, List.length_nil]; omega
  · have hs := h.sum
    have e2 : ds = ds.take a ++ ds[a] :: ds.drop (a + 1) := by rw [List.getElem_cons_drop, List.take_append_drop]
    rw [e2] at hs
    simp only [List.map_append, List.map_cons, List.map_nil, List.sum_append, List.sum_cons, List.sum_nil] at hs ⊢
    rw [← e] at hs
    have := wt_half hx (by omega)
    omega
theorem get4 : ∀ k : Nat, 0 ≤ ([1, 1, 2, 9] : List Int).getD k 0 ∧ ([1, 1, 2, 9] : List Int).getD k 0 ≤ 9
  | 0 => by decide
  | 1 => by decide
  | 2 => by decide
  | 3 => by decide
  | _ + 4 => by simp
set_option maxHeartbeats 4000000 in
theorem leaves_spec {d : Addr} {x y : Int} {tx ty : Tok} {n : Nat}
    (B : Below A₀ base outer h₀) (F : Fr h₀ L s.heap m) (X : (hdx.heap_1 w.params).In h₀) (N : News h₀ L s.heap ((d, srcO x y tx ty n) :: news)) (T : Top vw (looseW vw []) mean mg mb h₀) (hk : cs.kind = .function)
    (hoff : ∀ p ∈ news, p.1 ≠ d) (hx0 : 0 ≤ x) (hy0 : 0 ≤ y) (hy1 : y < 2147483647) (hd : dp + 4 < recursionLimit) (hu : un + 30 < cLine)
    (hret : ∀ (x' y' : Int) (tx' ty' : Tok) (D : Addr) (dv : List Value) (ds : List Int) (nn : Nat) (h' : Heap) (tk' : Nat), 0 ≤ x' → 0 ≤ y' → y' < 2147483647 → IntsAre dv ds → DepOk ds → @Ne Nat d D → (∀ p ∈ news, @Ne Nat p.1 D) → Fr h₀ L h' m → News h₀ L h' ((D, listOf dv.toArray nn) :: (d, srcO x' y' tx' ty' n) :: news) → Q (.ref D) { s with heap := h', toks := tk' }) :
    wpAny (model PySem.Challenge.pw_ok0132_01 w) (ktrTop dp un gd cn cs L a ccd cl outer) (call (.ref 182) [.ref d]) Q E s := by
  refine wpAny_call ?_
  k_dflt ktr_enter
  k_steps
  rename Fr _ _ _ _ => F1
  rename News _ _ _ _ => N1
  rename (d < _ ∧ _) => l1
  rename_i D0 _ _
  have hD0 := ktn_ltOf l1.2
  k_dflt (refine For_W (by k_asm) ?_)
  k_steps
  rename IsRange _ _ _ _ _ _ _ _ => hrg
  rename Fr _ _ _ _ => F2
  rename News _ _ _ _ => N2
  rename_i x1 y1 r1 tx1 ty1 tr1 h3 tk3 hx1 hy1' hy1b hr0 hr1 F3 N3 h4 tk4 t5 u5 v5 kp
  have hru := range_up (y := 1 + r1) (by omega) (by omega)
  refine SrcF.intro (n := (1 + r1).toNat) (iterG_range (by exact rfl) hrg hru.1 hru.2) F2 N2 trivial
    (fun i m₁ nw => ∃ (x y : Int) (tx ty : Tok) (D : Addr) (dv : List Value) (ds : List Int) (nn : Nat), 0 ≤ x ∧ 0 ≤ y ∧ y < 2147483647 ∧ m₁ "well" = some (.ref d) ∧ m₁ "depths" = some (.ref D) ∧ IntsAre dv ds ∧ DepOk ds ∧ @Ne Nat d D ∧ (∀ p ∈ news, @Ne Nat p.1 D) ∧ nw = (D, listOf dv.toArray nn) :: (d, srcO x y tx ty n) :: news)
    ⟨x1, y1, tx1, ty1, D0, _, [1, 1], _, hx1, hy1', hy1b, by with_unfolding_all rfl, by with_unfolding_all rfl, .cons _ _ (.cons _ _ .nil), DepOk.start, Nat.ne_of_lt l1.1, fun p hp => Nat.ne_of_lt (hD0 p hp), rfl⟩ ?turn ?fin
  case turn =>
    rintro i v I oI m₁ nw h tk hi ⟨t, hv⟩ ⟨x2, y2, tx2, ty2, D, dv, ds, nn, hx2, hy2, hy2b, hm1, hm2, hdv, hds, hdD, hnD, rfl⟩ hcI O S F N
    replace F := fr_cast F (pin hm1 (pin hm2 rfl))
    clear N1 F1 N2 F2 N3 F3
    have hdl := hdv.length
    have hlo := hds.lo
    have hhi := hds.hi
    have hDI : @Ne Nat D I := O (D, listOf dv.toArray nn) (by simp)
    have hdI : @Ne Nat d I := O (d, srcO x2 y2 tx2 ty2 n) (by simp)
    k_steps
    k_dflt (refine For_W (by k_asm) ?_)
    k_steps
    rename IsRange _ _ _ _ _ _ _ _ => hrg
    rename Fr _ _ _ _ => F9
    rename News _ _ _ _ => N9
    rename_i x3 y3 r3 tx3 ty3 tr3 h5 tk5 hx3 hy3 hy3b hr30 hr31 h6 l6 h7 F7 N7 l7 x4 y4 r4 tx4 ty4 tr4 h8 tk8 hx4 hy4 hy4b hr40 hr41 F8 N8 t8 h9 tk9 t9 u9 v9 kp
    have hg := get4 r4.toNat
    have hru := range_up hg.1 (Int.le_trans hg.2 (by decide))
    have N10 : News _ _ h9 ((D, listOf dv.toArray nn) :: (I, oI) :: (d, srcO x4 y4 tx4 ty4 n) :: news) := fun p hp => N9 p (by
      simp only [List.mem_cons] at hp ⊢
      rcases hp with hp | hp | hp | hp
      · exact .inr (.inr (.inl hp))
      · exact .inr (.inl hp)
      · exact .inr (.inr (.inr (.inl hp)))
      · exact .inr (.inr (.inr (.inr hp))))
    refine SrcF.intro (n := (([1, 1, 2, 9] : List Int).getD r4.toNat 0).toNat) (iterG_range (by exact rfl) hrg hru.1 hru.2) F9 N10 trivial
      (fun i m₁ nw => ∃ (D : Addr) (dv : List Value) (ds : List Int) (nn : Nat), m₁ "well" = some (.ref d) ∧ m₁ "depths" = some (.ref D) ∧ m₁ "at" = some (.int r3 tr3) ∧ r3 < ds.length ∧ IntsAre dv ds ∧ DepOk ds ∧ @Ne Nat d D ∧ (∀ p ∈ news, @Ne Nat p.1 D) ∧ nw = (D, listOf dv.toArray nn) :: (I, oI) :: (d, srcO x4 y4 tx4 ty4 n) :: news)
      ⟨D, dv, ds, nn, by with_unfolding_all rfl, by with_unfolding_all rfl, by with_unfolding_all rfl, hr31, hdv, hds, hdD, hnD, rfl⟩ ?turn2 ?fin2
    case turn2 =>
      clear hdv hds hdl hlo hhi hdD hnD N7 F7 N8 F8 N9 F9 N10 hm1 hm2 O hDI
      rintro i2 v2 I2 oI2 m₂ nw h tk hi2 hv2 ⟨D, dv, ds, nn, hm1, hm2, hm3, hrd, hdv, hds, hdD, hnD, rfl⟩ hcI2 O2 S2 F N
      replace F := fr_cast F (pin hm1 (pin hm2 (pin hm3 rfl)))
      have hdl := hdv.length
      have hlo := hds.lo
      have hhi := hds.hi
      k_steps
      · k_dflt (refine' slice_upK ?F ?N ?m ?i ?a ?z ?_ ?s ?t; (case F | N => k_asm); (case m => k_mem); (case i => with_reducible assumption); (case a | z => omega); (case s => with_unfolding_all rfl); (case t => intro _; with_unfolding_all rfl); k_whole)
        intro Da wsa ha Fa Na la hIa
        (try k_lt la)
        k_steps
        k_dflt (refine' slice_fromK ?F ?N ?m ?i ?a ?z ?_ ?s ?t; (case F | N => k_asm); (case m => k_mem); (case i => with_reducible assumption); (case a | z => omega); (case s => with_unfolding_all rfl); (case t => intro _; with_unfolding_all rfl); k_whole)
        intro Db wsb hb Fb Nb lb hIb
        (try k_lt lb)
        k_steps
        rename Fr _ _ _ _ => F9
        rename News _ _ _ _ => N9
        rename_i Dn wsn h10 hwn ln h11
        have hs := hds.split (a := r3.toNat) (by omega) (by assumption) (by omega)
        rw [show (r3 + 1).toNat = r3.toNat + 1 by omega] at hwn
        refine ForEnd.next F9 N9 hcI2 ((Dn, listOf wsn.toArray 0) :: (I, oI) :: (d, srcO x4 y4 tx4 ty4 n) :: news) (fun p hp => ?_)
          ⟨.inr rfl, .inl (O2 (I, oI) (by simp)), .inr rfl, OffIt.of fun p hp => O2 p (by simp [hp])⟩ trivial
          ⟨Dn, wsn, _, 0, by with_unfolding_all rfl, by with_unfolding_all rfl, by with_unfolding_all rfl, ?_, hwn, hs, Nat.ne_of_lt ln.2.2.2.2.2.2.2.1, fun p hp => Nat.ne_of_lt (ktn_ltOf ln.2.2.2.2.2.2.2.2 p hp), rfl⟩
        · simp only [List.mem_cons] at hp
          rcases hp with rfl | rfl | rfl | rfl | hp
          · k_mem
          · k_mem
          · k_mem
          · k_mem
          · repeat (first | exact hp | apply List.mem_cons_of_mem)
        · simp only [List.length_append, List.length_take, List.length_drop, List.length_cons, List.length_nil]; omega
      all_goals
        rename Fr _ _ _ _ => F9
        rename News _ _ _ _ => N9
        exact ForEnd.next F9 N9 hcI2 _ (fun p hp => hp) (OffIt.of O2) trivial
          ⟨D, dv, ds, nn, by with_unfolding_all rfl, by with_unfolding_all rfl, by with_unfolding_all rfl, hrd, hdv, hds, hdD, hnD, rfl⟩
    rintro h' tk' m' nw F N S' ⟨D, dv, ds, nn, hm1, hm2, hm3, hrd, hdv, hds, hdD, hnD, rfl⟩
    replace F := fr_cast F (pin hm1 (pin hm2 (pin hm3 rfl)))
    clear N7 F7 N8 F8 N9 F9 N10
    dsimp only
    k_steps
    rename Fr _ _ _ _ => F9
    rename News _ _ _ _ => N9
    exact ForEnd.next F9 N9 hcI ((D, listOf dv.toArray nn) :: (d, srcO x4 y4 tx4 ty4 n) :: news) (fun p hp => by
        simp only [List.mem_cons] at hp ⊢
        rcases hp with hp | hp | hp | hp
        · exact .inr (.inl hp)
        · exact .inl hp
        · exact .inr (.inr (.inl hp))
        · exact .inr (.inr (.inr hp))) ⟨.inr rfl, .inr rfl, OffIt.of fun p hp => O p (by simp [hp])⟩ trivial
      ⟨x4, y4, tx4, ty4, D, dv, ds, nn, hx4, hy4, hy4b, by with_unfolding_all rfl, by with_unfolding_all rfl, hdv, hds, hdD, hnD, rfl⟩
  case fin =>
    rintro h' tk' m' nw F N S' ⟨x2, y2, tx2, ty2, D, dv, ds, nn, hx2, hy2, hy2b, hm1, hm2, hdv, hds, hdD, hnD, rfl⟩
    replace F := fr_cast F (pin hm1 (pin hm2 rfl))
    clear N1 F1 N2 F2 N3 F3
    dsimp only
    k_steps
    exact hret x2 y2 tx2 ty2 D dv ds nn _ _ hx2 hy2 hy2b hdv hds hdD hnD (by k_asm) (by k_asm)
theorem item_atW {prog : Program} {A : Around} {value slice : PySem.Expr} {l : Addr} {items : Array Value} {n : Nat} {k : Int} {u : Tok} {x : Value} {nw : List (Addr × Obj)} (N : News h₀ L s.heap nw) (hm : (l, listOf items n) ∈ nw) (hx : items[k.toNat]? = some x) (h0 : 0 ≤ k) (hfit : k < 2 ^ 63) (h : Q x s)
    (hs : subscripted slice false (.ref l) (.int k u) = operate [.ref l, .int k u] (getItem (.ref l) (.int k u)) := by with_unfolding_all rfl) :
    wpAny (model prog w) A (subscriptTail value slice (.ref l) (.int k u)) Q E s := item_listR (News.isList N hm) h0 hfit hx h hs
local macro_rules | `(tactic| walk_at "subscriptTail Name Name ref int") => `(tactic| (k_here; (with_reducible show wpAny _ _ (subscriptTail _ _ (Value.ref _) (Value.int _ _)) _ _ _); k_dflt (refine' item_atW ?k1 ?k2 ?k3 ?k4 ?k5 ?_; (case k1 => k_asm); (case k2 => k_mem); (case k3 => with_reducible assumption); (case k4 | k5 => omega); k_whole)))
theorem ints_snoc {k : Int} {t : Tok} : ∀ {vs : List Value} {ks : List Int}, IntsAre vs ks → IntsAre (vs ++ [.int k t]) (ks ++ [k])
  | _, _, .nil => .cons k t .nil
  | _, _, .cons x u r => .cons x u (ints_snoc r)
theorem way_lt {c x : Int} {i k : Nat} (hi : i < 2) (h : c ≤ (2 * x + i) * 2 ^ k) : c < (x + 1) * 2 ^ (k + 1) := by
  have hp : (0 : Int) < 2 ^ k := Int.pow_pos (by decide)
  have e : (x + 1) * 2 ^ (k + 1) = (2 * x + 2) * 2 ^ k := by rw [Int.pow_succ', ← Int.mul_assoc]; congr 1; omega
  rw [e]
  have h2 : (2 * x + i) * 2 ^ k ≤ (2 * x + 1) * 2 ^ k := Int.mul_le_mul_of_nonneg_right (by omega) (Int.le_of_lt hp)
  have h3 : (2 * x + 1) * 2 ^ k < (2 * x + 2) * 2 ^ k := Int.mul_lt_mul_of_pos_right (by omega) hp
  omega
theorem flat_zeros : ∀ n : Nat, (List.replicate n [(0 : Int)]).flatten = List.replicate n 0
  | 0 => rfl
  | n + 1 => by rw [List.replicate_succ, List.flatten_cons, flat_zeros n]; rfl
def WayC (w : World) (size : Nat) : Prop := ∀ {mean : ExcName → Option Value} {mg mb : PySem.Str → Option Value} {dp un : Nat} {gd : Option (List Code)} {cn : PySem.Str} {cs : Scope} {a : Addr} {ccd : Value} {cl : List (PySem.Str × Addr)} {outer : List Env} {A₀ : Around} {base h₀ : Heap} {L : Addr} {m : PySem.Str → Option Value} {s : Shared} {Q E : Value → Shared → Prop} {nw : List (Addr × Obj)} {t : TS} {j sn : Nat} {x c : Int} {tz : Tok},
  Below A₀ base outer h₀ → Fr h₀ L s.heap m → (hdx.heap_1 w.params).In h₀ → News h₀ L s.heap nw → Top vw (looseW vw []) mean mg mb h₀ → cs.kind = .function →
  t.In nw → WayOk t sn c → (j, x) ∈ t.doms → j + size = sn → 1 ≤ size → size ≤ 16 → x * 2 ^ size ≤ c → dp + 2 * size + 4 < recursionLimit → un + 12 * size + 60 < cLine →
  ((x + 1) * 2 ^ size ≤ c → ∀ h' tk', Fr h₀ L h' m → News h₀ L h' nw → Q .none { s with heap := h', toks := tk' }) →
  (c < (x + 1) * 2 ^ size → ∀ D bl n h' tk', IntsAre bl (bitI c size) → (∀ p ∈ nw, p.1 < D) → Fr h₀ L h' m → News h₀ L h' ((D, listOf (List.toArray bl) n) :: nw) → Q (.ref D) { s with heap := h', toks := tk' }) →
  wpAny (model PySem.Challenge.pw_ok0132_01 w) (ktrTop dp un gd cn cs L a ccd cl outer) (call (.ref 196) [.ref (t.A j x), .int size tz]) Q E s
set_option maxHeartbeats 4000000 in
theorem way_all (w : World) : ∀ size : Nat, WayC w size := by
  intro size
  induction size using Nat.strongRecOn with
  | _ size ih =>
  intro mean mg mb dp un gd cn cs a ccd cl outer A₀ base h₀ L m s Q E nw t j sn x c tz B F X N T hk hin hway hjx hsz h1 h16 hxc hd hu hnone hsome
  obtain ⟨k, rfl⟩ : ∃ k, size = k + 1 := ⟨size - 1, by omega⟩
  have hsk : sn - j - 1 = k := by omega
  have hpow : (2 : Int) ^ (k + 1) = 2 * 2 ^ k := Int.pow_succ' ..
  have hpp : (0 : Int) < 2 ^ k := Int.pow_pos (by decide)
  have hnode := hin _ hjx
  have N0 : News h₀ L s.heap ((t.A j x, listOf #[t.ch j x 0, t.ch j x 1] 0) :: nw) := fun p hp => by
    rcases List.mem_cons.mp hp with rfl | hp
    · exact N _ hnode
    · exact N _ hp
  clear N
  refine wpAny_call ?_
  k_dflt ktr_enter
  k_steps
  k_dflt (refine For_W (by k_asm) ?_)
  k_steps
  rename Fr _ _ _ _ => F1
  rename News _ _ _ _ => N1
  rename_i l0 h1' l1
  obtain ⟨t0, t1, N1⟩ : ∃ t0 t1, News _ _ _ ((l0, listOf #[.int 0 t0, .int 1 t1] 0) :: (t.A j x, listOf #[t.ch j x 0, t.ch j x 1] 0) :: nw) := ⟨_, _, N1⟩
  have hS0 : ∀ g : Heap, LCg.SrcAt g l0 #[.int 0 t0, .int 1 t1] ((l0, listOf #[.int 0 t0, .int 1 t1] 0) :: (t.A j x, listOf #[t.ch j x 0, t.ch j x 1] 0) :: nw) := fun g => .inr ⟨_, List.mem_cons_self .., rfl, _, rfl⟩
  refine SrcF.intro (n := 2) (S := LCg.SrcAt _ l0 #[.int 0 t0, .int 1 t1]) (iterG_list (its := #[.int 0 t0, .int 1 t1]) (by exact rfl) F1 N1 (hS0 _)) F1 N1 (hS0 _)
    (fun i m₁ nw' => m₁ "node" = some (.ref (t.A j x)) ∧ m₁ "size" = some (.int ((k + 1 : Nat) : Int) tz) ∧ nw' = (l0, listOf #[.int 0 t0, .int 1 t1] 0) :: (t.A j x, listOf #[t.ch j x 0, t.ch j x 1] 0) :: nw ∧ (2 * x + i) * 2 ^ k ≤ c)
    ⟨by with_unfolding_all rfl, by with_unfolding_all rfl, rfl, by rw [hpow, ← Int.mul_assoc, Int.mul_comm x 2] at hxc; simpa using hxc⟩ ?turn ?fin
  case turn =>
    rintro i v I oI m₁ nw1 h tk hi hv ⟨hm1, hm2, rfl, hinv⟩ hcI O S' F N'
    replace F := fr_cast F (pin hm1 (pin hm2 rfl))
    clear N1 F1 N0
    obtain ⟨tv, rfl⟩ : ∃ tv, v = .int (i : Int) tv := by
      have : i = 0 ∨ i = 1 := by omega
      rcases this with rfl | rfl
      · exact ⟨t0, (Option.some.inj hv).symm⟩
      · exact ⟨t1, (Option.some.inj hv).symm⟩
    have hitem := TS.item (t := t) (j := j) (x := x) hi
    by_cases hfree : c ≤ (2 * x + i) * 2 ^ k
    · have hch := hway.free j x i hjx (by omega) hi (by rw [hsk]; exact hfree)
      rw [hch] at hitem
      have hbit := bitI_free (c := c) (x := x) (y := k) hi (by omega)
      k_steps
      · refine ForEnd.ret ?_
        dsimp only
        rename News _ _ _ _ => N9
        rename (I < _ ∧ _) => l9
        obtain rfl : k = 0 := by omega
        k_steps
        exact hsome (way_lt hi hfree) _ [.int (i : Int) tv] _ _ _ (by rw [hbit]; exact .cons _ _ .nil) (fun p hp => ktn_ltOf l9.2.2.2 p hp) (by k_asm) (by refine' cb_drop ?cbN ?cbS; (case cbN => assumption); (case cbS => kcj_all))
      · refine ForEnd.ret ?_
        dsimp only
        rename News _ _ _ _ => N9
        rename IntsAre _ ([(i : Int)] ++ _) => hI9
        rename_i l9
        have l9' := ktn_ltOf l9.2.2.2.2.2.2
        rw [flat_zeros, show (((k + 1 : Nat) : Int) - 1).toNat = k by omega] at hI9
        k_steps
        exact hsome (way_lt hi hfree) _ _ _ _ _ (by rw [hbit]; exact hI9) (fun p hp => l9' p hp) (by k_asm) (by refine' cb_drop ?cbN ?cbS; (case cbN => assumption); (case cbS => kcj_all))
    · rcases hway.taken j x i hjx (by omega) hi (by rw [hsk]; omega) with ⟨sv, su, hch, hfull⟩ | ⟨hdom, hch⟩
      · rw [hch] at hitem
        rw [hsk] at hfull
        k_steps
        all_goals
          rename Fr _ _ _ _ => F9
          rename News _ _ _ _ => N9
          exact ForEnd.next F9 N9 hcI _ (fun p hp => hp) ⟨.inr rfl, .inr rfl, OffIt.of fun p hp => O p (by simp [hp])⟩ (hS0 _)
            ⟨by with_unfolding_all rfl, by with_unfolding_all rfl, rfl, by rw [show 2 * x + ((i + 1 : Nat) : Int) = 2 * x + i + 1 by omega]; exact hfull⟩
      · rw [hch] at hitem
        have hcn := hin _ hdom
        have N8 : News _ _ h ((t.A (j + 1) (2 * x + i), t.obj (j + 1) (2 * x + i)) :: (I, oI) :: (l0, listOf #[.int 0 t0, .int 1 t1] 0) :: (t.A j x, listOf #[t.ch j x 0, t.ch j x 1] 0) :: nw) := fun p hp => by
          rcases List.mem_cons.mp hp with rfl | hp
          · exact N' _ (by simp only [List.mem_cons]; exact .inr (.inr (.inr hcn)))
          · exact N' _ hp
        unfold TS.obj at N8
        clear N'
        k_steps
        · rename Fr _ _ _ _ => F9
          rename News _ _ _ _ => N9
          obtain rfl : k = 0 := by omega
          exact ForEnd.next F9 N9 hcI _ (fun p hp => List.mem_cons_of_mem _ hp) ⟨.inr rfl, .inr rfl, OffIt.of fun p hp => O p (by simp [hp])⟩ (hS0 _)
            ⟨by with_unfolding_all rfl, by with_unfolding_all rfl, rfl, by simp at hfree ⊢; omega⟩
        · have ih' : WayC w k := ih k (by omega)
          unfold WayC at ih'
          rename News _ _ _ _ => N9
          rw [show (((k + 1 : Nat) : Int) - 1) = (k : Int) by omega]
          have hle : (2 * x + i) * 2 ^ k ≤ c := by omega
          k_dflt (refine' ih' ?k1 ?k2 ?k3 N9 ?k5 ?k6 (hin.up fun p hp => by (repeat (first | exact hp | apply List.mem_cons_of_mem))) hway hdom (by omega) (by omega) (by omega) hle ?k9 ?k10 ?_ ?_; (case k1 | k2 | k3 | k5 => k_asm); (case k6 => first | exact rfl | assumption); (case k9 => ktr_room); (case k10 => ktr_units); k_whole)
          · intro hfull h' tk' F N
            clear N9 N8
            k_steps
            rename Fr _ _ _ _ => F9
            rename News _ _ _ _ => N9
            exact ForEnd.next F9 N9 hcI _ (fun p hp => List.mem_cons_of_mem _ hp) ⟨.inr rfl, .inr rfl, OffIt.of fun p hp => O p (by simp [hp])⟩ (hS0 _)
              ⟨by with_unfolding_all rfl, by with_unfolding_all rfl, rfl, by rw [show 2 * x + ((i + 1 : Nat) : Int) = 2 * x + i + 1 by omega]; exact hfull⟩
          · intro hpart D bl nb h' tk' hbl hDn F N
            clear N9 N8
            have hbit := bitI_part (y := k) hi hle hpart
            have hbll : bl.length = k := by rw [hbl.length, bitI_length]
            k_steps
            rename_i h20 l20 h21 F21 N21 l21 h22 F22 N22
            refine ForEnd.ret ?_
            dsimp only
            k_steps
            have hN : News h₀ L h22 ((h21.objs.size, listOf (List.toArray (Value.int (i : Int) tv :: bl)) 0) :: nw) := by
              rename News h₀ _ _ _ => kN
              intro p hp
              rcases List.mem_cons.mp hp with rfl | hp
              · exact kN _ (List.mem_cons_self ..)
              · exact kN _ (by repeat (first | exact hp | apply List.mem_cons_of_mem))
            exact hsome (by have e : (x + 1) * 2 ^ (k + 1) = (2 * x + 2) * 2 ^ k := by
                              rw [hpow, ← Int.mul_assoc]; congr 1; omega
                            rw [e]
                            have := Int.mul_le_mul_of_nonneg_right (show 2 * x + (i : Int) + 1 ≤ 2 * x + 2 by omega) (Int.le_of_lt hpp)
                            omega) _ (.int (i : Int) tv :: bl) 0 _ _ (by rw [hbit]; exact .cons _ _ hbl) (fun p hp => Heap.lt_size (N21 p (by repeat (first | exact hp | apply List.mem_cons_of_mem))).1) (by k_asm) hN
  case fin =>
    rintro h' tk' m' nw' F N S' ⟨hm1, hm2, rfl, hinv⟩
    replace F := fr_cast F (pin hm1 (pin hm2 rfl))
    clear N1 F1
    dsimp only
    k_steps
    exact hnone (by rw [hpow, ← Int.mul_assoc]; have : (x + 1) * 2 = 2 * x + ((2 : Nat) : Int) := by omega
                    rw [this]; exact hinv) _ _ (by k_asm) (by refine' cb_drop ?cbN ?cbS; (case cbN => assumption); (case cbS => kcj_all))
theorem item_lastW {prog : Program} {A : Around} {value slice : PySem.Expr} {l : Addr} {vs : List Value} {ns : List Int} {n : Nat} {u : Tok} {x : Int} {nw : List (Addr × Obj)} (N : News h₀ L s.heap nw) (hm : (l, listOf vs.toArray n) ∈ nw) (hi : IntsAre vs ns) (hl : 1 ≤ ns.length) (hx : ns.getD (ns.length - 1) 0 = x) (h : ∀ t, Q (.int x t) s)
    (hs : subscripted slice false (.ref l) (.int (-1) u) = operate [.ref l, .int (-1) u] (getItem (.ref l) (.int (-1) u)) := by with_unfolding_all rfl) :
    wpAny (model prog w) A (subscriptTail value slice (.ref l) (.int (-1) u)) Q E s := item_list_ints_negR (News.isList N hm) hi (by decide) (by omega) (by decide) (fun t => by rw [show (-1 + (ns.length : Int)).toNat = ns.length - 1 by omega, hx]; exact h t) hs
section
variable {prog : Program} {A : Around} {nw : List (Addr × Obj)} {value slice : PySem.Expr} {l : Addr} {vs : List Value} {ns : List Int} {n : Nat} {t : Tok}
theorem slice_initK (F : Fr h₀ L s.heap m) (N : News h₀ L s.heap nw) (hm : (l, listOf vs.toArray n) ∈ nw) (hi : IntsAre vs ns) (hz : ns.length ≤ 1000)
    (h : ∀ D ws h', Fr h₀ L h' m → News h₀ L h' ((D, listOf (List.toArray ws) 0) :: nw) → (∀ p ∈ nw, p.1 < D) → IntsAre ws (ns.take (ns.length - 1)) → Q (.ref D) { s with heap := h' })
    (hs : subscripted slice false (.ref l) (.ref s.heap.objs.size) = operate [.ref s.heap.objs.size, .ref l] (getItem (.ref l) (.ref s.heap.objs.size)) := by with_unfolding_all rfl) (ht : ∀ r, letTemporaryGo value (.ref l) r = pure () := by intro _; with_unfolding_all rfl) :
    wpAny (model prog w) A (subscriptTail value slice (.ref l) (.ref s.heap.objs.size)) Q E { s with heap := s.heap.push { cls := .type "slice", data := .fields #[.none, .int (-1) t, .none] } } :=
  kmk_slice_ints F N (News.isList N hm) .none (.int (-1) t) hi (kmk_upto_neg hi (by decide)) rfl (fun D ws h' F' N' l1 hw _ _ => h D ws h' F' N' l1 hw) hs ht (by rw [sizeLine_eq, List.size_toArray, hi.length]; omega)
end
def WaysAt (ex : List (Addr × Obj)) (wr : List Value) (ss : List Int) (k : Nat) : Prop := wr.length = k ∧ ∀ i, i < k → ∃ W vals nn, wr[i]? = some (.ref W) ∧ (W, listOf (List.toArray vals) nn) ∈ ex ∧ IntsAre vals (bitI (cdOf ss i) (sz ss i))
structure TrSt (t : TS) (st wl : Addr) (ex news : List (Addr × Obj)) : Prop where
  root : t.A 0 0 = st
  sepW : ∀ p ∈ t.doms, @Ne Nat wl (t.A p.1 p.2)
  sepX : ∀ p ∈ t.doms, ∀ q ∈ ex, @Ne Nat q.1 (t.A p.1 p.2)
  above : ∀ p ∈ t.doms, ∀ q ∈ news, @LT.lt Nat _ q.1 (t.A p.1 p.2)
  exW : ∀ q ∈ ex, @Ne Nat q.1 wl
  exN : ∀ p ∈ ex, ∀ q ∈ news, @LT.lt Nat _ q.1 p.1
  wN : ∀ q ∈ news, @LT.lt Nat _ q.1 wl
theorem news_unfront {h h' : Heap} {g : Heap} {d : Addr} {o : Obj} {l : List (Addr × Obj)} (N7 : News g L h l) (hm : (d, o) ∈ l) (N9 : News g L h' ((d, o) :: offAddr d l)) : News g L h' l := fun q hq => by
  by_cases e : q.1 = d
  · have h1 := (N7 q hq).1
    have h2 := (N7 _ hm).1
    dsimp only at h1 h2
    rw [e, h2] at h1
    have : q = (d, o) := Prod.ext e (Option.some.inj h1).symm
    rw [this]
    exact N9 _ (List.mem_cons_self ..)
  · exact N9 _ (List.mem_cons_of_mem _ (List.mem_filter.mpr ⟨hq, decide_eq_true e⟩))
theorem news_grow {g h : Heap} {t : TS} {ot : List (Addr × Obj)} {i b : Nat} {x y : Int} {a : Addr} {o : Obj} (inj : ∀ p ∈ ((t.addn (i + 1) y a).setc i x b (.ref a)).doms, ∀ q ∈ ((t.addn (i + 1) y a).setc i x b (.ref a)).doms, ((t.addn (i + 1) y a).setc i x b (.ref a)).A p.1 p.2 = ((t.addn (i + 1) y a).setc i x b (.ref a)).A q.1 q.2 → p = q)
    (hd : (i, x) ∈ t.doms) (hq : (i + 1, y) ∉ t.doms) (hs : ∀ q ∈ ot, q.1 ≠ t.A i x)
    (N : News g L h ((a, listOf #[.none, .none] 0) :: (t.A i x, o) :: offAddr (t.A i x) (t.led ++ ot))) (ho : ((t.addn (i + 1) y a).setc i x b (.ref a)).obj i x = o := by first | rfl | (unfold TS.obj TS.setc TS.addn; simp)) :
    News g L h (((t.addn (i + 1) y a).setc i x b (.ref a)).led ++ ot) := by
  have hA : (t.addn (i + 1) y a).A i x = t.A i x := if_neg (fun r => absurd r.1 (by omega))
  refine news_set (t := t.addn (i + 1) y a) (j := i) (x := x) (b := b) (v := .ref a) inj (List.mem_cons_of_mem _ hd) (fun q hq => by rw [hA]; exact hs q hq) ?_
  rw [hA, ho, led_add hq]
  intro p hp
  rcases List.mem_cons.mp hp with rfl | hp
  · exact N _ (List.mem_cons_of_mem _ (List.mem_cons_self ..))
  · obtain ⟨h1, h2⟩ := List.mem_filter.mp hp
    rcases List.mem_cons.mp h1 with rfl | h1
    · exact N _ (List.mem_cons_self ..)
    · exact N _ (List.mem_cons_of_mem _ (List.mem_cons_of_mem _ (List.mem_filter.mpr ⟨h1, h2⟩)))
theorem addn_A {t : TS} {i b : Nat} {x y : Int} {a : Addr} {v : Value} {p : Nat × Int} (hp : p ∈ ((t.addn (i + 1) y a).setc i x b v).doms) : (((t.addn (i + 1) y a).setc i x b v).A p.1 p.2 = a) ∨ (p ∈ t.doms ∧ ((t.addn (i + 1) y a).setc i x b v).A p.1 p.2 = t.A p.1 p.2) := by
  by_cases e : p.1 = i + 1 ∧ p.2 = y
  · exact .inl (if_pos e)
  · have hp' : p ∈ (i + 1, y) :: t.doms := hp
    rcases List.mem_cons.mp hp' with rfl | hp'
    · exact absurd ⟨rfl, rfl⟩ e
    · exact .inr ⟨hp', if_neg e⟩
theorem tr_new {t : TS} {st wl : Addr} {ex news : List (Addr × Obj)} {i b : Nat} {x y : Int} {a : Addr} {v : Value} (hT : TrSt t st wl ex news) (hq : (i + 1, y) ∉ t.doms) (h1 : @LT.lt Nat _ wl a) (h2 : ∀ q ∈ ex, @LT.lt Nat _ q.1 a) (h3 : ∀ q ∈ news, @LT.lt Nat _ q.1 a) : TrSt ((t.addn (i + 1) y a).setc i x b v) st wl ex news := by
  have hA : ∀ p ∈ ((t.addn (i + 1) y a).setc i x b v).doms, (((t.addn (i + 1) y a).setc i x b v).A p.1 p.2 = a) ∨ (p ∈ t.doms ∧ ((t.addn (i + 1) y a).setc i x b v).A p.1 p.2 = t.A p.1 p.2) := fun p hp => by
    by_cases e : p.1 = i + 1 ∧ p.2 = y
    · exact .inl (if_pos e)
    · have hp' : p ∈ (i + 1, y) :: t.doms := hp
      rcases List.mem_cons.mp hp' with rfl | hp'
      · exact absurd ⟨rfl, rfl⟩ e
      · exact .inr ⟨hp', if_neg e⟩
  refine ⟨?_, fun p hp => ?_, fun p hp q hq' => ?_, fun p hp q hq' => ?_, hT.exW, hT.exN, hT.wN⟩
  · show (if 0 = i + 1 ∧ 0 = y then a else t.A 0 0) = st
    rw [if_neg (fun r => absurd r.1 (by omega))]
    exact hT.root
  · rcases hA p hp with e | ⟨hp', e⟩
    · rw [e]; exact Nat.ne_of_lt h1
    · rw [e]; exact hT.sepW p hp'
  · rcases hA p hp with e | ⟨hp', e⟩
    · rw [e]; exact Nat.ne_of_lt (h2 q hq')
    · rw [e]; exact hT.sepX p hp' q hq'
  · rcases hA p hp with e | ⟨hp', e⟩
    · rw [e]; exact h3 q hq'
    · rw [e]; exact hT.above p hp' q hq'
set_option maxHeartbeats 4000000 in
theorem tree_spec {zx sx : Addr} {vs ws : List Value} {n n2 : Nat} {ss ks sy : List Int}
    (B : Below A₀ base outer h₀) (F : Fr h₀ L s.heap m) (X : (hdx.heap_1 w.params).In h₀) (N : News h₀ L s.heap (news)) (T : Top vw (looseW vw []) mean mg mb h₀) (hk : cs.kind = .function) (m1 : (zx, listOf vs.toArray n) ∈ news) (m2 : (sx, listOf ws.toArray n2) ∈ news)
    (hvs : IntsAre vs ss) (hws : IntsAre ws sy) (S : Sizes ss ks) (hU : usum ss ss.length < 65536) (hyl : sy.length = ss.length)
    (hd : dp + 60 < recursionLimit) (hu : un + 500 < cLine)
    (hret : ∀ (Tt wl : Addr) (t : TS) (wr : List Value) (nn : Nat) (ex : List (Addr × Obj)) (h' : Heap) (tk' : Nat), Canon ss sy ss.length t → WaysAt ex wr ss ss.length → TrSt t (t.A 0 0) wl ex news → Fr h₀ L h' m →
      News h₀ L h' ((Tt, { cls := .type "tuple", data := .seq #[.ref (t.A 0 0), .ref wl] }) :: (wl, listOf wr.toArray nn) :: (t.led ++ (ex ++ news))) → Q (.ref Tt) { s with heap := h', toks := tk' }) :
    wpAny (model PySem.Challenge.pw_ok0132_01 w) (ktrTop dp un gd cn cs L a ccd cl outer) (call (.ref 189) [.ref zx, .ref sx]) Q E s := by
  have hvl := hvs.length
  have hwl := hws.length
  have hsl := S.len
  have N0 : News h₀ L s.heap ((zx, listOf vs.toArray n) :: news) := fun p hp => by
    rcases List.mem_cons.mp hp with rfl | hp
    · exact N _ m1
    · exact N _ hp
  clear N
  refine wpAny_call ?_
  k_dflt ktr_enter
  k_steps
  k_dflt (refine For_W (by k_asm) ?_)
  k_steps
  rename IsRange _ _ _ _ _ _ _ _ => hrg
  rename Fr _ _ _ _ => F1
  rename News _ _ _ _ => N1
  rename_i st h4 lA h3 tk1 wl h2 lB h1 F0 N0 h6 tk6 t6 u6 v6 kp
  have hA := ktn_ltOf lA.2
  have hB := ktn_ltOf lB.2.2
  have N2 : News _ _ h6 ((wl, listOf (List.toArray []) 0) :: ((TS.start st).led ++ ([] ++ news))) := fun p hp => by
    rcases List.mem_cons.mp hp with rfl | hp
    · exact N1 _ (List.mem_cons_self ..)
    rcases List.mem_cons.mp hp with rfl | hp
    · exact N1 _ (List.mem_cons_of_mem _ (List.mem_cons_self ..))
    · exact N1 _ (List.mem_cons_of_mem _ (List.mem_cons_of_mem _ (List.mem_cons_of_mem _ hp)))
  have hru := range_up (y := (ss.length : Int)) (by omega) (by omega)
  have hT0 : TrSt (TS.start st) st wl [] news := by
    have e : ∀ p ∈ (TS.start st).doms, (TS.start st).A p.1 p.2 = st := fun _ _ => rfl
    exact ⟨rfl, fun p _ => Nat.ne_of_gt lB.1, (fun p _ q hq => by cases hq), fun p _ q hq => hA q hq, (fun q hq => by cases hq), (fun q hq => by cases hq), fun q hq => hB q hq⟩
  refine SrcF.intro (n := ss.length) (iterG_range (by exact rfl) hrg hru.1 (by simpa using hru.2)) F1 N2 trivial
    (fun i m₁ nw => ∃ (t : TS) (wr : List Value) (nn : Nat) (ex : List (Addr × Obj)), m₁ "sizes" = some (.ref zx) ∧ m₁ "symbols" = some (.ref sx) ∧ m₁ "stem" = some (.ref st) ∧ m₁ "ways" = some (.ref wl) ∧ Canon ss sy i t ∧ WaysAt ex wr ss i ∧ TrSt t st wl ex news ∧ nw = (wl, listOf wr.toArray nn) :: (t.led ++ (ex ++ news)))
    ⟨TS.start st, [], 0, [], by with_unfolding_all rfl, by with_unfolding_all rfl, by with_unfolding_all rfl, by with_unfolding_all rfl, canon_start ss sy st, ⟨rfl, fun i hi => absurd hi (Nat.not_lt_zero _)⟩, hT0, rfl⟩ ?turn ?fin
  case turn =>
    clear N1 N2 N0 F1 F0 hT0 lA lB hA hB
    rintro i v I oI m₁ nw h tk hi ⟨tv, hv⟩ ⟨t, wr, nn, ex, hm1, hm2, hm3, hm4, C, hW, hT, rfl⟩ hcI O S' F N
    rw [show (0 + (i : Int) * 1) = i by omega] at hv
    subst hv
    obtain rfl := hT.root
    replace F := fr_cast F (pin hm1 (pin hm2 (pin hm3 (pin hm4 rfl))))
    have hzr := sz_range S hi
    obtain ⟨tvs, hvs'⟩ := hvs.get i (ss.getD i 0) (by rw [List.getD_eq_getElem?_getD, List.getElem?_eq_getElem hi]; rfl)
    have hvsi : vs.toArray[((i : Int)).toNat]? = some (.int ((sz ss i : Nat) : Int) tvs) := by
      have e : ((sz ss i : Nat) : Int) = ss.getD i 0 := by unfold sz at hzr ⊢; omega
      rw [e]; simpa using hvs'
    obtain ⟨tws, hws'⟩ := hws.get i (sy.getD i 0) (by rw [List.getD_eq_getElem?_getD, List.getElem?_eq_getElem (by omega)]; rfl)
    have hwsi : ws.toArray[((i : Int)).toNat]? = some (.int (sy.getD i 0) tws) := by simpa using hws'
    have hd0 : ((0 : Nat), (0 : Int)) ∈ t.doms := (C.nodes _ _).mpr (.inl ⟨rfl, rfl⟩)
    have N2 : News _ _ h ((zx, listOf vs.toArray n) :: (wl, listOf wr.toArray nn) :: (I, oI) :: (t.led ++ (ex ++ news))) := fun p hp => by
      simp only [List.mem_cons] at hp
      rcases hp with rfl | rfl | rfl | hp
      · exact N _ (List.mem_cons_of_mem _ (List.mem_cons_of_mem _ (List.mem_append_right _ (List.mem_append_right _ m1))))
      · exact N _ (List.mem_cons_of_mem _ (List.mem_cons_self ..))
      · exact N _ (List.mem_cons_self ..)
      · exact N _ (List.mem_cons_of_mem _ (List.mem_cons_of_mem _ hp))
    clear N
    k_steps
    rename News _ _ _ _ => N2
    have hway : WayC w (sz ss i) := way_all w _
    unfold WayC at hway
    have hlt := cd_lt S hU hi
    k_dflt (refine' hway (j := 0) (x := 0) ?k1 ?k2 ?k3 N2 ?k5 ?k6 (fun p hp => ?_) (way_ok S hi C) hd0 (by omega) (by omega) (by omega) (by rw [Int.zero_mul]; exact cdOf_nn) ?k9 ?k10 ?_ ?_; (case k1 | k2 | k3 | k5 => k_asm); (case k6 => first | exact rfl | assumption); (case k9 => ktr_room); (case k10 => ktr_units); k_whole)
    · exact List.mem_cons_of_mem _ (List.mem_cons_of_mem _ (List.mem_cons_of_mem _ (List.mem_append_left _ (t.led_in p hp))))
    · intro hbad
      exfalso
      rw [Int.zero_add, Int.one_mul] at hbad
      omega
    intro _ D bl nb h' tk' hbl hDn F N
    have hbll : bl.length = sz ss i := by rw [hbl.length, bitI_length]
    have hwD : @LT.lt Nat _ wl D := hDn (wl, listOf wr.toArray nn) (by simp)
    have hwI : @Ne Nat wl I := O (wl, listOf wr.toArray nn) (by simp)
    have htl : ∀ p ∈ t.led ++ (ex ++ news), p.1 ≠ wl := fun p hp => by
      rcases List.mem_append.mp hp with hp | hp
      · obtain ⟨q, hq, rfl⟩ := List.mem_map.mp hp
        exact Ne.symm (hT.sepW q hq)
      rcases List.mem_append.mp hp with hp | hp
      · exact hT.exW p hp
      · exact Nat.ne_of_lt (hT.wN p hp)
    have hwrs : wr.toArray.size ≤ sizeLine := by rw [sizeLine_eq, List.size_toArray, hW.1]; omega
    have N3 : News _ _ h' ((wl, listOf wr.toArray nn) :: (D, listOf bl.toArray nb) :: (I, oI) :: (t.led ++ (ex ++ news))) := fun p hp => N p (by
      simp only [List.mem_cons] at hp ⊢
      rcases hp with hp | hp | hp | hp
      · exact .inr (.inr (.inl hp))
      · exact .inl hp
      · exact .inr (.inr (.inr (.inl hp)))
      · exact .inr (.inr (.inr (.inr hp))))
    clear N N2
    k_steps
    k_dflt (refine For_W (by k_asm) ?_)
    k_steps
    k_dflt (refine' slice_initK ?F ?N ?m ?i ?z ?_ ?s ?t; (case F | N => k_asm); (case m => k_mem); (case i => exact hbl); (case z => rw [bitI_length]; omega); (case s => with_unfolding_all rfl); (case t => intro _; with_unfolding_all rfl); k_whole)
    intro D2 us h8 F8 N8 l8 hus
    k_lt l8
    k_steps
    rename Fr _ _ _ _ => F5
    rename News _ _ _ _ => N5
    rw [bitI_length] at hus
    rw [List.push_toArray] at N5
    have hl8 := ktn_ltOf l8.2.2.2
    have husl : us.length = sz ss i - 1 := by rw [hus.length, List.length_take, bitI_length]; omega
    have hled : ∀ p ∈ t.doms, (t.A p.1 p.2, t.obj p.1 p.2) ∈ t.led := fun p hp => t.led_in p hp
    obtain ⟨ot, hot⟩ : ∃ ot : List (Addr × Obj), ot = (D2, listOf us.toArray 0) :: (wl, listOf (wr ++ [Value.ref D]).toArray (nn + 1)) :: (D, listOf bl.toArray nb) :: (I, oI) :: (ex ++ news) := ⟨_, rfl⟩
    have N6 : News _ _ h8 (t.led ++ ot) := fun p hp => N5 p (by
      rw [hot] at hp
      simp only [List.mem_cons, List.mem_append] at hp ⊢
      rcases hp with hp | hp | hp | hp | hp | hp
      · exact .inr (.inr (.inr (.inr (.inl hp))))
      · exact .inl hp
      · exact .inr (.inl hp)
      · exact .inr (.inr (.inl hp))
      · exact .inr (.inr (.inr (.inl hp)))
      · exact .inr (.inr (.inr (.inr (.inr hp)))))
    have hS6 : ∀ (g : Heap) (t2 : TS), LCg.SrcAt g D2 us.toArray (t2.led ++ ot) := fun g t2 => .inr ⟨_, List.mem_append_right _ (by rw [hot]; exact List.mem_cons_self ..), rfl, _, rfl⟩
    have e0 : cdOf ss i / 2 ^ (sz ss i - 0) = 0 := Int.ediv_eq_zero_of_lt cdOf_nn hlt
    have hs0 : ∀ p ∈ t.doms, @Ne Nat (t.A p.1 p.2) D2 ∧ @Ne Nat (t.A p.1 p.2) D ∧ @Ne Nat (t.A p.1 p.2) I := fun p hp =>
      ⟨Nat.ne_of_lt (hl8 _ (List.mem_append_left _ (hled p hp))), Nat.ne_of_lt (hDn _ (by simp only [List.mem_cons, List.mem_append]; exact .inr (.inr (.inr (.inl (hled p hp)))))), O _ (by simp only [List.mem_cons, List.mem_append]; exact .inr (.inl (hled p hp)))⟩
    refine SrcF.intro (n := us.toArray.size) (S := LCg.SrcAt _ D2 us.toArray) (iterG_list (by exact rfl) F5 N6 (hS6 _ t)) F5 N6 (hS6 _ t)
      (fun i2 m₁ nw => ∃ t2 : TS, m₁ "sizes" = some (.ref zx) ∧ m₁ "symbols" = some (.ref sx) ∧ m₁ "stem" = some (.ref (t.A 0 0)) ∧ m₁ "ways" = some (.ref wl) ∧ m₁ "way" = some (.ref D) ∧ m₁ "at" = some (.int i tv) ∧ m₁ "node" = some (.ref (t2.A i2 (cdOf ss i / 2 ^ (sz ss i - i2)))) ∧ Mid ss sy i i2 t2 ∧ TrSt t2 (t.A 0 0) wl ex news ∧ (∀ p ∈ t2.doms, @Ne Nat (t2.A p.1 p.2) D2 ∧ @Ne Nat (t2.A p.1 p.2) D ∧ @Ne Nat (t2.A p.1 p.2) I) ∧ nw = t2.led ++ ot)
      ⟨t, by with_unfolding_all rfl, by with_unfolding_all rfl, by with_unfolding_all rfl, by with_unfolding_all rfl, by with_unfolding_all rfl, by with_unfolding_all rfl, by rw [e0]; with_unfolding_all rfl, mid_start S hU hi C, hT, hs0, rfl⟩ ?turn2 ?fin2
    case turn2 =>
      rintro i2 v2 I2 oI2 m₂ nw2 h tk hi2 hv2 ⟨t2, hm1, hm2, hm3, hm4, hm5, hm6, hm7, Cm, hT2, hs2, rfl⟩ hcI2 O2 S2 F N
      have hi2' : i2 + 1 < sz ss i := by simp at hi2; omega
      obtain ⟨b, hb, hxy, hbit⟩ := next_bit (c := cdOf ss i) (s := sz ss i) (i := i2) (by omega)
      obtain ⟨tb, rfl⟩ : ∃ tb, v2 = .int (b : Int) tb := by
        obtain ⟨y, ty, rfl, hy⟩ := hus.at i2 v2 (by simpa using hv2)
        refine ⟨ty, ?_⟩
        rw [List.getElem?_take, if_pos (by omega)] at hy
        unfold bitI at hy
        rw [List.getElem?_map, bitsL_getElem _ (by omega)] at hy
        have e : (((cdOf ss i / 2 ^ (sz ss i - 1 - i2)) % 2).toNat : Int) = y := Option.some.inj hy
        rw [show sz ss i - 1 - i2 = sz ss i - (i2 + 1) by omega] at e
        have e2 : y = (b : Int) := by omega
        rw [e2]
      replace F := fr_cast F (pin hm1 (pin hm2 (pin hm3 (pin hm4 (pin hm5 (pin hm6 (pin hm7 rfl)))))))
      have hdx := mid_at S hi Cm
      generalize hx : cdOf ss i / 2 ^ (sz ss i - i2) = x at hxy hdx F
      have N7 : News _ _ h (t2.led ++ ((I2, oI2) :: ot)) := fun p hp => N p (by
        simp only [List.mem_cons, List.mem_append] at hp ⊢
        rcases hp with hp | hp | hp
        · exact .inr (.inl hp)
        · exact .inl hp
        · exact .inr (.inr hp))
      have N8 := news_front hdx N7
      have hoff := offAddr_off (d := t2.A i2 x) (l := t2.led ++ ((I2, oI2) :: ot))
      have hitem := TS.item (t := t2) (j := i2) (x := x) hb
      have hnoc : ∀ i', i' < i → ¬ (sz ss i' = i2 + 1 ∧ cdOf ss i' = 2 * x + b) := fun i' hi' => by rw [← hxy]; exact no_code_on_way S hi hi' hi2'
      generalize hbase : offAddr (t2.A i2 x) (t2.led ++ ((I2, oI2) :: ot)) = base2 at N8 hoff
      clear N
      by_cases hq : (i2 + 1, 2 * x + (b : Int)) ∈ t2.doms
      · have hch := Cm.node i2 x b hdx hb hq
        rw [hch] at hitem
        k_steps
        rename Fr _ _ _ _ => F9
        rename News _ _ _ _ => N9
        rw [← hbase] at N9
        have N10 := news_unfront N7 (List.mem_append_left _ (t2.led_in _ hdx)) N9
        refine ForEnd.next F9 N10 hcI2 (t2.led ++ ot) (fun p hp => ?_) (OffIt.of O2) (hS6 _ t2)
          ⟨t2, by with_unfolding_all rfl, by with_unfolding_all rfl, by with_unfolding_all rfl, by with_unfolding_all rfl, by with_unfolding_all rfl, by with_unfolding_all rfl, by rw [hxy]; with_unfolding_all rfl, mid_go S hi hi2' Cm (by rw [hxy]; exact hq), hT2, hs2, rfl⟩
        simp only [List.mem_cons, List.mem_append] at hp ⊢
        rcases hp with hp | hp | hp
        · exact .inr (.inl hp)
        · exact .inl hp
        · exact .inr (.inr hp)
      · have hch := Cm.free i2 x b hdx hb hq hnoc
        rw [hch] at hitem
        have hb01 : b = 0 ∨ b = 1 := by omega
        rcases hb01 with rfl | rfl
        all_goals
          k_steps
          rename Fr _ _ _ _ => F9
          rename News _ _ _ _ => N9
          rename (t2.A i2 x < _ ∧ _) => l9
          rename_i ln _ _ _
          rw [← hbase] at N9 l9
          have hln : ∀ q ∈ t2.led ++ ((I2, oI2) :: ot), @LT.lt Nat _ q.1 ln := fun q hq' => by
            by_cases e : q.1 = t2.A i2 x
            · rw [e]; exact l9.1
            · exact ktn_ltOf l9.2 q (List.mem_filter.mpr ⟨hq', decide_eq_true e⟩)
          have hlot : ∀ q ∈ ot, @LT.lt Nat _ q.1 ln := fun q hq' => hln q (List.mem_append_right _ (List.mem_cons_of_mem _ hq'))
          have hM := mid_new S hi hi2' Cm (x := x) (b := _) (a := ln) hb hx.symm hxy.symm rfl hq (fun p hp => Nat.ne_of_lt (hln _ (List.mem_append_left _ (t2.led_in p hp))))
          have hT3 := fun bb => tr_new (b := bb) (i := i2) (x := x) hT2 (v := .ref ln) hq (hlot (wl, listOf (wr ++ [Value.ref D]).toArray (nn + 1)) (by rw [hot]; simp)) (fun q hq' => hlot q (by rw [hot]; simp [hq'])) (fun q hq' => hlot q (by rw [hot]; simp [hq']))
          have hsA : ∀ q ∈ (I2, oI2) :: ot, q.1 ≠ t2.A i2 x := fun q hq' => by
            rcases List.mem_cons.mp hq' with rfl | hq'
            · exact Ne.symm (O2 _ (List.mem_append_left _ (t2.led_in _ hdx)))
            · rw [hot] at hq'
              simp only [List.mem_cons, List.mem_append] at hq'
              rcases hq' with rfl | rfl | rfl | rfl | hq' | hq'
              · exact Ne.symm (hs2 _ hdx).1
              · exact hT2.sepW _ hdx
              · exact Ne.symm (hs2 _ hdx).2.1
              · exact Ne.symm (hs2 _ hdx).2.2
              · exact hT2.sepX _ hdx q hq'
              · exact Nat.ne_of_lt (hT2.above _ hdx q hq')
          have N10 := news_grow hM.inj hdx hq hsA N9
          refine ForEnd.next F9 N10 hcI2 (_ ++ ot) (fun p hp => ?_) (OffIt.of fun p hp => ?_) (hS6 _ _)
            ⟨_, by with_unfolding_all rfl, by with_unfolding_all rfl, by with_unfolding_all rfl, by with_unfolding_all rfl, by with_unfolding_all rfl, by with_unfolding_all rfl, ?_, hM, hT3 _, ?_, rfl⟩
          · simp only [List.mem_cons, List.mem_append] at hp ⊢
            rcases hp with hp | hp | hp
            · exact .inr (.inl hp)
            · exact .inl hp
            · exact .inr (.inr hp)
          · rcases List.mem_append.mp hp with hp | hp
            · obtain ⟨q, hq', rfl⟩ := List.mem_map.mp hp
              rcases addn_A hq' with e | ⟨hq', e⟩
              · exact fun e' => absurd (hln (I2, oI2) (List.mem_append_right _ (List.mem_cons_self ..))) (by
                  have e2 : I2 = ln := e'.symm.trans e
                  show ¬ (@LT.lt Nat _ I2 ln)
                  rw [e2]; exact Nat.lt_irrefl _)
              · exact fun e' => O2 _ (List.mem_append_left _ (t2.led_in q hq')) (e ▸ e')
            · exact O2 p (List.mem_append_right _ hp)
          · rw [hxy]
            show _ = some (Value.ref (if _ then ln else _))
            rw [if_pos ⟨rfl, rfl⟩]
            with_unfolding_all rfl
          · intro q hq'
            rcases addn_A hq' with e | ⟨hq', e⟩
            · rw [e]
              exact ⟨Nat.ne_of_gt (hlot (D2, listOf us.toArray 0) (by rw [hot]; simp)), Nat.ne_of_gt (hlot (D, listOf bl.toArray nb) (by rw [hot]; simp)), Nat.ne_of_gt (hlot (I, oI) (by rw [hot]; simp))⟩
            · rw [e]
              exact hs2 q hq'
    clear N6 N5 F5
    rintro h' tk' m' nw F N S' ⟨t2, hm1, hm2, hm3, hm4, hm5, hm6, hm7, Cm, hT2, hs2, rfl⟩
    rw [List.size_toArray, husl] at Cm hm7
    replace F := fr_cast F (pin hm1 (pin hm2 (pin hm3 (pin hm4 (pin hm5 (pin hm6 (pin hm7 rfl)))))))
    have hdx := mid_at S hi Cm
    have e1 : sz ss i - (sz ss i - 1) = 1 := by omega
    rw [e1, Int.pow_one] at hdx F
    obtain ⟨b, hb, hxy⟩ : ∃ b : Nat, b < 2 ∧ cdOf ss i = 2 * (cdOf ss i / 2) + b := ⟨(cdOf ss i % 2).toNat, by omega, by omega⟩
    generalize hx : cdOf ss i / 2 = x at hxy hdx F
    have hlast : (bitI (cdOf ss i) (sz ss i)).getD ((bitI (cdOf ss i) (sz ss i)).length - 1) 0 = (b : Int) := by
      rw [bitI_length]
      unfold bitI
      rw [List.getD_eq_getElem?_getD, List.getElem?_map, bitsL_getElem _ (by omega), show sz ss i - 1 - (sz ss i - 1) = 0 by omega, Int.pow_zero, Int.ediv_one]
      show (((cdOf ss i % 2).toNat : Nat) : Int) = b
      omega
    have N8 := news_front hdx N
    have hoff := offAddr_off (d := t2.A (sz ss i - 1) x) (l := t2.led ++ ot)
    have hDb : (D, listOf bl.toArray nb) ∈ offAddr (t2.A (sz ss i - 1) x) (t2.led ++ ot) := List.mem_filter.mpr ⟨List.mem_append_right _ (by rw [hot]; simp), decide_eq_true (Ne.symm (hs2 _ hdx).2.1)⟩
    have hsb : (sx, listOf ws.toArray n2) ∈ offAddr (t2.A (sz ss i - 1) x) (t2.led ++ ot) := List.mem_filter.mpr ⟨List.mem_append_right _ (by rw [hot]; simp [m2]), decide_eq_true (Nat.ne_of_lt (hT2.above _ hdx _ m2))⟩
    have hDA : @Ne Nat D (t2.A (sz ss i - 1) x) := Ne.symm (hs2 _ hdx).2.1
    have hsA : @LT.lt Nat _ sx (t2.A (sz ss i - 1) x) := hT2.above _ hdx _ m2
    generalize hbase : offAddr (t2.A (sz ss i - 1) x) (t2.led ++ ot) = base2 at N8 hoff hDb hsb
    have N9 : News _ _ h' ((t2.A (sz ss i - 1) x, listOf #[t2.ch (sz ss i - 1) x 0, t2.ch (sz ss i - 1) x 1] 0) :: (D, listOf bl.toArray nb) :: (sx, listOf ws.toArray n2) :: base2) := fun p hp => by
      simp only [List.mem_cons] at hp
      rcases hp with rfl | rfl | rfl | hp
      · exact N8 _ (List.mem_cons_self ..)
      · exact N8 _ (List.mem_cons_of_mem _ hDb)
      · exact N8 _ (List.mem_cons_of_mem _ hsb)
      · exact N8 _ (List.mem_cons_of_mem _ hp)
    clear N8 hS6
    have hb01 : b = 0 ∨ b = 1 := by omega
    dsimp only
    have hbl1 : 1 ≤ (bitI (cdOf ss i) (sz ss i)).length := by rw [bitI_length]; omega
    have hsot : ∀ q ∈ ot, q.1 ≠ t2.A (sz ss i - 1) x := fun q hq' => by
      rw [hot] at hq'
      simp only [List.mem_cons, List.mem_append] at hq'
      rcases hq' with rfl | rfl | rfl | rfl | hq' | hq'
      · exact Ne.symm (hs2 _ hdx).1
      · exact hT2.sepW _ hdx
      · exact Ne.symm (hs2 _ hdx).2.1
      · exact Ne.symm (hs2 _ hdx).2.2
      · exact hT2.sepX _ hdx q hq'
      · exact Nat.ne_of_lt (hT2.above _ hdx q hq')
    have hDnews : ∀ q ∈ news, @LT.lt Nat _ q.1 D := fun q hq' => hDn q (by simp [hq'])
    have hE := fun u => mid_end S hU hi (i := sz ss i - 1) (by omega) Cm (x := x) (b := b) (u := u) hb hx.symm hxy
    have key : ∀ (g : Heap) (LL : Addr) (h9 : Heap), News g LL h9 ((t2.A (sz ss i - 1) x, (t2.setc (sz ss i - 1) x b (.int (sy.getD i 0) tws)).obj (sz ss i - 1) x) :: base2) → News g LL h9 ((t2.setc (sz ss i - 1) x b (.int (sy.getD i 0) tws)).led ++ ot) := fun g LL h9 N9 => news_set Cm.inj hdx hsot (by rw [hbase]; exact N9)
    have hT3 : TrSt t2 (t.A 0 0) wl ((D, listOf bl.toArray nb) :: ex) news := ⟨hT2.root, hT2.sepW, fun p hp q hq' => by
      rcases List.mem_cons.mp hq' with rfl | hq'
      · exact Ne.symm (hs2 p hp).2.1
      · exact hT2.sepX p hp q hq', hT2.above, fun q hq' => by
      rcases List.mem_cons.mp hq' with rfl | hq'
      · exact Nat.ne_of_gt hwD
      · exact hT2.exW q hq', fun p hp q hq' => by
      rcases List.mem_cons.mp hp with rfl | hp
      · exact hDnews q hq'
      · exact hT2.exN p hp q hq', hT2.wN⟩
    have hW2 : WaysAt ((D, listOf bl.toArray nb) :: ex) (wr ++ [.ref D]) ss (i + 1) := by
      refine ⟨by rw [List.length_append, hW.1]; rfl, fun i' hi' => ?_⟩
      by_cases e : i' < i
      · obtain ⟨W, vals, n3, w1, w2, w3⟩ := hW.2 i' e
        exact ⟨W, vals, n3, by rw [List.getElem?_append_left (by rw [hW.1]; exact e)]; exact w1, List.mem_cons_of_mem _ w2, w3⟩
      · obtain rfl : i' = i := by omega
        exact ⟨D, bl, nb, by rw [List.getElem?_append_right (by rw [hW.1]; exact Nat.le_refl _), hW.1]; simp, List.mem_cons_self .., hbl⟩
    rcases hb01 with rfl | rfl
    all_goals
      repeat' ((fail_if_success (with_reducible refine stSub ?_)); tb_rel)
      refine' item_atW ?k1 ?k2 ?k3 ?k4 ?k5 ?_; (case k1 => k_asm); (case k2 => k_mem); (case k3 => with_reducible assumption); (case k4 | k5 => omega); k_whole
      repeat' ((fail_if_success (with_reducible refine stSub ?_)); tb_rel)
      refine' item_lastW ?k1 ?k2 ?k3 ?k4 ?k5 ?_; (case k1 => k_asm); (case k2 => k_mem); (case k3 | k4 | k5 => with_reducible assumption); k_whole
      intro _
      k_steps
      rename Fr _ _ _ _ => F9
      rename News _ _ _ _ => N10
      have N11 := key _ _ _ (fun p hp => N10 p (by
        rcases List.mem_cons.mp hp with rfl | hp
        · first | exact List.mem_cons_self .. | (simp [TS.obj, TS.setc]; done)
        · exact List.mem_cons_of_mem _ (List.mem_cons_of_mem _ (List.mem_cons_of_mem _ hp))))
      rw [hot] at N11
      refine ForEnd.next F9 N11 hcI ((wl, listOf (wr ++ [Value.ref D]).toArray (nn + 1)) :: (_ ++ (((D, listOf bl.toArray nb) :: ex) ++ news))) (fun p hp => ?_) (OffIt.of fun p hp => ?_) trivial
        ⟨_, wr ++ [Value.ref D], nn + 1, (D, listOf bl.toArray nb) :: ex, by with_unfolding_all rfl, by with_unfolding_all rfl, by with_unfolding_all rfl, by with_unfolding_all rfl, hE tws, hW2, ⟨hT3.root, hT3.sepW, hT3.sepX, hT3.above, hT3.exW, hT3.exN, hT3.wN⟩, rfl⟩
      · simp only [List.mem_cons, List.mem_append] at hp ⊢
        rcases hp with hp | hp | hp | (hp | hp) | hp
        · exact .inr (.inr (.inr (.inr (.inl hp))))
        · exact .inr (.inr (.inl hp))
        · exact .inl hp
        · exact .inr (.inr (.inr (.inl hp)))
        · exact .inr (.inr (.inr (.inr (.inr (.inl hp)))))
        · exact .inr (.inr (.inr (.inr (.inr (.inr hp)))))
      · have hwI' : ∀ q ∈ ex ++ news, q.1 ≠ I := fun q hq' => O q (List.mem_cons_of_mem _ (List.mem_append_right _ hq'))
        rcases List.mem_cons.mp hp with rfl | hp
        · exact hwI
        rcases List.mem_append.mp hp with hp | hp
        · obtain ⟨q, hq', rfl⟩ := List.mem_map.mp hp
          exact (hs2 q hq').2.2
        rcases List.mem_append.mp hp with hp | hp
        · rcases List.mem_cons.mp hp with rfl | hp
          · exact Nat.ne_of_gt (hDn (I, oI) (by simp))
          · exact hwI' p (List.mem_append_left _ hp)
        · exact hwI' p (List.mem_append_right _ hp)
  case fin =>
    rintro h' tk' m' nw F N S' ⟨t, wr, nn, ex, hm1, hm2, hm3, hm4, C, hW, hT, rfl⟩
    clear N1 N2 N0 F1 F0
    obtain rfl := hT.root
    replace F := fr_cast F (pin hm1 (pin hm2 (pin hm3 (pin hm4 rfl))))
    dsimp only
    k_steps
    exact hret _ wl t wr nn ex _ _ C hW hT (by k_asm) (by k_asm)
inductive WalkAt (t : TS) (ss sy fs : List Int) : Nat → Value → Prop
  | node {j : Nat} : j ≤ fs.length → (j, valF fs j) ∈ t.doms → WalkAt t ss sy fs j (.ref (t.A j (valF fs j)))
  | leaf {k : Nat} {u : Tok} : k < ss.length → codePre ss fs k → WalkAt t ss sy fs (sz ss k) (.int (sy.getD k 0) u)
  | none {j : Nat} : (∀ k, k < ss.length → ¬ codePre ss fs k) → WalkAt t ss sy fs j .none
set_option maxHeartbeats 4000000 in
theorem walk_spec {fx : Addr} {fv : List Value} {n : Nat} {ss ks sy fs : List Int} {t : TS} {nw : List (Addr × Obj)}
    (B : Below A₀ base outer h₀) (F : Fr h₀ L s.heap m) (X : (hdx.heap_1 w.params).In h₀) (N : News h₀ L s.heap (nw)) (T : Top vw (looseW vw []) mean mg mb h₀) (hk : cs.kind = .function) (hin : t.In nw) (mf : (fx, listOf fv.toArray n) ∈ nw)
    (hfv : IntsAre fv fs) (hfs : Figs fs) (hfl : fs.length ≤ 80) (S : Sizes ss ks) (C : Canon ss sy ss.length t) (hd : dp + 10 < recursionLimit) (hu : un + 60 < cLine)
    (hleaf : ∀ (k : Nat) (Tt : Addr) (tu tv : Tok) (h' : Heap) (tk' : Nat), k < ss.length → codePre ss fs k → Fr h₀ L h' m → News h₀ L h' ((Tt, { cls := .type "tuple", data := .seq #[.int (sy.getD k 0) tu, .int (sz ss k) tv] }) :: nw) → (∀ p ∈ nw, p.1 < Tt) → Q (.ref Tt) { s with heap := h', toks := tk' })
    (hnone : ∀ (x : PySem.Str) (j : Int) (Tt : Addr) (tu tv : Tok) (h' : Heap) (tk' : Nat), (∀ k, k < ss.length → ¬ codePre ss fs k) → x = (if 15 < fs.length then "code" else "cut") → Fr h₀ L h' m → News h₀ L h' ((Tt, { cls := .type "tuple", data := .seq #[.str x tu, .int j tv] }) :: nw) → (∀ p ∈ nw, p.1 < Tt) → Q (.ref Tt) { s with heap := h', toks := tk' }) :
    wpAny (model PySem.Challenge.pw_ok0132_01 w) (ktrTop dp un gd cn cs L a ccd cl outer) (call (.ref 203) [.ref (t.A 0 0), .ref fx]) Q E s := by
  have hfvl := hfv.length
  have hd0 : ((0 : Nat), (0 : Int)) ∈ t.doms := (C.nodes _ _).mpr (.inl ⟨rfl, rfl⟩)
  refine wpAny_call ?_
  k_dflt ktr_enter
  k_steps
  rename Fr _ _ _ _ => F1
  rename News _ _ _ _ => N1
  refine While_W (fun mm m₁ nw' => ∃ (j : Nat) (v : Value) (tm : Tok), m₁ "stem" = some (.ref (t.A 0 0)) ∧ m₁ "figures" = some (.ref fx) ∧ m₁ "node" = some v ∧ m₁ "many" = some (.int j tm) ∧ WalkAt t ss sy fs j v ∧ nw' = nw ∧ mm = (match v with | .ref _ => fs.length - j + 1 | _ => 0)) (fs.length + 1) F1 (fun p hp => N1 p (by repeat (first | exact hp | apply List.mem_cons_of_mem)) : News _ _ _ nw)
    ⟨0, .ref (t.A 0 0), _, by with_unfolding_all rfl, by with_unfolding_all rfl, by with_unfolding_all rfl, by with_unfolding_all rfl, .node (j := 0) (Nat.zero_le _) hd0, rfl, rfl⟩ ?turn
  clear N
  rintro mm m₁ nw' h tk F5 N5 ⟨j, v, tm, hm1, hm2, hm3, hm4, hW, hnw, hmm⟩
  rw [hnw] at N5
  replace F5 := fr_cast F5 (pin hm1 (pin hm2 (pin hm3 (pin hm4 rfl))))
  clear N1 F1
  cases hW with
  | node hj hdj =>
    have N2 : News _ _ h ((t.A j (valF fs j), listOf #[t.ch j (valF fs j) 0, t.ch j (valF fs j) 1] 0) :: (fx, listOf fv.toArray n) :: nw) := fun p hp => by
      rcases List.mem_cons.mp hp with rfl | hp
      · exact N5 _ (hin _ hdj)
      rcases List.mem_cons.mp hp with rfl | hp
      · exact N5 _ mf
      · exact N5 _ hp
    clear N5
    by_cases hend : j = fs.length
    · have hn := (C.nodes _ _).mp hdj
      have hj16 : j < 16 := by
        rcases hn with ⟨h0, _⟩ | ⟨i, hi, hz, _⟩
        · omega
        · have := sz_range S hi; omega
      k_steps
      · refine WEnd.ret ?_
        dsimp only
        rename_i lq
        k_steps
        exact hnone _ _ _ _ _ _ _ (fun k hk hc => node_no S hfs hn hk (by have := hc.1; omega) hc.2) (by rw [if_neg (by omega)]) (by k_asm) (by refine' cb_drop ?cbN ?cbS; (case cbN => assumption); (case cbS => kcj_all)) (fun p hp => ktn_ltOf lq.2.2 p hp)
      all_goals (exfalso; omega)
    · obtain ⟨b, hb, hbe⟩ := hfs.at j
      obtain ⟨tf, hf1⟩ := hfv.get j (fs.getD j 0) (by rw [List.getD_eq_getElem?_getD, List.getElem?_eq_getElem (by omega)]; rfl)
      rw [hbe] at hf1
      have hf2 : fv.toArray[((j : Int)).toNat]? = some (.int (b : Int) tf) := by simpa using hf1
      have hitem := TS.item (t := t) (j := j) (x := valF fs j) hb
      have hn := (C.nodes _ _).mp hdj
      have hv : valF fs (j + 1) = 2 * valF fs j + b := by show 2 * valF fs j + fs.getD j 0 = _; rw [hbe]
      obtain ⟨mm', hmm', hW'⟩ : ∃ mm', mm' < fs.length - j + 1 ∧ WalkAt t ss sy fs (j + 1) (t.ch j (valF fs j) b) ∧ mm' = (match t.ch j (valF fs j) b with | .ref _ => fs.length - (j + 1) + 1 | _ => 0) := by
        by_cases hq : (j + 1, 2 * valF fs j + (b : Int)) ∈ t.doms
        · rw [C.node _ _ b hdj hb hq]
          refine ⟨_, ?_, ?_, rfl⟩
          · show fs.length - (j + 1) + 1 < _; omega
          · rw [← hv] at hq ⊢
            exact .node (by omega) hq
        · by_cases hcd : ∃ k, k < ss.length ∧ sz ss k = j + 1 ∧ cdOf ss k = 2 * valF fs j + b
          · obtain ⟨k, hk, hz, hc⟩ := hcd
            obtain ⟨u, hu'⟩ := C.leaf _ _ b k hdj hb hk hz hc
            rw [hu']
            refine ⟨0, by omega, ?_, rfl⟩
            rw [← hz]
            exact .leaf hk ⟨by omega, by rw [hz, hv, hc]⟩
          · rw [C.free _ _ b hdj hb hq (fun i hi hh => hcd ⟨i, hi, hh⟩)]
            refine ⟨0, by omega, .none fun k hk hc => ?_, rfl⟩
            rcases Nat.lt_trichotomy (sz ss k) (j + 1) with hz | hz | hz
            · exact node_no S hfs hn hk (by omega) hc.2
            · exact hcd ⟨k, hk, hz, by rw [← hc.2, hz, hv]⟩
            · have := (C.nodes _ _).mpr (node_up S hfs (j := j + 1) hk hz hc.2)
              rw [hv] at this
              exact hq this
      repeat' ((fail_if_success (with_reducible refine stSub ?_)); tb_rel)
      · exfalso; omega
      · refine' item_atW ?k1 ?k2 ?k3 ?k4 ?k5 ?_; (case k1 => k_asm); (case k2 => k_mem); (case k3 => with_reducible assumption); (case k4 | k5 => omega); k_whole
        repeat' ((fail_if_success (with_reducible refine stSub ?_)); tb_rel)
        refine' item_atW ?k1 ?k2 ?k3 ?k4 ?k5 ?_; (case k1 => k_asm); (case k2 => k_mem); (case k3 => with_reducible assumption); (case k4 | k5 => omega); k_whole
        k_steps
        rename Fr _ _ _ _ => F9
        rename News _ _ _ _ => N9
        refine WEnd.next (n' := mm') F9 (fun p hp => N9 p (by repeat (first | exact hp | apply List.mem_cons_of_mem)) : News _ _ _ nw) (by rw [hmm]; exact hmm')
          ⟨j + 1, t.ch j (valF fs j) b, _, by with_unfolding_all rfl, by with_unfolding_all rfl, by with_unfolding_all rfl, by with_unfolding_all rfl, hW'.1, rfl, hW'.2⟩
  | leaf hk hc =>
    k_steps
    exact hleaf _ _ _ _ _ _ hk hc (by k_asm) (by k_asm) (by k_asm)
  | none hno =>
    k_steps
    all_goals exact hnone _ _ _ _ _ _ _ hno (by first | (rw [if_pos (by omega)]) | (rw [if_neg (by omega)])) (by k_asm) (by k_asm) (by k_asm)
theorem news_front1 {h₀ h : Heap} {L : Addr} {nw : List (Addr × Obj)} {a : Addr × Obj} (N : News h₀ L h nw) (m1 : a ∈ nw) : News h₀ L h (a :: nw) := fun p hp => by
  rcases List.mem_cons.mp hp with rfl | hp
  · exact N _ m1
  exact N _ hp
theorem news_abs {h₀ h : Heap} {L : Addr} {nw : List (Addr × Obj)} (N : News h₀ L h nw) : ∃ base, base = nw ∧ News h₀ L h base := ⟨nw, rfl, N⟩
theorem filt_step2 {α : Type} {ts : List α} {p : α → Bool} {j : Nat} {x : α} (h : ts[j]? = some x) : (ts.take (j + 1)).filter p = (ts.take j).filter p ++ (if p x = true then [x] else []) := by
  rw [List.take_add_one, h, List.filter_append]
  congr 1
  simp only [Option.toList_some, List.filter_cons, List.filter_nil]
def CutEnd (P : Shared → Prop) (f : Flow) (s' : Shared) : Prop := f = .next ∧ P s'
theorem CutEnd.intro {P : Shared → Prop} {s' : Shared} (h : P s') : CutEnd P .next s' := ⟨rfl, h⟩
theorem stAB {M : Model} {A : Around} {E : Value → Shared → Prop} {s : Shared} {t a o b p q env} {Q : Flow → Shared → Prop} (h : wpAny M A (exec (.Assign [t] (.BinOp a o b p) q) env) Q E s) : wpAny M A (exec (.Assign [t] (.BinOp a o b p) q) env) Q E s := h
theorem stCut {P : Shared → Prop} {f : Flow} {s' : Shared} (h : CutEnd P f s') : CutEnd P f s' := h
local macro_rules | `(tactic| k_qdec) => `(tactic| decide +kernel)
theorem cut_next {M : Model} {A : Around} {E : Value → Shared → Prop} {s : Shared} {tree : Sem Flow} {Q : Flow → Shared → Prop} (P : Shared → Prop) (h1 : wpAny M A tree (CutEnd P) E s) (h2 : ∀ s', P s' → Q .next s') : wpAny M A tree Q E s :=
  wpAny_mono h1 (fun f s' h => h.1 ▸ h2 s' h.2) (fun _ _ e => e)
local macro_rules | `(tactic| k_steps) => `(tactic| repeat' ((fail_if_success (with_reducible first | refine stAB ?_ | refine stSub ?_ | refine stAS ?_ | refine stCut ?_)); tb_rel))
theorem fr_abs {h₀ h : Heap} {L : Addr} {m : PySem.Str → Option Value} (F : Fr h₀ L h m) : ∃ m', Fr h₀ L h m' ∧ m' = m := ⟨m, F, rfl⟩
set_option maxHeartbeats 8000000 in
theorem law_holds : PySem.Challenge.rw_ok0132_01.Holds := hdx (by
  k_go0
  all_goals try k_fold
  rename_i h0 tk0 F0 oc3 oc2 oc1 dc3 dc2 dc1 N0 X0
  rename Shared => s1
  rename World => ww
  have hend : ∀ (h : Heap) (tk : Nat) (m : PySem.Str → Option Value), Fr s1.heap s1.heap.objs.size h m → qk (Flow.ret (.bool true)) { s1 with heap := h, toks := tk } := by
    clear F0 N0
    intro h tk m F
    k_steps
  k_steps
  k_dflt (refine' well_spec ?k1 ?k2 ?k3 ?k4 ?k5 ?k6 ?k7 ?k8 ?k9 ?k10 ?k11 ?_; (case k1 | k2 | k3 | k4 | k5 => k_asm); (case k6 => first | exact rfl | assumption); (case k7 | k8 => with_reducible assumption); (case k9 => omega); (case k10 => ktr_room); (case k11 => ktr_units); k_whole)
  intro x0 y0 tx0 ty0 n0 d h1 tk1 hx0 hy0 hy1 F1 N1 l1
  k_steps
  rename_i h2 oS F2 N2 dS
  simp only [List.cons_append, List.nil_append] at N2
  obtain ⟨m0, F2, hm0⟩ := fr_abs F2
  have hdL : @LT.lt Nat _ (s1.heap.objs.size + 1 + 1 + 1) d := l1 (s1.heap.objs.size + 1 + 1 + 1, oc3) (by simp)
  (try clear F1)
  (try clear N1)
  clear F0 N0
  refine cut_next (fun s' => ∃ (h : Heap) (tk : Nat) (oZ : Obj) (x1 y1 : Int) (tx1 ty1 : Tok) (D : Addr) (vs : List Value) (ss : List Int) (ns : Nat), 0 ≤ x1 ∧ 0 ≤ y1 ∧ y1 < 2147483647 ∧ s' = { s1 with heap := h, toks := tk } ∧ IntsAre vs ss ∧ ss.Pairwise (· ≤ ·) ∧ (∀ z ∈ ss, 1 ≤ z ∧ z ≤ 16) ∧ 1 ≤ ss.length ∧ ss.length ≤ 17 ∧ usum ss ss.length < 65536 ∧ @Ne Nat d D ∧ @Ne Nat (s1.heap.objs.size + 1 + 1 + 1) D ∧ @Ne Nat (s1.heap.objs.size + 1 + 1) D ∧ @Ne Nat (s1.heap.objs.size + 1) D ∧ Fr s1.heap s1.heap.objs.size h m0 ∧ News s1.heap s1.heap.objs.size h [(D, listOf vs.toArray ns), (d, srcO x1 y1 tx1 ty1 n0), (s1.heap.objs.size + 1 + 1 + 1, oc3), (s1.heap.objs.size + 1 + 1, oZ), (s1.heap.objs.size + 1, oS)] ∧ oZ.data = .cell (some (.ref D))) ?st2 ?st3
  case st2 =>
    walk1
    k_steps
    k_dflt (refine ListComp_W (F₀ := by k_asm) (by with_unfolding_all rfl) (by decide) (by rfl) (by decide) (by rfl) ?_)
    k_steps
    rename News _ _ _ _ => N2
    k_dflt (refine' leaves_spec ?k1 ?k2 ?k3 N2 ?k5 ?k6 (fun p hp => ?_) hx0 hy0 hy1 ?k9 ?k10 ?_; (case k1 | k2 | k3 | k5 => k_asm); (case k6 => first | exact rfl | assumption); (case k9 => ktr_room); (case k10 => ktr_units); k_whole)
    · simp only [List.mem_cons, List.not_mem_nil, or_false] at hp
      rcases hp with rfl | rfl | rfl <;> (apply Nat.ne_of_lt; dsimp only; omega)
    intro x1 y1 tx1 ty1 D dv ds nn h' tk' hx1 hy1' hy1b hdv hds hdD hnD F N
    have hdl := hdv.length
    have hlo := hds.lo
    have hhi := hds.hi
    clear N2
    k_steps
    rename News _ _ _ _ => N3
    refine SrcW.pure (n := dv.toArray.size) (S := LCg.SrcAt _ D dv.toArray) (iterAs_list (by exact rfl) (by k_asm) N3 (.inr ⟨_, List.mem_cons_self .., rfl, _, rfl⟩)) (by k_asm) N3 (by rw [sizeLine_eq, List.size_toArray]; omega) (.inr ⟨_, List.mem_cons_self .., rfl, _, rfl⟩)
      (fun i us => IntsAre us (ds.take i)) .nil ?turn2 ?fin2
    case turn2 =>
      rintro hh i us v I oI C oC D2 m₂ h tk E' hi hv hus hC hx F N O D3
      obtain ⟨x, tx', rfl, hx'⟩ := hdv.at i v (by simpa using hv)
      clear N3
      k_steps
      rename Fr _ _ _ _ => F6
      rename News _ _ _ _ => N6
      refine LCg.CompEnd.intro F6 N6 _ (fun p hp => hp) O (.inr ⟨_, List.mem_cons_self .., rfl, _, rfl⟩) ⟨rfl, ?_⟩
      rw [List.take_add_one, hx']
      exact ints_snoc hus
    rintro hh us hus D2 h tk F N O
    obtain ⟨p1, p2, p3, p4, p5, _⟩ := O
    rw [List.take_of_length_le (by rw [List.size_toArray]; omega)] at hus
    clear N3
    have hul := hus.length
    k_steps
    rename_i Ds vt st c h6 F4s N4s hvt hsl hsp hso hb hp0 l3 s9
    refine kba_turn (value' := PySem.Expr.Name (PySem.Str.ofString "_") ⟨0, 0, 0, 0⟩) (fun _ => rfl) ?_
    k_dflt (refine' slice_initK (vs := vt) (ns := st) ?F ?N ?m hvt ?z ?_ ?s ?t; (case F | N => k_asm); (case m => k_mem); (case z => omega); (case s => with_unfolding_all rfl); (case t => intro _; with_unfolding_all rfl); k_whole)
    intro D4 wt4 h4 F4 N4 l4 hw4
    have hst1 : 2 ≤ st.length := by omega
    have hUs := usum_init hsp hds.sum (by omega)
    have e4 : @LT.lt Nat _ d D4 := l4 (d, srcO x1 y1 tx1 ty1 n0) (by simp)
    have hw4l := hw4.length
    have e5 : @LT.lt Nat _ (s1.heap.objs.size + 1 + 1) D4 := l4 (s1.heap.objs.size + 1 + 1, oc2) (by simp)
    have e6 : @Ne Nat (s1.heap.objs.size + 1 + 1) D := hnD (s1.heap.objs.size + 1 + 1, oc2) (by simp)
    have e7 : @LT.lt Nat _ (s1.heap.objs.size + 1 + 1 + 1) D4 := l4 (s1.heap.objs.size + 1 + 1 + 1, oc3) (by simp)
    have e8 : @LT.lt Nat _ (s1.heap.objs.size + 1) D4 := l4 (s1.heap.objs.size + 1, oS) (by simp)
    clear N4s F4s
    dsimp only at F4 N4 ⊢
    k_steps
    rename _ = Data.cell (some (Value.ref D4)) => dZ
    rename Fr _ _ _ _ => F5
    rename News _ _ _ _ => N5
    exact CutEnd.intro ⟨_, _, _, x1, y1, tx1, ty1, D4, wt4, st.take (st.length - 1), 0, hx1, hy1', hy1b, rfl, hw4, hso.sublist (List.take_sublist ..), fun z hz => hds.range z (hsp.mem_iff.mp (List.mem_of_mem_take hz)), by rw [List.length_take]; omega, by rw [List.length_take]; omega, hUs, Nat.ne_of_lt e4, Nat.ne_of_lt e7, Nat.ne_of_lt e5, Nat.ne_of_lt e8, F5, by refine' cb_drop ?cbN ?cbS; (case cbN => exact N5); (case cbS => kcj_in), dZ⟩
  clear F2 N2 hx0 hy0 hy1
  rintro s' ⟨h3, tk3, oZ, x1, y1, tx1, ty1, D, vs, ss, ns, hx1, hy1, hy1b, rfl, hvs, hso, hs17, hsl1, hsl, hU, o1, o2, o3, o4, F3, N3, dZ⟩
  dsimp only
  have hvl := hvs.length
  k_steps
  refine cut_next (fun s' => ∃ (h : Heap) (tk : Nat) (sx : Addr) (ws : List Value) (sy : List Int) (m1 : PySem.Str → Option Value) (x1 y1 : Int) (tx1 ty1 : Tok), s' = { s1 with heap := h, toks := tk } ∧ 0 ≤ x1 ∧ 0 ≤ y1 ∧ y1 < 2147483647 ∧ IntsAre ws sy ∧ SymsOk sy ∧ sy.length = ss.length ∧ @Ne Nat d sx ∧ @Ne Nat (s1.heap.objs.size + 1 + 1 + 1) sx ∧ @Ne Nat (s1.heap.objs.size + 1 + 1) sx ∧ @Ne Nat (s1.heap.objs.size + 1) sx ∧ @Ne Nat D sx ∧ m1 "symbols" = some (.ref sx) ∧ Fr s1.heap s1.heap.objs.size h m1 ∧ News s1.heap s1.heap.objs.size h [(sx, LCg.lst ws), (D, listOf vs.toArray ns), (d, srcO x1 y1 tx1 ty1 n0), (s1.heap.objs.size + 1 + 1 + 1, oc3), (s1.heap.objs.size + 1 + 1, oZ), (s1.heap.objs.size + 1, oS)]) ?st4 ?st5
  case st4 =>
    k_dflt (refine Assign_ListComp_WF (F₀ := by k_asm) rfl (by with_unfolding_all rfl) (by with_unfolding_all rfl) (by decide) (by rfl) (by decide) (by rfl) (by rfl) (by rfl) ?_)
    k_steps
    rename IsRange _ _ _ _ _ _ _ _ => hrg
    rename News _ _ _ _ => N4
    rename Fr _ _ _ _ => F4
    have hru := range_up (y := (ss.length : Int)) (by omega) (by omega)
    refine SrcW.intro (n := ss.length) (iterAs_range (by exact rfl) hrg hru.1 (by simpa using hru.2)) F4 N4 (by rw [sizeLine_eq]; omega) trivial
      (fun i ws nw => ∃ (x1 y1 : Int) (tx1 ty1 : Tok) (sy : List Int), 0 ≤ x1 ∧ 0 ≤ y1 ∧ y1 < 2147483647 ∧ nw = [(D, listOf vs.toArray ns), (d, srcO x1 y1 tx1 ty1 n0), (s1.heap.objs.size + 1 + 1 + 1, oc3), (s1.heap.objs.size + 1 + 1, oZ), (s1.heap.objs.size + 1, oS)] ∧ IntsAre ws sy ∧ SymsOk sy ∧ sy.length = i)
      ⟨x1, y1, tx1, ty1, [], hx1, hy1, hy1b, rfl, .nil, .nil, rfl⟩ ?turn4 ?fin4
    case turn4 =>
      rintro hh i ws nw v I oI C oC D2 m₂ h tk E' hi ⟨t, hv⟩ ⟨x1, y1, tx1, ty1, sy, hx1, hy1, hy1b, rfl, hws, hsy, hyl⟩ hC hx F N O D3
      rw [show (0 + (i : Int) * 1) = i by omega] at hv
      subst hv
      clear N4 F4
      obtain ⟨⟨p4, p5, p6⟩, ⟨p7, p8, p9⟩, ⟨r1, r2, r3⟩, ⟨r4, r5, r6⟩, ⟨r7, r8, r9⟩, _⟩ := O
      obtain ⟨q1, q2, q3⟩ := D3
      k_steps
      rename_i x2 y2 r2' tx2 ty2 tr2 h5 tk5 hx2 hy2 hy2b hr20 hr21 F5 N5
      refine LCg.CompEnd.intro F5 N5 _ (fun p hp => hp) ⟨⟨p4, p5, p6⟩, ⟨p7, p8, p9⟩, ⟨r1, r2, r3⟩, ⟨r4, r5, r6⟩, ⟨r7, r8, r9⟩, trivial⟩ trivial ⟨x2, y2, tx2, ty2, _, hx2, hy2, hy2b, rfl, ints_snoc hws, ?_, by simp [hyl]⟩
      have := hsy.snoc hr20 hr21
      rw [hyl] at this
      exact this
    rintro hh ws nw ⟨x1, y1, tx1, ty1, sy, hx1, hy1, hy1b, rfl, hws, hsy, hyl⟩ sx h tk F N O
    obtain ⟨p1, p2, p3, p4, p5, _⟩ := O
    clear N4 F4
    k_steps
    rename Fr _ _ _ _ => F6
    rename News _ _ _ _ => N6
    exact CutEnd.intro ⟨_, _, sx, ws, sy, _, x1, y1, tx1, ty1, rfl, hx1, hy1, hy1b, hws, hsy, hyl, p2, p3, p4, p5, p1, by with_unfolding_all rfl, F6, N6⟩
  clear F3 N3 hx1 hy1 hy1b
  clear x1 y1
  rintro s' ⟨h3, tk3, sx, ws, sy, m1, x1, y1, tx1, ty1, rfl, hx1, hy1, hy1b, hws, hsy, hyl, e1, e2, e3, e4, e5, hm1, F3, N3⟩
  replace F3 := fr_cast F3 (pin hm1 rfl)
  dsimp only
  k_steps
  refine cut_next (fun s' => ∃ (h : Heap) (tk : Nat) (cx : Addr) (us : List Value) (m2 : PySem.Str → Option Value), s' = { s1 with heap := h, toks := tk } ∧ IntsAre us (ksOf ss) ∧ @Ne Nat sx cx ∧ @Ne Nat d cx ∧ @Ne Nat (s1.heap.objs.size + 1 + 1 + 1) cx ∧ @Ne Nat (s1.heap.objs.size + 1 + 1) cx ∧ @Ne Nat (s1.heap.objs.size + 1) cx ∧ @Ne Nat D cx ∧ m2 "symbols" = some (.ref sx) ∧ m2 "counts" = some (.ref cx) ∧ Fr s1.heap s1.heap.objs.size h m2 ∧ News s1.heap s1.heap.objs.size h [(cx, LCg.lst us), (sx, LCg.lst ws), (D, listOf vs.toArray ns), (d, srcO x1 y1 tx1 ty1 n0), (s1.heap.objs.size + 1 + 1 + 1, oc3), (s1.heap.objs.size + 1 + 1, oZ), (s1.heap.objs.size + 1, oS)]) ?st6 ?st7
  case st6 =>
    k_dflt (refine Assign_ListComp_ZF (F₀ := by k_asm) rfl (by with_unfolding_all rfl) (by with_unfolding_all rfl) (fun _ _ => ⟨rfl, rfl⟩) (by rfl) (by decide) (by rfl) (by rfl) (by rfl) ?_)
    k_steps
    rename IsRange _ _ _ _ _ _ _ _ => hrg
    rename News _ _ _ _ => N4
    rename Fr _ _ _ _ => F4
    refine SrcZ.pure0 (n := 16) (S := fun _ => True) (iterAs_range (by exact rfl) hrg (by decide) (by decide)) F4 N4 (by rw [sizeLine_eq]; decide) trivial (fun _ _ _ _ _ _ => trivial)
      (fun i us => IntsAre us ((List.range i).map fun j => (eqN ss j : Int))) .nil ?turn6 ?fin6
    case turn6 =>
      rintro hh i us v I oI C oC Z oZ' D2 h tk E' hi ⟨t, hv⟩ hus hoZ' F N O hZn D3
      rw [show (1 + (i : Int) * 1) = i + 1 by omega] at hv
      subst hv
      clear N4 F4
      k_steps
      k_dflt (refine LCt.ListComp_T (F₀ := by k_asm) (by with_unfolding_all rfl) (by decide) (by rfl) (by decide) (by rfl) ?_)
      k_steps
      refine SrcT.pureL (by exact rfl) F N (by k_mem) (by rw [sizeLine_eq, List.size_toArray, hvs.length]; omega) (fun j ws => IntsAre ws ((ss.take j).filter fun x => decide (x = (i : Int) + 1))) .nil ?turn7 ?fin7
      case turn7 =>
        rintro g3 j ws v3 I3 oI3 C3 oC3 D4 m3 h3 tk3 E3 hj hv3 hw hC3 hx3 F5 N5 O5 D35
        obtain ⟨x, tx', rfl, hx'⟩ := hvs.at j v3 (by simpa using hv3)
        clear N F
        k_steps
        · refine LCg.CompEnd.intro F5 N5 _ (fun p hp => hp) O5 (.inr ⟨_, by k_mem, rfl, _, rfl⟩) ⟨rfl, ?_⟩
          rename x = _ => he
          rw [filt_step2 hx', decide_eq_true he]
          exact ints_snoc hw
        · refine LCg.CompEnd.intro F5 N5 _ (fun p hp => hp) O5 (.inr ⟨_, by k_mem, rfl, _, rfl⟩) ⟨rfl, ?_⟩
          rename x ≠ _ => he
          rw [filt_step2 hx', decide_eq_false he]
          simp only [Bool.false_eq_true, if_false, List.append_nil]
          exact hw
      rintro g3 ws hw D4 h4 tk4 F5 N5 O5
      rw [List.take_of_length_le (by rw [List.size_toArray, hvs.length]; exact Nat.le_refl _)] at hw
      have hwl := hw.length
      have hf1 : (ss.filter fun x => decide (x = (i : Int) + 1)).length ≤ 17 := Nat.le_trans (List.length_filter_le ..) hsl
      clear N F
      k_steps
      refine LCg.CompEnd.intro F5 (all := (I, oI) :: (C, oC) :: (D2, LCg.lst us) :: (Z, oZ') :: _) (by refine' cb_drop ?cbN ?cbS; (case cbN => exact N5); (case cbS => kcj_in)) _ (fun p hp => hp) O trivial ⟨rfl, ?_⟩
      rw [List.range_succ, List.map_append]
      exact ints_snoc hus
    rintro hh us hus cx h tk F N O
    obtain ⟨p1, p2, p3, p4, p5, p6, _⟩ := O
    clear N4 F4
    k_steps
    rename Fr _ _ _ _ => F6
    rename News _ _ _ _ => N6
    exact CutEnd.intro ⟨_, _, cx, us, _, rfl, hus, p1, p3, p4, p5, p6, p2, by with_unfolding_all rfl, by with_unfolding_all rfl, F6, N6⟩
  clear F3 N3
  rintro s' ⟨h3, tk3, cx, us, m2, rfl, hus, c1, c2, c3, c4, c5, c6, hm2, hm3, F3, N3⟩
  replace F3 := fr_cast F3 (pin hm2 (pin hm3 rfl))
  have S := sizes_of hso hs17 hsl
  have hkS : (ksOf ss).sum = (sy.length : Int) := by rw [ksOf_sum hso hs17 hsl, hyl]
  dsimp only
  k_steps
  rename News _ _ _ _ => N
  k_dflt (refine' huff_use ?k1 ?k2 ?k3 N ?k5 ?k6 (cx := cx) (sx := sx) (n := us.length) (n2 := ws.length) (by k_mem) (by k_mem) hus hws (ksOf_len ss) (ksOf_range hsl) hkS (by omega) hsy.nodup ?k9 ?k10 ?_ ?_; (case k1 | k2 | k3 | k5 => k_asm); (case k6 => first | exact rfl | assumption); (case k9 => ktr_room); (case k10 => ktr_units); k_whole)
  rotate_left
  · intro e h' G tk' j hj hnok
    exact absurd (ok_of S hU hj) hnok
  clear N F3
  intro tb td ct st lx cd k1 k2 k3 k4 va n' od kvs extra ex2 h' tk' hok hcd hRA hod hCA htc lA l6 l7 l8 l9 l10 l11 F N
  simp only [List.cons_append, List.nil_append] at N
  have hRt : RowsAt (extra ++ ex2) va.toList (ksOf ss) 16 := hRA.up fun p hp => List.mem_append_left _ hp
  have hCt : ∀ p ∈ ex2, p ∈ extra ++ ex2 := fun p hp => List.mem_append_right _ hp
  generalize extra ++ ex2 = tl at N hRt hCt htc l11
  k_steps
  rename News _ _ _ _ => N
  k_dflt (refine' tree_spec ?k1 ?k2 ?k3 N ?k5 ?k6 (zx := D) (sx := sx) (n := ns) (n2 := ws.length) (by k_mem) (by k_mem) hvs hws S hU hyl ?k9 ?k10 ?_; (case k1 | k2 | k3 | k5 => k_asm); (case k6 => first | exact rfl | assumption); (case k9 => ktr_room); (case k10 => ktr_units); k_whole)
  clear N
  intro Tt wl t wr nn ex h' tk' C hW hT F N
  k_steps
  rename News _ _ _ _ => N
  rename Fr _ _ _ _ => F
  have hWl := hW.1
  obtain ⟨base, hbase, N⟩ := news_abs N
  have g1 : (wl, listOf wr.toArray nn) ∈ base := by rw [hbase]; k_mem
  have gLed : t.In base := fun p hp => by rw [hbase]; exact List.mem_cons_of_mem _ (List.mem_cons_of_mem _ (List.mem_append_left _ (t.led_in p hp)))
  have gEx : ∀ p ∈ ex, p ∈ base := fun p hp => by rw [hbase]; exact List.mem_cons_of_mem _ (List.mem_cons_of_mem _ (List.mem_append_right _ (List.mem_append_left _ hp)))
  have gIn : ∀ {p : Addr × Obj}, p ∈ (tb, instObj 157 td) :: (td, huffDict ww ct st lx cd k1 k2 k3 k4) :: (ct, tupO us) :: (st, tupO ws) :: (lx, listOf va n') :: (cd, od) :: (cx, LCg.lst us) :: (sx, LCg.lst ws) :: (D, listOf vs.toArray ns) :: (d, srcO x1 y1 tx1 ty1 n0) :: (s1.heap.objs.size + 1 + 1 + 1, oc3) :: (s1.heap.objs.size + 1 + 1, oZ) :: (s1.heap.objs.size + 1, oS) :: tl → p ∈ base := fun {p} hp => by
    rw [hbase]; exact List.mem_cons_of_mem _ (List.mem_cons_of_mem _ (List.mem_append_right _ (List.mem_append_right _ hp)))
  have g2 : (tb, instObj 157 td) ∈ base := gIn (by k_mem)
  have g3 : (td, huffDict ww ct st lx cd k1 k2 k3 k4) ∈ base := gIn (by k_mem)
  have g4 : (cd, od) ∈ base := gIn (by k_mem)
  have g5 : (sx, LCg.lst ws) ∈ base := gIn (by k_mem)
  have g6 : (D, listOf vs.toArray ns) ∈ base := gIn (by k_mem)
  have g7 : (d, srcO x1 y1 tx1 ty1 n0) ∈ base := gIn (by k_mem)
  have g8 : (s1.heap.objs.size + 1 + 1, oZ) ∈ base := gIn (by k_mem)
  have g9 : (s1.heap.objs.size + 1, oS) ∈ base := gIn (by k_mem)
  have gTl : ∀ p ∈ tl, p ∈ base := fun p hp => gIn (by repeat (first | exact hp | apply List.mem_cons_of_mem))
  have N18 := news_front1 (news_front1 N g6) (List.mem_cons_of_mem _ g8)
  k_dflt (refine For_W (by k_asm) ?_)
  clear N
  k_steps
  rename IsRange _ _ _ _ _ _ _ _ => hrg
  rename News _ _ _ _ => N18
  rename Fr _ _ _ _ => F18
  have hru := range_up (y := (ss.length : Int)) (by omega) (by omega)
  refine SrcF.intro (n := ss.length) (iterG_range (by exact rfl) hrg hru.1 (by simpa using hru.2)) F18 (fun p hp => N18 p (List.mem_cons_of_mem _ (List.mem_cons_of_mem _ hp)) : News _ _ _ base) trivial
    (fun i m₁ nw => m₁ "table" = some (.ref tb) ∧ m₁ "symbols" = some (.ref sx) ∧ m₁ "ways" = some (.ref wl) ∧ m₁ "stem" = some (.ref (t.A 0 0)) ∧ nw = base)
    ⟨by with_unfolding_all rfl, by with_unfolding_all rfl, by with_unfolding_all rfl, by with_unfolding_all rfl, rfl⟩ ?turn18 ?fin18
  case turn18 =>
    rintro i v I oI m₁ nw h tk hi ⟨t0, hv⟩ ⟨hm1, hm2, hm3, hm4, hnw⟩ hcI O S' F N
    rw [show (0 + (i : Int) * 1) = i by omega] at hv
    subst hv
    rw [hnw] at N O
    replace F := fr_cast F (pin hm1 (pin hm2 (pin hm3 (pin hm4 rfl))))
    obtain ⟨Tc, t1, t2, hval, hTc⟩ := codes_find S hCA hyl hsy.nodup hi
    obtain ⟨W, vals, nv, hwr, hWm, hvals⟩ := hW.2 i hi
    have hWb := gEx _ hWm
    obtain ⟨tws, hws'⟩ := hws.get i (sy.getD i 0) (by rw [List.getD_eq_getElem?_getD, List.getElem?_eq_getElem (by omega)]; rfl)
    have hsyi : ws.toArray[((i : Int)).toNat]? = some (.int (sy.getD i 0) tws) := by simpa using hws'
    have hwri : wr.toArray[((i : Int)).toNat]? = some (.ref W) := by simpa using hwr
    have hzr := sz_range S hi
    have hzi : (sz ss i : Int) = ss.getD i 0 := by unfold sz at hzr ⊢; omega
    have hvl := hvals.length
    rw [bitI_length] at hvl
    have hcn : 0 ≤ cdOf ss i := cdOf_nn
    have hcl := cd_lt S hU hi
    have hfg := figs_bitI (cdOf ss i) (sz ss i)
    have N8 : News s1.heap s1.heap.objs.size h ((td, huffDict ww ct st lx cd k1 k2 k3 k4) :: (tb, instObj 157 td) :: (cd, od) :: (I, oI) :: (Tc, tup2 (cdOf ss i) (ss.getD i 0) t1 t2) :: (sx, LCg.lst ws) :: (wl, listOf wr.toArray nn) :: (W, listOf vals.toArray nv) :: base) := fun p hp => by
      simp only [List.mem_cons] at hp
      rcases hp with rfl | rfl | rfl | rfl | rfl | rfl | rfl | rfl | hp
      · exact N _ (List.mem_cons_of_mem _ g3)
      · exact N _ (List.mem_cons_of_mem _ g2)
      · exact N _ (List.mem_cons_of_mem _ g4)
      · exact N _ (List.mem_cons_self ..)
      · exact N _ (List.mem_cons_of_mem _ (gTl _ (hCt _ hTc)))
      · exact N _ (List.mem_cons_of_mem _ g5)
      · exact N _ (List.mem_cons_of_mem _ g1)
      · exact N _ (List.mem_cons_of_mem _ hWb)
      · exact N _ (List.mem_cons_of_mem _ hp)
    clear N N18 F18
    k_steps
    k_dflt (refine For_W (by k_asm) ?_)
    k_steps
    refine' item_atW ?k1 ?k2 ?k3 ?k4 ?k5 ?_; (case k1 => k_asm); (case k2 => k_mem); (case k3 => with_reducible assumption); (case k4 | k5 => omega); k_whole
    k_steps
    rename Fr _ _ _ _ => F9
    rename News _ _ _ _ => N9
    have hS9 : LCg.SrcAt s1.heap W vals.toArray ((td, huffDict ww ct st lx cd k1 k2 k3 k4) :: (tb, instObj 157 td) :: (cd, od) :: (I, oI) :: (Tc, tup2 (cdOf ss i) (ss.getD i 0) t1 t2) :: (sx, LCg.lst ws) :: (wl, listOf wr.toArray nn) :: (W, listOf vals.toArray nv) :: base) := .inr ⟨_, by k_mem, rfl, _, rfl⟩
    refine SrcF.intro (n := vals.toArray.size) (iterG_list (by exact rfl) F9 N9 hS9) F9 N9 hS9
      (fun j m₂ nw => ∃ (tw : Tok), m₂ "worth" = some (.int (valF (bitI (cdOf ss i) (sz ss i)) j) tw) ∧ m₂ "at" = some (.int (i : Int) t0) ∧ m₂ "table" = some (.ref tb) ∧ m₂ "symbols" = some (.ref sx) ∧ m₂ "ways" = some (.ref wl) ∧ m₂ "stem" = some (.ref (t.A 0 0)) ∧ nw = ((td, huffDict ww ct st lx cd k1 k2 k3 k4) :: (tb, instObj 157 td) :: (cd, od) :: (I, oI) :: (Tc, tup2 (cdOf ss i) (ss.getD i 0) t1 t2) :: (sx, LCg.lst ws) :: (wl, listOf wr.toArray nn) :: (W, listOf vals.toArray nv) :: base))
      ⟨_, by with_unfolding_all rfl, by with_unfolding_all rfl, by with_unfolding_all rfl, by with_unfolding_all rfl, by with_unfolding_all rfl, by with_unfolding_all rfl, rfl⟩ ?turnB ?finB
    case turnB =>
      rintro j v I2 oI2 m₂ nw h tk hj hv ⟨tw, w1, w2, w3, w4, w5, w6, hnw2⟩ hcI2 O2 S2 F N
      obtain ⟨x, tx', rfl, hx'⟩ := hvals.at j v (by simpa using hv)
      rw [hnw2] at N O2 S2
      have hxj : (bitI (cdOf ss i) (sz ss i)).getD j 0 = x := by rw [List.getD_eq_getElem?_getD, hx']; rfl
      have hx01 := hfg x (List.mem_of_getElem? hx')
      have hvn := valF_nn hfg j
      have hvs := valF_lt16 hfg (j := j) (by rw [List.size_toArray] at hj; omega)
      replace F := fr_cast F (pin w1 (pin w2 (pin w3 (pin w4 (pin w5 (pin w6 rfl))))))
      clear N9 F9
      k_steps
      walk1
      k_steps
      rename Fr _ _ _ _ => FA
      rename News _ _ _ _ => NA
      exact ForEnd.next FA NA hcI2 _ (fun p hp => hp) (OffIt.of O2) S2
        ⟨_, by rw [← hxj]; with_unfolding_all rfl, by with_unfolding_all rfl, by with_unfolding_all rfl, by with_unfolding_all rfl, by with_unfolding_all rfl, by with_unfolding_all rfl, rfl⟩
    rintro h' tk' m' nw F N S' ⟨tw, w1, w2, w3, w4, w5, w6, hnw2⟩
    rw [hnw2] at N
    rw [List.size_toArray, hvl, valF_full hcn hcl] at w1
    replace F := fr_cast F (pin w1 (pin w2 (pin w3 (pin w4 (pin w5 (pin w6 rfl))))))
    have hvl' : ((vals.length : Nat) : Int) = ss.getD i 0 := by omega
    clear N9 F9
    k_steps
    refine' item_atW ?k1 ?k2 ?k3 ?k4 ?k5 ?_; (case k1 => k_asm); (case k2 => k_mem); (case k3 => with_reducible assumption); (case k4 | k5 => omega); k_whole
    k_steps
    rename News _ _ _ _ => N9
    k_dflt (refine' code_spec ?k1 ?k2 ?k3 N9 ?k5 ?k6 hod hcd hval ?k9 ?k10 ?_; (case k1 => k_asm); (case k2 => k_asm); (case k3 => k_asm); (case k5 => k_asm); (case k6 => first | exact rfl | assumption); (case k9 => ktr_room); (case k10 => ktr_units); k_whole)
    clear N9
    intro h' tk' F N
    k_steps
    refine' item_atW ?k1 ?k2 ?k3 ?k4 ?k5 ?_; (case k1 => k_asm); (case k2 => k_mem); (case k3 => with_reducible assumption); (case k4 | k5 => omega); k_whole
    have hzi' := hzi.symm
    k_steps
    rename Fr _ _ _ _ => F9
    rename News _ _ _ _ => N9
    exact ForEnd.next F9 N9 hcI base (fun p hp => by
      rcases List.mem_cons.mp hp with rfl | hp
      · k_mem
      · repeat (first | exact hp | apply List.mem_cons_of_mem)) (OffIt.of O) trivial
      ⟨by with_unfolding_all rfl, by with_unfolding_all rfl, by with_unfolding_all rfl, by with_unfolding_all rfl, rfl⟩
    all_goals (rename ss.getD i 0 ≠ _ => hne; exact absurd hzi' hne)
  rintro h' tk' m' nw F N S' ⟨hm1, hm2, hm3, hm4, hnw⟩
  rw [hnw] at N
  replace F := fr_cast F (pin hm1 (pin hm2 (pin hm3 (pin hm4 rfl))))
  clear N18 F18
  have i1 : (s1.heap.objs.size + 1 + 1 + 1, oc3) ∈ base := gIn (by k_mem)
  have i2 : (st, tupO ws) ∈ base := gIn (by k_mem)
  have i3 : (lx, listOf va n') ∈ base := gIn (by k_mem)
  have hdtd : @LT.lt Nat _ d td := ktn_ltOf lA (d, srcO x1 y1 tx1 ty1 n0) (by simp)
  have hFd : @LT.lt Nat _ (s1.heap.objs.size + 1 + 1 + 1) d := hdL
  have v6 : @LT.lt Nat _ td tb := l6
  have v7 : @LT.lt Nat _ tb ct := l7
  have v8 : @LT.lt Nat _ ct st := l8
  have v9 : @LT.lt Nat _ st lx := l9
  obtain ⟨rest, hrest⟩ : ∃ r, r = (tb, instObj 157 td) :: (td, huffDict ww ct st lx cd k1 k2 k3 k4) :: (st, tupO ws) :: (lx, listOf va n') :: (wl, listOf wr.toArray nn) :: (t.led ++ (ex ++ tl)) := ⟨_, rfl⟩
  have hrd : ∀ p ∈ rest, @LT.lt Nat _ d p.1 := fun p hp => by
    rw [hrest] at hp
    simp only [List.mem_cons, List.mem_append] at hp
    rcases hp with rfl | rfl | rfl | rfl | rfl | hp | hp | hp
    · exact Nat.lt_trans hdtd v6
    · exact hdtd
    · dsimp only; omega
    · dsimp only; omega
    · exact hT.wN (d, srcO x1 y1 tx1 ty1 n0) (by simp)
    · obtain ⟨q, hq, rfl⟩ := List.mem_map.mp hp
      exact hT.above q hq (d, srcO x1 y1 tx1 ty1 n0) (by simp)
    · exact hT.exN p hp (d, srcO x1 y1 tx1 ty1 n0) (by simp)
    · have h1 : @LT.lt Nat _ st p.1 := l11 p hp
      omega
  have hR1 : ∀ p ∈ rest, p ∈ base := fun p hp => by
    rw [hrest] at hp
    simp only [List.mem_cons, List.mem_append] at hp
    rcases hp with rfl | rfl | rfl | rfl | rfl | hp | hp | hp
    · exact g2
    · exact g3
    · exact i2
    · exact i3
    · exact g1
    · obtain ⟨q, hq, rfl⟩ := List.mem_map.mp hp
      exact gLed q hq
    · exact gEx p hp
    · exact gTl p hp
  have r1 : (tb, instObj 157 td) ∈ rest := by rw [hrest]; k_mem
  have r2 : (td, huffDict ww ct st lx cd k1 k2 k3 k4) ∈ rest := by rw [hrest]; k_mem
  have r3 : (st, tupO ws) ∈ rest := by rw [hrest]; k_mem
  have r4 : (lx, listOf va n') ∈ rest := by rw [hrest]; k_mem
  have r5 : (wl, listOf wr.toArray nn) ∈ rest := by rw [hrest]; k_mem
  have hin : t.led ++ (ex ++ tl) ⊆ rest := fun p hp => by rw [hrest]; repeat (first | exact hp | apply List.mem_cons_of_mem)
  have rL : t.In rest := fun p hp => hin (List.mem_append_left _ (t.led_in p hp))
  have rX : ∀ p ∈ ex, p ∈ rest := fun p hp => hin (List.mem_append_right _ (List.mem_append_left _ hp))
  have rT : RowsAt rest va.toList (ksOf ss) 16 := hRt.up fun p hp => hin (List.mem_append_right _ (List.mem_append_right _ hp))
  have hrD : ∀ p ∈ rest, p.1 ≠ d := fun p hp => Nat.ne_of_gt (hrd p hp)
  have hrF : ∀ p ∈ rest, p.1 ≠ s1.heap.objs.size + 1 + 1 + 1 := fun p hp => Nat.ne_of_gt (Nat.lt_trans hFd (hrd p hp))
  have N20 : News s1.heap s1.heap.objs.size h' ((s1.heap.objs.size + 1 + 1 + 1, oc3) :: (d, srcO x1 y1 tx1 ty1 n0) :: (s1.heap.objs.size + 1, oS) :: rest) := fun p hp => by
    simp only [List.mem_cons] at hp
    rcases hp with rfl | rfl | rfl | hp
    · exact N _ i1
    · exact N _ g7
    · exact N _ g9
    · exact N _ (hR1 p hp)
  clear N hrest hin hR1 i1 i2 i3 g1 g2 g3 g4 g5 g6 g7 g8 g9 gTl gEx gLed gIn hbase hnw
  clear nw
  clear lA l6 l7 l8 l9 l10 l11 htc hCt hRt hCA hcd hod kvs hm1 hm2 hm3 hm4
  dsimp only
  k_steps
  rename Fr _ _ _ _ => F20
  rename News _ _ _ _ => N21
  rename _ = Data.cell (some (Value.ref _)) => dF
  have hdw : @LT.lt Nat _ d wl := hrd _ r5
  refine cut_next (fun s' => ∃ (h : Heap) (tk : Nat) (x1 y1 : Int) (tx1 ty1 : Tok) (oF : Obj) (fx : Addr) (fv : List Value) (fs : List Int) (k : Nat) (m1 : PySem.Str → Option Value), s' = { s1 with heap := h, toks := tk } ∧ 0 ≤ x1 ∧ 0 ≤ y1 ∧ y1 < 2147483647 ∧ IntsAre fv fs ∧ Figs fs ∧ 26 ≤ fs.length ∧ fs.length ≤ 59 ∧ oF.data = .cell (some (.ref fx)) ∧ @LT.lt Nat _ (s1.heap.objs.size + 1 + 1 + 1) fx ∧ @LT.lt Nat _ d fx ∧ m1 "table" = some (.ref tb) ∧ m1 "ways" = some (.ref wl) ∧ m1 "stem" = some (.ref (t.A 0 0)) ∧ Fr s1.heap s1.heap.objs.size h m1 ∧ News s1.heap s1.heap.objs.size h ((fx, listOf fv.toArray k) :: (s1.heap.objs.size + 1 + 1 + 1, oF) :: (d, srcO x1 y1 tx1 ty1 n0) :: (s1.heap.objs.size + 1, oS) :: rest)) ?st20 ?_
  case st20 =>
    refine While_W (fun n m1 nw => ∃ (x1 y1 : Int) (tx1 ty1 : Tok) (oF : Obj) (fx : Addr) (fv : List Value) (fs : List Int) (k : Nat), n = 60 - fs.length ∧ 0 ≤ x1 ∧ 0 ≤ y1 ∧ y1 < 2147483647 ∧ IntsAre fv fs ∧ Figs fs ∧  fs.length ≤ 59 ∧ oF.data = .cell (some (.ref fx)) ∧ @LT.lt Nat _ (s1.heap.objs.size + 1 + 1 + 1) fx ∧ @LT.lt Nat _ d fx ∧ m1 "table" = some (.ref tb) ∧ m1 "ways" = some (.ref wl) ∧ m1 "stem" = some (.ref (t.A 0 0)) ∧ nw = ((fx, listOf fv.toArray k) :: (s1.heap.objs.size + 1 + 1 + 1, oF) :: (d, srcO x1 y1 tx1 ty1 n0) :: (s1.heap.objs.size + 1, oS) :: rest)) 60 F20 N21
      ⟨x1, y1, tx1, ty1, _, _, [], [], 0, rfl, hx1, hy1, hy1b, .nil, (fun _ h => by cases h), by simp, dF, by omega, by omega, by with_unfolding_all rfl, by with_unfolding_all rfl, by with_unfolding_all rfl, rfl⟩ ?turn20
    case turn20 =>
      clear F20 N21 dF
      rintro n m1 nw h tk F N ⟨x1, y1, tx1, ty1, oF, fx, fv, fs, k, hn, hx1, hy1, hy1b, hfv, hfg, hfl, dF, f1, f2, w1, w2, w3, rfl⟩
      replace F := fr_cast F (pin w1 (pin w2 (pin w3 rfl)))
      have hfvl := hfv.length
      have N22 := news_front1 N (List.mem_cons_of_mem _ (List.mem_cons_of_mem _ (List.mem_cons_of_mem _ (List.mem_cons_of_mem _ r5))))
      clear N
      k_steps
      · refine cut_next (fun s' => ∃ (h : Heap) (tk : Nat) (x1 y1 : Int) (tx1 ty1 : Tok) (oF : Obj) (fx : Addr) (fv : List Value) (gs : List Int) (k : Nat) (m1 : PySem.Str → Option Value), s' = { s1 with heap := h, toks := tk } ∧ 0 ≤ x1 ∧ 0 ≤ y1 ∧ y1 < 2147483647 ∧ IntsAre fv gs ∧ Figs gs ∧ fs.length < gs.length ∧ gs.length ≤ fs.length + 16 ∧ oF.data = .cell (some (.ref fx)) ∧ @LT.lt Nat _ (s1.heap.objs.size + 1 + 1 + 1) fx ∧ @LT.lt Nat _ d fx ∧ m1 "table" = some (.ref tb) ∧ m1 "ways" = some (.ref wl) ∧ m1 "stem" = some (.ref (t.A 0 0)) ∧ Fr s1.heap s1.heap.objs.size h m1 ∧ News s1.heap s1.heap.objs.size h ((fx, listOf fv.toArray k) :: (s1.heap.objs.size + 1 + 1 + 1, oF) :: (d, srcO x1 y1 tx1 ty1 n0) :: (s1.heap.objs.size + 1, oS) :: rest)) ?st21 ?_
        case st21 =>
          walk1
          k_steps
          · rename_i x2 y2 r2 tx2 ty2 tr2 h5 tk5 hx2 hy2 hy2b hr20 hr21 l2 h6 l2' D2 ws2 h7 hI2 l3' h8 o2 F2 N2 d2
            exact CutEnd.intro ⟨_, _, x2, y2, tx2, ty2, o2, D2, ws2, _, 0, _, rfl, hx2, hy2, hy2b, hI2, figs_append hfg (figs_one hr20 hr21), by simp, by simp, d2, by omega, by omega, by with_unfolding_all rfl, by with_unfolding_all rfl, by with_unfolding_all rfl, F2, by refine' cb_drop ?cbN ?cbS; (case cbN => exact N2); (case cbS => kcj_in)⟩
          · rename_i x2 y2 r2 tx2 ty2 tr2 h5 tk5 hx2 hy2 hy2b hr20 hr21 F2 N2
            obtain ⟨W, vals, nv, hwr, hWm, hvals⟩ := hW.2 r2.toNat (by omega)
            have hvl := hvals.length
            rw [bitI_length] at hvl
            have hzr := sz_range S (i := r2.toNat) (by omega)
            have hwri : wr.toArray[r2.toNat]? = some (.ref W) := by simpa using hwr
            have hbf := figs_bitI (cdOf ss r2.toNat) (sz ss r2.toNat)
            have hbl := bitI_length (cdOf ss r2.toNat) (sz ss r2.toNat)
            generalize bitI (cdOf ss r2.toNat) (sz ss r2.toNat) = bl at hvals hbf hbl
            have N3 := news_front1 N2 (List.mem_cons_of_mem _ (List.mem_cons_of_mem _ (List.mem_cons_of_mem _ (List.mem_cons_of_mem _ (List.mem_cons_of_mem _ (rX _ hWm))))))
            have hWd : @LT.lt Nat _ d W := hrd _ (rX _ hWm)
            clear N2 N22
            refine' item_atW ?k1 ?k2 ?k3 ?k4 ?k5 ?_; (case k1 => k_asm); (case k2 => k_mem); (case k3 => with_reducible assumption); (case k4 | k5 => omega); k_whole
            k_steps
            rename_i D2 ws2 h7 hI2 l3' h8 o2 F2 N2 d2
            exact CutEnd.intro ⟨_, _, x2, y2, tx2, ty2, o2, D2, ws2, _, 0, _, rfl, hx2, hy2, hy2b, hI2, figs_append hfg hbf, by rw [List.length_append]; omega, by rw [List.length_append]; omega, d2, by omega, by omega, by with_unfolding_all rfl, by with_unfolding_all rfl, by with_unfolding_all rfl, F2, by refine' cb_drop ?cbN ?cbS; (case cbN => exact N2); (case cbS => kcj_in)⟩
        clear N22 F w1 w2 w3 hfv hfvl dF f1 f2 hx1 hy1 hy1b
        clear m1 oF fx fv x1 y1 tx1 ty1
        rintro s' ⟨h3, tk3, x1, y1, tx1, ty1, oF, fx, fv, gs, k, m1, rfl, hx1, hy1, hy1b, hfv, hgg, hgl, hgu, dF, f1, f2, w1, w2, w3, F, N⟩
        replace F := fr_cast F (pin w1 (pin w2 (pin w3 rfl)))
        have hfvl := hfv.length
        dsimp only
        walk1
        walk1
        k_steps
        rename_i l2 h5 F1 N1 l1' x2 y2 r2 tx2 ty2 tr2 h6 tk5 hx2 hy2 hy2b hr20 hr21 D1 h7 i1 n1 s1' e1 e2 e3 l3' D2 ws2 h8 hI2 l4' h9 o2 F2 N2 d2
        obtain ⟨q, hq, hI3⟩ : ∃ q : Nat, q ≤ 18 ∧ IntsAre ws2 (gs ++ List.replicate q 1) := by
          rw [List.flatten_replicate_singleton] at hI2
          exact ⟨_, by split <;> decide, hI2⟩
        have e5 : @LT.lt Nat _ (s1.heap.objs.size + 1 + 1 + 1) D2 := by omega
        have e6 : @LT.lt Nat _ d D2 := by omega
        exact WEnd.next (n' := 60 - (gs ++ List.replicate q 1).length) F2 (by refine' cb_drop ?cbN ?cbS; (case cbN => exact N2); (case cbS => kcj_in)) (by rw [List.length_append]; omega)
          ⟨x2, y2, tx2, ty2, o2, D2, ws2, gs ++ List.replicate q 1, 0, rfl, hx2, hy2, hy2b, hI3, figs_append hgg (figs_ones q), by rw [List.length_append, List.length_replicate]; omega, d2, e5, e6, by with_unfolding_all rfl, by with_unfolding_all rfl, by with_unfolding_all rfl, rfl⟩
      · rename Fr _ _ _ _ => F2
        rename News _ _ _ _ => N2
        exact CutEnd.intro ⟨_, _, x1, y1, tx1, ty1, oF, fx, fv, fs, k, _, rfl, hx1, hy1, hy1b, hfv, hfg, by omega, hfl, dF, f1, f2, by with_unfolding_all rfl, by with_unfolding_all rfl, by with_unfolding_all rfl, F2, by refine' cb_drop ?cbN ?cbS; (case cbN => exact N2); (case cbS => kcj_in)⟩
  rintro s' ⟨h3, tk3, x1, y1, tx1, ty1, oF, fx, fv, fs, k, m1, rfl, hx1, hy1, hy1b, hfv, hfg, hfl, hfu, dF, f1, f2, w1, w2, w3, F, N⟩
  replace F := fr_cast F (pin w1 (pin w2 (pin w3 rfl)))
  have hfvl := hfv.length
  dsimp only
  k_steps
  walk1
  k_steps
  rename_i l2 h5 l1' D1 h6 i1 n1 s1' e1' e2' e3' l3' D2 ws2 h7 hI2 l4' h8 o2 F2 N2 d2
  have e5 : @LT.lt Nat _ (s1.heap.objs.size + 1 + 1 + 1) D2 := by omega
  have e6 : @LT.lt Nat _ d D2 := by omega
  obtain ⟨gs, hgg, hg8, hgl, hgu, hI4⟩ : ∃ gs, Figs gs ∧ gs.length % 8 = 0 ∧ 26 ≤ gs.length ∧ gs.length ≤ 64 ∧ IntsAre ws2 gs := by
    rw [List.flatten_replicate_singleton, Int.fmod_eq_emod_of_nonneg _ (by decide)] at hI2
    have hq : 0 ≤ (-(fs.length : Int)) % 8 ∧ (-(fs.length : Int)) % 8 < 8 := by omega
    refine ⟨_, figs_append hfg (figs_ones _), ?_, ?_, ?_, hI2⟩ <;> rw [List.length_append, List.length_replicate] <;> omega
  have N3 : News s1.heap s1.heap.objs.size h8 ((D2, listOf ws2.toArray 0) :: (s1.heap.objs.size + 1 + 1 + 1, o2) :: (d, srcO x1 y1 tx1 ty1 n0) :: (s1.heap.objs.size + 1, oS) :: rest) := by refine' cb_drop ?cbN ?cbS; (case cbN => exact N2); (case cbS => kcj_in)
  have hwl := hI4.length
  clear N2 hI2 i1 s1' e1' e2' e3' hfv hfg hfl hfu dF f1 f2 w1 w2 w3 hfvl
  k_dflt (refine ListComp_W (F₀ := by k_asm) (by with_unfolding_all rfl) (by decide) (by rfl) (by decide) (by rfl) ?_)
  k_steps
  rename IsRange _ _ _ _ _ _ _ _ => hrg
  rename News _ _ _ _ => N4
  rename Fr _ _ _ _ => F4
  have hru := range_8 (y := (gs.length : Int)) (by omega) (by omega)
  refine SrcW.pure (n := gs.length / 8) (iterAs_range (by exact rfl) hrg hru.1 (by rw [hru.2]; omega)) F4 N4 (by rw [sizeLine_eq]; omega) trivial
    (fun i us => IntsAre us ((List.range i).map fun j => valF (gs.drop (8 * j)) 8)) .nil ?turn22 ?fin22
  case turn22 =>
    rintro hh i us v I oI C oC D4 m₂ h tk E' hi ⟨t4, hv⟩ hus hC hx F N O D3
    rw [show (0 + (i : Int) * 8) = ((8 * i : Nat) : Int) by omega] at hv
    subst hv
    clear N4 F4
    k_steps
    k_dflt (refine ListComp_W (F₀ := by k_asm) (by with_unfolding_all rfl) (by decide) (by rfl) (by decide) (by rfl) ?_)
    k_steps
    k_dflt (refine' Mine.slice_K (k := 8) ?F ?N ?m ?xa ?xk ?xb ?xz ?_ ?s ?t; (case F => k_asm); (case N => k_asm); (case m => k_mem); (case xa | xk | xb | xz => omega); (case s => with_unfolding_all rfl); (case t => intro _; with_unfolding_all rfl); k_whole)
    intro D5 h5 F5 N5 l5
    have hsl : IntsAre ((ws2.drop ((8 * i : Nat) : Int).toNat).take (8 : Int).toNat) ((gs.drop (8 * i)).take 8) := ints_take' (ints_drop' hI4 (8 * i)) 8
    have hsf : Figs ((gs.drop (8 * i)).take 8) := fun x hx => hgg x (List.mem_of_mem_drop (List.mem_of_mem_take hx))
    have hsn : ((gs.drop (8 * i)).take 8).length = 8 := by rw [List.length_take, List.length_drop]; omega
    have hoc := octet_of hgg (i := i) (by omega)
    generalize (ws2.drop ((8 * i : Nat) : Int).toNat).take (8 : Int).toNat = vs5 at N5 hsl
    generalize (gs.drop (8 * i)).take 8 = g8 at hsl hsf hsn hoc
    have hv5 := hsl.length
    clear N
    k_steps
    rename News _ _ _ _ => N6
    rename Fr _ _ _ _ => F6
    refine SrcW.pure (n := vs5.toArray.size) (S := LCg.SrcAt _ D5 vs5.toArray) (iterAs_list (by exact rfl) (by k_asm) N6 (.inr ⟨_, List.mem_cons_self .., rfl, _, rfl⟩)) (by k_asm) N6 (by rw [sizeLine_eq, List.size_toArray]; omega) (.inr ⟨_, List.mem_cons_self .., rfl, _, rfl⟩)
      (fun j ys => PyProof.Rows.StrsAre ys (ones ((natF g8).take j))) .nil ?turn23 ?fin23
    case turn23 =>
      rintro hh2 j ys v I5 oI5 C5 oC5 D6 m5 h6 tk6 E6 hj hv hys hC5 hx5 F7 N7 O7 D7
      obtain ⟨x, tx', rfl, hx'⟩ := hsl.at j v (by simpa using hv)
      have hx01 := hsf x (List.mem_of_getElem? hx')
      clear N6 F6
      k_steps
      rename Fr _ _ _ _ => F8
      rename News _ _ _ _ => N8
      refine LCg.CompEnd.intro F8 N8 _ (fun p hp => hp) O7 (.inr ⟨_, List.mem_cons_self .., rfl, _, rfl⟩) ⟨rfl, ?_⟩
      refine strs_cast (kct_snoc hys) ?_
      rw [digit_text hx01, List.take_add_one, natF, List.getElem?_map, hx']
      simp [ones]
    intro hh2 ys hys D6 h6 tk6 F7 N7 O7
    have hnl : (natF g8).length = 8 := by rw [natF, List.length_map]; exact hsn
    have hwt : ((ones ((natF g8).take vs5.toArray.size)).map (·.length)).sum + (ones ((natF g8).take vs5.toArray.size)).length ≤ 1048576 := by
      rw [ones_weight, List.length_take, hnl]; omega
    k_steps
    refine join_listW (News.isList N7 (List.mem_cons_self ..)) hys (by decide) hwt fun t' kk => ?_
    rw [join_ones, List.take_of_length_le (by rw [List.size_toArray, hnl]; omega)]
    k_steps
    refine call_int2 (natF_lt hsf) (fun e => by rw [e] at hnl; cases hnl) (by rw [hnl]; decide) ?_
    rw [hoc.1]
    k_steps
    refine LCg.CompEnd.intro F7 (all := (I, oI) :: (C, oC) :: (D4, LCg.lst us) :: (D2, listOf ws2.toArray 0) :: _) (by refine' cb_drop ?cbN ?cbS; (case cbN => exact N7); (case cbS => kcj_in)) _ (fun p hp => hp) O trivial ⟨rfl, ?_⟩
    rw [List.range_succ, List.map_append]
    exact ints_snoc hus
  intro hh us hus D6 h6 tk6 F6 N6 O6
  obtain ⟨bs, hbs, hbl, hbv, hus⟩ : ∃ bs : List Int, KBa.In bs ∧ gs.length = 8 * bs.length ∧ (∀ j, j < bs.length → bs.getD j 0 = valF (gs.drop (8 * j)) 8) ∧ IntsAre us bs := by
    refine ⟨_, fun z hz => ?_, ?_, fun j hj => ?_, hus⟩
    · obtain ⟨j, hj, rfl⟩ := List.mem_map.mp hz
      have := List.mem_range.mp hj
      exact (octet_of hgg (i := j) (by omega)).2
    · rw [List.length_map, List.length_range]; omega
    · rw [List.length_map, List.length_range] at hj
      rw [List.getD_eq_getElem?_getD, List.getElem?_map, List.getElem?_range hj]; rfl
  have hB := bitsAre_of hgg (KBa.ints_make hbs) hbl hbv
  have hbsz : (byteArr bs).size = bs.length := by rw [← KBw.ints_length, KBa.ints_make hbs]
  have hgD : @Ne Nat D2 D6 := O6.1
  clear N4 F4
  k_steps
  generalize byteArr bs = b at hB hbsz
  k_dflt (refine' call_cls ?k1 ?k2 ?k3 ?k4 ?k5 ?k6 ?_; (case k1 | k2 | k3 => k_asm); (case k4 | k5 | k6 => k_is); k_whole; intro x' d' h' F' N' l1 l2; (try k_lt l1); (try k_lt2 l2); (try k_sweep); (refine' code_def ?k1 ?k2 ?k3 ?k4 ?k5 ?kA ?kF ?kK ?k6 ?k7 ?k8 ?k9 ?kB ?_ ?c2 ?c3 ?c4 ?c5; (case kA | kF => exact rfl); (case kK => first | exact rfl | assumption); (case k1 | k2 | k3 | k4 | k5 => k_asm); (case k6 | k7 => k_is); (case k8 => ktr_room); (case k9 => exact BindsTo.of_eq rfl); (case c5 => decide); (case kB => exact locs rfl); (case c2 | c3 | c4 => exact rfl); k_whole; intro g' L' h' FG' F' N' B' X' T'; (try dsimp only); (try k_lift B'); (try k_fold)))
  k_steps
  rename_i D7 h7 l7 h8x h9x h10 F7 N7
  have q2 : @LT.lt Nat _ D2 d' := l1.2.1
  have q3 : @LT.lt Nat _ (s1.heap.objs.size + 1 + 1 + 1) d' := l1.2.2.1
  have hrX : ∀ p ∈ rest, p.1 ≠ d' := fun p hp => Nat.ne_of_lt (ktn_ltOf l1.2.2.2.2.2 p hp)
  have q1 : @LT.lt Nat _ d' x' := l2
  obtain ⟨z1, z2, z3, z4, N8⟩ : ∃ z1 z2 z3 z4, News s1.heap s1.heap.objs.size h10 ((d', rdDict ww b 0 z1 z2 z3 z4) :: (x', instObj 108 d') :: (D2, listOf ws2.toArray 0) :: (s1.heap.objs.size + 1 + 1 + 1, o2) :: rest) := ⟨_, _, _, _, by refine' cb_drop ?cbN ?cbS; (case cbN => exact N7); (case cbS => kcj_in)⟩
  clear l7 N7 N' F' l1
  have htd : td ≠ d' := hrX _ r2
  have hgs : gs.length = 8 * b.size := hB.1
  refine While_W (fun n m₁ nw => ∃ (p : Nat) (z4 ta : Tok), n = gs.length - p ∧ p ≤ gs.length ∧ m₁ "table" = some (.ref tb) ∧ m₁ "stem" = some (.ref (t.A 0 0)) ∧ m₁ "reader" = some (.ref x') ∧ m₁ "at" = some (.int (p : Int) ta) ∧ nw = ((d', rdDict ww b p z1 z2 z3 z4) :: (x', instObj 108 d') :: (D2, listOf ws2.toArray 0) :: (s1.heap.objs.size + 1 + 1 + 1, o2) :: rest)) gs.length F7 N8
    ⟨0, z4, _, rfl, Nat.zero_le _, by with_unfolding_all rfl, by with_unfolding_all rfl, by with_unfolding_all rfl, by with_unfolding_all rfl, rfl⟩ ?turn30
  case turn30 =>
    rintro n m₁ nw h tk F N ⟨p, z4, ta, hn, hp, w1, w2, w3, w4, rfl⟩
    replace F := fr_cast F (pin w1 (pin w2 (pin w3 (pin w4 rfl))))
    clear F7 N8
    k_steps
    k_dflt (refine' slice_fromK ?F ?N ?m hI4 ?xa ?xz ?_ ?s ?t; (case F => k_asm); (case N => k_asm); (case m => k_mem); (case xa | xz => omega); (case s => with_unfolding_all rfl); (case t => intro _; with_unfolding_all rfl); k_whole)
    intro D8 ws8 h11 F8 N9 l8 hI8
    have hI8' : IntsAre ws8 (gs.drop p) := hI8
    clear hI8
    have hdl : (gs.drop p).length = gs.length - p := List.length_drop ..
    k_steps
    rename News _ _ _ _ => N10
    k_dflt (refine' walk_spec (fx := D8) (n := 0) (t := t) (ss := ss) (ks := ksOf ss) (sy := sy) ?k1 ?k2 ?k3 N10 ?k5 ?k6 ?hin (by k_mem) hI8' (figs_drop hgg p) ?hfl S C ?k9 ?k10 ?_ ?_; (case k1 | k2 | k3 | k5 => k_asm); (case k6 => first | exact rfl | assumption); (case k9 => ktr_room); (case k10 => ktr_units); (case hin => exact rL.up (fun q hq => by repeat (first | exact hq | apply List.mem_cons_of_mem))); (case hfl => omega); k_whole)
    · intro k Tt tu tv h12 tk12 hk hpre F9 N11 l9
      obtain ⟨i0, hi0, hpi0, hmb, hhit, hidx, hzk⟩ := hit_of S hB hk hpre
      rw [hzk] at N11
      have e7 : @LT.lt Nat _ d' D8 := l8 (d', rdDict ww b p z1 z2 z3 z4) (by simp)
      have e8 : @LT.lt Nat _ d' Tt := l9 (d', rdDict ww b p z1 z2 z3 z4) (by simp)
      clear N10 N l8 l9
      k_steps
      rename News _ _ _ _ => N12
      k_dflt (refine' heard_use (tb := tb) (td := td) (ct := ct) (st := st) (lx := lx) (cd := cd) (rd := x') (dx := d') (b := b) (p := (p : Int)) (ks := ksOf ss) (sy := sy) ?k1 ?k2 ?k3 N12 ?k5 ?k6 ?k7 ?k8 ktsDicts_nil ?m1 ?m2 ?m3 ?m4 ?m5 htd ?U hws (ksOf_len ss) (ksOf_range hsl) hkS (by omega) (by omega) (by omega) (by omega) ?hR ?k26 ?k27 ?_ ?_ ?_; (case k1 | k2 | k3 | k5 => k_asm); (case k6 => first | exact rfl | assumption); (case k7 | k8 => k_asm); (case m1 => repeat (first | exact r2 | apply List.mem_cons_of_mem)); (case m2 => repeat (first | exact r1 | apply List.mem_cons_of_mem)); (case m3 => repeat (first | exact r3 | apply List.mem_cons_of_mem)); (case m4 => repeat (first | exact r4 | apply List.mem_cons_of_mem)); (case m5 => k_mem); (case U => intro p' ta'; k_upd); (case hR => exact rT.up (fun q hq => by repeat (first | exact hq | apply List.mem_cons_of_mem))); (case k26 => ktr_room); (case k27 => ktr_units); k_whole)
      · intro i tr ta' h' tk' hi' hroom' hmiss' hhit' F' N'
        have hii : i = i0 := by
          rcases Nat.lt_trichotomy i i0 with h | h | h
          · exact absurd (hmb i h) hhit'
          · exact h
          · exact absurd (hmiss' i0 h) hhit
        subst hii
        rw [hidx]
        rw [show (p : Int) + i + 1 = ((p + (i + 1) : Nat) : Int) by omega] at N'
        clear N12
        k_steps
        all_goals try (exfalso; (rename sy.getD k 0 ≠ sy.getD k 0 => hne); exact hne rfl)
        walk1
        have hl8 : 8 * (b.size : Int) - ((p + (i + 1) : Nat) : Int) = (gs.length : Int) - ((p : Int) + ((i + 1 : Nat) : Int)) := by omega
        k_steps
        all_goals first
          | (exfalso; (rename 8 * (b.size : Int) - _ ≠ _ => hne); exact hne hl8)
          | (rename Fr _ _ _ _ => F13
             rename News _ _ _ _ => N13
             exact WEnd.next (n' := gs.length - (p + (i + 1))) F13 (by refine' cb_drop ?cbN ?cbS; (case cbN => exact N13); (case cbS => kcj_in)) (by omega)
               ⟨p + (i + 1), ta', _, rfl, by omega, by with_unfolding_all rfl, by with_unfolding_all rfl, by with_unfolding_all rfl, by with_unfolding_all rfl, rfl⟩)
          | (exfalso; omega)
      · intro i t' h' g3' tk' ta' hi' hend' hmiss' hroom' KT' F' N' K' X' P' D'
        exfalso
        rcases Nat.lt_or_ge i0 i with h | h
        · exact hhit (hmiss' i0 h)
        · omega
      · intro t' h' g3' tk' ta' hmiss' hroom' KT' F' N' K' X' P' D'
        exact absurd (hmiss' i0 hi0) hhit
    · intro xs jj Tt tu tv h12 tk12 hno hxs F9 N11 l9
      have e7 : @LT.lt Nat _ d' D8 := l8 (d', rdDict ww b p z1 z2 z3 z4) (by simp)
      have e8 : @LT.lt Nat _ d' Tt := l9 (d', rdDict ww b p z1 z2 z3 z4) (by simp)
      clear N10 N l8 l9
      k_steps
      rename News _ _ _ _ => N12
      k_dflt (refine' heard_use (tb := tb) (td := td) (ct := ct) (st := st) (lx := lx) (cd := cd) (rd := x') (dx := d') (b := b) (p := (p : Int)) (ks := ksOf ss) (sy := sy) ?k1 ?k2 ?k3 N12 ?k5 ?k6 ?k7 ?k8 ktsDicts_nil ?m1 ?m2 ?m3 ?m4 ?m5 htd ?U hws (ksOf_len ss) (ksOf_range hsl) hkS (by omega) (by omega) (by omega) (by omega) ?hR ?k26 ?k27 ?_ ?_ ?_; (case k1 | k2 | k3 | k5 => k_asm); (case k6 => first | exact rfl | assumption); (case k7 | k8 => k_asm); (case m1 => repeat (first | exact r2 | apply List.mem_cons_of_mem)); (case m2 => repeat (first | exact r1 | apply List.mem_cons_of_mem)); (case m3 => repeat (first | exact r3 | apply List.mem_cons_of_mem)); (case m4 => repeat (first | exact r4 | apply List.mem_cons_of_mem)); (case m5 => k_mem); (case U => intro p' ta'; k_upd); (case hR => exact rT.up (fun q hq => by repeat (first | exact hq | apply List.mem_cons_of_mem))); (case k26 => ktr_room); (case k27 => ktr_units); k_whole)
      · intro i tr ta' h' tk' hi' hroom' hmiss' hhit' F' N'
        exact absurd (miss_of S hB hno i hi' (by omega) hmiss') hhit'
      · intro i t' h' g3' tk' ta' hi' hend' hmiss' hroom' KT' F' N' K' X' P' D'
        have hx : xs = "cut" := by rw [hxs, if_neg (by omega)]
        clear hxs N12
        subst hx
        k_steps
        dsimp only
        refine WEnd.ret ?_
        dsimp only
        rename Fr _ _ _ _ => FZ
        exact hend _ _ _ ⟨FZ.ns, fun bb o e => FZ.keep bb o (KT'.other bb o e (by intro hbb; cases hbb)), by have := FZ.above; rw [KT'.size] at this; exact this⟩
      · intro t' h' g3' tk' ta' hmiss' hroom' KT' F' N' K' X' P' D'
        have h15 := hroom' 15 (by omega)
        have hx : xs = "code" := by rw [hxs, if_pos (by omega)]
        clear hxs N12
        subst hx
        k_steps
        dsimp only
        refine WEnd.ret ?_
        dsimp only
        rename Fr _ _ _ _ => FZ
        exact hend _ _ _ ⟨FZ.ns, fun bb o e => FZ.keep bb o (KT'.other bb o e (by intro hbb; cases hbb)), by have := FZ.above; rw [KT'.size] at this; exact this⟩)
end
end
end Mine
end
set_option maxRecDepth 100000 in
set_option maxHeartbeats 8000000 in
theorem PySem.Challenge.cw_ok0132_01_holds : PySem.Challenge.rw_ok0132_01.Holds := by
  exact Mine.law_holds
