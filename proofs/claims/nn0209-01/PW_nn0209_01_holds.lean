import PyProof.Rows.All
import Wide.All
import OpenK.AllK
import Wide.FinOn
import PySem.Challenge.RW_nn0209_01
open PySem PySem.W PyProof.Rows PySem.Calls PySem.Spec
set_option Elab.async false
set_option compiler.extract_closed false
set_option linter.unusedVariables false
set_option linter.unusedSimpArgs false
set_option maxRecDepth 100000
set_option maxHeartbeats 4000000
namespace Mine
noncomputable def viewP (p : Program) : Program := { p with main := { p.main with body := ((((p.main.body.eraseIdx 21).eraseIdx 6).eraseIdx 3).eraseIdx 1) } }
noncomputable def viewQ : Program := viewP PySem.Challenge.pw_nn0209_01
abbrev RunT := (String → Option Builtin) → Program → World → Nat → Option Value → Nat → Shared → Thread → Option Shared
noncomputable def topBy (R : RunT) (tb : String → Option Builtin) (p : Program) (w : World) (N : Nat) (s₀ : Shared) : Option Shared :=
  match s₀.heap.isNs mainGlobals && s₀.gens.size == 0 with
  | true => (R tb p w s₀.heap.objs.size (s₀.heap.nsMap mainGlobals (Str.ofString "__annotations__")) N s₀ (topStub p)).bind fun s₁ => match staticsOk (importedModules p.main.body) s₀.heap s₁.heap && namesBound p s₁.heap && gensDone s₁ && laidKept s₀.heap s₁.heap with
    | true => some s₁
    | false => none
  | false => none
theorem topBy_eq (tb : String → Option Builtin) (p : Program) (w : World) (N : Nat) (s : Shared) : topBy topRun tb p w N s = topFrom tb p w N s := rfl
theorem left_fast {p p' : Program} {V : Program → Program} {loose : List Str} {xt : Program → Shared → Bool} {α : Type} {Yf : Shared → α} {Ya : World → α} {N : Nat} {tR : RunT} {tT : String → Option Builtin} {tS : Program → List Str → List Str → (Shared → Bool) → Bool → Shared → _}
    (e1 : topRun = tR) (e2 : @openSeen = tS) (e3 : treeTable = tT) (e4 : p = p')
    (e : opening p = plainProg p.main.scope.names) (hN : Nat.ble 600 N = true) (f : ∀ s, fenceModules? p s = some s)
    (h : ∀ (w : World) (os : OsState), (topBy tR tT p' w N ⟨boot_heap w.params, Array.mk [], boot_drawn, boot_toks, os⟩).map (fun s => (tS (V p') loose (importedModules p'.main.body) (xt p') true s, Yf s)) = some (openGood (V p') loose, Ya w)) : LeftO p (V p) loose (xt p) Yf Ya N := fun w => by
  obtain ⟨⟨h0, gs, d, k, os⟩, x1, x2⟩ := Option.map_eq_some_iff.mp (boot_open e hN f w)
  obtain ⟨rfl, rfl, rfl, rfl⟩ : h0 = boot_heap w.params ∧ gs = Array.mk [] ∧ d = boot_drawn ∧ k = boot_toks := by simpa using x2
  unfold openEnds
  rw [x1]
  subst e1 e2 e3 e4
  exact h w os
section
set_option hygiene false in
local macro_rules | `(tactic| o_head $H) => `(tactic| (
  refine PySem.W.holds_open (q := viewQ) (loose := [PySem.Str.ofString "PaperError"]) (Xt := fun s => xlAt viewQ [] s && recOk (RowW.records (OpenRow.toRowW (OpenLaw.row PySem.Challenge.rw_nn0209_01))) s) (XP := XL viewQ []) (Yf := Hook.obs $H) (Ya := Hook.val $H) (YP := Hook.says $H) (N := 4952) ?hl (Hook.of $H) (Hook.keeps $H) (fun s e => xl_of s (Bool.and_eq_true_iff.mp e).1) XL.keeps (by rfl) (by rfl) (by rfl) (fun s e => recFacts_of (Bool.and_eq_true_iff.mp e).2) (by rfl) (by first | assumption | decide +kernel) (by decide +kernel) ⟨rfl, rfl, rfl, rfl, rfl, by decide +kernel⟩ ?hw ?hc
  (case hl => exact left_fast (V := viewP) (xt := fun p s => xlAt (viewP p) [] s && recOk (RowW.records (OpenRow.toRowW (OpenLaw.row PySem.Challenge.rw_nn0209_01))) s) PySem.W.Fast.te14082659384304107361 PySem.W.Fast.te4187177175401517315 PySem.W.Fast.te14364793385576792824 PySem.W.Fast.te9079687013156595245 (by kernel_rfl) (by rfl) (by intro s; kernel_rfl) (by intro w os; kernel_rfl))))
open_top hd for PySem.Challenge.rw_nn0209_01
end
section
theorem no_some {α : Type} {a : α} {P : Prop} (h : none = some a) : P := by cases h
theorem some_no {α : Type} {a : α} {P : Prop} (h : some a = none) : P := by cases h
theorem no_bool {P : Prop} (h : false = true) : P := absurd h Bool.false_ne_true
theorem no_bool' {P : Prop} (h : true = false) : P := absurd h.symm Bool.false_ne_true
theorem and2 {a b z : Prop} (x : a ∧ b) (y : a → b → z) : z := y x.1 x.2
theorem and3 {a b c z : Prop} (x : a ∧ b ∧ c) (y : a → b → c → z) : z := y x.1 x.2.1 x.2.2
theorem and4 {a b c d z : Prop} (x : a ∧ b ∧ c ∧ d) (y : a → b → c → d → z) : z := y x.1 x.2.1 x.2.2.1 x.2.2.2
theorem and5 {a b c d e z : Prop} (x : a ∧ b ∧ c ∧ d ∧ e) (y : a → b → c → d → e → z) : z := y x.1 x.2.1 x.2.2.1 x.2.2.2.1 x.2.2.2.2
theorem and6 {a b c d e f z : Prop} (x : a ∧ b ∧ c ∧ d ∧ e ∧ f) (y : a → b → c → d → e → f → z) : z := y x.1 x.2.1 x.2.2.1 x.2.2.2.1 x.2.2.2.2.1 x.2.2.2.2.2
theorem and7 {a b c d e f g z : Prop} (x : a ∧ b ∧ c ∧ d ∧ e ∧ f ∧ g) (y : a → b → c → d → e → f → g → z) : z := y x.1 x.2.1 x.2.2.1 x.2.2.2.1 x.2.2.2.2.1 x.2.2.2.2.2.1 x.2.2.2.2.2.2
theorem and8 {a b c d e f g h z : Prop} (x : a ∧ b ∧ c ∧ d ∧ e ∧ f ∧ g ∧ h) (y : a → b → c → d → e → f → g → h → z) : z := y x.1 x.2.1 x.2.2.1 x.2.2.2.1 x.2.2.2.2.1 x.2.2.2.2.2.1 x.2.2.2.2.2.2.1 x.2.2.2.2.2.2.2
theorem and9 {a b c d e f g h i z : Prop} (x : a ∧ b ∧ c ∧ d ∧ e ∧ f ∧ g ∧ h ∧ i) (y : a → b → c → d → e → f → g → h → i → z) : z := y x.1 x.2.1 x.2.2.1 x.2.2.2.1 x.2.2.2.2.1 x.2.2.2.2.2.1 x.2.2.2.2.2.2.1 x.2.2.2.2.2.2.2.1 x.2.2.2.2.2.2.2.2
theorem and10 {a b c d e f g h i j z : Prop} (x : a ∧ b ∧ c ∧ d ∧ e ∧ f ∧ g ∧ h ∧ i ∧ j) (y : a → b → c → d → e → f → g → h → i → j → z) : z := y x.1 x.2.1 x.2.2.1 x.2.2.2.1 x.2.2.2.2.1 x.2.2.2.2.2.1 x.2.2.2.2.2.2.1 x.2.2.2.2.2.2.2.1 x.2.2.2.2.2.2.2.2.1 x.2.2.2.2.2.2.2.2.2
theorem and11 {a b c d e f g h i j k z : Prop} (x : a ∧ b ∧ c ∧ d ∧ e ∧ f ∧ g ∧ h ∧ i ∧ j ∧ k) (y : a → b → c → d → e → f → g → h → i → j → k → z) : z := y x.1 x.2.1 x.2.2.1 x.2.2.2.1 x.2.2.2.2.1 x.2.2.2.2.2.1 x.2.2.2.2.2.2.1 x.2.2.2.2.2.2.2.1 x.2.2.2.2.2.2.2.2.1 x.2.2.2.2.2.2.2.2.2.1 x.2.2.2.2.2.2.2.2.2.2
theorem and12 {a b c d e f g h i j k l z : Prop} (x : a ∧ b ∧ c ∧ d ∧ e ∧ f ∧ g ∧ h ∧ i ∧ j ∧ k ∧ l) (y : a → b → c → d → e → f → g → h → i → j → k → l → z) : z := y x.1 x.2.1 x.2.2.1 x.2.2.2.1 x.2.2.2.2.1 x.2.2.2.2.2.1 x.2.2.2.2.2.2.1 x.2.2.2.2.2.2.2.1 x.2.2.2.2.2.2.2.2.1 x.2.2.2.2.2.2.2.2.2.1 x.2.2.2.2.2.2.2.2.2.2.1 x.2.2.2.2.2.2.2.2.2.2.2
theorem and13 {a b c d e f g h i j k l m z : Prop} (x : a ∧ b ∧ c ∧ d ∧ e ∧ f ∧ g ∧ h ∧ i ∧ j ∧ k ∧ l ∧ m) (y : a → b → c → d → e → f → g → h → i → j → k → l → m → z) : z := y x.1 x.2.1 x.2.2.1 x.2.2.2.1 x.2.2.2.2.1 x.2.2.2.2.2.1 x.2.2.2.2.2.2.1 x.2.2.2.2.2.2.2.1 x.2.2.2.2.2.2.2.2.1 x.2.2.2.2.2.2.2.2.2.1 x.2.2.2.2.2.2.2.2.2.2.1 x.2.2.2.2.2.2.2.2.2.2.2.1 x.2.2.2.2.2.2.2.2.2.2.2.2
theorem and14 {a b c d e f g h i j k l m n z : Prop} (x : a ∧ b ∧ c ∧ d ∧ e ∧ f ∧ g ∧ h ∧ i ∧ j ∧ k ∧ l ∧ m ∧ n) (y : a → b → c → d → e → f → g → h → i → j → k → l → m → n → z) : z := y x.1 x.2.1 x.2.2.1 x.2.2.2.1 x.2.2.2.2.1 x.2.2.2.2.2.1 x.2.2.2.2.2.2.1 x.2.2.2.2.2.2.2.1 x.2.2.2.2.2.2.2.2.1 x.2.2.2.2.2.2.2.2.2.1 x.2.2.2.2.2.2.2.2.2.2.1 x.2.2.2.2.2.2.2.2.2.2.2.1 x.2.2.2.2.2.2.2.2.2.2.2.2.1 x.2.2.2.2.2.2.2.2.2.2.2.2.2
theorem and15 {a b c d e f g h i j k l m n o z : Prop} (x : a ∧ b ∧ c ∧ d ∧ e ∧ f ∧ g ∧ h ∧ i ∧ j ∧ k ∧ l ∧ m ∧ n ∧ o) (y : a → b → c → d → e → f → g → h → i → j → k → l → m → n → o → z) : z := y x.1 x.2.1 x.2.2.1 x.2.2.2.1 x.2.2.2.2.1 x.2.2.2.2.2.1 x.2.2.2.2.2.2.1 x.2.2.2.2.2.2.2.1 x.2.2.2.2.2.2.2.2.1 x.2.2.2.2.2.2.2.2.2.1 x.2.2.2.2.2.2.2.2.2.2.1 x.2.2.2.2.2.2.2.2.2.2.2.1 x.2.2.2.2.2.2.2.2.2.2.2.2.1 x.2.2.2.2.2.2.2.2.2.2.2.2.2.1 x.2.2.2.2.2.2.2.2.2.2.2.2.2.2
theorem and16 {a b c d e f g h i j k l m n o p z : Prop} (x : a ∧ b ∧ c ∧ d ∧ e ∧ f ∧ g ∧ h ∧ i ∧ j ∧ k ∧ l ∧ m ∧ n ∧ o ∧ p) (y : a → b → c → d → e → f → g → h → i → j → k → l → m → n → o → p → z) : z := y x.1 x.2.1 x.2.2.1 x.2.2.2.1 x.2.2.2.2.1 x.2.2.2.2.2.1 x.2.2.2.2.2.2.1 x.2.2.2.2.2.2.2.1 x.2.2.2.2.2.2.2.2.1 x.2.2.2.2.2.2.2.2.2.1 x.2.2.2.2.2.2.2.2.2.2.1 x.2.2.2.2.2.2.2.2.2.2.2.1 x.2.2.2.2.2.2.2.2.2.2.2.2.1 x.2.2.2.2.2.2.2.2.2.2.2.2.2.1 x.2.2.2.2.2.2.2.2.2.2.2.2.2.2.1 x.2.2.2.2.2.2.2.2.2.2.2.2.2.2.2
theorem ex1.{u0} {A0 : Sort u0} {p : A0 → Prop} {z : Prop} (x : ∃ x0, p x0) (y : ∀ x0, p x0 → z) : z := x.elim y
theorem ex2.{u0, u1} {A0 : Sort u0} {A1 : Sort u1} {p : A0 → A1 → Prop} {z : Prop} (x : ∃ x0 x1, p x0 x1) (y : ∀ x0 x1, p x0 x1 → z) : z := x.elim fun x0 h => ex1 h (y x0)
theorem ex3.{u0, u1, u2} {A0 : Sort u0} {A1 : Sort u1} {A2 : Sort u2} {p : A0 → A1 → A2 → Prop} {z : Prop} (x : ∃ x0 x1 x2, p x0 x1 x2) (y : ∀ x0 x1 x2, p x0 x1 x2 → z) : z := x.elim fun x0 h => ex2 h (y x0)
theorem ex4.{u0, u1, u2, u3} {A0 : Sort u0} {A1 : Sort u1} {A2 : Sort u2} {A3 : Sort u3} {p : A0 → A1 → A2 → A3 → Prop} {z : Prop} (x : ∃ x0 x1 x2 x3, p x0 x1 x2 x3) (y : ∀ x0 x1 x2 x3, p x0 x1 x2 x3 → z) : z := x.elim fun x0 h => ex3 h (y x0)
theorem ex5.{u0, u1, u2, u3, u4} {A0 : Sort u0} {A1 : Sort u1} {A2 : Sort u2} {A3 : Sort u3} {A4 : Sort u4} {p : A0 → A1 → A2 → A3 → A4 → Prop} {z : Prop} (x : ∃ x0 x1 x2 x3 x4, p x0 x1 x2 x3 x4) (y : ∀ x0 x1 x2 x3 x4, p x0 x1 x2 x3 x4 → z) : z := x.elim fun x0 h => ex4 h (y x0)
theorem ex6.{u0, u1, u2, u3, u4, u5} {A0 : Sort u0} {A1 : Sort u1} {A2 : Sort u2} {A3 : Sort u3} {A4 : Sort u4} {A5 : Sort u5} {p : A0 → A1 → A2 → A3 → A4 → A5 → Prop} {z : Prop} (x : ∃ x0 x1 x2 x3 x4 x5, p x0 x1 x2 x3 x4 x5) (y : ∀ x0 x1 x2 x3 x4 x5, p x0 x1 x2 x3 x4 x5 → z) : z := x.elim fun x0 h => ex5 h (y x0)
theorem ex7.{u0, u1, u2, u3, u4, u5, u6} {A0 : Sort u0} {A1 : Sort u1} {A2 : Sort u2} {A3 : Sort u3} {A4 : Sort u4} {A5 : Sort u5} {A6 : Sort u6} {p : A0 → A1 → A2 → A3 → A4 → A5 → A6 → Prop} {z : Prop} (x : ∃ x0 x1 x2 x3 x4 x5 x6, p x0 x1 x2 x3 x4 x5 x6) (y : ∀ x0 x1 x2 x3 x4 x5 x6, p x0 x1 x2 x3 x4 x5 x6 → z) : z := x.elim fun x0 h => ex6 h (y x0)
theorem ex8.{u0, u1, u2, u3, u4, u5, u6, u7} {A0 : Sort u0} {A1 : Sort u1} {A2 : Sort u2} {A3 : Sort u3} {A4 : Sort u4} {A5 : Sort u5} {A6 : Sort u6} {A7 : Sort u7} {p : A0 → A1 → A2 → A3 → A4 → A5 → A6 → A7 → Prop} {z : Prop} (x : ∃ x0 x1 x2 x3 x4 x5 x6 x7, p x0 x1 x2 x3 x4 x5 x6 x7) (y : ∀ x0 x1 x2 x3 x4 x5 x6 x7, p x0 x1 x2 x3 x4 x5 x6 x7 → z) : z := x.elim fun x0 h => ex7 h (y x0)
abbrev PMap := Addr → Option Obj
noncomputable def put (G : PMap) (a : Addr) (o : Obj) : PMap := fun b => if b = a then some o else G b
theorem put_self {G : PMap} {a : Addr} {o : Obj} : put G a o a = some o := by simp [put]
theorem put_ne {G : PMap} {a b : Addr} {o : Obj} (h : b ≠ a) : put G a o b = G b := by simp [put, h]
theorem put_old {G : PMap} {a : Addr} {o : Obj} (hn : G a = none) : ∀ b ob, G b = some ob → put G a o b = some ob := by
  intro b ob hb
  have : b ≠ a := fun e => by rw [e, hn] at hb; (first | with_reducible exact no_some hb | with_reducible exact some_no hb | with_reducible exact no_bool hb | with_reducible exact no_bool' hb | cases hb)
  rw [put_ne this, hb]
open Classical in
noncomputable def mask (W : Addr → Prop) (G : PMap) : PMap := fun a => if W a then none else G a
theorem mask_in {W : Addr → Prop} {G : PMap} {a : Addr} (h : W a) : mask W G a = none := by unfold mask; rw [if_pos h]
theorem mask_out {W : Addr → Prop} {G : PMap} {a : Addr} (h : ¬ W a) : mask W G a = G a := by unfold mask; rw [if_neg h]
theorem of_mask {W : Addr → Prop} {G : PMap} {a : Addr} {o : Obj} (h : mask W G a = some o) : ¬ W a ∧ G a = some o := by
  by_cases w : W a
  · rw [mask_in w] at h; (first | with_reducible exact no_some h | with_reducible exact some_no h | with_reducible exact no_bool h | with_reducible exact no_bool' h | cases h)
  · rw [mask_out w] at h; exact ⟨w, h⟩

structure St (B G₀ : PMap) (L : Addr) (m : Str → Option Value) (G : PMap) (h : Heap) : Prop where
  ns : h.Ns L m
  keep : ∀ b o, B b = some o → h.get? b = some o
  off : B L = none
  old : ∀ a o, G₀ a = some o → B a = some o
  mono : ∀ a o, G₀ a = some o → G a = some o
  sub : ∀ a o, G a = some o → h.get? a = some o ∧ a ≠ L ∧ (G₀ a = some o ∨ B a = none)

noncomputable def Keeps (W : Addr → Prop) (h h' : Heap) : Prop := ∀ a o, ¬ W a → h.get? a = some o → h'.get? a = some o
noncomputable def No : Addr → Prop := fun _ => False
structure Grow (W : Addr → Prop) (G : PMap) (h : Heap) (G' : PMap) (h' : Heap) : Prop where
  keep : Keeps W h h'
  mono : ∀ a o, ¬ W a → G a = some o → G' a = some o
  sub : ∀ a o, G' a = some o → h'.get? a = some o ∧ (G a ≠ none ∨ h.get? a = none)

section
variable {h h' : Heap} {B G₀ G G' : PMap} {L a : Addr} {m m' : Str → Option Value} {o : Obj} {W : Addr → Prop}

theorem no_size : h.get? h.objs.size = none := by
  cases e : h.get? h.objs.size with
  | none => rfl
  | some o => exact absurd (Heap.lt_size e) (Nat.lt_irrefl _)
theorem Grow.refl (hs : ∀ a o, G a = some o → h.get? a = some o) : Grow W G h G h :=
  ⟨fun _ _ _ e => e, fun _ _ _ e => e, fun a o e => ⟨hs a o e, .inl (by rw [e]; exact Option.some_ne_none _)⟩⟩
theorem Grow.heap (hs : ∀ a o, G a = some o → h'.get? a = some o) (hk : Keeps W h h') : Grow W G h G h' :=
  ⟨hk, fun _ _ _ e => e, fun a o e => ⟨hs a o e, .inl (by rw [e]; exact Option.some_ne_none _)⟩⟩
theorem Grow.trans {G'' : PMap} {h'' : Heap} (x : Grow W G h G' h') (y : Grow W G' h' G'' h'') (hW : ∀ a, W a → G a ≠ none) : Grow W G h G'' h'' := by
  refine ⟨fun a o n e => y.keep a o n (x.keep a o n e), fun a o n e => y.mono a o n (x.mono a o n e), fun a o e => ⟨(y.sub a o e).1, ?_⟩⟩
  rcases (y.sub a o e).2 with q | q
  · refine ex1 (Option.ne_none_iff_exists'.mp q) fun o' e' => ?_
    exact (x.sub a o' e').2
  · by_cases n : W a
    · exact .inl (hW a n)
    · refine .inr ?_
      cases z : h.get? a with
      | none => rfl
      | some o' => rw [x.keep a o' n z] at q; (first | with_reducible exact no_some q | with_reducible exact some_no q | with_reducible exact no_bool q | with_reducible exact no_bool' q | cases q)
theorem Grow.weak {W' : Addr → Prop} (x : Grow W G h G' h') (hw : ∀ a, W a → W' a) : Grow W' G h G' h' :=
  ⟨fun a o n e => x.keep a o (fun z => n (hw a z)) e, fun a o n e => x.mono a o (fun z => n (hw a z)) e, x.sub⟩

theorem St.get (S : St B G₀ L m G h) (ha : G a = some o) : h.get? a = some o := (S.sub a o ha).1
theorem St.size (S : St B G₀ L m G h) : G h.objs.size = none := by
  cases e : G h.objs.size with
  | none => rfl
  | some o => exact absurd (Heap.lt_size (S.get e)) (Nat.lt_irrefl _)
theorem St.sizeB (S : St B G₀ L m G h) : B h.objs.size = none := by
  cases e : B h.objs.size with
  | none => rfl
  | some o => exact absurd (Heap.lt_size (S.keep _ _ e)) (Nat.lt_irrefl _)
theorem St.noL (S : St B G₀ L m G h) : G L = none := by
  cases e : G L with
  | none => rfl
  | some o => exact absurd rfl (S.sub _ _ e).2.1
theorem St.has (S : St B G₀ L m G h) : ∃ o, h.get? L = some o := ex3 S.ns fun o _ _ y => ⟨o, y.1⟩

theorem St.grow (S : St B G₀ L m G h) (g : Grow W G h G' h') (hW : ∀ a, W a → B a = none) (hL : ¬ W L) : St B G₀ L m G' h' := by
  refine ex3 (id S.ns) fun oL es ep hx2 => ?_
  refine and2 hx2 fun eL r => ?_
  clear hx2
  refine ⟨⟨oL, es, ep, g.keep L oL hL eL, r⟩, fun b o e => g.keep b o (fun z => by rw [hW b z] at e; (first | with_reducible exact no_some e | with_reducible exact some_no e | with_reducible exact no_bool e | with_reducible exact no_bool' e | cases e)) (S.keep b o e), S.off, S.old,
    fun a o e => g.mono a o (fun z => by have q := hW a z; rw [S.old a o e] at q; (first | with_reducible exact no_some q | with_reducible exact some_no q | with_reducible exact no_bool q | with_reducible exact no_bool' q | cases q)) (S.mono a o e), fun a o e => ?_⟩
  refine and2 (g.sub a o e) fun h1 h2 => ?_
  refine ⟨h1, ?_, ?_⟩
  · rcases h2 with h2 | h2
    · refine ex1 (Option.ne_none_iff_exists'.mp h2) fun o' e' => ?_
      exact (S.sub a o' e').2.1
    · rintro rfl
      rw [eL] at h2; (first | with_reducible exact no_some h2 | with_reducible exact some_no h2 | with_reducible exact no_bool h2 | with_reducible exact no_bool' h2 | cases h2)
  · cases z : B a with
    | none => exact .inr rfl
    | some o' =>
      refine .inl ?_
      have n : ¬ W a := fun q => by rw [hW a q] at z; (first | with_reducible exact no_some z | with_reducible exact some_no z | with_reducible exact no_bool z | with_reducible exact no_bool' z | cases z)
      have k1 := g.keep a o' n (S.keep _ _ z)
      rw [h1] at k1; (first | with_reducible exact no_some k1 | with_reducible exact some_no k1 | with_reducible exact no_bool k1 | with_reducible exact no_bool' k1 | cases k1)
      rcases h2 with h2 | h2
      · refine ex1 (Option.ne_none_iff_exists'.mp h2) fun o' e' => ?_
        have k2 := g.mono a o' n e'
        rw [e] at k2; (first | with_reducible exact no_some k2 | with_reducible exact some_no k2 | with_reducible exact no_bool k2 | with_reducible exact no_bool' k2 | cases k2)
        rcases (S.sub a o e').2.2 with q | q
        · exact q
        · rw [q] at z; (first | with_reducible exact no_some z | with_reducible exact some_no z | with_reducible exact no_bool z | with_reducible exact no_bool' z | cases z)
      · rw [S.keep _ _ z] at h2; (first | with_reducible exact no_some h2 | with_reducible exact some_no h2 | with_reducible exact no_bool h2 | with_reducible exact no_bool' h2 | cases h2)
theorem St.grow0 (S : St B G₀ L m G h) (g : Grow No G h G' h') : St B G₀ L m G' h' := S.grow g (fun _ z => z.elim) fun z => z
theorem St.kept (S : St B G₀ L m G h) (k : ∀ b o, h.get? b = some o → h'.get? b = some o) : St B G₀ L m G h' :=
  S.grow0 (.heap (fun a o e => k a o (S.get e)) fun a o _ e => k a o e)
theorem St.push (S : St B G₀ L m G h) (k : ∀ b o, h.get? b = some o → h'.get? b = some o) (o : Obj) (hf : o.isFreed = false := by rfl) :
    St B G₀ L m (put G h'.objs.size o) (h'.push o) := by
  have S' := S.kept k
  have S2 := S'.kept (h' := h'.push o) fun b ob e => Heap.get?_push_of_some _ e
  refine ⟨S2.ns, S2.keep, S.off, S.old, fun b ob e => put_old S'.size b ob (S.mono b ob e), fun b ob e => ?_⟩
  by_cases hb : b = h'.objs.size
  · subst hb
    rw [put_self] at e; (first | with_reducible exact no_some e | with_reducible exact some_no e | with_reducible exact no_bool e | with_reducible exact no_bool' e | cases e)
    exact ⟨Heap.get?_push_size _ hf, Nat.ne_of_gt S'.ns.lt, .inr S'.sizeB⟩
  · rw [put_ne hb] at e
    exact S2.sub b ob e
theorem St.set {o' : Obj} (S : St B G₀ L m G h) (hn : B a = none) (ha : G a = some o) (hs : Heap.SameBut a h h') (ho : h'.get? a = some o') : St B G₀ L m (put G a o') h' := by
  have hL := (S.sub _ _ ha).2.1
  have ne : ∀ b o, B b = some o → b ≠ a := fun b o e q => by rw [q, hn] at e; (first | with_reducible exact no_some e | with_reducible exact some_no e | with_reducible exact no_bool e | with_reducible exact no_bool' e | cases e)
  refine ex3 (id S.ns) fun oL es ep hx6 => ?_
  refine and2 hx6 fun eL r => ?_
  clear hx6
  refine ⟨⟨oL, es, ep, (hs.2 _ (Ne.symm hL)).trans eL, r⟩, fun b o e => (hs.2 b (ne b o e)).trans (S.keep b o e), S.off, S.old, fun b ob e => ?_, fun b ob e => ?_⟩
  · rw [put_ne (ne b ob (S.old b ob e))]; exact S.mono b ob e
  · by_cases hb : b = a
    · subst hb
      rw [put_self] at e
      (first | with_reducible exact no_some e | with_reducible exact some_no e | with_reducible exact no_bool e | with_reducible exact no_bool' e | cases e)
      exact ⟨ho, hL, .inr hn⟩
    · rw [put_ne hb] at e
      refine and3 (S.sub b ob e) fun h1 h2 h3 => ?_
      exact ⟨(hs.2 b hb).trans h1, h2, h3⟩
theorem St.store (S : St B G₀ L m G h) (hn : h'.Ns L m') (hs : Heap.SameBut L h h') : St B G₀ L m' G h' :=
  ⟨hn, fun b o e => (hs.2 b (fun q => by rw [q, S.off] at e; (first | with_reducible exact no_some e | with_reducible exact some_no e | with_reducible exact no_bool e | with_reducible exact no_bool' e | cases e))).trans (S.keep b o e), S.off, S.old, S.mono, fun b o e => ⟨(hs.2 b (S.sub b o e).2.1).trans (S.get e), (S.sub b o e).2⟩⟩
theorem St.less (S : St B G₀ L m G h) (hm : ∀ a o, G₀ a = some o → G' a = some o) (hs : ∀ a o, G' a = some o → G a = some o) : St B G₀ L m G' h :=
  ⟨S.ns, S.keep, S.off, S.old, hm, fun a o e => S.sub a o (hs a o e)⟩
theorem St.more (S : St B G₀ L m G h) (hg : G a = none) (hB : B a = none) (hL : a ≠ L) (ho : h.get? a = some o) : St B G₀ L m (put G a o) h :=
  ⟨S.ns, S.keep, S.off, S.old, fun b ob e => put_old hg b ob (S.mono b ob e), fun b ob e => by
    by_cases hb : b = a
    · subst hb
      rw [put_self] at e; (first | with_reducible exact no_some e | with_reducible exact some_no e | with_reducible exact no_bool e | with_reducible exact no_bool' e | cases e)
      exact ⟨ho, hL, .inr hB⟩
    · rw [put_ne hb] at e
      exact S.sub b ob e⟩

theorem St.again (S : St B G₀ L m G h) (W : Addr → Prop) : St (mask (fun a => W a ∨ a = L) h.get?) (mask W G) L m G h where
  ns := S.ns
  keep := fun b o e => (of_mask e).2
  off := mask_in (.inr rfl)
  old := fun a o e => by
    refine and2 (of_mask e) fun n e => ?_
    rw [mask_out fun z => z.elim n fun q => (S.sub a o e).2.1 q]
    exact S.get e
  mono := fun a o e => (of_mask e).2
  sub := fun a o e => by
    refine ⟨S.get e, (S.sub a o e).2.1, ?_⟩
    by_cases n : W a
    · exact .inr (mask_in (.inl n))
    · exact .inl (by rw [mask_out n]; exact e)
theorem St.outW (S : St (mask (fun a => W a ∨ a = L) h.get?) (mask W G) L m' G' h') (hW : ∀ a, W a → G a ≠ none) (hL : G L = none) : Grow (fun a => W a ∨ a = L) G h G' h' := by
  refine ⟨fun a o n e => S.keep a o (by rw [mask_out n]; exact e), fun a o n e => S.mono a o (by rw [mask_out fun z => n (.inl z)]; exact e), fun a o e => ⟨S.get e, ?_⟩⟩
  rcases (S.sub a o e).2.2 with q | q
  · exact .inl (by rw [(of_mask q).2]; exact Option.some_ne_none _)
  · by_cases n : W a
    · exact .inl (hW a n)
    · rw [mask_out fun z => z.elim n (S.sub a o e).2.1] at q
      exact .inr q
theorem St.back (S : St B G₀ L m G h) (S' : St (mask (fun a => W a ∨ a = L) h.get?) (mask W G) L m' G' h') (hW : ∀ a, W a → B a = none) : St B G₀ L m' G' h' where
  ns := S'.ns
  keep := fun b o e => S'.keep b o (by
    rw [mask_out fun z => z.elim (fun z => by rw [hW b z] at e; (first | with_reducible exact no_some e | with_reducible exact some_no e | with_reducible exact no_bool e | with_reducible exact no_bool' e | cases e)) fun q => by rw [q, S.off] at e; cases e]
    exact S.keep b o e)
  off := S.off
  old := S.old
  mono := fun a o e => S'.mono a o (by
    rw [mask_out fun z => by have q := hW a z; rw [S.old a o e] at q; cases q]
    exact S.mono a o e)
  sub := fun a o e => by
    refine and3 (S'.sub a o e) fun h1 h2 h3 => ?_
    refine ⟨h1, h2, ?_⟩
    rcases h3 with h3 | h3
    · exact (S.sub a o (of_mask h3).2).2.2
    · cases z : B a with
      | none => exact .inr rfl
      | some o' =>
        have n : ¬ W a := fun q => by rw [hW a q] at z; (first | with_reducible exact no_some z | with_reducible exact some_no z | with_reducible exact no_bool z | with_reducible exact no_bool' z | cases z)
        rw [mask_out fun z => z.elim n h2, S.keep _ _ z] at h3
        (first | with_reducible exact no_some h3 | with_reducible exact some_no h3 | with_reducible exact no_bool h3 | with_reducible exact no_bool' h3 | cases h3)
end

structure Bs (K : Frag) (p : Program) (loose : List Str) (mg mb : Str → Option Value) (B : PMap) : Prop where
  ex : ∃ h00 : Heap, K.In h00 ∧ TopRead p loose mg mb h00 ∧ ∀ b o, h00.get? b = some o → B b = some o
section
variable {K : Frag} {p : Program} {loose : List Str} {mg mb : Str → Option Value} {h : Heap} {B B' G₀ G : PMap} {L : Addr} {m : Str → Option Value} {W : Addr → Prop}
theorem Bs.mono (Z : Bs K p loose mg mb B) (k : ∀ b o, B b = some o → B' b = some o) : Bs K p loose mg mb B' :=
  ex1 Z.ex fun h y => ⟨h, y.1, y.2.1, fun b o e => k b o (y.2.2 b o e)⟩
theorem Bs.k (Z : Bs K p loose mg mb B) (k : ∀ b o, B b = some o → h.get? b = some o) : K.In h := ex1 Z.ex fun _ y => y.1.keeps fun b o e => k b o (y.2.2 b o e)
theorem Bs.t (Z : Bs K p loose mg mb B) (k : ∀ b o, B b = some o → h.get? b = some o) : TopRead p loose mg mb h := ex1 Z.ex fun _ y => y.2.1.keeps fun b o e => k b o (y.2.2 b o e)
theorem Bs.at_ (Z : Bs K p loose mg mb B) (S : St B G₀ L m G h) : Bs K p loose mg mb h.get? := Z.mono S.keep
theorem Bs.again (Z : Bs K p loose mg mb B) (S : St B G₀ L m G h) (hW : ∀ a, W a → B a = none) : Bs K p loose mg mb (mask (fun a => W a ∨ a = L) h.get?) :=
  Z.mono fun b o e => by
    rw [mask_out fun z => z.elim (fun z => by rw [hW b z] at e; (first | with_reducible exact no_some e | with_reducible exact some_no e | with_reducible exact no_bool e | with_reducible exact no_bool' e | cases e)) fun q => by rw [q, S.off] at e; cases e]
    exact S.keep b o e
end

structure Ok (n : Nat) (A : Around) : Prop where
  hh : A.handled = none
  depth : A.depth + n < 900
  units : A.units + 24 * n < 9000
theorem Ok.less {n k : Nat} {A : Around} (o : Ok n A) (h : k ≤ n) : Ok k A := ⟨o.hh, by have := o.depth; omega, by have := o.units; omega⟩
theorem Ok.room {n : Nat} {A : Around} (o : Ok n A) : A.depth < recursionLimit := by have := o.depth; show _ < 1000; omega
theorem Ok.c {n : Nat} {A : Around} (o : Ok n A) : A.units < cLine := by have := o.units; show _ < 9900; omega
theorem Ok.deeper {n : Nat} {A : Around} {env : Env} (o : Ok (n + 1) A) : Ok n (A.deeper env) :=
  ⟨o.hh, by have := o.depth; show A.depth + 1 + n < 900; omega, by have := o.units; show A.units + 3 + _ < 9000; omega⟩
theorem Ok.in1 {n : Nat} {A : Around} (o : Ok (n + 1) A) : Ok n A.in1 :=
  ⟨o.hh, by have := o.depth; show A.depth + n < 900; omega, by have := o.units; show A.units + 1 + _ < 9000; omega⟩

noncomputable def retOf : Flow → Value
  | .ret v => v
  | _ => .none

section
variable {prog : Program} {w : World} {A : Around} {E : Value → Shared → Prop} {s : Shared} {K : Frag} {p : Program} {loose : List Str} {mg mb : Str → Option Value}

theorem never {α : Type} {t : Sem α} {Q : α → Shared → Prop} {X : Value → Shared → Prop} (h : wpAny (model prog w) A t Q (fun _ _ => False) s) :
    wpAny (model prog w) A t Q X s := wpAny_mono h (fun _ _ x => x) fun _ _ x => x.elim

theorem enterW (W : Addr → Prop) {G : PMap} {name qual : Str} {params : Arguments} {body : List Stmt} {scope : Scope} {dV kV doc pm cdv ct oc : Value} {an od : Option Addr} {osl : Array (Option Value)} {f : Addr} {args : List Value} {binds : List (Str × Value)} {m : Str → Option Value} {Q : Value → Shared → Prop}
    (hr : A.depth < recursionLimit) (Z : Bs K p loose mg mb (mask W s.heap.get?)) (hG : ∀ a o, G a = some o → s.heap.get? a = some o)
    (ho : K.lookup f = some ⟨oc, od, .func (fnX name qual params body scope [] dV kV doc pm an cdv ct), osl⟩) (hcd : codeIn K cdv qual = true)
    (hbind : BindsTo s (fnX name qual params body scope [] dV kV doc pm an cdv ct) ⟨args, []⟩ binds) (hloc : ∀ y ∈ binds, scope.names.lookup y.1 = some .local)
    (hcell : ∀ x ∈ scope.names, x.2 ≠ .cell) (hm : (fun y => binds.reverse.lookup y) = m)
    (h : ∀ L h₁ tk, St (mask (fun a => W a ∨ a = L) h₁.get?) (mask W G) L m G h₁ → Bs K p loose mg mb (mask (fun a => W a ∨ a = L) h₁.get?) → G L = none → s.heap.get? L = none → (∀ b o, s.heap.get? b = some o → h₁.get? b = some o) →
      wpAny (model prog w) (A.deeper (envX qual scope L f cdv [])) (execs body (envX qual scope L f cdv [])) (fun fl s' => Q (retOf fl) s') (fun _ _ => False) { s with heap := h₁, toks := tk })
    (hco : scope.isCoroutine = false) (hgen : scope.isGenerator = false) (hk : scope.kind = .function) :
    wpAny (model prog w) A (call (.ref f) args) Q E s := by
  subst hm
  have k0 : ∀ b o, mask W s.heap.get? b = some o → s.heap.get? b = some o := fun b o e => (of_mask e).2
  refine wpAny_call ?_
  refine codeAny_call_function hr (Z.k k0 _ _ ho) rfl hco hgen rfl (codeRec_of (Z.k k0) hcd) (hbind _ _ _ _ ?_)
  refine wpAny_newFunctionEnv hcell hloc (fun h₁ hns hsb => ⟨(Z.t k0).nolimit.fresh _ hsb, ?_⟩) hk
  have up : ∀ b o, s.heap.get? b = some o → h₁.get? b = some o := fun b o e => hsb.extBut b o (Nat.ne_of_lt (Heap.lt_size e)) (Heap.get?_push_of_some _ e)
  have gL : G s.heap.objs.size = none := by
    cases e : G s.heap.objs.size with
    | none => rfl
    | some o => exact absurd (Heap.lt_size (hG _ _ e)) (Nat.lt_irrefl _)
  have S0 : St (fun _ => none) (fun _ => none) s.heap.objs.size (fun x => binds.reverse.lookup x) G h₁ :=
    ⟨hns, (fun _ _ e => by (first | with_reducible exact no_some e | with_reducible exact some_no e | with_reducible exact no_bool e | with_reducible exact no_bool' e | cases e)), rfl, (fun _ _ e => by (first | with_reducible exact no_some e | with_reducible exact some_no e | with_reducible exact no_bool e | with_reducible exact no_bool' e | cases e)), (fun _ _ e => by (first | with_reducible exact no_some e | with_reducible exact some_no e | with_reducible exact no_bool e | with_reducible exact no_bool' e | cases e)), fun a o e => ⟨up _ _ (hG a o e), Nat.ne_of_lt (Heap.lt_size (hG a o e)), .inr rfl⟩⟩
  refine codeAny_func (wpAny_mono (h s.heap.objs.size h₁ _ (S0.again W) (Z.mono fun b o e => ?_) gL no_size up) (fun fl s' q => ?_) fun _ _ x => x.elim)
  · refine and2 (of_mask e) fun n e => ?_
    rw [mask_out fun z => z.elim n fun q => by rw [q, no_size] at e; cases e]
    exact up b o e
  · cases fl <;> exact q

noncomputable def cellsAt (cl : List (Str × Addr)) (cm : Str → Option Value) (G : PMap) : Prop := ∀ x c, cl.lookup x = some c → ∃ o, G c = some o ∧ o.data = .cell (cm x)

theorem mem_of_look {y : Str} {c : Addr} : ∀ {l : List (Str × Addr)}, l.lookup y = some c → (y, c) ∈ l
  | [], h => by (first | with_reducible exact no_some h | with_reducible exact some_no h | with_reducible exact no_bool h | with_reducible exact no_bool' h | cases h)
  | (z, d) :: l, h => by
    rw [List.lookup_cons] at h
    cases q : y == z with
    | true => rw [q] at h; cases h; rw [eq_of_beq q]; exact List.mem_cons_self
    | false => rw [q] at h; exact List.mem_cons_of_mem _ (mem_of_look h)
open Classical in
theorem enterC (W : Addr → Prop) {G : PMap} {name qual : Str} {params : Arguments} {body : List Stmt} {scope : Scope} {dV kV doc pm cdv ct oc : Value} {an od : Option Addr} {osl : Array (Option Value)} {f : Addr} {args : List Value} {binds : List (Str × Value)} {m cm : Str → Option Value} {Q : Value → Shared → Prop}
    (hr : A.depth < recursionLimit) (Z : Bs K p loose mg mb (mask W s.heap.get?)) (hG : ∀ a o, G a = some o → s.heap.get? a = some o) (hWG : ∀ a, W a → G a ≠ none)
    (ho : K.lookup f = some ⟨oc, od, .func (fnX name qual params body scope [] dV kV doc pm an cdv ct), osl⟩) (hcd : codeIn K cdv qual = true)
    (hbind : BindsTo s (fnX name qual params body scope [] dV kV doc pm an cdv ct) ⟨args, []⟩ binds) (hkind : (binds.all fun y => scope.names.lookup y.1 == some .local || scope.names.lookup y.1 == some .cell) = true)
    (hnd : ((cellsFrom 0 scope.names []).map (·.1)).Nodup) (hm : ∀ L, bindL (envOfC qual scope L f cdv).kindOf binds (fun _ => none) = m) (hcm : ∀ L, bindC (envOfC qual scope L f cdv).kindOf binds (fun _ => none) = cm)
    (h : ∀ L h₁ tk G₁, (∀ a o, G a = some o → G₁ a = some o) → (∀ a o, G₁ a = some o → G a = some o ∨ s.heap.get? a = none) → cellsAt (cellsFrom (L + 1) scope.names []) cm G₁ →
      St (mask (fun a => W a ∨ a = L) h₁.get?) (mask W G₁) L m G₁ h₁ → Bs K p loose mg mb (mask (fun a => W a ∨ a = L) h₁.get?) → G₁ L = none → s.heap.get? L = none → (∀ b o, s.heap.get? b = some o → h₁.get? b = some o) →
      wpAny (model prog w) (A.deeper (envX qual scope L f cdv (cellsFrom (L + 1) scope.names []))) (execs body (envX qual scope L f cdv (cellsFrom (L + 1) scope.names []))) (fun fl s' => Q (retOf fl) s') (fun _ _ => False) { s with heap := h₁, toks := tk })
    (hco : scope.isCoroutine = false) (hgen : scope.isGenerator = false) (hk : scope.kind = .function) :
    wpAny (model prog w) A (call (.ref f) args) Q E s := by
  have k0 : ∀ b o, mask W s.heap.get? b = some o → s.heap.get? b = some o := fun b o e => (of_mask e).2
  refine wpAny_call ?_
  refine codeAny_call_function hr (Z.k k0 _ _ ho) rfl hco hgen rfl (codeRec_of (Z.k k0) hcd) (hbind _ _ _ _ ?_)
  refine wpAny_newFunctionEnv_cells hk (kindsX hkind _) fun env' he s' x => ?_
  subst he
  refine ⟨(Z.t k0).nolimit.keeps x.toInCall.keep, codeAny_func ?_⟩
  refine ex2 (x.done) fun h₁ tk hx11 => ?_
  refine and2 hx11 fun er11_2 _ => ?_
  clear hx11
  subst er11_2
  have up : ∀ b o, s.heap.get? b = some o → h₁.get? b = some o := x.toInCall.keep
  have hns : h₁.Ns s.heap.objs.size m := by have := x.toInCall.ns; rw [← hm s.heap.objs.size]; exact this
  let isC : Addr → Prop := fun a => ∃ y, (cellsFrom (s.heap.objs.size + 1) scope.names []).lookup y = some a
  let G₁ : PMap := fun a => if isC a then h₁.get? a else G a
  have above : ∀ a, isC a → s.heap.objs.size < a := fun a ⟨y, e⟩ => x.above y a (mem_of_look e)
  have ltG : ∀ a o, G a = some o → a < s.heap.objs.size := fun a o e => Heap.lt_size (hG a o e)
  have g1 : ∀ a o, G a = some o → G₁ a = some o := fun a o e => by
    show (if isC a then h₁.get? a else G a) = some o
    rw [if_neg fun z => absurd (ltG a o e) (Nat.not_lt.mpr (Nat.le_of_lt (above a z)))]; exact e
  have g2 : ∀ a o, G₁ a = some o → (isC a ∧ h₁.get? a = some o) ∨ (¬ isC a ∧ G a = some o) := fun a o e => by
    by_cases z : isC a
    · refine .inl ⟨z, ?_⟩
      have : G₁ a = h₁.get? a := if_pos z
      rw [← this]; exact e
    · refine .inr ⟨z, ?_⟩
      have : G₁ a = G a := if_neg z
      rw [← this]; exact e
  have high : ∀ a, s.heap.objs.size ≤ a → s.heap.get? a = none := fun a ha => by
    cases e : s.heap.get? a with
    | none => rfl
    | some o' => exact absurd (Heap.lt_size e) (Nat.not_lt.mpr ha)
  have S0 : St (fun _ => none) (fun _ => none) s.heap.objs.size m G₁ h₁ := by
    refine ⟨hns, (fun _ _ e => by (first | with_reducible exact no_some e | with_reducible exact some_no e | with_reducible exact no_bool e | with_reducible exact no_bool' e | cases e)), rfl, (fun _ _ e => by (first | with_reducible exact no_some e | with_reducible exact some_no e | with_reducible exact no_bool e | with_reducible exact no_bool' e | cases e)), (fun _ _ e => by (first | with_reducible exact no_some e | with_reducible exact some_no e | with_reducible exact no_bool e | with_reducible exact no_bool' e | cases e)), fun a o e => ?_⟩
    rcases g2 a o e with ⟨z, e⟩ | ⟨_, e⟩
    · exact ⟨e, Nat.ne_of_gt (above a z), .inr rfl⟩
    · exact ⟨up _ _ (hG a o e), Nat.ne_of_lt (ltG a o e), .inr rfl⟩
  refine wpAny_mono (h s.heap.objs.size h₁ _ G₁ g1 (fun a o e => (g2 a o e).symm.imp (·.2) fun z => high a (Nat.le_of_lt (above a z.1))) (fun y c e => ?_) (S0.again W) (Z.mono fun b o e => ?_) S0.noL no_size up) (fun fl s' q => ?_) fun _ _ x => x.elim
  · refine ex1 (x.cell y c e) fun o hx12 => ?_
    refine and2 hx12 fun e1 e2 => ?_
    clear hx12
    refine ⟨o, ?_, ?_⟩
    · show (if isC c then h₁.get? c else G c) = some o
      rw [if_pos ⟨y, e⟩]; exact e1
    · rw [e2, ← hcm s.heap.objs.size]; rfl
  · refine and2 (of_mask e) fun n e => ?_
    rw [mask_out fun z => z.elim n fun q => by rw [q, no_size] at e; cases e]
    exact up b o e
  · cases fl <;> exact q
end
theorem exit_ {W : Addr → Prop} {G G₁ G' : PMap} {h h₁ h' : Heap} {L : Addr} (g : Grow (fun a => W a ∨ a = L) G₁ h₁ G' h') (up : ∀ b o, h.get? b = some o → h₁.get? b = some o) (hL : h.get? L = none)
    (hs : ∀ a o, G a = some o → h.get? a = some o) (g1 : ∀ a o, G a = some o → G₁ a = some o) (g2 : ∀ a o, G₁ a = some o → G a = some o ∨ h.get? a = none) : Grow W G h G' h' := by
  have nL : ∀ a o, h.get? a = some o → a ≠ L := fun a o e q => by rw [q, hL] at e; (first | with_reducible exact no_some e | with_reducible exact some_no e | with_reducible exact no_bool e | with_reducible exact no_bool' e | cases e)
  refine ⟨fun a o n e => g.keep a o (fun z => z.elim n (nL a o e)) (up a o e), fun a o n e => g.mono a o (fun z => z.elim n (nL a o (hs a o e))) (g1 a o e), fun a o e => ⟨(g.sub a o e).1, ?_⟩⟩
  rcases (g.sub a o e).2 with q | q
  · refine ex1 (Option.ne_none_iff_exists'.mp q) fun o' e' => ?_
    exact (g2 a o' e').imp (fun z => by rw [z]; exact Option.some_ne_none _) id
  · refine .inr ?_
    cases z : h.get? a with
    | none => rfl
    | some o' => rw [up a o' z] at q; (first | with_reducible exact no_some q | with_reducible exact some_no q | with_reducible exact no_bool q | with_reducible exact no_bool' q | cases q)
theorem exit0 {W : Addr → Prop} {G G' : PMap} {h h₁ h' : Heap} {L : Addr} {m : Str → Option Value} (S' : St (mask (fun a => W a ∨ a = L) h₁.get?) (mask W G) L m G' h') (up : ∀ b o, h.get? b = some o → h₁.get? b = some o) (hL : h.get? L = none)
    (hs : ∀ a o, G a = some o → h.get? a = some o) (hW : ∀ a, W a → G a ≠ none) (gL : G L = none) : Grow W G h G' h' :=
  exit_ (S'.outW hW gL) up hL hs (fun _ _ e => e) fun _ _ e => .inl e
theorem st_of_grow {W : Addr → Prop} {B G₀ G G' : PMap} {L : Addr} {m m' : Str → Option Value} {h h' : Heap} (S : St B G₀ L m G h) (g : Grow (fun a => W a ∨ a = L) G h G' h') (hn : h'.Ns L m') (uL : G' L = none) (hWB : ∀ a, W a → B a = none) : St B G₀ L m' G' h' := by
  have nb : ∀ b o, B b = some o → ¬ (W b ∨ b = L) := fun b o e z => z.elim (fun z => by rw [hWB b z] at e; (first | with_reducible exact no_some e | with_reducible exact some_no e | with_reducible exact no_bool e | with_reducible exact no_bool' e | cases e)) fun q => by rw [q, S.off] at e; (first | with_reducible exact no_some e | with_reducible exact some_no e | with_reducible exact no_bool e | with_reducible exact no_bool' e | cases e)
  refine ⟨hn, fun b o e => g.keep b o (nb b o e) (S.keep b o e), S.off, S.old, fun a o e => g.mono a o (nb a o (S.old a o e)) (S.mono a o e), fun a o e => ?_⟩
  refine and2 (g.sub a o e) fun h1 h2 => ?_
  have nL : a ≠ L := fun q => by rw [q, uL] at e; (first | with_reducible exact no_some e | with_reducible exact some_no e | with_reducible exact no_bool e | with_reducible exact no_bool' e | cases e)
  refine ⟨h1, nL, ?_⟩
  cases z : B a with
  | none => exact .inr rfl
  | some o' =>
    refine .inl ?_
    have n := nb a o' z
    have k1 := g.keep a o' n (S.keep _ _ z)
    rw [h1] at k1; (first | with_reducible exact no_some k1 | with_reducible exact some_no k1 | with_reducible exact no_bool k1 | with_reducible exact no_bool' k1 | cases k1)
    rcases h2 with h2 | h2
    · refine ex1 (Option.ne_none_iff_exists'.mp h2) fun o' e' => ?_
      have k2 := g.mono a o' n e'
      rw [e] at k2; (first | with_reducible exact no_some k2 | with_reducible exact some_no k2 | with_reducible exact no_bool k2 | with_reducible exact no_bool' k2 | cases k2)
      rcases (S.sub a o e').2.2 with q | q
      · exact q
      · rw [q] at z; (first | with_reducible exact no_some z | with_reducible exact some_no z | with_reducible exact no_bool z | with_reducible exact no_bool' z | cases z)
    · rw [S.keep _ _ z] at h2; (first | with_reducible exact no_some h2 | with_reducible exact some_no h2 | with_reducible exact no_bool h2 | with_reducible exact no_bool' h2 | cases h2)

structure Fx where
  g : Array GenState
  d : Drawn
  os : OsState
abbrev Fx.at (c : Fx) (h : Heap) (t : Nat) : Shared := ⟨h, c.g, c.d, t, c.os⟩

end
section
noncomputable def upd (m : Str → Option Value) (x : Str) (v : Value) : Str → Option Value := fun y => if y = x then some v else m y
theorem upd_here {m : Str → Option Value} {x : Str} {v : Value} : upd m x v x = some v := if_pos rfl
theorem upd_there {m : Str → Option Value} {x y : Str} {v u : Value} (hm : m y = some u) (hn : decide (y = x) = false) : upd m x v y = some u := by
  unfold upd; rw [if_neg (of_decide_eq_false hn)]; exact hm
section
variable {m : Str → Option Value} {x x1 x2 x3 x4 x5 x6 x7 x8 : Str} {v v1 v2 v3 v4 v5 v6 v7 v8 : Value}
theorem uh1 (hn : decide (x = x1) = false) : upd (upd m x v) x1 v1 x = some v := upd_there upd_here hn
theorem uh2 (hn : (decide (x = x1) || decide (x = x2)) = false) : upd (upd (upd m x v) x1 v1) x2 v2 x = some v := have h := Bool.or_eq_false_iff.mp hn; upd_there (uh1 h.1) h.2
theorem uh3 (hn : ((decide (x = x1) || decide (x = x2)) || decide (x = x3)) = false) : upd (upd (upd (upd m x v) x1 v1) x2 v2) x3 v3 x = some v := have h := Bool.or_eq_false_iff.mp hn; upd_there (uh2 h.1) h.2
theorem uh4 (hn : (((decide (x = x1) || decide (x = x2)) || decide (x = x3)) || decide (x = x4)) = false) : upd (upd (upd (upd (upd m x v) x1 v1) x2 v2) x3 v3) x4 v4 x = some v := have h := Bool.or_eq_false_iff.mp hn; upd_there (uh3 h.1) h.2
theorem uh5 (hn : ((((decide (x = x1) || decide (x = x2)) || decide (x = x3)) || decide (x = x4)) || decide (x = x5)) = false) : upd (upd (upd (upd (upd (upd m x v) x1 v1) x2 v2) x3 v3) x4 v4) x5 v5 x = some v := have h := Bool.or_eq_false_iff.mp hn; upd_there (uh4 h.1) h.2
theorem uh6 (hn : (((((decide (x = x1) || decide (x = x2)) || decide (x = x3)) || decide (x = x4)) || decide (x = x5)) || decide (x = x6)) = false) : upd (upd (upd (upd (upd (upd (upd m x v) x1 v1) x2 v2) x3 v3) x4 v4) x5 v5) x6 v6 x = some v := have h := Bool.or_eq_false_iff.mp hn; upd_there (uh5 h.1) h.2
theorem uh7 (hn : ((((((decide (x = x1) || decide (x = x2)) || decide (x = x3)) || decide (x = x4)) || decide (x = x5)) || decide (x = x6)) || decide (x = x7)) = false) : upd (upd (upd (upd (upd (upd (upd (upd m x v) x1 v1) x2 v2) x3 v3) x4 v4) x5 v5) x6 v6) x7 v7 x = some v := have h := Bool.or_eq_false_iff.mp hn; upd_there (uh6 h.1) h.2
theorem uh8 (hn : (((((((decide (x = x1) || decide (x = x2)) || decide (x = x3)) || decide (x = x4)) || decide (x = x5)) || decide (x = x6)) || decide (x = x7)) || decide (x = x8)) = false) : upd (upd (upd (upd (upd (upd (upd (upd (upd m x v) x1 v1) x2 v2) x3 v3) x4 v4) x5 v5) x6 v6) x7 v7) x8 v8 x = some v := have h := Bool.or_eq_false_iff.mp hn; upd_there (uh7 h.1) h.2
theorem ua1 (hm : m x = some v) (hn : decide (x = x1) = false) : upd (m) x1 v1 x = some v := upd_there hm hn
theorem ua2 (hm : m x = some v) (hn : (decide (x = x1) || decide (x = x2)) = false) : upd (upd (m) x1 v1) x2 v2 x = some v := have h := Bool.or_eq_false_iff.mp hn; upd_there (ua1 hm h.1) h.2
theorem ua3 (hm : m x = some v) (hn : ((decide (x = x1) || decide (x = x2)) || decide (x = x3)) = false) : upd (upd (upd (m) x1 v1) x2 v2) x3 v3 x = some v := have h := Bool.or_eq_false_iff.mp hn; upd_there (ua2 hm h.1) h.2
theorem ua4 (hm : m x = some v) (hn : (((decide (x = x1) || decide (x = x2)) || decide (x = x3)) || decide (x = x4)) = false) : upd (upd (upd (upd (m) x1 v1) x2 v2) x3 v3) x4 v4 x = some v := have h := Bool.or_eq_false_iff.mp hn; upd_there (ua3 hm h.1) h.2
end
noncomputable def none_ : Str → Option Value := fun _ => none
theorem lk {z x : Str} {v : Value} {l : List (Str × Value)} : List.lookup z ((x, v) :: l) = if z = x then some v else List.lookup z l := by
  rw [List.lookup_cons]
  by_cases h : z = x
  · subst h; simp
  · rw [beq_false_of_ne h]; simp [h]
theorem binds0 : (fun y => ([] : List (Str × Value)).reverse.lookup y) = none_ := rfl
theorem binds1 {x : Str} {v : Value} : (fun y => [(x, v)].reverse.lookup y) = upd none_ x v := by
  funext y
  simp only [List.reverse_cons, List.reverse_nil, List.nil_append, lk, upd, none_, List.lookup_nil]
theorem binds2 {x y : Str} {u v : Value} : (fun z => [(x, u), (y, v)].reverse.lookup z) = upd (upd none_ x u) y v := by
  funext z
  simp only [List.reverse_cons, List.reverse_nil, List.nil_append, List.cons_append, lk, upd, none_, List.lookup_nil]
theorem binds3 {x y t : Str} {u v r : Value} : (fun z => [(x, u), (y, v), (t, r)].reverse.lookup z) = upd (upd (upd none_ x u) y v) t r := by
  funext z
  simp only [List.reverse_cons, List.reverse_nil, List.nil_append, List.cons_append, lk, upd, none_, List.lookup_nil]

section
variable {M : Model} {prog : Program} {w : World} {A : Around} {E : Value → Shared → Prop} {c : Fx} {h : Heap} {t : Nat} {K : Frag} {p : Program} {loose : List Str} {mg mb m : Str → Option Value} {B G₀ G : PMap} {L ca : Addr} {env : Env} {v : Value} {o : Obj} {x : Str} {pos : Pos} {Q : Value → Shared → Prop}
theorem nL (S : St B G₀ L m G h) (hv : m x = some v) (q : Q v (c.at h t)) (hL : env.locals = L := by kernel_rfl) (hk : env.scope.kind = .function := by kernel_rfl) (hl : env.kindOf x = some .local := by kernel_rfl)
    (hd : (x == ("__debug__" : Str)) = false := by kernel_rfl) : wpAny M A (eval (.Name x pos) env) Q E (c.at h t) := wpAny_Name (wpAny_loadName_local hk hl (hL ▸ S.ns) hv q) hd
theorem nC (S : St B G₀ L m G h) (hc : G ca = some o) (hv : o.data = .cell (some v)) (q : Q v (c.at h t)) (hl : env.cells.lookup x = some ca := by kernel_rfl) (hk : env.scope.kind = .function := by kernel_rfl) (hx : env.kindOf x = some .cell := by kernel_rfl)
    (hd : (x == ("__debug__" : Str)) = false := by kernel_rfl) : wpAny M A (eval (.Name x pos) env) Q E (c.at h t) := wpAny_Name (wpAny_loadName_cell hk hx hl ⟨o, S.get hc, hv⟩ q) hd
theorem nK (S : St B G₀ L m G h) (Z : Bs K p loose mg mb B) (e : nsIn K mainGlobals x = some (some v)) (q : Q v (c.at h t)) (hg : env.globals = mainGlobals := by kernel_rfl) (hk : env.scope.kind = .function := by kernel_rfl) (hl : env.kindOf x = some .globalImplicit := by kernel_rfl)
    (hd : (x == ("__debug__" : Str)) = false := by kernel_rfl) : wpAny M A (eval (.Name x pos) env) Q E (c.at h t) :=
  have T := Z.t S.keep
  Name_function_global hk hl (loadGlobal_global (env := env) (hg ▸ T.g) (mg_of (Z.k S.keep) T.g e) q) hd
theorem nB (S : St B G₀ L m G h) (Z : Bs K p loose mg mb B) (hv : bootBuiltins x = some v) (e : nsIn K mainGlobals x = some none) (q : Q v (c.at h t)) (hn : decide (x = "__name__") = false := by kernel_rfl) (hg : env.globals = mainGlobals := by kernel_rfl) (hb : env.builtins = builtinsNs := by kernel_rfl)
    (hk : env.scope.kind = .function := by kernel_rfl) (hl : env.kindOf x = some .globalImplicit := by kernel_rfl)
    (hd : (x == ("__debug__" : Str)) = false := by kernel_rfl) : wpAny M A (eval (.Name x pos) env) Q E (c.at h t) :=
  have T := Z.t S.keep
  Name_function_global hk hl (loadGlobal_builtin (env := env) (hg ▸ T.g) (mg_none_of (Z.k S.keep) T.g e) (hb ▸ T.b) ((T.builtins x (of_decide_eq_false hn)).trans hv) q) hd
theorem sL (S : St B G₀ L m G h) {Q : Unit → Shared → Prop} (q : ∀ h' t', St B G₀ L (upd m x v) G h' → Q () (c.at h' t')) (hL : env.locals = L := by kernel_rfl) (hk : env.scope.kind = .function := by kernel_rfl)
    (hl : env.kindOf x = some .local := by kernel_rfl) : wpAny M A (storeName env x v) Q E (c.at h t) := by
  subst hL
  exact wpAny_storeName_local (s := c.at h t) hl S.ns (fun h' hn hs => q h' _ (S.store hn hs)) (by rw [hk]; rfl)
theorem c_str {y : Str} {k : Nat} (q : ∀ u t', Q (.str y u) (c.at h t')) : wpAny (model prog w) A (eval (.Constant (.str y) k pos) env) Q E (c.at h t) := wpAny_Constant_str (q _ _)
theorem c_int {i : Int} {k : Nat} (q : ∀ u t', Q (.int i u) (c.at h t')) : wpAny (model prog w) A (eval (.Constant (.int i) k pos) env) Q E (c.at h t) := wpAny_Constant_int (q _ _)
theorem c_none {k : Nat} (q : Q .none (c.at h t)) : wpAny (model prog w) A (eval (.Constant .none k pos) env) Q E (c.at h t) := wpAny_Constant_none q
theorem c_bool {b : Bool} {k : Nat} (q : Q (.bool b) (c.at h t)) : wpAny (model prog w) A (eval (.Constant (.bool b) k pos) env) Q E (c.at h t) := wpAny_Constant_bool q
end
section
variable {prog : Program} {w : World} {A : Around} {E : Value → Shared → Prop} {s : Shared} {c : Fx} {h : Heap} {t : Nat} {K : Frag} {env : Env} {rest body orelse : List Stmt} {Q : Flow → Shared → Prop} {QV : Value → Shared → Prop} {QB : Bool → Shared → Prop}

theorem x_assign {x : Str} {p' pos : Pos} {value : Expr}
    (q : wpAny (model prog w) A (eval value env) (fun v s₁ => wpAny (model prog w) A (storeName env x v) (fun _ s₂ => wpAny (model prog w) A (execs rest env) Q E s₂) E s₁) E s)
    (hsw : swapsWith value (some (.Name x p')) pos.line env = pure false := by kernel_rfl) :
    wpAny (model prog w) A (execs (.Assign [.Name x p'] value pos :: rest) env) Q E s :=
  wpAny_execs_cons (wpAny_Assign_Name q hsw)
theorem x_return {e : Expr} {pos : Pos} (q : wpAny (model prog w) A (eval e env) (fun v => Q (.ret v)) E s) : wpAny (model prog w) A (execs (.Return (some e) pos :: rest) env) Q E s :=
  wpAny_execs_cons (wpAny_Return_some q)
theorem x_nil (q : Q .next s) : wpAny (model prog w) A (execs [] env) Q E s := wpAny_execs_nil q
theorem iteT {b : Bool} {a d : Prop} {i : Decidable (b = true)} (e : b = true) (q : a) : @ite _ (b = true) i a d := by rw [if_pos e]; exact q
theorem iteF {b : Bool} {a d : Prop} {i : Decidable (b = true)} (e : b = false) (q : d) : @ite _ (b = true) i a d := by rw [if_neg (by rw [e]; exact Bool.false_ne_true)]; exact q
theorem ifT {a b : Prop} {i : Decidable (true = true)} (q : a) : @ite _ (true = true) i a b := by rw [if_pos rfl]; exact q
theorem ifF {a b : Prop} {i : Decidable (false = true)} (q : b) : @ite _ (false = true) i a b := by rw [if_neg Bool.false_ne_true]; exact q
theorem iteB {b : Bool} {a d : Prop} {i : Decidable (b = true)} (x : b = true → a) (y : b = false → d) : @ite _ (b = true) i a d := by
  cases b with
  | true => exact ifT (x rfl)
  | false => exact ifF (y rfl)
theorem x_ifR {test e : Expr} {pos p2 : Pos}
    (q : wpAny (model prog w) A (isTrue test env (eval test env)) (fun b s₂ => if b = true then wpAny (model prog w) A (eval e env) (fun v => Q (.ret v)) E s₂ else wpAny (model prog w) A (execs rest env) Q E s₂) E s) :
    wpAny (model prog w) A (execs (.If test [.Return (some e) p2] [] pos :: rest) env) Q E s := by
  refine wpAny_execs_cons (wpAny_If (wpAny_mono q (fun b s₂ q => ?_) fun _ _ x => x))
  cases b with
  | true => exact wpAny_execs_cons (wpAny_Return_some (by simpa using q))
  | false => exact wpAny_execs_nil (by simpa using q)
noncomputable def Then (prog : Program) (w : World) (A : Around) (rest : List Stmt) (env : Env) (Q : Flow → Shared → Prop) (E : Value → Shared → Prop) : Flow → Shared → Prop
  | .next, s => wpAny (model prog w) A (execs rest env) Q E s
  | f, s => Q f s
theorem then_next (q : wpAny (model prog w) A (execs rest env) Q E s) : Then prog w A rest env Q E .next s := q
theorem then_ret {v : Value} (q : Q (.ret v) s) : Then prog w A rest env Q E (.ret v) s := q
theorem x_if {test : Expr} {pos : Pos}
    (q : wpAny (model prog w) A (isTrue test env (eval test env)) (fun b s₂ => if b = true then wpAny (model prog w) A (execs body env) (Then prog w A rest env Q E) E s₂ else wpAny (model prog w) A (execs orelse env) (Then prog w A rest env Q E) E s₂) E s) :
    wpAny (model prog w) A (execs (.If test body orelse pos :: rest) env) Q E s := by
  have e : ∀ (f : Flow) (s' : Shared), Then prog w A rest env Q E f s' → (match f with | .next => wpAny (model prog w) A (execs rest env) Q E s' | f => Q f s') := by
    intro f s' z; cases f <;> exact z
  refine wpAny_execs_cons (wpAny_If (wpAny_mono q (fun b s₂ q => ?_) fun _ _ x => x))
  cases b with
  | true => exact wpAny_mono (by simpa using q) e fun _ _ x => x
  | false => exact wpAny_mono (by simpa using q) e fun _ _ x => x
theorem x_expr {e : Expr} {pos : Pos} (q : wpAny (model prog w) A (eval e env) (fun _ s₂ => wpAny (model prog w) A (execs rest env) Q E s₂) E s)
    (hi : interactive env = false := by kernel_rfl) (hs : swapsWith e none pos.line env = pure false := by kernel_rfl) : wpAny (model prog w) A (execs (.Expr e pos :: rest) env) Q E s :=
  wpAny_execs_cons (wpAny_Expr_any q hi hs)
theorem x_setItem {o i value : Expr} {p' pos : Pos} (q : wpAny (model prog w) A (eval value env) (fun v s₁ => wpAny (model prog w) A (eval o env) (fun ov s₂ => wpAny (model prog w) A (eval i env) (fun iv s₃ =>
      wpAny (model prog w) A (setItem ov iv v) (fun _ s₄ => wpAny (model prog w) A (execs rest env) Q E s₄) E s₃) E s₂) E s₁) E s)
    (hs : swapsWith value (some (.Subscript o i p')) pos.line env = pure false := by kernel_rfl) : wpAny (model prog w) A (execs (.Assign [.Subscript o i p'] value pos :: rest) env) Q E s :=
  wpAny_execs_cons (wpAny_Assign_Subscript q hs)
theorem x_setAttr {o value : Expr} {attr : Str} {p' pos : Pos} (q : wpAny (model prog w) A (eval value env) (fun v s₁ => wpAny (model prog w) A (eval o env) (fun ov s₂ => wpAny (model prog w) A (setAttr ov attr v) (fun _ s₄ => wpAny (model prog w) A (execs rest env) Q E s₄) E s₂) E s₁) E s)
    (hs : swapsWith value (some (.Attribute o attr p')) pos.line env = pure false := by kernel_rfl) : wpAny (model prog w) A (execs (.Assign [.Attribute o attr p'] value pos :: rest) env) Q E s :=
  wpAny_execs_cons (plainObj_wpAny_Assign_Attribute q hs)

theorem callF {f : Str} {fp pos : Pos} {e : Expr} {es : List Expr} {a : Value} (hk : keepIn K a = true)
    (q : wpAny (model prog w) A (eval (.Name f fp) env) (fun v s₁ => v = a ∧ K.In s₁.heap ∧ wpAny (model prog w) A (spliced (backTo pos (starEach (e :: es) env))) (fun vs s₂ => K.In s₂.heap ∧ wpAny (model prog w) A (call a vs) QV E s₂) E s₁) E s)
    (h1 : starEach (e :: es) env = (false, eval e env) :: starEach es env := by kernel_rfl) (h2 : (backTo pos (starEach es env)).any (·.1) = false := by kernel_rfl) :
    wpAny (model prog w) A (eval (.Call (.Name f fp) (e :: es) [] pos) env) QV E s :=
  Call_ (wpAny_mono q (fun v s₁ x => by obtain ⟨rfl, X, y⟩ := x; exact callWith_K X hk (by simpa using y) h1 h2) fun _ _ x => x)
theorem callB {f : Str} {fp pos : Pos} {e : Expr} {es : List Expr} {id : String}
    (q : wpAny (model prog w) A (eval (.Name f fp) env) (fun v s₁ => v = .builtin id ∧ wpAny (model prog w) A (spliced (backTo pos (starEach (e :: es) env))) (fun vs s₂ => wpAny (model prog w) A (call (.builtin id) vs) QV E s₂) E s₁) E s)
    (h1 : starEach (e :: es) env = (false, eval e env) :: starEach es env := by kernel_rfl) (h2 : (backTo pos (starEach es env)).any (·.1) = false := by kernel_rfl) :
    wpAny (model prog w) A (eval (.Call (.Name f fp) (e :: es) [] pos) env) QV E s :=
  Call_ (wpAny_mono q (fun v s₁ x => by obtain ⟨rfl, y⟩ := x; exact PyProof.Rows.callWith_builtin1 y h1 h2) fun _ _ x => x)
theorem callT {f : Str} {fp pos : Pos} {e : Expr} {es : List Expr} {T : String}
    (q : wpAny (model prog w) A (eval (.Name f fp) env) (fun v s₁ => v = .type T ∧ wpAny (model prog w) A (spliced (backTo pos (starEach (e :: es) env))) (fun vs s₂ => wpAny (model prog w) A (call (.type T) vs) QV E s₂) E s₁) E s)
    (h1 : starEach (e :: es) env = (false, eval e env) :: starEach es env := by kernel_rfl) (h2 : (backTo pos (starEach es env)).any (·.1) = false := by kernel_rfl) :
    wpAny (model prog w) A (eval (.Call (.Name f fp) (e :: es) [] pos) env) QV E s :=
  Call_ (wpAny_mono q (fun v s₁ x => by obtain ⟨rfl, y⟩ := x; exact PyProof.Rows.callWith_type1 y h1 h2) fun _ _ x => x)
theorem a_nil {QL : List Value → Shared → Prop} {pos : Pos} (q : QL [] s) : wpAny (model prog w) A (spliced (backTo pos (starEach [] env))) QL E s := PySem.Calls.spliced_nil q
theorem a_cons {QL : List Value → Shared → Prop} {pos : Pos} {e : Expr} {es : List Expr} (q : wpAny (model prog w) A (eval e env) (fun v s₁ => wpAny (model prog w) A (spliced (backTo pos (starEach es env))) (fun vs s₂ => QL (v :: vs) s₂) E s₁) E s)
    (h1 : starEach (e :: es) env = (false, eval e env) :: starEach es env := by kernel_rfl) :
    wpAny (model prog w) A (spliced (backTo pos (starEach (e :: es) env))) QL E s := PyProof.Rows.spliced_more q h1

theorem t_plain {e : Expr} (q : wpAny (model prog w) A (eval e env) (fun v s₁ => wpAny (model prog w) A (truthy v) QB E s₁) E s)
    (he : isTrue e env (eval e env) = (do let v ← eval e env; standAt e.pos; holding [v] (truthy v)) := by kernel_rfl) : wpAny (model prog w) A (isTrue e env (eval e env)) QB E s := isTrue_plain q he
theorem t_cmp {l r : Expr} {op : CmpOp} {pos : Pos} (q : wpAny (model prog w) A (eval l env) (fun a s₁ => wpAny (model prog w) A (eval r env) (fun b s₂ => wpAny (model prog w) A (compareOp op a b)
      (fun d s₃ => wpAny (model prog w) A (truthy d) QB E s₃) E s₂) E s₁) E s) (hm : behindInMarks op r = false := by kernel_rfl) :
    wpAny (model prog w) A (isTrue (.Compare l [op] [r] pos) env (eval (.Compare l [op] [r] pos) env)) QB E s := wpAny_isTrue_Compare1 q hm
theorem e_cmp {l r : Expr} {op : CmpOp} {pos : Pos} (q : wpAny (model prog w) A (eval l env) (fun a s₁ => wpAny (model prog w) A (eval r env) (fun b s₂ => wpAny (model prog w) A (compareOp op a b) QV E s₂) E s₁) E s)
    (hm : behindInMarks op r = false := by kernel_rfl) : wpAny (model prog w) A (eval (.Compare l [op] [r] pos) env) QV E s := wpAny_Compare1 q hm
theorem t_not {e : Expr} {pos : Pos} (q : wpAny (model prog w) A (isTrue e env (eval e env)) (fun b s' => QB (!b) s') E s) : wpAny (model prog w) A (isTrue (.UnaryOp .Not e pos) env (eval (.UnaryOp .Not e pos) env)) QB E s := isTrue_not q
theorem t_or {e : Expr} {es : List Expr} {pos : Pos} {whole : Sem Value} (q : wpAny (model prog w) A (isTrue e env (eval e env)) (fun b s' => if b = true then QB true s' else wpAny (model prog w) A (isTrue (.BoolOp .Or es pos) env whole) QB E s') E s) :
    wpAny (model prog w) A (isTrue (.BoolOp .Or (e :: es) pos) env whole) QB E s := isTrue_or q
theorem t_or0 {pos : Pos} {whole : Sem Value} (q : QB false s) : wpAny (model prog w) A (isTrue (.BoolOp .Or [] pos) env whole) QB E s := isTrue_or_nil q
theorem t_and {e : Expr} {es : List Expr} {pos : Pos} {whole : Sem Value} (q : wpAny (model prog w) A (isTrue e env (eval e env)) (fun b s' => if b = true then wpAny (model prog w) A (isTrue (.BoolOp .And es pos) env whole) QB E s' else QB false s') E s) :
    wpAny (model prog w) A (isTrue (.BoolOp .And (e :: es) pos) env whole) QB E s := isTrue_and q
theorem t_and0 {pos : Pos} {whole : Sem Value} (q : QB true s) : wpAny (model prog w) A (isTrue (.BoolOp .And [] pos) env whole) QB E s := isTrue_and_nil q
theorem e_if {test a b : Expr} {pos : Pos} (q : wpAny (model prog w) A (isTrue test env (eval test env)) (fun x s₁ => if x = true then wpAny (model prog w) A (eval a env) QV E s₁ else wpAny (model prog w) A (eval b env) QV E s₁) E s) :
    wpAny (model prog w) A (eval (.IfExp test a b pos) env) QV E s := wpAny_IfExp q
theorem truthy_b {b : Bool} (q : QB b s) : wpAny (model prog w) A (truthy (.bool b)) QB E s := fun _ _ _ => q
theorem is_none_t (q : QV (.bool true) s) : wpAny (model prog w) A (compareOp .Is .none .none) QV E s := wpAny_is_self rfl q
noncomputable def notLoader : Value → Bool
  | .builtin _ => false
  | _ => true
theorem notLoader_ne {v : Value} (h : notLoader v = true) : v ≠ .builtin "__main__.__loader__#opaque" := by rintro rfl; (first | with_reducible exact no_some h | with_reducible exact some_no h | with_reducible exact no_bool h | with_reducible exact no_bool' h | cases h)
noncomputable def notNone : Value → Bool
  | .none => false
  | _ => true
theorem notNone_ne {v : Value} (h : notNone v = true) : v ≠ .none := by rintro rfl; (first | with_reducible exact no_some h | with_reducible exact some_no h | with_reducible exact no_bool h | with_reducible exact no_bool' h | cases h)
theorem is_none_f {v : Value} (q : QV (.bool false) s) (hn : notNone v = true := by kernel_rfl) : wpAny (model prog w) A (compareOp .Is v .none) QV E s := is_none_ne (notNone_ne hn) q
theorem eq_s {x y : Str} {t' u : Tok} (q : QV (.bool (x == y)) s) : wpAny (model prog w) A (compareOp .Eq (.str x t') (.str y u)) QV E s := PyProof.Rows.eq_str q

theorem isi {v ty cv : Value} {H : Heap → Prop} {b : Bool} (Z : KitX K v ty H) (X : K.In h) (hH : H h) (e : kitOne K ty cv = some b) (q : ∀ t', QV (.bool b) (c.at h t')) (hv : notLoader v = true := by kernel_rfl) :
    wpAny (model prog w) A (call (.builtin "isinstance") [v, cv]) QV E (c.at h t) :=
  kia_one Z X hH e (notLoader_ne hv) fun tk => q tk
end

end
section
abbrev sA : Str := Str.ofString "A"
abbrev sB : Str := Str.ofString "B"
abbrev sC : Str := Str.ofString "C"
noncomputable def abc : List Str := [sA, sB, sC]

inductive Ob where
  | null
  | truth (b : Bool)
  | int (i : Int)
  | real (t p : Int)
  | name (x : Str)
  | string (o : Array UInt8) (b : Bool)
  | ref (n g : Int)
  | array (ds : List Ob)
  | dict (ds : List (Str × Ob))
  | stream (ds : List (Str × Ob)) (o : Array UInt8)

noncomputable def Ob.word : Ob → Str
  | .null => Str.ofString "null" | .truth _ => Str.ofString "truth" | .int _ => Str.ofString "int" | .real _ _ => Str.ofString "real" | .name _ => Str.ofString "name"
  | .string _ _ => Str.ofString "string" | .ref _ _ => Str.ofString "ref" | .array _ => Str.ofString "array" | .dict _ => Str.ofString "dict" | .stream _ _ => Str.ofString "stream"

noncomputable def names4 : List Str := [sA, sB, Str.ofString "Type", Str.ofString ""]
noncomputable def okBytes (o : Array UInt8) : Bool := decide (o.size ≤ 2) && o.toList.all fun x => decide (x.toNat < 3)
noncomputable def okInt (lo hi i : Int) : Bool := decide (lo ≤ i) && decide (i ≤ hi)
noncomputable def Ob.ok : Nat → Ob → Bool
  | _, .null => true
  | _, .truth _ => true
  | _, .int i => okInt (-1) 1 i
  | _, .real t p => okInt (-9) 20 t && okInt 0 2 p
  | _, .name x => names4.contains x
  | _, .string o _ => okBytes o
  | _, .ref n g => okInt 1 9 n && okInt 0 1 g
  | 0, _ => false
  | n + 1, .array ds => decide (ds.length ≤ 3) && ds.all fun d => Ob.ok n d
  | n + 1, .dict ds => decide (ds.length ≤ 3) && decide (ds.map (·.1)).Nodup && ds.all fun d => abc.contains d.1 && Ob.ok n d.2
  | n + 1, .stream ds o => decide (ds.length ≤ 3) && decide (ds.map (·.1)).Nodup && (ds.all fun d => abc.contains d.1 && Ob.ok n d.2) && okBytes o

structure Inst (G : PMap) (a C : Addr) (es : List DictEntry) : Prop where
  ex : ∃ dx n, G a = some (instObj C dx) ∧ G dx = some (dictOf es n)
  nh : getL (Str.ofString "head") es = some none

mutual
inductive OIn (prog : Program) (w : World) (G : PMap) : List Addr → Value → Ob → Prop
  | null : OIn prog w G [] .none .null
  | truth (b : Bool) : OIn prog w G [] (.bool b) (.truth b)
  | int (i : Int) (t : Tok) : OIn prog w G [] (.int i t) (.int i)
  | real {a : Addr} {es : List DictEntry} {tp pl : Int} {t1 t2 : Tok} : Inst G a 143 es → getL (Str.ofString "top") es = some (some (.int tp t1)) → getL (Str.ofString "places") es = some (some (.int pl t2)) → OIn prog w G [] (.ref a) (.real tp pl)
  | name {a : Addr} {es : List DictEntry} {x : Str} {t : Tok} : Inst G a 171 es → getL (Str.ofString "text") es = some (some (.str x t)) → OIn prog w G [] (.ref a) (.name x)
  | string {a : Addr} {es : List DictEntry} {o : Array UInt8} {b : Bool} {t : Tok} : Inst G a 193 es → getL (Str.ofString "octets") es = some (some (.bytes o t)) → OIn prog w G [] (.ref a) (.string o b)
  | ref {a : Addr} {es : List DictEntry} {n g : Int} {t1 t2 : Tok} : Inst G a 242 es → getL (Str.ofString "number") es = some (some (.int n t1)) → getL (Str.ofString "generation") es = some (some (.int g t2)) → getL (Str.ofString "pair") es = some none → OIn prog w G [] (.ref a) (.ref n g)
  | array {a : Addr} {vs : List Value} {n : Nat} {fs : List Addr} {ds : List Ob} : G a = some (listOf vs.toArray n) → OAll prog w G fs vs ds → OIn prog w G (a :: fs) (.ref a) (.array ds)
  | dict {a : Addr} {o : Obj} {kvs : List (Str × Value)} {fs : List Addr} {ds : List (Str × Ob)} : G a = some o → o.IsDictOf (strKind prog w) kvs → (a == sysModules) = false → OEnt prog w G fs kvs ds → OIn prog w G (a :: fs) (.ref a) (.dict ds)
  | stream {a dx : Addr} {es : List DictEntry} {n : Nat} {hv : Value} {fs : List Addr} {ds : List (Str × Ob)} {o : Array UInt8} {t : Tok} : G a = some (instObj 214 dx) → G dx = some (dictOf es n) → getL (Str.ofString "head") es = some (some hv) → getL (Str.ofString "octets") es = some (some (.bytes o t)) →
      OIn prog w G fs hv (.dict ds) → es.length ≤ 900 → OIn prog w G (dx :: fs) (.ref a) (.stream ds o)
inductive OAll (prog : Program) (w : World) (G : PMap) : List Addr → List Value → List Ob → Prop
  | nil : OAll prog w G [] [] []
  | cons {f fs : List Addr} {v : Value} {vs : List Value} {d : Ob} {ds : List Ob} : OIn prog w G f v d → OAll prog w G fs vs ds → OAll prog w G (f ++ fs) (v :: vs) (d :: ds)
inductive OEnt (prog : Program) (w : World) (G : PMap) : List Addr → List (Str × Value) → List (Str × Ob) → Prop
  | nil : OEnt prog w G [] [] []
  | cons {f fs : List Addr} {k : Str} {v : Value} {vs : List (Str × Value)} {d : Ob} {ds : List (Str × Ob)} : OIn prog w G f v d → OEnt prog w G fs vs ds → OEnt prog w G (f ++ fs) ((k, v) :: vs) ((k, d) :: ds)
end

theorem Inst.mono {G G' : PMap} {a C : Addr} {es : List DictEntry} (h : Inst G a C es) (hG : ∀ a o, G a = some o → G' a = some o) : Inst G' a C es :=
  ⟨let ⟨dx, n, h1, h2⟩ := h.ex; ⟨dx, n, hG _ _ h1, hG _ _ h2⟩, h.nh⟩

section
variable {prog : Program} {w : World} {G G' : PMap}
theorem OAll.ind {P : List Addr → List Value → List Ob → Prop} (h0 : P [] [] []) (h1 : ∀ {f fs : List Addr} {v : Value} {vs : List Value} {d : Ob} {ds : List Ob}, OIn prog w G f v d → OAll prog w G fs vs ds → P fs vs ds → P (f ++ fs) (v :: vs) (d :: ds)) {f : List Addr} {vs : List Value} {ds : List Ob} (h : OAll prog w G f vs ds) : P f vs ds :=
  OAll.rec (motive_1 := fun _ _ _ _ => True) (motive_2 := fun f vs ds _ => P f vs ds) (motive_3 := fun _ _ _ _ => True) trivial (fun _ => trivial) (fun _ _ => trivial) (fun _ _ _ => trivial) (fun _ _ => trivial) (fun _ _ => trivial) (fun _ _ _ _ => trivial) (fun _ _ _ => trivial) (fun _ _ _ _ _ => trivial) (fun _ _ _ _ _ _ _ => trivial) h0 (fun a b _ r => h1 a b r) trivial (fun _ _ _ _ => trivial) h
theorem OEnt.ind {P : List Addr → List (Str × Value) → List (Str × Ob) → Prop} (h0 : P [] [] []) (h1 : ∀ {f fs : List Addr} {k : Str} {v : Value} {vs : List (Str × Value)} {d : Ob} {ds : List (Str × Ob)}, OIn prog w G f v d → OEnt prog w G fs vs ds → P fs vs ds → P (f ++ fs) ((k, v) :: vs) ((k, d) :: ds)) {f : List Addr} {vs : List (Str × Value)} {ds : List (Str × Ob)} (h : OEnt prog w G f vs ds) : P f vs ds :=
  OEnt.rec (motive_1 := fun _ _ _ _ => True) (motive_2 := fun _ _ _ _ => True) (motive_3 := fun f vs ds _ => P f vs ds) trivial (fun _ => trivial) (fun _ _ => trivial) (fun _ _ _ => trivial) (fun _ _ => trivial) (fun _ _ => trivial) (fun _ _ _ _ => trivial) (fun _ _ _ => trivial) (fun _ _ _ _ _ => trivial) (fun _ _ _ _ _ _ _ => trivial) trivial (fun _ _ _ _ => trivial) h0 (fun a b _ r => h1 a b r) h
theorem OIn.mono (hG : ∀ a o, G a = some o → G' a = some o) {f : List Addr} {v : Value} {d : Ob} (h : OIn prog w G f v d) : OIn prog w G' f v d :=
  OIn.rec (motive_1 := fun f v d _ => OIn prog w G' f v d) (motive_2 := fun f vs ds _ => OAll prog w G' f vs ds) (motive_3 := fun f vs ds _ => OEnt prog w G' f vs ds) .null .truth .int (fun i a b => .real (i.mono hG) a b) (fun i a => .name (i.mono hG) a) (fun i a => .string (i.mono hG) a) (fun i a b c => .ref (i.mono hG) a b c)
    (fun h1 _ r => .array (hG _ _ h1) r) (fun h1 h2 h3 _ r => .dict (hG _ _ h1) h2 h3 r) (fun i j a b _ z r => .stream (hG _ _ i) (hG _ _ j) a b r z) .nil (fun _ _ a b => .cons a b) .nil (fun _ _ a b => .cons a b) h
theorem OAll.mono (hG : ∀ a o, G a = some o → G' a = some o) {f : List Addr} {vs : List Value} {ds : List Ob} (h : OAll prog w G f vs ds) : OAll prog w G' f vs ds := h.ind .nil fun q _ r => .cons (q.mono hG) r
theorem OEnt.mono (hG : ∀ a o, G a = some o → G' a = some o) {f : List Addr} {vs : List (Str × Value)} {ds : List (Str × Ob)} (h : OEnt prog w G f vs ds) : OEnt prog w G' f vs ds := h.ind .nil fun q _ r => .cons (q.mono hG) r
noncomputable def Dom (G : PMap) (f : List Addr) : Prop := ∀ a ∈ f, ∃ o, G a = some o
theorem Dom.nil : Dom G [] := fun _ h => absurd h List.not_mem_nil
theorem Dom.cons {a : Addr} {f : List Addr} {o : Obj} (h : G a = some o) (r : Dom G f) : Dom G (a :: f) := fun _ h' => (List.mem_cons.mp h').elim (fun e => e ▸ ⟨_, h⟩) (r _)
theorem Dom.app {f g : List Addr} (q : Dom G f) (r : Dom G g) : Dom G (f ++ g) := fun _ h => (List.mem_append.mp h).elim (q _) (r _)
theorem OIn.dom {f : List Addr} {v : Value} {d : Ob} (h : OIn prog w G f v d) : ∀ a ∈ f, ∃ o, G a = some o :=
  OIn.rec (motive_1 := fun f _ _ _ => Dom G f) (motive_2 := fun f _ _ _ => Dom G f) (motive_3 := fun f _ _ _ => Dom G f) .nil (fun _ => .nil) (fun _ _ => .nil) (fun _ _ _ => .nil) (fun _ _ => .nil) (fun _ _ => .nil) (fun _ _ _ _ => .nil)
    (fun h1 _ r => .cons h1 r) (fun h1 _ _ _ r => .cons h1 r) (fun _ j _ _ _ _ r => .cons j r) .nil (fun _ _ a b => .app a b) .nil (fun _ _ a b => .app a b) h
theorem OAll.dom {f : List Addr} {vs : List Value} {ds : List Ob} (h : OAll prog w G f vs ds) : ∀ a ∈ f, ∃ o, G a = some o := h.ind (P := fun f _ _ => Dom G f) .nil fun q _ r => Dom.app q.dom r
theorem OEnt.dom {f : List Addr} {vs : List (Str × Value)} {ds : List (Str × Ob)} (h : OEnt prog w G f vs ds) : ∀ a ∈ f, ∃ o, G a = some o := h.ind (P := fun f _ _ => Dom G f) .nil fun q _ r => Dom.app q.dom r
theorem OAll.length {f : List Addr} {vs : List Value} {ds : List Ob} (h : OAll prog w G f vs ds) : vs.length = ds.length := h.ind (P := fun _ vs ds => vs.length = ds.length) rfl fun _ _ r => congrArg (· + 1) r
theorem OEnt.keys {f : List Addr} {vs : List (Str × Value)} {ds : List (Str × Ob)} (h : OEnt prog w G f vs ds) : vs.map (·.1) = ds.map (·.1) := h.ind (P := fun _ vs ds => vs.map (·.1) = ds.map (·.1)) rfl fun {_ _ k _ _ _ _} _ _ r => congrArg (k :: ·) r
theorem OEnt.length {f : List Addr} {vs : List (Str × Value)} {ds : List (Str × Ob)} (h : OEnt prog w G f vs ds) : vs.length = ds.length := by
  have := congrArg List.length h.keys; simpa using this
theorem OAll.get {f : List Addr} {vs : List Value} {ds : List Ob} (H : OAll prog w G f vs ds) : ∀ {i : Nat} {v : Value}, vs[i]? = some v → ∃ f' d, ds[i]? = some d ∧ OIn prog w G f' v d ∧ (∀ a ∈ f', a ∈ f) := by
  refine H.ind (P := fun f vs ds => ∀ {i : Nat} {v : Value}, vs[i]? = some v → ∃ f' d, ds[i]? = some d ∧ OIn prog w G f' v d ∧ (∀ a ∈ f', a ∈ f)) (fun h => by (first | with_reducible exact no_some h | with_reducible exact some_no h | with_reducible exact no_bool h | with_reducible exact no_bool' h | cases h)) fun q _ r i v h => ?_
  cases i with
  | zero => cases h; exact ⟨_, _, rfl, q, fun a ha => List.mem_append.mpr (.inl ha)⟩
  | succ i =>
    obtain ⟨f', d, a, b, e⟩ := r (i := i) h
    exact ⟨f', d, a, b, fun a ha => List.mem_append.mpr (.inr (e a ha))⟩
theorem OEnt.get {f : List Addr} {vs : List (Str × Value)} {ds : List (Str × Ob)} (H : OEnt prog w G f vs ds) : ∀ {i : Nat} {k : Str} {v : Value}, vs[i]? = some (k, v) → ∃ f' d, ds[i]? = some (k, d) ∧ OIn prog w G f' v d ∧ (∀ a ∈ f', a ∈ f) := by
  refine H.ind (P := fun f vs ds => ∀ {i : Nat} {k : Str} {v : Value}, vs[i]? = some (k, v) → ∃ f' d, ds[i]? = some (k, d) ∧ OIn prog w G f' v d ∧ (∀ a ∈ f', a ∈ f)) (fun h => by (first | with_reducible exact no_some h | with_reducible exact some_no h | with_reducible exact no_bool h | with_reducible exact no_bool' h | cases h)) fun q _ r i k v h => ?_
  cases i with
  | zero => cases h; exact ⟨_, _, rfl, q, fun a ha => List.mem_append.mpr (.inl ha)⟩
  | succ i =>
    obtain ⟨f', d, a, b, e⟩ := r (i := i) h
    exact ⟨f', d, a, b, fun a ha => List.mem_append.mpr (.inr (e a ha))⟩
noncomputable def keyed (ds : List (Str × Ob)) (k : Str) : Option Ob := (ds.find? fun e => decide (e.1 = k)).map (·.2)
theorem keyed_cons {ds : List (Str × Ob)} {k' k : Str} {d : Ob} : keyed ((k', d) :: ds) k = if k' = k then some d else keyed ds k := by
  by_cases e : k' = k
  · simp [keyed, e]
  · simp [keyed, e]
theorem valueAt_cons {ds : List (Str × Value)} {k' k : Str} {d : Value} : valueAt ((k', d) :: ds) k = if k' = k then some d else valueAt ds k := by
  by_cases e : k' = k
  · simp [valueAt, e]
  · simp [valueAt, e]
theorem OEnt.value {f : List Addr} {vs : List (Str × Value)} {ds : List (Str × Ob)} (H : OEnt prog w G f vs ds) : ∀ {k : Str} {d : Ob}, keyed ds k = some d → ∃ f' v, valueAt vs k = some v ∧ OIn prog w G f' v d ∧ (∀ a ∈ f', a ∈ f) := by
  refine H.ind (P := fun f vs ds => ∀ {k : Str} {d : Ob}, keyed ds k = some d → ∃ f' v, valueAt vs k = some v ∧ OIn prog w G f' v d ∧ (∀ a ∈ f', a ∈ f)) (fun h => by (first | with_reducible exact no_some h | with_reducible exact some_no h | with_reducible exact no_bool h | with_reducible exact no_bool' h | cases h)) fun {_ _ k' _ _ _ _} q _ r k d h => ?_
  rw [keyed_cons] at h
  rw [valueAt_cons]
  by_cases e : k' = k
  · rw [if_pos e] at h ⊢
    (first | with_reducible exact no_some h | with_reducible exact some_no h | with_reducible exact no_bool h | with_reducible exact no_bool' h | cases h)
    exact ⟨_, _, rfl, q, fun a ha => List.mem_append.mpr (.inl ha)⟩
  · rw [if_neg e] at h ⊢
    obtain ⟨f', v, a, b, z⟩ := r h
    exact ⟨f', v, a, b, fun a ha => List.mem_append.mpr (.inr (z a ha))⟩
theorem OEnt.value_none {f : List Addr} {vs : List (Str × Value)} {ds : List (Str × Ob)} (H : OEnt prog w G f vs ds) : ∀ {k : Str}, keyed ds k = none → valueAt vs k = none := by
  refine H.ind (P := fun f vs ds => ∀ {k : Str}, keyed ds k = none → valueAt vs k = none) (fun _ => rfl) fun {_ _ k' _ _ _ _} q _ r k h => ?_
  rw [keyed_cons] at h
  rw [valueAt_cons]
  by_cases e : k' = k
  · rw [if_pos e] at h; (first | with_reducible exact no_some h | with_reducible exact some_no h | with_reducible exact no_bool h | with_reducible exact no_bool' h | cases h)
  · rw [if_neg e] at h ⊢; exact r h
theorem OAll.append {f g : List Addr} {vs us : List Value} {ds es : List Ob} (H : OAll prog w G f vs ds) (q : OAll prog w G g us es) : OAll prog w G (f ++ g) (vs ++ us) (ds ++ es) :=
  H.ind (P := fun f vs ds => OAll prog w G (f ++ g) (vs ++ us) (ds ++ es)) q fun h _ r => by rw [List.append_assoc]; exact .cons h r
theorem OAll.snoc {f g : List Addr} {vs : List Value} {v : Value} {ds : List Ob} {d : Ob} (r : OAll prog w G f vs ds) (h : OIn prog w G g v d) : OAll prog w G (f ++ g) (vs ++ [v]) (ds ++ [d]) := by
  have := r.append (.cons h .nil); rwa [List.append_nil] at this
theorem OEnt.append {f g : List Addr} {vs us : List (Str × Value)} {ds es : List (Str × Ob)} (H : OEnt prog w G f vs ds) (q : OEnt prog w G g us es) : OEnt prog w G (f ++ g) (vs ++ us) (ds ++ es) :=
  H.ind (P := fun f vs ds => OEnt prog w G (f ++ g) (vs ++ us) (ds ++ es)) q fun h _ r => by rw [List.append_assoc]; exact .cons h r
theorem OEnt.snoc {f g : List Addr} {vs : List (Str × Value)} {v : Value} {k : Str} {ds : List (Str × Ob)} {d : Ob} (r : OEnt prog w G f vs ds) (h : OIn prog w G g v d) : OEnt prog w G (f ++ g) (vs ++ [(k, v)]) (ds ++ [(k, d)]) := by
  have := r.append (OEnt.cons (k := k) h .nil); rwa [List.append_nil] at this
theorem Grow.up {G G' : PMap} {h h' : Heap} (g : Grow No G h G' h') : ∀ a o, G a = some o → G' a = some o := fun a o e => g.mono a o (fun z => z) e
end

inductive Rw where
  | int (i : Int)
  | str (x : Str)
  | bytes (b : Array UInt8)
  | tup (l : List Rw)
abbrev tupOf (vs : List Value) (n : Nat) : Obj := { cls := .type "tuple", data := .seq vs.toArray n }
mutual
inductive RIn (G : PMap) : Value → Rw → Prop
  | int (i : Int) (t : Tok) : RIn G (.int i t) (.int i)
  | str (x : Str) (t : Tok) : RIn G (.str x t) (.str x)
  | bytes (b : Array UInt8) (t : Tok) : RIn G (.bytes b t) (.bytes b)
  | tup {a : Addr} {vs : List Value} {n : Nat} {ds : List Rw} : G a = some (tupOf vs n) → RAll G vs ds → RIn G (.ref a) (.tup ds)
inductive RAll (G : PMap) : List Value → List Rw → Prop
  | nil : RAll G [] []
  | cons {v : Value} {vs : List Value} {d : Rw} {ds : List Rw} : RIn G v d → RAll G vs ds → RAll G (v :: vs) (d :: ds)
end
section
variable {G G' : PMap}
theorem RAll.ind {P : List Value → List Rw → Prop} (h0 : P [] []) (h1 : ∀ {v : Value} {vs : List Value} {d : Rw} {ds : List Rw}, RIn G v d → RAll G vs ds → P vs ds → P (v :: vs) (d :: ds)) {vs : List Value} {ds : List Rw} (h : RAll G vs ds) : P vs ds :=
  RAll.rec (motive_1 := fun _ _ _ => True) (motive_2 := fun vs ds _ => P vs ds) (fun _ _ => trivial) (fun _ _ => trivial) (fun _ _ => trivial) (fun _ _ _ => trivial) h0 (fun a b _ r => h1 a b r) h
theorem RIn.mono (hG : ∀ a o, G a = some o → G' a = some o) {v : Value} {d : Rw} (h : RIn G v d) : RIn G' v d :=
  RIn.rec (motive_1 := fun v d _ => RIn G' v d) (motive_2 := fun vs ds _ => RAll G' vs ds) .int .str .bytes (fun h _ r => .tup (hG _ _ h) r) .nil (fun _ _ a b => .cons a b) h
theorem RAll.mono (hG : ∀ a o, G a = some o → G' a = some o) {vs : List Value} {ds : List Rw} (h : RAll G vs ds) : RAll G' vs ds := h.ind .nil fun q _ r => .cons (q.mono hG) r
theorem RAll.length {vs : List Value} {ds : List Rw} (h : RAll G vs ds) : vs.length = ds.length := h.ind (P := fun vs ds => vs.length = ds.length) rfl fun _ _ r => congrArg (· + 1) r
theorem RAll.append {vs us : List Value} {ds es : List Rw} (h : RAll G vs ds) (q : RAll G us es) : RAll G (vs ++ us) (ds ++ es) := h.ind (P := fun vs ds => RAll G (vs ++ us) (ds ++ es)) q fun h _ r => .cons h r
theorem RAll.snoc {vs : List Value} {v : Value} {ds : List Rw} {d : Rw} (r : RAll G vs ds) (h : RIn G v d) : RAll G (vs ++ [v]) (ds ++ [d]) := r.append (.cons h .nil)
theorem RAll.get {vs : List Value} {ds : List Rw} (H : RAll G vs ds) : ∀ {i : Nat} {d : Rw}, ds[i]? = some d → ∃ v, vs[i]? = some v ∧ RIn G v d := by
  refine H.ind (P := fun vs ds => ∀ {i : Nat} {d : Rw}, ds[i]? = some d → ∃ v, vs[i]? = some v ∧ RIn G v d) (fun h => by (first | with_reducible exact no_some h | with_reducible exact some_no h | with_reducible exact no_bool h | with_reducible exact no_bool' h | cases h)) fun q _ r i d h => ?_
  cases i with
  | zero => cases h; exact ⟨_, rfl, q⟩
  | succ i => exact r (i := i) h
theorem RAll.get' {vs : List Value} {ds : List Rw} (H : RAll G vs ds) : ∀ {i : Nat} {v : Value}, vs[i]? = some v → ∃ d, ds[i]? = some d ∧ RIn G v d := by
  refine H.ind (P := fun vs ds => ∀ {i : Nat} {v : Value}, vs[i]? = some v → ∃ d, ds[i]? = some d ∧ RIn G v d) (fun h => by (first | with_reducible exact no_some h | with_reducible exact some_no h | with_reducible exact no_bool h | with_reducible exact no_bool' h | cases h)) fun q _ r i d h => ?_
  cases i with
  | zero => cases h; exact ⟨_, rfl, q⟩
  | succ i => exact r (i := i) h
end

abbrev Tab := List ((Int × Int) × (Int × Int))
noncomputable def Tab.at (T : Tab) (p : Int × Int) : Option (Int × Int) := (T.find? fun e => decide (e.1 = p)).map (·.2)
abbrev rs (x : String) : Rw := .str (Str.ofString x)
noncomputable def nullRow : Rw := .tup [rs "null"]
noncomputable def Rw.isNull : Rw → Bool
  | .tup [.str x] => decide (x = Str.ofString "null")
  | _ => false
noncomputable def refRow : Option Tab → Int → Int → Rw
  | none, n, g => .tup [rs "ref", .int n, .int g]
  | some T, n, g => match T.at (n, g) with
    | some (a, b) => .tup [rs "ref", .int a, .int b]
    | none => nullRow
noncomputable def Ob.row (T : Option Tab) : Nat → Ob → Rw
  | _, .null => nullRow
  | _, .truth b => .tup [rs "truth", .int (if b = true then 1 else 0)]
  | _, .int i => .tup [rs "int", .int i]
  | _, .real t p => .tup [rs "real", .int t, .int p]
  | _, .name x => .tup [rs "name", .str x]
  | _, .string o _ => .tup [rs "string", .bytes o]
  | _, .ref n g => refRow T n g
  | 0, _ => nullRow
  | n + 1, .array ds => .tup (rs "array" :: ds.map fun d => Ob.row T n d)
  | n + 1, .dict ds => .tup (rs "dict" :: (abc.filterMap fun k => (keyed ds k).bind fun d => if (Ob.row T n d).isNull = true then none else some (.tup [.str k, Ob.row T n d])))
  | n + 1, .stream ds o => .tup [rs "stream", .tup (rs "dict" :: (abc.filterMap fun k => (keyed ds k).bind fun d => if (Ob.row T n d).isNull = true then none else some (.tup [.str k, Ob.row T n d]))), .bytes o]

section
variable {T : Option Tab} {n : Nat}
theorem row_null : Ob.row T n .null = nullRow := by cases n <;> rfl
theorem row_truth {b : Bool} : Ob.row T n (.truth b) = .tup [rs "truth", .int (if b = true then 1 else 0)] := by cases n <;> rfl
theorem row_int {i : Int} : Ob.row T n (.int i) = .tup [rs "int", .int i] := by cases n <;> rfl
theorem row_real {a b : Int} : Ob.row T n (.real a b) = .tup [rs "real", .int a, .int b] := by cases n <;> rfl
theorem row_name {x : Str} : Ob.row T n (.name x) = .tup [rs "name", .str x] := by cases n <;> rfl
theorem row_string {o : Array UInt8} {b : Bool} : Ob.row T n (.string o b) = .tup [rs "string", .bytes o] := by cases n <;> rfl
theorem row_ref {a b : Int} : Ob.row T n (.ref a b) = refRow T a b := by cases n <;> rfl
noncomputable def entRows (T : Option Tab) (n : Nat) (ds : List (Str × Ob)) (ks : List Str) : List Rw := ks.filterMap fun k => (keyed ds k).bind fun d => if (Ob.row T n d).isNull = true then none else some (.tup [.str k, Ob.row T n d])
theorem row_array {ds : List Ob} : Ob.row T (n + 1) (.array ds) = .tup (rs "array" :: ds.map fun d => Ob.row T n d) := rfl
theorem row_dict {ds : List (Str × Ob)} : Ob.row T (n + 1) (.dict ds) = .tup (rs "dict" :: entRows T n ds abc) := rfl
theorem row_stream {ds : List (Str × Ob)} {o : Array UInt8} : Ob.row T (n + 1) (.stream ds o) = .tup [rs "stream", Ob.row T (n + 1) (.dict ds), .bytes o] := rfl
end

noncomputable def Ob.isNul : Ob → Bool
  | .null => true
  | _ => false
theorem keyed_mem : ∀ {ds : List (Str × Ob)} {k : Str} {d : Ob}, keyed ds k = some d → (k, d) ∈ ds
  | [], _, _, h => by (first | with_reducible exact no_some h | with_reducible exact some_no h | with_reducible exact no_bool h | with_reducible exact no_bool' h | cases h)
  | (k', d') :: ds, k, d, h => by
    by_cases e : k' = k
    · have : d' = d := by simpa [keyed, e] using h
      rw [this, e]; exact List.mem_cons_self
    · exact List.mem_cons_of_mem _ (keyed_mem (by simpa [keyed, e] using h))
theorem keyed_of_mem : ∀ {ds : List (Str × Ob)} {k : Str}, k ∈ ds.map (·.1) → ∃ d, keyed ds k = some d
  | [], _, h => by (first | with_reducible exact no_some h | with_reducible exact some_no h | with_reducible exact no_bool h | with_reducible exact no_bool' h | cases h)
  | (k', d') :: ds, k, h => by
    by_cases e : k' = k
    · exact ⟨d', by simp [keyed, e]⟩
    · refine ex1 (keyed_of_mem (ds := ds) (k := k) (by simpa [Ne.symm e] using h)) fun d hd => ?_
      exact ⟨d, by simpa [keyed, e] using hd⟩
theorem keyed_none {ds : List (Str × Ob)} {k : Str} (h : k ∉ ds.map (·.1)) : keyed ds k = none := by
  cases e : keyed ds k with
  | none => rfl
  | some d => exact absurd (List.mem_map.mpr ⟨_, keyed_mem e, rfl⟩) h
theorem ok_array {n : Nat} {ds : List Ob} (h : (Ob.array ds).ok (n + 1) = true) : ds.length ≤ 3 ∧ ∀ d ∈ ds, d.ok n = true := by
  have h' : (decide (ds.length ≤ 3) && ds.all fun d => Ob.ok n d) = true := h
  refine and2 (Bool.and_eq_true_iff.mp h') fun a b => ?_
  exact ⟨of_decide_eq_true a, fun d hd => List.all_eq_true.mp b d hd⟩
theorem ok_dict {n : Nat} {ds : List (Str × Ob)} (h : (Ob.dict ds).ok (n + 1) = true) : ds.length ≤ 3 ∧ (ds.map (·.1)).Nodup ∧ ∀ k d, (k, d) ∈ ds → k ∈ abc ∧ d.ok n = true := by
  have h' : (decide (ds.length ≤ 3) && decide (ds.map (·.1)).Nodup && ds.all fun d => abc.contains d.1 && Ob.ok n d.2) = true := h
  refine and2 (Bool.and_eq_true_iff.mp h') fun a b => ?_
  refine and2 (Bool.and_eq_true_iff.mp a) fun a d => ?_
  refine ⟨of_decide_eq_true a, of_decide_eq_true d, fun k x hx => ?_⟩
  refine and2 (Bool.and_eq_true_iff.mp (List.all_eq_true.mp b _ hx)) fun y z => ?_
  exact ⟨List.contains_iff_mem.mp y, z⟩
theorem ok_stream {n : Nat} {ds : List (Str × Ob)} {o : Array UInt8} (h : (Ob.stream ds o).ok (n + 1) = true) : (Ob.dict ds).ok (n + 1) = true ∧ okBytes o = true := by
  have h' : (decide (ds.length ≤ 3) && decide (ds.map (·.1)).Nodup && (ds.all fun d => abc.contains d.1 && Ob.ok n d.2) && okBytes o) = true := h
  exact Bool.and_eq_true_iff.mp h'
theorem not_ok0_array {ds : List Ob} (h : (Ob.array ds).ok 0 = true) : False := by (first | with_reducible exact no_some h | with_reducible exact some_no h | with_reducible exact no_bool h | with_reducible exact no_bool' h | cases h)
theorem not_ok0_dict {ds : List (Str × Ob)} (h : (Ob.dict ds).ok 0 = true) : False := by (first | with_reducible exact no_some h | with_reducible exact some_no h | with_reducible exact no_bool h | with_reducible exact no_bool' h | cases h)
theorem not_ok0_stream {ds : List (Str × Ob)} {o : Array UInt8} (h : (Ob.stream ds o).ok 0 = true) : False := by (first | with_reducible exact no_some h | with_reducible exact some_no h | with_reducible exact no_bool h | with_reducible exact no_bool' h | cases h)
theorem isNull_a : (Rw.tup [rs "array"]).isNull = false := by decide +kernel
theorem isNull_d : (Rw.tup [rs "dict"]).isNull = false := by decide +kernel
theorem row_isNull {n : Nat} {d : Ob} (h : d.ok n = true) : (d.row none n).isNull = d.isNul := by
  cases d with
  | null => rw [row_null]; rfl
  | truth _ => rw [row_truth]; rfl
  | int _ => rw [row_int]; rfl
  | real _ _ => rw [row_real]; rfl
  | name _ => rw [row_name]; rfl
  | string _ _ => rw [row_string]; rfl
  | ref _ _ => rw [row_ref]; rfl
  | array ds =>
    cases n with
    | zero => (first | with_reducible exact no_some h | with_reducible exact some_no h | with_reducible exact no_bool h | with_reducible exact no_bool' h | cases h)
    | succ n =>
      rw [row_array]
      cases ds with
      | nil => exact isNull_a
      | cons _ _ => rfl
  | dict ds =>
    cases n with
    | zero => (first | with_reducible exact no_some h | with_reducible exact some_no h | with_reducible exact no_bool h | with_reducible exact no_bool' h | cases h)
    | succ n =>
      rw [row_dict]
      cases entRows none n ds abc with
      | nil => exact isNull_d
      | cons _ _ => rfl
  | stream ds o =>
    cases n with
    | zero => (first | with_reducible exact no_some h | with_reducible exact some_no h | with_reducible exact no_bool h | with_reducible exact no_bool' h | cases h)
    | succ n => rw [row_stream]; rfl
theorem entRows_append {T : Option Tab} {n : Nat} {ds : List (Str × Ob)} {ks js : List Str} : entRows T n ds (ks ++ js) = entRows T n ds ks ++ entRows T n ds js := List.filterMap_append
theorem entRows_one {T : Option Tab} {n : Nat} {ds : List (Str × Ob)} {k : Str} {d : Ob} (h : keyed ds k = some d) : entRows T n ds [k] = if (Ob.row T n d).isNull = true then [] else [.tup [.str k, Ob.row T n d]] := by
  unfold entRows
  simp only [List.filterMap_cons, List.filterMap_nil, h, Option.bind_some]
  split
  · split at * <;> simp_all
  · split at * <;> simp_all
theorem entRows_none {T : Option Tab} {n : Nat} {ds : List (Str × Ob)} {k : Str} (h : keyed ds k = none) : entRows T n ds [k] = [] := by
  unfold entRows
  simp only [List.filterMap_cons, List.filterMap_nil, h, Option.bind_none]
theorem entRows_filter {T : Option Tab} {n : Nat} {ds : List (Str × Ob)} : ∀ {ks : List Str}, entRows T n ds (ks.filter fun k => (ds.map (·.1)).contains k) = entRows T n ds ks
  | [] => rfl
  | k :: ks => by
    have e : k :: ks = [k] ++ ks := rfl
    rw [e, List.filter_append, entRows_append, entRows_append, entRows_filter (ks := ks)]
    congr 1
    by_cases h : k ∈ ds.map (·.1)
    · rw [List.filter_cons_of_pos (List.contains_iff_mem.mpr h), List.filter_nil]
    · rw [List.filter_cons_of_neg (fun z => h (List.contains_iff_mem.mp z)), List.filter_nil, entRows_none (keyed_none h)]; rfl

section
variable {prog : Program} {w : World} {G : PMap}
theorem OIn.arrayE {ds : List Ob} {motive : ∀ (f : List Addr) (v : Value), OIn prog w G f v (.array ds) → Prop} (k : ∀ (a : Addr) (vs : List Value) (n : Nat) (fs : List Addr) (h1 : G a = some (listOf vs.toArray n)) (h2 : OAll prog w G fs vs ds), motive (a :: fs) (.ref a) (.array h1 h2)) {f : List Addr} {v : Value} (h : OIn prog w G f v (.array ds)) : motive f v h := by
  cases h with
  | array h1 h2 => exact k _ _ _ _ h1 h2
theorem OIn.dictE {ds : List (Str × Ob)} {motive : ∀ (f : List Addr) (v : Value), OIn prog w G f v (.dict ds) → Prop} (k : ∀ (a : Addr) (o : Obj) (kvs : List (Str × Value)) (fs : List Addr) (h1 : G a = some o) (h2 : o.IsDictOf (strKind prog w) kvs) (h3 : (a == sysModules) = false) (h4 : OEnt prog w G fs kvs ds), motive (a :: fs) (.ref a) (.dict h1 h2 h3 h4)) {f : List Addr} {v : Value} (h : OIn prog w G f v (.dict ds)) : motive f v h := by
  cases h with
  | dict h1 h2 h3 h4 => exact k _ _ _ _ h1 h2 h3 h4
theorem OIn.streamE {ds : List (Str × Ob)} {o : Array UInt8} {motive : ∀ (f : List Addr) (v : Value), OIn prog w G f v (.stream ds o) → Prop} (k : ∀ (a dx : Addr) (es : List DictEntry) (n : Nat) (hv : Value) (fs : List Addr) (t : Tok) (h1 : G a = some (instObj 214 dx)) (h2 : G dx = some (dictOf es n)) (h3 : getL (Str.ofString "head") es = some (some hv)) (h4 : getL (Str.ofString "octets") es = some (some (.bytes o t))) (h5 : OIn prog w G fs hv (.dict ds)) (h6 : es.length ≤ 900), motive (dx :: fs) (.ref a) (.stream h1 h2 h3 h4 h5 h6)) {f : List Addr} {v : Value} (h : OIn prog w G f v (.stream ds o)) : motive f v h := by
  cases h with
  | stream h1 h2 h3 h4 h5 h6 => exact k _ _ _ _ _ _ _ h1 h2 h3 h4 h5 h6
theorem OIn.refE {x y : Int} {motive : ∀ (f : List Addr) (v : Value), OIn prog w G f v (.ref x y) → Prop} (k : ∀ (a : Addr) (es : List DictEntry) (t1 t2 : Tok) (h1 : Inst G a 242 es) (h2 : getL (Str.ofString "number") es = some (some (.int x t1))) (h3 : getL (Str.ofString "generation") es = some (some (.int y t2))) (h4 : getL (Str.ofString "pair") es = some none), motive [] (.ref a) (.ref h1 h2 h3 h4)) {f : List Addr} {v : Value} (h : OIn prog w G f v (.ref x y)) : motive f v h := by
  cases h with
  | ref h1 h2 h3 h4 => exact k _ _ _ _ h1 h2 h3 h4
theorem RIn.tupE {ds : List Rw} {motive : ∀ (v : Value), RIn G v (.tup ds) → Prop} (k : ∀ (a : Addr) (vs : List Value) (n : Nat) (h1 : G a = some (tupOf vs n)) (h2 : RAll G vs ds), motive (.ref a) (.tup h1 h2)) {v : Value} (h : RIn G v (.tup ds)) : motive v h := by
  cases h with
  | tup h1 h2 => exact k _ _ _ h1 h2
theorem RIn.strE {x : Str} {motive : ∀ (v : Value), RIn G v (.str x) → Prop} (k : ∀ (t : Tok), motive (.str x t) (.str x t)) {v : Value} (h : RIn G v (.str x)) : motive v h := by
  cases h with
  | str _ t => exact k t
theorem RAll.consE {d : Rw} {ds : List Rw} {motive : ∀ (vs : List Value), RAll G vs (d :: ds) → Prop} (k : ∀ (v : Value) (vs : List Value) (h1 : RIn G v d) (h2 : RAll G vs ds), motive (v :: vs) (.cons h1 h2)) {vs : List Value} (h : RAll G vs (d :: ds)) : motive vs h := by
  cases h with
  | cons h1 h2 => exact k _ _ h1 h2
end
theorem Bs.no {K : Frag} {p : Program} {loose : List Str} {mg mb : Str → Option Value} {B : PMap} (Z : Bs K p loose mg mb B) : Bs K p loose mg mb (mask No B) :=
  Z.mono fun b o e => by rw [mask_out (fun z => z)]; exact e
theorem no_ne {G : PMap} : ∀ a, No a → G a ≠ none := fun _ z => z.elim
theorem no_B {B : PMap} : ∀ a, No a → B a = none := fun _ z => z.elim

end
section
section
variable {prog : Program} {w : World} {A : Around} {E : Value → Shared → Prop}

abbrev testsOf (ifs : List Expr) (env : Env) : Sem Bool := forIn ifs true fun c r => if r = true then do let ok ← isTrue c env (eval c env); pure (ForInStep.yield ok) else pure (ForInStep.yield r)

abbrev lstOf (ys : List Value) : Obj := listOf ys.toArray ys.length

theorem comp_block {elt iter : Expr} {x : Str} {px : Pos} {ifs : List Expr} {scope : Scope} {cl : List (Str × Addr)} {pos : Pos} {s₂ : Shared} {I : Addr} {fp : List Addr} {n : Nat} {P : Nat → Value → Prop} {Wk : Nat → Heap → Prop}
    {env : Env} {W : Addr → Prop} {U : PMap} {Inv : Nat → List Value → PMap → Prop} {RR : Value → Addr → Result → Shared → Prop}
    (Wa : Walks prog w A I fp [I] n P Wk) (hsz : n ≤ sizeLine) (hcell : ∀ y ∈ scope.names, y.2 ≠ .cell) (hkind : scope.kind = .function) (hx : scope.names.lookup x = some .local)
    (hst : Wk 0 s₂.heap) (hfp : ∀ b ∈ fp, b < s₂.heap.objs.size) (hIo : ∀ i h, Wk i h → ∃ o, h.get? I = some o) (hU : ∀ a o, U a = some o → s₂.heap.get? a = some o) (hUI : U I = none)
    (hW : ∀ a, W a → U a ≠ none) (hWin : ∀ i ys U', Inv i ys U' → ∀ a, W a → U' a ≠ none) (hWfp : ∀ b ∈ fp, ¬ W b) (h0 : Inv 0 [] U)
    (turn : ∀ i v ys U' h tk C m₂, i < n → P i v → Grow (fun a => W a ∨ a = I) U s₂.heap U' h → s₂.heap.get? C = none → St (mask (fun a => W a ∨ a = C) h.get?) (mask W U') C m₂ U' h → m₂ x = some v → Inv i ys U' → ys.length ≤ i →
      wpAny (model prog w) A (testsOf ifs (compEnvC scope cl C env)) (fun ok s' => if ok = true then wpAny (model prog w) A (eval elt (compEnvC scope cl C env)) (fun y s'' =>
          ∃ U'' h'' tk'' m₃, s'' = { s₂ with heap := h'', toks := tk'' } ∧ St (mask (fun a => W a ∨ a = C) h.get?) (mask W U') C m₃ U'' h'' ∧ Inv (i + 1) (ys ++ [y]) U'') (fun _ _ => False) s'
        else ∃ U'' h'' tk'' m₃, s' = { s₂ with heap := h'', toks := tk'' } ∧ St (mask (fun a => W a ∨ a = C) h.get?) (mask W U') C m₃ U'' h'' ∧ Inv (i + 1) ys U'') (fun _ _ => False) { s₂ with heap := h, toks := tk })
    (done : ∀ D C ys U' h tk m', Grow (fun a => W a ∨ a = I) U s₂.heap U' h → U' D = none → s₂.heap.get? D = none → h.get? D = some (lstOf ys) → h.Ns C m' → C ≠ D → s₂.heap.get? C = none → U' C = none → Inv n ys U' → ys.length ≤ n → RR (.ref D) C (.ok .next) { s₂ with heap := h, toks := tk }) :
    wpAny (model prog w) A (newList []) (fun acc s₃ => wpAny (model prog w) A (newFunctionEnv scope env.globals cl [] env.qual none .none (some env)) (fun cenv s₄ =>
      codeAny (model prog w) A (.compStart (.ListComp elt [⟨.Name x px, iter, ifs, 0⟩] scope pos) 0 (.ref I) acc { cenv with scope := relabel scope env }) (RR acc cenv.locals) s₄) E s₃) E s₂ := by
  refine wpAny_newObj_type (wpAny_newFunctionEnv hcell (by intro y hy; simp at hy) (fun h₁ hns₁ hsb₁ => ?_) hkind)
  dsimp only at hns₁ hsb₁ ⊢
  generalize hH2 : s₂.heap.push { cls := .type "list", dict := none, data := .seq ([] : List Value).toArray } = H2 at hns₁ hsb₁ ⊢
  have hC : H2.objs.size = s₂.heap.objs.size + 1 := by rw [← hH2, Heap.size_push]
  have hDC : s₂.heap.objs.size ≠ H2.objs.size := by rw [hC]; exact Nat.ne_of_lt (Nat.lt_succ_self _)
  have below : ∀ b, b < s₂.heap.objs.size → b ≠ H2.objs.size ∧ b ≠ s₂.heap.objs.size := fun b hb => ⟨by rw [hC]; exact Nat.ne_of_lt (Nat.lt_succ_of_lt hb), Nat.ne_of_lt hb⟩
  have hDf : s₂.heap.objs.size ∉ fp := fun hm => Nat.lt_irrefl _ (hfp _ hm)
  have hCf : H2.objs.size ∉ fp := fun hm => by have := hfp _ hm; rw [hC] at this; exact Nat.lt_irrefl _ (Nat.lt_of_succ_lt this)
  have hIf : I ∈ fp := Wa.sub I (List.mem_singleton.mpr rfl)
  have hIlt : I < s₂.heap.objs.size := hfp I hIf
  have old : ∀ b o, s₂.heap.get? b = some o → h₁.get? b = some o := fun b o e => hsb₁.extBut b o (below b (Heap.lt_size e)).1 (Heap.get?_push_of_some _ (hH2 ▸ Heap.get?_push_of_some _ e))
  have hacc : h₁.get? s₂.heap.objs.size = some (lstOf []) := hsb₁.extBut _ _ hDC (Heap.get?_push_of_some _ (hH2 ▸ Heap.get?_push_size _ rfl))
  have hst₁ : Wk 0 h₁ := Wa.frame _ _ _ hst fun b _ o e => old b o e
  have fresh : ∀ a, s₂.heap.objs.size ≤ a → s₂.heap.get? a = none := fun a ha => by
    cases e : s₂.heap.get? a with
    | none => rfl
    | some o' => exact absurd (Heap.lt_size e) (Nat.not_lt.mpr ha)
  have hD₀ : s₂.heap.get? s₂.heap.objs.size = none := fresh _ (Nat.le_refl _)
  have hC₀ : s₂.heap.get? H2.objs.size = none := fresh _ (by rw [hC]; exact Nat.le_succ _)
  have hCI : I ≠ H2.objs.size := (below I hIlt).1
  have hDI : I ≠ s₂.heap.objs.size := (below I hIlt).2
  have hUn : ∀ a, s₂.heap.get? a = none → U a = none := fun a q => by
    cases e : U a with
    | none => rfl
    | some o => rw [hU a o e] at q; (first | with_reducible exact no_some q | with_reducible exact some_no q | with_reducible exact no_bool q | with_reducible exact no_bool' q | cases q)
  have hWn : ∀ a, s₂.heap.get? a = none → ¬ W a := fun a q z => hW a z (hUn a q)
  have hWD := hWn _ hD₀
  have hWC := hWn _ hC₀
  have hWI : ¬ W I := hWfp I hIf
  have loop : ∀ s₃ : Shared, s₃ = { s₂ with heap := h₁, toks := s₂.toks + ([] : List (Str × Value)).length } →
      codeAny (model prog w) A (.compLoop (.ListComp elt [⟨.Name x px, iter, ifs, 0⟩] scope pos) 0 (.ref I) (.ref s₂.heap.objs.size) (compEnvC scope cl H2.objs.size env))
        (RR (.ref s₂.heap.objs.size) H2.objs.size) s₃ := by
    rintro s₃ rfl
    refine codeAny_compLoop_tests
      (fun k s' => ∃ h' tk i ys m' U', s' = { s₂ with heap := h', toks := tk } ∧ i ≤ n ∧ k = n + 1 - i ∧ ys.length ≤ i ∧ Wk i h' ∧ Grow (fun a => W a ∨ a = I) U s₂.heap U' h' ∧ h'.Ns H2.objs.size m' ∧ h'.get? s₂.heap.objs.size = some (lstOf ys) ∧
        (∃ o, h'.get? I = some o) ∧ U' I = none ∧ U' H2.objs.size = none ∧ U' s₂.heap.objs.size = none ∧ Inv i ys U') ?_ (n + 1)
      ⟨h₁, _, 0, [], _, U, rfl, Nat.zero_le _, rfl, Nat.le_refl _, hst₁, .heap (fun a o e => old a o (hU a o e)) (fun a o _ e => old a o e), hns₁, hacc, hIo _ _ hst₁, hUI, hUn _ hC₀, hUn _ hD₀, h0⟩
    intro k s' hi0_2
    refine ex6 (hi0_2) fun h' tk i ys m' U' hx2 => ?_
    refine and13 hx2 fun er2_6 hi er2_8 hyl hst' g' hn' hacc' hp2_14 uI uC uD inv => ?_
    clear hx2
    clear hi0_2
    subst er2_6
    subst er2_8
    refine ex1 (hp2_14) fun oI heI => ?_
    clear hp2_14
    by_cases hlt : i < n
    · refine Wa.item i _ _ _ hlt hst' fun v h₂ tk₂ hPv hst₂ hk₂ => ?_
      refine wpAny_assign_Name (wpAny_storeName_local (lookup_relabel_local hx) (hn'.at' fun o e => hk₂ _ o (by simpa using Ne.symm hCI) e) (fun h₃ hn₃ hs₃ => ?_) (by simp [compEnvC, relabel, hkind]))
      have hst₃ : Wk (i + 1) h₃ := Wa.frame _ _ _ hst₂ fun b hb o e => hs₃.extBut b o (fun q => hCf (by have q' : b = H2.objs.size := q; rw [← q']; exact hb)) e
      have k3 : ∀ b o, b ≠ I → b ≠ H2.objs.size → h'.get? b = some o → h₃.get? b = some o := fun b o n1 n2 e => hs₃.extBut b o n2 (hk₂ b o (by simpa using n1) e)
      have sub' : ∀ a o, U' a = some o → h'.get? a = some o := fun a o e => (g'.sub a o e).1
      have neU : ∀ a o, U' a = some o → a ≠ I ∧ a ≠ H2.objs.size := by
        intro a o e
        refine ⟨fun q => ?_, fun q => ?_⟩
        · rw [q, uI] at e; (first | with_reducible exact no_some e | with_reducible exact some_no e | with_reducible exact no_bool e | with_reducible exact no_bool' e | cases e)
        · rw [q, uC] at e; (first | with_reducible exact no_some e | with_reducible exact some_no e | with_reducible exact no_bool e | with_reducible exact no_bool' e | cases e)
      have g₃ : Grow (fun a => W a ∨ a = I) U s₂.heap U' h₃ := by
        refine ⟨fun a o nw e => k3 a o (fun q => nw (.inr q)) (fun q => by rw [q, hC₀] at e; (first | with_reducible exact no_some e | with_reducible exact some_no e | with_reducible exact no_bool e | with_reducible exact no_bool' e | cases e)) (g'.keep a o nw e), g'.mono, fun a o e => ⟨k3 a o (neU a o e).1 (neU a o e).2 (sub' a o e), (g'.sub a o e).2⟩⟩
      have hacc₃ := k3 _ _ (Ne.symm hDI) hDC hacc'
      refine ex1 (hIo _ _ hst₃) fun oI₃ heI₃ => ?_
      have S₃ : St (fun _ => none) (fun _ => none) H2.objs.size (fun y => if y = x then some v else m' y) U' h₃ :=
        ⟨hn₃, (fun _ _ e => by (first | with_reducible exact no_some e | with_reducible exact some_no e | with_reducible exact no_bool e | with_reducible exact no_bool' e | cases e)), rfl, (fun _ _ e => by (first | with_reducible exact no_some e | with_reducible exact some_no e | with_reducible exact no_bool e | with_reducible exact no_bool' e | cases e)), (fun _ _ e => by (first | with_reducible exact no_some e | with_reducible exact some_no e | with_reducible exact no_bool e | with_reducible exact no_bool' e | cases e)), fun a o e => ⟨(g₃.sub a o e).1, (neU a o e).2, .inr rfl⟩⟩
      have hWU : ∀ a, W a → U' a ≠ none := hWin i ys U' inv
      refine wpAny_mono (turn i v ys U' h₃ _ _ _ hlt hPv g₃ hC₀ (S₃.again W) (by simp) inv hyl) (fun ok s₄ h₄ => ?_) fun _ _ e => e.elim
      have after : ∀ (U'' : PMap) (h'' : Heap), Grow (fun a => W a ∨ a = H2.objs.size) U' h₃ U'' h'' → Grow (fun a => W a ∨ a = I) U s₂.heap U'' h'' ∧ U'' I = none ∧ U'' H2.objs.size = none ∧ U'' s₂.heap.objs.size = none := by
        intro U'' h'' g
        have off : ∀ a, U' a = none → (∃ o, h₃.get? a = some o) → U'' a = none := fun a u ⟨o, e⟩ => by
          cases q : U'' a with
          | none => rfl
          | some o' =>
            rcases (g.sub a o' q).2 with z | z
            · exact absurd u z
            · rw [e] at z; (first | with_reducible exact no_some z | with_reducible exact some_no z | with_reducible exact no_bool z | with_reducible exact no_bool' z | cases z)
        refine ex3 (id hn₃) fun oC _ _ hx5 => ?_
        refine and2 hx5 fun eC _ => ?_
        clear hx5
        refine ⟨⟨fun a o nw e => g.keep a o (fun z => z.elim (fun z => nw (.inl z)) fun q => by rw [q, hC₀] at e; (first | with_reducible exact no_some e | with_reducible exact some_no e | with_reducible exact no_bool e | with_reducible exact no_bool' e | cases e)) (g₃.keep a o nw e), fun a o nw e => g.mono a o (fun z => z.elim (fun z => nw (.inl z)) fun q => (neU a o (g₃.mono a o nw e)).2 q) (g₃.mono a o nw e), fun a o e => ⟨(g.sub a o e).1, ?_⟩⟩, off _ uI ⟨_, heI₃⟩, off _ uC ⟨_, eC⟩, off _ uD ⟨_, hacc₃⟩⟩
        rcases (g.sub a o e).2 with z | z
        · refine ex1 (Option.ne_none_iff_exists'.mp z) fun o' e' => ?_
          exact (g₃.sub a o' e').2
        · by_cases nw : W a
          · exact .inl (hW a nw)
          · by_cases nI : a = I
            · subst nI; rw [heI₃] at z; (first | with_reducible exact no_some z | with_reducible exact some_no z | with_reducible exact no_bool z | with_reducible exact no_bool' z | cases z)
            · refine .inr ?_
              cases y : s₂.heap.get? a with
              | none => rfl
              | some o' => rw [g₃.keep a o' (fun q => q.elim nw nI) y] at z; (first | with_reducible exact no_some z | with_reducible exact some_no z | with_reducible exact no_bool z | with_reducible exact no_bool' z | cases z)
      cases ok with
      | true =>
        simp only [if_true] at h₄ ⊢
        refine wpAny_mono h₄ (fun y s₅ h₅ => ?_) fun _ _ e => e.elim
        refine ex4 (h₅) fun U'' h'' tk'' m₃ hx7 => ?_
        refine and3 hx7 fun er7_4 S'' inv' => ?_
        clear hx7
        try clear h₅
        subst er7_4
        have g := S''.outW hWU uC
        refine and4 (after U'' h'' g) fun gg vI vC vD => ?_
        have zD := g.keep _ _ (fun z => z.elim hWD hDC) hacc₃
        have zI := g.keep _ _ (fun z => z.elim hWI hCI) heI₃
        refine append_at (hsz := by show ys.toArray.size ≤ sizeLine; rw [List.size_toArray]; exact Nat.le_trans (Nat.le_trans hyl hi) hsz) zD fun h₅ hs₅ hD₅ => ?_
        have neD : ∀ a o, U'' a = some o → a ≠ s₂.heap.objs.size := fun a o e q => by rw [q, vD] at e; (first | with_reducible exact no_some e | with_reducible exact some_no e | with_reducible exact no_bool e | with_reducible exact no_bool' e | cases e)
        refine ⟨n + 1 - (i + 1), by omega, h₅, tk'', i + 1, ys ++ [y], _, U'', rfl, hlt, rfl, by rw [List.length_append, List.length_singleton]; exact Nat.succ_le_succ hyl,
          Wa.frame _ _ _ hst₃ fun b hb o e => hs₅.extBut b o (fun q => hDf (q ▸ hb)) (g.keep b o (fun z => z.elim (hWfp b hb) fun q => hCf (by rw [← q]; exact hb)) e), ⟨fun a o nw e => hs₅.extBut a o (fun q => by rw [q, hD₀] at e; (first | with_reducible exact no_some e | with_reducible exact some_no e | with_reducible exact no_bool e | with_reducible exact no_bool' e | cases e)) (gg.keep a o nw e), gg.mono, fun a o e => ⟨hs₅.extBut a o (neD a o e) (gg.sub a o e).1, (gg.sub a o e).2⟩⟩,
          S''.ns.sameBut hs₅ (Ne.symm hDC), ?_, ⟨_, hs₅.extBut _ _ hDI zI⟩, vI, vC, vD, inv'⟩
        exact hD₅.trans (congrArg some (LCg.lst_snoc ys y))
      | false =>
        simp only [Bool.false_eq_true, if_false] at h₄ ⊢
        refine ex4 (h₄) fun U'' h'' tk'' m₃ hx9 => ?_
        refine and3 hx9 fun er9_4 S'' inv' => ?_
        clear hx9
        try clear h₄
        subst er9_4
        have g := S''.outW hWU uC
        refine and4 (after U'' h'' g) fun gg vI vC vD => ?_
        exact ⟨n + 1 - (i + 1), by omega, h'', tk'', i + 1, ys, _, U'', rfl, hlt, rfl, Nat.le_succ_of_le hyl, Wa.frame _ _ _ hst₃ fun b hb o e => g.keep b o (fun z => z.elim (hWfp b hb) fun q => hCf (by rw [← q]; exact hb)) e, gg, S''.ns,
          g.keep _ _ (fun z => z.elim hWD hDC) hacc₃, ⟨_, g.keep _ _ (fun z => z.elim hWI hCI) heI₃⟩, vI, vC, vD, inv'⟩
    · obtain rfl : i = n := Nat.le_antisymm hi (Nat.not_lt.mp hlt)
      refine Wa.done _ _ _ hst' fun h₂ tk₂ hk₂ => ?_
      have k2 : ∀ b o, b ≠ I → h'.get? b = some o → h₂.get? b = some o := fun b o n1 e => hk₂ b o (by simpa using n1) e
      have neU : ∀ a o, U' a = some o → a ≠ I := fun a o e q => by rw [q, uI] at e; (first | with_reducible exact no_some e | with_reducible exact some_no e | with_reducible exact no_bool e | with_reducible exact no_bool' e | cases e)
      exact done _ _ ys U' h₂ tk₂ _ ⟨fun a o nw e => k2 a o (fun q => nw (.inr q)) (g'.keep a o nw e), g'.mono, fun a o e => ⟨k2 a o (neU a o e) (g'.sub a o e).1, (g'.sub a o e).2⟩⟩ uD hD₀ (k2 _ _ (Ne.symm hDI) hacc')
        (hn'.at' fun o e => k2 _ o (Ne.symm hCI) e) (Ne.symm hDC) hC₀ uC inv hyl
  exact codeAny_compStart_list (loop _ rfl) (Wa.self 0 _ _ _ hst₁ (loop _ rfl))
end

structure Src (prog : Program) (w : World) (A : Around) (xv : Value) (h : Heap) (W : Addr → Prop) (n : Nat) (P : Nat → Value → Prop) : Prop where
  ex : ∃ (oI : Obj) (fp : List Addr) (Wk : Nat → Heap → Prop), oI.isFreed = false ∧
    (∀ (s : Shared) (Q : Value → Shared → Prop) (E : Value → Shared → Prop), s.heap = h → Q (.ref h.objs.size) { s with heap := h.push oI } → wpAny (model prog w) A (pyIter xv) Q E s) ∧
    Walks prog w A h.objs.size fp [h.objs.size] n P Wk ∧ Wk 0 (h.push oI) ∧ (∀ b ∈ fp, b = h.objs.size ∨ (b < h.objs.size ∧ ¬ W b)) ∧ (∀ i h', Wk i h' → ∃ o, h'.get? h.objs.size = some o)

section
variable {prog : Program} {w : World} {A : Around} {E : Value → Shared → Prop} {W : Addr → Prop} {h : Heap}
theorem Src.list {ax : Addr} {its : Array Value} (hh : A.handled = none) (hl : h.IsList ax its) (hW : ¬ W ax) : Src prog w A (.ref ax) h W its.size (fun i v => its[i]? = some v) where
  ex := by
    have hlt : ax < h.objs.size := by obtain ⟨_, e, _⟩ := hl; exact Heap.lt_size e
    refine ⟨{ cls := .type "list_iterator", data := .fields #[.ref ax, .int 0 0] }, _, _, rfl, fun s Q E e q => ?_, Walks.list hh h.objs.size ax (Nat.ne_of_lt hlt) its, ⟨⟨_, Heap.get?_push_size _ rfl, rfl, rfl⟩, hl.push _⟩, fun b hb => ?_, fun i h' st => by obtain ⟨o, e, _⟩ := st.1; exact ⟨o, e⟩⟩
    · subst e; exact wpAny_pyIter_list hl q
    · rcases List.mem_cons.mp hb with rfl | hb
      · exact .inl rfl
      · rw [List.mem_singleton.mp hb]; exact .inr ⟨hlt, hW⟩
theorem Src.tuple {ax : Addr} {its : Array Value} (hh : A.handled = none) (hl : h.IsTuple ax its) (hW : ¬ W ax) : Src prog w A (.ref ax) h W its.size (fun i v => its[i]? = some v) where
  ex := by
    have hlt : ax < h.objs.size := by obtain ⟨_, e, _⟩ := hl; exact Heap.lt_size e
    refine ⟨{ cls := .type "tuple_iterator", data := .fields #[.ref ax, .int 0 0] }, _, _, rfl, fun s Q E e q => ?_, Walks.tuple hh h.objs.size ax (Nat.ne_of_lt hlt) its, ⟨⟨_, Heap.get?_push_size _ rfl, rfl, rfl⟩, ?_⟩, fun b hb => ?_, fun i h' st => by obtain ⟨o, e, _⟩ := st.1; exact ⟨o, e⟩⟩
    · subst e; exact wpAny_pyIter_tuple hl q
    · obtain ⟨o, e, r⟩ := hl; exact ⟨o, Heap.get?_push_of_some _ e, r⟩
    · rcases List.mem_cons.mp hb with rfl | hb
      · exact .inl rfl
      · rw [List.mem_singleton.mp hb]; exact .inr ⟨hlt, hW⟩
theorem Src.dict {K : Type} [DecidableEq K] {knd : KeyKind prog w K} {d : Addr} {kvs : List (K × Value)} {ep : Nat} (hh : A.handled = none) (hd : (d == sysModules) = false) (hl : h.DictAt knd d kvs ep) (hW : ¬ W d) :
    Src prog w A (.ref d) h W kvs.length (fun i v => ∃ k x, kvs[i]? = some (k, x) ∧ knd.is k v = true) where
  ex := by
    have hlt : d < h.objs.size := by obtain ⟨_, _, e, _⟩ := hl; exact Heap.lt_size e
    refine ⟨{ cls := .type "dict_keyiterator", data := .fields #[.ref d, .int 0 0, .int kvs.length 0, .int ep 0] }, _, _, rfl, fun s Q E e q => ?_, Walks.dictKeys (knd := knd) hh h.objs.size d (Nat.ne_of_lt hlt) kvs ep, ⟨⟨_, Heap.get?_push_size _ rfl, rfl, rfl⟩, ?_⟩, fun b hb => ?_, fun i h' st => by obtain ⟨o, e, _⟩ := st.1; exact ⟨o, e⟩⟩
    · subst e; exact wpAny_pyIter_dict hd hl q
    · exact hl.keep fun b o e => Heap.get?_push_of_some _ e
    · rcases List.mem_cons.mp hb with rfl | hb
      · exact .inl rfl
      · rw [List.mem_singleton.mp hb]; exact .inr ⟨hlt, hW⟩
theorem Src.range {r : Addr} {a b : Int} {t u v : Tok} {n : Nat} (hh : A.handled = none) (hr : IsRange h r a b 1 t u v) (hsm : Builtin.Range.small a b 1 = true) (hn : Builtin.Range.rangeSize a b 1 = ((n : Nat) : Int)) :
    Src prog w A (.ref r) h W n (fun i v => ∃ t, v = .int (a + (i : Int)) t) where
  ex := by
    refine ⟨{ cls := .type "range_iterator", data := .fields #[rawInt a, rawInt (Builtin.Range.rangeSize a b 1), rawInt 1] }, _, _, rfl, fun s Q E e q => ?_, LCg.range_walks hh a n, ?_, fun b hb => .inl (List.mem_singleton.mp hb), fun i h' st => ⟨_, st⟩⟩
    · subst e; exact wpAny_pyIter_range hr hsm q
    · show IsRangeIter _ _ _ _ _
      rw [hn]; simpa using Heap.get?_push_size h rfl
end

section
variable {prog : Program} {w : World} {A : Around} {E : Value → Shared → Prop} {s : Shared} {env : Env}
noncomputable def CompW (prog : Program) (w : World) (A : Around) (E : Value → Shared → Prop) (env : Env) (elt iter : Expr) (x : Str) (px : Pos) (ifs : List Expr) (scope : Scope) (cl : List (Str × Addr)) (pos : Pos) (Q : Value → Shared → Prop) (xv : Value) (s₁ : Shared) : Prop :=
  wpAny (model prog w) A (pyIter xv) (fun it s₂ => wpAny (model prog w) A (newList []) (fun acc s₃ =>
      wpAny (model prog w) A (newFunctionEnv scope env.globals cl [] env.qual none .none (some env)) (fun cenv s₄ =>
        codeAny (model prog w) A (.compStart (.ListComp elt [⟨.Name x px, iter, ifs, 0⟩] scope pos) 0 it acc { cenv with scope := relabel scope env }) (compPost (model prog w) A E none Q acc cenv.locals) s₄) E s₃) E s₂) E s₁
theorem eval_comp {elt iter : Expr} {x : Str} {px : Pos} {ifs : List Expr} {scope : Scope} {cl : List (Str × Addr)} {pos : Pos} {Q : Value → Shared → Prop}
    (hclos : closureFor scope env = pure cl) (h : wpAny (model prog w) A (eval iter env) (CompW prog w A E env elt iter x px ifs scope cl pos Q) E s)
    (hkind : scope.kind = .function := by kernel_rfl)
    (hnames : (scope.names.all fun y => !(y.2 == .local) || (scope.names.lookup y.1 == some .local)) = true := by kernel_rfl)
    (hs : ∀ x, foldedSetIterable iter env x = pure x := by intro _; rfl) :
    wpAny (model prog w) A (eval (.ListComp elt [⟨.Name x px, iter, ifs, 0⟩] scope pos) env) Q E s := by
  rw [eval_ListComp]
  refine wpAny_comprehension_free (use := none) rfl hs hclos hkind (fun y hy hl => ?_) h
  have z := List.all_eq_true.mp hnames y hy
  rw [hl] at z
  simpa using z

theorem comp_of {elt iter : Expr} {x : Str} {px : Pos} {ifs : List Expr} {scope : Scope} {cl : List (Str × Addr)} {pos : Pos} {Q : Value → Shared → Prop} {xv : Value} {n : Nat} {P : Nat → Value → Prop} {W : Addr → Prop}
    {B G₀ G : PMap} {L : Addr} {m : Str → Option Value} {K : Frag} {p : Program} {loose : List Str} {mg mb : Str → Option Value} (Inv : Nat → List Value → PMap → Prop)
    (S : St B G₀ L m G s.heap) (Z : Bs K p loose mg mb B) (src : Src prog w A xv s.heap W n P) (hWB : ∀ a, W a → B a = none) (hWin : ∀ i ys U', Inv i ys U' → ∀ a, W a → U' a ≠ none) (hsz : n ≤ sizeLine) (h0 : Inv 0 [] G)
    (turn : ∀ i v ys U' h tk C m₂, i < n → P i v → Grow W G s.heap U' h → St (mask (fun a => W a ∨ a = C) h.get?) (mask W U') C m₂ U' h → Bs K p loose mg mb (mask (fun a => W a ∨ a = C) h.get?) → m₂ x = some v → Inv i ys U' → ys.length ≤ i →
      wpAny (model prog w) A (testsOf ifs (compEnvC scope cl C env)) (fun ok s' => if ok = true then wpAny (model prog w) A (eval elt (compEnvC scope cl C env)) (fun y s'' =>
          ∃ U'' h'' tk'' m₃, s'' = { s with heap := h'', toks := tk'' } ∧ St (mask (fun a => W a ∨ a = C) h.get?) (mask W U') C m₃ U'' h'' ∧ Inv (i + 1) (ys ++ [y]) U'') (fun _ _ => False) s'
        else ∃ U'' h'' tk'' m₃, s' = { s with heap := h'', toks := tk'' } ∧ St (mask (fun a => W a ∨ a = C) h.get?) (mask W U') C m₃ U'' h'' ∧ Inv (i + 1) ys U'') (fun _ _ => False) { s with heap := h, toks := tk })
    (done : ∀ D ys U' h tk, St B G₀ L m (put U' D (lstOf ys)) h → U' D = none → B D = none → s.heap.get? D = none → Grow W G s.heap (put U' D (lstOf ys)) h → Grow W G s.heap U' h → Inv n ys U' → ys.length ≤ n → Q (.ref D) { s with heap := h, toks := tk })
    (hcell : (scope.names.all fun y => !(y.2 == .cell)) = true := by kernel_rfl) (hkind : scope.kind = .function := by kernel_rfl) (hx : scope.names.lookup x = some .local := by kernel_rfl) :
    CompW prog w A E env elt iter x px ifs scope cl pos Q xv s := by
  refine ex3 (src.ex) fun oI fp Wk hx11 => ?_
  refine and6 hx11 fun hf it Wa hst hfp hIo => ?_
  clear hx11
  have hWG := hWin 0 [] G h0
  have hWL : ¬ W L := fun z => by
    refine ex1 (Option.ne_none_iff_exists'.mp (hWG L z)) fun o e => ?_
    exact (S.sub L o e).2.1 rfl
  have up : ∀ b o, s.heap.get? b = some o → (s.heap.push oI).get? b = some o := fun b o e => Heap.get?_push_of_some _ e
  have fresh : ∀ a, (s.heap.push oI).get? a = none → s.heap.get? a = none := fun a q => by
    cases e : s.heap.get? a with
    | none => rfl
    | some o => rw [up a o e] at q; (first | with_reducible exact no_some q | with_reducible exact some_no q | with_reducible exact no_bool q | with_reducible exact no_bool' q | cases q)
  have hIn : s.heap.get? s.heap.objs.size = none := no_size
  have gI : ∀ U' h, Grow (fun a => W a ∨ a = s.heap.objs.size) G (s.heap.push oI) U' h → Grow W G s.heap U' h := by
    intro U' h g
    refine ⟨fun a o nw e => g.keep a o (fun z => z.elim nw fun q => by rw [q, hIn] at e; (first | with_reducible exact no_some e | with_reducible exact some_no e | with_reducible exact no_bool e | with_reducible exact no_bool' e | cases e)) (up a o e), fun a o nw e => g.mono a o (fun z => z.elim nw fun q => by rw [q, S.size] at e; (first | with_reducible exact no_some e | with_reducible exact some_no e | with_reducible exact no_bool e | with_reducible exact no_bool' e | cases e)) e, fun a o e => ⟨(g.sub a o e).1, (g.sub a o e).2.imp id (fresh a)⟩⟩
  have S₂ := S.kept up
  have nW : ∀ a, s.heap.get? a = none → ¬ W a := fun a q z => by
    refine ex1 (Option.ne_none_iff_exists'.mp (hWG a z)) fun o e => ?_
    rw [S.get e] at q; (first | with_reducible exact no_some q | with_reducible exact some_no q | with_reducible exact no_bool q | with_reducible exact no_bool' q | cases q)
  refine it s _ _ rfl ?_
  refine comp_block (s₂ := { s with heap := s.heap.push oI }) (W := W) (U := G) (Inv := Inv) Wa hsz (fun y hy => ?_) hkind hx hst (fun b hb => ?_) hIo (fun a o e => S₂.get e) S.size hWG hWin (fun b hb => ?_) h0 ?_ ?_
  · have z := List.all_eq_true.mp hcell y hy
    intro q; rw [q] at z; (first | with_reducible exact no_some z | with_reducible exact some_no z | with_reducible exact no_bool z | with_reducible exact no_bool' z | cases z)
  · show b < (s.heap.push oI).objs.size
    rw [Heap.size_push]
    rcases hfp b hb with rfl | q
    · exact Nat.lt_succ_self _
    · exact Nat.lt_succ_of_lt q.1
  · rcases hfp b hb with rfl | q
    · exact fun z => hWG _ z S.size
    · exact q.2
  · intro i v ys U' h tk C m₂ hi hP g hC S' hm inv hl
    have g' := gI U' h g
    refine turn i v ys U' h tk C m₂ hi hP g' S' (Z.mono fun b o e => ?_) hm inv hl
    have e' := S.keep b o e
    rw [mask_out fun z => z.elim (fun z => by rw [hWB b z] at e; (first | with_reducible exact no_some e | with_reducible exact some_no e | with_reducible exact no_bool e | with_reducible exact no_bool' e | cases e)) fun q => by rw [q, fresh C hC] at e'; cases e']
    exact g'.keep b o (fun z => by rw [hWB b z] at e; (first | with_reducible exact no_some e | with_reducible exact some_no e | with_reducible exact no_bool e | with_reducible exact no_bool' e | cases e)) e'
  · intro D C ys U' h tk m' g uD d0 hD hn hCD c0 uC inv hl
    have g' := gI U' h g
    have d1 := fresh D d0
    have hBD : B D = none := by
      cases e : B D with
      | none => rfl
      | some o => have := S.keep _ _ e; rw [d1] at this; (first | with_reducible exact no_some this | with_reducible exact some_no this | with_reducible exact no_bool this | with_reducible exact no_bool' this | cases this)
    refine ⟨m', hn, fun h'' hs => ?_⟩
    have c1 := fresh C c0
    have neC : ∀ a o, U' a = some o → a ≠ C := by
      intro a o e q
      rw [q, uC] at e; (first | with_reducible exact no_some e | with_reducible exact some_no e | with_reducible exact no_bool e | with_reducible exact no_bool' e | cases e)
    have sub'' : ∀ a o, U' a = some o → h''.get? a = some o := fun a o e => (hs.2 a (neC a o e)).trans (g'.sub a o e).1
    have gU : Grow W G s.heap U' h'' :=
      ⟨fun a o nw e => (hs.2 a (fun q => by rw [q, c1] at e; (first | with_reducible exact no_some e | with_reducible exact some_no e | with_reducible exact no_bool e | with_reducible exact no_bool' e | cases e))).trans (g'.keep a o nw e), g'.mono, fun a o e => ⟨sub'' a o e, (g'.sub a o e).2⟩⟩
    have gF : Grow W G s.heap (put U' D (lstOf ys)) h'' := by
      refine ⟨gU.keep, fun a o nw e => put_old uD _ _ (gU.mono a o nw e), fun a o e => ?_⟩
      by_cases q : a = D
      · subst q
        rw [put_self] at e; (first | with_reducible exact no_some e | with_reducible exact some_no e | with_reducible exact no_bool e | with_reducible exact no_bool' e | cases e)
        exact ⟨(hs.2 a (Ne.symm hCD)).trans hD, .inr d1⟩
      · rw [put_ne q] at e
        exact gU.sub a o e
    exact done D ys U' h'' tk (S.grow gF hWB hWL) uD hBD d1 gF gU inv hl
end

section
variable {prog : Program} {w : World} {A : Around} {E : Value → Shared → Prop} {s : Shared} {env : Env} {Q : Flow → Shared → Prop} {rest body : List Stmt}
noncomputable def ForW (prog : Program) (w : World) (A : Around) (E : Value → Shared → Prop) (env : Env) (x : Str) (px : Pos) (body rest : List Stmt) (Q : Flow → Shared → Prop) (xv : Value) (s₁ : Shared) : Prop :=
  wpAny (model prog w) A (pyIter xv) (fun it s₂ => codeAny (model prog w) A (.forLoop (.Name x px) it body [] env)
    (fun r s' => match r with | .ok f => Then prog w A rest env Q E f s' | .error e => cameBackBy (model prog w) A env E e s') s₂) E s₁
theorem x_for {x : Str} {px pos : Pos} {iter : Expr} (h : wpAny (model prog w) A (eval iter env) (ForW prog w A E env x px body rest Q) E s)
    (hs : ∀ x, foldedSetIterable iter env x = pure x := by intro _; rfl) :
    wpAny (model prog w) A (execs (.For (.Name x px) iter body [] pos :: rest) env) Q E s := by
  have e : ∀ (f : Flow) (s' : Shared), Then prog w A rest env Q E f s' → (match f with | .next => wpAny (model prog w) A (execs rest env) Q E s' | f => Q f s') := by
    intro f s' z; cases f <;> exact z
  refine wpAny_execs_cons (wpAny_mono (wpAny_For (Q := Then prog w A rest env Q E) ?_ hs) e fun _ _ x => x)
  exact h

theorem for_of {x : Str} {px : Pos} {xv : Value} {n : Nat} {P : Nat → Value → Prop} {W : Addr → Prop}
    {B G₀ G : PMap} {L : Addr} {m : Str → Option Value} {K : Frag} {p : Program} {loose : List Str} {mg mb : Str → Option Value} (Inv : Nat → (Str → Option Value) → PMap → Prop)
    (S : St B G₀ L m G s.heap) (Z : Bs K p loose mg mb B) (src : Src prog w A xv s.heap (fun a => W a ∨ a = L) n P) (hWB : ∀ a, W a → B a = none) (hWin : ∀ i m' U', Inv i m' U' → ∀ a, W a → U' a ≠ none) (h0 : Inv 0 m G)
    (turn : ∀ i v m' U' h tk, i < n → P i v → Grow (fun a => W a ∨ a = L) G s.heap U' h → St (mask (fun a => W a ∨ a = L) h.get?) (mask W U') L (upd m' x v) U' h → Bs K p loose mg mb (mask (fun a => W a ∨ a = L) h.get?) → Inv i m' U' →
      wpAny (model prog w) A (execs body env) (fun f s'' => f = .next ∧ ∃ U'' h'' tk'' m'', s'' = { s with heap := h'', toks := tk'' } ∧ St (mask (fun a => W a ∨ a = L) h.get?) (mask W U') L m'' U'' h'' ∧ Inv (i + 1) m'' U'') (fun _ _ => False) { s with heap := h, toks := tk })
    (done : ∀ m' U' h tk, St B G₀ L m' U' h → Grow (fun a => W a ∨ a = L) G s.heap U' h → Inv n m' U' → wpAny (model prog w) A (execs rest env) Q E { s with heap := h, toks := tk })
    (hL : env.locals = L := by kernel_rfl) (hk : env.scope.kind = .function := by kernel_rfl) (hx : env.kindOf x = some .local := by kernel_rfl) :
    ForW prog w A E env x px body rest Q xv s := by
  subst hL
  refine ex3 (src.ex) fun oI fp Wk hx14 => ?_
  refine and6 hx14 fun hf it Wa hst hfp hIo => ?_
  clear hx14
  have hWG := hWin 0 m G h0
  have up : ∀ b o, s.heap.get? b = some o → (s.heap.push oI).get? b = some o := fun b o e => Heap.get?_push_of_some _ e
  have fresh : ∀ a, (s.heap.push oI).get? a = none → s.heap.get? a = none := fun a q => by
    cases e : s.heap.get? a with
    | none => rfl
    | some o => rw [up a o e] at q; (first | with_reducible exact no_some q | with_reducible exact some_no q | with_reducible exact no_bool q | with_reducible exact no_bool' q | cases q)
  have hIn : s.heap.get? s.heap.objs.size = none := no_size
  have S₂ := S.kept up
  have nW : ∀ a, s.heap.get? a = none → ¬ W a := fun a q z => by
    refine ex1 (Option.ne_none_iff_exists'.mp (hWG a z)) fun o e => ?_
    rw [S.get e] at q; (first | with_reducible exact no_some q | with_reducible exact some_no q | with_reducible exact no_bool q | with_reducible exact no_bool' q | cases q)
  refine ex1 (S.has) fun oL hoL => ?_
  have hLI : env.locals ≠ s.heap.objs.size := fun q => by rw [q, hIn] at hoL; (first | with_reducible exact no_some hoL | with_reducible exact some_no hoL | with_reducible exact no_bool hoL | with_reducible exact no_bool' hoL | cases hoL)
  have hIf : s.heap.objs.size ∈ fp := Wa.sub _ (List.mem_singleton.mpr rfl)
  have hWI := nW _ hIn
  have hfp' : ∀ b ∈ fp, ¬ (W b ∨ b = env.locals) := fun b hb => by
    rcases hfp b hb with rfl | q
    · exact fun z => z.elim hWI (Ne.symm hLI)
    · exact q.2
  refine it s _ _ rfl ?_
  refine codeAny_forLoop (fun k s' => ∃ h' tk i m' U', s' = { s with heap := h', toks := tk } ∧ i ≤ n ∧ k = n + 1 - i ∧ Wk i h' ∧ Grow (fun a => W a ∨ a = env.locals) G s.heap U' h' ∧ h'.Ns env.locals m' ∧
      U' s.heap.objs.size = none ∧ U' env.locals = none ∧ (∃ o, h'.get? s.heap.objs.size = some o) ∧ Inv i m' U') ?_ (n + 1) ⟨_, _, 0, m, G, rfl, Nat.zero_le _, rfl, hst, .heap (fun a o e => up a o (S.get e)) (fun a o _ e => up a o e), S₂.ns, S.size, S.noL, hIo _ _ hst, h0⟩
  intro k s' hi16_2
  refine ex5 (hi16_2) fun h' tk i m' U' hx18 => ?_
  refine and10 hx18 fun er18_5 hi er18_7 hst' g' hn' uI uL hp18_13 inv => ?_
  clear hx18
  clear hi16_2
  subst er18_5
  subst er18_7
  refine ex1 (hp18_13) fun oI' heI => ?_
  clear hp18_13
  have neU : ∀ a o, U' a = some o → a ≠ s.heap.objs.size := by
    intro a o e q
    rw [q, uI] at e; (first | with_reducible exact no_some e | with_reducible exact some_no e | with_reducible exact no_bool e | with_reducible exact no_bool' e | cases e)
  have neL : ∀ a o, U' a = some o → a ≠ env.locals := by
    intro a o e q
    rw [q, uL] at e; (first | with_reducible exact no_some e | with_reducible exact some_no e | with_reducible exact no_bool e | with_reducible exact no_bool' e | cases e)
  by_cases hlt : i < n
  · refine Wa.item i _ _ _ hlt hst' fun v h₂ tk₂ hPv hst₂ hk₂ => ?_
    have k2 : ∀ b o, b ≠ s.heap.objs.size → h'.get? b = some o → h₂.get? b = some o := fun b o n1 e => hk₂ b o (by simpa using n1) e
    refine wpAny_assign_Name (wpAny_storeName_local hx (hn'.at' fun o e => k2 _ o hLI e) (fun h₃ hn₃ hs₃ => ?_) (by rw [hk]; rfl))
    have k3 : ∀ b o, b ≠ s.heap.objs.size → b ≠ env.locals → h'.get? b = some o → h₃.get? b = some o := fun b o n1 n2 e => (hs₃.2 b n2).trans (k2 b o n1 e)
    have hst₃ : Wk (i + 1) h₃ := Wa.frame _ _ _ hst₂ fun b hb o e => (hs₃.2 b fun q => hfp' b hb (.inr q)).trans e
    refine ex1 (hIo _ _ hst₃) fun oI₃ heI₃ => ?_
    have g₃ : Grow (fun a => W a ∨ a = env.locals) G s.heap U' h₃ :=
      ⟨fun a o nw e => k3 a o (fun q => by rw [q, hIn] at e; (first | with_reducible exact no_some e | with_reducible exact some_no e | with_reducible exact no_bool e | with_reducible exact no_bool' e | cases e)) (fun q => nw (.inr q)) (g'.keep a o nw e), g'.mono, fun a o e => ⟨k3 a o (neU a o e) (neL a o e) (g'.sub a o e).1, (g'.sub a o e).2⟩⟩
    have S₃ : St (fun _ => none) (fun _ => none) env.locals (upd m' x v) U' h₃ :=
      ⟨hn₃, (fun _ _ e => by (first | with_reducible exact no_some e | with_reducible exact some_no e | with_reducible exact no_bool e | with_reducible exact no_bool' e | cases e)), rfl, (fun _ _ e => by (first | with_reducible exact no_some e | with_reducible exact some_no e | with_reducible exact no_bool e | with_reducible exact no_bool' e | cases e)), (fun _ _ e => by (first | with_reducible exact no_some e | with_reducible exact some_no e | with_reducible exact no_bool e | with_reducible exact no_bool' e | cases e)), fun a o e => ⟨(g₃.sub a o e).1, neL a o e, .inr rfl⟩⟩
    refine wpAny_mono (turn i v m' U' h₃ _ hlt hPv g₃ (S₃.again W) (Z.mono fun b o e => ?_) inv) (fun f s₄ h₄ => ?_) fun _ _ e => e.elim
    · have e' := S.keep b o e
      have nb : ¬ (W b ∨ b = env.locals) := fun z => z.elim (fun z => by rw [hWB b z] at e; (first | with_reducible exact no_some e | with_reducible exact some_no e | with_reducible exact no_bool e | with_reducible exact no_bool' e | cases e)) fun q => by rw [q, S.off] at e; (first | with_reducible exact no_some e | with_reducible exact some_no e | with_reducible exact no_bool e | with_reducible exact no_bool' e | cases e)
      rw [mask_out nb]
      exact g₃.keep b o nb e'
    · obtain ⟨er21_0, U'', h'', tk'', m'', er21_5, S'', inv'⟩ := h₄
      subst er21_0
      subst er21_5
      have g := S''.outW (hWin i m' U' inv) uL
      have uI' : U'' s.heap.objs.size = none := by
        cases q : U'' s.heap.objs.size with
        | none => rfl
        | some o' =>
          rcases (g.sub _ _ q).2 with z | z
          · exact absurd uI z
          · rw [heI₃] at z; (first | with_reducible exact no_some z | with_reducible exact some_no z | with_reducible exact no_bool z | with_reducible exact no_bool' z | cases z)
      refine ⟨n + 1 - (i + 1), by omega, h'', tk'', i + 1, m'', U'', rfl, hlt, rfl, Wa.frame _ _ _ hst₃ fun b hb o e => g.keep b o (hfp' b hb) e,
        ⟨fun a o nw e => g.keep a o nw (g₃.keep a o nw e), fun a o nw e => g.mono a o nw (g₃.mono a o nw e), fun a o e => ⟨(g.sub a o e).1, ?_⟩⟩, S''.ns, uI', S''.noL, ⟨_, g.keep _ _ (hfp' _ hIf) heI₃⟩, inv'⟩
      rcases (g.sub a o e).2 with z | z
      · refine ex1 (Option.ne_none_iff_exists'.mp z) fun o' e' => ?_
        exact (g₃.sub a o' e').2
      · by_cases nw : W a
        · exact .inl (hWG a nw)
        · by_cases nL : a = env.locals
          · rw [nL, S''.noL] at e; (first | with_reducible exact no_some e | with_reducible exact some_no e | with_reducible exact no_bool e | with_reducible exact no_bool' e | cases e)
          · refine .inr ?_
            cases y : s.heap.get? a with
            | none => rfl
            | some o' => rw [g₃.keep a o' (fun q => q.elim nw nL) y] at z; (first | with_reducible exact no_some z | with_reducible exact some_no z | with_reducible exact no_bool z | with_reducible exact no_bool' z | cases z)
  · obtain rfl : i = n := Nat.le_antisymm hi (Nat.not_lt.mp hlt)
    refine Wa.done _ _ _ hst' fun h₂ tk₂ hk₂ => ?_
    have k2 : ∀ b o, b ≠ s.heap.objs.size → h'.get? b = some o → h₂.get? b = some o := fun b o n1 e => hk₂ b o (by simpa using n1) e
    refine wpAny_execs_nil ?_
    have g₂ : Grow (fun a => W a ∨ a = env.locals) G s.heap U' h₂ :=
      ⟨fun a o nw e => k2 a o (fun q => by rw [q, hIn] at e; (first | with_reducible exact no_some e | with_reducible exact some_no e | with_reducible exact no_bool e | with_reducible exact no_bool' e | cases e)) (g'.keep a o nw e), g'.mono, fun a o e => ⟨k2 a o (neU a o e) (g'.sub a o e).1, (g'.sub a o e).2⟩⟩
    refine done m' U' h₂ tk₂ ?_ g₂ inv
    have hn₂ : h₂.Ns env.locals m' := hn'.at' fun o e => k2 _ o hLI e
    have S0 : St (fun _ => none) (fun _ => none) env.locals m' U' h₂ :=
      ⟨hn₂, (fun _ _ e => by (first | with_reducible exact no_some e | with_reducible exact some_no e | with_reducible exact no_bool e | with_reducible exact no_bool' e | cases e)), rfl, (fun _ _ e => by (first | with_reducible exact no_some e | with_reducible exact some_no e | with_reducible exact no_bool e | with_reducible exact no_bool' e | cases e)), (fun _ _ e => by (first | with_reducible exact no_some e | with_reducible exact some_no e | with_reducible exact no_bool e | with_reducible exact no_bool' e | cases e)), fun a o e => ⟨(g₂.sub a o e).1, neL a o e, .inr rfl⟩⟩
    exact st_of_grow S g₂ hn₂ S0.noL hWB
end

section
variable {prog : Program} {w : World} {A : Around} {E : Value → Shared → Prop} {s : Shared} {env : Env} {Q : Flow → Shared → Prop} {rest body : List Stmt}
theorem x_while {test : Expr} {pos : Pos} {W : Addr → Prop}
    {B G₀ G : PMap} {L : Addr} {m : Str → Option Value} {K : Frag} {p : Program} {loose : List Str} {mg mb : Str → Option Value} (Inv : Nat → (Str → Option Value) → PMap → Prop) (Fin : (Str → Option Value) → PMap → Prop) (k : Nat)
    (S : St B G₀ L m G s.heap) (Z : Bs K p loose mg mb B) (hWB : ∀ a, W a → B a = none) (hWin : ∀ i m' U', Inv i m' U' → ∀ a, W a → U' a ≠ none) (h0 : Inv k m G)
    (turn : ∀ k m' U' h tk, Grow (fun a => W a ∨ a = L) G s.heap U' h → St (mask (fun a => W a ∨ a = L) h.get?) (mask W U') L m' U' h → Bs K p loose mg mb (mask (fun a => W a ∨ a = L) h.get?) → Inv k m' U' →
      wpAny (model prog w) A (isTrue test env (eval test env)) (fun b s₂ => if b = true then
        wpAny (model prog w) A (execs body env) (fun f s'' => f = .next ∧ ∃ k' U'' h'' tk'' m'', s'' = { s with heap := h'', toks := tk'' } ∧ k' < k ∧ St (mask (fun a => W a ∨ a = L) h.get?) (mask W U') L m'' U'' h'' ∧ Inv k' m'' U'') (fun _ _ => False) s₂
        else ∃ U'' h'' tk'' m'', s₂ = { s with heap := h'', toks := tk'' } ∧ St (mask (fun a => W a ∨ a = L) h.get?) (mask W U') L m'' U'' h'' ∧ Fin m'' U'') (fun _ _ => False) { s with heap := h, toks := tk })
    (done : ∀ m' U' h tk, St B G₀ L m' U' h → Grow (fun a => W a ∨ a = L) G s.heap U' h → Fin m' U' → wpAny (model prog w) A (execs rest env) Q E { s with heap := h, toks := tk }) :
    wpAny (model prog w) A (execs (.While test body [] pos :: rest) env) Q E s := by
  have hWG := hWin k m G h0
  have e : ∀ (f : Flow) (s' : Shared), Then prog w A rest env Q E f s' → (match f with | .next => wpAny (model prog w) A (execs rest env) Q E s' | f => Q f s') := by
    intro f s' z; cases f <;> exact z
  refine wpAny_execs_cons (wpAny_mono (wpAny_While (Q := Then prog w A rest env Q E) ?_) e fun _ _ x => x)
  refine codeAny_whileLoop (fun k s' => ∃ h' tk m' U', s' = { s with heap := h', toks := tk } ∧ Grow (fun a => W a ∨ a = L) G s.heap U' h' ∧ h'.Ns L m' ∧ U' L = none ∧ Inv k m' U') ?_ k
    ⟨s.heap, s.toks, m, G, rfl, .refl fun a o e => S.get e, S.ns, S.noL, h0⟩
  intro k s' hi22_2
  refine ex4 (hi22_2) fun h' tk m' U' hx24 => ?_
  refine and5 hx24 fun er24_4 g' hn' uL inv => ?_
  clear hx24
  clear hi22_2
  subst er24_4
  have neL : ∀ a o, U' a = some o → a ≠ L := by
    intro a o e q
    rw [q, uL] at e; (first | with_reducible exact no_some e | with_reducible exact some_no e | with_reducible exact no_bool e | with_reducible exact no_bool' e | cases e)
  have S₃ : St (fun _ => none) (fun _ => none) L m' U' h' :=
    ⟨hn', (fun _ _ e => by (first | with_reducible exact no_some e | with_reducible exact some_no e | with_reducible exact no_bool e | with_reducible exact no_bool' e | cases e)), rfl, (fun _ _ e => by (first | with_reducible exact no_some e | with_reducible exact some_no e | with_reducible exact no_bool e | with_reducible exact no_bool' e | cases e)), (fun _ _ e => by (first | with_reducible exact no_some e | with_reducible exact some_no e | with_reducible exact no_bool e | with_reducible exact no_bool' e | cases e)), fun a o e => ⟨(g'.sub a o e).1, neL a o e, .inr rfl⟩⟩
  have hZ : Bs K p loose mg mb (mask (fun a => W a ∨ a = L) h'.get?) := Z.mono fun b o e => by
    have e' := S.keep b o e
    have nb : ¬ (W b ∨ b = L) := fun z => z.elim (fun z => by rw [hWB b z] at e; (first | with_reducible exact no_some e | with_reducible exact some_no e | with_reducible exact no_bool e | with_reducible exact no_bool' e | cases e)) fun q => by rw [q, S.off] at e; (first | with_reducible exact no_some e | with_reducible exact some_no e | with_reducible exact no_bool e | with_reducible exact no_bool' e | cases e)
    rw [mask_out nb]
    exact g'.keep b o nb e'
  have join : ∀ (U'' : PMap) (h'' : Heap) (m'' : Str → Option Value), St (mask (fun a => W a ∨ a = L) h'.get?) (mask W U') L m'' U'' h'' → Grow (fun a => W a ∨ a = L) G s.heap U'' h'' := by
    intro U'' h'' m'' S''
    have g := S''.outW (hWin k m' U' inv) uL
    refine ⟨fun a o nw e => g.keep a o nw (g'.keep a o nw e), fun a o nw e => g.mono a o nw (g'.mono a o nw e), fun a o e => ⟨(g.sub a o e).1, ?_⟩⟩
    rcases (g.sub a o e).2 with z | z
    · refine ex1 (Option.ne_none_iff_exists'.mp z) fun o' e' => ?_
      exact (g'.sub a o' e').2
    · by_cases nw : W a
      · exact .inl (hWG a nw)
      · by_cases nL : a = L
        · rw [nL, S''.noL] at e; (first | with_reducible exact no_some e | with_reducible exact some_no e | with_reducible exact no_bool e | with_reducible exact no_bool' e | cases e)
        · refine .inr ?_
          cases y : s.heap.get? a with
          | none => rfl
          | some o' => rw [g'.keep a o' (fun q => q.elim nw nL) y] at z; (first | with_reducible exact no_some z | with_reducible exact some_no z | with_reducible exact no_bool z | with_reducible exact no_bool' z | cases z)
  refine wpAny_mono (turn k m' U' h' tk g' (S₃.again W) hZ inv) (fun b s₂ h₂ => ?_) fun _ _ e => e.elim
  cases b with
  | true =>
    simp only [if_true] at h₂ ⊢
    refine wpAny_mono h₂ (fun f s₃ h₃ => ?_) fun _ _ e => e.elim
    obtain ⟨er26_0, k', U'', h'', tk'', m'', er26_6, hk, S'', inv'⟩ := h₃
    subst er26_0
    subst er26_6
    exact ⟨k', hk, h'', tk'', m'', U'', rfl, join _ _ _ S'', S''.ns, S''.noL, inv'⟩
  | false =>
    simp only [Bool.false_eq_true, if_false] at h₂ ⊢
    refine ex4 (h₂) fun U'' h'' tk'' m'' hx27 => ?_
    refine and3 hx27 fun er27_4 S'' fin => ?_
    clear hx27
    try clear h₂
    subst er27_4
    refine wpAny_execs_nil ?_
    have g := join _ _ _ S''
    exact done m'' U'' h'' tk'' (st_of_grow S g S''.ns S''.noL hWB) g fin
end

abbrev Turned (c : Fx) (B G₀ : PMap) (C : Addr) (I : (Str → Option Value) → PMap → Prop) (s : Shared) : Prop := ∃ U h t m, s = c.at h t ∧ St B G₀ C m U h ∧ I m U
abbrev TurnedC (c : Fx) (B G₀ : PMap) (C : Addr) (I : PMap → Prop) (s : Shared) : Prop := ∃ U h t m, s = c.at h t ∧ St B G₀ C m U h ∧ I U
abbrev TurnedK (c : Fx) (B G₀ : PMap) (C : Addr) (I : Nat → (Str → Option Value) → PMap → Prop) (k : Nat) (s : Shared) : Prop := ∃ k' U h t m, s = c.at h t ∧ k' < k ∧ St B G₀ C m U h ∧ I k' m U
section
variable {prog : Program} {w : World} {A : Around} {E : Value → Shared → Prop} {c : Fx} {h : Heap} {t : Nat} {env : Env}
theorem comp_at {elt iter : Expr} {x : Str} {px : Pos} {ifs : List Expr} {scope : Scope} {cl : List (Str × Addr)} {pos : Pos} {Q : Value → Shared → Prop} {xv : Value} {n : Nat} {P : Nat → Value → Prop} {W : Addr → Prop}
    {B G₀ G : PMap} {L : Addr} {m : Str → Option Value} {K : Frag} {p : Program} {loose : List Str} {mg mb : Str → Option Value} (Inv : Nat → List Value → PMap → Prop)
    (S : St B G₀ L m G h) (Z : Bs K p loose mg mb B) (src : Src prog w A xv h W n P) (hWB : ∀ a, W a → B a = none) (hWin : ∀ i ys U', Inv i ys U' → ∀ a, W a → U' a ≠ none) (hsz : n ≤ sizeLine) (h0 : Inv 0 [] G)
    (turn : ∀ i v ys U' h' t' C m₂, i < n → P i v → Grow W G h U' h' → St (mask (fun a => W a ∨ a = C) h'.get?) (mask W U') C m₂ U' h' → Bs K p loose mg mb (mask (fun a => W a ∨ a = C) h'.get?) → m₂ x = some v → Inv i ys U' → ys.length ≤ i →
      wpAny (model prog w) A (testsOf ifs (compEnvC scope cl C env)) (fun ok s' => if ok = true then wpAny (model prog w) A (eval elt (compEnvC scope cl C env)) (fun y s'' =>
          TurnedC c (mask (fun a => W a ∨ a = C) h'.get?) (mask W U') C (Inv (i + 1) (ys ++ [y])) s'') (fun _ _ => False) s'
        else TurnedC c (mask (fun a => W a ∨ a = C) h'.get?) (mask W U') C (Inv (i + 1) ys) s') (fun _ _ => False) (c.at h' t'))
    (done : ∀ D ys U' h' t', St B G₀ L m (put U' D (lstOf ys)) h' → U' D = none → B D = none → h.get? D = none → Grow W G h (put U' D (lstOf ys)) h' → Grow W G h U' h' → Inv n ys U' → ys.length ≤ n → Q (.ref D) (c.at h' t'))
    (hcell : (scope.names.all fun y => !(y.2 == .cell)) = true := by kernel_rfl) (hkind : scope.kind = .function := by kernel_rfl) (hx : scope.names.lookup x = some .local := by kernel_rfl) :
    CompW prog w A E env elt iter x px ifs scope cl pos Q xv (c.at h t) :=
  comp_of (s := c.at h t) Inv S Z src hWB hWin hsz h0 turn done hcell hkind hx
theorem for_at {x : Str} {px : Pos} {xv : Value} {n : Nat} {P : Nat → Value → Prop} {W : Addr → Prop} {rest body : List Stmt} {Q : Flow → Shared → Prop}
    {B G₀ G : PMap} {L : Addr} {m : Str → Option Value} {K : Frag} {p : Program} {loose : List Str} {mg mb : Str → Option Value} (Inv : Nat → (Str → Option Value) → PMap → Prop)
    (S : St B G₀ L m G h) (Z : Bs K p loose mg mb B) (src : Src prog w A xv h (fun a => W a ∨ a = L) n P) (hWB : ∀ a, W a → B a = none) (hWin : ∀ i m' U', Inv i m' U' → ∀ a, W a → U' a ≠ none) (h0 : Inv 0 m G)
    (turn : ∀ i v m' U' h' t', i < n → P i v → Grow (fun a => W a ∨ a = L) G h U' h' → St (mask (fun a => W a ∨ a = L) h'.get?) (mask W U') L (upd m' x v) U' h' → Bs K p loose mg mb (mask (fun a => W a ∨ a = L) h'.get?) → Inv i m' U' →
      wpAny (model prog w) A (execs body env) (fun f s'' => f = .next ∧ Turned c (mask (fun a => W a ∨ a = L) h'.get?) (mask W U') L (Inv (i + 1)) s'') (fun _ _ => False) (c.at h' t'))
    (done : ∀ m' U' h' t', St B G₀ L m' U' h' → Grow (fun a => W a ∨ a = L) G h U' h' → Inv n m' U' → wpAny (model prog w) A (execs rest env) Q E (c.at h' t'))
    (hL : env.locals = L := by kernel_rfl) (hk : env.scope.kind = .function := by kernel_rfl) (hx : env.kindOf x = some .local := by kernel_rfl) :
    ForW prog w A E env x px body rest Q xv (c.at h t) :=
  for_of (s := c.at h t) Inv S Z src hWB hWin h0 turn done hL hk hx
theorem while_at {rest body : List Stmt} {Q : Flow → Shared → Prop} {test : Expr} {pos : Pos} {W : Addr → Prop}
    {B G₀ G : PMap} {L : Addr} {m : Str → Option Value} {K : Frag} {p : Program} {loose : List Str} {mg mb : Str → Option Value} (Inv : Nat → (Str → Option Value) → PMap → Prop) (Fin : (Str → Option Value) → PMap → Prop) (k : Nat)
    (S : St B G₀ L m G h) (Z : Bs K p loose mg mb B) (hWB : ∀ a, W a → B a = none) (hWin : ∀ i m' U', Inv i m' U' → ∀ a, W a → U' a ≠ none) (h0 : Inv k m G)
    (turn : ∀ k m' U' h' t', Grow (fun a => W a ∨ a = L) G h U' h' → St (mask (fun a => W a ∨ a = L) h'.get?) (mask W U') L m' U' h' → Bs K p loose mg mb (mask (fun a => W a ∨ a = L) h'.get?) → Inv k m' U' →
      wpAny (model prog w) A (isTrue test env (eval test env)) (fun b s₂ => if b = true then
        wpAny (model prog w) A (execs body env) (fun f s'' => f = .next ∧ TurnedK c (mask (fun a => W a ∨ a = L) h'.get?) (mask W U') L Inv k s'') (fun _ _ => False) s₂
        else Turned c (mask (fun a => W a ∨ a = L) h'.get?) (mask W U') L Fin s₂) (fun _ _ => False) (c.at h' t'))
    (done : ∀ m' U' h' t', St B G₀ L m' U' h' → Grow (fun a => W a ∨ a = L) G h U' h' → Fin m' U' → wpAny (model prog w) A (execs rest env) Q E (c.at h' t')) :
    wpAny (model prog w) A (execs (.While test body [] pos :: rest) env) Q E (c.at h t) :=
  x_while (s := c.at h t) Inv Fin k S Z hWB hWin h0 turn done
end

section
variable {prog : Program} {w : World} {A : Around} {E : Value → Shared → Prop} {s : Shared} {env : Env}
noncomputable def CompU (prog : Program) (w : World) (A : Around) (E : Value → Shared → Prop) (env : Env) (elt iter : Expr) (x : Str) (px : Pos) (ifs : List Expr) (scope : Scope) (cl : List (Str × Addr)) (pos : Pos) (y : Str) (py : Pos) (rest : List Stmt) (Q : Flow → Shared → Prop) (xv : Value) (s₁ : Shared) : Prop :=
  wpAny (model prog w) A (pyIter xv) (fun it s₂ => wpAny (model prog w) A (newList []) (fun acc s₃ =>
      wpAny (model prog w) A (newFunctionEnv scope env.globals cl [] env.qual none .none (some env)) (fun cenv s₄ =>
        codeAny (model prog w) A (.compStart (.ListComp elt [⟨.Name x px, iter, ifs, 0⟩] scope pos) 0 it acc { cenv with scope := relabel scope env })
          (compPost (model prog w) A E (some (assign (.Name y py) env)) (fun _ s' => wpAny (model prog w) A (execs rest env) Q E s') acc cenv.locals) s₄) E s₃) E s₂) E s₁
theorem x_assignComp {elt iter : Expr} {x y : Str} {px py : Pos} {ifs : List Expr} {scope : Scope} {cl : List (Str × Addr)} {pos spos : Pos} {rest : List Stmt} {Q : Flow → Shared → Prop}
    (hclos : closureFor scope env = pure cl) (h : wpAny (model prog w) A (eval iter env) (CompU prog w A E env elt iter x px ifs scope cl pos y py rest Q) E s)
    (hsw : swapsWith (.ListComp elt [⟨.Name x px, iter, ifs, 0⟩] scope pos) (some (.Name y py)) spos.line env = pure true := by kernel_rfl)
    (hkind : scope.kind = .function := by kernel_rfl)
    (hnames : (scope.names.all fun y => !(y.2 == .local) || (scope.names.lookup y.1 == some .local)) = true := by kernel_rfl)
    (hs : ∀ x, foldedSetIterable iter env x = pure x := by intro _; rfl) :
    wpAny (model prog w) A (execs (.Assign [.Name y py] (.ListComp elt [⟨.Name x px, iter, ifs, 0⟩] scope pos) spos :: rest) env) Q E s := by
  refine wpAny_execs_cons ?_
  rw [exec_Assign_Name_used _ _ _ _ hsw]
  refine wpAny_bind (wpAny_standAt (wpAny_bind ?_))
  show wpAny _ A (do let _ ← comprehension (.ListComp elt [⟨.Name x px, iter, ifs, 0⟩] scope pos) scope env _ (newList []) false (eval iter env) (some (assign (.Name y py) env))) _ _ s
  refine wpAny_bind (wpAny_mono (wpAny_comprehension_free (use := some (assign (.Name y py) env)) (Q := fun _ s' => wpAny (model prog w) A (execs rest env) Q E s') rfl hs hclos hkind (fun y hy hl => ?_) h) (fun _ s' hq => wpAny_pure (wpAny_pure hq)) fun _ _ e => e)
  have z := List.all_eq_true.mp hnames y hy
  rw [hl] at z
  simpa using z
theorem comp_ofU {y : Str} {py : Pos} {rest : List Stmt} {QF : Flow → Shared → Prop} {elt iter : Expr} {x : Str} {px : Pos} {ifs : List Expr} {scope : Scope} {cl : List (Str × Addr)} {pos : Pos} {xv : Value} {n : Nat} {P : Nat → Value → Prop} {W : Addr → Prop}
    {B G₀ G : PMap} {L : Addr} {m : Str → Option Value} {K : Frag} {p : Program} {loose : List Str} {mg mb : Str → Option Value} (Inv : Nat → List Value → PMap → Prop)
    (S : St B G₀ L m G s.heap) (Z : Bs K p loose mg mb B) (src : Src prog w A xv s.heap W n P) (hWB : ∀ a, W a → B a = none) (hWin : ∀ i ys U', Inv i ys U' → ∀ a, W a → U' a ≠ none) (hsz : n ≤ sizeLine) (h0 : Inv 0 [] G)
    (turn : ∀ i v ys U' h tk C m₂, i < n → P i v → Grow W G s.heap U' h → St (mask (fun a => W a ∨ a = C) h.get?) (mask W U') C m₂ U' h → Bs K p loose mg mb (mask (fun a => W a ∨ a = C) h.get?) → m₂ x = some v → Inv i ys U' → ys.length ≤ i →
      wpAny (model prog w) A (testsOf ifs (compEnvC scope cl C env)) (fun ok s' => if ok = true then wpAny (model prog w) A (eval elt (compEnvC scope cl C env)) (fun y s'' =>
          ∃ U'' h'' tk'' m₃, s'' = { s with heap := h'', toks := tk'' } ∧ St (mask (fun a => W a ∨ a = C) h.get?) (mask W U') C m₃ U'' h'' ∧ Inv (i + 1) (ys ++ [y]) U'') (fun _ _ => False) s'
        else ∃ U'' h'' tk'' m₃, s' = { s with heap := h'', toks := tk'' } ∧ St (mask (fun a => W a ∨ a = C) h.get?) (mask W U') C m₃ U'' h'' ∧ Inv (i + 1) ys U'') (fun _ _ => False) { s with heap := h, toks := tk })
    (done : ∀ D ys U' h tk, St B G₀ L (upd m y (.ref D)) (put U' D (lstOf ys)) h → U' D = none → B D = none → s.heap.get? D = none → (∀ a o, ¬ W a → G a = some o → U' a = some o) → Inv n ys U' → ys.length ≤ n → wpAny (model prog w) A (execs rest env) QF E { s with heap := h, toks := tk })
    (hcell : (scope.names.all fun y => !(y.2 == .cell)) = true := by kernel_rfl) (hkind : scope.kind = .function := by kernel_rfl) (hx : scope.names.lookup x = some .local := by kernel_rfl) (hL : env.locals = L := by kernel_rfl) (hk : env.scope.kind = .function := by kernel_rfl) (hy : env.kindOf y = some .local := by kernel_rfl) :
    CompU prog w A E env elt iter x px ifs scope cl pos y py rest QF xv s := by
  subst hL
  have hWL : ¬ W env.locals := fun z => by
    refine ex1 (Option.ne_none_iff_exists'.mp (hWin 0 [] G h0 _ z)) fun o e => ?_
    exact (S.sub _ o e).2.1 rfl
  refine ex3 (src.ex) fun oI fp Wk hx29 => ?_
  refine and6 hx29 fun hf it Wa hst hfp hIo => ?_
  clear hx29
  have hWG := hWin 0 [] G h0
  have up : ∀ b o, s.heap.get? b = some o → (s.heap.push oI).get? b = some o := fun b o e => Heap.get?_push_of_some _ e
  have fresh : ∀ a, (s.heap.push oI).get? a = none → s.heap.get? a = none := fun a q => by
    cases e : s.heap.get? a with
    | none => rfl
    | some o => rw [up a o e] at q; (first | with_reducible exact no_some q | with_reducible exact some_no q | with_reducible exact no_bool q | with_reducible exact no_bool' q | cases q)
  have hIn : s.heap.get? s.heap.objs.size = none := no_size
  have gI : ∀ U' h, Grow (fun a => W a ∨ a = s.heap.objs.size) G (s.heap.push oI) U' h → Grow W G s.heap U' h := by
    intro U' h g
    refine ⟨fun a o nw e => g.keep a o (fun z => z.elim nw fun q => by rw [q, hIn] at e; (first | with_reducible exact no_some e | with_reducible exact some_no e | with_reducible exact no_bool e | with_reducible exact no_bool' e | cases e)) (up a o e), fun a o nw e => g.mono a o (fun z => z.elim nw fun q => by rw [q, S.size] at e; (first | with_reducible exact no_some e | with_reducible exact some_no e | with_reducible exact no_bool e | with_reducible exact no_bool' e | cases e)) e, fun a o e => ⟨(g.sub a o e).1, (g.sub a o e).2.imp id (fresh a)⟩⟩
  have S₂ := S.kept up
  have nW : ∀ a, s.heap.get? a = none → ¬ W a := fun a q z => by
    refine ex1 (Option.ne_none_iff_exists'.mp (hWG a z)) fun o e => ?_
    rw [S.get e] at q; (first | with_reducible exact no_some q | with_reducible exact some_no q | with_reducible exact no_bool q | with_reducible exact no_bool' q | cases q)
  refine it s _ _ rfl ?_
  refine comp_block (s₂ := { s with heap := s.heap.push oI }) (W := W) (U := G) (Inv := Inv) Wa hsz (fun y hy => ?_) hkind hx hst (fun b hb => ?_) hIo (fun a o e => S₂.get e) S.size hWG hWin (fun b hb => ?_) h0 ?_ ?_
  · have z := List.all_eq_true.mp hcell y hy
    intro q; rw [q] at z; (first | with_reducible exact no_some z | with_reducible exact some_no z | with_reducible exact no_bool z | with_reducible exact no_bool' z | cases z)
  · show b < (s.heap.push oI).objs.size
    rw [Heap.size_push]
    rcases hfp b hb with rfl | q
    · exact Nat.lt_succ_self _
    · exact Nat.lt_succ_of_lt q.1
  · rcases hfp b hb with rfl | q
    · exact fun z => hWG _ z S.size
    · exact q.2
  · intro i v ys U' h tk C m₂ hi hP g hC S' hm inv hl
    have g' := gI U' h g
    refine turn i v ys U' h tk C m₂ hi hP g' S' (Z.mono fun b o e => ?_) hm inv hl
    have e' := S.keep b o e
    rw [mask_out fun z => z.elim (fun z => by rw [hWB b z] at e; (first | with_reducible exact no_some e | with_reducible exact some_no e | with_reducible exact no_bool e | with_reducible exact no_bool' e | cases e)) fun q => by rw [q, fresh C hC] at e'; cases e']
    exact g'.keep b o (fun z => by rw [hWB b z] at e; (first | with_reducible exact no_some e | with_reducible exact some_no e | with_reducible exact no_bool e | with_reducible exact no_bool' e | cases e)) e'
  · intro D C ys U' h tk m' g uD d0 hD hn hCD c0 uC inv hl
    have g' := gI U' h g
    have d1 := fresh D d0
    have hBD : B D = none := by
      cases e : B D with
      | none => rfl
      | some o => have := S.keep _ _ e; rw [d1] at this; (first | with_reducible exact no_some this | with_reducible exact some_no this | with_reducible exact no_bool this | with_reducible exact no_bool' this | cases this)
    have c1 := fresh C c0
    refine ex1 (S.has) fun oL hoL => ?_
    have nLC : env.locals ≠ C := fun q => by rw [q, c1] at hoL; (first | with_reducible exact no_some hoL | with_reducible exact some_no hoL | with_reducible exact no_bool hoL | with_reducible exact no_bool' hoL | cases hoL)
    have nLD : env.locals ≠ D := fun q => by rw [q, d1] at hoL; (first | with_reducible exact no_some hoL | with_reducible exact some_no hoL | with_reducible exact no_bool hoL | with_reducible exact no_bool' hoL | cases hoL)
    have hns := S.ns.at' (h' := h) fun o e => g'.keep _ o hWL e
    refine wpAny_assign_Name (wpAny_storeName_local (s := { s with heap := h, toks := tk }) hy hns (fun h2 hn2 hs2 => ?_) (by rw [hk]; rfl))
    refine ⟨m', hn.sameBut hs2 (Ne.symm nLC), fun h'' hs => ?_⟩
    have neC : ∀ a o, U' a = some o → a ≠ C := by
      intro a o e q
      rw [q, uC] at e; (first | with_reducible exact no_some e | with_reducible exact some_no e | with_reducible exact no_bool e | with_reducible exact no_bool' e | cases e)
    have hLs : s.heap.get? env.locals = some oL := hoL
    have uL : U' env.locals = none := by
      cases e : U' env.locals with
      | none => rfl
      | some o' =>
        rcases (g'.sub _ _ e).2 with z | z
        · exact absurd S.noL z
        · rw [hLs] at z; (first | with_reducible exact no_some z | with_reducible exact some_no z | with_reducible exact no_bool z | with_reducible exact no_bool' z | cases z)
    have neL : ∀ a o, U' a = some o → a ≠ env.locals := by
      intro a o e q
      rw [q, uL] at e; (first | with_reducible exact no_some e | with_reducible exact some_no e | with_reducible exact no_bool e | with_reducible exact no_bool' e | cases e)
    have sub'' : ∀ a o, U' a = some o → h''.get? a = some o := fun a o e => (hs.2 a (neC a o e)).trans ((hs2.2 a (neL a o e)).trans (g'.sub a o e).1)
    have gU : Grow (fun a => W a ∨ a = env.locals) G s.heap U' h'' :=
      ⟨fun a o nw e => (hs.2 a (fun q => by rw [q, c1] at e; (first | with_reducible exact no_some e | with_reducible exact some_no e | with_reducible exact no_bool e | with_reducible exact no_bool' e | cases e))).trans ((hs2.2 a (fun q => nw (.inr q))).trans (g'.keep a o (fun z => nw (.inl z)) e)), fun a o nw e => g'.mono a o (fun z => nw (.inl z)) e, fun a o e => ⟨sub'' a o e, (g'.sub a o e).2⟩⟩
    have gF : Grow (fun a => W a ∨ a = env.locals) G s.heap (put U' D (lstOf ys)) h'' := by
      refine ⟨gU.keep, fun a o nw e => put_old uD _ _ (gU.mono a o nw e), fun a o e => ?_⟩
      by_cases q : a = D
      · subst q
        rw [put_self] at e; (first | with_reducible exact no_some e | with_reducible exact some_no e | with_reducible exact no_bool e | with_reducible exact no_bool' e | cases e)
        exact ⟨(hs.2 a (Ne.symm hCD)).trans ((hs2.2 a (Ne.symm nLD)).trans hD), .inr d1⟩
      · rw [put_ne q] at e
        exact gU.sub a o e
    exact (done D ys U' h'' (tk + 1) (st_of_grow S gF (hn2.sameBut hs nLC) (by rw [put_ne nLD]; exact uL) hWB) uD hBD d1 g'.mono inv hl)
end

section
variable {prog : Program} {w : World} {A : Around} {E : Value → Shared → Prop} {c : Fx} {h : Heap} {t : Nat} {env : Env}
theorem comp_atU {y : Str} {py : Pos} {rest : List Stmt} {QF : Flow → Shared → Prop} {elt iter : Expr} {x : Str} {px : Pos} {ifs : List Expr} {scope : Scope} {cl : List (Str × Addr)} {pos : Pos} {xv : Value} {n : Nat} {P : Nat → Value → Prop} {W : Addr → Prop}
    {B G₀ G : PMap} {L : Addr} {m : Str → Option Value} {K : Frag} {p : Program} {loose : List Str} {mg mb : Str → Option Value} (Inv : Nat → List Value → PMap → Prop)
    (S : St B G₀ L m G h) (Z : Bs K p loose mg mb B) (src : Src prog w A xv h W n P) (hWB : ∀ a, W a → B a = none) (hWin : ∀ i ys U', Inv i ys U' → ∀ a, W a → U' a ≠ none) (hsz : n ≤ sizeLine) (h0 : Inv 0 [] G)
    (turn : ∀ i v ys U' h' t' C m₂, i < n → P i v → Grow W G h U' h' → St (mask (fun a => W a ∨ a = C) h'.get?) (mask W U') C m₂ U' h' → Bs K p loose mg mb (mask (fun a => W a ∨ a = C) h'.get?) → m₂ x = some v → Inv i ys U' → ys.length ≤ i →
      wpAny (model prog w) A (testsOf ifs (compEnvC scope cl C env)) (fun ok s' => if ok = true then wpAny (model prog w) A (eval elt (compEnvC scope cl C env)) (fun y s'' =>
          TurnedC c (mask (fun a => W a ∨ a = C) h'.get?) (mask W U') C (Inv (i + 1) (ys ++ [y])) s'') (fun _ _ => False) s'
        else TurnedC c (mask (fun a => W a ∨ a = C) h'.get?) (mask W U') C (Inv (i + 1) ys) s') (fun _ _ => False) (c.at h' t'))
    (done : ∀ D ys U' h' t', St B G₀ L (upd m y (.ref D)) (put U' D (lstOf ys)) h' → U' D = none → B D = none → h.get? D = none → (∀ a o, ¬ W a → G a = some o → U' a = some o) → Inv n ys U' → ys.length ≤ n → wpAny (model prog w) A (execs rest env) QF E (c.at h' t'))
    (hcell : (scope.names.all fun y => !(y.2 == .cell)) = true := by kernel_rfl) (hkind : scope.kind = .function := by kernel_rfl) (hx : scope.names.lookup x = some .local := by kernel_rfl)
    (hL : env.locals = L := by kernel_rfl) (hk : env.scope.kind = .function := by kernel_rfl) (hy : env.kindOf y = some .local := by kernel_rfl) :
    CompU prog w A E env elt iter x px ifs scope cl pos y py rest QF xv (c.at h t) :=
  comp_ofU (s := c.at h t) Inv S Z src hWB hWin hsz h0 turn done hcell hkind hx hL hk hy
end

end
section
noncomputable abbrev KK (w : World) : Frag := hd.heap_39 w.params
noncomputable abbrev VV : Program := viewQ
noncomputable abbrev LL : List Str := looseW viewQ [Str.ofString "PaperError"]

end
set_option hygiene false in
local macro_rules | `(tactic| w_left) => `(tactic| first
  | with_reducible exact Mine.upd_here
  | with_reducible assumption
  | with_reducible exact Mine.uh1 (by kernel_rfl!)
  | with_reducible exact Mine.ua1 (by with_reducible assumption) (by kernel_rfl!)
  | with_reducible exact Mine.ua2 (by with_reducible assumption) (by kernel_rfl!)
  | with_reducible exact Mine.uh2 (by kernel_rfl!)
  | with_reducible exact Mine.ua3 (by with_reducible assumption) (by kernel_rfl!)
  | with_reducible exact Mine.uh3 (by kernel_rfl!)
  | with_reducible exact Mine.ua4 (by with_reducible assumption) (by kernel_rfl!)
  | with_reducible exact Mine.uh4 (by kernel_rfl!)
  | with_reducible exact Mine.uh5 (by kernel_rfl!)
  | with_reducible exact Mine.uh6 (by kernel_rfl!)
  | with_reducible exact Mine.uh7 (by kernel_rfl!)
  | with_reducible exact Mine.uh8 (by kernel_rfl!))
set_option hygiene false in
local macro_rules | `(tactic| tb_start) => `(tactic| first
  | exact trivial
  | exact ⟨by kernel_rfl, Bs.k (by with_reducible assumption) (St.keep (by with_reducible assumption))⟩)
set_option hygiene false in
local macro_rules | `(tactic| k_memK) => `(tactic| first
  | with_reducible assumption
  | with_reducible exact Mine.cellUp (by with_reducible assumption) (by with_reducible assumption)
  | with_reducible exact Mine.oinUp (by with_reducible assumption) (by with_reducible assumption)
  | with_reducible exact Mine.instUp (by with_reducible assumption) (by with_reducible assumption)
  | with_reducible exact Mine.atUp (by with_reducible assumption) (by with_reducible assumption))
set_option hygiene false in
local macro_rules | `(tactic| kct_strs) => `(tactic| first
  | with_reducible exact Mine.T143_top
  | with_reducible exact Mine.T143_places
  | with_reducible exact Mine.T171_text
  | with_reducible exact Mine.T193_octets
  | with_reducible exact Mine.T214_head
  | with_reducible exact Mine.T214_octets
  | with_reducible exact Mine.T242_number
  | with_reducible exact Mine.T242_generation)
set_option hygiene false in
local macro_rules | `(tactic| tbn_letter) => `(tactic| first
  | with_reducible exact Mine.gl_kind_of
  | with_reducible exact Mine.gl_law_draw
  | with_reducible exact Mine.gl_told
  | with_reducible exact Mine.gl_isinstance
  | with_reducible exact Mine.gl_bool
  | with_reducible exact Mine.gl_int
  | with_reducible exact Mine.gl_list
  | with_reducible exact Mine.gl_dict
  | with_reducible exact Mine.gl_bytes
  | with_reducible exact Mine.gl_tuple
  | with_reducible exact Mine.gl_Decimal
  | with_reducible exact Mine.gl_Name
  | with_reducible exact Mine.gl_String
  | with_reducible exact Mine.gl_Stream
  | with_reducible exact Mine.gl_Reference
  | with_reducible exact Mine.gl_sorted
  | with_reducible exact Mine.gl_reversed
  | with_reducible exact Mine.gl_max
  | with_reducible exact Mine.gl_repr
  | with_reducible exact Mine.gl_range
  | with_reducible exact Mine.gl_abs
  | with_reducible exact Mine.gl_is_number
  | with_reducible exact Mine.gl_told_plain
  | with_reducible exact Mine.gl_same
  | with_reducible exact Mine.gl_copied
  | with_reducible exact Mine.gl_parts_of
  | with_reducible exact Mine.gl_references_in
  | with_reducible exact Mine.gl_renumbered
  | with_reducible exact Mine.gl_depth_of
  | with_reducible exact Mine.gl_law_pen
  | with_reducible exact Mine.gl_law_object
  | with_reducible exact Mine.gl_law_row
  | with_reducible exact Mine.gl_law_walked
  | with_reducible exact Mine.gl_law_depth
  | with_reducible exact Mine.gl_law_spoil
  | with_reducible exact Mine.gl_law_raises
  | with_reducible exact Mine.gl_PaperError
  | with_reducible exact Mine.gl_Exception)
set_option hygiene false in
local macro_rules | `(tactic| tb_rel) => `(tactic| first
    | with_reducible refine Mine.nL (by with_reducible assumption) (by w_left) ?_
    | with_reducible refine Mine.nCell (by with_reducible assumption) (by k_memK) ?_
    | with_reducible refine Mine.Gl.name (by tbn_letter) (by with_reducible assumption) (by with_reducible assumption) (by kernel_rfl!) ?_
    | with_reducible refine Mine.nG (by tbn_letter) (by with_reducible assumption) (by with_reducible assumption) ?_)
set_option hygiene false in
local macro_rules | `(tactic| tbn_find) => `(tactic| first
  | exact Mine.Vr.l (by w_left) (by kernel_rfl!)
  | exact Mine.Vr.c (by k_memK) (by kernel_rfl!) (by kernel_rfl!))
set_option hygiene false in
local macro_rules | `(tactic| cell_call) => `(tactic| first
  | ((with_reducible show wpAny _ _ (eval (PySem.Expr.Name _ _) _) _ _ _); tb_rel)
  | ((with_reducible show wpAny _ _ (execs _ _) _ _ _); first
    | with_reducible refine Mine.x_assign (hsw := by kernel_rfl!) ?_
    | with_reducible refine Mine.x_return ?_
    | with_reducible refine Mine.x_ifR ?_
    | with_reducible refine Mine.x_if ?_
    | with_reducible refine Mine.x_expr ?_
    | with_reducible refine Mine.x_nil ?_
    | with_reducible refine Mine.x_setItem ?_
    | with_reducible refine Mine.x_setAttr ?_)
  | ((with_reducible show wpAny _ _ (eval _ _) _ _ _); first
    | with_reducible refine Mine.c_str (fun _ _ => ?_)
    | with_reducible refine Mine.c_int (fun _ _ => ?_)
    | with_reducible refine Mine.c_none ?_
    | with_reducible refine Mine.c_bool ?_
    | with_reducible refine Mine.call1v (by with_reducible assumption) (by with_reducible assumption) (by tbn_letter) (by kernel_rfl!) (by tbn_find) ?_
    | with_reducible refine Mine.call2v (by with_reducible assumption) (by with_reducible assumption) (by tbn_letter) (by kernel_rfl!) (by tbn_find) (by tbn_find) ?_
    | with_reducible refine Mine.call2i (by with_reducible assumption) (by with_reducible assumption) (by tbn_letter) (by kernel_rfl!) (by tbn_find) (fun _ _ => ?_)
    | with_reducible refine Mine.e_call ?_
    | with_reducible refine Tuple_ ?_
    | with_reducible refine List_ ?_
    | with_reducible refine wpAny_BinOp ?_
    | with_reducible refine Subscript_ ?_
    | with_reducible refine Mine.e_attr ?_
    | with_reducible refine Mine.e_cmp ?_
    | with_reducible refine Mine.e_if ?_)
  | ((with_reducible show wpAny _ _ (isTrue _ _ _) _ _ _); first
    | with_reducible refine Mine.t_isi (by with_reducible assumption) (by with_reducible assumption) gl_isinstance (by tbn_find) (by k_memK) (by tbn_letter) (by kernel_rfl!) (fun _ => ?_)
    | with_reducible refine Mine.t_eqs (by with_reducible assumption) (by tbn_find) (fun _ _ => ?_)
    | with_reducible refine Mine.t_cmp ?_
    | with_reducible refine Mine.t_not ?_
    | with_reducible refine Mine.t_or ?_
    | with_reducible refine Mine.t_or0 ?_
    | with_reducible refine Mine.t_and ?_
    | with_reducible refine Mine.t_and0 ?_
    | with_reducible refine Mine.t_plain ?_)
  | with_reducible refine Mine.a_cons ?_
  | with_reducible refine Mine.a_nil ?_
  | with_reducible refine Mine.truthy_b ?_
  | with_reducible refine Mine.ifT ?_
  | with_reducible refine Mine.ifF ?_
  | with_reducible refine Mine.iteT (by kernel_rfl!) ?_
  | with_reducible refine Mine.iteF (by kernel_rfl!) ?_
  | ((with_reducible show CallOk _ _ _ ∧ _); refine And.intro (by tb_start) ?_)
  | with_reducible refine Mine.eq_s ?_
  | with_reducible refine Mine.is_none_t ?_
  | with_reducible refine Mine.is_none_f (hn := by kernel_rfl!) ?_
  | with_reducible refine Mine.isiO (by with_reducible assumption) (by with_reducible assumption) (by k_memK) (fun _ => ?_)
  | with_reducible refine Mine.then_next ?_
  | with_reducible refine Mine.then_ret ?_
  | with_reducible refine Mine.mkTup (by with_reducible assumption) (fun _ _ _ _ => ?_) (by exact Nat.le_of_ble_eq_true rfl)
  | with_reducible refine Mine.mkList (by with_reducible assumption) (fun _ _ _ _ => ?_) (by exact Nat.le_of_ble_eq_true rfl)
  | with_reducible refine Mine.ga (by with_reducible assumption) (by with_reducible assumption) (by k_memK) (by kct_strs) (by with_reducible assumption) (by first | kernel_rfl! | with_reducible assumption) (fun _ => ?_)
  | with_reducible refine Mine.ga0 (by with_reducible assumption) (by with_reducible assumption) (by k_memK) (by k_memK) (by kct_strs) (by with_reducible assumption) (by first | kernel_rfl! | with_reducible assumption) (fun _ => ?_)
  | with_reducible refine Mine.bytes_same ?_
  | with_reducible refine Mine.sL (hl := by kernel_rfl!) (by with_reducible assumption) (fun _ _ _ => ?_)
  | with_reducible refine Mine.tests0 ?_
  | with_reducible refine Mine.tests1 ?_
  | with_reducible refine Mine.isNotNone (by k_memK) ?_
  | with_reducible refine Mine.subD (by with_reducible assumption) (by k_memK) (by with_reducible assumption) (by with_reducible assumption) (fun _ => ?_)
  | with_reducible refine Mine.int_bool (fun _ _ => ?_)
  | with_reducible refine Mine.inD (by with_reducible assumption) (by k_memK) (by with_reducible assumption) (by with_reducible assumption) (fun _ => ?_)
  | with_reducible refine Mine.is_none (by k_memK) ?_
  | with_reducible refine Mine.addI (fun _ _ => ?_)
  | with_reducible refine Mine.subI (fun _ _ => ?_)
  | with_reducible refine Mine.eqI ?_
  | with_reducible refine Mine.neI ?_
  | with_reducible refine Mine.ltI ?_
  | with_reducible refine Mine.gtI ?_)

section
theorem allLocal {scope : Scope} {binds : List (Str × Value)} (e : (binds.all fun x => decide (scope.names.lookup x.1 = some .local)) = true) : ∀ y ∈ binds, scope.names.lookup y.1 = some .local := locs e
theorem noCells {scope : Scope} (e : (scope.names.all fun x => decide (x.2 ≠ .cell)) = true) : ∀ x ∈ scope.names, x.2 ≠ .cell := fun x hx => of_decide_eq_true (List.all_eq_true.mp e x hx)

section
variable {prog : Program} {w : World} {A : Around} {E : Value → Shared → Prop} {c : Fx} {h : Heap} {t : Nat} {mg mb m cm : Str → Option Value} {B G₀ G : PMap} {L : Addr} {env : Env}

theorem enter (W : Addr → Prop) {name qual : Str} {params : Arguments} {body : List Stmt} {scope : Scope} {dV kV doc pm cdv ct oc : Value} {an od : Option Addr} {osl : Array (Option Value)} {f : Addr} {args : List Value} (binds : List (Str × Value)) {Q : Value → Shared → Prop}
    (hr : A.depth < recursionLimit) (Z : Bs (KK w) VV LL mg mb (mask W h.get?)) (hG : ∀ a o, G a = some o → h.get? a = some o)
    (ho : (KK w).lookup f = some ⟨oc, od, .func (fnX name qual params body scope [] dV kV doc pm an cdv ct), osl⟩) (hcd : codeIn (KK w) cdv qual = true)
    (hbind : BindsTo (c.at h t) (fnX name qual params body scope [] dV kV doc pm an cdv ct) ⟨args, []⟩ binds) (hloc : (binds.all fun x => decide (scope.names.lookup x.1 = some .local)) = true)
    (hcell : (scope.names.all fun x => decide (x.2 ≠ .cell)) = true) (hm : (fun y => binds.reverse.lookup y) = m)
    (q : ∀ L h₁ t₁, St (mask (fun a => W a ∨ a = L) h₁.get?) (mask W G) L m G h₁ → Bs (KK w) VV LL mg mb (mask (fun a => W a ∨ a = L) h₁.get?) → G L = none → h.get? L = none → (∀ b o, h.get? b = some o → h₁.get? b = some o) →
      wpAny (model prog w) (A.deeper (envX qual scope L f cdv [])) (execs body (envX qual scope L f cdv [])) (fun fl s' => Q (retOf fl) s') (fun _ _ => False) (c.at h₁ t₁))
    (hco : scope.isCoroutine = false) (hgen : scope.isGenerator = false) (hk : scope.kind = .function) :
    wpAny (model prog w) A (call (.ref f) args) Q E (c.at h t) :=
  enterW (s := c.at h t) W hr Z hG ho hcd hbind (allLocal hloc) (noCells hcell) hm (fun L h₁ tk S Z gL sL up => q L h₁ tk S Z gL sL up) hco hgen hk
theorem enterCl (W : Addr → Prop) {name qual : Str} {params : Arguments} {body : List Stmt} {scope : Scope} {dV kV doc pm cdv ct oc : Value} {an od : Option Addr} {osl : Array (Option Value)} {f : Addr} {args : List Value} (binds : List (Str × Value)) {Q : Value → Shared → Prop}
    (hr : A.depth < recursionLimit) (Z : Bs (KK w) VV LL mg mb (mask W h.get?)) (hG : ∀ a o, G a = some o → h.get? a = some o) (hWG : ∀ a, W a → G a ≠ none)
    (ho : (KK w).lookup f = some ⟨oc, od, .func (fnX name qual params body scope [] dV kV doc pm an cdv ct), osl⟩) (hcd : codeIn (KK w) cdv qual = true)
    (hbind : BindsTo (c.at h t) (fnX name qual params body scope [] dV kV doc pm an cdv ct) ⟨args, []⟩ binds) (hkind : (binds.all fun y => scope.names.lookup y.1 == some .local || scope.names.lookup y.1 == some .cell) = true)
    (hnd : ((cellsFrom 0 scope.names []).map (·.1)).Nodup) (hm : ∀ L, bindL (envOfC qual scope L f cdv).kindOf binds (fun _ => none) = m) (hcm : ∀ L, bindC (envOfC qual scope L f cdv).kindOf binds (fun _ => none) = cm)
    (q : ∀ L h₁ t₁ G₁, (∀ a o, G a = some o → G₁ a = some o) → (∀ a o, G₁ a = some o → G a = some o ∨ h.get? a = none) → cellsAt (cellsFrom (L + 1) scope.names []) cm G₁ →
      St (mask (fun a => W a ∨ a = L) h₁.get?) (mask W G₁) L m G₁ h₁ → Bs (KK w) VV LL mg mb (mask (fun a => W a ∨ a = L) h₁.get?) → G₁ L = none → h.get? L = none → (∀ b o, h.get? b = some o → h₁.get? b = some o) →
      wpAny (model prog w) (A.deeper (envX qual scope L f cdv (cellsFrom (L + 1) scope.names []))) (execs body (envX qual scope L f cdv (cellsFrom (L + 1) scope.names []))) (fun fl s' => Q (retOf fl) s') (fun _ _ => False) (c.at h₁ t₁))
    (hco : scope.isCoroutine = false) (hgen : scope.isGenerator = false) (hk : scope.kind = .function) :
    wpAny (model prog w) A (call (.ref f) args) Q E (c.at h t) :=
  enterC (s := c.at h t) W hr Z hG hWG ho hcd hbind hkind hnd hm hcm (fun L h₁ tk G₁ a b d S Z gL sL up => q L h₁ tk G₁ a b d S Z gL sL up) hco hgen hk

theorem St.free {a : Addr} {o : Obj} {h' : Heap} (S : St B G₀ L m G h) (ga : G a = none) (S' : St B G₀ L m (put G a o) h') : B a = none := by
  rcases (S'.sub a o put_self).2.2 with e | e
  · have := S.mono a o e; rw [ga] at this; (first | with_reducible exact no_some this | with_reducible exact some_no this | with_reducible exact no_bool this | with_reducible exact no_bool' this | cases this)
  · exact e
theorem St.high (S : St B G₀ L m G h) (Z : Bs (KK w) VV LL mg mb B) : (h.objs.size == sysModules) = false := by
  have e := Z.k S.keep 253 _ (by exact rfl)
  exact beq_eq_false_iff_ne.mpr fun q => absurd (Heap.lt_size e) (by rw [q]; decide)

theorem mkTup {vs : List Value} {Q : Value → Shared → Prop} (S : St B G₀ L m G h)
    (q : ∀ a h', St B G₀ L m (put G a (tupOf vs 0)) h' → G a = none → Q (.ref a) (c.at h' t)) (hsz : vs.length ≤ sizeLine) : wpAny (model prog w) A (newTuple vs) Q E (c.at h t) :=
  wpAny_newTuple (s := c.at h t) (q _ _ (S.push (fun _ _ e => e) _) S.size) hsz
theorem mkList {vs : List Value} {Q : Value → Shared → Prop} (S : St B G₀ L m G h)
    (q : ∀ a h', St B G₀ L m (put G a (listOf vs.toArray 0)) h' → G a = none → Q (.ref a) (c.at h' t)) (hsz : vs.length ≤ sizeLine) : wpAny (model prog w) A (newList vs) Q E (c.at h t) :=
  wpAny_newObj_type (s := c.at h t) (q _ _ (S.push (fun _ _ e => e) _) S.size) (by show vs.toArray.size ≤ sizeLine; rw [List.size_toArray]; exact hsz)
theorem tupOfList {l : Addr} {vs : List Value} {n : Nat} {Q : Value → Shared → Prop} (S : St B G₀ L m G h) (hl : G l = some (listOf vs.toArray n))
    (q : ∀ a h', St B G₀ L m (put G a (tupOf vs 0)) h' → G a = none → Q (.ref a) (c.at h' t)) (hsz : vs.length ≤ sizeLine) : wpAny (model prog w) A (call (.type "tuple") [.ref l]) Q E (c.at h t) :=
  call_tuple_list (s := c.at h t) ⟨_, S.get hl, rfl, n, rfl⟩ (fun h' hk => q _ _ (S.push hk _) (S.kept hk).size) (by rw [List.size_toArray]; exact hsz)
theorem addTup {x b : Addr} {vs us : List Value} {n k : Nat} {Q : Value → Shared → Prop} (S : St B G₀ L m G h) (ht : G x = some (tupOf vs n)) (hb : G b = some (tupOf us k)) (hv : vs ≠ [])
    (q : ∀ a G' h' n', St B G₀ L m G' h' → (∀ a o, G a = some o → G' a = some o) → G' a = some (tupOf (vs ++ us) n') → Q (.ref a) (c.at h' t)) (hsz : vs.length + us.length ≤ sizeLine) : wpAny (model prog w) A (binaryOp .Add (.ref x) (.ref b)) Q E (c.at h t) := by
  have ho := S.get ht
  have ho2 := S.get hb
  have e : vs.toArray ++ us.toArray = (vs ++ us).toArray := by simp
  by_cases hw : us = []
  · subst hw
    refine concat_meets ⟨_, ho, rfl⟩ ⟨_, ho2, rfl⟩ noFill_tuple_add seq_tuple_add PySem.F.slot_tuple_add PySem.F.entry_tuple_add (PySem.F.args_tuple_add_2 _ _)
      (tuple_addW1 x b vs.toArray [].toArray n k none none #[] #[] (by simpa using hv) (by simp)) ⟨ho, ho2, ?_⟩
    exact q x G h n S (fun _ _ e => e) (by rw [List.append_nil]; exact ht)
  · refine concat_meets ⟨_, ho, rfl⟩ ⟨_, ho2, rfl⟩ noFill_tuple_add seq_tuple_add PySem.F.slot_tuple_add PySem.F.entry_tuple_add (PySem.F.args_tuple_add_2 _ _)
      (tuple_addW2 x b vs.toArray us.toArray n k none none #[] #[] (by simpa using hv) (by simpa using hw) (by rw [List.size_toArray, List.size_toArray]; exact hsz)) ⟨ho, ho2, ?_⟩
    rw [e]
    exact q _ _ _ 0 (S.push (fun _ _ e => e) _) (fun a o q => put_old S.size a o q) put_self

structure Attr (K : Frag) (C : Addr) (name : Str) : Prop where
  g : plainGet K C name = true
  d : hasDictIn K C = true
  a : findIn K (.ref C) name = some none
  n : noGet K none = true
theorem ga0 {a C dx : Addr} {es : List DictEntry} {n : Nat} {name : Str} {v : Value} {Q : Value → Shared → Prop} (S : St B G₀ L m G h) (Z : Bs (KK w) VV LL mg mb B) (h1 : G a = some (instObj C dx)) (h2 : G dx = some (dictOf es n)) (T : Attr (KK w) C name) (hl : getL name es = some (some v)) (hv : handedIn v = true)
    (q : ∀ t', Q v (c.at h t')) : wpAny (model prog w) A (getAttr (.ref a) name true) Q E (c.at h t) :=
  get_value (s := c.at h t) (Z.k S.keep) (⟨S.get h1, rfl, rfl, S.get h2⟩ : W.InstAt h a (instObj C dx) C (some (dictOf es n))) (plainGet_of T.g).1 (findObj_own T.d T.a T.n hl) hv (q _)
theorem ga {a C : Addr} {es : List DictEntry} {name : Str} {v : Value} {Q : Value → Shared → Prop} (S : St B G₀ L m G h) (Z : Bs (KK w) VV LL mg mb B) (I : Inst G a C es) (T : Attr (KK w) C name) (hl : getL name es = some (some v)) (hv : handedIn v = true)
    (q : ∀ t', Q v (c.at h t')) : wpAny (model prog w) A (getAttr (.ref a) name true) Q E (c.at h t) := by
  refine ex2 (I.ex) fun dx n hx1 => ?_
  refine and2 hx1 fun h1 h2 => ?_
  clear hx1
  exact ga0 S Z h1 h2 T hl hv q
theorem e_attr {e : Expr} {name : Str} {p : Pos} {s : Shared} {Q : Value → Shared → Prop} (q : wpAny (model prog w) A (eval e env) (fun o s₁ => wpAny (model prog w) A (getAttr o name true) Q E s₁) E s)
    (ha : eval (.Attribute e name p) env = (do let o ← eval e env; standAt p.atName; let r ← holding [o] (getAttr o name true); letTemporaryGo e o r; pure r) := by kernel_rfl) :
    wpAny (model prog w) A (eval (.Attribute e name p) env) Q E s := Attribute_any_ q ha

structure Put (K : Frag) (C : Addr) (name : Str) : Prop where
  s : findIn K (.ref C) "__setattr__" = some (some (.builtin "object.__setattr__"))
  p : plainOver K C = true
  t : takerIn K C name = some none
  d : hasDictIn K C = true
theorem sa {a C dx : Addr} {es : List DictEntry} {n : Nat} {name : Str} {v : Value} {Q : Unit → Shared → Prop} (S : St B G₀ L m G h) (Z : Bs (KK w) VV LL mg mb B) (h1 : G a = some (instObj C dx)) (h2 : G dx = some (dictOf es n)) (T : Put (KK w) C name) (hn : B dx = none)
    (hl : (getL name es).isSome = true) (hz : es.length ≤ 900)
    (q : ∀ u h' t', St B G₀ L m (put G dx (dictOf (putL name (PyData.keyHash w.params name) (.str name u) v es) (putN name es n))) h' → Q () (c.at h' t')) :
    wpAny (model prog w) A (setAttr (.ref a) name v) Q E (c.at h t) := by
  have X := Z.k S.keep
  have I : W.InstAt h a (instObj C dx) C (some (dictOf es n)) := ⟨S.get h1, rfl, rfl, S.get h2⟩
  refine set_plain (s := c.at h t) X I T.s ?_
  refine osa_open (s := c.at h (t + 1)) X I T.p T.t fun b => ?_
  refine ex1 (any_some T.d) fun cd hx2 => ?_
  refine and2 hx2 fun hc hd' => ?_
  clear hx2
  have D := S.get h2
  have len : ∀ es : List DictEntry, (putL name (PyData.keyHash w.params name) (.str name (t + 1)) v es).length ≤ es.length + 1 := by
    intro es
    induction es with
    | nil => exact Nat.le_refl _
    | cons e r ih =>
      unfold putL
      split
      · rw [List.length_cons, List.length_cons]; omega
      · rw [List.length_cons, List.length_cons]; omega
  have D' := Heap.get?_update_self (Obj.putName name (PyData.keyHash w.params name) (.str name (t + 1)) v) D (by rw [putName_dict]; rfl)
  rw [putName_dict] at D'
  refine wpAny_bind (wpAny_pure (wpAny_bind (wpAny_bind (wpAny_loadPart (S.get h1) (wpAny_bind ((looks_clsIn X hc).here ?_))))))
  rw [hd']
  refine wpAny_pure (a := some dx) (wpAny_bind (wpAny_pure (wpAny_bind ?_)))
  unfold nsSet
  refine wpAny_bind (wpAny_bind (wpAny_askSetting (wpAny_pure (wpAny_bind (wpAny_mkText (wpAny_bind (wpAny_loadPart D ?_)))))))
  dsimp only
  have r : (!es.toArray.any (·.key.isStr name) && es.toArray.any (·.refKey)) = false := by
    unfold getL at hl
    rw [List.any_toArray, List.any_toArray]
    split at hl
    · rename_i en he
      rw [List.any_eq_true.mpr ⟨en, List.mem_of_find?_eq_some he, List.find?_some he⟩]; rfl
    · split at hl
      · (first | with_reducible exact no_some hl | with_reducible exact some_no hl | with_reducible exact no_bool hl | with_reducible exact no_bool' hl | cases hl)
      · rename_i z; rw [Bool.not_eq_true] at z; rw [z, Bool.and_false]
  rw [aRefKeyMayBeTheName_at, r]
  refine wpAny_updatePart D ?_
  refine wpAny_bind (wpAny_lookBehind D' (pastItsLine_dict (by have := len es; rw [List.size_toArray, sizeLine_eq]; omega)) ?_)
  exact wpAny_pure (q _ _ _ (S.set hn h2 ⟨Heap.size_update .., fun b hb => Heap.get?_update_ne _ _ _ _ hb⟩ D'))
end
section
variable {prog : Program} {w : World} {A : Around} {E : Value → Shared → Prop} {s : Shared}
theorem bytes_new_same {A : Around} {b : Array UInt8} {t : Tok} {Q : Value → Shared → Prop} (h : Q (.bytes b t) s) :
    codeAny (model prog w) A (.call (.builtin "bytes.__new__") ⟨[.type "bytes", .bytes b t], []⟩) (wants (fun obj s₁ => s₁.TypeIs obj "bytes" ∧ Q obj s₁) E) s := by
  refine codeAny_of_tree ?_
  show wpAny _ A.in1 (do checkBuiltinCall "bytes.__new__" ⟨[.type "bytes", .bytes b t], []⟩; again (.builtin "bytes.__new__" ⟨[.type "bytes", .bytes b t], []⟩)) _ _ s
  refine wpAny_bind (wpAny_of_eq (PySem.F.bm_newCall _) (wpAny_pure ⟨plainId_quiet PySem.F.bm_plain _, codeAny_builtin PySem.F.bm_entry ?_⟩))
  rw [Around.under_plainId PySem.F.bm_plain _]
  have hT : s.TypeIs (.bytes b t) "bytes" := PySem.W.typeIs_bytes _ _ _
  unfold Builtin.«bytes.__new__»
  refine wpAny_bind (wpAny_of_eq (a := true) rfl ?_)
  refine bm_if_false rfl ?_
  refine wpAny_bind (wpAny_of_eq PySem.F.bm_sub ?_)
  refine bm_if_false rfl ?_
  refine wpAny_bind (wpAny_of_eq (PySem.F.bm_bind _) ?_)
  refine wpAny_bind (wpAny_of_eq (a := ()) rfl ?_)
  refine wpAny_bind (wpAny_of_eq (a := ()) rfl ?_)
  refine bm_if_false rfl ?_
  refine wpAny_bind (wpAny_specialOf hT (r := some (.builtin "bytes.__bytes__")) (by rw [typeLookup_type, builtinLookup_eq_fast]; kernel_rfl) ?_)
  dsimp only
  refine wpAny_bind (wpAny_rule (wpAny_bind (wpAny_typeOf hT ?_)))
  refine bm_if_true (by decide +kernel) ?_
  change wpAny _ _ (ret (.bytes b t)) _ _ s
  refine wpAny_pure ?_
  show wants _ _ _ _
  exact ⟨hT, h⟩
theorem bytes_same {b : Array UInt8} {t : Tok} {Q : Value → Shared → Prop} (h : Q (.bytes b t) s) : wpAny (model prog w) A (call (.type "bytes") [.bytes b t]) Q E s := by
  refine callType_codes (Q₁ := fun obj s₁ => s₁.TypeIs obj "bytes" ∧ Q obj s₁) PySem.F.bm_called (PySem.F.bm_typeCall _) PySem.F.entry_object_init (bytes_new_same h) fun obj s₁ h₁ => ?_
  exact ⟨h₁.1, PySem.F.args_object_init_2 obj _, object_init_meets PySem.F.bm_called.init.lookup PySem.F.bm_called.made (by decide) prog w A.in1 _ s₁ ⟨h₁.1, rfl, h₁.2⟩⟩
end

end
section
section
variable {w : World}
theorem ns_PaperError : nsIn (KK w) mainGlobals (Str.ofString "PaperError") = some (some (.ref 46)) := by kernel_rfl
theorem ns_Decimal : nsIn (KK w) mainGlobals (Str.ofString "Decimal") = some (some (.ref 143)) := by kernel_rfl
theorem ns_Name : nsIn (KK w) mainGlobals (Str.ofString "Name") = some (some (.ref 171)) := by kernel_rfl
theorem ns_String : nsIn (KK w) mainGlobals (Str.ofString "String") = some (some (.ref 193)) := by kernel_rfl
theorem ns_Stream : nsIn (KK w) mainGlobals (Str.ofString "Stream") = some (some (.ref 214)) := by kernel_rfl
theorem ns_Reference : nsIn (KK w) mainGlobals (Str.ofString "Reference") = some (some (.ref 242)) := by kernel_rfl
theorem ns_kind_of : nsIn (KK w) mainGlobals (Str.ofString "kind_of") = some (some (.ref 253)) := by kernel_rfl
theorem ns_is_number : nsIn (KK w) mainGlobals (Str.ofString "is_number") = some (some (.ref 260)) := by kernel_rfl
theorem ns_told_plain : nsIn (KK w) mainGlobals (Str.ofString "told_plain") = some (some (.ref 267)) := by kernel_rfl
theorem ns_told : nsIn (KK w) mainGlobals (Str.ofString "told") = some (some (.ref 272)) := by kernel_rfl
theorem ns_same : nsIn (KK w) mainGlobals (Str.ofString "same") = some (some (.ref 279)) := by kernel_rfl
theorem ns_copied : nsIn (KK w) mainGlobals (Str.ofString "copied") = some (some (.ref 284)) := by kernel_rfl
theorem ns_parts_of : nsIn (KK w) mainGlobals (Str.ofString "parts_of") = some (some (.ref 289)) := by kernel_rfl
theorem ns_references_in : nsIn (KK w) mainGlobals (Str.ofString "references_in") = some (some (.ref 296)) := by kernel_rfl
theorem ns_renumbered : nsIn (KK w) mainGlobals (Str.ofString "renumbered") = some (some (.ref 301)) := by kernel_rfl
theorem ns_depth_of : nsIn (KK w) mainGlobals (Str.ofString "depth_of") = some (some (.ref 308)) := by kernel_rfl
theorem ns_law_pen : nsIn (KK w) mainGlobals (Str.ofString "_law_pen") = some (some (.ref 315)) := by kernel_rfl
theorem ns_law_draw : nsIn (KK w) mainGlobals (Str.ofString "_law_draw") = some (some (.ref 322)) := by kernel_rfl
theorem ns_law_object : nsIn (KK w) mainGlobals (Str.ofString "_law_object") = some (some (.ref 327)) := by kernel_rfl
theorem ns_law_row : nsIn (KK w) mainGlobals (Str.ofString "_law_row") = some (some (.ref 332)) := by kernel_rfl
theorem ns_law_walked : nsIn (KK w) mainGlobals (Str.ofString "_law_walked") = some (some (.ref 337)) := by kernel_rfl
theorem ns_law_depth : nsIn (KK w) mainGlobals (Str.ofString "_law_depth") = some (some (.ref 342)) := by kernel_rfl
theorem ns_law_spoil : nsIn (KK w) mainGlobals (Str.ofString "_law_spoil") = some (some (.ref 349)) := by kernel_rfl
theorem ns_law_raises : nsIn (KK w) mainGlobals (Str.ofString "_law_raises") = some (some (.ref 356)) := by kernel_rfl
theorem ns_isinstance : nsIn (KK w) mainGlobals (Str.ofString "isinstance") = some none := by kernel_rfl
theorem ns_bool : nsIn (KK w) mainGlobals (Str.ofString "bool") = some none := by kernel_rfl
theorem ns_int : nsIn (KK w) mainGlobals (Str.ofString "int") = some none := by kernel_rfl
theorem ns_list : nsIn (KK w) mainGlobals (Str.ofString "list") = some none := by kernel_rfl
theorem ns_dict : nsIn (KK w) mainGlobals (Str.ofString "dict") = some none := by kernel_rfl
theorem ns_bytes : nsIn (KK w) mainGlobals (Str.ofString "bytes") = some none := by kernel_rfl
theorem ns_tuple : nsIn (KK w) mainGlobals (Str.ofString "tuple") = some none := by kernel_rfl
theorem ns_sorted : nsIn (KK w) mainGlobals (Str.ofString "sorted") = some none := by kernel_rfl
theorem ns_reversed : nsIn (KK w) mainGlobals (Str.ofString "reversed") = some none := by kernel_rfl
theorem ns_max : nsIn (KK w) mainGlobals (Str.ofString "max") = some none := by kernel_rfl
theorem ns_repr : nsIn (KK w) mainGlobals (Str.ofString "repr") = some none := by kernel_rfl
theorem ns_range : nsIn (KK w) mainGlobals (Str.ofString "range") = some none := by kernel_rfl
theorem ns_abs : nsIn (KK w) mainGlobals (Str.ofString "abs") = some none := by kernel_rfl
theorem ns_Exception : nsIn (KK w) mainGlobals (Str.ofString "Exception") = some none := by kernel_rfl
theorem boot_Exc : bootBuiltins "Exception" = some (.type "Exception") := by decide +kernel
theorem T143_top : Attr (KK w) 143 (Str.ofString "top") := ⟨by kernel_rfl, by kernel_rfl, by kernel_rfl, by kernel_rfl⟩
theorem T143_places : Attr (KK w) 143 (Str.ofString "places") := ⟨by kernel_rfl, by kernel_rfl, by kernel_rfl, by kernel_rfl⟩
theorem T171_text : Attr (KK w) 171 (Str.ofString "text") := ⟨by kernel_rfl, by kernel_rfl, by kernel_rfl, by kernel_rfl⟩
theorem T193_octets : Attr (KK w) 193 (Str.ofString "octets") := ⟨by kernel_rfl, by kernel_rfl, by kernel_rfl, by kernel_rfl⟩
theorem T242_number : Attr (KK w) 242 (Str.ofString "number") := ⟨by kernel_rfl, by kernel_rfl, by kernel_rfl, by kernel_rfl⟩
theorem T242_generation : Attr (KK w) 242 (Str.ofString "generation") := ⟨by kernel_rfl, by kernel_rfl, by kernel_rfl, by kernel_rfl⟩
theorem T214_head : Attr (KK w) 214 (Str.ofString "head") := ⟨by kernel_rfl, by kernel_rfl, by kernel_rfl, by kernel_rfl⟩
theorem T214_octets : Attr (KK w) 214 (Str.ofString "octets") := ⟨by kernel_rfl, by kernel_rfl, by kernel_rfl, by kernel_rfl⟩
theorem P143_top : Put (KK w) 143 (Str.ofString "top") := ⟨by kernel_rfl, by kernel_rfl, by kernel_rfl, by kernel_rfl⟩
theorem P143_places : Put (KK w) 143 (Str.ofString "places") := ⟨by kernel_rfl, by kernel_rfl, by kernel_rfl, by kernel_rfl⟩
theorem P171_text : Put (KK w) 171 (Str.ofString "text") := ⟨by kernel_rfl, by kernel_rfl, by kernel_rfl, by kernel_rfl⟩
theorem P193_octets : Put (KK w) 193 (Str.ofString "octets") := ⟨by kernel_rfl, by kernel_rfl, by kernel_rfl, by kernel_rfl⟩
theorem P193_is_hex : Put (KK w) 193 (Str.ofString "is_hex") := ⟨by kernel_rfl, by kernel_rfl, by kernel_rfl, by kernel_rfl⟩
theorem P214_head : Put (KK w) 214 (Str.ofString "head") := ⟨by kernel_rfl, by kernel_rfl, by kernel_rfl, by kernel_rfl⟩
theorem P214_octets : Put (KK w) 214 (Str.ofString "octets") := ⟨by kernel_rfl, by kernel_rfl, by kernel_rfl, by kernel_rfl⟩
theorem P242_number : Put (KK w) 242 (Str.ofString "number") := ⟨by kernel_rfl, by kernel_rfl, by kernel_rfl, by kernel_rfl⟩
theorem P242_generation : Put (KK w) 242 (Str.ofString "generation") := ⟨by kernel_rfl, by kernel_rfl, by kernel_rfl, by kernel_rfl⟩
theorem kx143 {x : Addr} {ox od : Obj} : KitX (KK w) (.ref x) (.ref 143) (fun h => W.InstAt h x ox 143 (some od)) := kitx_own (by kernel_rfl) (by kernel_rfl) (by kernel_rfl) (by kernel_rfl) (by kernel_rfl) (by kernel_rfl)
theorem kx171 {x : Addr} {ox od : Obj} : KitX (KK w) (.ref x) (.ref 171) (fun h => W.InstAt h x ox 171 (some od)) := kitx_own (by kernel_rfl) (by kernel_rfl) (by kernel_rfl) (by kernel_rfl) (by kernel_rfl) (by kernel_rfl)
theorem kx193 {x : Addr} {ox od : Obj} : KitX (KK w) (.ref x) (.ref 193) (fun h => W.InstAt h x ox 193 (some od)) := kitx_own (by kernel_rfl) (by kernel_rfl) (by kernel_rfl) (by kernel_rfl) (by kernel_rfl) (by kernel_rfl)
theorem kx214 {x : Addr} {ox od : Obj} : KitX (KK w) (.ref x) (.ref 214) (fun h => W.InstAt h x ox 214 (some od)) := kitx_own (by kernel_rfl) (by kernel_rfl) (by kernel_rfl) (by kernel_rfl) (by kernel_rfl) (by kernel_rfl)
theorem kx242 {x : Addr} {ox od : Obj} : KitX (KK w) (.ref x) (.ref 242) (fun h => W.InstAt h x ox 242 (some od)) := kitx_own (by kernel_rfl) (by kernel_rfl) (by kernel_rfl) (by kernel_rfl) (by kernel_rfl) (by kernel_rfl)
end

end
section
noncomputable def CellIn (G : PMap) (_x : Str) (a : Addr) (v : Value) : Prop := ∃ o, G a = some o ∧ o.data = .cell (some v)
theorem CellIn.mono {G G' : PMap} {x : Str} {a : Addr} {v : Value} (h : CellIn G x a v) (hG : ∀ a o, G a = some o → G' a = some o) : CellIn G' x a v := let ⟨o, e, d⟩ := h; ⟨o, hG _ _ e, d⟩
theorem OIn.handed {prog : Program} {w : World} {G : PMap} {f : List Addr} {v : Value} {d : Ob} (h : OIn prog w G f v d) : handedIn v = true := by cases h <;> rfl
theorem cellUp {B G₀ G : PMap} {L a : Addr} {m : Str → Option Value} {h : Heap} {x : Str} {v : Value} (S : St B G₀ L m G h) (q : CellIn G₀ x a v) : CellIn G x a v := q.mono S.mono
theorem oinUp {prog : Program} {w : World} {B G₀ G : PMap} {L : Addr} {m : Str → Option Value} {h : Heap} {f : List Addr} {v : Value} {d : Ob} (S : St B G₀ L m G h) (q : OIn prog w G₀ f v d) : OIn prog w G f v d := q.mono S.mono
theorem instUp {B G₀ G : PMap} {L a C : Addr} {m : Str → Option Value} {h : Heap} {es : List DictEntry} (S : St B G₀ L m G h) (q : Inst G₀ a C es) : Inst G a C es := q.mono S.mono
theorem atUp {B G₀ G : PMap} {L a : Addr} {m : Str → Option Value} {h : Heap} {o : Obj} (S : St B G₀ L m G h) (q : G₀ a = some o) : G a = some o := S.mono _ _ q
noncomputable def CallOk (w : World) : Value → Shared → Prop
  | .builtin _, _ => True
  | .type _, _ => True
  | v, s => keepIn (KK w) v = true ∧ (KK w).In s.heap
section
variable {prog : Program} {w : World} {A : Around} {E : Value → Shared → Prop} {s : Shared} {c : Fx} {h : Heap} {t : Nat} {env : Env} {QV : Value → Shared → Prop}
theorem e_call {f : Str} {fp pos : Pos} {e : Expr} {es : List Expr}
    (q : wpAny (model prog w) A (eval (.Name f fp) env) (fun v s₁ => CallOk w v s₁ ∧ wpAny (model prog w) A (spliced (backTo pos (starEach (e :: es) env))) (fun vs s₂ => CallOk w v s₂ ∧ wpAny (model prog w) A (call v vs) QV E s₂) E s₁) E s)
    (h1 : starEach (e :: es) env = (false, eval e env) :: starEach es env := by kernel_rfl) (h2 : (backTo pos (starEach es env)).any (·.1) = false := by kernel_rfl) :
    wpAny (model prog w) A (eval (.Call (.Name f fp) (e :: es) [] pos) env) QV E s := by
  refine Call_ (wpAny_mono q (fun v s₁ x => ?_) fun _ _ x => x)
  refine and2 (x) fun a b => ?_
  try clear x
  have other : keepIn (KK w) v = true ∧ (KK w).In s₁.heap → (∀ s', CallOk w v s' → (KK w).In s'.heap) → wpAny (model prog w) A (callWith pos v [] (backTo pos (starEach (e :: es) env)) []) QV E s₁ := fun a k =>
    callWith_K a.2 a.1 (wpAny_mono b (fun vs s₂ y => ⟨k s₂ y.1, by simpa using y.2⟩) fun _ _ x => x) h1 h2
  cases v with
  | builtin id => exact PyProof.Rows.callWith_builtin1 (wpAny_mono b (fun vs s₂ y => y.2) fun _ _ x => x) h1 h2
  | type T => exact PyProof.Rows.callWith_type1 (wpAny_mono b (fun vs s₂ y => y.2) fun _ _ x => x) h1 h2
  | _ => exact other a fun s' y => y.2
end

noncomputable def Ob.ty : Ob → Value
  | .null => .type "NoneType" | .truth _ => .type "bool" | .int _ => .type "int" | .real _ _ => .ref 143 | .name _ => .ref 171
  | .string _ _ => .ref 193 | .ref _ _ => .ref 242 | .array _ => .type "list" | .dict _ => .type "dict" | .stream _ _ => .ref 214
noncomputable def obTys : List Value := [.type "NoneType", .type "bool", .type "int", .ref 143, .ref 171, .ref 193, .ref 242, .type "list", .type "dict", .ref 214, .type "str", .type "tuple"]
noncomputable def obCls : List Value := [.type "bool", .type "int", .ref 143, .ref 171, .ref 193, .ref 242, .type "list", .type "dict", .ref 214]
noncomputable def isiB (ty cv : Value) : Bool := ty == cv || (ty == .type "bool" && cv == .type "int")
theorem kit_all {w : World} : (obTys.all fun ty => obCls.all fun cv => kitOne (KK w) ty cv == some (isiB ty cv)) = true := by kernel_rfl
theorem kit_of {w : World} {ty cv : Value} (h1 : ty ∈ obTys) (h2 : obCls.contains cv = true) : kitOne (KK w) ty cv = some (isiB ty cv) :=
  eq_of_beq (List.all_eq_true.mp (List.all_eq_true.mp kit_all ty h1) cv (List.contains_iff_mem.mp h2))

section
variable {prog : Program} {w : World} {A : Around} {E : Value → Shared → Prop} {s : Shared} {c : Fx} {h : Heap} {t : Nat} {mg mb m : Str → Option Value} {B G₀ G : PMap} {L : Addr} {env : Env} {QV : Value → Shared → Prop} {f : List Addr} {v : Value} {d : Ob}
theorem ty_mem (d : Ob) : d.ty ∈ obTys := List.contains_iff_mem.mp (by cases d <;> kernel_rfl)
theorem inst_at {a dx C : Addr} {od : Obj} (h1 : h.get? a = some (instObj C dx)) (h2 : h.get? dx = some od) : W.InstAt h a (instObj C dx) C (some od) := ⟨h1, rfl, rfl, h2⟩
theorem OIn.kit (S : St B G₀ L m G h) (hv : OIn prog w G f v d) : d.ty ∈ obTys ∧ notLoader v = true ∧ ∃ H, KitX (KK w) v d.ty H ∧ H h := by
  cases hv with
  | null => exact ⟨ty_mem _, rfl, _, kitx_none, trivial⟩
  | truth b => exact ⟨ty_mem _, rfl, _, kitx_bool, trivial⟩
  | int i t => exact ⟨ty_mem _, rfl, _, kitx_int, trivial⟩
  | real i _ _ => obtain ⟨dx, n, h1, h2⟩ := i.ex; exact ⟨ty_mem _, rfl, _, kx143, inst_at (S.get h1) (S.get h2)⟩
  | name i _ => obtain ⟨dx, n, h1, h2⟩ := i.ex; exact ⟨ty_mem _, rfl, _, kx171, inst_at (S.get h1) (S.get h2)⟩
  | string i _ => obtain ⟨dx, n, h1, h2⟩ := i.ex; exact ⟨ty_mem _, rfl, _, kx193, inst_at (S.get h1) (S.get h2)⟩
  | ref i _ _ _ => obtain ⟨dx, n, h1, h2⟩ := i.ex; exact ⟨ty_mem _, rfl, _, kx242, inst_at (S.get h1) (S.get h2)⟩
  | array h1 _ => exact ⟨ty_mem _, rfl, _, kitx_list, _, S.get h1, rfl⟩
  | dict h1 h2 _ _ => obtain ⟨_, _, e, _⟩ := h2; exact ⟨ty_mem _, rfl, _, kitx_dict, _, S.get h1, e.1⟩
  | stream h1 h2 _ _ _ => exact ⟨ty_mem _, rfl, _, kx214, inst_at (S.get h1) (S.get h2)⟩
theorem isiO {cv : Value} (S : St B G₀ L m G h) (Z : Bs (KK w) VV LL mg mb B) (hv : OIn prog w G f v d) (q : ∀ t', QV (.bool (isiB d.ty cv)) (c.at h t')) (hc : obCls.contains cv = true := by kernel_rfl) :
    wpAny (model prog w) A (call (.builtin "isinstance") [v, cv]) QV E (c.at h t) := by
  obtain ⟨a, b, H, k, p⟩ := hv.kit S
  exact kia_one (s := c.at h t) k (Z.k S.keep) p (kit_of a hc) (notLoader_ne b) fun tk => q tk
theorem is_none {v : Value} (hv : OIn prog w G f v d) (q : QV (.bool d.isNul) s) : wpAny (model prog w) A (compareOp .Is v .none) QV E s := by
  cases hv with
  | null => exact is_none_t q
  | _ => exact is_none_f q
end
structure Gl (w : World) (f : Str) (fv : Value) : Prop where
  rd : nsIn (KK w) mainGlobals f = some (some fv) ∨ (bootBuiltins f = some fv ∧ nsIn (KK w) mainGlobals f = some none ∧ decide (f = "__name__") = false)
  nd : (f == ("__debug__" : Str)) = false
  ok : ∀ s : Shared, (KK w).In s.heap → CallOk w fv s
noncomputable def kindsAre (scope : Scope) (f : Str) : Bool := scope.kind == .function && scope.names.lookup f == some .globalImplicit
inductive Vr (scope : Scope) (cells : List (Str × Addr)) (m : Str → Option Value) (G : PMap) (x : Str) (v : Value) : Prop
  | l (hm : m x = some v) (hk : (scope.kind == .function && scope.names.lookup x == some .local && !(x == ("__debug__" : Str))) = true)
  | c {ca : Addr} (hc : CellIn G x ca v) (hl : cells.lookup x = some ca) (hk : (scope.kind == .function && scope.names.lookup x == some .cell && !(x == ("__debug__" : Str))) = true)
section
variable {prog : Program} {w : World} {A : Around} {E : Value → Shared → Prop} {c : Fx} {h : Heap} {t : Nat} {mg mb m : Str → Option Value} {B G₀ G : PMap} {L fa : Addr} {qual f x y : Str} {scope : Scope} {cdv fv u v : Value} {cells : List (Str × Addr)} {fp px py pos : Pos} {QV : Value → Shared → Prop}
theorem Gl.name (g : Gl w f fv) (S : St B G₀ L m G h) (Z : Bs (KK w) VV LL mg mb B) (hs : kindsAre scope f = true) (q : QV fv (c.at h t)) : wpAny (model prog w) A (eval (.Name f fp) (envX qual scope L fa cdv cells)) QV E (c.at h t) := by
  refine and2 (Bool.and_eq_true_iff.mp hs) fun hk hl => ?_
  rcases g.rd with e | ⟨e, e2, e3⟩
  · exact nK S Z e q rfl (eq_of_beq hk) (eq_of_beq hl) g.nd
  · exact nB S Z e e2 q e3 rfl rfl (eq_of_beq hk) (eq_of_beq hl) g.nd
theorem nG {env : Env} (g : Gl w f fv) (S : St B G₀ L m G h) (Z : Bs (KK w) VV LL mg mb B) (q : QV fv (c.at h t)) (hk : env.scope.kind = .function := by kernel_rfl) (hl : env.kindOf f = some .globalImplicit := by kernel_rfl) (hg : env.globals = mainGlobals := by kernel_rfl) (hb : env.builtins = builtinsNs := by kernel_rfl) : wpAny (model prog w) A (eval (.Name f fp) env) QV E (c.at h t) := by
  rcases g.rd with e | ⟨e, e2, e3⟩
  · exact nK S Z e q hg hk hl g.nd
  · exact nB S Z e e2 q e3 hg hb hk hl g.nd
theorem Vr.name (g : Vr scope cells m G x v) (S : St B G₀ L m G h) (q : QV v (c.at h t)) : wpAny (model prog w) A (eval (.Name x px) (envX qual scope L fa cdv cells)) QV E (c.at h t) := by
  cases g with
  | l hm hk =>
    refine and2 (Bool.and_eq_true_iff.mp hk) fun hk hd => ?_
    refine and2 (Bool.and_eq_true_iff.mp hk) fun hk hl => ?_
    exact nL S hm q rfl (eq_of_beq hk) (eq_of_beq hl) (by simpa using hd)
  | c hc hlk hk =>
    refine and2 (Bool.and_eq_true_iff.mp hk) fun hk hd => ?_
    refine and2 (Bool.and_eq_true_iff.mp hk) fun hk hl => ?_
    refine ex1 (hc) fun o hx8 => ?_
    refine and2 hx8 fun h1 h2 => ?_
    clear hx8
    try clear hc
    exact nC S h1 h2 q hlk (eq_of_beq hk) (eq_of_beq hl) (by simpa using hd)
theorem call1v (S : St B G₀ L m G h) (Z : Bs (KK w) VV LL mg mb B) (g : Gl w f fv) (hs : kindsAre scope f = true) (hv : Vr scope cells m G x v) (q : wpAny (model prog w) A (call fv [v]) QV E (c.at h t)) :
    wpAny (model prog w) A (eval (.Call (.Name f fp) [.Name x px] [] pos) (envX qual scope L fa cdv cells)) QV E (c.at h t) := by
  have k := g.ok (c.at h t) (Z.k S.keep)
  exact e_call (g.name S Z hs ⟨k, a_cons (hv.name S (a_nil ⟨k, q⟩))⟩)
theorem call2v (S : St B G₀ L m G h) (Z : Bs (KK w) VV LL mg mb B) (g : Gl w f fv) (hs : kindsAre scope f = true) (hv : Vr scope cells m G x v) (hu : Vr scope cells m G y u) (q : wpAny (model prog w) A (call fv [v, u]) QV E (c.at h t)) :
    wpAny (model prog w) A (eval (.Call (.Name f fp) [.Name x px, .Name y py] [] pos) (envX qual scope L fa cdv cells)) QV E (c.at h t) := by
  have k := g.ok (c.at h t) (Z.k S.keep)
  exact e_call (g.name S Z hs ⟨k, a_cons (hv.name S (a_cons (hu.name S (a_nil ⟨k, q⟩))))⟩)
theorem call2i {i : Int} {kk : Nat} (S : St B G₀ L m G h) (Z : Bs (KK w) VV LL mg mb B) (g : Gl w f fv) (hs : kindsAre scope f = true) (hv : Vr scope cells m G x v) (q : ∀ u t', wpAny (model prog w) A (call fv [v, .int i u]) QV E (c.at h t')) :
    wpAny (model prog w) A (eval (.Call (.Name f fp) [.Name x px, .Constant (.int i) kk py] [] pos) (envX qual scope L fa cdv cells)) QV E (c.at h t) := by
  have k := fun t => g.ok (c.at h t) (Z.k S.keep)
  exact e_call (g.name S Z hs ⟨k t, a_cons (hv.name S (a_cons (c_int fun u t' => a_nil ⟨k t', q u t'⟩)))⟩)
theorem t_isi {fl : List Addr} {d : Ob} {QB : Bool → Shared → Prop} (S : St B G₀ L m G h) (Z : Bs (KK w) VV LL mg mb B) (hi : Gl w (Str.ofString "isinstance") (.builtin "isinstance")) (hv : Vr scope cells m G x v) (ho : OIn prog w G fl v d) (g : Gl w y u) (hs : (kindsAre scope (Str.ofString "isinstance") && kindsAre scope y && obCls.contains u) = true) (q : ∀ t', QB (isiB d.ty u) (c.at h t')) :
    wpAny (model prog w) A (isTrue (.Call (.Name (Str.ofString "isinstance") fp) [.Name x px, .Name y py] [] pos) (envX qual scope L fa cdv cells) (eval (.Call (.Name (Str.ofString "isinstance") fp) [.Name x px, .Name y py] [] pos) (envX qual scope L fa cdv cells))) QB E (c.at h t) := by
  refine and2 (Bool.and_eq_true_iff.mp hs) fun hs hc => ?_
  refine and2 (Bool.and_eq_true_iff.mp hs) fun h1 h2 => ?_
  exact t_plain (e_call (hi.name S Z h1 ⟨trivial, a_cons (hv.name S (a_cons (g.name S Z h2 (a_nil ⟨trivial, isiO S Z ho (fun t' => truthy_b (q t')) hc⟩))))⟩))
theorem t_eqs {z y : Str} {kk : Nat} {tk : Tok} {QB : Bool → Shared → Prop} (S : St B G₀ L m G h) (hv : Vr scope cells m G x (.str z tk)) (q : ∀ (u : Tok) t', QB (z == y) (c.at h t')) :
    wpAny (model prog w) A (isTrue (.Compare (.Name x px) [.Eq] [.Constant (.str y) kk py] pos) (envX qual scope L fa cdv cells) (eval (.Compare (.Name x px) [.Eq] [.Constant (.str y) kk py] pos) (envX qual scope L fa cdv cells))) QB E (c.at h t) :=
  t_cmp (hv.name S (c_str fun u t' => eq_s (truthy_b (q u t'))))
end
section
variable {w : World}
theorem gl_PaperError : Gl w (Str.ofString "PaperError") (.ref 46) := ⟨.inl ns_PaperError, by kernel_rfl, fun _ X => ⟨by kernel_rfl, X⟩⟩
theorem gl_Decimal : Gl w (Str.ofString "Decimal") (.ref 143) := ⟨.inl ns_Decimal, by kernel_rfl, fun _ X => ⟨by kernel_rfl, X⟩⟩
theorem gl_Name : Gl w (Str.ofString "Name") (.ref 171) := ⟨.inl ns_Name, by kernel_rfl, fun _ X => ⟨by kernel_rfl, X⟩⟩
theorem gl_String : Gl w (Str.ofString "String") (.ref 193) := ⟨.inl ns_String, by kernel_rfl, fun _ X => ⟨by kernel_rfl, X⟩⟩
theorem gl_Stream : Gl w (Str.ofString "Stream") (.ref 214) := ⟨.inl ns_Stream, by kernel_rfl, fun _ X => ⟨by kernel_rfl, X⟩⟩
theorem gl_Reference : Gl w (Str.ofString "Reference") (.ref 242) := ⟨.inl ns_Reference, by kernel_rfl, fun _ X => ⟨by kernel_rfl, X⟩⟩
theorem gl_kind_of : Gl w (Str.ofString "kind_of") (.ref 253) := ⟨.inl ns_kind_of, by kernel_rfl, fun _ X => ⟨by kernel_rfl, X⟩⟩
theorem gl_is_number : Gl w (Str.ofString "is_number") (.ref 260) := ⟨.inl ns_is_number, by kernel_rfl, fun _ X => ⟨by kernel_rfl, X⟩⟩
theorem gl_told_plain : Gl w (Str.ofString "told_plain") (.ref 267) := ⟨.inl ns_told_plain, by kernel_rfl, fun _ X => ⟨by kernel_rfl, X⟩⟩
theorem gl_told : Gl w (Str.ofString "told") (.ref 272) := ⟨.inl ns_told, by kernel_rfl, fun _ X => ⟨by kernel_rfl, X⟩⟩
theorem gl_same : Gl w (Str.ofString "same") (.ref 279) := ⟨.inl ns_same, by kernel_rfl, fun _ X => ⟨by kernel_rfl, X⟩⟩
theorem gl_copied : Gl w (Str.ofString "copied") (.ref 284) := ⟨.inl ns_copied, by kernel_rfl, fun _ X => ⟨by kernel_rfl, X⟩⟩
theorem gl_parts_of : Gl w (Str.ofString "parts_of") (.ref 289) := ⟨.inl ns_parts_of, by kernel_rfl, fun _ X => ⟨by kernel_rfl, X⟩⟩
theorem gl_references_in : Gl w (Str.ofString "references_in") (.ref 296) := ⟨.inl ns_references_in, by kernel_rfl, fun _ X => ⟨by kernel_rfl, X⟩⟩
theorem gl_renumbered : Gl w (Str.ofString "renumbered") (.ref 301) := ⟨.inl ns_renumbered, by kernel_rfl, fun _ X => ⟨by kernel_rfl, X⟩⟩
theorem gl_depth_of : Gl w (Str.ofString "depth_of") (.ref 308) := ⟨.inl ns_depth_of, by kernel_rfl, fun _ X => ⟨by kernel_rfl, X⟩⟩
theorem gl_law_pen : Gl w (Str.ofString "_law_pen") (.ref 315) := ⟨.inl ns_law_pen, by kernel_rfl, fun _ X => ⟨by kernel_rfl, X⟩⟩
theorem gl_law_draw : Gl w (Str.ofString "_law_draw") (.ref 322) := ⟨.inl ns_law_draw, by kernel_rfl, fun _ X => ⟨by kernel_rfl, X⟩⟩
theorem gl_law_object : Gl w (Str.ofString "_law_object") (.ref 327) := ⟨.inl ns_law_object, by kernel_rfl, fun _ X => ⟨by kernel_rfl, X⟩⟩
theorem gl_law_row : Gl w (Str.ofString "_law_row") (.ref 332) := ⟨.inl ns_law_row, by kernel_rfl, fun _ X => ⟨by kernel_rfl, X⟩⟩
theorem gl_law_walked : Gl w (Str.ofString "_law_walked") (.ref 337) := ⟨.inl ns_law_walked, by kernel_rfl, fun _ X => ⟨by kernel_rfl, X⟩⟩
theorem gl_law_depth : Gl w (Str.ofString "_law_depth") (.ref 342) := ⟨.inl ns_law_depth, by kernel_rfl, fun _ X => ⟨by kernel_rfl, X⟩⟩
theorem gl_law_spoil : Gl w (Str.ofString "_law_spoil") (.ref 349) := ⟨.inl ns_law_spoil, by kernel_rfl, fun _ X => ⟨by kernel_rfl, X⟩⟩
theorem gl_law_raises : Gl w (Str.ofString "_law_raises") (.ref 356) := ⟨.inl ns_law_raises, by kernel_rfl, fun _ X => ⟨by kernel_rfl, X⟩⟩
theorem gl_isinstance : Gl w (Str.ofString "isinstance") (.builtin "isinstance") := ⟨.inr ⟨PyProof.Rows.boot_isinstance, ns_isinstance, by kernel_rfl⟩, by kernel_rfl, fun _ _ => trivial⟩
theorem gl_bool : Gl w (Str.ofString "bool") (.type "bool") := ⟨.inr ⟨PyProof.Rows.boot_bool, ns_bool, by kernel_rfl⟩, by kernel_rfl, fun _ _ => trivial⟩
theorem gl_int : Gl w (Str.ofString "int") (.type "int") := ⟨.inr ⟨PyProof.Rows.boot_int, ns_int, by kernel_rfl⟩, by kernel_rfl, fun _ _ => trivial⟩
theorem gl_list : Gl w (Str.ofString "list") (.type "list") := ⟨.inr ⟨PyProof.Rows.boot_list, ns_list, by kernel_rfl⟩, by kernel_rfl, fun _ _ => trivial⟩
theorem gl_dict : Gl w (Str.ofString "dict") (.type "dict") := ⟨.inr ⟨PyProof.Rows.boot_dict, ns_dict, by kernel_rfl⟩, by kernel_rfl, fun _ _ => trivial⟩
theorem gl_bytes : Gl w (Str.ofString "bytes") (.type "bytes") := ⟨.inr ⟨PyProof.Rows.boot_bytes, ns_bytes, by kernel_rfl⟩, by kernel_rfl, fun _ _ => trivial⟩
theorem gl_tuple : Gl w (Str.ofString "tuple") (.type "tuple") := ⟨.inr ⟨PyProof.Rows.boot_tuple, ns_tuple, by kernel_rfl⟩, by kernel_rfl, fun _ _ => trivial⟩
theorem gl_sorted : Gl w (Str.ofString "sorted") (.builtin "sorted") := ⟨.inr ⟨PyProof.Rows.boot_sorted, ns_sorted, by kernel_rfl⟩, by kernel_rfl, fun _ _ => trivial⟩
theorem gl_reversed : Gl w (Str.ofString "reversed") (.type "reversed") := ⟨.inr ⟨PyProof.Rows.boot_reversed, ns_reversed, by kernel_rfl⟩, by kernel_rfl, fun _ _ => trivial⟩
theorem gl_max : Gl w (Str.ofString "max") (.builtin "max") := ⟨.inr ⟨PyProof.Rows.boot_max, ns_max, by kernel_rfl⟩, by kernel_rfl, fun _ _ => trivial⟩
theorem gl_repr : Gl w (Str.ofString "repr") (.builtin "repr") := ⟨.inr ⟨PyProof.Rows.boot_repr, ns_repr, by kernel_rfl⟩, by kernel_rfl, fun _ _ => trivial⟩
theorem gl_range : Gl w (Str.ofString "range") (.type "range") := ⟨.inr ⟨PyProof.Rows.boot_range, ns_range, by kernel_rfl⟩, by kernel_rfl, fun _ _ => trivial⟩
theorem gl_abs : Gl w (Str.ofString "abs") (.builtin "abs") := ⟨.inr ⟨PyProof.Rows.boot_abs, ns_abs, by kernel_rfl⟩, by kernel_rfl, fun _ _ => trivial⟩
theorem gl_Exception : Gl w (Str.ofString "Exception") (.type "Exception") := ⟨.inr ⟨boot_Exc, ns_Exception, by kernel_rfl⟩, by kernel_rfl, fun _ _ => trivial⟩
end

end
section
theorem ty_null {d : Ob} (e : d.isNul = true) : d.word = (Str.ofString "null") := by cases d <;> first | rfl | exact absurd e Bool.false_ne_true
theorem ty_truth {d : Ob} (e : isiB d.ty (.type "bool") = true) : d.word = (Str.ofString "truth") := by cases d <;> first | rfl | exact absurd e Bool.false_ne_true
theorem ty_int {d : Ob} (e : isiB d.ty (.type "int") = true) (e1 : isiB d.ty (.type "bool") = false) : d.word = (Str.ofString "int") := by cases d <;> first | rfl | exact absurd e Bool.false_ne_true | exact absurd e1.symm Bool.false_ne_true
theorem ty_real {d : Ob} (e : isiB d.ty (.ref 143) = true) : d.word = (Str.ofString "real") := by cases d <;> first | rfl | exact absurd e Bool.false_ne_true
theorem ty_name {d : Ob} (e : isiB d.ty (.ref 171) = true) : d.word = (Str.ofString "name") := by cases d <;> first | rfl | exact absurd e Bool.false_ne_true
theorem ty_string {d : Ob} (e : isiB d.ty (.ref 193) = true) : d.word = (Str.ofString "string") := by cases d <;> first | rfl | exact absurd e Bool.false_ne_true
theorem ty_array {d : Ob} (e : isiB d.ty (.type "list") = true) : d.word = (Str.ofString "array") := by cases d <;> first | rfl | exact absurd e Bool.false_ne_true
theorem ty_dict {d : Ob} (e : isiB d.ty (.type "dict") = true) : d.word = (Str.ofString "dict") := by cases d <;> first | rfl | exact absurd e Bool.false_ne_true
theorem ty_stream {d : Ob} (e : isiB d.ty (.ref 214) = true) : d.word = (Str.ofString "stream") := by cases d <;> first | rfl | exact absurd e Bool.false_ne_true
theorem ty_ref {d : Ob} (e : isiB d.ty (.ref 242) = true) : d.word = (Str.ofString "ref") := by cases d <;> first | rfl | exact absurd e Bool.false_ne_true
theorem ty_none {d : Ob} (e0 : d.isNul = false) (e1 : isiB d.ty (.type "bool") = false) (e2 : isiB d.ty (.type "int") = false) (e3 : isiB d.ty (.ref 143) = false) (e4 : isiB d.ty (.ref 171) = false) (e5 : isiB d.ty (.ref 193) = false) (e6 : isiB d.ty (.type "list") = false) (e7 : isiB d.ty (.type "dict") = false) (e8 : isiB d.ty (.ref 214) = false) (e9 : isiB d.ty (.ref 242) = false) : False := by
  cases d <;> first | exact absurd e0.symm Bool.false_ne_true | exact absurd e1.symm Bool.false_ne_true | exact absurd e2.symm Bool.false_ne_true | exact absurd e3.symm Bool.false_ne_true | exact absurd e4.symm Bool.false_ne_true | exact absurd e5.symm Bool.false_ne_true | exact absurd e6.symm Bool.false_ne_true | exact absurd e7.symm Bool.false_ne_true | exact absurd e8.symm Bool.false_ne_true | exact absurd e9.symm Bool.false_ne_true
section
variable {prog : Program} {w : World} {A : Around} {E : Value → Shared → Prop} {c : Fx} {h : Heap} {t : Nat} {mg mb : Str → Option Value} {G : PMap} {f : List Addr} {v : Value} {d : Ob} {Q : Value → Shared → Prop}
theorem kind_spec (o : Ok 2 A) (Z : Bs (KK w) VV LL mg mb h.get?) (hG : ∀ a o, G a = some o → h.get? a = some o) (hv : OIn prog w G f v d)
    (k : ∀ u h' t', Grow No G h G h' → Q (.str d.word u) (c.at h' t')) :
    wpAny (model prog w) A (call (.ref 253) [v]) Q E (c.at h t) := by
  refine' enter No [((Str.ofString "value"), v)] o.room Z.no hG ?ho ?hcd ?hb ?hl ?hc ?hm ?_ ?c1 ?c2 ?c3
  case ho => exact rfl
  case hcd => kernel_rfl
  case hb => exact BindsTo.of_eq rfl
  case hl => kernel_rfl
  case hc => kernel_rfl
  case hm => exact binds1
  case c1 => exact rfl
  case c2 => exact rfl
  case c3 => exact rfl
  intro L h₁ t₁ S Z gL sL up
  have g := exit0 S up sL hG no_ne gL
  have fin : ∀ x u t, d.word = x → Q (.str x u) (c.at h₁ t) := fun x u t e => by rw [← e]; exact k u h₁ t g
  repeat cell_call
  refine iteB (fun e => ?_) (fun e0 => ?_)
  · repeat cell_call
    exact fin _ _ _ (ty_null e)
  repeat cell_call
  refine iteB (fun e => ?_) (fun e1 => ?_)
  · repeat cell_call
    exact fin _ _ _ (ty_truth e)
  repeat cell_call
  refine iteB (fun e => ?_) (fun e2 => ?_)
  · repeat cell_call
    exact fin _ _ _ (ty_int e e1)
  repeat cell_call
  refine iteB (fun e => ?_) (fun e3 => ?_)
  · repeat cell_call
    exact fin _ _ _ (ty_real e)
  repeat cell_call
  refine iteB (fun e => ?_) (fun e4 => ?_)
  · repeat cell_call
    exact fin _ _ _ (ty_name e)
  repeat cell_call
  refine iteB (fun e => ?_) (fun e5 => ?_)
  · repeat cell_call
    exact fin _ _ _ (ty_string e)
  repeat cell_call
  refine iteB (fun e => ?_) (fun e6 => ?_)
  · repeat cell_call
    exact fin _ _ _ (ty_array e)
  repeat cell_call
  refine iteB (fun e => ?_) (fun e7 => ?_)
  · repeat cell_call
    exact fin _ _ _ (ty_dict e)
  repeat cell_call
  refine iteB (fun e => ?_) (fun e8 => ?_)
  · repeat cell_call
    exact fin _ _ _ (ty_stream e)
  repeat cell_call
  refine iteB (fun e => ?_) (fun e9 => ?_)
  · repeat cell_call
    exact fin _ _ _ (ty_ref e)
  exact (ty_none e0 e1 e2 e3 e4 e5 e6 e7 e8 e9).elim
end

end
section
noncomputable def Ob.isPlain : Ob → Bool
  | .array _ | .dict _ | .stream _ _ => false
  | _ => true
section
variable {prog : Program} {w : World} {A : Around} {E : Value → Shared → Prop} {c : Fx} {h : Heap} {t : Nat} {mg mb : Str → Option Value} {G : PMap} {f : List Addr} {v : Value} {d : Ob} {Q : Value → Shared → Prop}
theorem plain_spec {u : Tok} (n : Nat) (o : Ok 2 A) (Z : Bs (KK w) VV LL mg mb h.get?) (hG : ∀ a o, G a = some o → h.get? a = some o) (hv : OIn prog w G f v d) (hd : d.isPlain = true)
    (k : ∀ r G' h' t', Grow No G h G' h' → RIn G' r (d.row none n) → Q r (c.at h' t')) :
    wpAny (model prog w) A (call (.ref 267) [.str d.word u, v]) Q E (c.at h t) := by
  refine' enter No [((Str.ofString "kind"), .str d.word u), ((Str.ofString "value"), v)] o.room Z.no hG ?ho ?hcd ?hb ?hl ?hc ?hm ?_ ?c1 ?c2 ?c3
  case ho => exact rfl
  case hcd => kernel_rfl
  case hb => exact BindsTo.of_eq rfl
  case hl => kernel_rfl
  case hc => kernel_rfl
  case hm => exact binds2
  case c1 => exact rfl
  case c2 => exact rfl
  case c3 => exact rfl
  intro L h₁ t₁ S Z gL sL up
  (first | with_reducible exact no_some hv | with_reducible exact some_no hv | with_reducible exact no_bool hv | with_reducible exact no_bool' hv | cases hv)
  case null =>
    rw [row_null, nullRow] at k
    repeat cell_call
    (refine k _ _ _ _ (exit0 (by assumption) up sL hG no_ne gL) ?_; exact (.tup put_self (.cons (.str _ _) .nil)))
  case truth b =>
    rw [row_truth] at k
    repeat cell_call
    (first | with_reducible exact no_some b | with_reducible exact some_no b | with_reducible exact no_bool b | with_reducible exact no_bool' b | cases b)
    all_goals (repeat cell_call)
    all_goals (refine k _ _ _ _ (exit0 (by assumption) up sL hG no_ne gL) ?_; exact (.tup put_self (.cons (.str _ _) (.cons (.int _ _) .nil))))
  case int i t =>
    rw [row_int] at k
    repeat cell_call
    (refine k _ _ _ _ (exit0 (by assumption) up sL hG no_ne gL) ?_; exact (.tup put_self (.cons (.str _ _) (.cons (.int _ _) .nil))))
  case real i a b =>
    rw [row_real] at k
    repeat cell_call
    (refine k _ _ _ _ (exit0 (by assumption) up sL hG no_ne gL) ?_; exact (.tup put_self (.cons (.str _ _) (.cons (.int _ _) (.cons (.int _ _) .nil)))))
  case name i a =>
    rw [row_name] at k
    repeat cell_call
    (refine k _ _ _ _ (exit0 (by assumption) up sL hG no_ne gL) ?_; exact (.tup put_self (.cons (.str _ _) (.cons (.str _ _) .nil))))
  case string i a =>
    rw [row_string] at k
    repeat cell_call
    (refine k _ _ _ _ (exit0 (by assumption) up sL hG no_ne gL) ?_; exact (.tup put_self (.cons (.str _ _) (.cons (.bytes _ _) .nil))))
  case ref i a b e =>
    rw [row_ref, refRow] at k
    repeat cell_call
    (refine k _ _ _ _ (exit0 (by assumption) up sL hG no_ne gL) ?_; exact (.tup put_self (.cons (.str _ _) (.cons (.int _ _) (.cons (.int _ _) .nil)))))
  all_goals cases hd
end

end
section
theorem cellIn {cl : List (Str × Addr)} {cm : Str → Option Value} {G : PMap} (H : cellsAt cl cm G) (x : Str) {a : Addr} {v : Value} (e : cl.lookup x = some a) (hv : cm x = some v) : CellIn G x a v := by
  refine ex1 (H x a e) fun o hx1 => ?_
  refine and2 hx1 fun h1 h2 => ?_
  clear hx1
  exact ⟨o, h1, by rw [h2, hv]⟩

theorem mask_no {G : PMap} : mask No G = G := by funext a; exact mask_out fun z => z

noncomputable def nodupS : List Str → Bool
  | [] => true
  | a :: r => !r.contains a && nodupS r
theorem nodupS_of : ∀ {l : List Str}, l.Nodup → nodupS l = true
  | [], _ => rfl
  | a :: r, h => by
    have := List.nodup_cons.mp h
    show (!r.contains a && nodupS r) = true
    rw [nodupS_of this.2, Bool.and_true, Bool.not_eq_true', Bool.eq_false_iff]
    exact fun z => this.1 (List.contains_iff_mem.mp z)
noncomputable def abcOk (l : List Str) : Bool := !(nodupS l && sortedS l) || l == abc.filter fun k => l.contains k
theorem abc_1 : (abc.all fun a => abcOk [a]) = true := by decide +kernel
theorem abc_2 : (abc.all fun a => abc.all fun b => abcOk [a, b]) = true := by decide +kernel
theorem abc_3 : (abc.all fun a => abc.all fun b => abc.all fun d => abcOk [a, b, d]) = true := by decide +kernel
theorem abc_4 : (abc.all fun a => abc.all fun b => abc.all fun d => abc.all fun e => !nodupS [a, b, d, e]) = true := by decide +kernel
theorem abc_ok {l : List Str} (hn : nodupS l = true) (hk : ∀ k ∈ l, k ∈ abc) (hs : sortedS l = true) : l = abc.filter fun k => l.contains k := by
  have fin : abcOk l = true → l = abc.filter fun k => l.contains k := fun z => by
    unfold abcOk at z
    rw [hn, hs] at z
    simpa using z
  match l with
  | [] => rfl
  | [a] => exact fin (List.all_eq_true.mp abc_1 a (hk a (by simp)))
  | [a, b] => exact fin (List.all_eq_true.mp (List.all_eq_true.mp abc_2 a (hk a (by simp))) b (hk b (by simp)))
  | [a, b, d] => exact fin (List.all_eq_true.mp (List.all_eq_true.mp (List.all_eq_true.mp abc_3 a (hk a (by simp))) b (hk b (by simp))) d (hk d (by simp)))
  | a :: b :: d :: e :: r =>
    have := List.all_eq_true.mp (List.all_eq_true.mp (List.all_eq_true.mp (List.all_eq_true.mp abc_4 a (hk a (by simp))) b (hk b (by simp))) d (hk d (by simp))) e (hk e (by simp))
    exfalso
    simp only [nodupS, Bool.and_eq_true, Bool.not_eq_true', List.contains_cons, Bool.or_eq_false_iff] at hn
    refine and4 (hn) fun hp2_0 hp2_1 hp2_2 h10 => ?_
    try clear hn
    refine and4 (hp2_0) fun h1 h2 h3 h4 => ?_
    clear hp2_0
    refine and3 (hp2_1) fun h5 h6 h7 => ?_
    clear hp2_1
    refine and2 (hp2_2) fun h8 h9 => ?_
    clear hp2_2
    simp only [nodupS, Bool.not_eq_true', Bool.and_eq_false_iff, Bool.not_eq_false', List.contains_cons, List.contains_nil, Bool.or_false, Bool.or_eq_true, beq_iff_eq, Bool.true_eq_false, or_false, h1, h2, h3, h5, h6, h8, Bool.false_eq_true] at this
theorem sorted_abc {ss ks : List Str} (hp : ss.Perm ks) (hn : ks.Nodup) (hk : ∀ k ∈ ks, k ∈ abc) (hs : sortedS ss = true) : ss = abc.filter fun k => ks.contains k := by
  have e : (fun k => ss.contains k) = fun k => ks.contains k := by
    funext k
    rw [Bool.eq_iff_iff, List.contains_iff_mem, List.contains_iff_mem]
    exact hp.mem_iff
  rw [← e]
  exact abc_ok (nodupS_of (hp.nodup_iff.mpr hn)) (fun k h => hk k (hp.mem_iff.mp h)) hs

section
variable {prog : Program} {w : World} {A : Around} {E : Value → Shared → Prop} {s : Shared} {c : Fx} {h : Heap} {t : Nat} {mg mb m : Str → Option Value} {B G₀ G : PMap} {L : Addr} {env : Env} {Q : Value → Shared → Prop} {QB : Bool → Shared → Prop} {v : Value} {x : Str} {pos : Pos}
theorem nCell {ca : Addr} (S : St B G₀ L m G h) (hc : CellIn G x ca v) (q : Q v (c.at h t)) (hl : env.cells.lookup x = some ca := by kernel_rfl) (hk : env.scope.kind = .function := by kernel_rfl) (hx : env.kindOf x = some .cell := by kernel_rfl)
    (hd : (x == ("__debug__" : Str)) = false := by kernel_rfl) : wpAny (model prog w) A (eval (.Name x pos) env) Q E (c.at h t) := by
  refine ex1 (hc) fun o hx6 => ?_
  refine and2 hx6 fun h1 h2 => ?_
  clear hx6
  try clear hc
  exact nC S h1 h2 q hl hk hx hd
theorem tests0 (q : QB true s) : wpAny (model prog w) A (testsOf [] env) QB E s := wpAny_pure q
theorem tests1 {e : Expr} (q : wpAny (model prog w) A (isTrue e env (eval e env)) QB E s) : wpAny (model prog w) A (testsOf [e] env) QB E s := by
  show wpAny _ _ (forIn [e] true _) _ _ _
  rw [List.forIn_cons]
  refine wpAny_bind ?_
  rw [if_pos rfl]
  refine wpAny_bind (wpAny_mono q (fun ok s' z => wpAny_pure ?_) fun _ _ z => z)
  dsimp only
  rw [List.forIn_nil]
  exact wpAny_pure z
end

section
variable {prog : Program} {w : World} {A : Around} {E : Value → Shared → Prop} {s : Shared} {c : Fx} {h h' : Heap} {t : Nat} {mg mb m : Str → Option Value} {B G₀ G : PMap} {L : Addr} {env : Env} {Q : Value → Shared → Prop} {QB : Bool → Shared → Prop} {v : Value} {x : Str} {pos : Pos}
theorem St.alloc {D : Addr} {o : Obj} (S : St B G₀ L m G h) (k : ∀ b o, h.get? b = some o → h'.get? b = some o) (hD : h.get? D = none) (ho : h'.get? D = some o) : St B G₀ L m (put G D o) h' ∧ G D = none := by
  have g0 : G D = none := by
    cases e : G D with
    | none => rfl
    | some o' => have := S.get e; rw [hD] at this; (first | with_reducible exact no_some this | with_reducible exact some_no this | with_reducible exact no_bool this | with_reducible exact no_bool' this | cases this)
  refine ⟨(S.kept k).more g0 ?_ ?_ ho, g0⟩
  · cases e : B D with
    | none => rfl
    | some o' => have := S.keep _ _ e; rw [hD] at this; (first | with_reducible exact no_some this | with_reducible exact some_no this | with_reducible exact no_bool this | with_reducible exact no_bool' this | cases this)
  · rintro rfl
    refine ex1 (S.has) fun o' e => ?_
    rw [hD] at e; (first | with_reducible exact no_some e | with_reducible exact some_no e | with_reducible exact no_bool e | with_reducible exact no_bool' e | cases e)
theorem fresh_ge {D : Addr} (hD : h.objs.size ≤ D) : h.get? D = none := by
  cases e : h.get? D with
  | none => rfl
  | some o => exact absurd (Heap.lt_size e) (Nat.not_lt.mpr hD)
theorem strsAre_of {kvs : List (Str × Value)} : ∀ {vs : List Value}, vs.length = kvs.length → (∀ (j : Nat) (v : Value), vs[j]? = some v → ∃ k x, kvs[j]? = some (k, x) ∧ (PySem.strKind prog w).is k v = true) → StrsAre vs (kvs.map (·.1)) := by
  induction kvs with
  | nil => intro vs hl _; cases vs with | nil => exact .nil | cons _ _ => simp at hl
  | cons kv kvs ih =>
    intro vs hl hv
    cases vs with
    | nil => simp at hl
    | cons v vs =>
      refine ex2 (hv 0 v rfl) fun k x hx8 => ?_
      refine and2 hx8 fun e hk => ?_
      clear hx8
      simp only [List.getElem?_cons_zero, Option.some.injEq] at e
      subst e
      refine ex1 (Value.isStrOf_shape hk) fun u er9_1 => ?_
      subst er9_1
      exact .cons _ _ (ih (by simpa using hl) fun j u hu => by simpa using hv (j + 1) u (by simpa using hu))
theorem sortedD {a : Addr} {o : Obj} {kvs : List (Str × Value)} (S : St B G₀ L m G h) (ha : G a = some o) (hd : o.IsDictOf (PySem.strKind prog w) kvs) (hs : (a == sysModules) = false) (hh : A.handled = none) (hl : kvs.length < 64)
    (q : ∀ D n h' t' vs ss, St B G₀ L m (put G D (listOf vs.toArray n)) h' → G D = none → StrsAre vs ss → ss.Perm (kvs.map (·.1)) → sortedS ss = true → Q (.ref D) (c.at h' t')) :
    wpAny (model prog w) A (call (.builtin "sorted") [.ref a]) Q E (c.at h t) := by
  have hD : h.DictOf (PySem.strKind prog w) a kvs := Heap.dictOf_iff.mpr ⟨o, S.get ha, hd⟩
  refine ex1 (hD.dictAt) fun ep hat => ?_
  have hz : kvs.length ≤ sizeLine := by rw [sizeLine_eq]; omega
  refine call_function_entry kind_sorted plain_sorted entry_sorted (args_sorted1 _) ?_
  unfold Builtin.«sorted»
  refine wpAny_bind (m := checkCount "sorted" 1 1 _) (wpAny_pure ?_)
  refine wpAny_bind (kdu_collect (A := A.in1) (kdl_dict (knd := PySem.strKind prog w) (kvs := kvs) (ep := ep) hs) hh hat hz fun h₁ tk acc hk hacc => ?_)
  have hla : acc.toList.length = kvs.length := by rw [Array.length_toList]; exact hacc.1
  have hS : StrsAre acc.toList (kvs.map (·.1)) := strsAre_of hla fun j v e => hacc.2 j v (by rw [← Array.getElem?_toList]; exact e)
  refine wpAny_bind (wpAny_newList ?_ (by rw [hla]; exact hz))
  have hoL : (h₁.push (seqObj "list" acc.toList.toArray 0)).get? h₁.objs.size = some (seqObj "list" acc.toList.toArray 0) := Heap.get?_push_size _ rfl
  have fr : h.get? h₁.objs.size = none := by
    cases e : h.get? h₁.objs.size with
    | none => rfl
    | some o' => exact absurd (Heap.lt_size (hk _ _ e)) (Nat.lt_irrefl _)
  refine wpAny_bind (wpAny_holding (wpAny_call_entry slot_list_sort ⟨_, hoL, rfl⟩ entry_list_sort (list_sort_treeK (κ := PyProof.Rows.strKind) strKind_oneLt hoL hS.keysOf (fun v₁ v₂ rest e => keyKind_strs (by rw [← e]; exact hS)) (by rw [hla]; exact hl)
    fun st' a1 a2 => ⟨_, rfl, ?_⟩) (args_list_sort _)))
  refine ex1 (sorted_out_str hS a1 a2) fun ss' hx11 => ?_
  refine and3 hx11 fun r1 r2 r3 => ?_
  clear hx11
  refine ex1 (sortedHeap_at (out := (arrOf st').map (·.2)) hoL) fun e he => ?_
  have fin := S.alloc (D := h₁.objs.size) (o := listOf ((arrOf st').map (·.2)).toList.toArray e) (h' := sortedHeap (h₁.push (seqObj "list" acc.toList.toArray 0)) h₁.objs.size acc.toList ((arrOf st').map (·.2)))
    (fun b o e => by
      have hb := Heap.lt_size (hk b o e)
      rw [sortedHeap_old (Nat.ne_of_lt hb) (by rw [Heap.size_push]; exact Nat.lt_succ_of_lt hb)]
      exact Heap.get?_push_of_some _ (hk b o e)) fr (by rw [he])
  exact wpAny_pure ⟨_, rfl, q _ _ _ _ _ _ fin.1 fin.2 r1 r2 r3⟩
theorem subD {a : Addr} {o : Obj} {kvs : List (Str × Value)} {k : Str} {u : Tok} {e1 e2 : Expr} (S : St B G₀ L m G h) (ha : G a = some o) (hd : o.IsDictOf (PySem.strKind prog w) kvs) (hv : valueAt kvs k = some v) (q : ∀ t', Q v (c.at h t'))
    (hs : subscripted e2 false (.ref a) (.str k u) = operate [.ref a, .str k u] (getItem (.ref a) (.str k u)) := by kernel_rfl) (ht : ∀ r, letTemporaryGo e1 (.ref a) r = pure () := by intro _; kernel_rfl) :
    wpAny (model prog w) A (subscriptTail e1 e2 (.ref a) (.str k u)) Q E (c.at h t) := by
  have hD : h.DictOf (PySem.strKind prog w) a kvs := Heap.dictOf_iff.mpr ⟨o, S.get ha, hd⟩
  exact subscriptTail_builtin (s := c.at h t) hD.typeIs slot_dict_getitem.lookup (wpAny_getItem_of (s := c.at h t) (strKind_is _ _ _ _) hD.mapOf hv (q _)) hs ht
theorem inD {a : Addr} {o : Obj} {kvs : List (Str × Value)} {k : Str} {u : Tok} (S : St B G₀ L m G h) (ha : G a = some o) (hd : o.IsDictOf (PySem.strKind prog w) kvs) (hs : (a == sysModules) = false) (q : ∀ t', Q (.bool (valueAt kvs k).isSome) (c.at h t')) :
    wpAny (model prog w) A (compareOp .In (.str k u) (.ref a)) Q E (c.at h t) := by
  have hD : h.DictOf (PySem.strKind prog w) a kvs := Heap.dictOf_iff.mpr ⟨o, S.get ha, hd⟩
  exact wpAny_in_of (s := c.at h t) (strKind_is _ _ _ _) hs hD.mapOf (q _)
theorem setD {a : Addr} {o : Obj} {kvs : List (Str × Value)} {k : Str} {u : Tok} {QU : Unit → Shared → Prop} (S : St B G₀ L m G h) (ha : G a = some o) (hd : o.IsDictOf (PySem.strKind prog w) kvs) (hn : B a = none) (hz : kvs.length ≤ sizeLine)
    (q : ∀ o' h' t', St B G₀ L m (put G a o') h' → o'.IsDictOf (PySem.strKind prog w) (stored kvs k v) → QU () (c.at h' t')) :
    wpAny (model prog w) A (setItem (.ref a) (.str k u) v) QU E (c.at h t) := by
  have hD : h.DictOf (PySem.strKind prog w) a kvs := Heap.dictOf_iff.mpr ⟨o, S.get ha, hd⟩
  refine wpAny_setItem_pairs (s := c.at h t) (strKind_is _ _ _ _) hD (fun h' hD' hs => ?_) hz
  refine ex1 (Heap.dictOf_iff.mp hD') fun o' hx13 => ?_
  refine and2 hx13 fun h1 h2 => ?_
  clear hx13
  exact q o' h' _ (S.set hn ha hs h1) h2
theorem isNotNone {f : List Addr} {d : Ob} (hv : OIn prog w G f v d) (q : Q (.bool (!d.isNul)) s) : wpAny (model prog w) A (compareOp .IsNot v .none) Q E s := by
  cases hv with
  | null => exact isnot_none_gen q
  | _ => exact isnot_none_ne (fun z => by (first | with_reducible exact no_some z | with_reducible exact some_no z | with_reducible exact no_bool z | with_reducible exact no_bool' z | cases z)) q
end
theorem strs_at {vs : List Value} {ss : List Str} (H : StrsAre vs ss) : ∀ {i : Nat} {v : Value}, vs[i]? = some v → ∃ k u, ss[i]? = some k ∧ v = .str k u := by
  induction H with
  | nil => intro _ _ h; (first | with_reducible exact no_some h | with_reducible exact some_no h | with_reducible exact no_bool h | with_reducible exact no_bool' h | cases h)
  | cons x t _ ih =>
    intro i v h
    cases i with
    | zero => cases h; exact ⟨x, t, rfl, rfl⟩
    | succ i => exact ih (i := i) h
theorem strs_len {vs : List Value} {ss : List Str} (H : StrsAre vs ss) : vs.length = ss.length := by
  induction H with
  | nil => rfl
  | cons _ _ _ r => exact congrArg (· + 1) r
theorem take_next {α : Type} {l : List α} {i : Nat} {a : α} (h : l[i]? = some a) : l.take (i + 1) = l.take i ++ [a] := by
  rw [List.take_add_one, h]; rfl
section
variable {G G₁ G' : PMap} {h h₁ h' : Heap} {L : Addr} {m : Str → Option Value}
theorem out0 (S' : St (mask (fun a => No a ∨ a = L) h₁.get?) G L m G' h') (up : ∀ b o, h.get? b = some o → h₁.get? b = some o) (hL : h.get? L = none) (hs : ∀ a o, G a = some o → h.get? a = some o) (gL : G L = none) : Grow No G h G' h' :=
  exit0 (by rw [mask_no]; exact S') up hL hs no_ne gL
theorem outC (S' : St (mask (fun a => No a ∨ a = L) h₁.get?) G₁ L m G' h') (up : ∀ b o, h.get? b = some o → h₁.get? b = some o) (hL : h.get? L = none) (hs : ∀ a o, G a = some o → h.get? a = some o) (g1 : ∀ a o, G a = some o → G₁ a = some o) (g2 : ∀ a o, G₁ a = some o → G a = some o ∨ h.get? a = none) (gL : G₁ L = none) : Grow No G h G' h' :=
  exit_ (St.outW (W := No) (by rw [mask_no]; exact S') no_ne gL) up hL hs g1 g2
end

end
section
noncomputable def TellAt (prog : Program) (w : World) (mg mb : Str → Option Value) (fn : Addr) (r : Nat) (d : Ob) (row : Rw) : Prop :=
  ∀ (A : Around) (E : Value → Shared → Prop) (c : Fx) (h : Heap) (t : Nat) (G : PMap) (f : List Addr) (v : Value) (Q : Value → Shared → Prop), Ok r A → Bs (KK w) VV LL mg mb h.get? → (∀ a o, G a = some o → h.get? a = some o) → OIn prog w G f v d →
    (∀ r' G' h' t', Grow No G h G' h' → RIn G' r' row → Q r' (c.at h' t')) → wpAny (model prog w) A (call (.ref fn) [v]) Q E (c.at h t)
section
variable {prog : Program} {w : World} {mg mb : Str → Option Value}
theorem told_dict (n : Nat) (ih : ∀ d, d.ok n = true → TellAt prog w mg mb 272 (2 * n + 3) d (d.row none n)) (ds : List (Str × Ob)) (hok : (Ob.dict ds).ok (n + 1) = true) :
    TellAt prog w mg mb 272 (2 * n + 4) (.dict ds) ((Ob.dict ds).row none (n + 1)) := by
  intro A E c h t G f v Q o Z hG hv k
  refine' enterCl (m := none_) (cm := upd none_ (Str.ofString "value") v) No [((Str.ofString "value"), v)] o.room Z.no hG ?hw ?ho ?hcd ?hb ?hl ?hc ?hm ?hcm ?_ ?c1 ?c2 ?c3
  case ho => exact rfl
  case hw => exact no_ne
  case hcd => kernel_rfl
  case hb => exact BindsTo.of_eq rfl
  case hl => kernel_rfl
  case hc => decide +kernel
  case hm => intro L; kernel_rfl
  case hcm => intro L; kernel_rfl
  case c1 => exact rfl
  case c2 => exact rfl
  case c3 => exact rfl
  intro L h₁ t₁ G₁ g1 g2 ce S Z gL sL up
  rw [mask_no] at S
  have cv := cellIn ce (Str.ofString "value") (a := L + 1) (by kernel_rfl) upd_here
  have hv := hv.mono g1
  have hv' := hv
  cases hv with
  | dict hd1 hd2 hd3 he =>
  repeat cell_call
  refine kind_spec (o.deeper.less (by first | decide | omega)) (Z.at_ S) (fun _ _ e => S.get e) hv' (fun u h t g => ?_)
  have S := S.grow0 g
  repeat cell_call
  rename_i at_ h2 S2 ga2
  refine eval_comp (cl := [((Str.ofString "value"), L + 1)]) (by kernel_rfl) ?_
  repeat cell_call
  have kk := he.keys
  have od := ok_dict hok
  refine sortedD S2 (atUp S2 hd1) hd2 hd3 o.deeper.hh (by rw [he.length]; exact Nat.lt_of_le_of_lt od.1 (by decide)) (fun D nD h3 t3 vs ss S3 gD sA sP sS => ?_)
  have ess := sorted_abc sP (kk ▸ od.2.1) (fun k hk => by rw [kk] at hk; obtain ⟨e, he, rfl⟩ := List.mem_map.mp hk; exact (od.2.2 e.1 e.2 he).1) sS
  refine comp_at (W := No) (P := fun i v => vs.toArray[i]? = some v) (n := vs.toArray.size) (fun i ys U => RAll U ys (entRows none n ds (ss.take i))) S3 Z (Src.list o.deeper.hh ⟨_, S3.get put_self, rfl, nD, rfl⟩ (fun z => z)) no_B (fun _ _ _ _ => no_ne) ?sz .nil ?turn ?done
  case sz => rw [List.size_toArray, strs_len sA, sP.length_eq, List.length_map, he.length]; exact Nat.le_trans od.1 (by decide)
  case turn =>
    intro i v ys U h t C m₂ hi hv g S Z hm inv hl
    rw [mask_no] at S
    have upU : ∀ a o, G₁ a = some o → U a = some o := fun a o e => g.up a o (S3.mono a o e)
    have cvU := cv.mono upU
    have hdU := upU _ _ hd1
    refine ex2 (strs_at sA (by simpa using hv)) fun k u hx1 => ?_
    refine and2 hx1 fun hk er1_3 => ?_
    clear hx1
    subst er1_3
    have hkm : k ∈ ds.map (·.1) := by rw [← kk]; exact sP.mem_iff.mp (List.mem_of_getElem? hk)
    refine ex1 (keyed_of_mem hkm) fun d hkd => ?_
    have hok' := (od.2.2 k d (keyed_mem hkd)).2
    refine ex2 (he.value hkd) fun f' vv hx3 => ?_
    refine and3 hx3 fun hval hin _ => ?_
    clear hx3
    have hin := hin.mono upU
    have er := row_isNull hok'
    repeat cell_call
    refine iteB (fun e => ?_) (fun e => ?_)
    · repeat cell_call
      refine ih d hok' _ _ _ _ _ _ _ _ _ (o.deeper.less (by first | decide | omega)) (Z.at_ S) (fun _ _ e => S.get e) hin (fun r G' h t g2 rr => ?_)
      have S := S.grow0 g2
      repeat cell_call
      rename_i a4 h4 S4 ga4
      refine ⟨_, _, _, _, rfl, by rw [mask_no]; exact S4, ?_⟩
      rw [take_next hk, entRows_append, entRows_one hkd, if_neg (by rw [er]; simpa using e)]
      exact (inv.mono fun a o e => put_old ga4 a o (g2.up a o e)).snoc (.tup put_self (.cons (.str _ _) (.cons (rr.mono (put_old ga4)) .nil)))
    · refine ⟨_, _, _, _, rfl, by rw [mask_no]; exact S, ?_⟩
      rw [take_next hk, entRows_append, entRows_one hkd, if_pos (by rw [er]; simpa using e), List.append_nil]
      exact inv
  case done =>
    intro D2 ys U h t S uD bD hD g g' inv hl
    rw [List.size_toArray, strs_len sA, List.take_length] at inv
    rw [List.size_toArray, strs_len sA, sP.length_eq, List.length_map, he.length] at hl
    repeat cell_call
    refine tupOfList S put_self (fun b h S gb => ?_) (Nat.le_trans hl (Nat.le_trans od.1 (by decide)))
    have at' : U at_ = some (tupOf [Value.str (Str.ofString "dict") _] 0) := g'.up _ _ (put_old gD _ _ put_self)
    refine addTup S (put_old gb _ _ (put_old uD _ _ at')) put_self (by simp) (fun a G' h n' S up' e => ?_) (by rw [List.length_singleton]; exact Nat.le_trans (Nat.add_le_add_left (Nat.le_trans hl od.1) 1) (by decide))
    refine k _ _ _ _ (outC S up sL hG g1 g2 gL) ?_
    rw [row_dict, ← entRows_filter, ← kk, ← ess]
    exact .tup e (.cons (.str _ _) (inv.mono fun a o e => up' a o (put_old gb a o (put_old uD a o e))))
end
section
variable {prog : Program} {w : World} {mg mb : Str → Option Value}
theorem told_array (n : Nat) (ih : ∀ d, d.ok n = true → TellAt prog w mg mb 272 (2 * n + 3) d (d.row none n)) (ds : List Ob) (hok : (Ob.array ds).ok (n + 1) = true) :
    TellAt prog w mg mb 272 (2 * n + 4) (.array ds) ((Ob.array ds).row none (n + 1)) := by
  intro A E c h t G f v Q o Z hG hv k
  refine' enterCl (m := none_) (cm := upd none_ (Str.ofString "value") v) No [((Str.ofString "value"), v)] o.room Z.no hG ?hw ?ho ?hcd ?hb ?hl ?hc ?hm ?hcm ?_ ?c1 ?c2 ?c3
  case ho => exact rfl
  case hw => exact no_ne
  case hcd => kernel_rfl
  case hb => exact BindsTo.of_eq rfl
  case hl => kernel_rfl
  case hc => decide +kernel
  case hm => intro L; kernel_rfl
  case hcm => intro L; kernel_rfl
  case c1 => exact rfl
  case c2 => exact rfl
  case c3 => exact rfl
  intro L h₁ t₁ G₁ g1 g2 ce S Z gL sL up
  rw [mask_no] at S
  have cv := cellIn ce (Str.ofString "value") (a := L + 1) (by kernel_rfl) upd_here
  have hv := hv.mono g1
  have hv' := hv
  cases hv using OIn.arrayE with
  | k va vs vn fs hd1 he =>
  repeat cell_call
  refine kind_spec (o.deeper.less (by first | decide | omega)) (Z.at_ S) (fun _ _ e => S.get e) hv' (fun u h t g => ?_)
  have S := S.grow0 g
  repeat cell_call
  rename_i at_ h2 S2 ga2
  refine eval_comp (cl := []) (by kernel_rfl) ?_
  repeat cell_call
  have od := ok_array hok
  have hlen := he.length
  refine comp_at (W := No) (P := fun i v => vs.toArray[i]? = some v) (n := vs.toArray.size) (fun i ys U => RAll U ys ((ds.take i).map fun d => Ob.row none n d)) S2 Z (Src.list o.deeper.hh ⟨_, S2.get (atUp S2 hd1), rfl, _, rfl⟩ (fun z => z)) no_B (fun _ _ _ _ => no_ne) ?sz .nil ?turn ?done
  case sz => rw [List.size_toArray, hlen]; exact Nat.le_trans od.1 (by decide)
  case turn =>
    intro i v ys U h t C m₂ hi hv g S Z hm inv hl
    rw [mask_no] at S
    have upU : ∀ a o, G₁ a = some o → U a = some o := fun a o e => g.up a o (S2.mono a o e)
    refine ex2 (he.get (i := i) (v := v) (by simpa using hv)) fun f' d hx4 => ?_
    refine and3 hx4 fun hd hin _ => ?_
    clear hx4
    have hok' := od.2 d (List.mem_of_getElem? hd)
    have hin := hin.mono upU
    repeat cell_call
    refine ih d hok' _ _ _ _ _ _ _ _ _ (o.deeper.less (by first | decide | omega)) (Z.at_ S) (fun _ _ e => S.get e) hin (fun r G' h t g2 rr => ?_)
    have S := S.grow0 g2
    refine ⟨_, _, _, _, rfl, by rw [mask_no]; exact S, ?_⟩
    rw [take_next hd, List.map_append]
    exact (inv.mono fun a o e => g2.up a o e).snoc rr
  case done =>
    intro D2 ys U h t S uD bD hD g g' inv hl
    rw [List.size_toArray, hlen, List.take_length] at inv
    rw [List.size_toArray, hlen] at hl
    repeat cell_call
    refine tupOfList S put_self (fun b h S gb => ?_) (Nat.le_trans hl (Nat.le_trans od.1 (by decide)))
    have at' : U at_ = some (tupOf [Value.str (Str.ofString "array") _] 0) := g'.up _ _ put_self
    refine addTup S (put_old gb _ _ (put_old uD _ _ at')) put_self (by simp) (fun a G' h n' S up' e => ?_) (by rw [List.length_singleton]; exact Nat.le_trans (Nat.add_le_add_left (Nat.le_trans hl od.1) 1) (by decide))
    refine k _ _ _ _ (outC S up sL hG g1 g2 gL) ?_
    rw [row_array]
    exact .tup e (.cons (.str _ _) (inv.mono fun a o e => up' a o (put_old gb a o (put_old uD a o e))))
theorem told_stream (n : Nat) (ih : ∀ ds, (Ob.dict ds).ok (n + 1) = true → TellAt prog w mg mb 272 (2 * n + 4) (.dict ds) ((Ob.dict ds).row none (n + 1))) (ds : List (Str × Ob)) (oc : Array UInt8) (hok : (Ob.stream ds oc).ok (n + 1) = true) :
    TellAt prog w mg mb 272 (2 * n + 5) (.stream ds oc) ((Ob.stream ds oc).row none (n + 1)) := by
  intro A E c h t G f v Q o Z hG hv k
  refine' enterCl (m := none_) (cm := upd none_ (Str.ofString "value") v) No [((Str.ofString "value"), v)] o.room Z.no hG ?hw ?ho ?hcd ?hb ?hl ?hc ?hm ?hcm ?_ ?c1 ?c2 ?c3
  case ho => exact rfl
  case hw => exact no_ne
  case hcd => kernel_rfl
  case hb => exact BindsTo.of_eq rfl
  case hl => kernel_rfl
  case hc => decide +kernel
  case hm => intro L; kernel_rfl
  case hcm => intro L; kernel_rfl
  case c1 => exact rfl
  case c2 => exact rfl
  case c3 => exact rfl
  intro L h₁ t₁ G₁ g1 g2 ce S Z gL sL up
  rw [mask_no] at S
  have cv := cellIn ce (Str.ofString "value") (a := L + 1) (by kernel_rfl) upd_here
  have hv := hv.mono g1
  have hv' := hv
  cases hv using OIn.streamE with
  | k a dx es n' hv fs tt i1 i2 q1 q2 hin =>
  have hh := hin.handed
  repeat cell_call
  refine kind_spec (o.deeper.less (by first | decide | omega)) (Z.at_ S) (fun _ _ e => S.get e) hv' (fun u h t g => ?_)
  have S := S.grow0 g
  repeat cell_call
  rename St _ _ _ _ _ _ => S0
  refine ih ds (ok_stream hok).1 _ _ _ _ _ _ _ _ _ (o.deeper.less (by first | decide | omega)) (Z.at_ S0) (fun _ _ e => S0.get e) (oinUp S0 hin) (fun r G' h t g3 rr => ?_)
  have S := S0.grow0 g3
  repeat cell_call
  rename_i ar h3 S3 ga3
  refine k _ _ _ _ (outC S3 up sL hG g1 g2 gL) ?_
  rw [row_stream]
  exact .tup put_self (.cons (.str _ _) (.cons (rr.mono (put_old ga3)) (.cons (.bytes _ _) .nil)))
theorem told_plain (n : Nat) (d : Ob) (hd : d.isPlain = true) : TellAt prog w mg mb 272 3 d (d.row none n) := by
  intro A E c h t G f v Q o Z hG hv k
  refine' enterCl (m := none_) (cm := upd none_ (Str.ofString "value") v) No [((Str.ofString "value"), v)] o.room Z.no hG ?hw ?ho ?hcd ?hb ?hl ?hc ?hm ?hcm ?_ ?c1 ?c2 ?c3
  case ho => exact rfl
  case hw => exact no_ne
  case hcd => kernel_rfl
  case hb => exact BindsTo.of_eq rfl
  case hl => kernel_rfl
  case hc => decide +kernel
  case hm => intro L; kernel_rfl
  case hcm => intro L; kernel_rfl
  case c1 => exact rfl
  case c2 => exact rfl
  case c3 => exact rfl
  intro L h₁ t₁ G₁ g1 g2 ce S Z gL sL up
  rw [mask_no] at S
  have cv := cellIn ce (Str.ofString "value") (a := L + 1) (by kernel_rfl) upd_here
  have hv := hv.mono g1
  repeat cell_call
  refine kind_spec (o.deeper.less (by first | decide | omega)) (Z.at_ S) (fun _ _ e => S.get e) hv (fun u h t g => ?_)
  have S := S.grow0 g
  have e1 : (d.word == (Str.ofString "array")) = false := by cases d <;> first | rfl | (first | with_reducible exact no_some hd | with_reducible exact some_no hd | with_reducible exact no_bool hd | with_reducible exact no_bool' hd | cases hd)
  have e2 : (d.word == (Str.ofString "dict")) = false := by cases d <;> first | rfl | (first | with_reducible exact no_some hd | with_reducible exact some_no hd | with_reducible exact no_bool hd | with_reducible exact no_bool' hd | cases hd)
  have e3 : (d.word == (Str.ofString "stream")) = false := by cases d <;> first | rfl | (first | with_reducible exact no_some hd | with_reducible exact some_no hd | with_reducible exact no_bool hd | with_reducible exact no_bool' hd | cases hd)
  repeat cell_call
  refine iteF e1 ?_
  repeat cell_call
  refine iteF e2 ?_
  repeat cell_call
  refine iteF e3 ?_
  repeat cell_call
  refine plain_spec n (o.deeper.less (by first | decide | omega)) (Z.at_ (by assumption)) (fun _ _ e => St.get (by assumption) e) hv hd (fun r G' h' t' g3 rr => ?_)
  refine k _ _ _ _ (outC (St.grow0 (by assumption) g3) up sL hG g1 g2 gL) rr
theorem told_spec : ∀ (n : Nat) (d : Ob), d.ok n = true → TellAt prog w mg mb 272 (2 * n + 3) d (d.row none n) := by
  intro n
  have less : ∀ {r r' : Nat} {d : Ob} {row : Rw}, r ≤ r' → TellAt prog w mg mb 272 r d row → TellAt prog w mg mb 272 r' d row := fun hr H A E c h t G f v Q o => H A E c h t G f v Q (o.less hr)
  induction n with
  | zero =>
    intro d hd
    cases d with
    | array _ => (first | with_reducible exact no_some hd | with_reducible exact some_no hd | with_reducible exact no_bool hd | with_reducible exact no_bool' hd | cases hd)
    | dict _ => (first | with_reducible exact no_some hd | with_reducible exact some_no hd | with_reducible exact no_bool hd | with_reducible exact no_bool' hd | cases hd)
    | stream _ _ => (first | with_reducible exact no_some hd | with_reducible exact some_no hd | with_reducible exact no_bool hd | with_reducible exact no_bool' hd | cases hd)
    | _ => exact told_plain 0 _ rfl
  | succ n ih =>
    intro d hd
    cases d with
    | array ds => exact less (by first | decide | omega) (told_array n ih ds hd)
    | dict ds => exact less (by first | decide | omega) (told_dict n ih ds hd)
    | stream ds oc => exact told_stream n (fun ds h => told_dict n ih ds h) ds oc hd
    | _ => exact less (by first | decide | omega) (told_plain (n + 1) _ rfl)
end

end
section
noncomputable def PairAt (G : PMap) (b : Addr) (p : Int × Int) : Prop := ∃ n t u, G b = some (tupOf [.int p.1 t, .int p.2 u] n)
theorem PairAt.mono {G G' : PMap} {b : Addr} {p : Int × Int} (h : PairAt G b p) (hG : ∀ a o, G a = some o → G' a = some o) : PairAt G' b p := ex3 h fun n t u e => ⟨n, t, u, hG _ _ e⟩
theorem PairAt.row {G : PMap} {b : Addr} {p : Int × Int} (h : PairAt G b p) : RIn G (.ref b) (.tup [.int p.1, .int p.2]) := ex3 h fun _ _ _ e => .tup e (.cons (.int _ _) (.cons (.int _ _) .nil))
abbrev lp (p : Int × Int) : List Int := [p.1, p.2]
theorem lp_inj {p q : Int × Int} (h : lp p = lp q) : p = q := by
  simp only [lp, List.cons.injEq, and_true] at h
  exact Prod.ext h.1 h.2
noncomputable def conv (x : (Int × Int) × Addr × Value) : List Int × Addr × Value := (lp x.1, x.2)
abbrev pk (prog : Program) (w : World) : HeapKind prog w (List Int) := tupleKind (intKind prog w)
structure PIn (prog : Program) (w : World) (G : PMap) (a : Addr) (xs : List ((Int × Int) × Addr × Value)) : Prop where
  ex : ∃ o es ep, G a = some o ∧ o.ExactDict ∧ o.data = .dict es ep ∧ es.toList = (xs.map conv).map (entryOfKey (pk prog w))
  keys : ∀ x ∈ xs, PairAt G x.2.1 x.1
  nodup : (xs.map (·.1)).Nodup
  sys : (a == sysModules) = false
theorem PIn.mono {prog : Program} {w : World} {G G' : PMap} {a : Addr} {xs : List ((Int × Int) × Addr × Value)} (h : PIn prog w G a xs) (hG : ∀ a o, G a = some o → G' a = some o) : PIn prog w G' a xs :=
  ⟨ex3 h.ex fun o es ep y => ⟨o, es, ep, hG _ _ y.1, y.2⟩, fun x hx => (h.keys x hx).mono hG, h.nodup, h.sys⟩
noncomputable def atP (xs : List ((Int × Int) × Addr × Value)) (p : Int × Int) : Option (Addr × Value) := (xs.find? fun x => decide (x.1 = p)).map (·.2)
theorem atKey_conv (xs : List ((Int × Int) × Addr × Value)) (p : Int × Int) : atKey (xs.map conv) (lp p) = atP xs p := by
  induction xs with
  | nil => rfl
  | cons x xs ih =>
    unfold atKey atP at ih ⊢
    rw [List.map_cons, List.find?_cons, List.find?_cons]
    by_cases e : x.1 = p
    · rw [decide_eq_true e, decide_eq_true (show (conv x).1 = lp p by rw [← e]; rfl)]; rfl
    · rw [decide_eq_false e, decide_eq_false (show ¬ (conv x).1 = lp p from fun z => e (lp_inj z))]
      exact ih
theorem nodup_conv : ∀ {xs : List ((Int × Int) × Addr × Value)}, (xs.map (·.1)).Nodup → ((xs.map conv).map (·.1)).Nodup
  | [], _ => List.nodup_nil
  | x :: xs, h => by
    rw [List.map_cons, List.nodup_cons] at h
    rw [List.map_cons, List.map_cons, List.nodup_cons]
    refine ⟨fun z => h.1 ?_, nodup_conv h.2⟩
    refine ex1 (List.mem_map.mp z) fun y hx1 => ?_
    refine and2 hx1 fun hy e => ?_
    clear hx1
    refine ex1 (List.mem_map.mp hy) fun x' hx2 => ?_
    refine and2 hx2 fun hx' er2_2 => ?_
    clear hx2
    subst er2_2
    exact List.mem_map.mpr ⟨x', hx', lp_inj e⟩
theorem atP_none {xs : List ((Int × Int) × Addr × Value)} {p : Int × Int} (h : p ∉ xs.map (·.1)) : atP xs p = none := by
  unfold atP
  rw [Option.map_eq_none_iff, List.find?_eq_none]
  intro x hx
  simp only [decide_eq_true_eq]
  exact fun e => h (List.mem_map.mpr ⟨x, hx, e⟩)
theorem atP_some {xs : List ((Int × Int) × Addr × Value)} {p : Int × Int} (h : p ∈ xs.map (·.1)) : (atP xs p).isSome = true := by
  unfold atP
  rw [Option.isSome_map, List.find?_isSome]
  refine ex1 (List.mem_map.mp h) fun x hx3 => ?_
  refine and2 hx3 fun hx e => ?_
  clear hx3
  exact ⟨x, hx, decide_eq_true e⟩
section
variable {prog : Program} {w : World} {A : Around} {E : Value → Shared → Prop} {c : Fx} {h : Heap} {t : Nat} {m : Str → Option Value} {B G₀ G : PMap} {L a b : Addr} {xs : List ((Int × Int) × Addr × Value)} {p : Int × Int} {Q : Value → Shared → Prop}
theorem PairAt.key (S : St B G₀ L m G h) (q : PairAt G b p) : (pk prog w).is h (lp p) b := by
  refine ex3 (q) fun n t u e => ?_
  try clear q
  exact ⟨_, _, _, S.get e, rfl, rfl, .cons (intKind_is _ _ _ _) (.cons (intKind_is _ _ _ _) .nil)⟩
theorem PIn.dict (S : St B G₀ L m G h) (q : PIn prog w G a xs) : h.DictOfH (pk prog w) a (xs.map conv) := by
  refine ex3 (q.ex) fun o es ep hx5 => ?_
  refine and4 hx5 fun e1 e2 e3 e4 => ?_
  clear hx5
  refine ⟨o, es, ep, S.get e1, e2, e3, e4, fun x hx => ?_, nodup_conv q.nodup⟩
  refine ex1 (List.mem_map.mp hx) fun y hx6 => ?_
  refine and2 hx6 fun hy er6_2 => ?_
  clear hx6
  subst er6_2
  exact (q.keys y hy).key S
theorem inP (S : St B G₀ L m G h) (hP : PIn prog w G a xs) (hb : PairAt G b p) (hu : A.units + 1 < cLine) (q : ∀ t', Q (.bool (atP xs p).isSome) (c.at h t')) : wpAny (model prog w) A (compareOp .In (.ref b) (.ref a)) Q E (c.at h t) :=
  wpAny_in_heap (s := c.at h t) (tupleKind_room_in1 hu) (hb.key S) hP.sys (hP.dict S) (by rw [atKey_conv]; exact q _)
theorem notInP (S : St B G₀ L m G h) (hP : PIn prog w G a xs) (hb : PairAt G b p) (hu : A.units + 1 < cLine) (q : ∀ t', Q (.bool (!(atP xs p).isSome)) (c.at h t')) : wpAny (model prog w) A (compareOp .NotIn (.ref b) (.ref a)) Q E (c.at h t) :=
  wpAny_notIn_heap (s := c.at h t) (tupleKind_room_in1 hu) (hb.key S) hP.sys (hP.dict S) (by rw [atKey_conv]; exact q _)
theorem subP {x : Addr × Value} {e1 e2 : Expr} (S : St B G₀ L m G h) (hP : PIn prog w G a xs) (hb : PairAt G b p) (hu : A.units + 1 < cLine) (hx : atP xs p = some x) (q : ∀ t', Q x.2 (c.at h t'))
    (hs : subscripted e2 false (.ref a) (.ref b) = operate [.ref a, .ref b] (getItem (.ref a) (.ref b)) := by kernel_rfl) (ht : ∀ r, letTemporaryGo e1 (.ref a) r = pure () := by intro _; kernel_rfl) :
    wpAny (model prog w) A (subscriptTail e1 e2 (.ref a) (.ref b)) Q E (c.at h t) :=
  subscriptTail_builtin (s := c.at h t) (hP.dict S).typeIs slot_dict_getitem.lookup (wpAny_getItem_heap (s := c.at h t) (tupleKind_room_in1 hu) (hb.key S) (hP.dict S) (by rw [atKey_conv]; exact hx) (q _)) hs ht
theorem setP {v : Value} {QU : Unit → Shared → Prop} (S : St B G₀ L m G h) (hP : PIn prog w G a xs) (hb : PairAt G b p) (hu : A.units + 1 < cLine) (hn : p ∉ xs.map (·.1)) (hB : B a = none) (hz : xs.length ≤ sizeLine)
    (q : ∀ o' h' t', St B G₀ L m (put G a o') h' → PIn prog w (put G a o') a (xs ++ [(p, b, v)]) → QU () (c.at h' t')) :
    wpAny (model prog w) A (setItem (.ref a) (.ref b) v) QU E (c.at h t) := by
  refine ex3 (hP.ex) fun o es ep hx7 => ?_
  refine and4 hx7 fun e1 _ _ _ => ?_
  clear hx7
  refine wpAny_setItem_heap (s := c.at h t) (v := v) (tupleKind_room_in1 hu) (hb.key S) (hP.dict S) (fun h' hD' hs => ?_) (by rw [List.length_map]; exact hz)
  rw [storedH_new (by rw [atKey_conv]; exact atP_none hn)] at hD'
  refine ex3 (hD') fun o' es' ep' hx8 => ?_
  refine and6 hx8 fun r1 r2 r3 r4 _ _ => ?_
  clear hx8
  try clear hD'
  have ne : ∀ {d : Addr} {p : Int × Int}, PairAt G d p → d ≠ a := fun {d p} z e => by
    refine ex3 (z) fun n t u z => ?_
    rw [e, e1] at z
    (first | with_reducible exact no_some z | with_reducible exact some_no z | with_reducible exact no_bool z | with_reducible exact no_bool' z | cases z)
    rename_i q1 q2 q3
    (first | with_reducible exact no_some q3 | with_reducible exact some_no q3 | with_reducible exact no_bool q3 | with_reducible exact no_bool' q3 | cases q3)
  refine q o' h' _ (S.set hB e1 hs r1) ⟨⟨o', es', ep', put_self, r2, r3, by rw [r4, List.map_append, List.map_append, List.map_append]; rfl⟩, fun x hx => ?_, ?_, hP.sys⟩
  · have old : ∀ {d : Addr} {p : Int × Int}, PairAt G d p → PairAt (put G a o') d p := fun {d p} z => by
      have n := ne z
      refine ex3 (z) fun k t u z => ?_
      exact ⟨k, t, u, by rw [put_ne n]; exact z⟩
    rcases List.mem_append.mp hx with hx | hx
    · exact old (hP.keys x hx)
    · rw [List.mem_singleton.mp hx]; exact old hb
  · rw [List.map_append, List.nodup_append]
    refine ⟨hP.nodup, by simp, fun x hx y hy => ?_⟩
    simp only [List.map_cons, List.map_nil, List.mem_singleton] at hy
    subst hy
    rintro rfl
    exact hn hx
end

inductive TVals (G : PMap) : List ((Int × Int) × Addr × Value) → Tab → Prop
  | nil : TVals G [] []
  | cons {p q : Int × Int} {ka b : Addr} {xs : List ((Int × Int) × Addr × Value)} {T : Tab} : PairAt G b q → TVals G xs T → TVals G ((p, ka, .ref b) :: xs) ((p, q) :: T)
theorem TVals.mono {G G' : PMap} (hG : ∀ a o, G a = some o → G' a = some o) {xs : List ((Int × Int) × Addr × Value)} {T : Tab} (H : TVals G xs T) : TVals G' xs T := by
  induction H with
  | nil => exact .nil
  | cons h _ r => exact .cons (h.mono hG) r
theorem tab_cons {T : Tab} {p' q p : Int × Int} : Tab.at ((p', q) :: T) p = if p' = p then some q else T.at p := by
  by_cases e : p' = p
  · simp [Tab.at, e]
  · simp [Tab.at, e]
theorem atP_cons {xs : List ((Int × Int) × Addr × Value)} {p' p : Int × Int} {z : Addr × Value} : atP ((p', z) :: xs) p = if p' = p then some z else atP xs p := by
  by_cases e : p' = p
  · simp [atP, e]
  · simp [atP, e]
theorem TVals.some {G : PMap} {xs : List ((Int × Int) × Addr × Value)} {T : Tab} (H : TVals G xs T) : ∀ {p q : Int × Int}, T.at p = some q → ∃ ka b, atP xs p = some (ka, .ref b) ∧ PairAt G b q := by
  induction H with
  | nil => intro _ _ h; (first | with_reducible exact no_some h | with_reducible exact some_no h | with_reducible exact no_bool h | with_reducible exact no_bool' h | cases h)
  | @cons p' _ _ _ _ _ hb _ r =>
    intro p q h
    rw [tab_cons] at h
    rw [atP_cons]
    by_cases e : p' = p
    · rw [if_pos e] at h ⊢; cases h; exact ⟨_, _, rfl, hb⟩
    · rw [if_neg e] at h ⊢; exact r h
theorem TVals.none {G : PMap} {xs : List ((Int × Int) × Addr × Value)} {T : Tab} (H : TVals G xs T) : ∀ {p : Int × Int}, T.at p = none → atP xs p = none := by
  induction H with
  | nil => intro _ _; rfl
  | @cons p' _ _ _ _ _ _ _ r =>
    intro p h
    rw [tab_cons] at h
    rw [atP_cons]
    by_cases e : p' = p
    · rw [if_pos e] at h; (first | with_reducible exact no_some h | with_reducible exact some_no h | with_reducible exact no_bool h | with_reducible exact no_bool' h | cases h)
    · rw [if_neg e] at h ⊢; exact r h
theorem TVals.snoc {G : PMap} {xs : List ((Int × Int) × Addr × Value)} {T : Tab} (H : TVals G xs T) {p q : Int × Int} {ka b : Addr} (h : PairAt G b q) : TVals G (xs ++ [(p, ka, .ref b)]) (T ++ [(p, q)]) := by
  induction H with
  | nil => exact .cons h .nil
  | cons hb _ r => exact .cons hb r
theorem TVals.keys {G : PMap} {xs : List ((Int × Int) × Addr × Value)} {T : Tab} (H : TVals G xs T) : xs.map (·.1) = T.map (·.1) := by
  induction H with
  | nil => rfl
  | cons _ _ r => rw [List.map_cons, List.map_cons, r]
inductive TIn (prog : Program) (w : World) (G : PMap) : Value → Option Tab → Prop
  | no : TIn prog w G .none none
  | so {a : Addr} {xs : List ((Int × Int) × Addr × Value)} {T : Tab} : PIn prog w G a xs → TVals G xs T → TIn prog w G (.ref a) (some T)
theorem TIn.mono {prog : Program} {w : World} {G G' : PMap} {v : Value} {T : Option Tab} (h : TIn prog w G v T) (hG : ∀ a o, G a = some o → G' a = some o) : TIn prog w G' v T := by
  cases h with
  | no => exact .no
  | so h r => exact .so (h.mono hG) (r.mono hG)

end
section
open PySem.SeqAt in
section
open MeetsSeq MeetsSeq2 MeetsSeq3 SeqRoads2 AutoSeq1
theorem tup_eq_lazy (l b : Addr) (items items2 : Array Value) (n n2 : Nat) (dd dd2 : Option Addr) (sl sl2 : Array (Option Value)) (e : Nat → Bool) :
    Meets (Builtin.«tuple.__eq__» ⟨[.ref l, .ref b], []⟩)
      (fun A R s => s.heap.get? l = some { cls := .type "tuple", dict := dd, data := .seq items n, slots := sl } ∧ s.heap.get? b = some { cls := .type "tuple", dict := dd2, data := .seq items2 n2, slots := sl2 } ∧
        (∀ j (h1 : j < items.size) (h2 : j < items2.size), (∀ i, i < j → e i = true) → SeqAt.EqAt A.in1 s items[j] items2[j] (e j)) ∧
        R (.ok (.ret (.bool ((List.range (min items.size items2.size)).all e && items.size == items2.size)))) s) :=
  .of_wp fun prog w A R s h => by
    obtain ⟨hp, g, d, tk, os⟩ := s; obtain ⟨hl, hb, he, h⟩ := h
    have f2 := AutoSeq1.sub_tuple_tuple
    have hZ : (items.toList.zip items2.toList).length = min items.size items2.size := by simp
    wp_walk using wpAny_loadPart' hl, wpAny_loadPart' hb, wpAny_forIn_list _ (fun rest r s' => r.1 = none ∧ s' = ⟨hp, g, d, tk, os⟩ ∧ ∃ i, rest = (items.toList.zip items2.toList).drop i ∧ (∀ k, k < i → e k = true) ∧
      R (.ok (.ret (.bool (((List.range (min items.size items2.size)).drop i).all e && items.size == items2.size)))) ⟨hp, g, d, tk, os⟩) _
    case turn =>
      intro hi0_0 rest r s' hi0_4
      obtain ⟨y, x⟩ := hi0_0
      obtain ⟨hr, er3_1, i, hz, hp, hR⟩ := hi0_4
      subst er3_1
      have hlt : i < (items.toList.zip items2.toList).length := by
        refine Nat.lt_of_not_le fun q => ?_
        rw [List.drop_of_length_le q] at hz; (first | with_reducible exact no_some hz | with_reducible exact some_no hz | with_reducible exact no_bool hz | with_reducible exact no_bool' hz | cases hz)
      have hm : i < min items.size items2.size := hZ ▸ hlt
      have h1 : i < items.size := Nat.lt_of_lt_of_le hm (Nat.min_le_left _ _)
      have h2 : i < items2.size := Nat.lt_of_lt_of_le hm (Nat.min_le_right _ _)
      rw [List.drop_eq_getElem_cons hlt] at hz
      injection hz with hyx hrest
      have hy : y = items[i] := by simpa using congrArg Prod.fst hyx
      have hx : x = items2[i] := by simpa using congrArg Prod.snd hyx
      subst hy hx
      have hd : (List.range (min items.size items2.size)).drop i = i :: (List.range (min items.size items2.size)).drop (i + 1) := by simp [List.drop_eq_getElem_cons, hm]
      rw [hd, List.all_cons] at hR
      refine wpAny_bind (he i h1 h2 hp prog w _ _ ?_)
      cases hq : e i with
      | true =>
        rw [hq] at hR
        wp_walk
        refine ⟨rfl, rfl, i + 1, hrest, fun k hk => ?_, by simpa using hR⟩
        rcases Nat.lt_succ_iff_lt_or_eq.mp hk with z | z
        · exact hp k z
        · rw [z]; exact hq
      | false =>
        rw [hq] at hR
        wp_walk
        exact ⟨_, rfl, by simpa using hR⟩
    case fin =>
      intro hi3_0 s' hi3_2
      obtain ⟨b1, b2⟩ := hi3_0
      obtain ⟨hr, er6_1, i, hz, hp, hR⟩ := hi3_2
      subst er6_1
      simp only at hr
      subst hr
      have hge : min items.size items2.size ≤ i := by
        refine Nat.le_of_not_lt fun q => ?_
        rw [List.drop_eq_getElem_cons (hZ.symm ▸ q)] at hz; (first | with_reducible exact no_some hz | with_reducible exact some_no hz | with_reducible exact no_bool hz | with_reducible exact no_bool' hz | cases hz)
      rw [List.drop_of_length_le (by simpa using hge)] at hR
      wp_walk
      exact ⟨_, rfl, by simpa [Builtin.Tuple.tupleCompareSizes] using hR⟩
    case h =>
      exact ⟨rfl, rfl, 0, rfl, fun k hk => absurd hk (Nat.not_lt_zero _), by simpa using h⟩
theorem rc_lazy {A : Around} {s : Shared} {l b : Addr} {items items2 : Array Value} {e : Nat → Bool} (hl : s.heap.IsTuple l items) (hb : s.heap.IsTuple b items2) (hu : A.units < cLine)
    (he : ∀ j (h1 : j < items.size) (h2 : j < items2.size), (∀ i, i < j → e i = true) → SeqAt.EqAt A.in1 s items[j] items2[j] (e j)) : SeqAt.RcAt A s (.ref l) (.ref b) ((List.range (min items.size items2.size)).all e && items.size == items2.size) := fun prog w E Q h => by
  obtain ⟨hp7_0, ho, hc, n, hd⟩ := id hl
  obtain ⟨cls, dd, data, sl⟩ := hp7_0
  obtain ⟨hp9_0, ho2, hc2, n2, hd2⟩ := id hb
  obtain ⟨cls2, dd2, data2, sl2⟩ := hp9_0
  simp only at hc hd hc2 hd2
  subst hc hd hc2 hd2
  exact richCompare_meets_room (op := .Eq) ⟨_, ho, rfl⟩ ⟨_, ho2, rfl⟩ PySem.F.slot_tuple_eq PySem.F.entry_tuple_eq (PySem.F.args_tuple_eq_2 _ _) (tup_eq_lazy l b items items2 n n2 dd dd2 sl sl2 e)
    ⟨ho, ho2, he, show Value.bool ((List.range (min items.size items2.size)).all e && items.size == items2.size) ≠ Value.notImplemented ∧ Q (.bool ((List.range (min items.size items2.size)).all e && items.size == items2.size)) s from ⟨(fun x => nomatch x), h⟩⟩ hu
end
section
variable {G : PMap}
theorem RIn.fun {v : Value} {r r' : Rw} (H : RIn G v r) : RIn G v r' → r = r' := by
  refine RIn.rec (motive_1 := fun v r _ => ∀ r', RIn G v r' → r = r') (motive_2 := fun vs rs _ => ∀ rs', RAll G vs rs' → rs = rs') (fun _ _ _ h => ?_) (fun _ _ _ h => ?_) (fun _ _ _ h => ?_) (fun h1 _ ih _ h => ?_) (fun _ h => ?_) (fun _ _ a b _ h => ?_) H r'
  · cases h; rfl
  · cases h; rfl
  · cases h; rfl
  · cases h with
    | tup h2 r2 =>
      have q := congrArg (fun x => x.map Obj.data) (h1.symm.trans h2)
      have q : Data.seq _ _ = Data.seq _ _ := Option.some.inj q
      injection q with q
      have q := congrArg Array.toList q
      have q : _ = _ := q
      rw [List.toList_toArray, List.toList_toArray] at q
      subst q
      rw [ih _ r2]
  · cases h; rfl
  · cases h with
    | cons h' r' => rw [a _ h', b _ r']
theorem RAll.fun {vs : List Value} {rs rs' : List Rw} (H : RAll G vs rs) : RAll G vs rs' → rs = rs' := by
  refine H.ind (P := fun vs rs => ∀ rs', RAll G vs rs' → rs = rs') (fun _ h => ?_) (fun a _ b _ h => ?_) rs'
  · cases h; rfl
  · cases h with
    | cons h' r' => rw [a.fun h', b _ r']
end
open Classical in
noncomputable def REq (A : Around) (s : Shared) (G : PMap) (r r' : Rw) : Prop := ∀ v v', RIn G v r → RIn G v' r' → SeqAt.EqAt A s v v' (decide (r = r'))
noncomputable def REqs (A : Around) (s : Shared) (G : PMap) : List Rw → List Rw → Prop
  | x :: xs, y :: ys => REq A s G x y ∧ (x = y → REqs A s G xs ys)
  | _, _ => True
section
open Classical
variable {A : Around} {s : Shared} {G : PMap}
theorem reqs_at : ∀ {xs ys : List Rw}, REqs A s G xs ys → ∀ (j : Nat) (r r' : Rw), xs[j]? = some r → ys[j]? = some r' → (∀ i, i < j → xs[i]? = ys[i]?) → REq A s G r r'
  | [], _, _, j, r, r', h, _, _ => by simp at h
  | _ :: _, [], _, j, r, r', _, h, _ => by simp at h
  | x :: xs, y :: ys, H, 0, r, r', h1, h2, _ => by
    simp only [List.getElem?_cons_zero, Option.some.injEq] at h1 h2
    subst h1 h2
    exact H.1
  | x :: xs, y :: ys, H, j + 1, r, r', h1, h2, hp => by
    have e : x = y := by simpa using hp 0 (Nat.succ_pos _)
    exact reqs_at (H.2 e) j r r' (by simpa using h1) (by simpa using h2) fun i hi => by simpa using hp (i + 1) (Nat.succ_lt_succ hi)
theorem req_tup (hs : ∀ a o, G a = some o → s.heap.get? a = some o) (hu : A.units < cLine) {xs ys : List Rw} (H : REqs A.in1 s G xs ys) : REq A s G (.tup xs) (.tup ys) := by
  intro v v' h h'
  cases h with
  | @tup a vs n _ h1 r1 =>
  cases h' with
  | @tup b us k _ h2 r2 =>
  by_cases hab : a = b
  · subst hab
    rw [RIn.fun (.tup h1 r1) (.tup h2 r2), decide_eq_true rfl]
    exact SeqAt.EqAt.same _
  · have len1 := r1.length
    have len2 := r2.length
    have e : ((List.range (min vs.toArray.size us.toArray.size)).all (fun j => decide (xs[j]? = ys[j]?)) && vs.toArray.size == us.toArray.size) = decide (Rw.tup xs = Rw.tup ys) := by
      rw [List.size_toArray, List.size_toArray, len1, len2]
      by_cases q : xs = ys
      · subst q
        simp
      · rw [decide_eq_false (fun z => q (Rw.tup.inj z)), Bool.and_eq_false_iff]
        by_cases hl : xs.length = ys.length
        · left
          rw [Bool.eq_false_iff]
          intro z
          refine q (List.ext_getElem? fun j => ?_)
          rw [List.all_eq_true] at z
          by_cases hj : j < xs.length
          · exact of_decide_eq_true (z j (List.mem_range.mpr (by first | decide | omega)))
          · rw [List.getElem?_eq_none (by first | decide | omega), List.getElem?_eq_none (by first | decide | omega)]
        · right
          simpa using hl
    rw [← e]
    refine SeqAt.EqAt.of_refs hab (rc_lazy (s := s) ⟨_, hs _ _ h1, rfl, n, rfl⟩ ⟨_, hs _ _ h2, rfl, k, rfl⟩ hu fun j j1 j2 hp => ?_)
    simp only [List.size_toArray] at j1 j2
    refine ex1 (r1.get' (i := j) (v := vs[j]) (by simp [j1])) fun r hx11 => ?_
    refine and2 hx11 fun hr hv => ?_
    clear hx11
    refine ex1 (r2.get' (i := j) (v := us[j]) (by simp [j2])) fun r' hx12 => ?_
    refine and2 hx12 fun hr' hv' => ?_
    clear hx12
    have := reqs_at H j r r' hr hr' (fun i hi => of_decide_eq_true (hp i hi)) _ _ hv hv'
    have e2 : decide (xs[j]? = ys[j]?) = decide (r = r') := by rw [hr, hr']; simp
    simp only [List.getElem_toArray]
    rw [e2]
    exact this
theorem req_int {i j : Int} : REq A s G (.int i) (.int j) := by
  intro v v' h h'
  cases h; (first | with_reducible exact no_some h' | with_reducible exact some_no h' | with_reducible exact no_bool h' | with_reducible exact no_bool' h' | cases h')
  have e : decide (Rw.int i = Rw.int j) = (i == j) := by
    by_cases q : i = j
    · subst q; simp
    · rw [decide_eq_false (fun z => q (Rw.int.inj z)), beq_false_of_ne q]
  rw [e]
  exact SeqAt.EqAt.int_int _ _ _ _
theorem req_str {x y : Str} : REq A s G (.str x) (.str y) := by
  intro v v' h h'
  cases h; (first | with_reducible exact no_some h' | with_reducible exact some_no h' | with_reducible exact no_bool h' | with_reducible exact no_bool' h' | cases h')
  have e : decide (Rw.str x = Rw.str y) = (x == y) := by
    by_cases q : x = y
    · subst q; simp
    · rw [decide_eq_false (fun z => q (Rw.str.inj z)), beq_false_of_ne q]
  rw [e]
  exact SeqAt.EqAt.str_str _ _ _ _
theorem req_bytes {x y : Array UInt8} : REq A s G (.bytes x) (.bytes y) := by
  intro v v' h h'
  cases h; (first | with_reducible exact no_some h' | with_reducible exact some_no h' | with_reducible exact no_bool h' | with_reducible exact no_bool' h' | cases h')
  have e : decide (Rw.bytes x = Rw.bytes y) = decide (x.toList = y.toList) := by
    by_cases q : x = y
    · subst q; simp
    · rw [decide_eq_false (fun z => q (Rw.bytes.inj z)), decide_eq_false (fun z => q (Array.toList_inj.mp z))]
  rw [e]
  exact fun prog w E Q h => eqBool_bytes h
theorem req_tag (hs : ∀ a o, G a = some o → s.heap.get? a = some o) (hu : A.units < cLine) {x y : Str} {xs ys : List Rw} (hn : x ≠ y) : REq A s G (.tup (.str x :: xs)) (.tup (.str y :: ys)) :=
  req_tup hs hu ⟨req_str, fun e => absurd (Rw.str.inj e) hn⟩
end
section
open Classical
variable {s : Shared} {G : PMap}
theorem reqs_map {α : Type} {A : Around} {f g : α → Rw} : ∀ {ds es : List α}, (∀ d ∈ ds, ∀ e ∈ es, REq A s G (f d) (g e)) → REqs A s G (ds.map f) (es.map g)
  | [], _, _ => trivial
  | _ :: _, [], _ => trivial
  | d :: ds, e :: es, H => ⟨H d List.mem_cons_self e List.mem_cons_self, fun _ => reqs_map fun x hx y hy => H x (List.mem_cons_of_mem _ hx) y (List.mem_cons_of_mem _ hy)⟩
theorem reqs_all {A : Around} : ∀ {xs ys : List Rw}, (∀ x ∈ xs, ∀ y ∈ ys, REq A s G x y) → REqs A s G xs ys
  | [], _, _ => trivial
  | _ :: _, [], _ => trivial
  | d :: ds, e :: es, H => ⟨H d List.mem_cons_self e List.mem_cons_self, fun _ => reqs_all fun x hx y hy => H x (List.mem_cons_of_mem _ hx) y (List.mem_cons_of_mem _ hy)⟩
theorem mem_entRows {T : Option Tab} {n : Nat} {ds : List (Str × Ob)} {ks : List Str} {x : Rw} (h : x ∈ entRows T n ds ks) : ∃ k d, (k, d) ∈ ds ∧ x = .tup [.str k, d.row T n] := by
  unfold entRows at h
  refine ex1 (List.mem_filterMap.mp h) fun k hx13 => ?_
  refine and2 hx13 fun _ h => ?_
  clear hx13
  refine ex1 (Option.bind_eq_some_iff.mp h) fun d hx14 => ?_
  refine and2 hx14 fun hd h => ?_
  clear hx14
  split at h
  · (first | with_reducible exact no_some h | with_reducible exact some_no h | with_reducible exact no_bool h | with_reducible exact no_bool' h | cases h)
  · (first | with_reducible exact no_some h | with_reducible exact some_no h | with_reducible exact no_bool h | with_reducible exact no_bool' h | cases h)
    exact ⟨k, d, keyed_mem hd, rfl⟩
theorem in1_lt {A : Around} {k : Nat} (h : A.units + (k + 1) < cLine) : A.in1.units + k < cLine := by show A.units + 1 + k < cLine; omega
noncomputable def tagOf : Ob → Str := Ob.word
theorem row_tag (n : Nat) (d : Ob) (h : d.ok n = true) : ∃ xs, d.row none n = .tup (.str d.word :: xs) := by
  cases d with
  | null => exact ⟨_, row_null⟩
  | truth _ => exact ⟨_, row_truth⟩
  | int _ => exact ⟨_, row_int⟩
  | real _ _ => exact ⟨_, row_real⟩
  | name _ => exact ⟨_, row_name⟩
  | string _ _ => exact ⟨_, row_string⟩
  | ref _ _ => exact ⟨_, row_ref⟩
  | array _ => cases n with | zero => cases h | succ n => exact ⟨_, row_array⟩
  | dict _ => cases n with | zero => cases h | succ n => exact ⟨_, row_dict⟩
  | stream _ _ => cases n with | zero => cases h | succ n => exact ⟨_, row_stream⟩
noncomputable def Ob.tg : Ob → Nat
  | .null => 0 | .truth _ => 1 | .int _ => 2 | .real _ _ => 3 | .name _ => 4 | .string _ _ => 5 | .ref _ _ => 6 | .array _ => 7 | .dict _ => 8 | .stream _ _ => 9
noncomputable def words10 : List Str := [(Str.ofString "null"), (Str.ofString "truth"), (Str.ofString "int"), (Str.ofString "real"), (Str.ofString "name"), (Str.ofString "string"), (Str.ofString "ref"), (Str.ofString "array"), (Str.ofString "dict"), (Str.ofString "stream")]
theorem word_tg (d : Ob) : words10.findIdx (· == d.word) = d.tg := by cases d <;> kernel_rfl
theorem Ob.same {P : Ob → Ob → Prop} (h0 : P .null .null) (h1 : ∀ a b, P (.truth a) (.truth b)) (h2 : ∀ a b, P (.int a) (.int b)) (h3 : ∀ a b c d, P (.real a b) (.real c d)) (h4 : ∀ a b, P (.name a) (.name b)) (h5 : ∀ a b c d, P (.string a b) (.string c d))
    (h6 : ∀ a b c d, P (.ref a b) (.ref c d)) (h7 : ∀ a b, P (.array a) (.array b)) (h8 : ∀ a b, P (.dict a) (.dict b)) (h9 : ∀ a b c d, P (.stream a b) (.stream c d)) (d e : Ob) (h : d.word = e.word) : P d e := by
  have z : Nat.beq d.tg e.tg = true := by rw [← word_tg, ← word_tg, h]; exact Nat.beq_refl _
  cases d <;> cases e <;> first | exact absurd z Bool.false_ne_true | exact h0 | exact h1 _ _ | exact h2 _ _ | exact h3 _ _ _ _ | exact h4 _ _ | exact h5 _ _ _ _ | exact h6 _ _ _ _ | exact h7 _ _ | exact h8 _ _ | exact h9 _ _ _ _
abbrev ReqS (A : Around) (s : Shared) (G : PMap) (r r' : Rw) : Prop := ∃ xs ys, r = .tup xs ∧ r' = .tup ys ∧ REqs A.in1 s G xs ys
theorem ReqS.req {r r' : Rw} (h : ReqS A s G r r') (hs : ∀ a o, G a = some o → s.heap.get? a = some o) (hu : A.units < cLine) : REq A s G r r' := by
  obtain ⟨xs, ys, e1, e2, H⟩ := h
  rw [e1, e2]
  exact req_tup hs hu H
theorem reqs_step (hs : ∀ a o, G a = some o → s.heap.get? a = some o) (n : Nat) (ih : ∀ j, n = j + 1 → ∀ d e : Ob, d.ok j = true → e.ok j = true → ∀ A : Around, A.units + (4 * j + 4) < cLine → REq A s G (d.row none j) (e.row none j)) (d e : Ob) (hd : d.ok n = true) (he : e.ok n = true) (A : Around) (hu : A.units + (4 * n + 4) < cLine) : ReqS A s G (d.row none n) (e.row none n) := by
  have dict : ∀ ds es, (Ob.dict ds).ok n = true → (Ob.dict es).ok n = true → ∀ A : Around, A.units + (4 * n + 3) < cLine → ReqS A s G ((Ob.dict ds).row none n) ((Ob.dict es).row none n) := by
    intro ds es hd he A hu
    cases n with
    | zero => (first | with_reducible exact no_some hd | with_reducible exact some_no hd | with_reducible exact no_bool hd | with_reducible exact no_bool' hd | cases hd)
    | succ n =>
      refine ⟨_, _, row_dict, row_dict, req_str, fun _ => reqs_all fun x hx y hy => ?_⟩
      refine ex2 (mem_entRows hx) fun k d hx16 => ?_
      refine and2 hx16 fun hd' er16_3 => ?_
      clear hx16
      subst er16_3
      refine ex2 (mem_entRows hy) fun k' d' hx17 => ?_
      refine and2 hx17 fun he' er17_3 => ?_
      clear hx17
      subst er17_3
      exact req_tup hs (in1_lt (k := 0) (by first | decide | omega)) ⟨req_str, fun _ => ⟨ih n rfl d d' ((ok_dict hd).2.2 _ _ hd').2 ((ok_dict he).2.2 _ _ he').2 _ (in1_lt (in1_lt (by first | decide | omega))), fun _ => trivial⟩⟩
  by_cases hw : d.word = e.word
  · revert hd he
    refine Ob.same (P := fun d e => d.ok n = true → e.ok n = true → ReqS A s G (d.row none n) (e.row none n)) (fun _ _ => ⟨_, _, row_null, row_null, req_str, fun _ => trivial⟩) (fun _ _ _ _ => ⟨_, _, row_truth, row_truth, req_str, fun _ => ⟨req_int, fun _ => trivial⟩⟩) (fun _ _ _ _ => ⟨_, _, row_int, row_int, req_str, fun _ => ⟨req_int, fun _ => trivial⟩⟩)
      (fun _ _ _ _ _ _ => ⟨_, _, row_real, row_real, req_str, fun _ => ⟨req_int, fun _ => ⟨req_int, fun _ => trivial⟩⟩⟩) (fun _ _ _ _ => ⟨_, _, row_name, row_name, req_str, fun _ => ⟨req_str, fun _ => trivial⟩⟩) (fun _ _ _ _ _ _ => ⟨_, _, row_string, row_string, req_str, fun _ => ⟨req_bytes, fun _ => trivial⟩⟩)
      (fun _ _ _ _ _ _ => ⟨_, _, row_ref, row_ref, req_str, fun _ => ⟨req_int, fun _ => ⟨req_int, fun _ => trivial⟩⟩⟩) (fun _ _ hd he => ?_) (fun _ _ hd he => dict _ _ hd he A (by first | decide | omega)) (fun _ _ _ _ hd he => ?_) d e hw
    · cases n with
      | zero => (first | with_reducible exact no_some hd | with_reducible exact some_no hd | with_reducible exact no_bool hd | with_reducible exact no_bool' hd | cases hd)
      | succ n =>
        refine ⟨_, _, row_array, row_array, req_str, fun _ => reqs_all fun x hx y hy => ?_⟩
        refine ex1 (List.mem_map.mp hx) fun d hx18 => ?_
        refine and2 hx18 fun hd' er18_2 => ?_
        clear hx18
        subst er18_2
        refine ex1 (List.mem_map.mp hy) fun e hx19 => ?_
        refine and2 hx19 fun he' er19_2 => ?_
        clear hx19
        subst er19_2
        exact ih n rfl d e ((ok_array hd).2 _ hd') ((ok_array he).2 _ he') _ (in1_lt (by first | decide | omega))
    · cases n with
      | zero => (first | with_reducible exact no_some hd | with_reducible exact some_no hd | with_reducible exact no_bool hd | with_reducible exact no_bool' hd | cases hd)
      | succ n => exact ⟨_, _, row_stream, row_stream, req_str, fun _ => ⟨(dict _ _ (ok_stream hd).1 (ok_stream he).1 _ (in1_lt (by first | decide | omega))).req hs (in1_lt (k := 0) (by first | decide | omega)), fun _ => ⟨req_bytes, fun _ => trivial⟩⟩⟩
  · refine ex1 (row_tag _ _ hd) fun xs e1 => ?_
    refine ex1 (row_tag _ _ he) fun ys e2 => ?_
    exact ⟨_, _, e1, e2, req_str, fun z => absurd (Rw.str.inj z) hw⟩
theorem req_rows (hs : ∀ a o, G a = some o → s.heap.get? a = some o) (n : Nat) : ∀ (d e : Ob), d.ok n = true → e.ok n = true → ∀ A : Around, A.units + (4 * n + 4) < cLine → REq A s G (d.row none n) (e.row none n) := by
  induction n with
  | zero => exact fun d e hd he A hu => (reqs_step hs 0 (fun _ z => by (first | with_reducible exact no_some z | with_reducible exact some_no z | with_reducible exact no_bool z | with_reducible exact no_bool' z | cases z)) d e hd he A hu).req hs (by first | decide | omega)
  | succ n ih => exact fun d e hd he A hu => (reqs_step hs (n + 1) (fun j z => by cases z; exact ih) d e hd he A hu).req hs (by first | decide | omega)
theorem reqs_rows (hs : ∀ a o, G a = some o → s.heap.get? a = some o) (n : Nat) (d e : Ob) (hd : d.ok n = true) (he : e.ok n = true) (A : Around) (hu : A.units + (4 * n + 4) < cLine) : ReqS A s G (d.row none n) (e.row none n) :=
  reqs_step hs n (fun j _ d e hd he A hu => req_rows hs j d e hd he A hu) d e hd he A hu
end
section
open Classical
variable {s : Shared} {G : PMap}
theorem refRow_self {T : Option Tab} {a b : Int} {A : Around} (hs : ∀ a o, G a = some o → s.heap.get? a = some o) (hu : A.units < cLine) : REq A s G (refRow T a b) (refRow T a b) := by
  have three : ∀ a b, REq A s G (.tup [rs "ref", .int a, .int b]) (.tup [rs "ref", .int a, .int b]) := fun a b => req_tup hs hu ⟨req_str, fun _ => ⟨req_int, fun _ => ⟨req_int, fun _ => trivial⟩⟩⟩
  cases T with
  | none => exact three a b
  | some T =>
    have z : (∃ q : Int × Int, refRow (some T) a b = .tup [rs "ref", .int q.1, .int q.2]) ∨ refRow (some T) a b = .tup [rs "null"] := by
      show (∃ q : Int × Int, (match T.at (a, b) with | some (a, b) => Rw.tup [rs "ref", .int a, .int b] | none => nullRow) = _) ∨ (match T.at (a, b) with | some (a, b) => Rw.tup [rs "ref", .int a, .int b] | none => nullRow) = _
      cases T.at (a, b) with
      | none => exact .inr rfl
      | some q => exact .inl ⟨q, rfl⟩
    rcases z with ⟨q, e⟩ | e
    · rw [e]; exact three q.1 q.2
    · rw [e]; exact req_tup hs hu ⟨req_str, fun _ => trivial⟩
theorem reqs_self {A : Around} : ∀ {xs : List Rw}, (∀ x ∈ xs, REq A s G x x) → REqs A s G xs xs
  | [], _ => trivial
  | x :: xs, H => ⟨H x List.mem_cons_self, fun _ => reqs_self fun y hy => H y (List.mem_cons_of_mem _ hy)⟩
theorem req_self (hs : ∀ a o, G a = some o → s.heap.get? a = some o) (T : Option Tab) : ∀ (n : Nat) (d : Ob) (A : Around), A.units + (4 * n + 4) < cLine → REq A s G (d.row T n) (d.row T n) := by
  have plain : ∀ (n : Nat) (d : Ob) (A : Around), d.isPlain = true → A.units < cLine → REq A s G (d.row T n) (d.row T n) := by
    intro n d A hd hu
    cases d with
    | null => rw [row_null]; exact req_tup hs hu ⟨req_str, fun _ => trivial⟩
    | truth _ => rw [row_truth]; exact req_tup hs hu ⟨req_str, fun _ => ⟨req_int, fun _ => trivial⟩⟩
    | int _ => rw [row_int]; exact req_tup hs hu ⟨req_str, fun _ => ⟨req_int, fun _ => trivial⟩⟩
    | real _ _ => rw [row_real]; exact req_tup hs hu ⟨req_str, fun _ => ⟨req_int, fun _ => ⟨req_int, fun _ => trivial⟩⟩⟩
    | name _ => rw [row_name]; exact req_tup hs hu ⟨req_str, fun _ => ⟨req_str, fun _ => trivial⟩⟩
    | string _ _ => rw [row_string]; exact req_tup hs hu ⟨req_str, fun _ => ⟨req_bytes, fun _ => trivial⟩⟩
    | ref _ _ => rw [row_ref]; exact refRow_self hs hu
    | array _ => (first | with_reducible exact no_some hd | with_reducible exact some_no hd | with_reducible exact no_bool hd | with_reducible exact no_bool' hd | cases hd)
    | dict _ => (first | with_reducible exact no_some hd | with_reducible exact some_no hd | with_reducible exact no_bool hd | with_reducible exact no_bool' hd | cases hd)
    | stream _ _ => (first | with_reducible exact no_some hd | with_reducible exact some_no hd | with_reducible exact no_bool hd | with_reducible exact no_bool' hd | cases hd)
  intro n
  induction n with
  | zero =>
    intro d A hu
    have nl : REq A s G nullRow nullRow := req_tup hs (by first | decide | omega) ⟨req_str, fun _ => trivial⟩
    cases d with
    | array _ => exact nl
    | dict _ => exact nl
    | stream _ _ => exact nl
    | _ => exact plain 0 _ A rfl (by first | decide | omega)
  | succ n ih =>
    have dict : ∀ ds (A : Around), A.units + (4 * n + 7) < cLine → REq A s G ((Ob.dict ds).row T (n + 1)) ((Ob.dict ds).row T (n + 1)) := by
      intro ds A hu
      rw [row_dict]
      refine req_tup hs (by first | decide | omega) ⟨req_str, fun _ => reqs_self fun x hx => ?_⟩
      refine ex2 (mem_entRows hx) fun k d hx22 => ?_
      refine and2 hx22 fun hd' er22_3 => ?_
      clear hx22
      subst er22_3
      exact req_tup hs (in1_lt (k := 0) (by first | decide | omega)) ⟨req_str, fun _ => ⟨ih d _ (in1_lt (in1_lt (by first | decide | omega))), fun _ => trivial⟩⟩
    intro d A hu
    cases d with
    | array ds =>
      rw [row_array]
      refine req_tup hs (by first | decide | omega) ⟨req_str, fun _ => reqs_self fun x hx => ?_⟩
      refine ex1 (List.mem_map.mp hx) fun d hx23 => ?_
      refine and2 hx23 fun _ er23_2 => ?_
      clear hx23
      subst er23_2
      exact ih d _ (in1_lt (by first | decide | omega))
    | dict ds => exact dict ds A (by first | decide | omega)
    | stream ds oc =>
      rw [row_stream]
      exact req_tup hs (by first | decide | omega) ⟨req_str, fun _ => ⟨dict ds _ (in1_lt (by first | decide | omega)), fun _ => ⟨req_bytes, fun _ => trivial⟩⟩⟩
    | _ => exact plain (n + 1) _ A rfl (by first | decide | omega)
end
section
open Classical
variable {prog : Program} {w : World} {A : Around} {E : Value → Shared → Prop} {c : Fx} {h : Heap} {t : Nat} {m : Str → Option Value} {B G₀ G : PMap} {L : Addr} {Q : Value → Shared → Prop} {v v' : Value} {xs ys : List Rw}
theorem neT (S : St B G₀ L m G h) (hv : RIn G v (.tup xs)) (hv' : RIn G v' (.tup ys)) (hu : A.units < cLine) (H : ∀ (j : Nat) (r r' : Rw), xs[j]? = some r → ys[j]? = some r' → REq A.in1 (c.at h t) G r r') (q : Q (.bool (!decide (xs = ys))) (c.at h t)) :
    wpAny (model prog w) A (compareOp .NotEq v v') Q E (c.at h t) := by
  cases hv with
  | @tup a vs n _ h1 r1 =>
  cases hv' with
  | @tup b us k _ h2 r2 =>
  have len1 := r1.length
  have len2 := r2.length
  have e : (!((List.range (min vs.toArray.size us.toArray.size)).all (fun j => decide (xs[j]? = ys[j]?)) && vs.toArray.size == us.toArray.size)) = !decide (xs = ys) := by
    rw [List.size_toArray, List.size_toArray, len1, len2]
    congr 1
    by_cases q : xs = ys
    · subst q
      simp
    · rw [decide_eq_false q, Bool.and_eq_false_iff]
      by_cases hl : xs.length = ys.length
      · left
        rw [Bool.eq_false_iff]
        intro z
        refine q (List.ext_getElem? fun j => ?_)
        rw [List.all_eq_true] at z
        by_cases hj : j < xs.length
        · exact of_decide_eq_true (z j (List.mem_range.mpr (by first | decide | omega)))
        · rw [List.getElem?_eq_none (by first | decide | omega), List.getElem?_eq_none (by first | decide | omega)]
      · right
        simpa using hl
  refine SeqAt.RcNeAt.tuples (s := c.at h t) (A := A) (e := fun j => decide (xs[j]? = ys[j]?)) ⟨_, S.get h1, rfl, n, rfl⟩ ⟨_, S.get h2, rfl, k, rfl⟩ hu (fun j j1 j2 => ?_) prog w E Q (by rw [e]; exact q)
  simp only [List.size_toArray] at j1 j2
  refine ex1 (r1.get' (i := j) (v := vs[j]) (by simp [j1])) fun r hx24 => ?_
  refine and2 hx24 fun hr hv => ?_
  clear hx24
  refine ex1 (r2.get' (i := j) (v := us[j]) (by simp [j2])) fun r' hx25 => ?_
  refine and2 hx25 fun hr' hv' => ?_
  clear hx25
  have := H j r r' hr hr' _ _ hv hv'
  have e2 : decide (xs[j]? = ys[j]?) = decide (r = r') := by rw [hr, hr']; simp
  simp only [List.getElem_toArray]
  rw [e2]
  exact this
theorem eqT (S : St B G₀ L m G h) (hv : RIn G v (.tup xs)) (hv' : RIn G v' (.tup ys)) (hu : A.units < cLine) (H : REqs A.in1 (c.at h t) G xs ys) (q : Q (.bool (decide (xs = ys))) (c.at h t)) :
    wpAny (model prog w) A (compareOp .Eq v v') Q E (c.at h t) := by
  cases hv with
  | @tup a vs n _ h1 r1 =>
  cases hv' with
  | @tup b us k _ h2 r2 =>
  have len1 := r1.length
  have len2 := r2.length
  have e : ((List.range (min vs.toArray.size us.toArray.size)).all (fun j => decide (xs[j]? = ys[j]?)) && vs.toArray.size == us.toArray.size) = decide (xs = ys) := by
    rw [List.size_toArray, List.size_toArray, len1, len2]
    by_cases q : xs = ys
    · subst q
      simp
    · rw [decide_eq_false q, Bool.and_eq_false_iff]
      by_cases hl : xs.length = ys.length
      · left
        rw [Bool.eq_false_iff]
        intro z
        refine q (List.ext_getElem? fun j => ?_)
        rw [List.all_eq_true] at z
        by_cases hj : j < xs.length
        · exact of_decide_eq_true (z j (List.mem_range.mpr (by first | decide | omega)))
        · rw [List.getElem?_eq_none (by first | decide | omega), List.getElem?_eq_none (by first | decide | omega)]
      · right
        simpa using hl
  refine rc_lazy (s := c.at h t) (A := A) (e := fun j => decide (xs[j]? = ys[j]?)) ⟨_, S.get h1, rfl, n, rfl⟩ ⟨_, S.get h2, rfl, k, rfl⟩ hu (fun j j1 j2 hp => ?_) prog w E Q (by rw [e]; exact q)
  simp only [List.size_toArray] at j1 j2
  refine ex1 (r1.get' (i := j) (v := vs[j]) (by simp [j1])) fun r hx26 => ?_
  refine and2 hx26 fun hr hv => ?_
  clear hx26
  refine ex1 (r2.get' (i := j) (v := us[j]) (by simp [j2])) fun r' hx27 => ?_
  refine and2 hx27 fun hr' hv' => ?_
  clear hx27
  have := reqs_at H j r r' hr hr' (fun i hi => of_decide_eq_true (hp i hi)) _ _ hv hv'
  have e2 : decide (xs[j]? = ys[j]?) = decide (r = r') := by rw [hr, hr']; simp
  simp only [List.getElem_toArray]
  rw [e2]
  exact this
end

end
section
theorem seq_at {j n : Nat} (h : j < n) : seqIndex? (j : Int) n = some j := by
  unfold seqIndex?
  have h0 : ¬ ((j : Int) < 0) := Int.not_lt.mpr (Int.natCast_nonneg j)
  rw [if_neg h0]
  exact if_pos (Bool.and_eq_true_iff.mpr ⟨decide_eq_true (Int.natCast_nonneg j), decide_eq_true (Int.ofNat_lt.mpr h)⟩)
section
variable {prog : Program} {w : World} {A : Around} {E : Value → Shared → Prop} {s : Shared} {c : Fx} {h h' : Heap} {t : Nat} {mg mb m : Str → Option Value} {B G₀ G : PMap} {L a b : Addr} {env : Env} {Q : Value → Shared → Prop} {vs us : List Value} {n k : Nat} {v : Value}
theorem addList (S : St B G₀ L m G h) (ha : G a = some (listOf vs.toArray n)) (hb : G b = some (listOf us.toArray k)) (q : ∀ d h', St B G₀ L m (put G d (listOf (vs ++ us).toArray 0)) h' → G d = none → Q (.ref d) (c.at h' t)) (hsz : vs.length + us.length ≤ sizeLine) :
    wpAny (model prog w) A (binaryOp .Add (.ref a) (.ref b)) Q E (c.at h t) := by
  have ho := S.get ha
  have ho2 := S.get hb
  refine concat_meets ⟨_, ho, rfl⟩ ⟨_, ho2, rfl⟩ noFill_list_add seq_list_add PySem.F.slot_list_add PySem.F.entry_list_add (PySem.F.args_list_add_2 _ _)
    (AutoSeq1.list___add___list_list_0 a vs.toArray n b us.toArray k (by simpa using hsz)) ⟨ho, ho2, ?_⟩
  have e : vs.toArray ++ us.toArray = (vs ++ us).toArray := by simp
  rw [e]
  exact q _ _ (S.push (fun _ _ e => e) _) S.size
theorem itemT {e1 e2 : Expr} {k : Int} {u : Tok} {j : Nat} (S : St B G₀ L m G h) (ha : G a = some (tupOf vs n)) (hx : vs[j]? = some v) (hk : k = (j : Int)) (hj : j < 1000000) (q : Q v (c.at h t))
    (hs : subscripted e2 false (.ref a) (.int k u) = operate [.ref a, .int k u] (getItem (.ref a) (.int k u)) := by kernel_rfl) (ht : ∀ r, letTemporaryGo e1 (.ref a) r = pure () := by intro _; kernel_rfl) :
    wpAny (model prog w) A (subscriptTail e1 e2 (.ref a) (.int k u)) Q E (c.at h t) := by
  subst hk
  have hlt : j < vs.length := (List.getElem?_eq_some_iff.mp hx).1
  exact item_tupleL (s := c.at h t) ⟨_, S.get ha, rfl, n, rfl⟩ (by first | decide | omega) (by first | decide | omega) (j := j) (seq_at hlt) hx q hs ht
theorem itemL {e1 e2 : Expr} {k : Int} {u : Tok} {j : Nat} (S : St B G₀ L m G h) (ha : G a = some (listOf vs.toArray n)) (hx : vs[j]? = some v) (hk : k = (j : Int)) (hj : j < 1000000) (q : Q v (c.at h t))
    (hs : subscripted e2 false (.ref a) (.int k u) = operate [.ref a, .int k u] (getItem (.ref a) (.int k u)) := by kernel_rfl) (ht : ∀ r, letTemporaryGo e1 (.ref a) r = pure () := by intro _; kernel_rfl) :
    wpAny (model prog w) A (subscriptTail e1 e2 (.ref a) (.int k u)) Q E (c.at h t) := by
  subst hk
  have hl : h.IsList a vs.toArray := ⟨_, S.get ha, rfl, n, rfl⟩
  exact subscriptTail_builtin (s := c.at h t) hl.typeIs slot_list_getitem.lookup (wpAny_getItem_list hl (by first | decide | omega) (by first | decide | omega) (by simpa using hx) q) hs ht
theorem int_bool {b : Bool} (q : ∀ u t', Q (.int (if b = true then 1 else 0) u) (c.at h t')) : wpAny (model prog w) A (call (.type "int") [.bool b]) Q E (c.at h t) := call_int_bool (s := c.at h t) (q _ _)
open Classical in
theorem ne_null {T : Option Tab} {i : Nat} {d : Ob} {v' : Value} (S : St B G₀ L m G h) (hd : d.ok i = true) (hv : RIn G v (d.row T i)) (hv' : RIn G v' nullRow) (hu : A.units < cLine) (q : Q (.bool (!(d.row T i).isNull)) (c.at h t)) :
    wpAny (model prog w) A (compareOp .NotEq v v') Q E (c.at h t) := by
  have tag : ∃ y xs, d.row T i = .tup (.str y :: xs) ∧ ((Rw.str y :: xs = [rs "null"]) ↔ (d.row T i).isNull = true) := by
    have any : ∀ (y : Str) (xs : List Rw), decide (y = Str.ofString "null") = false → ((Rw.str y :: xs = [rs "null"]) ↔ (Rw.tup (.str y :: xs)).isNull = true) := fun y xs hy => by
      have hy := of_decide_eq_false hy
      refine ⟨fun z => absurd (by cases z; rfl) hy, fun z => ?_⟩
      cases xs with
      | nil => exact absurd (of_decide_eq_true z) hy
      | cons _ _ => (first | with_reducible exact no_some z | with_reducible exact some_no z | with_reducible exact no_bool z | with_reducible exact no_bool' z | cases z)
    have nl : ([rs "null"] = [rs "null"]) ↔ nullRow.isNull = true := ⟨fun _ => by show decide ((Str.ofString "null") = (Str.ofString "null")) = true; exact decide_eq_true rfl, fun _ => rfl⟩
    cases d with
    | null => exact ⟨_, _, row_null, by rw [row_null]; exact nl⟩
    | truth _ => exact ⟨_, _, row_truth, by rw [row_truth]; exact any _ _ (by decide +kernel)⟩
    | int _ => exact ⟨_, _, row_int, by rw [row_int]; exact any _ _ (by decide +kernel)⟩
    | real _ _ => exact ⟨_, _, row_real, by rw [row_real]; exact any _ _ (by decide +kernel)⟩
    | name _ => exact ⟨_, _, row_name, by rw [row_name]; exact any _ _ (by decide +kernel)⟩
    | string _ _ => exact ⟨_, _, row_string, by rw [row_string]; exact any _ _ (by decide +kernel)⟩
    | ref a b =>
      rw [row_ref]
      cases T with
      | none => exact ⟨_, _, rfl, any _ _ (by decide +kernel)⟩
      | some T =>
        show ∃ y xs, (match T.at (a, b) with | some (a, b) => Rw.tup [rs "ref", .int a, .int b] | none => nullRow) = Rw.tup (.str y :: xs) ∧ ((Rw.str y :: xs = [rs "null"]) ↔ Rw.isNull (match T.at (a, b) with | some (a, b) => Rw.tup [rs "ref", .int a, .int b] | none => nullRow) = true)
        cases T.at (a, b) with
        | none => exact ⟨_, _, rfl, nl⟩
        | some q => exact ⟨_, _, rfl, any _ _ (by decide +kernel)⟩
    | array ds => cases i with | zero => cases hd | succ i => exact ⟨_, _, row_array, by rw [row_array]; exact any _ _ (by decide +kernel)⟩
    | dict ds => cases i with | zero => cases hd | succ i => exact ⟨_, _, row_dict, by rw [row_dict]; exact any _ _ (by decide +kernel)⟩
    | stream ds o => cases i with | zero => cases hd | succ i => exact ⟨_, _, row_stream, by rw [row_stream]; exact any _ _ (by decide +kernel)⟩
  refine ex2 (tag) fun y xs hx1 => ?_
  refine and2 hx1 fun e1 e2 => ?_
  clear hx1
  try clear tag
  rw [e1] at hv
  refine neT S hv hv' hu (fun j r r' h1 h2 => ?_) (by rw [show decide (Rw.str y :: xs = [rs "null"]) = (d.row T i).isNull by rw [Bool.eq_iff_iff, decide_eq_true_iff]; exact e2]; exact q)
  cases j with
  | zero =>
    simp only [List.getElem?_cons_zero, Option.some.injEq] at h1 h2
    subst h1 h2
    exact req_str
  | succ j => simp at h2
end

end
section
noncomputable def RowAt (prog : Program) (w : World) (mg mb : Str → Option Value) (T : Option Tab) (r : Nat) (d : Ob) (row : Rw) : Prop :=
  ∀ (A : Around) (E : Value → Shared → Prop) (c : Fx) (h : Heap) (t : Nat) (G : PMap) (f : List Addr) (v tv : Value) (Q : Value → Shared → Prop), Ok r A → Bs (KK w) VV LL mg mb h.get? → (∀ a o, G a = some o → h.get? a = some o) → OIn prog w G f v d → TIn prog w G tv T →
    (∀ r' G' h' t', Grow No G h G' h' → RIn G' r' row → Q r' (c.at h' t')) → wpAny (model prog w) A (call (.ref 332) [v, tv]) Q E (c.at h t)
noncomputable def preRows (T : Option Tab) (n : Nat) (ds : List (Str × Ob)) (ks : List Str) : List Rw := ks.filterMap fun k => (keyed ds k).map fun d => .tup [.str k, Ob.row T n d]
noncomputable def Rw.keep : Rw → Bool
  | .tup [_, r] => !r.isNull
  | _ => true
theorem pre_filter {T : Option Tab} {n : Nat} {ds : List (Str × Ob)} : ∀ {ks : List Str}, (preRows T n ds ks).filter Rw.keep = entRows T n ds ks
  | [] => rfl
  | k :: ks => by
    have ih := pre_filter (T := T) (n := n) (ds := ds) (ks := ks)
    unfold preRows entRows at *
    rw [List.filterMap_cons, List.filterMap_cons]
    cases hk : keyed ds k with
    | none => simpa using ih
    | some d =>
      simp only [Option.map_some, Option.bind_some]
      cases hn : (Ob.row T n d).isNull with
      | true => rw [List.filter_cons_of_neg (by show ¬ (!(Ob.row T n d).isNull) = true; rw [hn]; exact Bool.false_ne_true), ih]; simp
      | false => rw [List.filter_cons_of_pos (by show (!(Ob.row T n d).isNull) = true; rw [hn]; rfl), ih]; simp
theorem mem_pre {T : Option Tab} {n : Nat} {ds : List (Str × Ob)} {ks : List Str} {x : Rw} (h : x ∈ preRows T n ds ks) : ∃ k d, (k, d) ∈ ds ∧ x = .tup [.str k, d.row T n] := by
  unfold preRows at h
  refine ex1 (List.mem_filterMap.mp h) fun k hx1 => ?_
  refine and2 hx1 fun _ h => ?_
  clear hx1
  refine ex1 (Option.map_eq_some_iff.mp h) fun d hx2 => ?_
  refine and2 hx2 fun hd er2_2 => ?_
  clear hx2
  subst er2_2
  exact ⟨k, d, keyed_mem hd, rfl⟩
theorem preRows_append {T : Option Tab} {n : Nat} {ds : List (Str × Ob)} {ks js : List Str} : preRows T n ds (ks ++ js) = preRows T n ds ks ++ preRows T n ds js := List.filterMap_append
theorem preRows_length {T : Option Tab} {n : Nat} {ds : List (Str × Ob)} {ks : List Str} : (preRows T n ds ks).length ≤ ks.length := List.length_filterMap_le _ _
section
variable {prog : Program} {w : World} {mg mb : Str → Option Value} {T : Option Tab}
theorem lrow_plain (n : Nat) (d : Ob) (hd : d.isPlain = true) (hn : d.word ≠ (Str.ofString "ref")) : RowAt prog w mg mb T 3 d (d.row T n) := by
  intro A E c h t G f v tv Q o Z hG hv hT k
  refine' enterCl (m := none_) (cm := upd (upd none_ (Str.ofString "value") v) (Str.ofString "table") tv) No [((Str.ofString "value"), v), ((Str.ofString "table"), tv)] o.room Z.no hG ?hw ?ho ?hcd ?hb ?hl ?hc ?hm ?hcm ?_ ?c1 ?c2 ?c3
  case ho => exact rfl
  case hw => exact no_ne
  case hcd => kernel_rfl
  case hb => exact BindsTo.of_eq rfl
  case hl => kernel_rfl
  case hc => decide +kernel
  case hm => intro L; kernel_rfl
  case hcm => intro L; kernel_rfl
  case c1 => exact rfl
  case c2 => exact rfl
  case c3 => exact rfl
  intro L h₁ t₁ G₁ g1 g2 ce S Z gL sL up
  rw [mask_no] at S
  have cv := cellIn ce (Str.ofString "value") (a := L + 1) (by kernel_rfl) (upd_there upd_here (by kernel_rfl))
  have ct := cellIn ce (Str.ofString "table") (a := L + 2) (by kernel_rfl) upd_here
  have hv := hv.mono g1
  have hT := hT.mono g1
  have hv' := hv
  (first | with_reducible exact no_some hv | with_reducible exact some_no hv | with_reducible exact no_bool hv | with_reducible exact no_bool' hv | cases hv)
  case null =>
    rw [row_null, nullRow] at k
    repeat cell_call
    (refine k _ _ _ _ (outC (by assumption) up sL hG g1 g2 gL) ?_; exact (.tup put_self (.cons (.str _ _) .nil)))
  case truth b =>
    rw [row_truth] at k
    repeat cell_call
    (refine k _ _ _ _ (outC (by assumption) up sL hG g1 g2 gL) ?_; exact (.tup put_self (.cons (.str _ _) (.cons (.int _ _) .nil))))
  case int i t =>
    rw [row_int] at k
    repeat cell_call
    (refine k _ _ _ _ (outC (by assumption) up sL hG g1 g2 gL) ?_; exact (.tup put_self (.cons (.str _ _) (.cons (.int _ _) .nil))))
  case real i a b =>
    rw [row_real] at k
    repeat cell_call
    (refine k _ _ _ _ (outC (by assumption) up sL hG g1 g2 gL) ?_; exact (.tup put_self (.cons (.str _ _) (.cons (.int _ _) (.cons (.int _ _) .nil)))))
  case name i a =>
    rw [row_name] at k
    repeat cell_call
    (refine k _ _ _ _ (outC (by assumption) up sL hG g1 g2 gL) ?_; exact (.tup put_self (.cons (.str _ _) (.cons (.str _ _) .nil))))
  case string i a =>
    rw [row_string] at k
    repeat cell_call
    (refine k _ _ _ _ (outC (by assumption) up sL hG g1 g2 gL) ?_; exact (.tup put_self (.cons (.str _ _) (.cons (.bytes _ _) .nil))))
  case ref => exact absurd rfl hn
  all_goals cases hd
theorem lrow_ref (n : Nat) (x y : Int) : RowAt prog w mg mb T 3 (.ref x y) ((Ob.ref x y).row T n) := by
  intro A E c h t G f v tv Q o Z hG hv hT k
  refine' enterCl (m := none_) (cm := upd (upd none_ (Str.ofString "value") v) (Str.ofString "table") tv) No [((Str.ofString "value"), v), ((Str.ofString "table"), tv)] o.room Z.no hG ?hw ?ho ?hcd ?hb ?hl ?hc ?hm ?hcm ?_ ?c1 ?c2 ?c3
  case ho => exact rfl
  case hw => exact no_ne
  case hcd => kernel_rfl
  case hb => exact BindsTo.of_eq rfl
  case hl => kernel_rfl
  case hc => decide +kernel
  case hm => intro L; kernel_rfl
  case hcm => intro L; kernel_rfl
  case c1 => exact rfl
  case c2 => exact rfl
  case c3 => exact rfl
  intro L h₁ t₁ G₁ g1 g2 ce S Z gL sL up
  rw [mask_no] at S
  have cv := cellIn ce (Str.ofString "value") (a := L + 1) (by kernel_rfl) (upd_there upd_here (by kernel_rfl))
  have ct := cellIn ce (Str.ofString "table") (a := L + 2) (by kernel_rfl) upd_here
  have hv := hv.mono g1
  have hT := hT.mono g1
  have hv' := hv
  rw [row_ref] at k
  have hu : ∀ env, (A.deeper env).units + 1 < cLine := fun env => by have := (o.deeper (env := env)).units; show _ < 9900; omega
  cases hv using OIn.refE with
  | k a es t1 t2 i q1 q2 q3 =>
  repeat cell_call
  rename_i ap hp Sp gp h3 t3 S3
  cases hT with
  | no =>
    repeat cell_call
    rename St _ _ _ _ (put _ _ _) _ => S3
    refine addTup S3 put_self (put_old (by assumption) _ _ put_self) (by simp) (fun a G' h n' S up' e => ?_) (by exact Nat.le_of_ble_eq_true rfl)
    refine k _ _ _ _ (outC S up sL hG g1 g2 gL) ?_
    exact .tup e (.cons (.str _ _) (.cons (.int _ _) (.cons (.int _ _) .nil)))
  | @so at_ xs T hP hV =>
    repeat cell_call
    have hb : PairAt (put G₁ ap (tupOf [.int x t1, .int y t2] 0)) ap (x, y) := ⟨_, _, _, put_self⟩
    have hP' := hP.mono (put_old (o := tupOf [.int x t1, .int y t2] 0) gp)
    refine inP S3 hP' hb (hu _) (fun _ => ?_)
    cases hat : T.at (x, y) with
    | none =>
      rw [hV.none hat]
      repeat cell_call
      rename St _ _ _ _ (put _ _ _) _ => S4
      refine k _ _ _ _ (outC S4 up sL hG g1 g2 gL) ?_
      simp only [refRow, hat]
      exact .tup put_self (.cons (.str _ _) .nil)
    | some q =>
      refine ex2 (hV.some hat) fun ka b hx3 => ?_
      refine and2 hx3 fun e1 e2 => ?_
      clear hx3
      rw [e1]
      repeat cell_call
      rename_i ar hr Sr gr
      refine subP Sr (hP'.mono (put_old gr)) (hb.mono (put_old gr)) (hu _) e1 (fun _ => ?_)
      refine ex3 (e2) fun _ _ _ e3 => ?_
      try clear e2
      refine addTup Sr put_self (put_old gr _ _ (put_old gp _ _ e3)) (by simp) (fun a G' h n' S up' e => ?_) (by exact Nat.le_of_ble_eq_true rfl)
      refine k _ _ _ _ (outC S up sL hG g1 g2 gL) ?_
      simp only [refRow, hat]
      exact .tup e (.cons (.str _ _) (.cons (.int _ _) (.cons (.int _ _) .nil)))
end
section
variable {prog : Program} {w : World} {mg mb : Str → Option Value} {T : Option Tab}
theorem lrow_array (n : Nat) (ih : ∀ d, d.ok n = true → RowAt prog w mg mb T (2 * n + 3) d (d.row T n)) (ds : List Ob) (hok : (Ob.array ds).ok (n + 1) = true) : RowAt prog w mg mb T (2 * n + 4) (.array ds) ((Ob.array ds).row T (n + 1)) := by
  intro A E c h t G f v tv Q o Z hG hv hT k
  refine' enterCl (m := none_) (cm := upd (upd none_ (Str.ofString "value") v) (Str.ofString "table") tv) No [((Str.ofString "value"), v), ((Str.ofString "table"), tv)] o.room Z.no hG ?hw ?ho ?hcd ?hb ?hl ?hc ?hm ?hcm ?_ ?c1 ?c2 ?c3
  case ho => exact rfl
  case hw => exact no_ne
  case hcd => kernel_rfl
  case hb => exact BindsTo.of_eq rfl
  case hl => kernel_rfl
  case hc => decide +kernel
  case hm => intro L; kernel_rfl
  case hcm => intro L; kernel_rfl
  case c1 => exact rfl
  case c2 => exact rfl
  case c3 => exact rfl
  intro L h₁ t₁ G₁ g1 g2 ce S Z gL sL up
  rw [mask_no] at S
  have cv := cellIn ce (Str.ofString "value") (a := L + 1) (by kernel_rfl) (upd_there upd_here (by kernel_rfl))
  have ct := cellIn ce (Str.ofString "table") (a := L + 2) (by kernel_rfl) upd_here
  have hv := hv.mono g1
  have hT := hT.mono g1
  have hv' := hv
  cases hv using OIn.arrayE with
  | k va vs vn fs hd1 he =>
  repeat cell_call
  rename_i at_ h2 S2 ga2
  refine eval_comp (cl := [((Str.ofString "table"), L + 2)]) (by kernel_rfl) ?_
  repeat cell_call
  have od := ok_array hok
  have hlen := he.length
  refine comp_at (W := No) (P := fun i v => vs.toArray[i]? = some v) (n := vs.toArray.size) (fun i ys U => RAll U ys ((ds.take i).map fun d => Ob.row T n d)) S2 Z (Src.list o.deeper.hh ⟨_, S2.get (atUp S2 hd1), rfl, _, rfl⟩ (fun z => z)) no_B (fun _ _ _ _ => no_ne) ?sz .nil ?turn ?done
  case sz => rw [List.size_toArray, hlen]; exact Nat.le_trans od.1 (by decide)
  case turn =>
    intro i v ys U h t C m₂ hi hv g S Z hm inv hl
    rw [mask_no] at S
    have upU : ∀ a o, G₁ a = some o → U a = some o := fun a o e => g.up a o (S2.mono a o e)
    have ctU := ct.mono upU
    refine ex2 (he.get (i := i) (v := v) (by simpa using hv)) fun f' d hx5 => ?_
    refine and3 hx5 fun hd hin _ => ?_
    clear hx5
    have hok' := od.2 d (List.mem_of_getElem? hd)
    have hin := hin.mono upU
    repeat cell_call
    refine ih d hok' _ _ _ _ _ _ _ _ _ _ (o.deeper.less (by first | decide | omega)) (Z.at_ S) (fun _ _ e => S.get e) hin (hT.mono upU) (fun r G' h t g2 rr => ?_)
    have S := S.grow0 g2
    refine ⟨_, _, _, _, rfl, by rw [mask_no]; exact S, ?_⟩
    rw [take_next hd, List.map_append]
    exact (inv.mono fun a o e => g2.up a o e).snoc rr
  case done =>
    intro D2 ys U h t S uD bD hD g g' inv hl
    rw [List.size_toArray, hlen, List.take_length] at inv
    rw [List.size_toArray, hlen] at hl
    have at' : U at_ = some (listOf [Value.str (Str.ofString "array") _].toArray 0) := g'.up _ _ put_self
    refine addList S (put_old uD _ _ at') put_self (fun b h S gb => ?_) (by rw [List.length_singleton]; exact Nat.le_trans (Nat.add_le_add_left (Nat.le_trans hl od.1) 1) (by decide))
    repeat cell_call
    refine tupOfList S put_self (fun a h S ga => ?_) (by rw [List.length_append, List.length_singleton]; exact Nat.le_trans (Nat.add_le_add_left (Nat.le_trans hl od.1) 1) (by decide))
    refine k _ _ _ _ (outC S up sL hG g1 g2 gL) ?_
    rw [row_array]
    exact .tup put_self (.cons (.str _ _) (inv.mono fun a o e => put_old ga _ _ (put_old gb a o (put_old uD a o e))))
theorem lrow_dict (n : Nat) (ih : ∀ d, d.ok n = true → RowAt prog w mg mb T (2 * n + 3) d (d.row T n)) (ds : List (Str × Ob)) (hok : (Ob.dict ds).ok (n + 1) = true) : RowAt prog w mg mb T (2 * n + 4) (.dict ds) ((Ob.dict ds).row T (n + 1)) := by
  intro A E c h t G f v tv Q o Z hG hv hT k
  refine' enterCl (m := none_) (cm := upd (upd none_ (Str.ofString "value") v) (Str.ofString "table") tv) No [((Str.ofString "value"), v), ((Str.ofString "table"), tv)] o.room Z.no hG ?hw ?ho ?hcd ?hb ?hl ?hc ?hm ?hcm ?_ ?c1 ?c2 ?c3
  case ho => exact rfl
  case hw => exact no_ne
  case hcd => kernel_rfl
  case hb => exact BindsTo.of_eq rfl
  case hl => kernel_rfl
  case hc => decide +kernel
  case hm => intro L; kernel_rfl
  case hcm => intro L; kernel_rfl
  case c1 => exact rfl
  case c2 => exact rfl
  case c3 => exact rfl
  intro L h₁ t₁ G₁ g1 g2 ce S Z gL sL up
  rw [mask_no] at S
  have cv := cellIn ce (Str.ofString "value") (a := L + 1) (by kernel_rfl) (upd_there upd_here (by kernel_rfl))
  have ct := cellIn ce (Str.ofString "table") (a := L + 2) (by kernel_rfl) upd_here
  have hv := hv.mono g1
  have hT := hT.mono g1
  have hv' := hv
  cases hv using OIn.dictE with
  | k va ob kvs fs hd1 hd2 hd3 he =>
  repeat cell_call
  refine x_assignComp (cl := [((Str.ofString "value"), L + 1), ((Str.ofString "table"), L + 2)]) (by kernel_rfl!) ?_
  repeat cell_call
  rename_i t1 _ t2 _ t3 _ at_ h2 S2 ga2
  have od := ok_dict hok
  have kk := he.keys
  refine comp_atU (W := No) (P := fun i v => [Value.str sA t1, Value.str sB t2, Value.str sC t3].toArray[i]? = some v) (n := 3) (fun i ys U => RAll U ys (preRows T n ds (abc.take i))) S2 Z (Src.tuple (its := [Value.str sA t1, Value.str sB t2, Value.str sC t3].toArray) o.deeper.hh ⟨_, S2.get put_self, rfl, _, rfl⟩ (fun z => z)) no_B (fun _ _ _ _ => no_ne) (by decide) .nil ?turn ?done
  case turn =>
    intro i v ys U h t C m₂ hi hv g S Z hm inv hl
    rw [mask_no] at S
    have upU : ∀ a o, G₁ a = some o → U a = some o := fun a o e => g.up a o (S2.mono a o e)
    have ctU := ct.mono upU
    have cvU := cv.mono upU
    have hdU := upU _ _ hd1
    refine ex2 (strs_at (.cons sA t1 (.cons sB t2 (.cons sC t3 .nil)) : StrsAre [Value.str sA t1, Value.str sB t2, Value.str sC t3] abc) (by simpa using hv)) fun x u hx6 => ?_
    refine and2 hx6 fun hk er6_3 => ?_
    clear hx6
    subst er6_3
    have hk : abc[i]? = some x := hk
    repeat cell_call
    cases hkd : keyed ds x with
    | none =>
      rw [he.value_none hkd]
      repeat cell_call
      refine ⟨_, _, _, _, rfl, by rw [mask_no]; exact S, ?_⟩
      rw [take_next hk, preRows_append]
      have z : preRows T n ds [x] = [] := by simp [preRows, hkd]
      rw [z, List.append_nil]
      exact inv
    | some d =>
      have hok' := (od.2.2 x d (keyed_mem hkd)).2
      refine ex2 (he.value hkd) fun f' vv hx7 => ?_
      refine and3 hx7 fun hval hin _ => ?_
      clear hx7
      have hin := hin.mono upU
      rw [hval]
      repeat cell_call
      refine ih d hok' _ _ _ _ _ _ _ _ _ _ (o.deeper.less (by first | decide | omega)) (Z.at_ S) (fun _ _ e => S.get e) hin (hT.mono upU) (fun r G' h t g2 rr => ?_)
      have S := S.grow0 g2
      repeat cell_call
      rename_i a4 h4 S4 ga4
      refine ⟨_, _, _, _, rfl, by rw [mask_no]; exact S4, ?_⟩
      rw [take_next hk, preRows_append]
      have z : preRows T n ds [x] = [.tup [.str x, Ob.row T n d]] := by simp [preRows, hkd]
      rw [z]
      exact (inv.mono fun a o e => put_old ga4 a o (g2.up a o e)).snoc (.tup put_self (.cons (.str _ _) (.cons (rr.mono (put_old ga4)) .nil)))
  case done =>
    intro D2 ys U h t S uD bD hD gm inv hl
    have inv : RAll U ys (preRows T n ds abc) := inv
    repeat cell_call
    rename_i al h4 S4 ga4
    refine eval_comp (cl := []) (by kernel_rfl) ?_
    repeat cell_call
    have hlen := inv.length
    refine comp_at (W := No) (P := fun i v => ys.toArray[i]? = some v) (n := ys.toArray.size) (fun i zs U => RAll U zs (((preRows T n ds abc).take i).filter Rw.keep)) S4 Z (Src.list o.deeper.hh ⟨_, S4.get (put_old ga4 _ _ put_self), rfl, _, rfl⟩ (fun z => z)) no_B (fun _ _ _ _ => no_ne) ?sz .nil ?turn2 ?done2
    case sz => rw [List.size_toArray]; exact Nat.le_trans hl (by decide)
    case turn2 =>
      intro i v zs U2 h t C m₂ hi hv g S Z hm inv2 hl
      rw [mask_no] at S
      refine ex1 (inv.get' (i := i) (v := v) (by simpa using hv)) fun r hx8 => ?_
      refine and2 hx8 fun hr hrow => ?_
      clear hx8
      refine ex2 (mem_pre (List.mem_of_getElem? hr)) fun x d hx9 => ?_
      refine and2 hx9 fun hmem er9_3 => ?_
      clear hx9
      subst er9_3
      have hok' := (od.2.2 x d hmem).2
      have hrow := hrow.mono fun a o e => g.up a o (put_old ga4 a o (put_old uD a o e))
      have hrow' := hrow
      cases hrow using RIn.tupE with
      | k ra rvs rn hra hall =>
      cases hall using RAll.consE with
      | k v0 _ h0 hall =>
      cases hall using RAll.consE with
      | k v1 _ h1 hall =>
      cases hall with
      | nil =>
      repeat cell_call
      refine itemT S hra (j := 1) rfl rfl (by decide) ?_
      repeat cell_call
      rename_i nn hn Sn gn
      refine ne_null Sn hok' (h1.mono (put_old gn)) (.tup put_self (.cons (.str _ _) .nil)) (Ok.c o.deeper) ?_
      repeat cell_call
      rw [take_next hr, List.filter_append]
      refine iteB (fun e => ?_) (fun e => ?_)
      · repeat cell_call
        refine ⟨_, _, _, _, rfl, by rw [mask_no]; exact Sn, ?_⟩
        rw [List.filter_cons_of_pos (by simpa [Rw.keep] using e), List.filter_nil]
        exact (inv2.mono (put_old gn)).snoc (hrow'.mono (put_old gn))
      · refine ⟨_, _, _, _, rfl, by rw [mask_no]; exact Sn, ?_⟩
        rw [List.filter_cons_of_neg (by simpa [Rw.keep] using e), List.filter_nil, List.append_nil]
        exact inv2.mono (put_old gn)
    case done2 =>
      intro D3 zs U3 h t S uD3 bD3 hD3 g g' inv2 hl3
      rw [List.size_toArray, hlen, List.take_length, pre_filter] at inv2
      have lz : zs.length ≤ 3 := by rw [List.size_toArray] at hl3; omega
      have al' : U3 al = some (listOf [Value.str (Str.ofString "dict") _].toArray 0) := g'.up _ _ put_self
      refine addList S (put_old uD3 _ _ al') put_self (fun b h S gb => ?_) (by rw [List.length_singleton]; exact Nat.le_trans (Nat.add_le_add_left lz 1) (by decide))
      repeat cell_call
      refine tupOfList S put_self (fun a h S ga => ?_) (by rw [List.length_append, List.length_singleton]; exact Nat.le_trans (Nat.add_le_add_left lz 1) (by decide))
      refine k _ _ _ _ (outC S up sL hG g1 g2 gL) ?_
      rw [row_dict]
      exact .tup put_self (.cons (.str _ _) (inv2.mono fun a o e => put_old ga _ _ (put_old gb a o (put_old uD3 a o e))))
end
section
variable {prog : Program} {w : World} {mg mb : Str → Option Value} {T : Option Tab}
theorem lrow_stream (n : Nat) (ih : ∀ ds, (Ob.dict ds).ok (n + 1) = true → RowAt prog w mg mb T (2 * n + 4) (.dict ds) ((Ob.dict ds).row T (n + 1))) (ds : List (Str × Ob)) (oc : Array UInt8) (hok : (Ob.stream ds oc).ok (n + 1) = true) :
    RowAt prog w mg mb T (2 * n + 5) (.stream ds oc) ((Ob.stream ds oc).row T (n + 1)) := by
  intro A E c h t G f v tv Q o Z hG hv hT k
  refine' enterCl (m := none_) (cm := upd (upd none_ (Str.ofString "value") v) (Str.ofString "table") tv) No [((Str.ofString "value"), v), ((Str.ofString "table"), tv)] o.room Z.no hG ?hw ?ho ?hcd ?hb ?hl ?hc ?hm ?hcm ?_ ?c1 ?c2 ?c3
  case ho => exact rfl
  case hw => exact no_ne
  case hcd => kernel_rfl
  case hb => exact BindsTo.of_eq rfl
  case hl => kernel_rfl
  case hc => decide +kernel
  case hm => intro L; kernel_rfl
  case hcm => intro L; kernel_rfl
  case c1 => exact rfl
  case c2 => exact rfl
  case c3 => exact rfl
  intro L h₁ t₁ G₁ g1 g2 ce S Z gL sL up
  rw [mask_no] at S
  have cv := cellIn ce (Str.ofString "value") (a := L + 1) (by kernel_rfl) (upd_there upd_here (by kernel_rfl))
  have ct := cellIn ce (Str.ofString "table") (a := L + 2) (by kernel_rfl) upd_here
  have hv := hv.mono g1
  have hT := hT.mono g1
  have hv' := hv
  cases hv using OIn.streamE with
  | k a dx es n' hv fs tt i1 i2 q1 q2 hin =>
  have hh := hin.handed
  repeat cell_call
  refine ih ds (ok_stream hok).1 _ _ _ _ _ _ _ _ _ _ (o.deeper.less (by first | decide | omega)) (Z.at_ S) (fun _ _ e => S.get e) (oinUp S hin) hT (fun r G' h t g3 rr => ?_)
  have S := S.grow0 g3
  repeat cell_call
  rename_i ar h3 S3 ga3
  refine k _ _ _ _ (outC S3 up sL hG g1 g2 gL) ?_
  rw [row_stream]
  exact .tup put_self (.cons (.str _ _) (.cons (rr.mono (put_old ga3)) (.cons (.bytes _ _) .nil)))
theorem lrow_spec : ∀ (n : Nat) (d : Ob), d.ok n = true → RowAt prog w mg mb T (2 * n + 3) d (d.row T n) := by
  intro n
  have less : ∀ {r r' : Nat} {d : Ob} {row : Rw}, r ≤ r' → RowAt prog w mg mb T r d row → RowAt prog w mg mb T r' d row := fun hr H A E c h t G f v tv Q o => H A E c h t G f v tv Q (o.less hr)
  have wn : ∀ {d : Ob}, (d.word == (Str.ofString "ref")) = false → d.word ≠ (Str.ofString "ref") := fun h => beq_eq_false_iff_ne.mp h
  induction n with
  | zero =>
    intro d hd
    cases d with
    | array _ => (first | with_reducible exact no_some hd | with_reducible exact some_no hd | with_reducible exact no_bool hd | with_reducible exact no_bool' hd | cases hd)
    | dict _ => (first | with_reducible exact no_some hd | with_reducible exact some_no hd | with_reducible exact no_bool hd | with_reducible exact no_bool' hd | cases hd)
    | stream _ _ => (first | with_reducible exact no_some hd | with_reducible exact some_no hd | with_reducible exact no_bool hd | with_reducible exact no_bool' hd | cases hd)
    | ref x y => exact lrow_ref 0 x y
    | _ => exact lrow_plain 0 _ rfl (wn (by kernel_rfl))
  | succ n ih =>
    intro d hd
    cases d with
    | array ds => exact less (by first | decide | omega) (lrow_array n ih ds hd)
    | dict ds => exact less (by first | decide | omega) (lrow_dict n ih ds hd)
    | stream ds oc => exact lrow_stream n (fun ds h => lrow_dict n ih ds h) ds oc hd
    | ref x y => exact less (by first | decide | omega) (lrow_ref (n + 1) x y)
    | _ => exact less (by first | decide | omega) (lrow_plain (n + 1) _ rfl (wn (by kernel_rfl)))
end

end
section
theorem kd_keys : typeLookup (.type "list") "keys" = pure none := by rw [typeLookup_type, builtinLookup_eq_fast]; kernel_rfl
theorem kd_entry_loop : entryFor table "dict.update.loop" = some Builtin.«dict.update.loop» := entryFor_of_tree (by kernel_rfl)
theorem kd_plain_loop : plainId "dict.update.loop" = true := by decide +kernel
section
variable {prog : Program} {w : World} {A : Around} {E : Value → Shared → Prop} {s : Shared}
theorem keys_miss {a : Addr} {vs : List Value} {n : Nat} {Q : Option Value → Shared → Prop} (hx : s.heap.get? a = some (listOf vs.toArray n)) (hA : A.handled = none)
    (h : ∀ h' tk, (∀ b o, s.heap.get? b = some o → h'.get? b = some o) → Q none { s with heap := h', toks := tk }) : wpAny (model prog w) A (getAttr? (.ref a) "keys") Q E s := by
  obtain ⟨hp, g, d, tk, os⟩ := s
  have hT : ∀ tk', (⟨hp, g, d, tk', os⟩ : Shared).TypeIs (.ref a) "list" := fun _ => ⟨_, hx, rfl⟩
  have f1 := sub_AttributeError
  have f3 := F.slot_list_getattribute.lookup
  have f4 := F.slot_list_getattribute.bind (.ref a)
  have f5 := am_list_getattr_none
  have hmiss := kd_keys
  unfold getAttr? getAttrBy? getAttrBy
  repeat (any_goals (first | assumption | exact hT _ | ((with_reducible show wpAny _ _ (call (Value.builtin "list.__getattribute__") _ _) _ _ _); refine call_meets F.slot_list_getattribute (hT _) am_entry_list_getattribute (F.args_list_getattribute_2 _ _) (meets_getattribute_miss_list a vs.toArray n #[] "keys" _ hmiss (by decide +kernel) (by decide)) ⟨hx, hA, fun h' tk' e hx' => ?_⟩) | wp_step))
  refine ex2 (hx'.there) fun t' u' he => ?_
  show wpAny _ _ (getattributeRaised _ _ _ _ _ _ _) _ _ _
  unfold getattributeRaised
  repeat (any_goals (first | assumption | wp_step))
  exact h _ _ hx'.of.keeps

noncomputable def PairIs (h : Heap) (p : Value) (kv : Str × Value) : Prop := ∃ a u n, p = .ref a ∧ h.get? a = some (tupOf [.str kv.1 u, kv.2] n)
theorem PairIs.keeps {h h' : Heap} {p : Value} {kv : Str × Value} (q : PairIs h p kv) (k : ∀ b o, h.get? b = some o → h'.get? b = some o) : PairIs h' p kv :=
  ex3 q fun a u n e => ⟨a, u, n, e.1, k _ _ e.2⟩
theorem PairIs.but {h h' : Heap} {d : Addr} {p : Value} {kv : Str × Value} (q : PairIs h p kv) (k : Heap.SameBut d h h') (hc : ∃ o, h.get? d = some o ∧ o.cls ≠ .type "tuple") : PairIs h' p kv := by
  refine ex3 (q) fun a u n hx3 => ?_
  refine and2 hx3 fun e x => ?_
  clear hx3
  try clear q
  refine ex1 (hc) fun o hx4 => ?_
  refine and2 hx4 fun ho hn => ?_
  clear hx4
  try clear hc
  exact ⟨a, u, n, e, (k.2 a fun z => by rw [z, ho] at x; cases x; exact hn rfl).trans x⟩
theorem dict_loop {d it l : Addr} {items : Array Value} {more : List (Str × Value)} {Q : Shared → Prop} (hlen : items.size = more.length) (hz : more.length ≤ 1000) (hh : A.handled = none)
    (q : ∀ h', h'.DictOf (strKind prog w) d (merged [] more) → (∀ b o, b ≠ d → b ≠ it → s.heap.get? b = some o → h'.get? b = some o) → ∀ t', Q { s with heap := h', toks := t' }) :
    ∀ (j i : Nat) (h : Heap) (t : Nat), i + j = more.length → h.IsListIter it l i → h.IsList l items → h.DictOf (strKind prog w) d (merged [] (more.take i)) →
      (∀ (k : Nat) (kv : Str × Value), more[k]? = some kv → ∃ p, items[k]? = some p ∧ PairIs h p kv) → (∀ b o, b ≠ d → b ≠ it → s.heap.get? b = some o → h.get? b = some o) →
      codeAny (model prog w) A (.builtin "dict.update.loop" ⟨[.ref d, .ref it, .int i 0, .none], []⟩) (wants (fun r s₂ => r = .none ∧ Q s₂) E) { s with heap := h, toks := t } := by
  intro j
  induction j with
  | zero =>
    intro i h t hij hit hl hd hp hk
    have hdi : d ≠ it := by
      rintro rfl
      refine ex1 (hit) fun o hx5 => ?_
      refine and3 hx5 fun ho hc _ => ?_
      clear hx5
      try clear hit
      refine ex3 (hd) fun o' _ _ hx6 => ?_
      refine and3 hx6 fun ho' hc' _ => ?_
      clear hx6
      try clear hd
      rw [ho] at ho'; (first | with_reducible exact no_some ho' | with_reducible exact some_no ho' | with_reducible exact no_bool ho' | with_reducible exact no_bool' ho' | cases ho')
      have e1 := hc'.1
      rw [hc] at e1; exact absurd e1 (by decide)
    refine codeAny_builtin kd_entry_loop ?_
    rw [Around.under_plainId kd_plain_loop _]
    unfold Builtin.«dict.update.loop»
    refine wpAny_bind (wpAny_pyNext_list_end (i := i) (items := items) hh hit hl (by rw [Array.getElem?_eq_none]; omega) fun h' hs => ?_)
    refine wpAny_bind (wpAny_pure ?_)
    obtain rfl : i = more.length := by omega
    rw [List.take_length] at hd
    exact wpAny_pure ⟨rfl, q _ (hd.extBut hs hdi) (fun b o n1 n2 e => hs b o n2 (hk b o n1 n2 e)) _⟩
  | succ j ih =>
    intro i h t hij hit hl hd hp hk
    have hdi : d ≠ it := by
      rintro rfl
      refine ex1 (hit) fun o hx7 => ?_
      refine and3 hx7 fun ho hc _ => ?_
      clear hx7
      try clear hit
      refine ex3 (hd) fun o' _ _ hx8 => ?_
      refine and3 hx8 fun ho' hc' _ => ?_
      clear hx8
      try clear hd
      rw [ho] at ho'; (first | with_reducible exact no_some ho' | with_reducible exact some_no ho' | with_reducible exact no_bool ho' | with_reducible exact no_bool' ho' | cases ho')
      have e1 := hc'.1
      rw [hc] at e1; exact absurd e1 (by decide)
    have hlt : i < more.length := by omega
    obtain ⟨kv, hkv⟩ : ∃ kv, more[i]? = some kv := ⟨_, List.getElem?_eq_getElem hlt⟩
    refine ex1 (hp i kv hkv) fun p hx9 => ?_
    refine and2 hx9 fun hpi hpp => ?_
    clear hx9
    refine codeAny_builtin kd_entry_loop ?_
    rw [Around.under_plainId kd_plain_loop _]
    unfold Builtin.«dict.update.loop»
    refine wpAny_bind (wpAny_pyNext_list_item (i := i) (items := items) hit hl hpi fun h' hit' hs => ?_)
    have itc : ∃ o, h.get? it = some o ∧ o.cls = .type "list_iterator" := by obtain ⟨o, ho, hc, _⟩ := hit; exact ⟨o, ho, hc⟩
    have itn : ∃ o, h.get? it = some o ∧ o.cls ≠ .type "tuple" := by obtain ⟨o, ho, hc⟩ := itc; exact ⟨o, ho, by rw [hc]; decide⟩
    have hpp' := hpp.but hs itn
    refine ex3 (hpp') fun pa u n hx10 => ?_
    refine and2 hx10 fun er10_3 hpa => ?_
    clear hx10
    try clear hpp'
    subst er10_3
    have hl' : h'.IsList l items := by
      refine ex1 (hl) fun o hx11 => ?_
      refine and3 hx11 fun ho hc r => ?_
      clear hx11
      try clear hl
      refine ⟨o, (hs.2 l ?_).trans ho, hc, r⟩
      rintro rfl
      refine ex1 (itc) fun o' hx12 => ?_
      refine and2 hx12 fun ho' hc' => ?_
      clear hx12
      try clear itc
      rw [ho] at ho'; (first | with_reducible exact no_some ho' | with_reducible exact some_no ho' | with_reducible exact no_bool ho' | with_reducible exact no_bool' ho' | cases ho')
      rw [hc] at hc'; exact absurd hc' (by decide)
    have hd' := hd.sameBut hs hdi
    refine wpAny_bind ?_
    refine wpAny_holding ?_
    refine wpAny_bind (wpAny_tryCatch ?_)
    unfold Builtin.Dict.pairItems
    refine wpAny_bind (wpAny_typeOf_ref hpa ?_)
    refine wpAny_bind (wpAny_seqItems hpa rfl ?_)
    refine wpAny_pure ?_
    show wpAny _ _ (holding _ (dictSet d (.str kv.1 u) kv.2)) _ _ _
    have hsz : (merged [] (more.take i)).length ≤ sizeLine := by
      have := merged_length_le ([] : List (Str × Value)) (more.take i)
      have e2 : (more.take i).length ≤ more.length := by rw [List.length_take]; exact Nat.min_le_right ..
      rw [List.length_nil] at this
      exact Nat.le_trans (Nat.le_trans this (by omega : _ ≤ 1000)) (by decide)
    refine wpAny_holding (wpAny_dictSet_pairs (hsz := hsz) (strKind_is prog w kv.1 u) hd' fun h2 hd2 hs2 => ?_)
    have hdn : ∃ o, h'.get? d = some o ∧ o.cls ≠ .type "tuple" := by obtain ⟨o, _, _, ho, hc, _⟩ := hd'; exact ⟨o, ho, by rw [hc.1]; decide⟩
    have k2 : ∀ b o, b ≠ d → b ≠ it → s.heap.get? b = some o → h2.get? b = some o := fun b o n1 n2 e => (hs2.2 b n1).trans ((hs.2 b n2).trans (hk b o n1 n2 e))
    refine wpAny_pure ⟨plainId_quiet kd_plain_loop _, ?_⟩
    have hit2 : h2.IsListIter it l (i + 1) := by obtain ⟨o, ho, r⟩ := hit'; exact ⟨o, (hs2.2 it (Ne.symm hdi)).trans ho, r⟩
    have hl2 : h2.IsList l items := by
      refine ex1 (hl') fun o hx13 => ?_
      refine and3 hx13 fun ho hc r => ?_
      clear hx13
      try clear hl'
      refine ⟨o, (hs2.2 l ?_).trans ho, hc, r⟩
      rintro rfl
      refine ex3 (hd') fun o' _ _ hx14 => ?_
      refine and3 hx14 fun ho' hc' _ => ?_
      clear hx14
      try clear hd'
      rw [ho] at ho'; (first | with_reducible exact no_some ho' | with_reducible exact some_no ho' | with_reducible exact no_bool ho' | with_reducible exact no_bool' ho' | cases ho')
      have e1 := hc'.1
      rw [hc] at e1; exact absurd e1 (by decide)
    have hd3 : h2.DictOf (strKind prog w) d (merged [] (more.take (i + 1))) := by rw [merged_take_succ [] more i kv hkv]; exact hd2
    have hp2 : ∀ (k : Nat) (kv : Str × Value), more[k]? = some kv → ∃ p, items[k]? = some p ∧ PairIs h2 p kv := fun k kv e => by
      refine ex1 (hp k kv e) fun p hx15 => ?_
      refine and2 hx15 fun a b => ?_
      clear hx15
      exact ⟨p, a, (b.but hs itn).but hs2 hdn⟩
    have := ih (i + 1) h2 (t + 1) (by first | decide | omega) hit2 hl2 hd3 hp2 k2
    exact this
theorem dict_pairs {l : Addr} {vs : List Value} {n : Nat} {more : List (Str × Value)} {Q : Value → Shared → Prop} (hl : s.heap.get? l = some (listOf vs.toArray n)) (hlen : vs.length = more.length) (hz : more.length ≤ 1000) (hh : A.handled = none)
    (hp : ∀ (k : Nat) (kv : Str × Value), more[k]? = some kv → ∃ p, vs[k]? = some p ∧ PairIs s.heap p kv)
    (q : ∀ d h', h'.DictOf (strKind prog w) d (merged [] more) → s.heap.get? d = none → d = s.heap.objs.size → (∀ b o, s.heap.get? b = some o → h'.get? b = some o) → ∀ t', Q (.ref d) { s with heap := h', toks := t' }) :
    wpAny (model prog w) A (call (.type "dict") [.ref l]) Q E s := by
  refine callType_codes (Q₁ := fun obj s₁ => obj = .ref s.heap.objs.size ∧ s₁ = { s with heap := s.heap.push { cls := .type "dict", data := .dict #[] } }) F.kt_called_dict (F.kt_typeCall_dict_1 _) F.entry_dict_init (kt_code_dict_new _ ⟨rfl, rfl⟩) ?_
  intro obj s₁ hi15_2
  refine and2 (hi15_2) fun er17_0 er17_1 => ?_
  clear hi15_2
  subst er17_0
  subst er17_1
  have hnew : (s.heap.push { cls := .type "dict", data := .dict #[] }).DictOf (strKind prog w) s.heap.objs.size [] := Heap.DictOf.new s.heap
  have hdl : ∀ b o, s.heap.get? b = some o → b ≠ s.heap.objs.size := fun b o e z => absurd (Heap.lt_size e) (by rw [z]; exact Nat.lt_irrefl _)
  have hl' : (s.heap.push { cls := .type "dict", data := .dict #[] }).get? l = some (listOf vs.toArray n) := Heap.get?_push_of_some _ hl
  refine ⟨hnew.typeIs, F.args_dict_init_2 _ _, ?_⟩
  unfold Builtin.«dict.__init__»
  refine wpAny_bind ?_
  unfold Builtin.Dict.selfAndRest
  refine wpAny_bind (wpAny_notOrdered_dict hnew.typeIs ?_)
  show wpAny _ _ (pure (s.heap.objs.size, [Value.ref l])) _ _ _
  refine wpAny_pure ?_
  show wpAny _ _ (Builtin.Dict.updateFrom "dict.__init__" s.heap.objs.size (.ref l) [] .none) _ _ _
  unfold Builtin.Dict.updateFrom
  refine wpAny_bind (wpAny_typeOf_ref hl' ?_)
  rw [if_pos (show ((listOf vs.toArray n).cls != Value.type "dict") = true from rfl)]
  refine wpAny_bind (keys_miss (n := n) hl' hh fun h2 t2 k2 => ?_)
  rw [if_pos (by decide)]
  refine wpAny_bind (wpAny_rule ?_)
  have hl2 := k2 _ _ hl'
  refine wpAny_bind (wpAny_pyIter_list (items := vs.toArray) ⟨_, hl2, rfl, n, rfl⟩ ?_)
  refine ex1 (Heap.dictOf_iff.mp hnew) fun od hx18 => ?_
  refine and2 hx18 fun hod hdo => ?_
  clear hx18
  have hd2 := k2 _ _ hod
  have hd3 : (h2.push { cls := .type "list_iterator", data := .fields #[.ref l, .int 0 0] }).DictOf (strKind prog w) s.heap.objs.size [] := Heap.dictOf_iff.mpr ⟨od, Heap.get?_push_of_some _ hd2, hdo⟩
  have kk : ∀ b o, s.heap.get? b = some o → (h2.push { cls := .type "list_iterator", data := .fields #[.ref l, .int 0 0] }).get? b = some o := fun b o e => Heap.get?_push_of_some _ (k2 b o (Heap.get?_push_of_some _ e))
  refine wpAny_pure ⟨plainId_quiet kd_plain_loop _, ?_⟩
  show codeAny (model prog w) A.in1 (.builtin "dict.update.loop" ⟨[.ref s.heap.objs.size, .ref h2.objs.size, .int ((0 : Nat) : Int) 0, .none], []⟩) (wants (fun r s₂ => r = .none ∧ Q (.ref s.heap.objs.size) s₂) E) { s with heap := h2.push { cls := .type "list_iterator", data := .fields #[.ref l, .int 0 0] }, toks := t2 }
  refine dict_loop (A := A.in1) (s := { s with heap := h2.push { cls := .type "list_iterator", data := .fields #[.ref l, .int 0 0] } }) (Q := fun s₂ => Q (.ref s.heap.objs.size) s₂) (l := l) (items := vs.toArray) (more := more) (by rw [List.size_toArray, hlen]) hz (show A.in1.handled = none from hh) (fun h' hd' k' t' => q _ h' hd' ?fr rfl (fun b o e => k' b o (hdl b o e) ?ni (kk b o e)) t') more.length 0 _ _ (by first | decide | omega) ?it ?li ?di ?pp (fun b o _ _ e => e)
  case fr => exact no_size
  case ni =>
    rintro rfl
    have := Heap.lt_size (k2 _ _ (Heap.get?_push_of_some _ e))
    exact absurd this (Nat.lt_irrefl _)
  case it => exact ⟨_, Heap.get?_push_size _ rfl, rfl, rfl⟩
  case li => exact ⟨_, Heap.get?_push_of_some _ hl2, rfl, n, rfl⟩
  case di => rw [List.take_zero]; exact hd3
  case pp =>
    intro k kv e
    refine ex1 (hp k kv e) fun p hx19 => ?_
    refine and2 hx19 fun a b => ?_
    clear hx19
    exact ⟨p, by simpa using a, b.keeps kk⟩
end

end
section
section
variable {prog : Program} {w : World} {A : Around} {E : Value → Shared → Prop} {s : Shared} {c : Fx} {h : Heap} {t : Nat} {mg mb m : Str → Option Value} {B G₀ G : PMap} {L : Addr} {env : Env}
theorem Ok.make {n : Nat} {C : Addr} {vals : List Value} {kw : List (Str × Value)} (o : Ok (n + 1) A) : Ok n (A.under (.builtin "type.__call__" ⟨.ref C :: vals, kw⟩)) :=
  ⟨o.hh, by have := o.depth; show A.depth + 1 + n < 900; omega, by have := o.units; show A.units + 1 + _ < 9000; omega⟩
theorem Bs.but {a : Addr} (Z : Bs (KK w) VV LL mg mb B) (S : St B G₀ L m G h) (ha : B a = none) : Bs (KK w) VV LL mg mb (mask (fun b => b = a) h.get?) :=
  Z.mono fun b o e => by
    rw [mask_out fun z => by have z : b = a := z; rw [z, ha] at e; cases e]
    exact S.keep b o e
theorem mkInst {C fI : Addr} {args : List Value} {Q : Value → Shared → Prop} (S : St B G₀ L m G h) (Z : Bs (KK w) VV LL mg mb B) (hm : makesIn (KK w) C = true) (hi : findIn (KK w) (.ref C) "__init__" = some (some (.ref fI))) (hf : typeIn (KK w) (.ref fI) = some (.type "function"))
    (q : ∀ x dx h', St B G₀ L m (put (put G dx (dictOf [] 0)) x (instObj C dx)) h' → h.get? dx = none → G dx = none → put G dx (dictOf [] 0) x = none → B dx = none →
      codeAny (model prog w) (A.under (.builtin "type.__call__" ⟨.ref C :: args, []⟩)) (.call (.ref fI) ⟨.ref x :: args, []⟩) (InitBack x fun r s' => match r with | .ok (.ret v) => Q v s' | .ok _ => False | .error e => E e s') (c.at h' t)) :
    wpAny (model prog w) A (call (.ref C) args) Q E (c.at h t) := by
  have X := Z.k S.keep
  refine wpAny_call (make_core (makes_of X hm) (looks_findIn X hi) (fun self => bind_fn X self hf) (.inl rfl) ?_)
  have S1 := S.push (fun _ _ e => e) emptyDict
  have S2 := S1.push (fun _ _ e => e) (instObj C h.objs.size)
  have e2 : (h.push emptyDict).objs.size = h.objs.size + 1 := Heap.size_push ..
  have := q (h.objs.size + 1) h.objs.size _ (by rw [← e2]; exact S2) no_size S.size (by rw [← e2]; exact S1.size) S.sizeB
  exact this
theorem enterI (W : Addr → Prop) {name qual : Str} {params : Arguments} {body : List Stmt} {scope : Scope} {dV kV doc pm cdv ct oc : Value} {an od : Option Addr} {osl : Array (Option Value)} {f x : Addr} {args : List Value} (binds : List (Str × Value)) {R : Result → Shared → Prop}
    (hr : A.depth < recursionLimit) (Z : Bs (KK w) VV LL mg mb (mask W h.get?)) (hG : ∀ a o, G a = some o → h.get? a = some o)
    (ho : (KK w).lookup f = some ⟨oc, od, .func (fnX name qual params body scope [] dV kV doc pm an cdv ct), osl⟩) (hcd : codeIn (KK w) cdv qual = true)
    (hbind : BindsTo (c.at h t) (fnX name qual params body scope [] dV kV doc pm an cdv ct) ⟨args, []⟩ binds) (hloc : (binds.all fun x => decide (scope.names.lookup x.1 = some .local)) = true)
    (hcell : (scope.names.all fun x => decide (x.2 ≠ .cell)) = true) (hm : (fun y => binds.reverse.lookup y) = m)
    (q : ∀ L h₁ t₁, St (mask (fun a => W a ∨ a = L) h₁.get?) (mask W G) L m G h₁ → Bs (KK w) VV LL mg mb (mask (fun a => W a ∨ a = L) h₁.get?) → G L = none → h.get? L = none → (∀ b o, h.get? b = some o → h₁.get? b = some o) →
      wpAny (model prog w) (A.deeper (envX qual scope L f cdv [])) (execs body (envX qual scope L f cdv [])) (fun fl s' => retOf fl = .none ∧ R (.ok (.ret (.ref x))) s') (fun _ _ => False) (c.at h₁ t₁))
    (hco : scope.isCoroutine = false) (hgen : scope.isGenerator = false) (hk : scope.kind = .function) :
    codeAny (model prog w) A (.call (.ref f) ⟨args, []⟩) (InitBack x R) (c.at h t) := by
  subst hm
  have k0 : ∀ b o, mask W h.get? b = some o → h.get? b = some o := fun b o e => (of_mask e).2
  refine codeAny_call_function hr (Z.k k0 _ _ ho) rfl hco hgen rfl (codeRec_of (Z.k k0) hcd) (hbind _ _ _ _ ?_)
  refine wpAny_newFunctionEnv (noCells hcell) (allLocal hloc) (fun h₁ hns hsb => ⟨(Z.t k0).nolimit.fresh _ hsb, ?_⟩) hk
  have up : ∀ b o, h.get? b = some o → h₁.get? b = some o := fun b o e => hsb.extBut b o (Nat.ne_of_lt (Heap.lt_size e)) (Heap.get?_push_of_some _ e)
  have gL : G h.objs.size = none := by
    cases e : G h.objs.size with
    | none => rfl
    | some o => exact absurd (Heap.lt_size (hG _ _ e)) (Nat.lt_irrefl _)
  have S0 : St (fun _ => none) (fun _ => none) h.objs.size (fun x => binds.reverse.lookup x) G h₁ :=
    ⟨hns, (fun _ _ e => by (first | with_reducible exact no_some e | with_reducible exact some_no e | with_reducible exact no_bool e | with_reducible exact no_bool' e | cases e)), rfl, (fun _ _ e => by (first | with_reducible exact no_some e | with_reducible exact some_no e | with_reducible exact no_bool e | with_reducible exact no_bool' e | cases e)), (fun _ _ e => by (first | with_reducible exact no_some e | with_reducible exact some_no e | with_reducible exact no_bool e | with_reducible exact no_bool' e | cases e)), fun a o e => ⟨up _ _ (hG a o e), Nat.ne_of_lt (Heap.lt_size (hG a o e)), .inr rfl⟩⟩
  refine codeAny_func (wpAny_mono (q h.objs.size h₁ _ (S0.again W) (Z.mono fun b o e => ?_) gL no_size up) (fun fl s' q => ?_) fun _ _ x => x.elim)
  · refine and2 (of_mask e) fun n e => ?_
    rw [mask_out fun z => z.elim n fun q => by rw [q, no_size] at e; cases e]
    exact up b o e
  · cases fl <;> exact q
end
theorem endI {B G₀ G Gx G' : PMap} {L L₂ dx : Addr} {m m' : Str → Option Value} {h₁ h₂ h' : Heap} {ox : Obj} (Sc : St B G₀ L m Gx h₁) (S' : St (mask (fun a => a = dx ∨ a = L₂) h₂.get?) (mask (fun a => a = dx) Gx) L₂ m' G' h') (up : ∀ b o, h₁.get? b = some o → h₂.get? b = some o)
    (sL : h₁.get? L₂ = none) (gL : Gx L₂ = none) (hdx : B dx = none) (hx : Gx dx = some ox) (hG : ∀ b o, b ≠ dx → G b = some o → Gx b = some o) (hg : G dx = none) : St B G₀ L m G' h' ∧ ∀ b o, G b = some o → G' b = some o := by
  have g : Grow (fun a => a = dx) Gx h₁ G' h' := exit0 S' up sL (fun a o e => Sc.get e) (fun a e => by have e : a = dx := e; rw [e, hx]; exact Option.some_ne_none _) gL
  refine ⟨Sc.grow g (fun a e => by have e : a = dx := e; rw [e]; exact hdx) (fun e => (Sc.sub _ _ hx).2.1 (Eq.symm e)), fun b o e => ?_⟩
  have nb : b ≠ dx := fun z => by rw [z, hg] at e; (first | with_reducible exact no_some e | with_reducible exact some_no e | with_reducible exact no_bool e | with_reducible exact no_bool' e | cases e)
  exact g.mono b o nb (hG b o nb e)
theorem twoG {G : PMap} {a dx : Addr} {o o' : Obj} (hg : G dx = none) (hx : put G dx o a = none) : a ≠ dx ∧ (put (put G dx o) a o') dx = some o ∧ ∀ b ob, b ≠ dx → G b = some ob → put (put G dx o) a o' b = some ob := by
  have ne : a ≠ dx := fun z => by rw [z, put_self] at hx; (first | with_reducible exact no_some hx | with_reducible exact some_no hx | with_reducible exact no_bool hx | with_reducible exact no_bool' hx | cases hx)
  refine ⟨ne, by rw [put_ne (Ne.symm ne), put_self], fun b ob nb e => ?_⟩
  exact put_old hx b ob (put_old hg b ob e)
section
variable {prog : Program} {w : World} {A : Around} {E : Value → Shared → Prop} {c : Fx} {h : Heap} {t : Nat} {mg mb m : Str → Option Value} {B G₀ G : PMap} {L : Addr}
theorem make_Name {x : Str} {u : Tok} {Q : Value → Shared → Prop} (o : Ok 2 A) (S : St B G₀ L m G h) (Z : Bs (KK w) VV LL mg mb B)
    (q : ∀ a G' h' t', St B G₀ L m G' h' → (∀ b o, G b = some o → G' b = some o) → OIn prog w G' [] (.ref a) (.name x) → Q (.ref a) (c.at h' t')) : wpAny (model prog w) A (call (.ref 171) [.str x u]) Q E (c.at h t) := by
  refine mkInst (fI := 168) S Z (by kernel_rfl) (by kernel_rfl) (by kernel_rfl) fun a dx h₁ S hd hg hx hdx => ?_
  have o := o.make (C := 171) (vals := [.str x u]) (kw := [])
  have Sc := S
  refine and3 (twoG (o' := instObj 171 dx) hg hx) fun ne gdx gold => ?_
  refine' enterI (W := fun a => a = dx) [((Str.ofString "self"), .ref a), ((Str.ofString "text"), .str x u)] o.room (Z.but S hdx) (fun a o e => S.get e) ?ho ?hcd ?hb ?hl ?hc ?hm ?_ ?c1 ?c2 ?c3
  case ho => exact rfl
  case hcd => kernel_rfl
  case hb => first | exact BindsTo.of_eq rfl | exact kp_binds (Z.k S.keep) fun _ => rfl
  case hl => kernel_rfl
  case hc => kernel_rfl
  case hm => exact binds2
  case c1 => exact rfl
  case c2 => exact rfl
  case c3 => exact rfl
  intro L₂ h₂ t₂ S Z gL sL up
  repeat cell_call
  refine sa S Z put_self gdx P171_text (mask_in (.inl rfl)) (by kernel_rfl) (by decide) fun u₁ h₃ t₃ S => ?_
  repeat cell_call
  refine and2 (endI Sc S up sL gL hdx gdx gold hg) fun SS old => ?_
  exact ⟨rfl, q _ _ _ _ SS old (.name (t := u) ⟨⟨dx, _, by rw [put_ne ne, put_self], put_self⟩, by kernel_rfl⟩ (by kernel_rfl))⟩
theorem make_String {x : Array UInt8} {b : Bool} {u : Tok} {Q : Value → Shared → Prop} (o : Ok 2 A) (S : St B G₀ L m G h) (Z : Bs (KK w) VV LL mg mb B)
    (q : ∀ a G' h' t', St B G₀ L m G' h' → (∀ b o, G b = some o → G' b = some o) → OIn prog w G' [] (.ref a) (.string x b) → Q (.ref a) (c.at h' t')) : wpAny (model prog w) A (call (.ref 193) [.bytes x u, .bool b]) Q E (c.at h t) := by
  refine mkInst (fI := 190) S Z (by kernel_rfl) (by kernel_rfl) (by kernel_rfl) fun a dx h₁ S hd hg hx hdx => ?_
  have o := o.make (C := 193) (vals := [.bytes x u, .bool b]) (kw := [])
  have Sc := S
  refine and3 (twoG (o' := instObj 193 dx) hg hx) fun ne gdx gold => ?_
  refine' enterI (W := fun a => a = dx) [((Str.ofString "self"), .ref a), ((Str.ofString "octets"), .bytes x u), ((Str.ofString "is_hex"), .bool b)] o.room (Z.but S hdx) (fun a o e => S.get e) ?ho ?hcd ?hb ?hl ?hc ?hm ?_ ?c1 ?c2 ?c3
  case ho => exact rfl
  case hcd => kernel_rfl
  case hb => first | exact BindsTo.of_eq rfl | exact kp_binds (Z.k S.keep) fun _ => rfl
  case hl => kernel_rfl
  case hc => kernel_rfl
  case hm => exact binds3
  case c1 => exact rfl
  case c2 => exact rfl
  case c3 => exact rfl
  intro L₂ h₂ t₂ S Z gL sL up
  repeat cell_call
  refine sa S Z put_self gdx P193_octets (mask_in (.inl rfl)) (by kernel_rfl) (by decide) fun u₁ h₃ t₃ S => ?_
  repeat cell_call
  refine sa S Z (by rw [put_ne ne, put_self]) put_self P193_is_hex (mask_in (.inl rfl)) (by kernel_rfl) (Nat.le_of_ble_eq_true (by kernel_rfl)) fun u₁ h₃ t₃ S => ?_
  repeat cell_call
  refine and2 (endI Sc S up sL gL hdx gdx gold hg) fun SS old => ?_
  exact ⟨rfl, q _ _ _ _ SS old (.string (t := u) ⟨⟨dx, _, by rw [put_ne ne, put_ne ne, put_self], put_self⟩, by kernel_rfl⟩ (by kernel_rfl))⟩
theorem make_Reference {x y : Int} {u v : Tok} {Q : Value → Shared → Prop} (o : Ok 2 A) (S : St B G₀ L m G h) (Z : Bs (KK w) VV LL mg mb B)
    (q : ∀ a G' h' t', St B G₀ L m G' h' → (∀ b o, G b = some o → G' b = some o) → OIn prog w G' [] (.ref a) (.ref x y) → Q (.ref a) (c.at h' t')) : wpAny (model prog w) A (call (.ref 242) [.int x u, .int y v]) Q E (c.at h t) := by
  refine mkInst (fI := 232) S Z (by kernel_rfl) (by kernel_rfl) (by kernel_rfl) fun a dx h₁ S hd hg hx hdx => ?_
  have o := o.make (C := 242) (vals := [.int x u, .int y v]) (kw := [])
  have Sc := S
  refine and3 (twoG (o' := instObj 242 dx) hg hx) fun ne gdx gold => ?_
  refine' enterI (W := fun a => a = dx) [((Str.ofString "self"), .ref a), ((Str.ofString "number"), .int x u), ((Str.ofString "generation"), .int y v)] o.room (Z.but S hdx) (fun a o e => S.get e) ?ho ?hcd ?hb ?hl ?hc ?hm ?_ ?c1 ?c2 ?c3
  case ho => exact rfl
  case hcd => kernel_rfl
  case hb => first | exact BindsTo.of_eq rfl | exact kp_binds (Z.k S.keep) fun _ => rfl
  case hl => kernel_rfl
  case hc => kernel_rfl
  case hm => exact binds3
  case c1 => exact rfl
  case c2 => exact rfl
  case c3 => exact rfl
  intro L₂ h₂ t₂ S Z gL sL up
  repeat cell_call
  refine sa S Z put_self gdx P242_number (mask_in (.inl rfl)) (by kernel_rfl) (by decide) fun u₁ h₃ t₃ S => ?_
  repeat cell_call
  refine sa S Z (by rw [put_ne ne, put_self]) put_self P242_generation (mask_in (.inl rfl)) (by kernel_rfl) (Nat.le_of_ble_eq_true (by kernel_rfl)) fun u₁ h₃ t₃ S => ?_
  repeat cell_call
  refine and2 (endI Sc S up sL gL hdx gdx gold hg) fun SS old => ?_
  exact ⟨rfl, q _ _ _ _ SS old (.ref (t1 := u) (t2 := v) ⟨⟨dx, _, by rw [put_ne ne, put_ne ne, put_self], put_self⟩, by kernel_rfl⟩ (by kernel_rfl) (by kernel_rfl) (by kernel_rfl))⟩
theorem make_Stream {x : Array UInt8} {hv : Value} {f : List Addr} {ds : List (Str × Ob)} {u : Tok} {Q : Value → Shared → Prop} (o : Ok 2 A) (S : St B G₀ L m G h) (Z : Bs (KK w) VV LL mg mb B) (hin : OIn prog w G f hv (.dict ds))
    (q : ∀ a dx G' h' t', St B G₀ L m G' h' → (∀ b o, G b = some o → G' b = some o) → h.get? dx = none → OIn prog w G' (dx :: f) (.ref a) (.stream ds x) → Q (.ref a) (c.at h' t')) : wpAny (model prog w) A (call (.ref 214) [hv, .bytes x u]) Q E (c.at h t) := by
  refine mkInst (fI := 211) S Z (by kernel_rfl) (by kernel_rfl) (by kernel_rfl) fun a dx h₁ S hd hg hx hdx => ?_
  have o := o.make (C := 214) (vals := [hv, .bytes x u]) (kw := [])
  have Sc := S
  refine and3 (twoG (o' := instObj 214 dx) hg hx) fun ne gdx gold => ?_
  refine' enterI (W := fun a => a = dx) [((Str.ofString "self"), .ref a), ((Str.ofString "head"), hv), ((Str.ofString "octets"), .bytes x u)] o.room (Z.but S hdx) (fun a o e => S.get e) ?ho ?hcd ?hb ?hl ?hc ?hm ?_ ?c1 ?c2 ?c3
  case ho => exact rfl
  case hcd => kernel_rfl
  case hb => first | exact BindsTo.of_eq rfl | exact kp_binds (Z.k S.keep) fun _ => rfl
  case hl => kernel_rfl
  case hc => kernel_rfl
  case hm => exact binds3
  case c1 => exact rfl
  case c2 => exact rfl
  case c3 => exact rfl
  intro L₂ h₂ t₂ S Z gL sL up
  repeat cell_call
  refine sa S Z put_self gdx P214_head (mask_in (.inl rfl)) (by kernel_rfl) (by decide) fun u₁ h₃ t₃ S => ?_
  repeat cell_call
  refine sa S Z (by rw [put_ne ne, put_self]) put_self P214_octets (mask_in (.inl rfl)) (by kernel_rfl) (Nat.le_of_ble_eq_true (by kernel_rfl)) fun u₁ h₃ t₃ S => ?_
  repeat cell_call
  refine and2 (endI Sc S up sL gL hdx gdx gold hg) fun SS old => ?_
  exact ⟨rfl, q _ dx _ _ _ SS old hd (.stream (t := u) (by rw [put_ne ne, put_ne ne, put_self]) put_self (by kernel_rfl) (by kernel_rfl) (hin.mono old) (Nat.le_of_ble_eq_true (by kernel_rfl)))⟩
end

end
section
noncomputable def Fresh (h : Heap) (f : List Addr) : Prop := f.Nodup ∧ ∀ a ∈ f, h.get? a = none
section
variable {h h' : Heap} {f f' : List Addr} {a : Addr}
theorem Fresh.nil : Fresh h [] := ⟨List.nodup_nil, fun a z => by (first | with_reducible exact no_some z | with_reducible exact some_no z | with_reducible exact no_bool z | with_reducible exact no_bool' z | cases z)⟩
theorem Fresh.cons (F : Fresh h f) (ha : h.get? a = none) (na : a ∉ f) : Fresh h (a :: f) :=
  ⟨List.nodup_cons.mpr ⟨na, F.1⟩, fun b hb => (List.mem_cons.mp hb).elim (fun e => e ▸ ha) (F.2 b)⟩
theorem Fresh.back (F : Fresh h' f) (k : ∀ b o, h.get? b = some o → h'.get? b = some o) : Fresh h f :=
  ⟨F.1, fun b hb => by
    cases e : h.get? b with
    | none => rfl
    | some o => have := F.2 b hb; rw [k b o e] at this; (first | with_reducible exact no_some this | with_reducible exact some_no this | with_reducible exact no_bool this | with_reducible exact no_bool' this | cases this)⟩
theorem Fresh.app (F : Fresh h f) (F' : Fresh h' f') (k : ∀ b o, h.get? b = some o → h'.get? b = some o) (dom : ∀ a ∈ f, ∃ o, h'.get? a = some o) : Fresh h (f ++ f') := by
  refine ⟨List.nodup_append.mpr ⟨F.1, F'.1, fun a ha b hb e => ?_⟩, fun b hb => (List.mem_append.mp hb).elim (F.2 b) ((F'.back k).2 b)⟩
  refine ex1 (dom a ha) fun o z => ?_
  have := F'.2 b hb
  rw [← e, z] at this; (first | with_reducible exact no_some this | with_reducible exact some_no this | with_reducible exact no_bool this | with_reducible exact no_bool' this | cases this)
theorem old_in {h₁ : Heap} {G₀ G : PMap} {L : Addr} {m : Str → Option Value} (S : St (mask (fun a => No a ∨ a = L) h₁.get?) G₀ L m G h') (up : ∀ b o, h.get? b = some o → h₁.get? b = some o) (sL : h.get? L = none) : ∀ b o, h.get? b = some o → h'.get? b = some o :=
  fun b o e => S.keep b o (by rw [mask_out fun z => z.elim (fun z => z) fun q => by rw [q, sL] at e; cases e]; exact up b o e)
end
theorem keyed_at : ∀ {ds : List (Str × Ob)}, (ds.map (·.1)).Nodup → ∀ {i : Nat} {k : Str} {d : Ob}, ds[i]? = some (k, d) → keyed ds k = some d
  | [], _, i, k, d, h => by simp at h
  | (k', d') :: ds, hn, 0, k, d, h => by
    simp only [List.getElem?_cons_zero, Option.some.injEq, Prod.mk.injEq] at h
    refine and2 (h) fun er2_0 er2_1 => ?_
    try clear h
    subst er2_0
    subst er2_1
    simp [keyed]
  | (k', d') :: ds, hn, i + 1, k, d, h => by
    have h : ds[i]? = some (k, d) := by simpa using h
    rw [List.map_cons, List.nodup_cons] at hn
    have ne : k' ≠ k := fun e => hn.1 (by rw [show (k', d').1 = k from e]; exact List.mem_map.mpr ⟨_, List.mem_of_getElem? h, rfl⟩)
    have := keyed_at hn.2 h
    simpa [keyed, ne] using this
noncomputable def PairsAt (G : PMap) (vs : List Value) (more : List (Str × Value)) : Prop :=
  vs.length = more.length ∧ ∀ (k : Nat) (kv : Str × Value), more[k]? = some kv → ∃ p, vs[k]? = some p ∧ ∃ a u n, p = .ref a ∧ G a = some (tupOf [.str kv.1 u, kv.2] n)
section
variable {prog : Program} {w : World} {A : Around} {E : Value → Shared → Prop} {c : Fx} {h : Heap} {t : Nat} {mg mb m : Str → Option Value} {B G₀ G G' : PMap} {L : Addr} {env : Env}
theorem PairsAt.nil : PairsAt G [] [] := ⟨rfl, fun k kv e => by simp at e⟩
theorem PairsAt.mono {vs : List Value} {more : List (Str × Value)} (H : PairsAt G vs more) (hG : ∀ a o, G a = some o → G' a = some o) : PairsAt G' vs more :=
  ⟨H.1, fun k kv e => by
    obtain ⟨p, a, b, u, n, x, y⟩ := H.2 k kv e
    exact ⟨p, a, b, u, n, x, hG _ _ y⟩⟩
theorem PairsAt.snoc {vs : List Value} {more : List (Str × Value)} {a : Addr} {k : Str} {v : Value} {u : Tok} {n : Nat} (H : PairsAt G vs more) (ha : G a = some (tupOf [.str k u, v] n)) : PairsAt G (vs ++ [.ref a]) (more ++ [(k, v)]) := by
  refine ⟨by rw [List.length_append, List.length_append, H.1]; rfl, fun i kv e => ?_⟩
  by_cases hi : i < more.length
  · rw [List.getElem?_append_left hi] at e
    refine ex1 (H.2 i kv e) fun p hx4 => ?_
    refine and2 hx4 fun x y => ?_
    clear hx4
    exact ⟨p, by rw [List.getElem?_append_left (by rw [H.1]; exact hi)]; exact x, y⟩
  · rw [List.getElem?_append_right (Nat.not_lt.mp hi)] at e
    have hz : i - more.length = 0 := by
      have := (List.getElem?_eq_some_iff.mp e).1
      simp at this; omega
    rw [hz] at e
    simp only [List.getElem?_cons_zero, Option.some.injEq] at e
    subst e
    exact ⟨.ref a, by rw [List.getElem?_append_right (by rw [H.1]; exact Nat.not_lt.mp hi), H.1, hz]; rfl, a, u, n, rfl, ha⟩
theorem dictOfPairs {l : Addr} {vs : List Value} {n : Nat} {more : List (Str × Value)} {Q : Value → Shared → Prop} (S : St B G₀ L m G h) (Z : Bs (KK w) VV LL mg mb B) (hl : G l = some (listOf vs.toArray n)) (hp : PairsAt G vs more) (hn : (more.map (·.1)).Nodup) (hz : more.length ≤ 1000) (hh : A.handled = none)
    (q : ∀ d o h' t', St B G₀ L m (put G d o) h' → G d = none → h.get? d = none → (d == sysModules) = false → o.IsDictOf (PySem.strKind prog w) more → Q (.ref d) (c.at h' t')) : wpAny (model prog w) A (call (.type "dict") [.ref l]) Q E (c.at h t) := by
  refine dict_pairs (s := c.at h t) (S.get hl) hp.1 hz hh (fun k kv e => ?_) fun d h' hd d0 dz k t' => ?_
  · obtain ⟨p, a, b, u, n, x, y⟩ := hp.2 k kv e
    exact ⟨p, a, b, u, n, x, S.get y⟩
  · rw [merged_nil_of_nodup more hn] at hd
    refine ex1 (Heap.dictOf_iff.mp hd) fun o hx6 => ?_
    refine and2 hx6 fun ho hdo => ?_
    clear hx6
    have fin := S.alloc k d0 ho
    have hs : (d == sysModules) = false := by rw [dz]; exact S.high Z
    exact q d o h' t' fin.1 fin.2 d0 hs hdo
end
noncomputable def CopyAt (prog : Program) (w : World) (mg mb : Str → Option Value) (r : Nat) (d : Ob) : Prop :=
  ∀ (A : Around) (E : Value → Shared → Prop) (c : Fx) (h : Heap) (t : Nat) (G : PMap) (f : List Addr) (v : Value) (Q : Value → Shared → Prop), Ok r A → Bs (KK w) VV LL mg mb h.get? → (∀ a o, G a = some o → h.get? a = some o) → OIn prog w G f v d →
    (∀ r' G' f' h' t', Grow No G h G' h' → OIn prog w G' f' r' d → Fresh h f' → Q r' (c.at h' t')) → wpAny (model prog w) A (call (.ref 284) [v]) Q E (c.at h t)
section
variable {prog : Program} {w : World} {mg mb : Str → Option Value}
theorem OIn.plain {G : PMap} {f : List Addr} {v : Value} {d : Ob} (hv : OIn prog w G f v d) (hd : d.isPlain = true) : f = [] := by cases hv <;> first | rfl | (first | with_reducible exact no_some hd | with_reducible exact some_no hd | with_reducible exact no_bool hd | with_reducible exact no_bool' hd | cases hd)
theorem copy_plain (d : Ob) (hd : d.isPlain = true) : CopyAt prog w mg mb 3 d := by
  intro A E c h t G f v Q o Z hG hv k
  refine' enterCl (m := none_) (cm := upd none_ (Str.ofString "value") v) No [((Str.ofString "value"), v)] o.room Z.no hG ?hw ?ho ?hcd ?hb ?hl ?hc ?hm ?hcm ?_ ?c1 ?c2 ?c3
  case ho => exact rfl
  case hw => exact no_ne
  case hcd => kernel_rfl
  case hb => exact BindsTo.of_eq rfl
  case hl => kernel_rfl
  case hc => decide +kernel
  case hm => intro L; kernel_rfl
  case hcm => intro L; kernel_rfl
  case c1 => exact rfl
  case c2 => exact rfl
  case c3 => exact rfl
  intro L h₁ t₁ G₁ g1 g2 ce S Z gL sL up
  rw [mask_no] at S
  have cv := cellIn ce (Str.ofString "value") (a := L + 1) (by kernel_rfl) upd_here
  have hv := hv.mono g1
  repeat cell_call
  refine kind_spec (o.deeper.less (by first | decide | omega)) (Z.at_ S) (fun _ _ e => S.get e) hv (fun u h t g => ?_)
  have S := S.grow0 g
  have e1 : (d.word == (Str.ofString "array")) = false := by cases d <;> first | rfl | (first | with_reducible exact no_some hd | with_reducible exact some_no hd | with_reducible exact no_bool hd | with_reducible exact no_bool' hd | cases hd)
  have e2 : (d.word == (Str.ofString "dict")) = false := by cases d <;> first | rfl | (first | with_reducible exact no_some hd | with_reducible exact some_no hd | with_reducible exact no_bool hd | with_reducible exact no_bool' hd | cases hd)
  have e3 : (d.word == (Str.ofString "stream")) = false := by cases d <;> first | rfl | (first | with_reducible exact no_some hd | with_reducible exact some_no hd | with_reducible exact no_bool hd | with_reducible exact no_bool' hd | cases hd)
  repeat cell_call
  refine iteF e1 ?_
  repeat cell_call
  refine iteF e2 ?_
  repeat cell_call
  refine iteF e3 ?_
  repeat cell_call
  rename St _ _ _ _ _ _ => S3
  have := hv.plain hd
  refine k _ _ f _ _ (outC S3 up sL hG g1 g2 gL) (oinUp S3 hv) (by rw [this]; exact .nil)
end
section
variable {prog : Program} {w : World} {mg mb : Str → Option Value}
theorem copy_array (n : Nat) (ih : ∀ d, d.ok n = true → CopyAt prog w mg mb (2 * n + 3) d) (ds : List Ob) (hok : (Ob.array ds).ok (n + 1) = true) : CopyAt prog w mg mb (2 * n + 4) (.array ds) := by
  intro A E c h0 t G f v Q o Z hG hv k
  refine' enterCl (m := none_) (cm := upd none_ (Str.ofString "value") v) No [((Str.ofString "value"), v)] o.room Z.no hG ?hw ?ho ?hcd ?hb ?hl ?hc ?hm ?hcm ?_ ?c1 ?c2 ?c3
  case ho => exact rfl
  case hw => exact no_ne
  case hcd => kernel_rfl
  case hb => exact BindsTo.of_eq rfl
  case hl => kernel_rfl
  case hc => decide +kernel
  case hm => intro L; kernel_rfl
  case hcm => intro L; kernel_rfl
  case c1 => exact rfl
  case c2 => exact rfl
  case c3 => exact rfl
  intro L h₁ t₁ G₁ g1 g2 ce S Z gL sL up
  rw [mask_no] at S
  have cv := cellIn ce (Str.ofString "value") (a := L + 1) (by kernel_rfl) upd_here
  have hv := hv.mono g1
  have hv' := hv
  cases hv using OIn.arrayE with
  | k va vs vn fs hd1 he =>
  repeat cell_call
  refine kind_spec (o.deeper.less (by first | decide | omega)) (Z.at_ S) (fun _ _ e => S.get e) hv' (fun u h t g => ?_)
  have S := S.grow0 g
  repeat cell_call
  rename St _ _ _ _ _ _ => S2
  refine eval_comp (cl := []) (by kernel_rfl) ?_
  repeat cell_call
  have od := ok_array hok
  have hlen := he.length
  have k0 := old_in S2 up sL
  refine comp_at (W := No) (P := fun i v => vs.toArray[i]? = some v) (n := vs.toArray.size) (fun i ys U => ∃ fs, OAll prog w U fs ys (ds.take i) ∧ Fresh h0 fs) S2 Z (Src.list o.deeper.hh ⟨_, S2.get (atUp S2 hd1), rfl, _, rfl⟩ (fun z => z)) no_B (fun _ _ _ _ => no_ne) ?sz ⟨[], .nil, .nil⟩ ?turn ?done
  case sz => rw [List.size_toArray, hlen]; exact Nat.le_trans od.1 (by decide)
  case turn =>
    intro i v ys U h' t C m₂ hi hv g S Z hm hi6_14 hl
    obtain ⟨fs, inv, fr⟩ := hi6_14
    rw [mask_no] at S
    have upU : ∀ a o, G₁ a = some o → U a = some o := fun a o e => g.up a o (S2.mono a o e)
    refine ex2 (he.get (i := i) (v := v) (by simpa using hv)) fun f' d hx9 => ?_
    refine and3 hx9 fun hd hin _ => ?_
    clear hx9
    have hok' := od.2 d (List.mem_of_getElem? hd)
    have hin := hin.mono upU
    repeat cell_call
    refine ih d hok' _ _ _ _ _ _ _ _ _ (o.deeper.less (by first | decide | omega)) (Z.at_ S) (fun _ _ e => S.get e) hin (fun r G' f2 h2 t g2 rr fr2 => ?_)
    have S' := S.grow0 g2
    refine ⟨_, _, _, _, rfl, by rw [mask_no]; exact S', fs ++ f2, ?_, fr.app fr2 (fun b o e => g.keep b o (fun z => z) (k0 b o e)) fun a ha => ?_⟩
    · rw [take_next hd]
      exact (inv.mono fun a o e => g2.up a o e).snoc rr
    · refine ex1 (inv.dom a ha) fun o e => ?_
      exact ⟨o, S.get e⟩
  case done =>
    intro D2 ys U h' t S uD bD hD g g' hi10_11 hl
    obtain ⟨fs, inv, fr⟩ := hi10_11
    rw [List.size_toArray, hlen, List.take_length] at inv
    have frD : h0.get? D2 = none := by
      cases e : h0.get? D2 with
      | none => rfl
      | some o => have := k0 _ _ e; rw [hD] at this; (first | with_reducible exact no_some this | with_reducible exact some_no this | with_reducible exact no_bool this | with_reducible exact no_bool' this | cases this)
    refine k _ _ (D2 :: fs) _ _ (outC S up sL hG g1 g2 gL) (.array put_self (inv.mono (put_old uD))) (fr.cons frD fun z => ?_)
    refine ex1 (inv.dom _ z) fun o e => ?_
    rw [uD] at e; (first | with_reducible exact no_some e | with_reducible exact some_no e | with_reducible exact no_bool e | with_reducible exact no_bool' e | cases e)
theorem copy_dict (n : Nat) (ih : ∀ d, d.ok n = true → CopyAt prog w mg mb (2 * n + 3) d) (ds : List (Str × Ob)) (hok : (Ob.dict ds).ok (n + 1) = true) : CopyAt prog w mg mb (2 * n + 4) (.dict ds) := by
  intro A E c h0 t G f v Q o Z hG hv k
  refine' enterCl (m := none_) (cm := upd none_ (Str.ofString "value") v) No [((Str.ofString "value"), v)] o.room Z.no hG ?hw ?ho ?hcd ?hb ?hl ?hc ?hm ?hcm ?_ ?c1 ?c2 ?c3
  case ho => exact rfl
  case hw => exact no_ne
  case hcd => kernel_rfl
  case hb => exact BindsTo.of_eq rfl
  case hl => kernel_rfl
  case hc => decide +kernel
  case hm => intro L; kernel_rfl
  case hcm => intro L; kernel_rfl
  case c1 => exact rfl
  case c2 => exact rfl
  case c3 => exact rfl
  intro L h₁ t₁ G₁ g1 g2 ce S Z gL sL up
  rw [mask_no] at S
  have cv := cellIn ce (Str.ofString "value") (a := L + 1) (by kernel_rfl) upd_here
  have hv := hv.mono g1
  have hv' := hv
  cases hv using OIn.dictE with
  | k va ob kvs fs hd1 hd2 hd3 he =>
  repeat cell_call
  refine kind_spec (o.deeper.less (by first | decide | omega)) (Z.at_ S) (fun _ _ e => S.get e) hv' (fun u h t g => ?_)
  have S := S.grow0 g
  repeat cell_call
  rename St _ _ _ _ _ _ => S2
  refine eval_comp (cl := [((Str.ofString "value"), L + 1)]) (by kernel_rfl) ?_
  repeat cell_call
  have od := ok_dict hok
  have hlen := he.length
  have kk := he.keys
  have k0 := old_in S2 up sL
  refine ex1 ((Heap.dictOf_iff.mpr ⟨ob, S2.get (atUp S2 hd1), hd2⟩ : Heap.DictOf (PySem.strKind prog w) _ va kvs).dictAt) fun ep hat => ?_
  refine comp_at (W := No) (P := fun i v => ∃ k x, kvs[i]? = some (k, x) ∧ (PySem.strKind prog w).is k v = true) (n := kvs.length) (fun i ys U => ∃ fs more, OEnt prog w U fs more (ds.take i) ∧ PairsAt U ys more ∧ Fresh h0 fs) S2 Z (Src.dict o.deeper.hh hd3 hat (fun z => z)) no_B (fun _ _ _ _ => no_ne) ?sz ⟨[], [], .nil, .nil, .nil⟩ ?turn ?done
  case sz => rw [hlen]; exact Nat.le_trans od.1 (by decide)
  case turn =>
    intro i v ys U h' t C m₂ hi hi14_9 g S Z hm hi14_14 hl
    obtain ⟨k, x, hkx, hk⟩ := hi14_9
    obtain ⟨fs, more, inv, hp, fr⟩ := hi14_14
    rw [mask_no] at S
    have upU : ∀ a o, G₁ a = some o → U a = some o := fun a o e => g.up a o (S2.mono a o e)
    have cvU := cv.mono upU
    have hdU := upU _ _ hd1
    refine ex1 (Value.isStrOf_shape hk) fun u er18_1 => ?_
    subst er18_1
    refine ex2 (he.get hkx) fun _ d hx19 => ?_
    refine and3 hx19 fun hd _ _ => ?_
    clear hx19
    have hkd := keyed_at od.2.1 hd
    have hok' := (od.2.2 k d (keyed_mem hkd)).2
    refine ex2 (he.value hkd) fun f' vv hx20 => ?_
    refine and3 hx20 fun hval hin _ => ?_
    clear hx20
    have hin := hin.mono upU
    repeat cell_call
    refine ih d hok' _ _ _ _ _ _ _ _ _ (o.deeper.less (by first | decide | omega)) (Z.at_ S) (fun _ _ e => S.get e) hin (fun r G' f2 h2 t g2 rr fr2 => ?_)
    have S' := S.grow0 g2
    repeat cell_call
    rename_i a4 h4 S4 ga4
    refine ⟨_, _, _, _, rfl, by rw [mask_no]; exact S4, fs ++ f2, more ++ [(k, r)], ?_, ?_, fr.app fr2 (fun b o e => g.keep b o (fun z => z) (k0 b o e)) fun a ha => ?_⟩
    · rw [take_next hd]
      exact (inv.mono fun a o e => put_old ga4 a o (g2.up a o e)).snoc (rr.mono (put_old ga4))
    · exact (hp.mono fun a o e => put_old ga4 a o (g2.up a o e)).snoc put_self
    · refine ex1 (inv.dom a ha) fun o e => ?_
      exact ⟨o, S.get e⟩
  case done =>
    intro D2 ys U h' t S uD bD hD g g' hi21_11 hl
    obtain ⟨fs, more, inv, hp, fr⟩ := hi21_11
    rw [hlen, List.take_length] at inv
    repeat cell_call
    have kq := inv.keys
    refine dictOfPairs S Z put_self (hp.mono (put_old uD)) (by rw [kq]; exact od.2.1) (by rw [inv.length]; exact Nat.le_trans od.1 (by decide)) o.deeper.hh fun d ob h3 t3 S3 gd hd0 dm hdo => ?_
    have kh : ∀ b o, h0.get? b = some o → h'.get? b = some o := fun b o e => g.keep b o (fun z => z) (k0 b o e)
    have frD : h0.get? d = none := by
      cases e : h0.get? d with
      | none => rfl
      | some o => have := kh _ _ e; rw [hd0] at this; (first | with_reducible exact no_some this | with_reducible exact some_no this | with_reducible exact no_bool this | with_reducible exact no_bool' this | cases this)
    refine k _ _ (d :: fs) _ _ (outC S3 up sL hG g1 g2 gL) (.dict put_self hdo dm (inv.mono fun a o e => put_old gd a o (put_old uD a o e))) (fr.cons frD fun z => ?_)
    refine ex1 (inv.dom _ z) fun o e => ?_
    have := put_old (o := lstOf ys) uD _ _ e
    rw [gd] at this; (first | with_reducible exact no_some this | with_reducible exact some_no this | with_reducible exact no_bool this | with_reducible exact no_bool' this | cases this)
theorem copy_stream (n : Nat) (ih : ∀ ds, (Ob.dict ds).ok (n + 1) = true → CopyAt prog w mg mb (2 * n + 4) (.dict ds)) (ds : List (Str × Ob)) (oc : Array UInt8) (hok : (Ob.stream ds oc).ok (n + 1) = true) : CopyAt prog w mg mb (2 * n + 5) (.stream ds oc) := by
  intro A E c h0 t G f v Q o Z hG hv k
  refine' enterCl (m := none_) (cm := upd none_ (Str.ofString "value") v) No [((Str.ofString "value"), v)] o.room Z.no hG ?hw ?ho ?hcd ?hb ?hl ?hc ?hm ?hcm ?_ ?c1 ?c2 ?c3
  case ho => exact rfl
  case hw => exact no_ne
  case hcd => kernel_rfl
  case hb => exact BindsTo.of_eq rfl
  case hl => kernel_rfl
  case hc => decide +kernel
  case hm => intro L; kernel_rfl
  case hcm => intro L; kernel_rfl
  case c1 => exact rfl
  case c2 => exact rfl
  case c3 => exact rfl
  intro L h₁ t₁ G₁ g1 g2 ce S Z gL sL up
  rw [mask_no] at S
  have cv := cellIn ce (Str.ofString "value") (a := L + 1) (by kernel_rfl) upd_here
  have hv := hv.mono g1
  have hv' := hv
  cases hv using OIn.streamE with
  | k a dx es n' hv fs tt i1 i2 q1 q2 hin =>
  have hh := hin.handed
  repeat cell_call
  refine kind_spec (o.deeper.less (by first | decide | omega)) (Z.at_ S) (fun _ _ e => S.get e) hv' (fun u h t g => ?_)
  have S := S.grow0 g
  repeat cell_call
  rename St _ _ _ _ _ _ => S0
  refine ih ds (ok_stream hok).1 _ _ _ _ _ _ _ _ _ (o.deeper.less (by first | decide | omega)) (Z.at_ S0) (fun _ _ e => S0.get e) (oinUp S0 hin) (fun r G' f2 h2 t g3 rr fr2 => ?_)
  have S := S0.grow0 g3
  repeat cell_call
  have k0 := old_in S0 up sL
  have k2 := old_in S up sL
  have Sg := S
  refine make_Stream (o.deeper.less (by first | decide | omega)) S Z rr fun x dx2 G3 h3 t3 S3 up3 hd2 hin3 => ?_
  refine k _ _ (dx2 :: f2) _ _ (outC S3 up sL hG g1 g2 gL) hin3 ((fr2.back k0).cons ?_ fun z => ?_)
  · cases e : h0.get? dx2 with
    | none => rfl
    | some o => have := k2 _ _ e; rw [hd2] at this; (first | with_reducible exact no_some this | with_reducible exact some_no this | with_reducible exact no_bool this | with_reducible exact no_bool' this | cases this)
  · refine ex1 (rr.dom _ z) fun o e => ?_
    have := Sg.get e
    rw [hd2] at this; (first | with_reducible exact no_some this | with_reducible exact some_no this | with_reducible exact no_bool this | with_reducible exact no_bool' this | cases this)
theorem copy_spec : ∀ (n : Nat) (d : Ob), d.ok n = true → CopyAt prog w mg mb (2 * n + 3) d := by
  intro n
  have less : ∀ {r r' : Nat} {d : Ob}, r ≤ r' → CopyAt prog w mg mb r d → CopyAt prog w mg mb r' d := fun hr H A E c h t G f v Q o => H A E c h t G f v Q (o.less hr)
  induction n with
  | zero =>
    intro d hd
    cases d with
    | array _ => (first | with_reducible exact no_some hd | with_reducible exact some_no hd | with_reducible exact no_bool hd | with_reducible exact no_bool' hd | cases hd)
    | dict _ => (first | with_reducible exact no_some hd | with_reducible exact some_no hd | with_reducible exact no_bool hd | with_reducible exact no_bool' hd | cases hd)
    | stream _ _ => (first | with_reducible exact no_some hd | with_reducible exact some_no hd | with_reducible exact no_bool hd | with_reducible exact no_bool' hd | cases hd)
    | _ => exact copy_plain _ rfl
  | succ n ih =>
    intro d hd
    cases d with
    | array ds => exact less (by first | decide | omega) (copy_array n ih ds hd)
    | dict ds => exact less (by first | decide | omega) (copy_dict n ih ds hd)
    | stream ds oc => exact copy_stream n (fun ds h => copy_dict n ih ds h) ds oc hd
    | _ => exact less (by first | decide | omega) (copy_plain _ rfl)
end

end
section
theorem mx_nolen : typeLookup (.type "list_reverseiterator") "__len__" = pure none := by rw [typeLookup_type, builtinLookup_eq_fast]; kernel_rfl
theorem mx_hint : typeLookup (.type "list_reverseiterator") "__length_hint__" = pure (some (.builtin "list_reverseiterator.__length_hint__")) := by rw [typeLookup_type, builtinLookup_eq_fast]; kernel_rfl
theorem mx_split : splitId "list_reverseiterator.__length_hint__" = some ("list_reverseiterator", "__length_hint__") := by decide +kernel
section
variable {prog : Program} {w : World} {A : Around} {E : Value → Shared → Prop} {s : Shared} {env : Env} {QV : Value → Shared → Prop}
theorem e_meth {o : Expr} {name : Str} {apos pos : Pos} {args : List Expr}
    (q : ∀ pl, wpAny (model prog w) A (eval o env) (fun ov s₁ => wpAny (model prog w) A (getMethod ov name pl) (fun fx s₂ => wpAny (model prog w) A (callWith pos fx.1 fx.2 (backTo pos (starEach args env)) []) QV E s₂) E s₁) E s)
    (he : ∃ pl, eval (.Call (.Attribute o name apos) args [] pos) env = (do
      let ov ← eval o env
      standAt apos.atName
      let (f, first) ← holding [ov] (getMethod ov name pl)
      callWith pos f first (backTo pos (starEach args env)) []) := by exact ⟨_, rfl⟩) :
    wpAny (model prog w) A (eval (.Call (.Attribute o name apos) args [] pos) env) QV E s := by
  refine ex1 (he) fun pl he => ?_
  rw [he]
  refine wpAny_bind (wpAny_mono (q pl) (fun ov s₁ h₁ => wpAny_bind (wpAny_standAt (wpAny_bind (wpAny_holding (wpAny_mono h₁ (fun fx s₂ h₂ => ?_) fun _ _ x => x))))) fun _ _ x => x)
  exact h₂
theorem cwB {pos : Pos} {id : String} {first : List Value} {e : Expr} {rest : List Expr} (q : wpAny (model prog w) A (spliced (backTo pos (starEach (e :: rest) env))) (fun vs s₁ => wpAny (model prog w) A (call (.builtin id) (first ++ vs)) QV E s₁) E s)
    (he : starEach (e :: rest) env = (false, eval e env) :: starEach rest env := by kernel_rfl) (hplain : (backTo pos (starEach rest env)).any (·.1) = false := by kernel_rfl) :
    wpAny (model prog w) A (callWith pos (.builtin id) first (backTo pos (starEach (e :: rest) env)) []) QV E s := by
  rw [he] at q ⊢
  exact callWith_of (P := fun _ => True) (by show ((false || (backTo pos (starEach rest env)).any (·.1)) || false) = false; rw [hplain]; rfl) (fun h _ => ⟨.machine, .inr (.inl rfl), Looks.of_pure rfl⟩) (evalArgs_plain (wpAny_mono q (fun vs s₁ x => ⟨trivial, x⟩) fun _ _ x => x))
theorem cwB0 {pos : Pos} {id : String} {first : List Value} (q : wpAny (model prog w) A (call (.builtin id) (first ++ [])) QV E s) : wpAny (model prog w) A (callWith pos (.builtin id) first (backTo pos (starEach [] env)) []) QV E s :=
  callWith_of (P := fun _ => True) rfl (fun h _ => ⟨.machine, .inr (.inl rfl), Looks.of_pure rfl⟩) (evalArgs_nil3 ⟨trivial, q⟩)
end
section
variable {prog : Program} {w : World} {A : Around} {E : Value → Shared → Prop} {c : Fx} {h : Heap} {t : Nat} {mg mb m : Str → Option Value} {B G₀ G G' : PMap} {L : Addr} {env : Env}
theorem cwK0 {pos : Pos} {f : Addr} {first : List Value} {QV : Value → Shared → Prop} (S : St B G₀ L m G h) (Z : Bs (KK w) VV LL mg mb B) (hk : keepIn (KK w) (.ref f) = true) (q : wpAny (model prog w) A (call (.ref f) (first ++ [])) QV E (c.at h t)) :
    wpAny (model prog w) A (callWith pos (.ref f) first (backTo pos (starEach [] env)) []) QV E (c.at h t) := callWith_K0 (s := c.at h t) (Z.k S.keep) hk q
theorem mOwn {x C f : Addr} {name : Str} {es : List DictEntry} {pl : Sem Bool} {Q : Value × List Value → Shared → Prop} (S : St B G₀ L m G h) (Z : Bs (KK w) VV LL mg mb B) (I : Inst G x C es) (hg : plainGet (KK w) C name = true) (hf : findIn (KK w) (.ref C) name = some (some (.ref f))) (ht : isFn (KK w) (.ref f) = true)
    (hl : getL name es = some none) (q : Q (.ref f, [.ref x]) (c.at h t)) : wpAny (model prog w) A (getMethod (.ref x) name pl) Q E (c.at h t) := by
  refine ex2 (I.ex) fun dx n hx2 => ?_
  refine and2 hx2 fun h1 h2 => ?_
  clear hx2
  exact method_fn (s := c.at h t) (Z.k S.keep) (⟨S.get h1, rfl, rfl, S.get h2⟩ : W.InstAt h x (instObj C dx) C (some (dictOf es n))) (plainGet_of hg).1 (plainGet_of hg).2 hf (beq_iff_eq.mp ht) (by show (lookIn name (dictOf es n)).map _ = _; rw [lookIn_dict, hl]; rfl) q
theorem mList {l : Addr} {vs : List Value} {n : Nat} {name : Str} {id : String} {pl : Sem Bool} {Q : Value × List Value → Shared → Prop} (S : St B G₀ L m G h) (hl : G l = some (listOf vs.toArray n)) (slot : Slot "list" name id) (hty : typeOf (.builtin id) = pure (.type "method_descriptor"))
    (q : Q (.builtin id, [.ref l]) (c.at h t)) : wpAny (model prog w) A (getMethod (.ref l) name pl) Q E (c.at h t) :=
  getMethod_list_of (s := c.at h t) slot hty ⟨_, S.get hl, rfl, n, rfl⟩ ⟨_, S.get hl, rfl⟩ q
theorem appendL {l : Addr} {vs : List Value} {n : Nat} {v : Value} {Q : Value → Shared → Prop} (S : St B G₀ L m G h) (hl : G l = some (listOf vs.toArray n)) (hB : B l = none) (hz : vs.length ≤ sizeLine)
    (q : ∀ h' n', St B G₀ L m (put G l (listOf (vs ++ [v]).toArray n')) h' → Q .none (c.at h' t)) : wpAny (model prog w) A (call (.builtin "list.append") [.ref l, v]) Q E (c.at h t) := by
  refine append_at (s := c.at h t) (hsz := by rw [List.size_toArray]; exact hz) (S.get hl) fun h' hs ho => ?_
  refine q h' (n + 1) (S.set hB hl hs (by rw [ho]; simp))
theorem popL {l : Addr} {vs : List Value} {n : Nat} {v : Value} {Q : Value → Shared → Prop} (S : St B G₀ L m G h) (hl : G l = some (listOf (vs ++ [v]).toArray n)) (hB : B l = none) (hz : (vs ++ [v]).length ≤ sizeLine)
    (q : ∀ h' n', St B G₀ L m (put G l (listOf vs.toArray n')) h' → Q v (c.at h' t)) : wpAny (model prog w) A (call (.builtin "list.pop") [.ref l]) Q E (c.at h t) := by
  have hsz : (vs ++ [v]).toArray.size = vs.length + 1 := by rw [List.size_toArray, List.length_append, List.length_singleton]
  have hy : (vs ++ [v]).toArray[(vs ++ [v]).toArray.size - 1]? = some v := by rw [hsz]; simp
  have hzz : (vs ++ [v]).toArray.size ≤ sizeLine := by rw [List.size_toArray]; exact hz
  have M := MeetsSeq.list_pop_last l (vs ++ [v]).toArray n v hy hzz
  refine call_meets (s := c.at h t) PySem.F.slot_list_pop ⟨_, S.get hl, rfl⟩ PySem.F.entry_list_pop (PySem.F.args_list_pop_1 _) M ⟨S.get hl, ?_⟩
  have e2 := mapSeq_erase (vs ++ [v]).toArray n ((vs ++ [v]).toArray.size - 1) (by rw [hsz]; omega)
  have e1 := Heap.get?_update_self (Obj.mapSeq fun xs => xs.eraseIdxIfInBounds ((vs ++ [v]).toArray.size - 1)) (S.get hl) (by rw [e2]; rfl)
  refine q _ (n + 1) (S.set hB hl (Heap.SameBut.update ..) ?_)
  rw [e1, e2]
  have : ((vs ++ [v]).toArray.toList.eraseIdx ((vs ++ [v]).toArray.size - 1)) = vs := by
    rw [hsz]
    have := kl_eraseL vs [] v
    simpa using this
  rw [this]
theorem revL {l : Addr} {vs : List Value} {n : Nat} {Q : Value → Shared → Prop} (S : St B G₀ L m G h) (hl : G l = some (listOf vs.toArray n))
    (q : ∀ a h', St B G₀ L m (put G a (revObj l ((vs.length : Int) - 1))) h' → G a = none → Q (.ref a) (c.at h' t)) : wpAny (model prog w) A (call (.type "reversed") [.ref l]) Q E (c.at h t) := by
  refine call_reversed_list (s := c.at h t) (items := vs.toArray) ⟨_, S.get hl, rfl, n, rfl⟩ ?_
  exact q _ _ (S.push (fun _ _ e => e) _) S.size
theorem ext_loop {l it D : Addr} {us : List Value} {R : Result → Shared → Prop} {h₀ : Heap} (hh : A.handled = none) (h1 : D ≠ it) (h2 : l ≠ it) (h3 : D ≠ l) (vs₀ : List Value) (hz : vs₀.length + us.length ≤ 1000000)
    (q : ∀ h' t' n', (∀ b o, b ≠ D → b ≠ it → h₀.get? b = some o → h'.get? b = some o) → h'.get? D = some (listOf (vs₀ ++ us.reverse).toArray n') → R (.ok (.ret .none)) (c.at h' t')) :
    ∀ (i : Nat) (h : Heap) (t : Nat) (vs : List Value) (n : Nat), i ≤ us.length → vs.length + i = vs₀.length + us.length → vs ++ (us.take i).reverse = vs₀ ++ us.reverse → h.IsRevIter it l ((i : Int) - 1) → h.IsList l us.toArray → h.get? D = some (listOf vs.toArray n) → (∀ b o, b ≠ D → b ≠ it → h₀.get? b = some o → h.get? b = some o) →
      codeAny (model prog w) A (.builtin "list.extend.loop" ⟨[.ref D, .ref it, .none], []⟩) R (c.at h t) := by
  intro i
  induction i with
  | zero =>
    intro h t vs n hi hlen he hit hl hD hk
    refine codeAny_builtin F.entry_extend_loop ?_
    rw [Around.under_plainId F.plain_extend_loop _]
    show wpAny _ A.in1 (pyNext (.ref it) >>= _) _ _ _
    refine wpAny_bind (wpAny_pyNext_rev_end (s := c.at h t) (l := l) hh (by simpa using hit) fun h' hs => ?_)
    rw [List.take_zero, List.reverse_nil, List.append_nil] at he
    subst he
    exact wpAny_pure (q h' _ n (fun b o n1 n2 e => hs b o n2 (hk b o n1 n2 e)) (hs _ _ h1 hD))
  | succ i ih =>
    intro h t vs n hi hlen he hit hl hD hk
    refine codeAny_builtin F.entry_extend_loop ?_
    rw [Around.under_plainId F.plain_extend_loop _]
    show wpAny _ A.in1 (pyNext (.ref it) >>= _) _ _ _
    have hx : us[i]? = some (us[i]'(by first | decide | omega)) := List.getElem?_eq_getElem (by first | decide | omega)
    have e0 : (((i + 1 : Nat) : Int) - 1) = (i : Int) := by omega
    rw [e0] at hit
    refine wpAny_bind (wpAny_pyNext_rev_item (s := c.at h t) (l := l) (items := us.toArray) (i := i) (x := us[i]) hit hl (by rw [List.getElem?_toArray]; exact hx) fun h' hit' hs => ?_)
    have hD' : h'.get? D = some (listOf vs.toArray n) := (hs.2 D h1).trans hD
    show wpAny _ A.in1 (updateSeq D (·.push us[i]) >>= _) _ _ _
    refine wpAny_bind (wpAny_updateSeq (s := c.at h' t) hD' rfl (wpAny_pure ⟨plainId_quiet F.plain_extend_loop _, ?_⟩) (by rw [List.size_toArray, sizeLine_eq]; omega) (by rw [Array.size_push, List.size_toArray, sizeLine_eq]; omega))
    have eD := Heap.get?_update_self (Obj.mapSeq fun x => x.push us[i]) hD' (by rw [mapSeq_push]; rfl)
    have k2 : ∀ b, b ≠ D → (h'.update D (Obj.mapSeq fun x => x.push us[i])).get? b = h'.get? b := fun b nb => Heap.get?_update_ne _ _ _ _ nb
    refine ih _ _ (vs ++ [us[i]]) (n + 1) (by first | decide | omega) (by rw [List.length_append, List.length_singleton]; omega) ?_ ?_ ?_ ?_ fun b o n1 n2 e => (k2 b n1).trans ((hs.2 b n2).trans (hk b o n1 n2 e))
    · rw [← he, take_next hx, List.reverse_append, List.append_assoc]; rfl
    · refine ex1 (hit') fun o hx3 => ?_
      refine and2 hx3 fun ho r => ?_
      clear hx3
      try clear hit'
      exact ⟨o, (k2 it (Ne.symm h1)).trans ho, r⟩
    · refine ex1 (hl) fun o hx4 => ?_
      refine and2 hx4 fun ho r => ?_
      clear hx4
      try clear hl
      exact ⟨o, (k2 l (Ne.symm h3)).trans ((hs.2 l h2).trans ho), r⟩
    · rw [eD, mapSeq_push]; simp
theorem extRev {l it D : Addr} {vs us : List Value} {n k : Nat} {Q : Value → Shared → Prop} (S : St B G₀ L m G h) (hD : G D = some (listOf vs.toArray n)) (hi : G it = some (revObj l ((us.length : Int) - 1))) (hl : G l = some (listOf us.toArray k)) (hB : B D = none) (hBi : B it = none) (hne : D ≠ l) (hh : A.handled = none)
    (hz : vs.length + us.length ≤ 1000000) (q : ∀ G' h' t' n', St B G₀ L m G' h' → G' D = some (listOf (vs ++ us.reverse).toArray n') → (∀ b o, b ≠ D → b ≠ it → G b = some o → G' b = some o) → (∀ b o, G' b = some o → b ≠ D → G b = some o) → Q .none (c.at h' t')) : wpAny (model prog w) A (call (.builtin "list.extend") [.ref D, .ref it]) Q E (c.at h t) := by
  have hit : h.IsRevIter it l ((us.length : Int) - 1) := ⟨_, S.get hi, rfl, rfl⟩
  have hT : ∀ t', (c.at h t').TypeIs (.ref it) "list_reverseiterator" := fun _ => ⟨_, S.get hi, rfl⟩
  have ne1 : D ≠ it := fun e => by
    rw [e, hi] at hD
    exact absurd (show Value.type "list_reverseiterator" = Value.type "list" from congrArg Obj.cls (Option.some.inj hD)) (by decide)
  have ne2 : l ≠ it := fun e => by
    rw [e, hi] at hl
    exact absurd (show Value.type "list_reverseiterator" = Value.type "list" from congrArg Obj.cls (Option.some.inj hl)) (by decide)
  refine wpAny_call (codeAny_call_builtin PySem.F.slot_list_extend.plain PySem.F.entry_list_extend (PySem.F.slot_list_extend.check _ _ _ _ _ _ _ _ (show (c.at h t).TypeIs (.ref D) "list" from ⟨_, S.get hD, rfl⟩) (PySem.F.args_list_extend_2 _ _) ?_))
  show wpAny _ A.in1 (Builtin.List.listExtendWith (.ref D) (.ref it) .none) _ _ _
  have h1 : Builtin.List.listSameRef (.ref D) (.ref it) = false := by simp [Builtin.List.listSameRef, ne1]
  unfold Builtin.List.listExtendWith
  refine wpAny_bind (wpAny_typeOf (hT _) ?_)
  rw [if_neg (by rw [h1]; decide)]
  refine wpAny_bind (wpAny_pyIter_revIter hit ?_)
  refine wpAny_bind (wpAny_holding ?_)
  unfold Builtin.List.listLengthHint
  refine wpAny_bind (wpAny_specialOf (hT _) mx_nolen ?_)
  show wpAny _ A.in1 (specialOf (Value.ref it) (Str.ofString "__length_hint__") >>= _) _ _ _
  refine wpAny_bind (wpAny_specialOf (hT _) mx_hint ?_)
  (generalize hid : ("list_reverseiterator.__length_hint__" : String) = id0; (fail_if_success (clear hid id0)); wp_delta; rw [show splitId id0 = some ("list_reverseiterator", "__length_hint__") from by subst hid; decide +kernel]; subst hid)
  refine wpAny_bind (wpAny_isInstance (b := true) (hT _) (by rw [isSubtype_type]; kernel_rfl) ?_)
  refine wpAny_pure ?_
  rw [if_neg (by decide)]
  refine wpAny_pure ⟨plainId_quiet F.plain_extend_loop _, ?_⟩
  refine ext_loop (h₀ := h) (us := us) (l := l) hh ne1 ne2 hne vs hz (fun h' t' n' k e => ?_) us.length h t vs n (Nat.le_refl _) rfl (by rw [List.take_length]) hit ⟨_, S.get hl, rfl, k, rfl⟩ (S.get hD) fun b o _ _ e => e
  have g : Grow (fun a => a = D ∨ a = it) G h (fun b => if b = it then none else put G D (listOf (vs ++ us.reverse).toArray n') b) h' := by
    refine ⟨fun a o nw x => k a o (fun z => nw (.inl z)) (fun z => nw (.inr z)) x, fun a o nw x => ?_, fun a o x => ?_⟩
    · rw [if_neg fun z => nw (.inr z), put_ne fun z => nw (.inl z)]; exact x
    · by_cases ai : a = it
      · rw [if_pos ai] at x; (first | with_reducible exact no_some x | with_reducible exact some_no x | with_reducible exact no_bool x | with_reducible exact no_bool' x | cases x)
      · rw [if_neg ai] at x
        by_cases ad : a = D
        · subst ad
          rw [put_self] at x; (first | with_reducible exact no_some x | with_reducible exact some_no x | with_reducible exact no_bool x | with_reducible exact no_bool' x | cases x)
          exact ⟨e, .inl (by rw [hD]; exact Option.some_ne_none _)⟩
        · rw [put_ne ad] at x
          exact ⟨k a o ad ai (S.get x), .inl (by rw [x]; exact Option.some_ne_none _)⟩
  have SS := S.grow g (fun a z => z.elim (fun z => by rw [z]; exact hB) fun z => by rw [z]; exact hBi) fun z => z.elim (fun z => (S.sub _ _ hD).2.1 z.symm) fun z => (S.sub _ _ hi).2.1 z.symm
  refine q _ _ _ n' SS (by rw [if_neg ne1, put_self]) (fun b o n1 n2 x => by rw [if_neg n2, put_ne n1]; exact x) fun b o x nb => ?_
  by_cases ai : b = it
  · rw [if_pos ai] at x; (first | with_reducible exact no_some x | with_reducible exact some_no x | with_reducible exact no_bool x | with_reducible exact no_bool' x | cases x)
  · rw [if_neg ai, put_ne nb] at x; exact x
end

end
section
noncomputable def Ob.renum (T : Tab) : Nat → Ob → Ob
  | _, .ref n g => match T.at (n, g) with
    | some p => .ref p.1 p.2
    | none => .null
  | n + 1, .array ds => .array (ds.map fun d => Ob.renum T n d)
  | n + 1, .dict ds => .dict ((ds.map fun e => (e.1, Ob.renum T n e.2)).filter fun e => !e.2.isNul)
  | n + 1, .stream ds o => .stream ((ds.map fun e => (e.1, Ob.renum T n e.2)).filter fun e => !e.2.isNul) o
  | _, d => d
noncomputable def renEnts (T : Tab) (n : Nat) (ds : List (Str × Ob)) : List (Str × Ob) := ds.map fun e => (e.1, Ob.renum T n e.2)
noncomputable def keepEnts (ds : List (Str × Ob)) : List (Str × Ob) := ds.filter fun e => !e.2.isNul
noncomputable def TabOk (T : Tab) : Prop := ∀ p q, T.at p = some q → okInt 1 9 q.1 = true ∧ okInt 0 1 q.2 = true
section
variable {T : Tab} {n : Nat}
theorem ren_ref {a b : Int} : Ob.renum T n (.ref a b) = match T.at (a, b) with
    | some p => .ref p.1 p.2
    | none => .null := by cases n <;> rfl
theorem ren_array {ds : List Ob} : Ob.renum T (n + 1) (.array ds) = .array (ds.map fun d => Ob.renum T n d) := rfl
theorem ren_dict {ds : List (Str × Ob)} : Ob.renum T (n + 1) (.dict ds) = .dict (keepEnts (renEnts T n ds)) := rfl
theorem ren_stream {ds : List (Str × Ob)} {o : Array UInt8} : Ob.renum T (n + 1) (.stream ds o) = .stream (keepEnts (renEnts T n ds)) o := rfl
theorem ren_plain {d : Ob} (hd : d.isPlain = true) (hr : d.word ≠ (Str.ofString "ref")) : Ob.renum T n d = d := by
  cases d with
  | ref _ _ => exact absurd rfl hr
  | array _ => (first | with_reducible exact no_some hd | with_reducible exact some_no hd | with_reducible exact no_bool hd | with_reducible exact no_bool' hd | cases hd)
  | dict _ => (first | with_reducible exact no_some hd | with_reducible exact some_no hd | with_reducible exact no_bool hd | with_reducible exact no_bool' hd | cases hd)
  | stream _ _ => (first | with_reducible exact no_some hd | with_reducible exact some_no hd | with_reducible exact no_bool hd | with_reducible exact no_bool' hd | cases hd)
  | _ => cases n <;> rfl
theorem renEnts_keys {ds : List (Str × Ob)} : (renEnts T n ds).map (·.1) = ds.map (·.1) := by simp [renEnts]
theorem keep_sub {ds : List (Str × Ob)} : ((keepEnts ds).map (·.1)).Sublist (ds.map (·.1)) := List.Sublist.map _ List.filter_sublist
theorem keyed_keep : ∀ {ds : List (Str × Ob)}, (ds.map (·.1)).Nodup → ∀ k, keyed (keepEnts ds) k = (keyed ds k).bind fun d => if d.isNul = true then none else some d
  | [], _, k => rfl
  | (k', d') :: ds, hn, k => by
    rw [List.map_cons, List.nodup_cons] at hn
    have ih := keyed_keep hn.2 k
    by_cases e : k' = k
    · have h1 : keyed ((k', d') :: ds) k = some d' := by simp [keyed, e]
      rw [h1, Option.bind_some]
      cases hd : d'.isNul with
      | true =>
        have h2 : keepEnts ((k', d') :: ds) = keepEnts ds := by simp [keepEnts, hd]
        have h3 : keyed ds k = none := keyed_none (by rw [← e]; exact hn.1)
        rw [h2, ih, h3]; rfl
      | false =>
        have h2 : keepEnts ((k', d') :: ds) = (k', d') :: keepEnts ds := by simp [keepEnts, hd]
        rw [h2]; simp [keyed, e]
    · have h1 : keyed ((k', d') :: ds) k = keyed ds k := by simp [keyed, e]
      rw [h1, ← ih]
      cases hd : d'.isNul with
      | true =>
        have h2 : keepEnts ((k', d') :: ds) = keepEnts ds := by simp [keepEnts, hd]
        rw [h2]
      | false =>
        have h2 : keepEnts ((k', d') :: ds) = (k', d') :: keepEnts ds := by simp [keepEnts, hd]
        rw [h2]; simp [keyed, e]
theorem keyed_ren {ds : List (Str × Ob)} (k : Str) : keyed (renEnts T n ds) k = (keyed ds k).map fun d => Ob.renum T n d := by
  induction ds with
  | nil => rfl
  | cons e ds ih =>
    by_cases he : e.1 = k
    · simp [keyed, renEnts, he]
    · have h1 : keyed (e :: ds) k = keyed ds k := by simp [keyed, he]
      have h2 : keyed (renEnts T n (e :: ds)) k = keyed (renEnts T n ds) k := by simp [keyed, renEnts, he]
      rw [h1, h2, ih]
theorem renum_dict_ok (ih : ∀ d : Ob, d.ok n = true → (Ob.renum T n d).ok n = true) {ds : List (Str × Ob)} (hd : (Ob.dict ds).ok (n + 1) = true) : (Ob.dict (keepEnts (renEnts T n ds))).ok (n + 1) = true := by
  have od := ok_dict hd
  have sub : ((keepEnts (renEnts T n ds)).map (·.1)).Sublist (ds.map (·.1)) := by
    have := keep_sub (ds := renEnts T n ds)
    rwa [renEnts_keys] at this
  show (decide (_ ≤ 3) && decide (_ : List Str).Nodup && List.all _ _) = true
  rw [Bool.and_eq_true, Bool.and_eq_true]
  refine ⟨⟨decide_eq_true ?_, decide_eq_true (sub.nodup od.2.1)⟩, List.all_eq_true.mpr fun e he => ?_⟩
  · have := sub.length_le
    rw [List.length_map, List.length_map] at this
    exact Nat.le_trans this od.1
  · refine ex1 (List.mem_map.mp ((List.mem_filter.mp he).1)) fun x hx1 => ?_
    refine and2 hx1 fun hx er1_2 => ?_
    clear hx1
    subst er1_2
    have := od.2.2 x.1 x.2 hx
    exact Bool.and_eq_true_iff.mpr ⟨List.contains_iff_mem.mpr this.1, ih _ this.2⟩
theorem renum_ok (hT : TabOk T) : ∀ (n : Nat) (d : Ob), d.ok n = true → (Ob.renum T n d).ok n = true := by
  have pl : ∀ (n : Nat) (a b : Int), (Ob.renum T n (.ref a b)).ok n = true := fun n a b => by
    rw [ren_ref]
    cases e : T.at (a, b) with
    | none => cases n <;> rfl
    | some q => have := hT _ _ e; cases n <;> exact Bool.and_eq_true_iff.mpr this
  intro n
  induction n with
  | zero =>
    intro d hd
    cases d with
    | ref a b => exact pl 0 a b
    | array _ => (first | with_reducible exact no_some hd | with_reducible exact some_no hd | with_reducible exact no_bool hd | with_reducible exact no_bool' hd | cases hd)
    | dict _ => (first | with_reducible exact no_some hd | with_reducible exact some_no hd | with_reducible exact no_bool hd | with_reducible exact no_bool' hd | cases hd)
    | stream _ _ => (first | with_reducible exact no_some hd | with_reducible exact some_no hd | with_reducible exact no_bool hd | with_reducible exact no_bool' hd | cases hd)
    | _ => exact hd
  | succ n ih =>
    intro d hd
    cases d with
    | ref a b => exact pl _ a b
    | array ds =>
      have od := ok_array hd
      rw [ren_array]
      show (decide (_ ≤ 3) && List.all _ _) = true
      rw [Bool.and_eq_true]
      refine ⟨decide_eq_true (by rw [List.length_map]; exact od.1), List.all_eq_true.mpr fun e he => ?_⟩
      refine ex1 (List.mem_map.mp he) fun x hx2 => ?_
      refine and2 hx2 fun hx er2_2 => ?_
      clear hx2
      subst er2_2
      exact ih _ (od.2 x hx)
    | dict ds => exact renum_dict_ok ih hd
    | stream ds o =>
      have := ok_stream hd
      exact Bool.and_eq_true_iff.mpr ⟨renum_dict_ok ih this.1, this.2⟩
    | _ => exact hd
theorem renum_dict_row (ih : ∀ d : Ob, d.ok n = true → (Ob.renum T n d).ok n = true ∧ (Ob.renum T n d).row none n = d.row (some T) n) {ds : List (Str × Ob)} (hd : (Ob.dict ds).ok (n + 1) = true) :
    (Ob.dict (keepEnts (renEnts T n ds))).row none (n + 1) = (Ob.dict ds).row (some T) (n + 1) := by
  have od := ok_dict hd
  rw [row_dict, row_dict]
  have : entRows none n (keepEnts (renEnts T n ds)) abc = entRows (some T) n ds abc := by
    unfold entRows
    congr 1
    funext k
    rw [keyed_keep (by rw [renEnts_keys]; exact od.2.1), keyed_ren]
    cases e : keyed ds k with
    | none => rfl
    | some d =>
      have hok := (od.2.2 k d (keyed_mem e)).2
      refine and2 (ih d hok) fun i1 i2 => ?_
      have hn := row_isNull i1
      simp only [Option.map_some, Option.bind_some]
      rw [← i2, hn]
      cases hx : (Ob.renum T n d).isNul with
      | true => rfl
      | false => simp only [Bool.false_eq_true, if_false, Option.bind_some, hn, hx]
  rw [this]
theorem renum_row (hT : TabOk T) : ∀ (n : Nat) (d : Ob), d.ok n = true → (Ob.renum T n d).row none n = d.row (some T) n := by
  have pl : ∀ (n : Nat) (a b : Int), (Ob.renum T n (.ref a b)).row none n = (Ob.ref a b).row (some T) n := fun n a b => by
    rw [ren_ref, row_ref]
    show _ = match T.at (a, b) with | some (a, b) => Rw.tup [rs "ref", .int a, .int b] | none => nullRow
    cases e : T.at (a, b) with
    | none => exact row_null
    | some q => exact row_ref
  intro n
  induction n with
  | zero =>
    intro d hd
    cases d with
    | ref a b => exact pl 0 a b
    | array _ => (first | with_reducible exact no_some hd | with_reducible exact some_no hd | with_reducible exact no_bool hd | with_reducible exact no_bool' hd | cases hd)
    | dict _ => (first | with_reducible exact no_some hd | with_reducible exact some_no hd | with_reducible exact no_bool hd | with_reducible exact no_bool' hd | cases hd)
    | stream _ _ => (first | with_reducible exact no_some hd | with_reducible exact some_no hd | with_reducible exact no_bool hd | with_reducible exact no_bool' hd | cases hd)
    | _ => rfl
  | succ n ih =>
    intro d hd
    cases d with
    | ref a b => exact pl _ a b
    | array ds =>
      have od := ok_array hd
      rw [ren_array, row_array, row_array, List.map_map]
      congr 2
      exact List.map_congr_left fun x hx => ih x (od.2 x hx)
    | dict ds => exact renum_dict_row (fun d h => ⟨renum_ok hT n d h, ih d h⟩) hd
    | stream ds o =>
      have := ok_stream hd
      rw [ren_stream, row_stream, row_stream, renum_dict_row (fun d h => ⟨renum_ok hT n d h, ih d h⟩) this.1]
    | _ => rfl
end
section
variable {prog : Program} {w : World} {A : Around} {E : Value → Shared → Prop} {s : Shared} {c : Fx} {h : Heap} {t : Nat} {mg mb m : Str → Option Value} {B G₀ G G' : PMap} {L : Addr} {env : Env}
theorem OIn.notNone {f : List Addr} {v : Value} {d : Ob} (hv : OIn prog w G f v d) : (!d.isNul) = notNone v := by cases hv <;> rfl
theorem OEnt.keep {fs : List Addr} {kvs : List (Str × Value)} {ds : List (Str × Ob)} (H : OEnt prog w G fs kvs ds) : OEnt prog w G fs (kvs.filter fun e => Mine.notNone e.2) (keepEnts ds) := by
  refine H.ind (P := fun fs kvs ds => OEnt prog w G fs (kvs.filter fun e => Mine.notNone e.2) (keepEnts ds)) .nil fun {f _ _ v _ d _} q _ ih => ?_
  have e := q.notNone
  unfold keepEnts at ih ⊢
  rw [List.filter_cons, List.filter_cons]
  cases hd : d.isNul with
  | true =>
    rw [hd] at e
    have e : Mine.notNone v = false := e.symm
    have hf : f = [] := q.plain (by cases d <;> first | rfl | (first | with_reducible exact no_some hd | with_reducible exact some_no hd | with_reducible exact no_bool hd | with_reducible exact no_bool' hd | cases hd))
    rw [if_neg (by rw [e]; exact Bool.false_ne_true), if_neg (show ¬ (!true) = true from Bool.false_ne_true), hf]
    exact ih
  | false =>
    rw [hd] at e
    have e : Mine.notNone v = true := e.symm
    rw [if_pos e, if_pos (show (!false) = true from rfl)]
    exact .cons q ih
theorem x_unpack {elts : List Expr} {k} {tpos pos : Pos} {value : Expr} {rest : List Stmt} {Q : Flow → Shared → Prop} (q : wpAny (model prog w) A (eval value env) (fun v s₁ => wpAny (model prog w) A (assign (.Tuple elts k tpos) env v) (fun _ s₂ => wpAny (model prog w) A (execs rest env) Q E s₂) E s₁) E s)
    (hs : swapsWithSole [.Tuple elts k tpos] value pos.line env = pure false := by kernel_rfl) (hw : swappedStores [.Tuple elts k tpos] value env = pure none := by kernel_rfl) :
    wpAny (model prog w) A (execs (.Assign [.Tuple elts k tpos] value pos :: rest) env) Q E s := wpAny_execs_cons (Assign_Tuple q hs hw)
theorem unpack2 {x y : Str} {px py tpos : Pos} {k} {b : Addr} {u v : Value} {n : Nat} {Q : Unit → Shared → Prop} (S : St B G₀ L m G h) (hb : G b = some (tupOf [u, v] n)) (hh : A.handled = none) (q : ∀ h' t', St B G₀ L (upd (upd m x u) y v) G h' → Q () (c.at h' t'))
    (hL : env.locals = L := by kernel_rfl) (hk : env.scope.kind = .function := by kernel_rfl) (hx : env.kindOf x = some .local := by kernel_rfl) (hy : env.kindOf y = some .local := by kernel_rfl) :
    wpAny (model prog w) A (assign (.Tuple [.Name x px, .Name y py] k tpos) env (.ref b)) Q E (c.at h t) := by
  refine assign_Tuple_tuple (s := c.at h t) (items := #[u, v]) hh ⟨_, S.get hb, rfl, _, rfl⟩ rfl rfl fun h' he => ?_
  have S2 := S.kept (h' := h') fun b o e => he b o (Nat.ne_of_lt (Heap.lt_size e)) e
  refine assignInOrder_cons (wpAny_assign_Name (sL (c := c) (t := t) S2 (fun h2 t2 S3 => ?_) hL hk hx))
  refine assignInOrder_cons (wpAny_assign_Name (sL S3 (fun h3 t3 S4 => ?_) hL hk hy))
  exact assignInOrder_nil (q h3 t3 S4)
end

end
section
section
variable {prog : Program} {w : World} {A : Around} {E : Value → Shared → Prop} {c : Fx} {h : Heap} {t : Nat} {mg mb : Str → Option Value} {G : PMap} {f : List Addr} {a : Addr} {x y : Int}
theorem pair_spec {Q : Value → Shared → Prop} (o : Ok 1 A) (Z : Bs (KK w) VV LL mg mb h.get?) (hG : ∀ a o, G a = some o → h.get? a = some o) (hv : OIn prog w G f (.ref a) (.ref x y))
    (k : ∀ b G' h' t', Grow No G h G' h' → PairAt G' b (x, y) → Q (.ref b) (c.at h' t')) : wpAny (model prog w) A (call (.ref 239) [.ref a]) Q E (c.at h t) := by
  refine' enter No [((Str.ofString "self"), .ref a)] o.room Z.no hG ?ho ?hcd ?hb ?hl ?hc ?hm ?_ ?c1 ?c2 ?c3
  case ho => exact rfl
  case hcd => kernel_rfl
  case hb => exact BindsTo.of_eq rfl
  case hl => kernel_rfl
  case hc => kernel_rfl
  case hm => exact binds1
  case c1 => exact rfl
  case c2 => exact rfl
  case c3 => exact rfl
  intro L h₁ t₁ S Z gL sL up
  rw [mask_no] at S
  cases hv using OIn.refE with
  | k a es t1 t2 i q1 q2 q3 =>
  repeat cell_call
  rename_i ap hp Sp gp
  exact k _ _ _ _ (out0 Sp up sL hG gL) ⟨_, _, _, put_self⟩
end
noncomputable def RenAt (prog : Program) (w : World) (mg mb : Str → Option Value) (T : Tab) (r : Nat) (d d' : Ob) : Prop :=
  ∀ (A : Around) (E : Value → Shared → Prop) (c : Fx) (h : Heap) (t : Nat) (G : PMap) (f : List Addr) (v tv : Value) (Q : Value → Shared → Prop), Ok r A → Bs (KK w) VV LL mg mb h.get? → (∀ a o, G a = some o → h.get? a = some o) → OIn prog w G f v d → TIn prog w G tv (some T) →
    (∀ r' G' f' h' t', Grow No G h G' h' → OIn prog w G' f' r' d' → Fresh h f' → Q r' (c.at h' t')) → wpAny (model prog w) A (call (.ref 301) [v, tv]) Q E (c.at h t)
section
variable {prog : Program} {w : World} {mg mb : Str → Option Value} {T : Tab}
theorem ren_plainW (d : Ob) (hd : d.isPlain = true) (hn : d.word ≠ (Str.ofString "ref")) : RenAt prog w mg mb T 3 d d := by
  intro A E c h0 t G f v tv Q o Z hG hv hT k
  refine' enterCl (m := none_) (cm := upd (upd none_ (Str.ofString "value") v) (Str.ofString "table") tv) No [((Str.ofString "value"), v), ((Str.ofString "table"), tv)] o.room Z.no hG ?hw ?ho ?hcd ?hb ?hl ?hc ?hm ?hcm ?_ ?c1 ?c2 ?c3
  case ho => exact rfl
  case hw => exact no_ne
  case hcd => kernel_rfl
  case hb => exact BindsTo.of_eq rfl
  case hl => kernel_rfl
  case hc => decide +kernel
  case hm => intro L; kernel_rfl
  case hcm => intro L; kernel_rfl
  case c1 => exact rfl
  case c2 => exact rfl
  case c3 => exact rfl
  intro L h₁ t₁ G₁ g1 g2 ce S Z gL sL up
  rw [mask_no] at S
  have cv := cellIn ce (Str.ofString "value") (a := L + 1) (by kernel_rfl) (upd_there upd_here (by kernel_rfl))
  have ct := cellIn ce (Str.ofString "table") (a := L + 2) (by kernel_rfl) upd_here
  have hv := hv.mono g1
  repeat cell_call
  refine kind_spec (o.deeper.less (by first | decide | omega)) (Z.at_ S) (fun _ _ e => S.get e) hv (fun u h t g => ?_)
  have S := S.grow0 g
  have e0 : (d.word == (Str.ofString "ref")) = false := by rw [beq_eq_false_iff_ne]; exact hn
  have e1 : (d.word == (Str.ofString "array")) = false := by cases d <;> first | rfl | (first | with_reducible exact no_some hd | with_reducible exact some_no hd | with_reducible exact no_bool hd | with_reducible exact no_bool' hd | cases hd)
  have e2 : (d.word == (Str.ofString "dict")) = false := by cases d <;> first | rfl | (first | with_reducible exact no_some hd | with_reducible exact some_no hd | with_reducible exact no_bool hd | with_reducible exact no_bool' hd | cases hd)
  have e3 : (d.word == (Str.ofString "stream")) = false := by cases d <;> first | rfl | (first | with_reducible exact no_some hd | with_reducible exact some_no hd | with_reducible exact no_bool hd | with_reducible exact no_bool' hd | cases hd)
  repeat cell_call
  refine iteF e0 ?_
  repeat cell_call
  refine iteF e1 ?_
  repeat cell_call
  refine iteF e2 ?_
  repeat cell_call
  refine iteF e3 ?_
  repeat cell_call
  rename St _ _ _ _ _ _ => S3
  have := hv.plain hd
  refine k _ _ f _ _ (outC S3 up sL hG g1 g2 gL) (oinUp S3 hv) (by rw [this]; exact .nil)
theorem ren_refW (x y : Int) : RenAt prog w mg mb T 3 (.ref x y) (match T.at (x, y) with | some p => .ref p.1 p.2 | none => .null) := by
  intro A E c h0 t G f v tv Q o Z hG hv hT k
  refine' enterCl (m := none_) (cm := upd (upd none_ (Str.ofString "value") v) (Str.ofString "table") tv) No [((Str.ofString "value"), v), ((Str.ofString "table"), tv)] o.room Z.no hG ?hw ?ho ?hcd ?hb ?hl ?hc ?hm ?hcm ?_ ?c1 ?c2 ?c3
  case ho => exact rfl
  case hw => exact no_ne
  case hcd => kernel_rfl
  case hb => exact BindsTo.of_eq rfl
  case hl => kernel_rfl
  case hc => decide +kernel
  case hm => intro L; kernel_rfl
  case hcm => intro L; kernel_rfl
  case c1 => exact rfl
  case c2 => exact rfl
  case c3 => exact rfl
  intro L h₁ t₁ G₁ g1 g2 ce S Z gL sL up
  rw [mask_no] at S
  have cv := cellIn ce (Str.ofString "value") (a := L + 1) (by kernel_rfl) (upd_there upd_here (by kernel_rfl))
  have ct := cellIn ce (Str.ofString "table") (a := L + 2) (by kernel_rfl) upd_here
  have hv := hv.mono g1
  have hT := hT.mono g1
  have hv' := hv
  have hu : ∀ env, (A.deeper env).units + 1 < cLine := fun env => by have := (o.deeper (env := env)).units; show _ < 9900; omega
  cases hv using OIn.refE with
  | k a es t1 t2 i q1 q2 q3 =>
  cases hT with
  | @so at_ xs T hP hV =>
  repeat cell_call
  refine kind_spec (o.deeper.less (by first | decide | omega)) (Z.at_ S) (fun _ _ e => S.get e) hv' (fun u h t g => ?_)
  have S := S.grow0 g
  repeat cell_call
  rename St _ _ _ _ _ _ => S1
  refine e_meth (fun pl => ?_)
  repeat cell_call
  refine mOwn S1 Z (instUp S1 i) (by kernel_rfl) (f := 239) (by kernel_rfl) (by kernel_rfl) q3 ?_
  refine cwK0 S1 Z (by kernel_rfl) ?_
  refine pair_spec (o.deeper.less (by first | decide | omega)) (Z.at_ S1) (fun _ _ e => S1.get e) (oinUp S1 hv') (fun b G' h t g hb => ?_)
  have S2 := S1.grow0 g
  repeat cell_call
  have hP2 := hP.mono S2.mono
  refine notInP S2 hP2 hb (hu _) (fun _ => ?_)
  cases hat : T.at (x, y) with
  | none =>
    rw [hV.none hat]
    rw [hat] at k
    repeat cell_call
    exact k _ _ _ _ _ (outC S2 up sL hG g1 g2 gL) .null .nil
  | some q =>
    refine ex2 (hV.some hat) fun ka bq hx1 => ?_
    refine and2 hx1 fun e1 e2 => ?_
    clear hx1
    rw [e1]
    rw [hat] at k
    repeat cell_call
    refine x_unpack ?_
    repeat cell_call
    refine e_meth (fun pl => ?_)
    repeat cell_call
    refine mOwn S2 Z (instUp S2 i) (by kernel_rfl) (f := 239) (by kernel_rfl) (by kernel_rfl) q3 ?_
    refine cwK0 S2 Z (by kernel_rfl) ?_
    refine pair_spec (o.deeper.less (by first | decide | omega)) (Z.at_ S2) (fun _ _ e => S2.get e) (oinUp S2 hv') (fun b G' h t g hb => ?_)
    have S3 := S2.grow0 g
    have hP3 := hP.mono S3.mono
    refine subP S3 hP3 hb (hu _) e1 (fun _ => ?_)
    refine ex3 (e2.mono S3.mono) fun _ _ _ e3 => ?_
    refine unpack2 S3 e3 o.deeper.hh (fun h t S4 => ?_)
    repeat cell_call
    refine make_Reference (o.deeper.less (by first | decide | omega)) S4 Z (fun a G5 h5 t5 S5 up5 hin => ?_)
    exact k _ _ _ _ _ (outC S5 up sL hG g1 g2 gL) hin .nil
theorem ren_arrayW (n : Nat) (ih : ∀ d, d.ok n = true → RenAt prog w mg mb T (2 * n + 3) d (Ob.renum T n d)) (ds : List Ob) (hok : (Ob.array ds).ok (n + 1) = true) : RenAt prog w mg mb T (2 * n + 4) (.array ds) (.array (ds.map fun d => Ob.renum T n d)) := by
  intro A E c h0 t G f v tv Q o Z hG hv hT k
  refine' enterCl (m := none_) (cm := upd (upd none_ (Str.ofString "value") v) (Str.ofString "table") tv) No [((Str.ofString "value"), v), ((Str.ofString "table"), tv)] o.room Z.no hG ?hw ?ho ?hcd ?hb ?hl ?hc ?hm ?hcm ?_ ?c1 ?c2 ?c3
  case ho => exact rfl
  case hw => exact no_ne
  case hcd => kernel_rfl
  case hb => exact BindsTo.of_eq rfl
  case hl => kernel_rfl
  case hc => decide +kernel
  case hm => intro L; kernel_rfl
  case hcm => intro L; kernel_rfl
  case c1 => exact rfl
  case c2 => exact rfl
  case c3 => exact rfl
  intro L h₁ t₁ G₁ g1 g2 ce S Z gL sL up
  rw [mask_no] at S
  have cv := cellIn ce (Str.ofString "value") (a := L + 1) (by kernel_rfl) (upd_there upd_here (by kernel_rfl))
  have ct := cellIn ce (Str.ofString "table") (a := L + 2) (by kernel_rfl) upd_here
  have hv := hv.mono g1
  have hT := hT.mono g1
  have hv' := hv
  cases hv using OIn.arrayE with
  | k va vs vn fs hd1 he =>
  repeat cell_call
  refine kind_spec (o.deeper.less (by first | decide | omega)) (Z.at_ S) (fun _ _ e => S.get e) hv' (fun u h t g => ?_)
  have S := S.grow0 g
  repeat cell_call
  rename St _ _ _ _ _ _ => S2
  refine eval_comp (cl := [((Str.ofString "table"), L + 2)]) (by kernel_rfl) ?_
  repeat cell_call
  have od := ok_array hok
  have hlen := he.length
  have k0 := old_in S2 up sL
  refine comp_at (W := No) (P := fun i v => vs.toArray[i]? = some v) (n := vs.toArray.size) (fun i ys U => ∃ fs, OAll prog w U fs ys ((ds.take i).map fun d => Ob.renum T n d) ∧ Fresh h0 fs) S2 Z (Src.list o.deeper.hh ⟨_, S2.get (atUp S2 hd1), rfl, _, rfl⟩ (fun z => z)) no_B (fun _ _ _ _ => no_ne) ?sz ⟨[], .nil, .nil⟩ ?turn ?done
  case sz => rw [List.size_toArray, hlen]; exact Nat.le_trans od.1 (by decide)
  case turn =>
    intro i v ys U h' t C m₂ hi hv g S Z hm hi2_14 hl
    refine ex1 (hi2_14) fun fs hx4 => ?_
    refine and2 hx4 fun inv fr => ?_
    clear hx4
    clear hi2_14
    rw [mask_no] at S
    have upU : ∀ a o, G₁ a = some o → U a = some o := fun a o e => g.up a o (S2.mono a o e)
    have ctU := ct.mono upU
    refine ex2 (he.get (i := i) (v := v) (by simpa using hv)) fun f' d hx5 => ?_
    refine and3 hx5 fun hd hin _ => ?_
    clear hx5
    have hok' := od.2 d (List.mem_of_getElem? hd)
    have hin := hin.mono upU
    repeat cell_call
    refine ih d hok' _ _ _ _ _ _ _ _ _ _ (o.deeper.less (by first | decide | omega)) (Z.at_ S) (fun _ _ e => S.get e) hin (hT.mono upU) (fun r G' f2 h2 t g2 rr fr2 => ?_)
    have S' := S.grow0 g2
    refine ⟨_, _, _, _, rfl, by rw [mask_no]; exact S', fs ++ f2, ?_, fr.app fr2 (fun b o e => g.keep b o (fun z => z) (k0 b o e)) fun a ha => ?_⟩
    · rw [take_next hd, List.map_append]
      exact (inv.mono fun a o e => g2.up a o e).snoc rr
    · refine ex1 (inv.dom a ha) fun o e => ?_
      exact ⟨o, S.get e⟩
  case done =>
    intro D2 ys U h' t S uD bD hD g g' hi6_11 hl
    refine ex1 (hi6_11) fun fs hx8 => ?_
    refine and2 hx8 fun inv fr => ?_
    clear hx8
    clear hi6_11
    rw [List.size_toArray, hlen, List.take_length] at inv
    have frD : h0.get? D2 = none := by
      cases e : h0.get? D2 with
      | none => rfl
      | some o => have := k0 _ _ e; rw [hD] at this; (first | with_reducible exact no_some this | with_reducible exact some_no this | with_reducible exact no_bool this | with_reducible exact no_bool' this | cases this)
    refine k _ _ (D2 :: fs) _ _ (outC S up sL hG g1 g2 gL) (.array put_self (inv.mono (put_old uD))) (fr.cons frD fun z => ?_)
    refine ex1 (inv.dom _ z) fun o e => ?_
    rw [uD] at e; (first | with_reducible exact no_some e | with_reducible exact some_no e | with_reducible exact no_bool e | with_reducible exact no_bool' e | cases e)
theorem ren_streamW (n : Nat) (ih : ∀ ds, (Ob.dict ds).ok (n + 1) = true → RenAt prog w mg mb T (2 * n + 4) (.dict ds) (.dict (keepEnts (renEnts T n ds)))) (ds : List (Str × Ob)) (oc : Array UInt8) (hok : (Ob.stream ds oc).ok (n + 1) = true) :
    RenAt prog w mg mb T (2 * n + 5) (.stream ds oc) (.stream (keepEnts (renEnts T n ds)) oc) := by
  intro A E c h0 t G f v tv Q o Z hG hv hT k
  refine' enterCl (m := none_) (cm := upd (upd none_ (Str.ofString "value") v) (Str.ofString "table") tv) No [((Str.ofString "value"), v), ((Str.ofString "table"), tv)] o.room Z.no hG ?hw ?ho ?hcd ?hb ?hl ?hc ?hm ?hcm ?_ ?c1 ?c2 ?c3
  case ho => exact rfl
  case hw => exact no_ne
  case hcd => kernel_rfl
  case hb => exact BindsTo.of_eq rfl
  case hl => kernel_rfl
  case hc => decide +kernel
  case hm => intro L; kernel_rfl
  case hcm => intro L; kernel_rfl
  case c1 => exact rfl
  case c2 => exact rfl
  case c3 => exact rfl
  intro L h₁ t₁ G₁ g1 g2 ce S Z gL sL up
  rw [mask_no] at S
  have cv := cellIn ce (Str.ofString "value") (a := L + 1) (by kernel_rfl) (upd_there upd_here (by kernel_rfl))
  have ct := cellIn ce (Str.ofString "table") (a := L + 2) (by kernel_rfl) upd_here
  have hv := hv.mono g1
  have hT := hT.mono g1
  have hv' := hv
  cases hv using OIn.streamE with
  | k a dx es n' hv fs tt i1 i2 q1 q2 hin =>
  have hh := hin.handed
  repeat cell_call
  refine kind_spec (o.deeper.less (by first | decide | omega)) (Z.at_ S) (fun _ _ e => S.get e) hv' (fun u h t g => ?_)
  have S := S.grow0 g
  repeat cell_call
  rename St _ _ _ _ _ _ => S0
  refine ih ds (ok_stream hok).1 _ _ _ _ _ _ _ _ _ _ (o.deeper.less (by first | decide | omega)) (Z.at_ S0) (fun _ _ e => S0.get e) (oinUp S0 hin) (hT.mono S0.mono) (fun r G' f2 h2 t g3 rr fr2 => ?_)
  have S := S0.grow0 g3
  repeat cell_call
  have k0 := old_in S0 up sL
  have k2 := old_in S up sL
  have Sg := S
  refine make_Stream (o.deeper.less (by first | decide | omega)) S Z rr fun x dx2 G3 h3 t3 S3 up3 hd2 hin3 => ?_
  refine k _ _ (dx2 :: f2) _ _ (outC S3 up sL hG g1 g2 gL) hin3 ((fr2.back k0).cons ?_ fun z => ?_)
  · cases e : h0.get? dx2 with
    | none => rfl
    | some o => have := k2 _ _ e; rw [hd2] at this; (first | with_reducible exact no_some this | with_reducible exact some_no this | with_reducible exact no_bool this | with_reducible exact no_bool' this | cases this)
  · refine ex1 (rr.dom _ z) fun o e => ?_
    have := Sg.get e
    rw [hd2] at this; (first | with_reducible exact no_some this | with_reducible exact some_no this | with_reducible exact no_bool this | with_reducible exact no_bool' this | cases this)
theorem ren_dictW (n : Nat) (ih : ∀ d, d.ok n = true → RenAt prog w mg mb T (2 * n + 3) d (Ob.renum T n d)) (ds : List (Str × Ob)) (hok : (Ob.dict ds).ok (n + 1) = true) : RenAt prog w mg mb T (2 * n + 4) (.dict ds) (.dict (keepEnts (renEnts T n ds))) := by
  intro A E c h0 t G f v tv Q o Z hG hv hT k
  refine' enterCl (m := none_) (cm := upd (upd none_ (Str.ofString "value") v) (Str.ofString "table") tv) No [((Str.ofString "value"), v), ((Str.ofString "table"), tv)] o.room Z.no hG ?hw ?ho ?hcd ?hb ?hl ?hc ?hm ?hcm ?_ ?c1 ?c2 ?c3
  case ho => exact rfl
  case hw => exact no_ne
  case hcd => kernel_rfl
  case hb => exact BindsTo.of_eq rfl
  case hl => kernel_rfl
  case hc => decide +kernel
  case hm => intro L; kernel_rfl
  case hcm => intro L; kernel_rfl
  case c1 => exact rfl
  case c2 => exact rfl
  case c3 => exact rfl
  intro L h₁ t₁ G₁ g1 g2 ce S Z gL sL up
  rw [mask_no] at S
  have cv := cellIn ce (Str.ofString "value") (a := L + 1) (by kernel_rfl) (upd_there upd_here (by kernel_rfl))
  have ct := cellIn ce (Str.ofString "table") (a := L + 2) (by kernel_rfl) upd_here
  have hv := hv.mono g1
  have hT := hT.mono g1
  have hv' := hv
  cases hv using OIn.dictE with
  | k va ob kvs fs hd1 hd2 hd3 he =>
  repeat cell_call
  refine kind_spec (o.deeper.less (by first | decide | omega)) (Z.at_ S) (fun _ _ e => S.get e) hv' (fun u h t g => ?_)
  have S := S.grow0 g
  repeat cell_call
  rename St _ _ _ _ _ _ => S2
  refine x_assignComp (cl := [((Str.ofString "value"), L + 1), ((Str.ofString "table"), L + 2)]) (by kernel_rfl!) ?_
  repeat cell_call
  have od := ok_dict hok
  have hlen := he.length
  have kk := he.keys
  have k0 := old_in S2 up sL
  refine ex1 ((Heap.dictOf_iff.mpr ⟨ob, S2.get (atUp S2 hd1), hd2⟩ : Heap.DictOf (PySem.strKind prog w) _ va kvs).dictAt) fun ep hat => ?_
  refine comp_atU (W := No) (P := fun i v => ∃ k x, kvs[i]? = some (k, x) ∧ (PySem.strKind prog w).is k v = true) (n := kvs.length) (fun i ys U => ∃ fs more, OEnt prog w U fs more (renEnts T n (ds.take i)) ∧ PairsAt U ys more ∧ Fresh h0 fs) S2 Z (Src.dict o.deeper.hh hd3 hat (fun z => z)) no_B (fun _ _ _ _ => no_ne) ?sz ⟨[], [], .nil, .nil, .nil⟩ ?turn ?done
  case sz => rw [hlen]; exact Nat.le_trans od.1 (by decide)
  case turn =>
    intro i v ys U h' t C m₂ hi hi11_9 g S Z hm hi11_14 hl
    refine ex2 (hi11_9) fun k x hx13 => ?_
    refine and2 hx13 fun hkx hk => ?_
    clear hx13
    clear hi11_9
    refine ex2 (hi11_14) fun fs more hx14 => ?_
    refine and3 hx14 fun inv hp fr => ?_
    clear hx14
    clear hi11_14
    rw [mask_no] at S
    have upU : ∀ a o, G₁ a = some o → U a = some o := fun a o e => g.up a o (S2.mono a o e)
    have cvU := cv.mono upU
    have ctU := ct.mono upU
    have hdU := upU _ _ hd1
    refine ex1 (Value.isStrOf_shape hk) fun u er15_1 => ?_
    subst er15_1
    refine ex2 (he.get hkx) fun _ d hx16 => ?_
    refine and3 hx16 fun hd _ _ => ?_
    clear hx16
    have hkd := keyed_at od.2.1 hd
    have hok' := (od.2.2 k d (keyed_mem hkd)).2
    refine ex2 (he.value hkd) fun f' vv hx17 => ?_
    refine and3 hx17 fun hval hin _ => ?_
    clear hx17
    have hin := hin.mono upU
    repeat cell_call
    refine ih d hok' _ _ _ _ _ _ _ _ _ _ (o.deeper.less (by first | decide | omega)) (Z.at_ S) (fun _ _ e => S.get e) hin (hT.mono upU) (fun r G' f2 h2 t g2 rr fr2 => ?_)
    have S' := S.grow0 g2
    repeat cell_call
    rename_i a4 h4 S4 ga4
    refine ⟨_, _, _, _, rfl, by rw [mask_no]; exact S4, fs ++ f2, more ++ [(k, r)], ?_, ?_, fr.app fr2 (fun b o e => g.keep b o (fun z => z) (k0 b o e)) fun a ha => ?_⟩
    · rw [take_next hd, show renEnts T n (ds.take i ++ [(k, d)]) = renEnts T n (ds.take i) ++ [(k, Ob.renum T n d)] by simp [renEnts]]
      exact (inv.mono fun a o e => put_old ga4 a o (g2.up a o e)).snoc (rr.mono (put_old ga4))
    · exact (hp.mono fun a o e => put_old ga4 a o (g2.up a o e)).snoc put_self
    · refine ex1 (inv.dom a ha) fun o e => ?_
      exact ⟨o, S.get e⟩
  case done =>
    intro D2 ys U h' t S uD bD hD gm hi18_10 hl
    refine ex2 (hi18_10) fun fs more hx20 => ?_
    refine and3 hx20 fun inv hp fr => ?_
    clear hx20
    clear hi18_10
    rw [hlen, List.take_length] at inv
    have kq : more.map (·.1) = ds.map (·.1) := inv.keys.trans renEnts_keys
    have ml : more.length = ds.length := by have := congrArg List.length kq; simpa using this
    repeat cell_call
    refine eval_comp (cl := []) (by kernel_rfl) ?_
    repeat cell_call
    have yl := hp.1
    refine comp_at (W := No) (P := fun i v => ys.toArray[i]? = some v) (n := ys.toArray.size) (fun i zs U => PairsAt U zs ((more.take i).filter fun e => Mine.notNone e.2)) S Z (Src.list o.deeper.hh ⟨_, S.get put_self, rfl, _, rfl⟩ (fun z => z)) no_B (fun _ _ _ _ => no_ne) ?sz .nil ?turn2 ?done2
    case sz => rw [List.size_toArray, yl, ml]; exact Nat.le_trans od.1 (by decide)
    case turn2 =>
      intro i v zs U2 h2 t C m₂ hi hv g S2 Z hm inv2 hl2
      rw [mask_no] at S2
      have hi' : i < more.length := by rw [List.size_toArray, yl] at hi; exact hi
      obtain ⟨⟨k, x⟩, hkx⟩ : ∃ kv, more[i]? = some kv := ⟨_, List.getElem?_eq_getElem hi'⟩
      obtain ⟨p, hp1, a, u, n', er21_5, ha⟩ := hp.2 i _ hkx
      subst er21_5
      have ev : v = .ref a := by
        have : ys[i]? = some v := by simpa using hv
        rw [hp1] at this; exact (Option.some.inj this).symm
      subst ev
      have upU : ∀ a o, U a = some o → U2 a = some o := fun a o e => g.up a o (put_old uD a o e)
      have ha := upU _ _ ha
      refine ex2 (inv.get hkx) fun f' d hx22 => ?_
      refine and3 hx22 fun hd hin _ => ?_
      clear hx22
      have hin := hin.mono upU
      repeat cell_call
      refine itemT S2 ha (j := 1) rfl rfl (by decide) ?_
      repeat cell_call
      have enn := hin.notNone
      rw [take_next hkx, List.filter_append]
      refine iteB (fun e => ?_) (fun e => ?_)
      · repeat cell_call
        refine ⟨_, _, _, _, rfl, by rw [mask_no]; exact S2, ?_⟩
        rw [List.filter_cons_of_pos (by rw [← enn]; exact e), List.filter_nil]
        exact inv2.snoc ha
      · refine ⟨_, _, _, _, rfl, by rw [mask_no]; exact S2, ?_⟩
        rw [List.filter_cons_of_neg (by rw [← enn, e]; exact Bool.false_ne_true), List.filter_nil, List.append_nil]
        exact inv2
    case done2 =>
      intro D3 zs U3 h3 t S3 uD3 bD3 hD3 g g' inv2 hl3
      rw [List.size_toArray, yl, List.take_length] at inv2
      repeat cell_call
      have keq := inv.keep
      have nd1 : (more.map (·.1)).Nodup := by rw [kq]; exact od.2.1
      have nd2 : ((more.filter fun e => Mine.notNone e.2).map (·.1)).Nodup := ((List.filter_sublist (l := more) (p := fun e => Mine.notNone e.2)).map (·.1)).nodup nd1
      have ksub : (more.filter fun e => Mine.notNone e.2).length ≤ more.length := List.length_filter_le ..
      refine dictOfPairs S3 Z put_self (inv2.mono (put_old uD3)) nd2 (by rw [ml] at ksub; exact Nat.le_trans ksub (Nat.le_trans od.1 (by decide))) o.deeper.hh fun d ob h4 t4 S4 gd hd0 dm hdo => ?_
      have kh := old_in S3 up sL
      have frD : h0.get? d = none := by
        cases e : h0.get? d with
        | none => rfl
        | some o => have := kh _ _ e; rw [hd0] at this; (first | with_reducible exact no_some this | with_reducible exact some_no this | with_reducible exact no_bool this | with_reducible exact no_bool' this | cases this)
      have upA : ∀ a o, U a = some o → put U3 D3 (lstOf zs) a = some o := fun a o e => put_old uD3 a o (g'.up a o (put_old uD a o e))
      refine k _ _ (d :: fs) _ _ (outC S4 up sL hG g1 g2 gL) (.dict put_self hdo dm (keq.mono fun a o e => put_old gd a o (upA a o e))) (fr.cons frD fun z => ?_)
      refine ex1 (inv.dom _ z) fun o e => ?_
      have := upA _ _ e
      rw [gd] at this; (first | with_reducible exact no_some this | with_reducible exact some_no this | with_reducible exact no_bool this | with_reducible exact no_bool' this | cases this)
theorem ren_spec (hT : TabOk T) : ∀ (n : Nat) (d : Ob), d.ok n = true → RenAt prog w mg mb T (2 * n + 3) d (Ob.renum T n d) := by
  intro n
  have less : ∀ {r r' : Nat} {d d' : Ob}, r ≤ r' → RenAt prog w mg mb T r d d' → RenAt prog w mg mb T r' d d' := fun hr H A E c h t G f v tv Q o => H A E c h t G f v tv Q (o.less hr)
  have wn : ∀ {d : Ob}, (d.word == (Str.ofString "ref")) = false → d.word ≠ (Str.ofString "ref") := fun h => beq_eq_false_iff_ne.mp h
  induction n with
  | zero =>
    intro d hd
    cases d with
    | array _ => (first | with_reducible exact no_some hd | with_reducible exact some_no hd | with_reducible exact no_bool hd | with_reducible exact no_bool' hd | cases hd)
    | dict _ => (first | with_reducible exact no_some hd | with_reducible exact some_no hd | with_reducible exact no_bool hd | with_reducible exact no_bool' hd | cases hd)
    | stream _ _ => (first | with_reducible exact no_some hd | with_reducible exact some_no hd | with_reducible exact no_bool hd | with_reducible exact no_bool' hd | cases hd)
    | ref x y => rw [ren_ref]; exact ren_refW x y
    | _ => exact ren_plainW _ rfl (wn (by kernel_rfl))
  | succ n ih =>
    intro d hd
    cases d with
    | array ds => exact less (by first | decide | omega) (ren_arrayW n ih ds hd)
    | dict ds => exact less (by first | decide | omega) (ren_dictW n ih ds hd)
    | stream ds oc => exact ren_streamW n (fun ds h => ren_dictW n ih ds h) ds oc hd
    | ref x y => rw [ren_ref]; exact less (by first | decide | omega) (ren_refW x y)
    | _ => exact less (by first | decide | omega) (ren_plainW _ rfl (wn (by kernel_rfl)))
end

end
section
noncomputable def dictParts (ds : List (Str × Ob)) : List Ob := abc.filterMap (keyed ds)
noncomputable def Ob.parts : Ob → List Ob
  | .array ds => ds
  | .dict ds => dictParts ds
  | .stream ds _ => dictParts ds
  | _ => []
section
variable {prog : Program} {w : World} {A : Around} {E : Value → Shared → Prop} {c : Fx} {h : Heap} {t : Nat} {mg mb m : Str → Option Value} {B G₀ G : PMap} {L a : Addr}
theorem listSeq {T : String} {vs : List Value} {o : Obj} {n : Nat} {Q : Value → Shared → Prop} (S : St B G₀ L m G h) (hT : T = "list" ∨ T = "tuple") (ha : G a = some o) (hc : o.cls = .type T) (hd : o.data = .seq vs.toArray n)
    (q : ∀ d h' n', St B G₀ L m (put G d (listOf vs.toArray n')) h' → G d = none → Q (.ref d) (c.at h' t)) (hz : vs.length ≤ sizeLine) : wpAny (model prog w) A (call (.type "list") [.ref a]) Q E (c.at h t) := by
  refine call_list_seq (s := c.at h t) a hT (S.get ha) hc hd (fun h' c' k e => ?_) (by rw [List.size_toArray]; exact hz)
  have fin := S.alloc k no_size e
  exact q _ h' c' fin.1 fin.2
end
noncomputable def PartAt (prog : Program) (w : World) (mg mb : Str → Option Value) (r : Nat) (d : Ob) : Prop :=
  ∀ (A : Around) (E : Value → Shared → Prop) (c : Fx) (h : Heap) (t : Nat) (G : PMap) (f : List Addr) (v : Value) (Q : Value → Shared → Prop), Ok r A → Bs (KK w) VV LL mg mb h.get? → (∀ a o, G a = some o → h.get? a = some o) → OIn prog w G f v d →
    (∀ a vs n fs G' h' t', Grow No G h G' h' → G' a = some (listOf vs.toArray n) → OAll prog w G' fs vs d.parts → h.get? a = none → Q (.ref a) (c.at h' t')) → wpAny (model prog w) A (call (.ref 289) [v]) Q E (c.at h t)
section
variable {prog : Program} {w : World} {mg mb : Str → Option Value}
theorem new_in {h h₁ h₂ : Heap} {L : Addr} {G₀ G : PMap} {m : Str → Option Value} {D : Addr} (S : St (mask (fun a => No a ∨ a = L) h₁.get?) G₀ L m G h₂) (up : ∀ b o, h.get? b = some o → h₁.get? b = some o) (sL : h.get? L = none) (hD : h₂.get? D = none) : h.get? D = none := by
  cases e : h.get? D with
  | none => rfl
  | some o => have := old_in S up sL _ _ e; rw [hD] at this; (first | with_reducible exact no_some this | with_reducible exact some_no this | with_reducible exact no_bool this | with_reducible exact no_bool' this | cases this)
theorem fresh0 {h h₁ h₂ h₃ : Heap} {L : Addr} {G₀ G : PMap} {m m' : Str → Option Value} {a : Addr} {o : Obj} (S : St (mask (fun a => No a ∨ a = L) h₁.get?) G₀ L m G h₂) (gn : G a = none) (S' : St (mask (fun a => No a ∨ a = L) h₁.get?) G₀ L m' (put G a o) h₃) (up : ∀ b o, h.get? b = some o → h₁.get? b = some o) : h.get? a = none := by
  have e : mask (fun a => No a ∨ a = L) h₁.get? a = none := by
    rcases (S'.sub a o put_self).2.2 with e | e
    · have := S.mono a o e; rw [gn] at this; (first | with_reducible exact no_some this | with_reducible exact some_no this | with_reducible exact no_bool this | with_reducible exact no_bool' this | cases this)
    · exact e
  rw [mask_out fun z => z.elim (fun z => z) (S'.sub a o put_self).2.1] at e
  cases q : h.get? a with
  | none => rfl
  | some o => rw [up a o q] at e; (first | with_reducible exact no_some e | with_reducible exact some_no e | with_reducible exact no_bool e | with_reducible exact no_bool' e | cases e)
theorem parts_plain (d : Ob) (hd : d.isPlain = true) : PartAt prog w mg mb 3 d := by
  intro A E c h0 t G f v Q o Z hG hv k
  refine' enterCl (m := none_) (cm := upd none_ (Str.ofString "value") v) No [((Str.ofString "value"), v)] o.room Z.no hG ?hw ?ho ?hcd ?hb ?hl ?hc ?hm ?hcm ?_ ?c1 ?c2 ?c3
  case ho => exact rfl
  case hw => exact no_ne
  case hcd => kernel_rfl
  case hb => exact BindsTo.of_eq rfl
  case hl => kernel_rfl
  case hc => decide +kernel
  case hm => intro L; kernel_rfl
  case hcm => intro L; kernel_rfl
  case c1 => exact rfl
  case c2 => exact rfl
  case c3 => exact rfl
  intro L h₁ t₁ G₁ g1 g2 ce S Z gL sL up
  rw [mask_no] at S
  have cv := cellIn ce (Str.ofString "value") (a := L + 1) (by kernel_rfl) upd_here
  have hv := hv.mono g1
  repeat cell_call
  refine kind_spec (o.deeper.less (by first | decide | omega)) (Z.at_ S) (fun _ _ e => S.get e) hv (fun u h t g => ?_)
  have S := S.grow0 g
  have e1 : (d.word == (Str.ofString "array")) = false := by cases d <;> first | rfl | (first | with_reducible exact no_some hd | with_reducible exact some_no hd | with_reducible exact no_bool hd | with_reducible exact no_bool' hd | cases hd)
  have e2 : (d.word == (Str.ofString "dict")) = false := by cases d <;> first | rfl | (first | with_reducible exact no_some hd | with_reducible exact some_no hd | with_reducible exact no_bool hd | with_reducible exact no_bool' hd | cases hd)
  have e3 : (d.word == (Str.ofString "stream")) = false := by cases d <;> first | rfl | (first | with_reducible exact no_some hd | with_reducible exact some_no hd | with_reducible exact no_bool hd | with_reducible exact no_bool' hd | cases hd)
  have e4 : d.parts = [] := by cases d <;> first | rfl | (first | with_reducible exact no_some hd | with_reducible exact some_no hd | with_reducible exact no_bool hd | with_reducible exact no_bool' hd | cases hd)
  repeat cell_call
  refine iteF e1 ?_
  repeat cell_call
  refine iteF e2 ?_
  repeat cell_call
  refine iteF e3 ?_
  repeat cell_call
  rename_i a h4 S4 ga
  exact k _ [] 0 [] _ _ _ (outC S4 up sL hG g1 g2 gL) put_self (by rw [e4]; exact .nil) (fresh0 (by assumption) ga S4 up)
theorem parts_array (ds : List Ob) (hl : ds.length ≤ 3) : PartAt prog w mg mb 3 (.array ds) := by
  intro A E c h0 t G f v Q o Z hG hv k
  refine' enterCl (m := none_) (cm := upd none_ (Str.ofString "value") v) No [((Str.ofString "value"), v)] o.room Z.no hG ?hw ?ho ?hcd ?hb ?hl ?hc ?hm ?hcm ?_ ?c1 ?c2 ?c3
  case ho => exact rfl
  case hw => exact no_ne
  case hcd => kernel_rfl
  case hb => exact BindsTo.of_eq rfl
  case hl => kernel_rfl
  case hc => decide +kernel
  case hm => intro L; kernel_rfl
  case hcm => intro L; kernel_rfl
  case c1 => exact rfl
  case c2 => exact rfl
  case c3 => exact rfl
  intro L h₁ t₁ G₁ g1 g2 ce S Z gL sL up
  rw [mask_no] at S
  have cv := cellIn ce (Str.ofString "value") (a := L + 1) (by kernel_rfl) upd_here
  have hv := hv.mono g1
  have hv' := hv
  cases hv using OIn.arrayE with
  | k va vs vn fs hd1 he =>
  repeat cell_call
  refine kind_spec (o.deeper.less (by first | decide | omega)) (Z.at_ S) (fun _ _ e => S.get e) hv' (fun u h t g => ?_)
  have S := S.grow0 g
  repeat cell_call
  rename St _ _ _ _ _ _ => S2
  have hlen := he.length
  refine listSeq S2 (.inl rfl) (atUp S2 hd1) rfl rfl (fun d h3 n' S3 gd => ?_) (by rw [hlen]; exact Nat.le_trans hl (by decide))
  exact k _ _ _ _ _ _ _ (outC S3 up sL hG g1 g2 gL) put_self (he.mono fun a o e => put_old gd a o (S2.mono a o e)) (fresh0 S2 gd S3 up)
theorem parts_dict (ds : List (Str × Ob)) (hl : ds.length ≤ 3) (hn : (ds.map (·.1)).Nodup) (hk : ∀ k ∈ ds.map (·.1), k ∈ abc) : PartAt prog w mg mb 3 (.dict ds) := by
  intro A E c h0 t G f v Q o Z hG hv k
  refine' enterCl (m := none_) (cm := upd none_ (Str.ofString "value") v) No [((Str.ofString "value"), v)] o.room Z.no hG ?hw ?ho ?hcd ?hb ?hl ?hc ?hm ?hcm ?_ ?c1 ?c2 ?c3
  case ho => exact rfl
  case hw => exact no_ne
  case hcd => kernel_rfl
  case hb => exact BindsTo.of_eq rfl
  case hl => kernel_rfl
  case hc => decide +kernel
  case hm => intro L; kernel_rfl
  case hcm => intro L; kernel_rfl
  case c1 => exact rfl
  case c2 => exact rfl
  case c3 => exact rfl
  intro L h₁ t₁ G₁ g1 g2 ce S Z gL sL up
  rw [mask_no] at S
  have cv := cellIn ce (Str.ofString "value") (a := L + 1) (by kernel_rfl) upd_here
  have hv := hv.mono g1
  have hv' := hv
  cases hv using OIn.dictE with
  | k va ob kvs fs hd1 hd2 hd3 he =>
  repeat cell_call
  refine kind_spec (o.deeper.less (by first | decide | omega)) (Z.at_ S) (fun _ _ e => S.get e) hv' (fun u h t g => ?_)
  have S := S.grow0 g
  repeat cell_call
  rename St _ _ _ _ _ _ => S2
  refine eval_comp (cl := [((Str.ofString "value"), L + 1)]) (by kernel_rfl) ?_
  repeat cell_call
  have kk := he.keys
  refine sortedD S2 (atUp S2 hd1) hd2 hd3 o.deeper.hh (by rw [he.length]; exact Nat.lt_of_le_of_lt hl (by decide)) (fun D nD h3 t3 vs ss S3 gD sA sP sS => ?_)
  have ess := sorted_abc sP (kk ▸ hn) (fun k h => hk k (kk ▸ h)) sS
  have k0 := old_in S3 up sL
  refine comp_at (W := No) (P := fun i v => vs.toArray[i]? = some v) (n := vs.toArray.size) (fun i ys U => ∃ fs, OAll prog w U fs ys ((ss.take i).filterMap (keyed ds))) S3 Z (Src.list o.deeper.hh ⟨_, S3.get put_self, rfl, nD, rfl⟩ (fun z => z)) no_B (fun _ _ _ _ => no_ne) ?sz ⟨[], .nil⟩ ?turn ?done
  case sz => rw [List.size_toArray, strs_len sA, sP.length_eq, List.length_map, he.length]; exact Nat.le_trans hl (by decide)
  case turn =>
    intro i v ys U h t C m₂ hi hv g S Z hm hi0_14 hl
    refine ex1 (hi0_14) fun fs inv => ?_
    clear hi0_14
    rw [mask_no] at S
    have upU : ∀ a o, G₁ a = some o → U a = some o := fun a o e => g.up a o (S3.mono a o e)
    have cvU := cv.mono upU
    have hdU := upU _ _ hd1
    refine ex2 (strs_at sA (by simpa using hv)) fun k u hx3 => ?_
    refine and2 hx3 fun hk er3_3 => ?_
    clear hx3
    subst er3_3
    have hkm : k ∈ ds.map (·.1) := by rw [← kk]; exact sP.mem_iff.mp (List.mem_of_getElem? hk)
    refine ex1 (keyed_of_mem hkm) fun d hkd => ?_
    refine ex2 (he.value hkd) fun f' vv hx5 => ?_
    refine and3 hx5 fun hval hin _ => ?_
    clear hx5
    have hin := hin.mono upU
    repeat cell_call
    refine ⟨_, _, _, _, rfl, by rw [mask_no]; exact S, fs ++ f', ?_⟩
    rw [take_next hk, List.filterMap_append, show List.filterMap (keyed ds) [k] = [d] by simp [hkd]]
    exact inv.snoc hin
  case done =>
    intro D2 ys U h' t S uD bD hD g g' hi5_11 hl
    refine ex1 (hi5_11) fun fs inv => ?_
    clear hi5_11
    rw [List.size_toArray, strs_len sA, List.take_length] at inv
    have frD := new_in S3 up sL hD
    have ep : ss.filterMap (keyed ds) = dictParts ds := by
      rw [ess, kk]
      unfold dictParts
      rw [List.filterMap_filter]
      congr 1
      funext k
      by_cases hm : k ∈ ds.map (·.1)
      · rw [if_pos (List.contains_iff_mem.mpr hm)]
      · rw [if_neg (fun z => hm (List.contains_iff_mem.mp z)), keyed_none hm]
    rw [ep] at inv
    exact k _ _ _ _ _ _ _ (outC S up sL hG g1 g2 gL) put_self (inv.mono (put_old uD)) frD
theorem parts_stream (ds : List (Str × Ob)) (oc : Array UInt8) (hl : ds.length ≤ 3) (hn : (ds.map (·.1)).Nodup) (hk : ∀ k ∈ ds.map (·.1), k ∈ abc) : PartAt prog w mg mb 4 (.stream ds oc) := by
  intro A E c h0 t G f v Q o Z hG hv k
  refine' enterCl (m := none_) (cm := upd none_ (Str.ofString "value") v) No [((Str.ofString "value"), v)] o.room Z.no hG ?hw ?ho ?hcd ?hb ?hl ?hc ?hm ?hcm ?_ ?c1 ?c2 ?c3
  case ho => exact rfl
  case hw => exact no_ne
  case hcd => kernel_rfl
  case hb => exact BindsTo.of_eq rfl
  case hl => kernel_rfl
  case hc => decide +kernel
  case hm => intro L; kernel_rfl
  case hcm => intro L; kernel_rfl
  case c1 => exact rfl
  case c2 => exact rfl
  case c3 => exact rfl
  intro L h₁ t₁ G₁ g1 g2 ce S Z gL sL up
  rw [mask_no] at S
  have cv := cellIn ce (Str.ofString "value") (a := L + 1) (by kernel_rfl) upd_here
  have hv := hv.mono g1
  have hv' := hv
  cases hv using OIn.streamE with
  | k a dx es n' hv fs tt i1 i2 q1 q2 hin =>
  have hh := hin.handed
  repeat cell_call
  refine kind_spec (o.deeper.less (by first | decide | omega)) (Z.at_ S) (fun _ _ e => S.get e) hv' (fun u h t g => ?_)
  have S := S.grow0 g
  repeat cell_call
  rename St _ _ _ _ _ _ => S0
  refine parts_dict ds hl hn hk _ _ _ _ _ _ _ _ _ (o.deeper.less (by first | decide | omega)) (Z.at_ S0) (fun _ _ e => S0.get e) (oinUp S0 hin) (fun a vs n fs G' h t g3 ha hall hnew => ?_)
  have S := S0.grow0 g3
  exact k _ _ _ _ _ _ _ (outC S up sL hG g1 g2 gL) ha hall (new_in S0 up sL hnew)
theorem ok_dictS {n : Nat} {ds : List (Str × Ob)} (h : (Ob.dict ds).ok n = true) : ds.length ≤ 3 ∧ (ds.map (·.1)).Nodup ∧ ∀ k ∈ ds.map (·.1), k ∈ abc := by
  cases n with
  | zero => (first | with_reducible exact no_some h | with_reducible exact some_no h | with_reducible exact no_bool h | with_reducible exact no_bool' h | cases h)
  | succ n =>
    have od := ok_dict h
    refine ⟨od.1, od.2.1, fun k hk => ?_⟩
    refine ex1 (List.mem_map.mp hk) fun e hx8 => ?_
    refine and2 hx8 fun he er8_2 => ?_
    clear hx8
    subst er8_2
    exact (od.2.2 e.1 e.2 he).1
theorem parts_spec {n : Nat} {d : Ob} (h : d.ok n = true) : PartAt prog w mg mb 4 d := by
  have less : ∀ {r r' : Nat} {d : Ob}, r ≤ r' → PartAt prog w mg mb r d → PartAt prog w mg mb r' d := fun hr H A E c h t G f v Q o => H A E c h t G f v Q (o.less hr)
  cases d with
  | array ds => cases n with | zero => cases h | succ n => exact less (by first | decide | omega) (parts_array ds (ok_array h).1)
  | dict ds => have := ok_dictS h; exact less (by first | decide | omega) (parts_dict ds this.1 this.2.1 this.2.2)
  | stream ds oc => cases n with | zero => cases h | succ n => have := ok_dictS (ok_stream h).1; exact parts_stream ds oc this.1 this.2.1 this.2.2
  | _ => exact less (by first | decide | omega) (parts_plain _ rfl)
end

end
section
noncomputable def glue (W : Addr → Prop) (U G' : PMap) : PMap := fun a => match U a with
  | some o => some o
  | none => G' a
section
variable {W : Addr → Prop} {U G G' : PMap} {h h' : Heap} {a : Addr} {o : Obj}
theorem glue_old (e : U a = some o) : glue W U G' a = some o := by unfold glue; rw [e]
theorem mask_put (ha : W a) : mask W (put U a o) = mask W U := by
  funext b
  by_cases hb : W b
  · rw [mask_in hb, mask_in hb]
  · rw [mask_out hb, mask_out hb, put_ne fun z => hb (by rw [z]; exact ha)]
theorem mask_put_old (hn : U a = none) : ∀ b ob, mask W U b = some ob → mask W (put U a o) b = some ob := fun b ob e => by
  refine and2 (of_mask e) fun n e => ?_
  rw [mask_out n]; exact put_old hn b ob e
theorem mask_sub : ∀ b ob, mask W U b = some ob → U b = some ob := fun b ob e => (of_mask e).2
theorem mask_mono (k : ∀ a o, U a = some o → G' a = some o) : ∀ b ob, mask W U b = some ob → mask W G' b = some ob := fun b ob e => by
  refine and2 (of_mask e) fun n e => ?_
  rw [mask_out n]; exact k b ob e
theorem Grow.glue (g : Grow No (mask W U) h G' h') (hU : ∀ a o, U a = some o → h.get? a = some o) (hW : ∀ a, W a → U a ≠ none) : Grow No U h (glue W U G') h' ∧ (∀ a o, G' a = some o → mask W (Mine.glue W U G') a = some o) := by
  refine ⟨⟨g.keep, fun a o _ e => glue_old e, fun a o e => ?_⟩, fun a o e => ?_⟩
  · unfold Mine.glue at e
    cases u : U a with
    | some o' =>
      rw [u] at e; (first | with_reducible exact no_some e | with_reducible exact some_no e | with_reducible exact no_bool e | with_reducible exact no_bool' e | cases e)
      exact ⟨g.keep a o (fun z => z) (hU a o u), .inl (Option.some_ne_none _)⟩
    | none =>
      rw [u] at e
      refine and2 (g.sub a o e) fun h1 h2 => ?_
      refine ⟨h1, .inr ?_⟩
      rcases h2 with h2 | h2
      · by_cases w : W a
        · exact absurd u (hW a w)
        · rw [mask_out w] at h2; exact absurd u h2
      · exact h2
  · have nw : ¬ W a := fun w => by
      rcases (g.sub a o e).2 with q | q
      · exact q (mask_in w)
      · refine ex1 (Option.ne_none_iff_exists'.mp (hW a w)) fun o' z => ?_
        rw [hU a o' z] at q; (first | with_reducible exact no_some q | with_reducible exact some_no q | with_reducible exact no_bool q | with_reducible exact no_bool' q | cases q)
    rw [mask_out nw]
    unfold Mine.glue
    cases u : U a with
    | none => exact e
    | some o' =>
      have h1 := g.mono a o' (fun z => z) (by rw [mask_out nw]; exact u)
      rw [e] at h1; cases h1; rfl
end
noncomputable def Ob.refs : Nat → Ob → List (Int × Int)
  | _, .ref a b => [(a, b)]
  | n + 1, d => d.parts.flatMap fun x => Ob.refs n x
  | 0, _ => []
noncomputable def Ob.nodes : Nat → Ob → Nat
  | n + 1, d => 1 + (d.parts.map fun x => Ob.nodes n x).sum
  | 0, _ => 1
noncomputable def addNew (F : List (Int × Int)) (p : Int × Int) : List (Int × Int) := if p ∈ F then F else F ++ [p]
abbrev Stack := List (Nat × Ob)
noncomputable def Stack.refs (s : Stack) : List (Int × Int) := s.reverse.flatMap fun e => Ob.refs e.1 e.2
noncomputable def Stack.size (s : Stack) : Nat := (s.map fun e => Ob.nodes e.1 e.2).sum
theorem parts_ok {n : Nat} {d : Ob} (h : d.ok (n + 1) = true) : ∀ x ∈ d.parts, x.ok n = true := by
  have dp : ∀ {ds : List (Str × Ob)}, (Ob.dict ds).ok (n + 1) = true → ∀ x ∈ dictParts ds, x.ok n = true := fun h x hx => by
    refine ex1 (List.mem_filterMap.mp hx) fun k hx5 => ?_
    refine and2 hx5 fun _ hk => ?_
    clear hx5
    exact ((ok_dict h).2.2 k x (keyed_mem hk)).2
  intro x hx
  cases d with
  | array ds => exact (ok_array h).2 x hx
  | dict ds => exact dp h x hx
  | stream ds o => exact dp (ok_stream h).1 x hx
  | _ => (first | with_reducible exact no_some hx | with_reducible exact some_no hx | with_reducible exact no_bool hx | with_reducible exact no_bool' hx | cases hx)
theorem parts_len {n : Nat} {d : Ob} (h : d.ok n = true) : d.parts.length ≤ 3 := by
  have dp : ∀ {ds : List (Str × Ob)}, (dictParts ds).length ≤ 3 := fun {ds} => Nat.le_trans (List.length_filterMap_le ..) (by decide)
  cases d with
  | array ds => cases n with | zero => cases h | succ n => exact (ok_array h).1
  | dict ds => exact dp
  | stream ds o => exact dp
  | _ => exact Nat.zero_le _
theorem parts_none {d : Ob} (h : d.ok 0 = true) : d.parts = [] := by cases d <;> first | rfl | (first | with_reducible exact no_some h | with_reducible exact some_no h | with_reducible exact no_bool h | with_reducible exact no_bool' h | cases h)
theorem nodes_pos (n : Nat) (d : Ob) : 1 ≤ Ob.nodes n d := by cases n with | zero => exact Nat.le_refl _ | succ n => exact Nat.le_add_right ..
theorem nodes_le : ∀ (n : Nat) (d : Ob), d.ok n = true → Ob.nodes n d ≤ 4 ^ n := by
  intro n
  induction n with
  | zero => intro d _; exact Nat.le_refl _
  | succ n ih =>
    intro d h
    have hs : ∀ (l : List Ob), (∀ x ∈ l, x.ok n = true) → (l.map fun x => Ob.nodes n x).sum ≤ l.length * 4 ^ n := by
      intro l
      induction l with
      | nil => intro _; exact Nat.zero_le _
      | cons x l ihl =>
        intro hl
        rw [List.map_cons, List.sum_cons, List.length_cons, Nat.succ_mul]
        have := ih x (hl x List.mem_cons_self)
        have := ihl fun y hy => hl y (List.mem_cons_of_mem _ hy)
        omega
    have := hs d.parts (parts_ok h)
    have h3 := Nat.mul_le_mul_right (4 ^ n) (parts_len h)
    have hp : 0 < 4 ^ n := Nat.pow_pos (by decide)
    show 1 + _ ≤ 4 ^ n * 4
    omega
theorem refs_step {n : Nat} {d : Ob} (hd : d.word ≠ (Str.ofString "ref")) : Ob.refs n d = match n with
    | n + 1 => d.parts.flatMap fun x => Ob.refs n x
    | 0 => [] := by
  cases d with
  | ref _ _ => exact absurd rfl hd
  | _ => cases n <;> rfl
noncomputable def lower : Nat → Ob → Stack
  | n + 1, d => d.parts.map fun x => (n, x)
  | 0, _ => []
theorem lower_refs {n : Nat} {d : Ob} (hd : d.word ≠ (Str.ofString "ref")) : Stack.refs (lower n d).reverse = Ob.refs n d := by
  rw [refs_step hd]
  unfold Stack.refs
  rw [List.reverse_reverse]
  cases n with
  | zero => rfl
  | succ n => unfold lower; rw [List.flatMap_map]
theorem lower_size {n : Nat} {d : Ob} : Stack.size (lower n d).reverse + 1 = Ob.nodes n d := by
  cases n with
  | zero => rfl
  | succ n =>
    show _ = 1 + _
    unfold Stack.size lower
    rw [List.map_reverse, List.sum_reverse, List.map_map, Nat.add_comm]
    rfl
theorem lower_obs {n : Nat} {d : Ob} (h : d.ok n = true) : (lower n d).map (·.2) = d.parts := by
  cases n with
  | zero => rw [parts_none h]; rfl
  | succ n => unfold lower; rw [List.map_map]; simp [Function.comp_def]
theorem lower_ok {n : Nat} {d : Ob} (h : d.ok n = true) : ∀ e ∈ lower n d, e.2.ok e.1 = true := by
  cases n with
  | zero => intro e he; (first | with_reducible exact no_some he | with_reducible exact some_no he | with_reducible exact no_bool he | with_reducible exact no_bool' he | cases he)
  | succ n =>
    intro e he
    refine ex1 (List.mem_map.mp he) fun x hx6 => ?_
    refine and2 hx6 fun hx er6_2 => ?_
    clear hx6
    subst er6_2
    exact parts_ok h x hx
theorem stack_refs {s t : Stack} : Stack.refs (s ++ t) = t.refs ++ s.refs := by unfold Stack.refs; rw [List.reverse_append, List.flatMap_append]
theorem stack_size {s t : Stack} : Stack.size (s ++ t) = s.size + t.size := by unfold Stack.size; rw [List.map_append, List.sum_append]
theorem stack_len (s : Stack) : s.length ≤ s.size := by
  induction s with
  | nil => exact Nat.le_refl _
  | cons e s ih =>
    have := nodes_pos e.1 e.2
    unfold Stack.size at *
    rw [List.map_cons, List.sum_cons, List.length_cons]; omega

end
section
noncomputable def rowP (p : Int × Int) : Rw := .tup [.int p.1, .int p.2]
theorem isRef (d : Ob) : (∃ a b, d = .ref a b) ∨ (isiB d.ty (.ref 242) = false ∧ d.word ≠ (Str.ofString "ref")) := by
  have ne : ∀ {d : Ob}, (d.word == (Str.ofString "ref")) = false → d.word ≠ (Str.ofString "ref") := fun h => beq_eq_false_iff_ne.mp h
  cases d with
  | ref a b => exact .inl ⟨a, b, rfl⟩
  | _ => exact .inr ⟨by kernel_rfl, ne (by kernel_rfl)⟩
section
variable {prog : Program} {w : World} {A : Around} {E : Value → Shared → Prop} {s : Shared} {c : Fx} {h : Heap} {t : Nat} {mg mb m : Str → Option Value} {B G₀ G : PMap} {L : Addr} {env : Env}
theorem truthyL {l : Addr} {vs : List Value} {n : Nat} {Q : Bool → Shared → Prop} (S : St B G₀ L m G h) (hl : G l = some (listOf vs.toArray n)) (hz : vs.length ≤ 1000000) (q : ∀ t', Q (!vs.isEmpty) (c.at h t')) : wpAny (model prog w) A (truthy (.ref l)) Q E (c.at h t) := by
  refine wpAny_truthy_list (s := c.at h t) (items := vs.toArray) ⟨_, S.get hl, rfl, n, rfl⟩ (by rw [List.size_toArray]; omega) ?_
  have e : vs.toArray.isEmpty = vs.isEmpty := by cases vs <;> rfl
  rw [e]; exact q _
theorem mkDict {pos : Pos} {Q : Value → Shared → Prop} (S : St B G₀ L m G h) (Z : Bs (KK w) VV LL mg mb B) (q : ∀ a h', St B G₀ L m (put G a emptyDict) h' → G a = none → (a == sysModules) = false → Q (.ref a) (c.at h' t)) : wpAny (model prog w) A (eval (.Dict [] [] pos) env) Q E (c.at h t) :=
  wpAny_Dict_empty (s := c.at h t) (q _ _ (S.push (fun _ _ e => e) _) S.size (S.high Z))
end
theorem OAll.unsnoc {prog : Program} {w : World} {G : PMap} {d : Ob} : ∀ {ds : List Ob} {fs : List Addr} {vs : List Value}, OAll prog w G fs vs (ds ++ [d]) → ∃ us x fs' f', vs = us ++ [x] ∧ OAll prog w G fs' us ds ∧ OIn prog w G f' x d := by
  intro ds
  induction ds with
  | nil =>
    intro fs vs H
    cases H with
    | @cons f fs v vs _ _ q r =>
      (first | with_reducible exact no_some r | with_reducible exact some_no r | with_reducible exact no_bool r | with_reducible exact no_bool' r | cases r)
      exact ⟨[], _, [], _, rfl, .nil, q⟩
  | cons d' ds ih =>
    intro fs vs H
    cases H with
    | @cons f fs v vs _ _ q r =>
      refine ex4 (ih r) fun us x fs' f' hx1 => ?_
      refine and3 hx1 fun e a b => ?_
      clear hx1
      exact ⟨v :: us, x, _, f', by rw [e]; rfl, .cons q a, b⟩
theorem OAll.rev {prog : Program} {w : World} {G : PMap} {fs : List Addr} {vs : List Value} {ds : List Ob} (H : OAll prog w G fs vs ds) : ∃ fs', OAll prog w G fs' vs.reverse ds.reverse := by
  refine H.ind (P := fun _ vs ds => ∃ fs', OAll prog w G fs' vs.reverse ds.reverse) ⟨[], .nil⟩ fun q _ r => ?_
  obtain ⟨fs', x⟩ := r
  rw [List.reverse_cons, List.reverse_cons]
  exact ⟨_, x.snoc q⟩
theorem mk_PIn {prog : Program} {w : World} {W : Addr → Prop} {U : PMap} {a : Addr} {xs : List ((Int × Int) × Addr × Value)} {F : List (Int × Int)} (e : ∃ o es ep, U a = some o ∧ o.ExactDict ∧ o.data = .dict es ep ∧ es.toList = (xs.map conv).map (entryOfKey (pk prog w))) (hk : ∀ x ∈ xs, PairAt (mask W U) x.2.1 x.1)
    (hF : xs.map (·.1) = F) (hn : F.Nodup) (hs : (a == sysModules) = false) : PIn prog w U a xs := ⟨e, fun x hx => (hk x hx).mono mask_sub, by rw [hF]; exact hn, hs⟩
theorem St.call {B₀ G₀ U G' : PMap} {L : Addr} {m : Str → Option Value} {h h' : Heap} {W : Addr → Prop} (S : St B₀ G₀ L m U h) (g : Grow No (mask W U) h G' h') (hW : ∀ a, W a → U a ≠ none) : ∃ U', St B₀ G₀ L m U' h' ∧ (∀ a o, U a = some o → U' a = some o) ∧ ∀ a o, G' a = some o → mask W U' a = some o := by
  refine and2 (g.glue (fun a o e => S.get e) hW) fun a b => ?_
  exact ⟨_, S.grow0 a, fun _ _ e => glue_old e, b⟩
theorem pairCall {prog : Program} {w : World} {A : Around} {E : Value → Shared → Prop} {c : Fx} {h : Heap} {t : Nat} {mg mb m : Str → Option Value} {B G₀ U : PMap} {L a : Addr} {env : Env} {W : Addr → Prop} {f : List Addr} {x y : Int} {pos : Pos} {pl : Sem Bool} {Q : Value → Shared → Prop}
    (S : St B G₀ L m U h) (Z : Bs (KK w) VV LL mg mb B) (o : Ok 1 A) (hv : OIn prog w (mask W U) f (.ref a) (.ref x y)) (hW : ∀ a, W a → U a ≠ none)
    (q : ∀ b U' h' t', St B G₀ L m U' h' → (∀ a o, U a = some o → U' a = some o) → PairAt (mask W U') b (x, y) → Q (.ref b) (c.at h' t')) :
    wpAny (model prog w) A (getMethod (.ref a) (Str.ofString "pair") pl) (fun fx s₂ => wpAny (model prog w) A (callWith pos fx.1 fx.2 (backTo pos (starEach [] env)) []) Q E s₂) E (c.at h t) := by
  have hv' := hv
  cases hv using OIn.refE with
  | k a es t1 t2 i q1 q2 q3 =>
  refine mOwn S Z (i.mono mask_sub) (by kernel_rfl) (f := 239) (by kernel_rfl) (by kernel_rfl) q3 ?_
  refine cwK0 S Z (by kernel_rfl) ?_
  refine pair_spec o (Z.at_ S) (fun _ _ e => S.get (mask_sub _ _ e)) hv' (fun b G' h' t' g hb => ?_)
  refine ex1 (S.call g hW) fun U2 hx4 => ?_
  refine and3 hx4 fun S4 uU uG => ?_
  clear hx4
  exact q b U2 h' t' S4 uU (hb.mono uG)
inductive RefInv (prog : Program) (w : World) (W : Addr → Prop) (al af as : Addr) (R : List (Int × Int)) (k : Nat) (m : Str → Option Value) (U : PMap) : Prop
  | mk (st : Stack) (lvs fvs : List Value) (F : List (Int × Int)) (xs : List ((Int × Int) × Addr × Value)) (fs : List Addr) (nl nf : Nat) (e1 : m (Str.ofString "found") = some (.ref af)) (e2 : m (Str.ofString "seen") = some (.ref as)) (e3 : m (Str.ofString "line") = some (.ref al)) (e4 : U al = some (listOf lvs.toArray nl)) (e5 : U af = some (listOf fvs.toArray nf)) (e6 : (∃ o es ep, U as = some o ∧ o.ExactDict ∧ o.data = .dict es ep ∧ es.toList = (xs.map conv).map (entryOfKey (pk prog w)))) (e7 : (∀ x ∈ xs, PairAt (mask W U) x.2.1 x.1)) (e8 : xs.map (·.1) = F) (e9 : F.Nodup) (e10 : RAll (mask W U) fvs (F.map rowP)) (e11 : OAll prog w (mask W U) fs lvs (st.map (·.2))) (e12 : (∀ e ∈ st, e.2.ok e.1 = true)) (e13 : k = st.size) (e14 : F.length + st.size ≤ 64) (e15 : st.refs.foldl addNew F = R) : RefInv prog w W al af as R k m U
section
variable {prog : Program} {w : World} {A : Around} {E : Value → Shared → Prop} {c : Fx} {h : Heap} {t : Nat} {mg mb : Str → Option Value} {G : PMap} {f : List Addr} {v : Value} {d : Ob}
theorem refs_spec {n : Nat} {Q : Value → Shared → Prop} (hn : n ≤ 3) (hd : d.ok n = true) (o : Ok 6 A) (Z : Bs (KK w) VV LL mg mb h.get?) (hG : ∀ a o, G a = some o → h.get? a = some o) (hv : OIn prog w G f v d)
    (k : ∀ a vs nl G' h' t', Grow No G h G' h' → G' a = some (listOf vs.toArray nl) → RAll G' vs (((Ob.refs n d).foldl addNew []).map rowP) → vs.length ≤ 64 → Q (.ref a) (c.at h' t')) :
    wpAny (model prog w) A (call (.ref 296) [v]) Q E (c.at h t) := by
  refine' enter No [((Str.ofString "value"), v)] o.room Z.no hG ?ho ?hcd ?hb ?hl ?hc ?hm ?_ ?c1 ?c2 ?c3
  case ho => exact rfl
  case hcd => kernel_rfl
  case hb => exact BindsTo.of_eq rfl
  case hl => kernel_rfl
  case hc => kernel_rfl
  case hm => exact binds1
  case c1 => exact rfl
  case c2 => exact rfl
  case c3 => exact rfl
  intro L h₁ t₁ S Z gL sL up
  rw [mask_no] at S
  repeat cell_call
  rename_i af hx2 Sx2 gf h2 t2 S2
  refine mkDict S2 Z (fun as h3 S3 gs hs => ?_)
  repeat cell_call
  rename_i h4 t4 S4 al hx5 Sx5 gl h5 t5 S5
  have ne1 : as ≠ af := fun e => by rw [e, put_self] at gs; (first | with_reducible exact no_some gs | with_reducible exact some_no gs | with_reducible exact no_bool gs | with_reducible exact no_bool' gs | cases gs)
  have ne2 : al ≠ as := fun e => by rw [e, put_self] at gl; (first | with_reducible exact no_some gl | with_reducible exact some_no gl | with_reducible exact no_bool gl | with_reducible exact no_bool' gl | cases gl)
  have ne3 : al ≠ af := fun e => by rw [e, put_ne (Ne.symm ne1), put_self] at gl; (first | with_reducible exact no_some gl | with_reducible exact some_no gl | with_reducible exact no_bool gl | with_reducible exact no_bool' gl | cases gl)
  let W : Addr → Prop := fun a => a = al ∨ a = af ∨ a = as
  have hWB : ∀ a, W a → mask (fun a => No a ∨ a = L) h₁.get? a = none := by
    rintro a (rfl | rfl | rfl)
    · exact S4.free gl Sx5
    · exact S.free gf Sx2
    · exact S2.free gs S3
  have hWG : ∀ a o, G a = some o → mask W (put (put (put G af (listOf [].toArray 0)) as emptyDict) al (listOf [v].toArray 0)) a = some o := fun a o e => by
    have nw : ¬ W a := by
      rintro (rfl | rfl | rfl)
      · rw [put_old gs _ _ (put_old gf _ _ e)] at gl; (first | with_reducible exact no_some gl | with_reducible exact some_no gl | with_reducible exact no_bool gl | with_reducible exact no_bool' gl | cases gl)
      · rw [e] at gf; (first | with_reducible exact no_some gf | with_reducible exact some_no gf | with_reducible exact no_bool gf | with_reducible exact no_bool' gf | cases gf)
      · rw [put_old gf _ _ e] at gs; (first | with_reducible exact no_some gs | with_reducible exact some_no gs | with_reducible exact no_bool gs | with_reducible exact no_bool' gs | cases gs)
    rw [mask_out nw]
    exact put_old gl _ _ (put_old gs _ _ (put_old gf _ _ e))
  refine while_at (W := W) (RefInv prog w W al af as ((Ob.refs n d).foldl addNew [])) (RefInv prog w W al af as ((Ob.refs n d).foldl addNew []) 0) (Stack.size [(n, d)]) S5 Z hWB ?win ?h0 ?turn ?done
  case win =>
    rintro i m' U' ⟨st, lvs, fvs, F, xs, fs, nl, nf, e1, e2, e3, e4, e5, ⟨_, _, _, e6, _⟩, _⟩ a (rfl | rfl | rfl)
    · rw [e4]; exact Option.some_ne_none _
    · rw [e5]; exact Option.some_ne_none _
    · rw [e6]; exact Option.some_ne_none _
  case h0 =>
    have hb := nodes_le n d hd
    have h4 : 4 ^ n ≤ 64 := Nat.le_trans (Nat.pow_le_pow_right (by decide) hn) (by decide)
    refine ⟨[(n, d)], [v], [], [], [], f ++ [], 0, 0, by w_left, by w_left, by w_left, put_self, by rw [put_ne (Ne.symm ne3), put_ne (Ne.symm ne1), put_self], ⟨emptyDict, #[], 0, by rw [put_ne (Ne.symm ne2), put_self], ⟨rfl, rfl, rfl⟩, rfl, rfl⟩, (fun x hx => by (first | with_reducible exact no_some hx | with_reducible exact some_no hx | with_reducible exact no_bool hx | with_reducible exact no_bool' hx | cases hx)), rfl, List.nodup_nil, .nil, .cons (hv.mono hWG) .nil, ?_, rfl, ?_, ?_⟩
    · intro e he
      rw [List.mem_singleton] at he
      subst he; exact hd
    · show 0 + (Ob.nodes n d + 0) ≤ 64
      omega
    · show List.foldl addNew [] (List.flatMap (fun e : Nat × Ob => Ob.refs e.1 e.2) [(n, d)]) = _
      rw [List.flatMap_cons, List.flatMap_nil, List.append_nil]
  case done =>
    intro m' U' h t S' g hi4_6
    obtain ⟨st, lvs, fvs, F, xs, fs, nl, nf, e1, e2, e3, e4, e5, e6, e7, e8, e9, e10, e11, e12, e13, e14, e15⟩ := hi4_6
    have hz : st.length ≤ 0 := Nat.le_trans (stack_len st) (Nat.le_of_eq e13.symm)
    have hst : st = [] := List.length_eq_zero_iff.mp (Nat.le_zero.mp hz)
    subst hst
    have e15 : F = _ := e15
    repeat cell_call
    refine k af fvs nf _ _ _ (out0 S' up sL hG gL) e5 ?_ ?_
    · rw [← e15]; exact e10.mono mask_sub
    · rw [e10.length, List.length_map]; exact Nat.le_trans (Nat.le_add_right ..) e14
  case turn =>
    intro k m' U' h t g S' Z hi6_8
    obtain ⟨st, lvs, fvs, F, xs, fs, nl, nf, e1, e2, e3, e4, e5, e6, e7, e8, e9, e10, e11, e12, e13, e14, e15⟩ := hi6_8
    have ll : lvs.length = st.length := by have := e11.length; rw [List.length_map] at this; exact this
    have sl := stack_len st
    refine t_plain ?_
    repeat cell_call
    refine truthyL S' e4 (by first | decide | omega) (fun t => ?_)
    have hu : ∀ env, (A.deeper env).units + 1 < cLine := fun env => by have := (o.deeper (env := env)).units; show _ < 9900; omega
    rcases List.eq_nil_or_concat st with rfl | ⟨st', e, rfl⟩
    · obtain rfl : lvs = [] := List.length_eq_zero_iff.mp ll
      refine iteF rfl ?_
      exact ⟨_, _, _, _, rfl, S', ⟨[], [], fvs, F, xs, fs, nl, nf, e1, e2, e3, e4, e5, e6, e7, e8, e9, e10, e11, e12, rfl, e14, e15⟩⟩
    rw [List.concat_eq_append] at *
    rw [List.map_append] at e11
    refine ex4 (e11.unsnoc) fun us x fs' f' hx9 => ?_
    refine and3 hx9 fun er9_4 ea eb => ?_
    clear hx9
    subst er9_4
    have lb : (us ++ [x]).length ≤ 64 := by rw [ll]; exact Nat.le_trans sl (Nat.le_trans (Nat.le_add_left ..) e14)
    refine iteT (by cases us <;> rfl) ?_
    repeat cell_call
    refine e_meth (fun pl => ?_)
    repeat cell_call
    refine mList S' e4 PySem.F.slot_list_pop PySem.F.type_list_pop ?_
    refine cwB0 ?_
    have Wal : W al := .inl rfl
    have Waf : W af := .inr (.inl rfl)
    have Was : W as := .inr (.inr rfl)
    have hB : ∀ {a}, W a → mask (fun a => W a ∨ a = L) h.get? a = none := fun z => mask_in (.inl z)
    refine popL S' e4 (hB Wal) (Nat.le_trans lb (by decide)) (fun h2 n2 S2 => ?_)
    have m1 := mask_put (U := U') (o := listOf us.toArray n2) Wal
    rw [← m1] at e7 e10 ea eb
    have f5 : put U' al (listOf us.toArray n2) af = _ := (put_ne (Ne.symm ne3)).trans e5
    have f6 : ∃ o es ep, put U' al (listOf us.toArray n2) as = some o ∧ o.ExactDict ∧ o.data = .dict es ep ∧ es.toList = (xs.map conv).map (entryOfKey (pk prog w)) := by
      refine ex3 (e6) fun o es ep hx10 => ?_
      refine and2 hx10 fun z r => ?_
      clear hx10
      try clear e6
      exact ⟨o, es, ep, (put_ne (Ne.symm ne2)).trans z, r⟩
    have f4 : put U' al (listOf us.toArray n2) al = _ := put_self
    generalize put U' al (listOf us.toArray n2) = U1 at *
    have hin := eb.mono mask_sub
    repeat cell_call
    have hW : ∀ a, W a → U1 a ≠ none := by
      refine ex3 (f6) fun _ _ _ hx11 => ?_
      refine and2 hx11 fun z _ => ?_
      clear hx11
      try clear f6
      rintro a (rfl | rfl | rfl)
      · rw [f4]; exact Option.some_ne_none _
      · rw [f5]; exact Option.some_ne_none _
      · rw [z]; exact Option.some_ne_none _
    clear e4 e5 e6 e11
    have ok1 : ∀ e ∈ st', e.2.ok e.1 = true := fun y hy => e12 y (List.mem_append.mpr (.inl hy))
    have ok2 : e.2.ok e.1 = true := e12 e (List.mem_append.mpr (.inr List.mem_cons_self))
    have sz : Stack.size (st' ++ [e]) = Stack.size st' + Ob.nodes e.1 e.2 := by rw [stack_size]; rfl
    have rf : Stack.refs (st' ++ [e]) = Ob.refs e.1 e.2 ++ Stack.refs st' := by
      rw [stack_refs]
      congr 1
      show List.flatMap (fun e : Nat × Ob => Ob.refs e.1 e.2) [e] = _
      rw [List.flatMap_cons, List.flatMap_nil, List.append_nil]
    have np := nodes_pos e.1 e.2
    rename St _ _ _ _ U1 _ => S3
    obtain ⟨en, ed⟩ := e
    dsimp only at *
    rcases isRef ed with ⟨ra, rb, rfl⟩ | ⟨hi, hw⟩
    · refine iteT (by kernel_rfl!) ?_
      have er : Ob.refs en (.ref ra rb) = [(ra, rb)] := by cases en <;> rfl
      rw [er] at rf
      obtain ⟨a, rfl⟩ : ∃ a, x = .ref a := by cases eb; exact ⟨_, rfl⟩
      repeat cell_call
      refine e_meth (fun pl => ?_)
      repeat cell_call
      refine pairCall S3 Z (o.deeper.less (by first | decide | omega)) eb hW (fun b U2 h' t S4 uU hb => ?_)
      repeat cell_call
      have mm := mask_mono (W := W) uU
      have e4 := uU _ _ f4
      have e5 := uU _ _ f5
      have e6 : ∃ o es ep, U2 as = some o ∧ o.ExactDict ∧ o.data = .dict es ep ∧ es.toList = (xs.map conv).map (entryOfKey (pk prog w)) := let ⟨o, es, ep, z, r⟩ := f6; ⟨o, es, ep, uU _ _ z, r⟩
      have e7 : ∀ x ∈ xs, PairAt (mask W U2) x.2.1 x.1 := fun x hx => (e7 x hx).mono mm
      have e10 := e10.mono mm
      have ea := ea.mono mm
      have eb := eb.mono mm
      have hW2 : ∀ a, W a → U2 a ≠ none := fun a z => by
        refine ex1 (Option.ne_none_iff_exists'.mp (hW a z)) fun o e => ?_
        rw [uU a o e]; exact Option.some_ne_none _
      have hP := mk_PIn e6 e7 e8 e9 hs
      refine notInP S4 hP (hb.mono mask_sub) (hu _) (fun t => ?_)
      repeat cell_call
      have e15' : List.foldl addNew (addNew F (ra, rb)) (Stack.refs st') = List.foldl addNew [] (Ob.refs n d) := by rw [← e15, rf]; rfl
      by_cases hm : (ra, rb) ∈ F
      · rw [atP_some (by rw [e8]; exact hm)]
        refine iteF rfl ?_
        repeat cell_call
        refine ⟨rfl, _, _, _, _, _, rfl, ?_, S4, ⟨st', us, fvs, F, xs, fs', n2, nf, by w_left, by w_left, by w_left, e4, e5, e6, e7, e8, e9, e10, ea, ok1, rfl, by omega, ?_⟩⟩
        · rw [e13, sz]; omega
        · rw [← e15']; unfold addNew; rw [if_pos hm]
      · rw [atP_none (by rw [e8]; exact hm)]
        refine iteT rfl ?_
        repeat cell_call
        refine e_meth (fun pl => ?_)
        repeat cell_call
        refine pairCall S4 Z (o.deeper.less (by first | decide | omega)) eb hW2 (fun b5 U5 h5 t S5 uU5 hb5 => ?_)
        repeat cell_call
        have mm5 := mask_mono (W := W) uU5
        have e6 : ∃ o es ep, U5 as = some o ∧ o.ExactDict ∧ o.data = .dict es ep ∧ es.toList = (xs.map conv).map (entryOfKey (pk prog w)) := let ⟨o, es, ep, z, r⟩ := e6; ⟨o, es, ep, uU5 _ _ z, r⟩
        have e7 : ∀ x ∈ xs, PairAt (mask W U5) x.2.1 x.1 := fun x hx => (e7 x hx).mono mm5
        have hP := mk_PIn e6 e7 e8 e9 hs
        have xl : xs.length ≤ 64 := by
          have := congrArg List.length e8
          rw [List.length_map] at this; omega
        refine setP S5 hP (hb5.mono mask_sub) (hu _) (by rw [e8]; exact hm) (hB Was) (Nat.le_trans xl (by decide)) (fun o' h6 t S6 hP6 => ?_)
        repeat cell_call
        refine e_meth (fun pl => ?_)
        repeat cell_call
        have m6 := mask_put (U := U5) (o := o') Was
        have e4 := uU5 _ _ e4
        have e5 := uU5 _ _ e5
        have g4 : put U5 as o' al = _ := (put_ne ne2).trans e4
        have g5 : put U5 as o' af = _ := (put_ne (Ne.symm ne1)).trans e5
        refine mList S6 g5 PySem.F.slot_list_append PySem.F.type_list_append ?_
        refine cwB ?_
        repeat cell_call
        refine e_meth (fun pl => ?_)
        repeat cell_call
        have eb6 : OIn prog w (mask W (put U5 as o')) f' (.ref a) (.ref ra rb) := by rw [m6]; exact eb.mono mm5
        have hW6 : ∀ a, W a → put U5 as o' a ≠ none := by
          rintro a (rfl | rfl | rfl)
          · rw [g4]; exact Option.some_ne_none _
          · rw [g5]; exact Option.some_ne_none _
          · rw [put_self]; exact Option.some_ne_none _
        refine pairCall S6 Z (o.deeper.less (by first | decide | omega)) eb6 hW6 (fun b7 U7 h7 t S7 uU7 hb7 => ?_)
        repeat cell_call
        have fl : fvs.length ≤ 64 := by rw [e10.length, List.length_map]; omega
        refine appendL S7 (uU7 _ _ g5) (hB Waf) (Nat.le_trans fl (by decide)) (fun h8 n8 S8 => ?_)
        repeat cell_call
        have mm7 := mask_mono (W := W) uU7
        have m8 := mask_put (U := U7) (o := listOf (fvs ++ [Value.ref b7]).toArray n8) Waf
        have up7 : ∀ a o, mask W U2 a = some o → mask W (put U7 af (listOf (fvs ++ [Value.ref b7]).toArray n8)) a = some o := fun a o e => by
          rw [m8]; exact mm7 a o (by rw [m6]; exact mm5 a o e)
        have up5 : ∀ a o, mask W U5 a = some o → mask W (put U7 af (listOf (fvs ++ [Value.ref b7]).toArray n8)) a = some o := fun a o e => by
          rw [m8]; exact mm7 a o (by rw [m6]; exact e)
        refine ⟨rfl, _, _, _, _, _, rfl, ?_, S8, ⟨st', us, fvs ++ [.ref b7], F ++ [(ra, rb)], xs ++ [((ra, rb), b5, .bool true)], fs', n2, n8, by w_left, by w_left, by w_left, (put_ne ne3).trans (uU7 _ _ g4), put_self, ?_, ?_, ?_, ?_, ?_, ea.mono up7, ok1, rfl, ?_, ?_⟩⟩
        · rw [e13, sz]; omega
        · refine ex3 (hP6.ex) fun o es ep hx14 => ?_
          refine and2 hx14 fun z r => ?_
          clear hx14
          exact ⟨o, es, ep, (put_ne ne1).trans (uU7 _ _ z), r⟩
        · intro x hx
          rcases List.mem_append.mp hx with hx | hx
          · exact (e7 x hx).mono up5
          · rw [List.mem_singleton] at hx
            subst hx
            exact hb5.mono up5
        · rw [List.map_append, e8]; rfl
        · rw [← e8] at hm e9 ⊢
          have := hP6.nodup
          rw [List.map_append] at this
          exact this
        · rw [List.map_append]
          exact (e10.mono up7).snoc ((hb7.mono fun a o e => by rw [m8]; exact e).row)
        · rw [List.length_append, List.length_singleton]; omega
        · rw [← e15']; unfold addNew; rw [if_neg hm]
    · refine iteF hi ?_
      repeat cell_call
      refine e_meth (fun pl => ?_)
      repeat cell_call
      refine mList S3 f4 PySem.F.slot_list_extend PySem.F.type_list_extend ?_
      refine cwB ?_
      repeat cell_call
      refine parts_spec ok2 _ _ _ _ _ _ _ _ _ (o.deeper.less (by first | decide | omega)) (Z.at_ S3) (fun _ _ e => S3.get (mask_sub _ _ e)) eb (fun pa pvs pn pfs G' h t g hpa hall hnew => ?_)
      have lnew : al ≠ pa := fun z => by rw [← z, S3.get f4] at hnew; (first | with_reducible exact no_some hnew | with_reducible exact some_no hnew | with_reducible exact no_bool hnew | with_reducible exact no_bool' hnew | cases hnew)
      refine ex1 (S3.call g hW) fun U2 hx15 => ?_
      refine and3 hx15 fun S4 uU uG => ?_
      clear hx15
      repeat cell_call
      refine revL S4 (mask_sub _ _ (uG _ _ hpa)) (fun ra h5 S5 gra => ?_)
      repeat cell_call
      have pl : pvs.length ≤ 3 := by rw [hall.length]; exact parts_len ok2
      have ul : us.length ≤ 64 := by rw [List.length_append] at lb; omega
      refine extRev S5 (put_old gra _ _ (uU _ _ f4)) put_self (put_old gra _ _ (mask_sub _ _ (uG _ _ hpa))) (hB Wal) (S4.free gra S5) lnew o.deeper.hh (by first | decide | omega) (fun G9 h9 t n9 S9 k1 k2 k3 => ?_)
      repeat cell_call
      have neW : ∀ {b}, W b → b ≠ ra := fun {b} z e => by
        refine ex1 (Option.ne_none_iff_exists'.mp (hW b z)) fun o q => ?_
        rw [e] at q; rw [uU _ _ q] at gra; (first | with_reducible exact no_some gra | with_reducible exact some_no gra | with_reducible exact no_bool gra | with_reducible exact no_bool' gra | cases gra)
      have up9 : ∀ a o, mask W U2 a = some o → mask W G9 a = some o := fun a o e => by
        refine and2 (of_mask e) fun nw e => ?_
        rw [mask_out nw]
        exact k2 a o (fun z => nw (by rw [z]; exact Wal)) (fun z => by rw [z, gra] at e; (first | with_reducible exact no_some e | with_reducible exact some_no e | with_reducible exact no_bool e | with_reducible exact no_bool' e | cases e)) (put_old gra _ _ e)
      have up1 : ∀ a o, mask W U1 a = some o → mask W G9 a = some o := fun a o e => up9 a o (mask_mono uU a o e)
      have upW : ∀ a o, W a → a ≠ al → U1 a = some o → G9 a = some o := fun a o z n e => k2 a o n (neW z) (put_old gra _ _ (uU _ _ e))
      have hall := hall.mono fun a o e => up9 a o (uG a o e)
      refine ex1 (hall.rev) fun rfs hrev => ?_
      have sz2 := lower_size (n := en) (d := ed)
      refine ⟨rfl, _, _, _, _, _, rfl, ?_, S9, ⟨st' ++ (lower en ed).reverse, us ++ pvs.reverse, fvs, F, xs, fs' ++ rfs, n9, nf, by w_left, by w_left, by w_left, k1, upW af _ Waf (Ne.symm ne3) f5, ?_, fun x hx => (e7 x hx).mono up1, e8, e9, e10.mono up1, ?_, ?_, rfl, ?_, ?_⟩⟩
      · rw [e13, sz, stack_size]; omega
      · refine ex3 (f6) fun o es ep hx19 => ?_
        refine and2 hx19 fun z r => ?_
        clear hx19
        try clear f6
        exact ⟨o, es, ep, upW as _ Was (Ne.symm ne2) z, r⟩
      · rw [List.map_append, List.map_reverse, lower_obs ok2]
        exact (ea.mono up1).append hrev
      · intro e he
        rcases List.mem_append.mp he with he | he
        · exact ok1 e he
        · exact lower_ok ok2 e (List.mem_reverse.mp he)
      · rw [stack_size]; omega
      · rw [stack_refs, lower_refs hw, ← rf]; exact e15
end

end
section
section
variable {prog : Program} {w : World} {A : Around} {E : Value → Shared → Prop} {s : Shared} {c : Fx} {h h' : Heap} {t : Nat} {mg mb m : Str → Option Value} {B G₀ G : PMap} {L a : Addr} {env : Env} {Q : Value → Shared → Prop} {vs : List Value} {n : Nat} {i j : Int} {u v : Tok}
theorem addI (q : ∀ w' t', Q (.int (i + j) w') (c.at h t')) : wpAny (model prog w) A (binaryOp .Add (.int i u) (.int j v)) Q E (c.at h t) := PyProof.Rows.add_int (s := c.at h t) (q _ _)
theorem subI (q : ∀ w' t', Q (.int (i - j) w') (c.at h t')) : wpAny (model prog w) A (binaryOp .Sub (.int i u) (.int j v)) Q E (c.at h t) := PyProof.Rows.sub_int (s := c.at h t) (q _ _)
theorem eqI (q : Q (.bool (i == j)) (c.at h t)) : wpAny (model prog w) A (compareOp .Eq (.int i u) (.int j v)) Q E (c.at h t) := PyProof.Rows.eq_int (s := c.at h t) q
theorem neI (q : Q (.bool (i != j)) (c.at h t)) : wpAny (model prog w) A (compareOp .NotEq (.int i u) (.int j v)) Q E (c.at h t) := PyProof.Rows.ne_int (s := c.at h t) q
theorem ltI (q : Q (.bool (decide (i < j))) (c.at h t)) : wpAny (model prog w) A (compareOp .Lt (.int i u) (.int j v)) Q E (c.at h t) := PyProof.Rows.lt_int (s := c.at h t) q
theorem gtI (q : Q (.bool (decide (j < i))) (c.at h t)) : wpAny (model prog w) A (compareOp .Gt (.int i u) (.int j v)) Q E (c.at h t) := PyProof.Rows.gt_int (s := c.at h t) q
theorem max2 (S : St B G₀ L m G h) (hh : A.handled = none) (q : ∀ h' t' w', St B G₀ L m G h' → Q (.int (max i j) w') (c.at h' t')) : wpAny (model prog w) A (call (.builtin "max") [.int i u, .int j v]) Q E (c.at h t) := by
  refine max_two_ints (s := c.at h t) hh fun h' tk k => ?_
  by_cases hij : j > i
  · rw [if_pos hij]
    have := q h' tk v (S.kept k)
    rwa [show max i j = j from by omega] at this
  · rw [if_neg hij]
    have := q h' tk u (S.kept k)
    rwa [show max i j = i from by omega] at this
theorem strsAre_get {vs : List Value} {ss : List Str} (H : StrsAre vs ss) : ∀ y ∈ vs, ∃ k u, y = .str k u := by
  induction H with
  | nil => intro _ h; (first | with_reducible exact no_some h | with_reducible exact some_no h | with_reducible exact no_bool h | with_reducible exact no_bool' h | cases h)
  | cons x t _ ih => intro y h; exact (List.mem_cons.mp h).elim (fun e => ⟨x, t, e⟩) (ih y)
noncomputable def strIs (x : Str) : Value → Bool
  | .str y _ => y == x
  | _ => false
theorem strIs_any {x : Str} {vs : List Value} {ss : List Str} (H : StrsAre vs ss) : vs.any (strIs x) = ss.any (· == x) := by
  induction H with
  | nil => rfl
  | cons y t _ r => rw [List.any_cons, List.any_cons, r]; rfl
theorem inStrs {x : Str} {ss : List Str} (S : St B G₀ L m G h) (ha : G a = some (tupOf vs n)) (hs : StrsAre vs ss) (q : Q (.bool (ss.any (· == x))) (c.at h t)) : wpAny (model prog w) A (compareOp .In (.str x u) (.ref a)) Q E (c.at h t) := by
  refine SeqAt.in_tupleAt (s := c.at h t) (strIs x) (items := vs.toArray) ⟨_, S.get ha, rfl, n, rfl⟩ (fun y hy => ?_) ?_
  · refine ex2 (strsAre_get hs y (by simpa using hy)) fun k w' er1_2 => ?_
    subst er1_2
    exact SeqAt.EqAt.str_str _ _ _ _
  · rw [show vs.toArray.any (strIs x) = vs.any (strIs x) by simp, strIs_any hs]; exact q
end
section
variable {prog : Program} {w : World} {A : Around} {E : Value → Shared → Prop} {env : Env} {Q : Value → Shared → Prop}
theorem e_ifJoin {test x y : Expr} {pos : Pos} (P : Value → Shared → Prop) {s : Shared} (q : wpAny (model prog w) A (isTrue test env (eval test env)) (fun z s₁ => if z = true then wpAny (model prog w) A (eval x env) P E s₁ else wpAny (model prog w) A (eval y env) P E s₁) E s)
    (k : ∀ v s', P v s' → Q v s') : wpAny (model prog w) A (eval (.IfExp test x y pos) env) Q E s := wpAny_mono (e_if q) k fun _ _ z => z
end

end
section
inductive All2 {α β : Type} (R : α → β → Prop) : List α → List β → Prop
  | nil : All2 R [] []
  | cons {a : α} {b : β} {as : List α} {bs : List β} : R a b → All2 R as bs → All2 R (a :: as) (b :: bs)
section
variable {α β : Type} {R R' : α → β → Prop}
theorem All2.mono (k : ∀ a b, R a b → R' a b) {as : List α} {bs : List β} (H : All2 R as bs) : All2 R' as bs := by
  induction H with
  | nil => exact .nil
  | cons h _ r => exact .cons (k _ _ h) r
theorem All2.length {as : List α} {bs : List β} (H : All2 R as bs) : as.length = bs.length := by
  induction H with
  | nil => rfl
  | cons _ _ r => exact congrArg (· + 1) r
theorem All2.append {as cs : List α} {bs ds : List β} (H : All2 R as bs) (q : All2 R cs ds) : All2 R (as ++ cs) (bs ++ ds) := by
  induction H with
  | nil => exact q
  | cons h _ r => exact .cons h r
theorem All2.snoc {as : List α} {bs : List β} {a : α} {b : β} (r : All2 R as bs) (h : R a b) : All2 R (as ++ [a]) (bs ++ [b]) := r.append (.cons h .nil)
theorem All2.unsnoc {b : β} : ∀ {bs : List β} {as : List α}, All2 R as (bs ++ [b]) → ∃ cs a, as = cs ++ [a] ∧ All2 R cs bs ∧ R a b := by
  intro bs
  induction bs with
  | nil =>
    intro as H
    cases H with
    | @cons a _ as _ q r =>
      (first | with_reducible exact no_some r | with_reducible exact some_no r | with_reducible exact no_bool r | with_reducible exact no_bool' r | cases r)
      exact ⟨[], a, rfl, .nil, q⟩
  | cons b' bs ih =>
    intro as H
    cases H with
    | @cons a _ as _ q r =>
      refine ex2 (ih r) fun cs a' hx1 => ?_
      refine and3 hx1 fun e x y => ?_
      clear hx1
      exact ⟨a :: cs, a', by rw [e]; rfl, .cons q x, y⟩
end
noncomputable def mx (l : List Nat) : Nat := l.foldr max 0
theorem mx_app (l r : List Nat) : mx (l ++ r) = max (mx l) (mx r) := by
  induction l with
  | nil => show mx r = max 0 (mx r); exact (Nat.zero_max _).symm
  | cons a l ih => show max a (mx (l ++ r)) = max (max a (mx l)) (mx r); rw [ih]; exact (Nat.max_assoc _ _ _).symm
theorem max4 (a b c d : Nat) : max (max a b) (max c d) = max a (max c (max b d)) := by rw [Nat.max_assoc, Nat.max_left_comm b c]
theorem mx_one (a : Nat) : mx [a] = a := by show max a 0 = a; omega
noncomputable def boxWords : List Str := [(Str.ofString "array"), (Str.ofString "dict"), (Str.ofString "stream")]
noncomputable def Ob.isBox (d : Ob) : Bool := boxWords.any (· == d.word)
theorem not_box {d : Ob} (h : d.isBox = false) : d.parts = [] := by cases d <;> first | rfl | (first | with_reducible exact no_some h | with_reducible exact some_no h | with_reducible exact no_bool h | with_reducible exact no_bool' h | cases h)
noncomputable def Ob.deep : Nat → Ob → Nat
  | n + 1, d => if d.isBox = true then 1 + mx (d.parts.map fun x => Ob.deep n x) else 0
  | 0, _ => 0
abbrev DItem := Nat × Nat × Ob
noncomputable def DItem.val (e : DItem) : Nat := if Ob.deep e.2.1 e.2.2 = 0 then 0 else e.1 + Ob.deep e.2.1 e.2.2
noncomputable def DItem.nodes (e : DItem) : Nat := Ob.nodes e.2.1 e.2.2
noncomputable def lowerD (k : Nat) : Nat → Ob → List DItem
  | n + 1, d => d.parts.map fun x => (k, n, x)
  | 0, _ => []
theorem lowerD_obs {k n : Nat} {d : Ob} (h : d.ok n = true) : (lowerD k n d).map (fun e => e.2.2) = d.parts := by
  cases n with
  | zero => rw [parts_none h]; rfl
  | succ n => unfold lowerD; rw [List.map_map]; simp [Function.comp_def]
theorem lowerD_get {k n i : Nat} {d x : Ob} (h : d.ok n = true) (hx : d.parts[i]? = some x) : ∃ n', (lowerD k n d)[i]? = some (k, n', x) := by
  cases n with
  | zero => rw [parts_none h] at hx; simp at hx
  | succ n => exact ⟨n, by unfold lowerD; rw [List.getElem?_map, hx]; rfl⟩
theorem lowerD_ok {k n : Nat} {d : Ob} (h : d.ok n = true) : ∀ e ∈ lowerD k n d, e.2.2.ok e.2.1 = true := by
  cases n with
  | zero => intro e he; (first | with_reducible exact no_some he | with_reducible exact some_no he | with_reducible exact no_bool he | with_reducible exact no_bool' he | cases he)
  | succ n =>
    intro e he
    refine ex1 (List.mem_map.mp he) fun x hx2 => ?_
    refine and2 hx2 fun hx er2_2 => ?_
    clear hx2
    subst er2_2
    exact parts_ok h x hx
theorem lowerD_size {k n : Nat} {d : Ob} : ((lowerD k n d).map DItem.nodes).sum + 1 = Ob.nodes n d := by
  cases n with
  | zero => rfl
  | succ n =>
    show _ = 1 + _
    unfold lowerD
    rw [List.map_map, Nat.add_comm]
    rfl
theorem mx_shift (k : Nat) (l : List Nat) : max k (mx (l.map fun x => if x = 0 then 0 else k + x)) = k + mx l := by
  induction l with
  | nil => show max k 0 = k + 0; omega
  | cons a l ih =>
    show max k (max (if a = 0 then 0 else k + a) (mx (l.map _))) = k + max a (mx l)
    split
    · rename_i ea
      rw [ea, Nat.zero_max, Nat.zero_max]; exact ih
    · rw [← Nat.add_max_add_left, ← ih, Nat.max_left_comm]
theorem lowerD_val {k n : Nat} {d : Ob} (hd : d.ok n = true) (hb : d.isBox = true) : max (k + 1) (mx ((lowerD (k + 1) n d).map DItem.val)) = k + Ob.deep n d ∧ Ob.deep n d ≠ 0 := by
  cases n with
  | zero =>
    cases d with
    | array _ => (first | with_reducible exact no_some hd | with_reducible exact some_no hd | with_reducible exact no_bool hd | with_reducible exact no_bool' hd | cases hd)
    | dict _ => (first | with_reducible exact no_some hd | with_reducible exact some_no hd | with_reducible exact no_bool hd | with_reducible exact no_bool' hd | cases hd)
    | stream _ _ => (first | with_reducible exact no_some hd | with_reducible exact some_no hd | with_reducible exact no_bool hd | with_reducible exact no_bool' hd | cases hd)
    | _ => (first | with_reducible exact no_some hb | with_reducible exact some_no hb | with_reducible exact no_bool hb | with_reducible exact no_bool' hb | cases hb)
  | succ n =>
    have e : Ob.deep (n + 1) d = 1 + mx (d.parts.map fun x => Ob.deep n x) := by show (if d.isBox = true then _ else _) = _; rw [if_pos hb]
    rw [e]
    refine ⟨?_, by omega⟩
    have : (lowerD (k + 1) (n + 1) d).map DItem.val = (d.parts.map fun x => Ob.deep n x).map fun x => if x = 0 then 0 else (k + 1) + x := by
      unfold lowerD; rw [List.map_map, List.map_map]; rfl
    rw [this, mx_shift]; omega
theorem val_no {k n : Nat} {d : Ob} (hb : d.isBox = false) : DItem.val (k, n, d) = 0 := by
  have : Ob.deep n d = 0 := by
    cases n with
    | zero => rfl
    | succ n => show (if d.isBox = true then _ else _) = _; rw [hb]; rfl
  unfold DItem.val
  rw [if_pos this]
noncomputable def DOk (prog : Program) (w : World) (G : PMap) (v : Value) (e : DItem) : Prop := ∃ b x k n f, v = .ref b ∧ G b = some (tupOf [x, .int (e.1 : Nat) k] n) ∧ OIn prog w G f x e.2.2
theorem DOk.mono {prog : Program} {w : World} {G G' : PMap} {v : Value} {e : DItem} (h : DOk prog w G v e) (hG : ∀ a o, G a = some o → G' a = some o) : DOk prog w G' v e :=
  ex5 h fun b x k n f y => ⟨b, x, k, n, f, y.1, hG _ _ y.2.1, y.2.2.mono hG⟩
inductive DInv (prog : Program) (w : World) (W : Addr → Prop) (al : Addr) (R : Nat) (k : Nat) (m : Str → Option Value) (U : PMap) : Prop
  | mk (st : List DItem) (lvs : List Value) (nl D : Nat) (dt : Tok) (e1 : m (Str.ofString "deepest") = some (.int (D : Nat) dt)) (e2 : m (Str.ofString "line") = some (.ref al)) (e3 : U al = some (listOf lvs.toArray nl)) (e4 : All2 (DOk prog w (mask W U)) lvs st) (e5 : (∀ e ∈ st, e.2.2.ok e.2.1 = true)) (e6 : k = (st.map DItem.nodes).sum) (e7 : (st.map DItem.nodes).sum ≤ 64) (e8 : max D (mx (st.map DItem.val)) = R) : DInv prog w W al R k m U
theorem max_cast {D e : Nat} : max (D : Int) ((e : Int) + 1) = ((max D (e + 1) : Nat) : Int) := by
  rcases Nat.le_total D (e + 1) with h | h
  · rw [Nat.max_eq_right h]; exact Int.max_eq_right (Int.ofNat_le.mpr h)
  · rw [Nat.max_eq_left h]; exact Int.max_eq_left (Int.ofNat_le.mpr h)
inductive DInv2 (prog : Program) (w : World) (W : Addr → Prop) (al : Addr) (us : List Value) (lo : List DItem) (x : Int) (wx : Tok) (y : Int) (wy : Tok) (i : Nat) (m : Str → Option Value) (U : PMap) : Prop
  | mk (tvs : List Value) (nl : Nat) (q1 : U al = some (listOf (us ++ tvs).toArray nl)) (q2 : All2 (DOk prog w (mask W U)) tvs (lo.take i)) (q3 : m (Str.ofString "deepest") = some (.int x wx)) (q4 : m (Str.ofString "line") = some (.ref al)) (q5 : m (Str.ofString "above") = some (.int y wy)) : DInv2 prog w W al us lo x wx y wy i m U
theorem dlen (s : List DItem) : s.length ≤ (s.map DItem.nodes).sum := by
  induction s with
  | nil => exact Nat.le_refl _
  | cons e s ih =>
    have := nodes_pos e.2.1 e.2.2
    rw [List.map_cons, List.sum_cons, List.length_cons]
    show s.length + 1 ≤ Ob.nodes e.2.1 e.2.2 + _
    omega
section
variable {prog : Program} {w : World} {A : Around} {E : Value → Shared → Prop} {c : Fx} {h : Heap} {t : Nat} {mg mb : Str → Option Value} {G : PMap} {f : List Addr} {v : Value} {d : Ob}
theorem depth_spec {n : Nat} {Q : Value → Shared → Prop} (hn : n ≤ 3) (hd : d.ok n = true) (o : Ok 6 A) (Z : Bs (KK w) VV LL mg mb h.get?) (hG : ∀ a o, G a = some o → h.get? a = some o) (hv : OIn prog w G f v d)
    (k : ∀ u G' h' t', Grow No G h G' h' → Q (.int (Ob.deep n d : Nat) u) (c.at h' t')) :
    wpAny (model prog w) A (call (.ref 308) [v]) Q E (c.at h t) := by
  refine' enter No [((Str.ofString "value"), v)] o.room Z.no hG ?ho ?hcd ?hb ?hl ?hc ?hm ?_ ?c1 ?c2 ?c3
  case ho => exact rfl
  case hcd => kernel_rfl
  case hb => exact BindsTo.of_eq rfl
  case hl => kernel_rfl
  case hc => kernel_rfl
  case hm => exact binds1
  case c1 => exact rfl
  case c2 => exact rfl
  case c3 => exact rfl
  intro L h₁ t₁ S Z gL sL up
  rw [mask_no] at S
  repeat cell_call
  rename_i tk0 tn0 tt hx1 Sx1 gt al hx2 Sx2 gl h5 t5 S5
  have hu : ∀ env, (A.deeper env).units + 1 < cLine := fun env => by have := (o.deeper (env := env)).units; show _ < 9900; omega
  let W : Addr → Prop := fun a => a = al
  have ne1 : tt ≠ al := fun e => by rw [← e, put_self] at gl; (first | with_reducible exact no_some gl | with_reducible exact some_no gl | with_reducible exact no_bool gl | with_reducible exact no_bool' gl | cases gl)
  have hWB : ∀ a, W a → mask (fun a => No a ∨ a = L) h₁.get? a = none := by
    intro a z
    have z : a = al := z
    rw [z]; exact Sx1.free gl Sx2
  have hWG : ∀ a o, G a = some o → ∀ X, mask W (put (put G tt X) al (listOf [.ref tt].toArray 0)) a = some o := fun a o e X => by
    have nt : a ≠ tt := fun z => by rw [z, gt] at e; (first | with_reducible exact no_some e | with_reducible exact some_no e | with_reducible exact no_bool e | with_reducible exact no_bool' e | cases e)
    have nw : a ≠ al := fun z => by rw [← z, put_ne nt, e] at gl; (first | with_reducible exact no_some gl | with_reducible exact some_no gl | with_reducible exact no_bool gl | with_reducible exact no_bool' gl | cases gl)
    rw [mask_out (show ¬ W a from nw), put_ne nw, put_ne nt]; exact e
  refine while_at (W := W) (DInv prog w W al (Ob.deep n d)) (DInv prog w W al (Ob.deep n d) 0) (Ob.nodes n d) S5 Z hWB ?win ?h0 ?turn ?done
  case win =>
    intro i m' U' hi2_3 a z
    obtain ⟨st, lvs, nl, D, dt, e1, e2, e3, _⟩ := hi2_3
    have z : a = al := z
    rw [z, e3]; exact Option.some_ne_none _
  case h0 =>
    have hb := nodes_le n d hd
    have h4 : 4 ^ n ≤ 64 := Nat.le_trans (Nat.pow_le_pow_right (by decide) hn) (by decide)
    refine ⟨[(0, n, d)], [.ref tt], 0, 0, _, by exact upd_there upd_here (by kernel_rfl), by w_left, put_self, .cons ⟨tt, v, tk0, 0, f, rfl, ?_, hv.mono fun a o e => hWG a o e _⟩ .nil, ?_, rfl, ?_, ?_⟩
    · rw [mask_out (show ¬ W tt from ne1), put_ne ne1, put_self]; rfl
    · intro e he
      rw [List.mem_singleton] at he
      subst he; exact hd
    · show Ob.nodes n d + 0 ≤ 64
      omega
    · show max 0 (mx [DItem.val (0, n, d)]) = _
      rw [mx_one]
      unfold DItem.val
      split
      · rename_i z
        have z : Ob.deep n d = 0 := z
        omega
      · show max 0 (0 + Ob.deep n d) = _
        omega
  case done =>
    intro m' U' h t S' g hi4_6
    obtain ⟨st, lvs, nl, D, dt, e1, e2, e3, e4, e5, e6, e7, e8⟩ := hi4_6
    have hz : st.length ≤ 0 := Nat.le_trans (dlen st) (Nat.le_of_eq e6.symm)
    have hst : st = [] := List.length_eq_zero_iff.mp (Nat.le_zero.mp hz)
    subst hst
    have e8 : max D 0 = Ob.deep n d := e8
    have e9 : D = Ob.deep n d := by omega
    subst e9
    repeat cell_call
    exact k _ _ _ _ (out0 S' up sL hG gL)
  case turn =>
    intro k m' U' h t g S' Z hi6_8
    obtain ⟨st, lvs, nl, D, dt, e1, e2, e3, e4, e5, e6, e7, e8⟩ := hi6_8
    have ll := e4.length
    have sl := dlen st
    refine t_plain ?_
    repeat cell_call
    refine truthyL S' e3 (by first | decide | omega) (fun t => ?_)
    rcases List.eq_nil_or_concat st with rfl | ⟨st', e, rfl⟩
    · obtain rfl : lvs = [] := List.length_eq_zero_iff.mp ll
      refine iteF rfl ?_
      exact ⟨_, _, _, _, rfl, S', ⟨[], [], nl, D, dt, e1, e2, e3, e4, e5, rfl, e7, e8⟩⟩
    rw [List.concat_eq_append] at *
    refine ex2 (e4.unsnoc) fun us x hx9 => ?_
    refine and3 hx9 fun er9_2 ea eb => ?_
    clear hx9
    subst er9_2
    have lb : (us ++ [x]).length ≤ 64 := by rw [ll]; exact Nat.le_trans sl e7
    refine iteT (by cases us <;> rfl) ?_
    refine x_unpack ?_
    refine e_meth (fun pl => ?_)
    repeat cell_call
    refine mList S' e3 PySem.F.slot_list_pop PySem.F.type_list_pop ?_
    refine cwB0 ?_
    have Wal : W al := rfl
    have hB : ∀ {a}, W a → mask (fun a => W a ∨ a = L) h.get? a = none := fun z => mask_in (.inl z)
    refine popL S' e3 (hB Wal) (Nat.le_trans lb (by decide)) (fun h2 n2 S2 => ?_)
    have m1 := mask_put (U := U') (o := listOf us.toArray n2) Wal
    rw [← m1] at ea eb
    have f4 : put U' al (listOf us.toArray n2) al = _ := put_self
    generalize put U' al (listOf us.toArray n2) = U1 at *
    have hW : ∀ a, W a → U1 a ≠ none := by
      intro a z
      have z : a = al := z
      rw [z, f4]; exact Option.some_ne_none _
    clear e3 e4
    obtain ⟨ek, en, ed⟩ := e
    have ok1 : ∀ e ∈ st', e.2.2.ok e.2.1 = true := fun y hy => e5 y (List.mem_append.mpr (.inl hy))
    have ok2 : ed.ok en = true := e5 (ek, en, ed) (List.mem_append.mpr (.inr List.mem_cons_self))
    have sz : ((st' ++ [(ek, en, ed)]).map DItem.nodes).sum = (st'.map DItem.nodes).sum + Ob.nodes en ed := by rw [List.map_append, List.sum_append]; rfl
    have vl : mx ((st' ++ [(ek, en, ed)]).map DItem.val) = max (mx (st'.map DItem.val)) (DItem.val (ek, en, ed)) := by rw [List.map_append, mx_app]; rw [show [(ek, en, ed)].map DItem.val = [DItem.val (ek, en, ed)] from rfl, mx_one]
    have np := nodes_pos en ed
    refine ex5 (eb) fun b hx bk bn bf hx11 => ?_
    refine and3 hx11 fun er11_5 hb hin => ?_
    clear hx11
    try clear eb
    subst er11_5
    refine unpack2 S2 (mask_sub _ _ hb) o.deeper.hh (fun h3 t3 S3 => ?_)
    have hin1 := hin.mono mask_sub
    repeat cell_call
    refine kind_spec (o.deeper.less (by first | decide | omega)) (Z.at_ S3) (fun _ _ e => S3.get (mask_sub _ _ e)) hin (fun u h t g => ?_)
    have S4 := S3.kept fun b o e => g.keep b o (fun z => z) e
    repeat cell_call
    rename_i s1 _ s2 _ s3 _ ta h5 S5 gta
    refine inStrs S5 put_self (.cons (Str.ofString "array") s1 (.cons (Str.ofString "dict") s2 (.cons (Str.ofString "stream") s3 .nil))) ?_
    have hc : ∀ {a}, W a → a ≠ ta := fun {a} z e => by
      refine ex1 (Option.ne_none_iff_exists'.mp (hW a z)) fun o q => ?_
      rw [e, gta] at q; (first | with_reducible exact no_some q | with_reducible exact some_no q | with_reducible exact no_bool q | with_reducible exact no_bool' q | cases q)
    have um : ∀ a o, mask W U1 a = some o → mask W (put U1 ta (tupOf [.str (Str.ofString "array") s1, .str (Str.ofString "dict") s2, .str (Str.ofString "stream") s3] 0)) a = some o := mask_put_old gta
    have f5 : put U1 ta (tupOf [.str (Str.ofString "array") s1, .str (Str.ofString "dict") s2, .str (Str.ofString "stream") s3] 0) al = _ := (put_ne (hc Wal)).trans f4
    generalize put U1 ta (tupOf [.str (Str.ofString "array") s1, .str (Str.ofString "dict") s2, .str (Str.ofString "stream") s3] 0) = U2 at *
    have hin2 := hin.mono um
    have ea2 := All2.mono (fun v e (z : DOk prog w (mask W U1) v e) => z.mono um) ea
    have hW2 : ∀ a, W a → U2 a ≠ none := by
      intro a z
      have z : a = al := z
      rw [z, f5]; exact Option.some_ne_none _
    repeat cell_call
    refine iteB (fun hbx => ?bx) (fun hbx => ?nb)
    case nb =>
      have hbx : ed.isBox = false := hbx
      repeat cell_call
      refine ⟨rfl, _, _, _, _, _, rfl, ?_, S5, ⟨st', us, n2, D, dt, by w_left, by w_left, f5, ea2, ok1, rfl, by omega, ?_⟩⟩
      · rw [e6, sz]; omega
      · rw [← e8, vl, val_no hbx, Nat.max_zero]
    have hbx : ed.isBox = true := hbx
    repeat cell_call
    refine max2 S5 o.deeper.hh (fun h6 t6 w6 S6 => ?_)
    repeat cell_call
    refine x_for ?_
    repeat cell_call
    rename St _ _ _ _ _ _ => S7
    refine parts_spec ok2 _ _ _ _ _ _ _ _ _ (o.deeper.less (by first | decide | omega)) (Z.at_ S7) (fun _ _ e => S7.get (mask_sub _ _ e)) hin2 (fun pa pvs pn pfs G' h t g hpa hall hnew => ?_)
    refine ex1 (S7.call g hW2) fun U3 hx13 => ?_
    refine and3 hx13 fun S8 uU uG => ?_
    clear hx13
    have hpa3 := uG _ _ hpa
    have pl := parts_len ok2
    have plv := hall.length
    have npa : ¬ (W pa ∨ pa = L) := fun z => z.elim (fun z => (of_mask hpa3).1 z) fun z => (S8.sub _ _ (mask_sub _ _ hpa3)).2.1 z
    have f8 := uU _ _ f5
    have mm := mask_mono (W := W) uU
    refine for_at (W := W) (n := pvs.toArray.size) (P := fun i v => pvs.toArray[i]? = some v) (DInv2 prog w W al us (lowerD (ek + 1) en ed) (max (D : Int) ((ek : Int) + 1)) w6 (ek : Nat) bk) S8 Z (Src.list o.deeper.hh ⟨_, S8.get (mask_sub _ _ hpa3), rfl, _, rfl⟩ npa) (fun a z => hB z) ?win2 ?h02 ?turn2 ?done2
    case win2 =>
      intro i m' U' hi13_3 a z
      obtain ⟨tvs, nl, q1, _⟩ := hi13_3
      have z : a = al := z
      rw [z, q1]; exact Option.some_ne_none _
    case h02 => exact ⟨[], n2, by rw [List.append_nil]; exact f8, .nil, by w_left, by w_left, by w_left⟩
    case turn2 =>
      intro i pv m' U' h t hi hpv g2 S9 Z hi15_11
      obtain ⟨tvs, nl, q1, q2, q3, q4, q5⟩ := hi15_11
      refine ex2 (hall.get (i := i) (v := pv) (by simpa using hpv)) fun pf pd hx18 => ?_
      refine and3 hx18 fun hpd hpin _ => ?_
      clear hx18
      refine ex1 (lowerD_get (k := ek + 1) ok2 hpd) fun n' hlo => ?_
      have up3 : ∀ a o, mask W U3 a = some o → mask W U' a = some o := fun a o e => by
        refine and2 (of_mask e) fun nw e => ?_
        rw [mask_out nw]
        exact g2.mono a o (fun z => z.elim nw fun z => (S8.sub _ _ e).2.1 z) e
      have hpin := hpin.mono fun a o e => up3 a o (uG a o e)
      have tl : tvs.length ≤ 3 := by rw [q2.length, List.length_take]; have := congrArg List.length (lowerD_obs (k := ek + 1) ok2); rw [List.length_map] at this; omega
      have ul : us.length ≤ 64 := by rw [List.length_append] at lb; omega
      repeat cell_call
      refine e_meth (fun pl => ?_)
      repeat cell_call
      refine mList S9 q1 PySem.F.slot_list_append PySem.F.type_list_append ?_
      refine cwB ?_
      repeat cell_call
      rename_i tka _ ta ha Sa ga
      have naw : ¬ W ta := fun z => by
        have z : ta = al := z
        rw [z, q1] at ga; (first | with_reducible exact no_some ga | with_reducible exact some_no ga | with_reducible exact no_bool ga | with_reducible exact no_bool' ga | cases ga)
      refine appendL Sa ((put_ne fun z => naw z.symm).trans q1) (mask_in (.inl rfl)) (by rw [List.length_append, sizeLine_eq]; omega) (fun h9 n9 Sb => ?_)
      repeat cell_call
      have upb : ∀ a o, mask W U' a = some o → mask W (put (put U' ta (tupOf [pv, .int (↑ek + 1) tka] 0)) al (listOf ((us ++ tvs) ++ [Value.ref ta]).toArray n9)) a = some o := fun a o e => by
        rw [mask_put (show W al from rfl)]
        exact mask_put_old ga a o e
      refine ⟨rfl, _, _, _, _, rfl, Sb, tvs ++ [.ref ta], n9, by rw [← List.append_assoc]; exact put_self, ?_, by w_left, by w_left, by w_left⟩
      rw [take_next hlo]
      refine (All2.mono (fun v e (z : DOk prog w (mask W U') v e) => z.mono upb) q2).snoc ⟨ta, pv, tka, 0, pf, rfl, ?_, hpin.mono upb⟩
      rw [mask_put (show W al from rfl), mask_out naw, put_self]; rfl
    case done2 =>
      intro m' U' h t S9 g2 hi20_6
      obtain ⟨tvs, nl, q1, q2, q3, q4, q5⟩ := hi20_6
      have up3 : ∀ a o, mask W U3 a = some o → mask W U' a = some o := fun a o e => by
        refine and2 (of_mask e) fun nw e => ?_
        rw [mask_out nw]
        exact g2.mono a o (fun z => z.elim nw fun z => (S8.sub _ _ e).2.1 z) e
      have up2 : ∀ a o, mask W U2 a = some o → mask W U' a = some o := fun a o e => up3 a o (mm a o e)
      have lel : (lowerD (ek + 1) en ed).length = pvs.toArray.size := by
        have := congrArg List.length (lowerD_obs (k := ek + 1) ok2)
        rw [List.length_map] at this
        rw [this, List.size_toArray, plv]
      rw [← lel, List.take_length] at q2
      repeat cell_call
      have lsz := lowerD_size (k := ek + 1) (n := en) (d := ed)
      have lv := lowerD_val (k := ek) ok2 hbx
      have ev : DItem.val (ek, en, ed) = ek + Ob.deep en ed := if_neg lv.2
      refine ⟨rfl, _, _, _, _, _, rfl, ?_, S9, ⟨st' ++ lowerD (ek + 1) en ed, us ++ tvs, nl, max D (ek + 1), w6, ?_, q4, q1, (All2.mono (fun v e (z : DOk prog w (mask W U2) v e) => z.mono up2) ea2).append q2, ?_, rfl, ?_, ?_⟩⟩
      · rw [e6, sz, List.map_append, List.sum_append]; omega
      · rw [q3, max_cast]
      · intro e he
        rcases List.mem_append.mp he with he | he
        · exact ok1 e he
        · exact lowerD_ok ok2 e he
      · rw [List.map_append, List.sum_append]; omega
      · rw [List.map_append, mx_app, ← e8, vl, ev, ← lv.1]; exact max4 _ _ _ _
end

end
section
theorem mx_cons (a : Nat) (l : List Nat) : mx (a :: l) = max a (mx l) := rfl
section
variable {prog : Program} {w : World} {A : Around} {E : Value → Shared → Prop} {c : Fx} {h : Heap} {t : Nat} {mg mb m : Str → Option Value} {B G₀ G : PMap} {L a : Addr} {env : Env} {v : Value} {vs : List Value} {n : Nat} {Q : Value → Shared → Prop}
theorem maxL {l : Addr} {ns : List Nat} (S : St B G₀ L m G h) (hl : G l = some (listOf vs.toArray n)) (hi : IntsAre vs (ns.map fun (x : Nat) => (x : Int))) (hne : ns ≠ []) (hh : A.handled = none) (q : ∀ h' t' u, St B G₀ L m G h' → Q (.int (mx ns : Nat) u) (c.at h' t')) :
    wpAny (model prog w) A (call (.builtin "max") [.ref l]) Q E (c.at h t) := by
  refine ex1 (hi.allInts.items) fun xs e => ?_
  have hns : (ns.map fun (x : Nat) => (x : Int)) = xs.toList.map (·.1) := by rw [← hi.numsOf, ← nums_intItems, ← e]
  have hlen : ns.length = xs.size := by have := congrArg List.length hns; simpa using this
  have hpos : 0 < ns.length := List.length_pos_iff.mpr hne
  have hsz : 0 < xs.size := by rw [← hlen]; exact hpos
  have hl' : h.IsList l vs.toArray := ⟨_, S.get hl, rfl, n, rfl⟩
  rw [e] at hl'
  refine max_intList (s := c.at h t) hh hl' hsz fun v h' tk hv hk => ?_
  refine ex1 (intItems_at hv) fun t' er2_1 => ?_
  subst er2_1
  refine and2 (argBest_gt (numAt xs) (xs.size - 1)) fun h1 h2 => ?_
  have key : ∀ M : Int, M ∈ (ns.map fun (x : Nat) => (x : Int)) → (∀ a ∈ (ns.map fun (x : Nat) => (x : Int)), a ≤ M) → M = (mx ns : Nat) := by
    clear hns hlen hpos hsz hi
    intro M hM hle
    have up : ∀ l : List Nat, ∀ x ∈ l, x ≤ mx l := by
      intro l
      induction l with
      | nil => intro x hx; (first | with_reducible exact no_some hx | with_reducible exact some_no hx | with_reducible exact no_bool hx | with_reducible exact no_bool' hx | cases hx)
      | cons y l ih =>
        intro x hx
        show x ≤ max y (mx l)
        rcases List.mem_cons.mp hx with rfl | hx
        · exact Nat.le_max_left _ _
        · exact Nat.le_trans (ih x hx) (Nat.le_max_right _ _)
    have mem : ∀ l : List Nat, l ≠ [] → mx l ∈ l := by
      intro l
      induction l with
      | nil => intro z; exact absurd rfl z
      | cons y l ih =>
        intro _
        show max y (mx l) ∈ y :: l
        by_cases hl0 : l = []
        · subst hl0
          show max y 0 ∈ [y]
          rw [Nat.max_eq_left (Nat.zero_le y)]; exact List.mem_cons_self
        · by_cases hy : mx l ≤ y
          · rw [Nat.max_eq_left hy]; exact List.mem_cons_self
          · rw [Nat.max_eq_right (Nat.le_of_lt (Nat.not_le.mp hy))]; exact List.mem_cons_of_mem _ (ih hl0)
    refine ex1 (List.mem_map.mp hM) fun x hx4 => ?_
    refine and2 hx4 fun hx er4_2 => ?_
    clear hx4
    subst er4_2
    have h3 := up ns x hx
    have h4 := hle _ (List.mem_map.mpr ⟨_, mem ns hne, rfl⟩)
    exact Int.le_antisymm (Int.ofNat_le.mpr h3) h4
  have hM := key (numAt xs (argBest (fun i j => decide (numAt xs i > numAt xs j)) (xs.size - 1))) (by rw [hns, numAt_eq]; exact getD_mem (by rw [List.length_map, Array.length_toList]; omega)) (fun a ha => by
    rw [hns] at ha
    refine ex1 (mem_getD ha) fun j hx5 => ?_
    refine and2 hx5 fun hj er5_2 => ?_
    clear hx5
    subst er5_2
    rw [List.length_map, Array.length_toList] at hj
    rw [← numAt_eq]; exact h2 j (by first | decide | omega))
  rw [hM]
  exact q h' tk t' (S.kept hk)
theorem sliceT {value : Expr} {k : Nat} {p1 p : Pos} (S : St B G₀ L m G h) (ha : G a = some (tupOf (v :: vs) n)) (hz : vs.length ≤ 1000) (q : ∀ d h' t', St B G₀ L m (put G d (tupOf vs 0)) h' → G d = none → Q (.ref d) (c.at h' t'))
    (hs : ∀ i, subscripted (.Slice (some (.Constant (.int 1) k p1)) none none p) false (.ref a) (.ref i) = operate [.ref i, .ref a] (getItem (.ref a) (.ref i)) := by intro _; kernel_rfl) (hg : ∀ r, letTemporaryGo value (.ref a) r = pure () := by intro _; kernel_rfl) :
    wpAny (model prog w) A (eval (.Slice (some (.Constant (.int 1) k p1)) none none p) env) (fun i s₂ => wpAny (model prog w) A (subscriptTail value (.Slice (some (.Constant (.int 1) k p1)) none none p) (.ref a) i) Q E s₂) E (c.at h t) := by
  refine wpAny_Slice ?_
  rw [evalPart_some, evalPart_none]
  refine c_int fun u t' => ?_
  refine wpAny_pure (wpAny_pure ?_)
  have S1 := S.kept (h' := h.push { cls := .type "slice", data := .fields #[.int 1 u, .none, .none] }) fun _ _ e => Heap.get?_push_of_some _ e
  have ht : IsTup (h.push { cls := .type "slice", data := .fields #[.int 1 u, .none, .none] }) a (v :: vs).toArray := ⟨_, Heap.get?_push_of_some _ (S.get ha), rfl, n, rfl⟩
  have hsz : (v :: vs).toArray.size = vs.length + 1 := by rw [List.size_toArray, List.length_cons]
  refine subscriptTail_ops (s := c.at (h.push { cls := .type "slice", data := .fields #[.int 1 u, .none, .none] }) t') ht.typeIs slot_tuple_getitem.lookup (getItem_tuple_from (a := 1) ht (Heap.IsSliceOf.new ..) (Nat.le_refl _) (by rw [hsz]; omega) ?_ (by rw [hsz, sizeLine_eq]; omega)) (hs _) hg
  have S2 := S1.push (fun _ _ e => e) (tupOf vs 0)
  exact q _ _ _ S2 S1.size
end
noncomputable def DeepAt (prog : Program) (w : World) (mg mb : Str → Option Value) (r : Nat) (row : Rw) (k : Nat) : Prop :=
  ∀ (A : Around) (E : Value → Shared → Prop) (c : Fx) (h : Heap) (t : Nat) (G : PMap) (v : Value) (Q : Value → Shared → Prop), Ok r A → Bs (KK w) VV LL mg mb h.get? → (∀ a o, G a = some o → h.get? a = some o) → RIn G v row →
    (∀ u G' h' t', Grow No G h G' h' → Q (.int (k : Nat) u) (c.at h' t')) → wpAny (model prog w) A (call (.ref 342) [v]) Q E (c.at h t)
section
variable {prog : Program} {w : World} {mg mb : Str → Option Value}
theorem rdeep_array (n : Nat) (ih : ∀ d, d.ok n = true → DeepAt prog w mg mb (2 * n + 3) (d.row none n) (Ob.deep n d)) (ds : List Ob) (hok : (Ob.array ds).ok (n + 1) = true) : DeepAt prog w mg mb (2 * n + 4) ((Ob.array ds).row none (n + 1)) (Ob.deep (n + 1) (.array ds)) := by
  intro A E c h t G v Q o Z hG hv k
  refine' enter No [((Str.ofString "row"), v)] o.room Z.no hG ?ho ?hcd ?hb ?hl ?hc ?hm ?_ ?c1 ?c2 ?c3
  case ho => exact rfl
  case hcd => kernel_rfl
  case hb => exact BindsTo.of_eq rfl
  case hl => kernel_rfl
  case hc => kernel_rfl
  case hm => exact binds1
  case c1 => exact rfl
  case c2 => exact rfl
  case c3 => exact rfl
  intro L h₁ t₁ S Z gL sL up
  rw [mask_no] at S
  rw [row_array] at hv
  cases hv using RIn.tupE with
  | k ra vs rn hra hall =>
  cases hall using RAll.consE with
  | k v0 us h0 hall =>
  cases h0 using RIn.strE with
  | k u0 =>
  have od := ok_array hok
  have hlen := hall.length
  rw [List.length_map] at hlen
  repeat cell_call
  refine itemT S hra (j := 0) rfl rfl (by decide) ?_
  repeat cell_call
  rename St _ _ _ _ _ _ => S2
  refine eval_comp (cl := []) (by kernel_rfl) ?_
  repeat cell_call
  rename_i tk0 _ za _ gz
  refine sliceT S2 (put_old gz _ _ hra) (by first | decide | omega) (fun sa h3 t3 S3 gs => ?_)
  refine comp_at (W := No) (P := fun i v => us.toArray[i]? = some v) (n := us.toArray.size) (fun i ys U => IntsAre ys (((ds.take i).map fun d => Ob.deep n d).map fun (x : Nat) => (x : Int))) S3 Z (Src.tuple (its := us.toArray) o.deeper.hh ⟨_, S3.get put_self, rfl, _, rfl⟩ (fun z => z)) no_B (fun _ _ _ _ => no_ne) ?sz .nil ?turn ?done
  case sz => rw [List.size_toArray, hlen]; exact Nat.le_trans od.1 (by decide)
  case turn =>
    intro i v ys U h t C m₂ hi hv g S Z hm inv hl
    rw [mask_no] at S
    have upU : ∀ a o, G a = some o → U a = some o := fun a o e => g.up a o (S3.mono a o e)
    refine ex1 (hall.get' (i := i) (v := v) (by simpa using hv)) fun r hx6 => ?_
    refine and2 hx6 fun hr hrow => ?_
    clear hx6
    rw [List.getElem?_map] at hr
    refine ex1 (Option.map_eq_some_iff.mp hr) fun d hx7 => ?_
    refine and2 hx7 fun hd er7_2 => ?_
    clear hx7
    subst er7_2
    have hok' := od.2 d (List.mem_of_getElem? hd)
    have hrow := hrow.mono upU
    repeat cell_call
    refine ih d hok' _ _ _ _ _ _ _ _ (o.deeper.less (by first | decide | omega)) (Z.at_ S) (fun _ _ e => S.get e) hrow (fun u G' h t g2 => ?_)
    have S := S.grow0 g2
    refine ⟨_, _, _, _, rfl, by rw [mask_no]; exact S, ?_⟩
    rw [take_next hd, List.map_append, List.map_append]
    exact inv.append (.cons _ _ .nil)
  case done =>
    intro D2 ys U h t S uD bD hD g g' inv hl
    rw [List.size_toArray, hlen, List.take_length] at inv
    rw [List.size_toArray, hlen] at hl
    have za' : U za = some (listOf [Value.int 0 tk0].toArray 0) := g'.up _ _ (put_old gs _ _ put_self)
    refine addList S (put_old uD _ _ za') put_self (fun b h S gb => ?_) (by rw [List.length_singleton]; exact Nat.le_trans (Nat.add_le_add_left (Nat.le_trans hl od.1) 1) (by decide))
    repeat cell_call
    refine maxL (ns := 0 :: ds.map fun d => Ob.deep n d) S put_self (.cons _ _ inv) (by simp) o.deeper.hh (fun h t u S => ?_)
    repeat cell_call
    rename_i u t
    have e : Ob.deep (n + 1) (.array ds) = 1 + mx (ds.map fun d => Ob.deep n d) := rfl
    have e2 : mx (0 :: ds.map fun d => Ob.deep n d) = mx (ds.map fun d => Ob.deep n d) := by rw [mx_cons]; omega
    rw [e2]
    have := k u _ h t (out0 S up sL hG gL)
    rw [e] at this
    rw [show ((1 + mx (ds.map fun d => Ob.deep n d) : Nat) : Int) = 1 + (mx (ds.map fun d => Ob.deep n d) : Nat) by omega] at this
    exact this
end
noncomputable def entList (n : Nat) (ds : List (Str × Ob)) : List (Str × Ob) := abc.filterMap fun k => (keyed ds k).bind fun d => if d.isNul = true then none else some (k, d)
theorem entRows_list {n : Nat} {ds : List (Str × Ob)} (hok : (Ob.dict ds).ok (n + 1) = true) : entRows none n ds abc = (entList n ds).map fun e => Rw.tup [.str e.1, Ob.row none n e.2] := by
  have od := ok_dict hok
  unfold entRows entList
  rw [List.map_filterMap]
  congr 1
  funext k
  cases e : keyed ds k with
  | none => rfl
  | some d =>
    simp only [Option.bind_some]
    rw [row_isNull (od.2.2 k d (keyed_mem e)).2]
    cases d.isNul <;> rfl
theorem entList_mem {n : Nat} {ds : List (Str × Ob)} {e : Str × Ob} (h : e ∈ entList n ds) : (e.1, e.2) ∈ ds := by
  refine ex1 (List.mem_filterMap.mp h) fun k hx8 => ?_
  refine and2 hx8 fun _ hk => ?_
  clear hx8
  cases q : keyed ds k with
  | none => rw [q] at hk; (first | with_reducible exact no_some hk | with_reducible exact some_no hk | with_reducible exact no_bool hk | with_reducible exact no_bool' hk | cases hk)
  | some d =>
    rw [q, Option.bind_some] at hk
    split at hk
    · (first | with_reducible exact no_some hk | with_reducible exact some_no hk | with_reducible exact no_bool hk | with_reducible exact no_bool' hk | cases hk)
    · cases hk; exact keyed_mem q
theorem entList_parts {n : Nat} {ds : List (Str × Ob)} : (entList n ds).map (·.2) = (dictParts ds).filter fun d => !d.isNul := by
  unfold entList dictParts
  rw [List.map_filterMap, List.filter_filterMap]
  congr 1
  funext k
  cases e : keyed ds k with
  | none => rfl
  | some d =>
    simp only [Option.bind_some]
    cases hd : d.isNul <;> simp [hd, Option.filter]
theorem entList_len {n : Nat} {ds : List (Str × Ob)} : (entList n ds).length ≤ 3 := Nat.le_trans (List.length_filterMap_le ..) (by decide)
theorem nul_deep {n : Nat} {d : Ob} (h : d.isNul = true) : Ob.deep n d = 0 := by
  cases d with
  | null => cases n <;> rfl
  | _ => (first | with_reducible exact no_some h | with_reducible exact some_no h | with_reducible exact no_bool h | with_reducible exact no_bool' h | cases h)
theorem mx_filter {n : Nat} (l : List Ob) : mx ((l.filter fun d => !d.isNul).map fun d => Ob.deep n d) = mx (l.map fun d => Ob.deep n d) := by
  induction l with
  | nil => rfl
  | cons d l ih =>
    cases hd : d.isNul with
    | true =>
      rw [List.filter_cons_of_neg (by rw [hd]; decide), ih, List.map_cons, mx_cons, nul_deep hd]; omega
    | false =>
      rw [List.filter_cons_of_pos (by rw [hd]; rfl), List.map_cons, List.map_cons, mx_cons, mx_cons, ih]
section
variable {prog : Program} {w : World} {mg mb : Str → Option Value}
theorem rdeep_dict (n : Nat) (ih : ∀ d, d.ok n = true → DeepAt prog w mg mb (2 * n + 3) (d.row none n) (Ob.deep n d)) (ds : List (Str × Ob)) (hok : (Ob.dict ds).ok (n + 1) = true) : DeepAt prog w mg mb (2 * n + 4) ((Ob.dict ds).row none (n + 1)) (Ob.deep (n + 1) (.dict ds)) := by
  intro A E c h t G v Q o Z hG hv k
  refine' enter No [((Str.ofString "row"), v)] o.room Z.no hG ?ho ?hcd ?hb ?hl ?hc ?hm ?_ ?c1 ?c2 ?c3
  case ho => exact rfl
  case hcd => kernel_rfl
  case hb => exact BindsTo.of_eq rfl
  case hl => kernel_rfl
  case hc => kernel_rfl
  case hm => exact binds1
  case c1 => exact rfl
  case c2 => exact rfl
  case c3 => exact rfl
  intro L h₁ t₁ S Z gL sL up
  rw [mask_no] at S
  rw [row_dict, entRows_list hok] at hv
  cases hv using RIn.tupE with
  | k ra vs rn hra hall =>
  cases hall using RAll.consE with
  | k v0 us h0 hall =>
  cases h0 using RIn.strE with
  | k u0 =>
  have od := ok_dict hok
  have el := entList_len (n := n) (ds := ds)
  have hlen := hall.length
  rw [List.length_map] at hlen
  repeat cell_call
  refine itemT S hra (j := 0) rfl rfl (by decide) ?_
  repeat cell_call
  refine itemT S hra (j := 0) rfl rfl (by decide) ?_
  repeat cell_call
  rename St _ _ _ _ _ _ => S2
  refine eval_comp (cl := []) (by kernel_rfl) ?_
  repeat cell_call
  rename_i tk0 _ za _ gz
  refine sliceT S2 (put_old gz _ _ hra) (by first | decide | omega) (fun sa h3 t3 S3 gs => ?_)
  refine comp_at (W := No) (P := fun i v => us.toArray[i]? = some v) (n := us.toArray.size) (fun i ys U => IntsAre ys ((((entList n ds).take i).map fun e => Ob.deep n e.2).map fun (x : Nat) => (x : Int))) S3 Z (Src.tuple (its := us.toArray) o.deeper.hh ⟨_, S3.get put_self, rfl, _, rfl⟩ (fun z => z)) no_B (fun _ _ _ _ => no_ne) ?sz .nil ?turn ?done
  case sz => rw [List.size_toArray, hlen]; exact Nat.le_trans el (by decide)
  case turn =>
    intro i v ys U h t C m₂ hi hv g S Z hm inv hl
    rw [mask_no] at S
    have upU : ∀ a o, G a = some o → U a = some o := fun a o e => g.up a o (S3.mono a o e)
    refine ex1 (hall.get' (i := i) (v := v) (by simpa using hv)) fun r hx9 => ?_
    refine and2 hx9 fun hr hrow => ?_
    clear hx9
    rw [List.getElem?_map] at hr
    refine ex1 (Option.map_eq_some_iff.mp hr) fun e hx10 => ?_
    refine and2 hx10 fun he er10_2 => ?_
    clear hx10
    subst er10_2
    have hok' := (od.2.2 _ _ (entList_mem (List.mem_of_getElem? he))).2
    have hrow := hrow.mono upU
    cases hrow using RIn.tupE with
    | k pa pvs pn hpa hpall =>
    cases hpall using RAll.consE with
    | k p0 _ hp0 hpall =>
    cases hpall using RAll.consE with
    | k p1 _ hp1 hpall =>
    cases hpall with
    | nil =>
    repeat cell_call
    refine itemT S hpa (j := 1) rfl rfl (by decide) ?_
    repeat cell_call
    refine ih e.2 hok' _ _ _ _ _ _ _ _ (o.deeper.less (by first | decide | omega)) (Z.at_ S) (fun _ _ e => S.get e) hp1 (fun u G' h t g2 => ?_)
    have S := S.grow0 g2
    refine ⟨_, _, _, _, rfl, by rw [mask_no]; exact S, ?_⟩
    rw [take_next he, List.map_append, List.map_append]
    exact inv.append (.cons _ _ .nil)
  case done =>
    intro D2 ys U h t S uD bD hD g g' inv hl
    rw [List.size_toArray, hlen, List.take_length] at inv
    rw [List.size_toArray, hlen] at hl
    have za' : U za = some (listOf [Value.int 0 tk0].toArray 0) := g'.up _ _ (put_old gs _ _ put_self)
    refine addList S (put_old uD _ _ za') put_self (fun b h S gb => ?_) (by rw [List.length_singleton]; exact Nat.le_trans (Nat.add_le_add_left (Nat.le_trans hl el) 1) (by decide))
    repeat cell_call
    refine maxL (ns := 0 :: (entList n ds).map fun (e : Str × Ob) => Ob.deep n e.2) S put_self (.cons _ _ inv) (by simp) o.deeper.hh (fun h t u S => ?_)
    repeat cell_call
    rename_i u t
    have e : Ob.deep (n + 1) (.dict ds) = 1 + mx ((dictParts ds).map fun d => Ob.deep n d) := rfl
    have e2 : mx (0 :: (entList n ds).map fun (e : Str × Ob) => Ob.deep n e.2) = mx ((dictParts ds).map fun d => Ob.deep n d) := by
      rw [mx_cons, ← mx_filter, ← entList_parts (n := n), List.map_map]
      have : ((fun d => Ob.deep n d) ∘ fun (x : Str × Ob) => x.2) = fun (e : Str × Ob) => Ob.deep n e.2 := rfl
      rw [this]; omega
    rw [e2]
    have := k u _ h t (out0 S up sL hG gL)
    rw [e] at this
    rw [show ((1 + mx ((dictParts ds).map fun d => Ob.deep n d) : Nat) : Int) = 1 + (mx ((dictParts ds).map fun d => Ob.deep n d) : Nat) by omega] at this
    exact this
theorem rdeep_stream (n : Nat) (ih : ∀ ds, (Ob.dict ds).ok (n + 1) = true → DeepAt prog w mg mb (2 * n + 4) ((Ob.dict ds).row none (n + 1)) (Ob.deep (n + 1) (.dict ds))) (ds : List (Str × Ob)) (oc : Array UInt8) (hok : (Ob.stream ds oc).ok (n + 1) = true) :
    DeepAt prog w mg mb (2 * n + 5) ((Ob.stream ds oc).row none (n + 1)) (Ob.deep (n + 1) (.stream ds oc)) := by
  intro A E c h t G v Q o Z hG hv k
  refine' enter No [((Str.ofString "row"), v)] o.room Z.no hG ?ho ?hcd ?hb ?hl ?hc ?hm ?_ ?c1 ?c2 ?c3
  case ho => exact rfl
  case hcd => kernel_rfl
  case hb => exact BindsTo.of_eq rfl
  case hl => kernel_rfl
  case hc => kernel_rfl
  case hm => exact binds1
  case c1 => exact rfl
  case c2 => exact rfl
  case c3 => exact rfl
  intro L h₁ t₁ S Z gL sL up
  rw [mask_no] at S
  rw [row_stream] at hv
  cases hv using RIn.tupE with
  | k ra vs rn hra hall =>
  cases hall using RAll.consE with
  | k v0 us h0 hall =>
  cases h0 using RIn.strE with
  | k u0 =>
  cases hall using RAll.consE with
  | k v1 us h1 hall =>
  repeat cell_call
  refine itemT S hra (j := 0) rfl rfl (by decide) ?_
  repeat cell_call
  refine itemT S hra (j := 0) rfl rfl (by decide) ?_
  repeat cell_call
  refine itemT S hra (j := 0) rfl rfl (by decide) ?_
  repeat cell_call
  refine itemT S hra (j := 1) rfl rfl (by decide) ?_
  repeat cell_call
  refine ih ds (ok_stream hok).1 _ _ _ _ _ _ _ _ (o.deeper.less (by first | decide | omega)) (Z.at_ S) (fun _ _ e => S.get e) h1 (fun u G' h t g2 => ?_)
  have S := S.grow0 g2
  exact k u _ h _ (out0 S up sL hG gL)
theorem row_head {T : Option Tab} {n : Nat} {d : Ob} (hd : d.isPlain = true) (hT : T = none) : ∃ xs, d.row T n = .tup (.str d.word :: xs) := by
  subst hT
  cases d with
  | null => exact ⟨_, row_null⟩
  | truth _ => exact ⟨_, row_truth⟩
  | int _ => exact ⟨_, row_int⟩
  | real _ _ => exact ⟨_, row_real⟩
  | name _ => exact ⟨_, row_name⟩
  | string _ _ => exact ⟨_, row_string⟩
  | ref _ _ => exact ⟨_, row_ref⟩
  | _ => (first | with_reducible exact no_some hd | with_reducible exact some_no hd | with_reducible exact no_bool hd | with_reducible exact no_bool' hd | cases hd)
theorem rdeep_plain (n : Nat) (d : Ob) (hd : d.isPlain = true) : DeepAt prog w mg mb 3 (d.row none n) (Ob.deep n d) := by
  intro A E c h t G v Q o Z hG hv k
  refine' enter No [((Str.ofString "row"), v)] o.room Z.no hG ?ho ?hcd ?hb ?hl ?hc ?hm ?_ ?c1 ?c2 ?c3
  case ho => exact rfl
  case hcd => kernel_rfl
  case hb => exact BindsTo.of_eq rfl
  case hl => kernel_rfl
  case hc => kernel_rfl
  case hm => exact binds1
  case c1 => exact rfl
  case c2 => exact rfl
  case c3 => exact rfl
  intro L h₁ t₁ S Z gL sL up
  rw [mask_no] at S
  refine ex1 (row_head (T := none) (n := n) hd rfl) fun xs e => ?_
  rw [e] at hv
  have e1 : (d.word == (Str.ofString "array")) = false := by cases d <;> first | rfl | (first | with_reducible exact no_some hd | with_reducible exact some_no hd | with_reducible exact no_bool hd | with_reducible exact no_bool' hd | cases hd)
  have e2 : (d.word == (Str.ofString "dict")) = false := by cases d <;> first | rfl | (first | with_reducible exact no_some hd | with_reducible exact some_no hd | with_reducible exact no_bool hd | with_reducible exact no_bool' hd | cases hd)
  have e3 : (d.word == (Str.ofString "stream")) = false := by cases d <;> first | rfl | (first | with_reducible exact no_some hd | with_reducible exact some_no hd | with_reducible exact no_bool hd | with_reducible exact no_bool' hd | cases hd)
  have e4 : Ob.deep n d = 0 := by cases d <;> first | (cases n <;> rfl) | (first | with_reducible exact no_some hd | with_reducible exact some_no hd | with_reducible exact no_bool hd | with_reducible exact no_bool' hd | cases hd)
  cases hv using RIn.tupE with
  | k ra vs rn hra hall =>
  cases hall using RAll.consE with
  | k v0 us h0 hall =>
  cases h0 using RIn.strE with
  | k u0 =>
  repeat cell_call
  refine itemT S hra (j := 0) rfl rfl (by decide) ?_
  repeat cell_call
  refine iteF e1 ?_
  repeat cell_call
  refine itemT S hra (j := 0) rfl rfl (by decide) ?_
  repeat cell_call
  refine iteF e2 ?_
  repeat cell_call
  refine itemT S hra (j := 0) rfl rfl (by decide) ?_
  repeat cell_call
  refine iteF e3 ?_
  repeat cell_call
  rw [e4] at k
  exact k _ _ _ _ (out0 S up sL hG gL)
theorem rdeep_spec : ∀ (n : Nat) (d : Ob), d.ok n = true → DeepAt prog w mg mb (2 * n + 3) (d.row none n) (Ob.deep n d) := by
  intro n
  have less : ∀ {r r' : Nat} {row : Rw} {k : Nat}, r ≤ r' → DeepAt prog w mg mb r row k → DeepAt prog w mg mb r' row k := fun hr H A E c h t G v Q o => H A E c h t G v Q (o.less hr)
  induction n with
  | zero =>
    intro d hd
    cases d with
    | array _ => (first | with_reducible exact no_some hd | with_reducible exact some_no hd | with_reducible exact no_bool hd | with_reducible exact no_bool' hd | cases hd)
    | dict _ => (first | with_reducible exact no_some hd | with_reducible exact some_no hd | with_reducible exact no_bool hd | with_reducible exact no_bool' hd | cases hd)
    | stream _ _ => (first | with_reducible exact no_some hd | with_reducible exact some_no hd | with_reducible exact no_bool hd | with_reducible exact no_bool' hd | cases hd)
    | _ => exact rdeep_plain 0 _ rfl
  | succ n ih =>
    intro d hd
    cases d with
    | array ds => exact less (by first | decide | omega) (rdeep_array n ih ds hd)
    | dict ds => exact less (by first | decide | omega) (rdeep_dict n ih ds hd)
    | stream ds oc => exact rdeep_stream n (fun ds h => rdeep_dict n ih ds h) ds oc hd
    | _ => exact less (by first | decide | omega) (rdeep_plain (n + 1) _ rfl)
end

end
section
section
variable {prog : Program} {w : World} {A : Around} {E : Value → Shared → Prop} {c : Fx} {h : Heap} {t : Nat} {mg mb m cm : Str → Option Value} {B G₀ G : PMap} {L : Addr} {env : Env}
open Classical in
theorem enterC2 (W : Addr → Addr → Prop) {name qual : Str} {params : Arguments} {body : List Stmt} {scope : Scope} {dV kV doc pm cdv ct oc : Value} {an od : Option Addr} {osl : Array (Option Value)} {f : Addr} {args : List Value} (binds : List (Str × Value)) {Q : Value → Shared → Prop}
    (hr : A.depth < recursionLimit) (Z : Bs (KK w) VV LL mg mb h.get?) (hG : ∀ a o, G a = some o → h.get? a = some o) (hWc : ∀ L a, W L a → ∃ y, (cellsFrom (L + 1) scope.names []).lookup y = some a)
    (ho : (KK w).lookup f = some ⟨oc, od, .func (fnX name qual params body scope [] dV kV doc pm an cdv ct), osl⟩) (hcd : codeIn (KK w) cdv qual = true)
    (hbind : BindsTo (c.at h t) (fnX name qual params body scope [] dV kV doc pm an cdv ct) ⟨args, []⟩ binds) (hkind : (binds.all fun y => scope.names.lookup y.1 == some .local || scope.names.lookup y.1 == some .cell) = true)
    (hnd : ((cellsFrom 0 scope.names []).map (·.1)).Nodup) (hm : ∀ L, bindL (envOfC qual scope L f cdv).kindOf binds (fun _ => none) = m) (hcm : ∀ L, bindC (envOfC qual scope L f cdv).kindOf binds (fun _ => none) = cm)
    (q : ∀ L h₁ t₁ G₁, (∀ a o, G a = some o → G₁ a = some o) → (∀ a o, G₁ a = some o → G a = some o ∨ h.get? a = none) → cellsAt (cellsFrom (L + 1) scope.names []) cm G₁ →
      St (mask (fun a => W L a ∨ a = L) h₁.get?) (mask (W L) G₁) L m G₁ h₁ → Bs (KK w) VV LL mg mb (mask (fun a => W L a ∨ a = L) h₁.get?) → G₁ L = none → h.get? L = none → (∀ b o, h.get? b = some o → h₁.get? b = some o) → (∀ a, W L a → h.get? a = none) →
      wpAny (model prog w) (A.deeper (envX qual scope L f cdv (cellsFrom (L + 1) scope.names []))) (execs body (envX qual scope L f cdv (cellsFrom (L + 1) scope.names []))) (fun fl s' => Q (retOf fl) s') (fun _ _ => False) (c.at h₁ t₁))
    (hco : scope.isCoroutine = false) (hgen : scope.isGenerator = false) (hk : scope.kind = .function) :
    wpAny (model prog w) A (call (.ref f) args) Q E (c.at h t) := by
  have k0 : ∀ b o, h.get? b = some o → h.get? b = some o := fun b o e => e
  refine wpAny_call ?_
  refine codeAny_call_function hr (Z.k k0 _ _ ho) rfl hco hgen rfl (codeRec_of (Z.k k0) hcd) (hbind _ _ _ _ ?_)
  refine wpAny_newFunctionEnv_cells hk (kindsX hkind _) fun env' he s' x => ?_
  subst he
  refine ⟨(Z.t k0).nolimit.keeps x.toInCall.keep, codeAny_func ?_⟩
  refine ex2 (x.done) fun h₁ tk hx1 => ?_
  refine and2 hx1 fun er1_2 _ => ?_
  clear hx1
  subst er1_2
  have up : ∀ b o, h.get? b = some o → h₁.get? b = some o := x.toInCall.keep
  have hns : h₁.Ns h.objs.size m := by have := x.toInCall.ns; rw [← hm h.objs.size]; exact this
  let isC : Addr → Prop := fun a => ∃ y, (cellsFrom (h.objs.size + 1) scope.names []).lookup y = some a
  let G₁ : PMap := fun a => if isC a then h₁.get? a else G a
  have above : ∀ a, isC a → h.objs.size < a := fun a ⟨y, e⟩ => x.above y a (mem_of_look e)
  have ltG : ∀ a o, G a = some o → a < h.objs.size := fun a o e => Heap.lt_size (hG a o e)
  have g1 : ∀ a o, G a = some o → G₁ a = some o := fun a o e => by
    show (if isC a then h₁.get? a else G a) = some o
    rw [if_neg fun z => absurd (ltG a o e) (Nat.not_lt.mpr (Nat.le_of_lt (above a z)))]; exact e
  have g2 : ∀ a o, G₁ a = some o → (isC a ∧ h₁.get? a = some o) ∨ (¬ isC a ∧ G a = some o) := fun a o e => by
    by_cases z : isC a
    · refine .inl ⟨z, ?_⟩
      have : G₁ a = h₁.get? a := if_pos z
      rw [← this]; exact e
    · refine .inr ⟨z, ?_⟩
      have : G₁ a = G a := if_neg z
      rw [← this]; exact e
  have high : ∀ a, h.objs.size ≤ a → h.get? a = none := fun a ha => fresh_ge ha
  have S0 : St (fun _ => none) (fun _ => none) h.objs.size m G₁ h₁ := by
    refine ⟨hns, (fun _ _ e => by (first | with_reducible exact no_some e | with_reducible exact some_no e | with_reducible exact no_bool e | with_reducible exact no_bool' e | cases e)), rfl, (fun _ _ e => by (first | with_reducible exact no_some e | with_reducible exact some_no e | with_reducible exact no_bool e | with_reducible exact no_bool' e | cases e)), (fun _ _ e => by (first | with_reducible exact no_some e | with_reducible exact some_no e | with_reducible exact no_bool e | with_reducible exact no_bool' e | cases e)), fun a o e => ?_⟩
    rcases g2 a o e with ⟨z, e⟩ | ⟨_, e⟩
    · exact ⟨e, Nat.ne_of_gt (above a z), .inr rfl⟩
    · exact ⟨up _ _ (hG a o e), Nat.ne_of_lt (ltG a o e), .inr rfl⟩
  have hWf : ∀ a, W h.objs.size a → h.get? a = none := fun a z => high a (Nat.le_of_lt (above a (hWc _ a z)))
  refine wpAny_mono (q h.objs.size h₁ _ G₁ g1 (fun a o e => (g2 a o e).symm.imp (·.2) fun z => high a (Nat.le_of_lt (above a z.1))) (fun y c e => ?_) (S0.again (W h.objs.size)) (Z.mono fun b o e => ?_) S0.noL no_size up hWf) (fun fl s' q => ?_) fun _ _ x => x.elim
  · refine ex1 (x.cell y c e) fun o hx2 => ?_
    refine and2 hx2 fun e1 e2 => ?_
    clear hx2
    refine ⟨o, ?_, ?_⟩
    · show (if isC c then h₁.get? c else G c) = some o
      rw [if_pos ⟨y, e⟩]; exact e1
    · rw [e2, ← hcm h.objs.size]; rfl
  · rw [mask_out fun z => z.elim (fun z => by rw [hWf b z] at e; (first | with_reducible exact no_some e | with_reducible exact some_no e | with_reducible exact no_bool e | with_reducible exact no_bool' e | cases e)) fun q => by rw [q, no_size] at e; cases e]
    exact up b o e
  · cases fl <;> exact q
theorem storeC {x : Str} {ca : Addr} {v : Value} {o : Obj} {v0 : Option Value} {Q : Unit → Shared → Prop} (S : St B G₀ L m G h) (hc : G ca = some o) (hd : o.data = .cell v0) (hB : B ca = none) (q : ∀ h' t' o', St B G₀ L m (put G ca o') h' → o'.data = .cell (some v) → Q () (c.at h' t'))
    (hl : env.cells.lookup x = some ca := by kernel_rfl) (hk : env.scope.kind = .function := by kernel_rfl) (hx : env.kindOf x = some .cell := by kernel_rfl) : wpAny (model prog w) A (storeName env x v) Q E (c.at h t) := by
  refine wpAny_storeName_cell (s := c.at h t) hk hx hl ⟨o, S.get hc, hd⟩ fun h' hv hs => ?_
  refine ex1 (hv) fun o' hx3 => ?_
  refine and2 hx3 fun e d => ?_
  clear hx3
  try clear hv
  exact q h' t o' (S.set hB hc hs e) d
end
theorem exitC {W : Addr → Prop} {G G₁ G' : PMap} {h h₁ h' : Heap} {L : Addr} {m : Str → Option Value} (S' : St (mask (fun a => W a ∨ a = L) h₁.get?) (mask W G₁) L m G' h') (up : ∀ b o, h.get? b = some o → h₁.get? b = some o) (hL : h.get? L = none)
    (hs : ∀ a o, G a = some o → h.get? a = some o) (g1 : ∀ a o, G a = some o → G₁ a = some o) (g2 : ∀ a o, G₁ a = some o → G a = some o ∨ h.get? a = none) (gL : G₁ L = none) (hW : ∀ a, W a → G₁ a ≠ none) (hf : ∀ a, W a → h.get? a = none) : Grow No G h G' h' := by
  have g := S'.outW hW gL
  have nL : ∀ a o, h.get? a = some o → ¬ (W a ∨ a = L) := fun a o e z => z.elim (fun z => by rw [hf a z] at e; (first | with_reducible exact no_some e | with_reducible exact some_no e | with_reducible exact no_bool e | with_reducible exact no_bool' e | cases e)) fun q => by rw [q, hL] at e; (first | with_reducible exact no_some e | with_reducible exact some_no e | with_reducible exact no_bool e | with_reducible exact no_bool' e | cases e)
  refine ⟨fun a o _ e => g.keep a o (nL a o e) (up a o e), fun a o _ e => g.mono a o (nL a o (hs a o e)) (g1 a o e), fun a o e => ⟨(g.sub a o e).1, ?_⟩⟩
  rcases (g.sub a o e).2 with q | q
  · refine ex1 (Option.ne_none_iff_exists'.mp q) fun o' e' => ?_
    exact (g2 a o' e').imp (fun z => by rw [z]; exact Option.some_ne_none _) id
  · refine .inr ?_
    cases z : h.get? a with
    | none => rfl
    | some o' => rw [up a o' z] at q; (first | with_reducible exact no_some q | with_reducible exact some_no q | with_reducible exact no_bool q | with_reducible exact no_bool' q | cases q)
section
open Classical
variable {prog : Program} {w : World} {A : Around} {E : Value → Shared → Prop} {c : Fx} {h : Heap} {t : Nat} {mg mb m : Str → Option Value} {B G₀ G : PMap} {L : Addr}
theorem rowP_inj {p q : Int × Int} (h : rowP p = rowP q) : p = q := by
  unfold rowP at h
  injection h with h
  injection h with h1 h2
  injection h2 with h2 _
  injection h1 with h1
  injection h2 with h2
  exact Prod.ext h1 h2
theorem notInPairs {l : Addr} {vs : List Value} {n : Nat} {F : List (Int × Int)} {x : Value} {p : Int × Int} {Q : Value → Shared → Prop} (S : St B G₀ L m G h) (hl : G l = some (listOf vs.toArray n)) (hr : RAll G vs (F.map rowP)) (hx : RIn G x (rowP p)) (hu : A.units + 1 < cLine)
    (q : Q (.bool (!decide (p ∈ F))) (c.at h t)) : wpAny (model prog w) A (compareOp .NotIn x (.ref l)) Q E (c.at h t) := by
  refine SeqAt.notIn_listAt (s := c.at h t) (fun y => decide (RIn G y (rowP p))) (items := vs.toArray) ⟨_, S.get hl, rfl, n, rfl⟩ (fun y hy => ?_) ?_
  · have hy : y ∈ vs := by simpa using hy
    refine ex1 (List.getElem?_of_mem hy) fun i hi => ?_
    refine ex1 (hr.get' hi) fun r hx6 => ?_
    refine and2 hx6 fun hr1 hr2 => ?_
    clear hx6
    rw [List.getElem?_map] at hr1
    refine ex1 (Option.map_eq_some_iff.mp hr1) fun p' hx7 => ?_
    refine and2 hx7 fun hp' er7_2 => ?_
    clear hx7
    subst er7_2
    have e : decide (RIn G y (rowP p)) = decide (rowP p' = rowP p) := by
      rw [decide_eq_decide]
      exact ⟨fun z => RIn.fun hr2 z, fun z => z ▸ hr2⟩
    rw [e]
    exact req_tup (s := c.at h t) (fun a o e => S.get e) (show A.in1.units < cLine from hu) (reqs_all fun a ha b hb => by
      rcases List.mem_cons.mp ha with rfl | ha
      · rcases List.mem_cons.mp hb with rfl | hb
        · exact req_int
        · rw [List.mem_singleton] at hb; subst hb; exact req_int
      · rw [List.mem_singleton] at ha
        subst ha
        rcases List.mem_cons.mp hb with rfl | hb
        · exact req_int
        · rw [List.mem_singleton] at hb; subst hb; exact req_int) _ _ hr2 hx
  · have e : (vs.toArray.any fun y => decide (RIn G y (rowP p))) = decide (p ∈ F) := by
      rw [Bool.eq_iff_iff, decide_eq_true_iff]
      simp only [List.any_toArray, List.any_eq_true, decide_eq_true_eq]
      constructor
      · intro hi7_0
        refine ex1 (hi7_0) fun y hx9 => ?_
        refine and2 hx9 fun hy hyr => ?_
        clear hx9
        clear hi7_0
        refine ex1 (List.getElem?_of_mem hy) fun i hi => ?_
        refine ex1 (hr.get' hi) fun r hx11 => ?_
        refine and2 hx11 fun hr1 hr2 => ?_
        clear hx11
        rw [List.getElem?_map] at hr1
        refine ex1 (Option.map_eq_some_iff.mp hr1) fun p' hx12 => ?_
        refine and2 hx12 fun hp' er12_2 => ?_
        clear hx12
        subst er12_2
        rw [← rowP_inj (RIn.fun hr2 hyr)]
        exact List.mem_of_getElem? hp'
      · intro hp
        refine ex1 (List.getElem?_of_mem hp) fun i hi => ?_
        obtain ⟨y, hy, hyr⟩ := hr.get (i := i) (d := rowP p) (by rw [List.getElem?_map, hi]; rfl)
        exact ⟨y, List.mem_of_getElem? hy, hyr⟩
    rw [e]; exact q
end

end
section
noncomputable def lawAdd (F X : List (Int × Int)) : List (Int × Int) := F ++ X.filter fun p => !decide (p ∈ F)
theorem mem_lawAdd {F X : List (Int × Int)} {p : Int × Int} : p ∈ lawAdd F X ↔ p ∈ F ∨ p ∈ X := by
  unfold lawAdd
  rw [List.mem_append, List.mem_filter]
  by_cases hf : p ∈ F
  · simp [hf]
  · simp [hf]
theorem lawAdd_new {F X : List (Int × Int)} {p : Int × Int} : lawAdd F (addNew X p) = addNew (lawAdd F X) p := by
  unfold addNew
  by_cases hx : p ∈ X
  · rw [if_pos hx, if_pos (mem_lawAdd.mpr (.inr hx))]
  · rw [if_neg hx]
    by_cases hf : p ∈ F
    · rw [if_pos (mem_lawAdd.mpr (.inl hf))]
      unfold lawAdd
      rw [List.filter_append, List.filter_cons_of_neg (by simp [hf]), List.filter_nil, List.append_nil]
    · rw [if_neg (fun z => (mem_lawAdd.mp z).elim hf hx)]
      unfold lawAdd
      rw [List.filter_append, List.filter_cons_of_pos (by simp [hf]), List.filter_nil, List.append_assoc]
theorem lawAdd_fold {F : List (Int × Int)} : ∀ (l X : List (Int × Int)), lawAdd F (l.foldl addNew X) = l.foldl addNew (lawAdd F X)
  | [], X => rfl
  | p :: l, X => by rw [List.foldl_cons, List.foldl_cons, lawAdd_fold l, lawAdd_new]
noncomputable def Ob.walked (n : Nat) (d : Ob) : List (Int × Int) := (Ob.refs n d).foldl addNew []
theorem lawAdd_walked {F : List (Int × Int)} {n : Nat} {d : Ob} : lawAdd F (Ob.walked n d) = (Ob.refs n d).foldl addNew F := by
  unfold Ob.walked
  rw [lawAdd_fold]
  congr 1
  unfold lawAdd
  simp
noncomputable def gather (l : Stack) (F : List (Int × Int)) : List (Int × Int) := l.foldl (fun F e => lawAdd F (Ob.walked e.1 e.2)) F
theorem gather_refs : ∀ (l : Stack) (F : List (Int × Int)), gather l F = (l.flatMap fun e => Ob.refs e.1 e.2).foldl addNew F
  | [], F => rfl
  | e :: l, F => by
    show gather l (lawAdd F (Ob.walked e.1 e.2)) = _
    rw [lawAdd_walked, gather_refs l, List.flatMap_cons, List.foldl_append]
theorem gather_snoc {l : Stack} {e : Nat × Ob} {F : List (Int × Int)} : gather (l ++ [e]) F = lawAdd (gather l F) (Ob.walked e.1 e.2) := by unfold gather; rw [List.foldl_append]; rfl
theorem refs_len : ∀ (n : Nat) (d : Ob), (Ob.refs n d).length ≤ Ob.nodes n d := by
  intro n
  induction n with
  | zero => intro d; cases d <;> first | exact Nat.le_refl _ | exact Nat.zero_le _
  | succ n ih =>
    intro d
    have hs : ∀ l : List Ob, (l.flatMap fun x => Ob.refs n x).length ≤ (l.map fun x => Ob.nodes n x).sum := by
      intro l
      induction l with
      | nil => exact Nat.le_refl _
      | cons x l ihl =>
        rw [List.flatMap_cons, List.length_append, List.map_cons, List.sum_cons]
        have := ih x
        omega
    cases d with
    | ref a b => exact nodes_pos _ _
    | _ => exact Nat.le_trans (hs _) (Nat.le_add_left ..)
theorem foldNew_len : ∀ (l F : List (Int × Int)), (l.foldl addNew F).length ≤ F.length + l.length
  | [], F => Nat.le_refl _
  | p :: l, F => by
    rw [List.foldl_cons, List.length_cons]
    have := foldNew_len l (addNew F p)
    have h2 : (addNew F p).length ≤ F.length + 1 := by unfold addNew; split <;> simp
    omega
theorem walked_len {n : Nat} {d : Ob} (hn : n ≤ 3) (hd : d.ok n = true) : (Ob.walked n d).length ≤ 64 := by
  have h1 := foldNew_len (Ob.refs n d) []
  have h2 := refs_len n d
  have h3 := nodes_le n d hd
  have h4 : 4 ^ n ≤ 64 := Nat.le_trans (Nat.pow_le_pow_right (by decide) hn) (by decide)
  rw [List.length_nil] at h1
  unfold Ob.walked
  omega
theorem gather_len {l : Stack} {F : List (Int × Int)} (hl : ∀ e ∈ l, e.1 ≤ 3 ∧ e.2.ok e.1 = true) : (gather l F).length ≤ F.length + 64 * l.length := by
  induction l generalizing F with
  | nil => exact Nat.le_refl _
  | cons e l ih =>
    show (gather l (lawAdd F (Ob.walked e.1 e.2))).length ≤ _
    have h1 := ih (F := lawAdd F (Ob.walked e.1 e.2)) fun x hx => hl x (List.mem_cons_of_mem _ hx)
    have h2 : (lawAdd F (Ob.walked e.1 e.2)).length ≤ F.length + (Ob.walked e.1 e.2).length := by
      unfold lawAdd
      rw [List.length_append]
      have := List.length_filter_le (fun p => !decide (p ∈ F)) (Ob.walked e.1 e.2)
      omega
    have h3 := walked_len (hl e List.mem_cons_self).1 (hl e List.mem_cons_self).2
    rw [List.length_cons]
    omega
theorem nul_refs {n : Nat} {d : Ob} (h : d.isNul = true) : Ob.refs n d = [] := by
  cases d with
  | null => cases n <;> rfl
  | _ => (first | with_reducible exact no_some h | with_reducible exact some_no h | with_reducible exact no_bool h | with_reducible exact no_bool' h | cases h)
theorem flat_filter {n : Nat} (l : List Ob) : ((l.filter fun d => !d.isNul).flatMap fun d => Ob.refs n d) = l.flatMap fun d => Ob.refs n d := by
  induction l with
  | nil => rfl
  | cons d l ih =>
    cases hd : d.isNul with
    | true => rw [List.filter_cons_of_neg (by rw [hd]; decide), ih, List.flatMap_cons, nul_refs hd, List.nil_append]
    | false => rw [List.filter_cons_of_pos (by rw [hd]; rfl), List.flatMap_cons, List.flatMap_cons, ih]
noncomputable def WalkAt (prog : Program) (w : World) (mg mb : Str → Option Value) (r : Nat) (row : Rw) (F : List (Int × Int)) : Prop :=
  ∀ (A : Around) (E : Value → Shared → Prop) (c : Fx) (h : Heap) (t : Nat) (G : PMap) (v : Value) (Q : Value → Shared → Prop), Ok r A → Bs (KK w) VV LL mg mb h.get? → (∀ a o, G a = some o → h.get? a = some o) → RIn G v row →
    (∀ a vs n G' h' t', Grow No G h G' h' → G' a = some (listOf vs.toArray n) → RAll G' vs (F.map rowP) → Q (.ref a) (c.at h' t')) → wpAny (model prog w) A (call (.ref 337) [v]) Q E (c.at h t)
section
variable {prog : Program} {w : World} {mg mb : Str → Option Value}
theorem walked_ref (n : Nat) (x y : Int) : WalkAt prog w mg mb 3 ((Ob.ref x y).row none n) (Ob.walked n (.ref x y)) := by
  intro A E c h t G v Q o Z hG hv k
  refine' enterC2 (m := upd none_ (Str.ofString "row") v) (cm := none_) (fun L a => a = L + 1) [((Str.ofString "row"), v)] o.room Z hG ?hw ?ho ?hcd ?hb ?hl ?hc ?hm ?hcm ?_ ?c1 ?c2 ?c3
  case ho => exact rfl
  case hw => intro L a e; have e : a = L + 1 := e; exact ⟨Str.ofString "found", by rw [e]; exact rfl⟩
  case hcd => kernel_rfl
  case hb => exact BindsTo.of_eq rfl
  case hl => kernel_rfl
  case hc => decide +kernel
  case hm => intro L; kernel_rfl
  case hcm => intro L; kernel_rfl
  case c1 => exact rfl
  case c2 => exact rfl
  case c3 => exact rfl
  intro L h₁ t₁ G₁ g1 g2 ce S Z gL sL up hf
  rw [row_ref] at hv
  have hv := hv.mono g1
  cases hv using RIn.tupE with
  | k ra vs rn hra hall =>
  cases hall using RAll.consE with
  | k v0 us h0 hall =>
  cases h0 using RIn.strE with
  | k u0 =>
  have hlen := hall.length
  repeat cell_call
  refine itemT S hra (j := 0) rfl rfl (by decide) ?_
  repeat cell_call
  refine sliceT S hra (Nat.le_trans (Nat.le_of_eq hlen) (by show 2 ≤ 1000; omega)) (fun sa h3 t3 S3 gs => ?_)
  repeat cell_call
  rename_i la h4 S4 gla
  have hW : ∀ a, (fun a => a = L + 1) a → G₁ a ≠ none := by
    intro a z
    refine ex1 (ce (Str.ofString "found") (L + 1) (by exact rfl)) fun o hx1 => ?_
    refine and2 hx1 fun e _ => ?_
    clear hx1
    have z : a = L + 1 := z
    rw [z, e]; exact Option.some_ne_none _
  refine k _ _ _ _ _ _ (exitC S4 up sL hG g1 g2 gL hW hf) put_self ?_
  have : Ob.walked n (.ref x y) = [(x, y)] := by cases n <;> rfl
  rw [this]
  cases hall using RAll.consE with
  | k v1 _ h1 hall =>
  cases hall using RAll.consE with
  | k v2 _ h2 hall =>
  cases hall with
  | nil =>
  have up : ∀ a o, G₁ a = some o → put (put G₁ sa (tupOf [v1, v2] 0)) la (listOf [Value.ref sa].toArray 0) a = some o := fun a o e => put_old gla a o (put_old gs a o e)
  exact .cons (.tup (put_old gla _ _ put_self) (.cons (h1.mono up) (.cons (h2.mono up) .nil))) .nil
end
theorem notCell {U : PMap} {x : Str} {ca pa : Addr} {v : Value} (cf : CellIn U x ca v) (hn : U pa = none) : ¬ pa = ca := fun e => by
  refine ex1 (cf) fun o hx2 => ?_
  refine and2 hx2 fun z _ => ?_
  clear hx2
  try clear cf
  rw [e, z] at hn; (first | with_reducible exact no_some hn | with_reducible exact some_no hn | with_reducible exact no_bool hn | with_reducible exact no_bool' hn | cases hn)
theorem RAll.head {G : PMap} {vs : List Value} {r : Rw} {rs : List Rw} (H : RAll G vs (r :: rs)) : ∃ v us, vs = v :: us ∧ RIn G v r ∧ RAll G us rs := by
  cases H with
  | cons a b => exact ⟨_, _, rfl, a, b⟩
noncomputable def rowItems (n : Nat) : Ob → Stack
  | .array ds => ds.map fun d => (n, d)
  | .dict ds => (entList n ds).map fun e => (n, e.2)
  | .stream ds _ => [(n + 1, .dict ds)]
  | _ => []
theorem items_len {n : Nat} {d : Ob} (h : d.ok (n + 1) = true) : (rowItems n d).length ≤ 3 := by
  cases d with
  | array ds => show (ds.map _).length ≤ 3; rw [List.length_map]; exact (ok_array h).1
  | dict ds => show ((entList n ds).map _).length ≤ 3; rw [List.length_map]; exact entList_len
  | stream ds o => exact Nat.le_succ_of_le (Nat.le_succ 1)
  | _ => exact Nat.zero_le _
theorem items_ok {n : Nat} {d : Ob} (hn : n + 1 ≤ 3) (h : d.ok (n + 1) = true) : ∀ e ∈ rowItems n d, e.1 ≤ 3 ∧ e.2.ok e.1 = true := by
  intro e he
  cases d with
  | array ds =>
    refine ex1 (List.mem_map.mp he) fun x hx3 => ?_
    refine and2 hx3 fun hx er3_2 => ?_
    clear hx3
    subst er3_2
    exact ⟨by show n ≤ 3; omega, (ok_array h).2 x hx⟩
  | dict ds =>
    refine ex1 (List.mem_map.mp he) fun x hx4 => ?_
    refine and2 hx4 fun hx er4_2 => ?_
    clear hx4
    subst er4_2
    exact ⟨by show n ≤ 3; omega, ((ok_dict h).2.2 _ _ (entList_mem hx)).2⟩
  | stream ds o =>
    rw [show rowItems n (.stream ds o) = [(n + 1, .dict ds)] from rfl, List.mem_singleton] at he
    subst he
    exact ⟨hn, (ok_stream h).1⟩
  | _ => (first | with_reducible exact no_some he | with_reducible exact some_no he | with_reducible exact no_bool he | with_reducible exact no_bool' he | cases he)
theorem items_gather {n : Nat} {d : Ob} (hb : d.isBox = true) : gather (rowItems n d) [] = Ob.walked (n + 1) d := by
  rw [gather_refs]
  unfold Ob.walked
  congr 1
  have dp : ∀ ds : List (Str × Ob), (((entList n ds).map fun e => ((n, e.2) : Nat × Ob)).flatMap fun e => Ob.refs e.1 e.2) = (dictParts ds).flatMap fun x => Ob.refs n x := fun ds => by
    rw [← flat_filter, ← entList_parts (n := n), List.flatMap_map, List.flatMap_map]
  cases d with
  | array ds => show ((ds.map _).flatMap _) = ds.flatMap _; rw [List.flatMap_map]
  | dict ds => exact dp ds
  | stream ds o => show (List.flatMap _ [((n + 1, .dict ds) : Nat × Ob)]) = _; rw [List.flatMap_cons, List.flatMap_nil, List.append_nil]; rfl
  | _ => (first | with_reducible exact no_some hb | with_reducible exact some_no hb | with_reducible exact no_bool hb | with_reducible exact no_bool' hb | cases hb)
inductive WalkInv (W : Addr → Prop) (ca : Addr) (items : Stack) (i : Nat) (U : PMap) : Prop
  | mk (la : Addr) (vs : List Value) (nl : Nat) (q1 : CellIn U (Str.ofString "found") ca (.ref la)) (q2 : mask W U la = some (listOf vs.toArray nl)) (q3 : RAll (mask W U) vs ((gather (items.take i) []).map rowP)) : WalkInv W ca items i U
theorem tail_of {M : Model} {A : Around} {E : Value → Shared → Prop} {s : Shared} {env : Env} {a b : Stmt} {rest : List Stmt} {Q : Flow → Shared → Prop} (Mid : Shared → Prop) (k : ∀ s', Mid s' → wpAny M A (execs rest env) Q E s')
    (q : (∀ s', Mid s' → wpAny M A (execs rest env) Q E s') → wpAny M A (execs (a :: b :: rest) env) Q E s) : wpAny M A (execs (a :: b :: rest) env) Q E s := q k
inductive WMid (c : Fx) (B G₀ : PMap) (L : Addr) (W : Addr → Prop) (ra : Addr) (U : PMap) (rows : List Rw) (s : Shared) : Prop
  | mk (U8 : PMap) (h : Heap) (t : Nat) (m : Str → Option Value) (pa : Addr) (pvs : List Value) (pn : Nat) (e : s = c.at h t) (S : St B G₀ L m U8 h) (e1 : m (Str.ofString "row") = some (.ref ra)) (e2 : m (Str.ofString "parts") = some (.ref pa)) (up : ∀ a o, U a = some o → U8 a = some o) (hpa : mask W U8 pa = some (listOf pvs.toArray pn)) (hrows : RAll (mask W U8) pvs rows) : WMid c B G₀ L W ra U rows s
abbrev wmid {B G₀ U : PMap} {L : Addr} {m : Str → Option Value} {h : Heap} (c : Fx) (_ : St B G₀ L m U h) (W : Addr → Prop) (ra : Addr) (rows : List Rw) : Shared → Prop := WMid c B G₀ L W ra U rows
section
variable {prog : Program} {w : World} {mg mb : Str → Option Value}
theorem walked_box (n r : Nat) (hn : n + 1 ≤ 3) (d : Ob) (hd : d.ok (n + 1) = true) (hb : d.isBox = true) (ih : ∀ e ∈ rowItems n d, WalkAt prog w mg mb r (e.2.row none e.1) (Ob.walked e.1 e.2)) : WalkAt prog w mg mb (r + 1) (d.row none (n + 1)) (Ob.walked (n + 1) d) := by
  intro A E c h t G v Q o Z hG hv k
  refine' enterC2 (m := upd none_ (Str.ofString "row") v) (cm := none_) (fun L a => a = L + 1) [((Str.ofString "row"), v)] o.room Z hG ?hw ?ho ?hcd ?hb ?hl ?hc ?hm ?hcm ?_ ?c1 ?c2 ?c3
  case ho => exact rfl
  case hw => intro L a e; have e : a = L + 1 := e; exact ⟨Str.ofString "found", by rw [e]; exact rfl⟩
  case hcd => kernel_rfl
  case hb => exact BindsTo.of_eq rfl
  case hl => kernel_rfl
  case hc => decide +kernel
  case hm => intro L; kernel_rfl
  case hcm => intro L; kernel_rfl
  case c1 => exact rfl
  case c2 => exact rfl
  case c3 => exact rfl
  intro L h₁ t₁ G₁ g1 g2 ce S Z gL sL up hf
  have hv0 := hv
  have hv := hv.mono g1
  refine ex1 (row_tag (n + 1) d hd) fun xs er => ?_
  rw [er] at hv
  cases hv using RIn.tupE with
  | k ra vs rn hra hall =>
  cases hall using RAll.consE with
  | k v0 us h0 hall =>
  cases h0 using RIn.strE with
  | k u0 =>
  have e0 : (d.word == (Str.ofString "ref")) = false := by cases d <;> first | rfl | (first | with_reducible exact no_some hb | with_reducible exact some_no hb | with_reducible exact no_bool hb | with_reducible exact no_bool' hb | cases hb)
  repeat cell_call
  refine itemT S hra (j := 0) rfl rfl (by decide) ?_
  repeat cell_call
  refine iteF e0 ?_
  repeat cell_call
  rename_i la h4 S4 gla
  refine ex1 (ce (Str.ofString "found") (L + 1) (by exact rfl)) fun oc hx6 => ?_
  refine and2 hx6 fun ec edc => ?_
  clear hx6
  let W : Addr → Prop := fun a => a = L + 1
  have hW : ∀ a, W a → G₁ a ≠ none := by
    intro a z
    have z : a = L + 1 := z
    rw [z, ec]; exact Option.some_ne_none _
  have nW : ∀ {a o}, G₁ a = some o → G a = some o → ¬ W a := fun {a o} e1 e2 z => by
    have z : a = L + 1 := z
    have := hG _ _ e2
    rw [hf a z] at this; (first | with_reducible exact no_some this | with_reducible exact some_no this | with_reducible exact no_bool this | with_reducible exact no_bool' this | cases this)
  have hv1 : RIn (mask W G₁) (.ref ra) (.tup (.str d.word :: xs)) := by
    have := hv0.mono (G' := mask W G₁) fun a o e => by rw [mask_out (nW (g1 a o e) e)]; exact g1 a o e
    rwa [er] at this
  refine storeC S4 (put_old gla _ _ ec) edc (mask_in (.inl rfl)) (fun h5 t5 oc' S5 edc' => ?_)
  have nla : la ≠ L + 1 := fun e => by rw [← e, gla] at ec; (first | with_reducible exact no_some ec | with_reducible exact some_no ec | with_reducible exact no_bool ec | with_reducible exact no_bool' ec | cases ec)
  have mm5 : ∀ a o, mask W G₁ a = some o → mask W (put (put G₁ la (listOf [].toArray 0)) (L + 1) oc') a = some o := by
    rw [mask_put (show W (L + 1) from rfl)]
    exact mask_put_old gla
  have cf : CellIn (put (put G₁ la (listOf [].toArray 0)) (L + 1) oc') (Str.ofString "found") (L + 1) (.ref la) := ⟨oc', put_self, edc'⟩
  have hla : mask W (put (put G₁ la (listOf [].toArray 0)) (L + 1) oc') la = some (listOf [].toArray 0) := by rw [mask_out (show ¬ W la from nla), put_ne nla, put_self]
  have hv5 := hv1.mono mm5
  generalize put (put G₁ la (listOf [].toArray 0)) (L + 1) oc' = U5 at *
  clear hra hall
  have hv5' := hv5
  cases hv5 using RIn.tupE with
  | k _ vs rn hra hall =>
  have hra := mask_sub _ _ hra
  cases hall using RAll.consE with
  | k v0 us h0 hall =>
  cases h0 using RIn.strE with
  | k u0 =>
  have hitl := items_len hd
  have hito := items_ok hn hd
  have hitg := items_gather (n := n) hb
  have hlen := hall.length
  have hra5 := hra
  have hbox : ([(Str.ofString "array"), (Str.ofString "dict"), (Str.ofString "stream")].any (· == d.word)) = true := by cases d <;> first | exact absurd hb Bool.false_ne_true | kernel_rfl
  refine tail_of (wmid c S5 W ra ((rowItems n d).map fun e => e.2.row none e.1)) ?tail fun tail => ?_
  rotate_left
  repeat cell_call
  refine itemT S5 hra (j := 0) rfl rfl (by decide) ?_
  repeat cell_call
  rcases d with _ | b | i | ⟨a, b⟩ | x | ⟨x, b⟩ | ⟨a, b⟩ | ds | ds | ⟨ds, oc⟩
  iterate 7 (focus (cases hb))
  have od := ok_array hd
  have exs : xs = ds.map fun d => Ob.row none n d := by
    have := er
    rw [row_array] at this
    injection this with this
    injection this with _ this
    exact this.symm
  subst exs
  rw [List.length_map] at hlen
  refine iteF (by kernel_rfl!) ?_
  repeat cell_call
  refine sliceT S5 hra (by first | decide | omega) (fun sa h6 t6 S6 gs => ?_)
  repeat cell_call
  refine listSeq S6 (.inr rfl) put_self rfl rfl (fun pa h7 pn S7 gp => ?_) (by rw [sizeLine_eq]; omega)
  have hpa : mask W (put (put U5 sa (tupOf us 0)) pa (listOf us.toArray pn)) pa = some (listOf us.toArray pn) := by
    rw [mask_out (W := W) (notCell (cf.mono (put_old gs)) gp), put_self]
  have upU : ∀ a o, U5 a = some o → put (put U5 sa (tupOf us 0)) pa (listOf us.toArray pn) a = some o := fun a o e => put_old gp a o (put_old gs a o e)
  have hrows : RAll (mask W (put (put U5 sa (tupOf us 0)) pa (listOf us.toArray pn))) us ((rowItems n (.array ds)).map fun e => e.2.row none e.1) := by
    rw [show ((rowItems n (.array ds)).map fun e => e.2.row none e.1) = ds.map fun d => Ob.row none n d by show ((ds.map _).map _) = _; rw [List.map_map]; rfl]
    exact hall.mono (mask_mono upU)
  generalize put (put U5 sa (tupOf us 0)) pa (listOf us.toArray pn) = U8 at *
  repeat cell_call
  refine itemT (by assumption) (upU _ _ hra5) (j := 0) rfl rfl (by decide) ?_
  repeat (first | refine tail _ ?_ | cell_call)
  exact .mk _ _ _ _ pa _ _ rfl (by assumption) (by w_left) (by w_left) upU hpa hrows
  have od := ok_dict hd
  have exs : xs = (entList n ds).map fun e => Rw.tup [.str e.1, Ob.row none n e.2] := by
    have := er
    rw [row_dict, entRows_list hd] at this
    injection this with this
    injection this with _ this
    exact this.symm
  subst exs
  rw [List.length_map] at hlen
  have el := entList_len (n := n) (ds := ds)
  refine iteT (by kernel_rfl!) ?_
  refine eval_comp (cl := []) (by kernel_rfl) ?_
  repeat cell_call
  refine sliceT S5 hra (by first | decide | omega) (fun sa h6 t6 S6 gs => ?_)
  refine comp_at (W := No) (P := fun i v => us.toArray[i]? = some v) (n := us.toArray.size) (fun i ys U => RAll (mask W U) ys (((entList n ds).take i).map fun e => Ob.row none n e.2)) S6 Z (Src.tuple (its := us.toArray) o.deeper.hh ⟨_, S6.get put_self, rfl, _, rfl⟩ (fun z => z)) no_B (fun _ _ _ _ => no_ne) ?sz .nil ?turn ?done
  case sz => rw [List.size_toArray, hlen]; exact Nat.le_trans el (by decide)
  case turn =>
    intro i v ys U h t C m₂ hi hv g S Z hm inv hl
    rw [mask_no] at S
    have upU : ∀ a o, U5 a = some o → U a = some o := fun a o e => g.up a o (put_old gs a o e)
    refine ex1 (hall.get' (i := i) (v := v) (by simpa using hv)) fun r hx7 => ?_
    refine and2 hx7 fun hr hrow => ?_
    clear hx7
    rw [List.getElem?_map] at hr
    refine ex1 (Option.map_eq_some_iff.mp hr) fun e hx8 => ?_
    refine and2 hx8 fun he er8_2 => ?_
    clear hx8
    subst er8_2
    have hrow := hrow.mono (mask_mono upU)
    cases hrow using RIn.tupE with
    | k pa pvs pn hpa hpall =>
    cases hpall using RAll.consE with
    | k p0 _ hp0 hpall =>
    cases hpall using RAll.consE with
    | k p1 _ hp1 hpall =>
    cases hpall with
    | nil =>
    repeat cell_call
    refine itemT S (mask_sub _ _ hpa) (j := 1) rfl rfl (by decide) ?_
    refine ⟨_, _, _, _, rfl, by rw [mask_no]; exact S, ?_⟩
    rw [take_next he, List.map_append]
    exact inv.snoc hp1
  intro pa ys U h7 t7 S7 uD bD hD g g' inv hl
  rw [List.size_toArray, hlen, List.take_length] at inv
  have upU : ∀ a o, U5 a = some o → put U pa (lstOf ys) a = some o := fun a o e => g.up a o (put_old gs a o e)
  have hpa : mask W (put U pa (lstOf ys)) pa = some (lstOf ys) := by
    rw [mask_out (W := W) (notCell (cf.mono fun a o e => g'.up a o (put_old gs a o e)) uD), put_self]
  have hrows : RAll (mask W (put U pa (lstOf ys))) ys ((rowItems n (.dict ds)).map fun e => e.2.row none e.1) := by
    rw [show ((rowItems n (.dict ds)).map fun e => e.2.row none e.1) = (entList n ds).map fun e => Ob.row none n e.2 by show (((entList n ds).map _).map _) = _; rw [List.map_map]; rfl]
    exact inv.mono (mask_put_old uD)
  generalize put U pa (lstOf ys) = U8 at *
  repeat cell_call
  refine itemT (by assumption) (upU _ _ hra5) (j := 0) rfl rfl (by decide) ?_
  repeat (first | refine tail _ ?_ | cell_call)
  exact .mk _ _ _ _ pa _ _ rfl (by assumption) (by w_left) (by w_left) upU hpa hrows
  have exs : xs = [Ob.row none (n + 1) (.dict ds), .bytes oc] := by
    have := er
    rw [row_stream] at this
    injection this with this
    injection this with _ this
    exact this.symm
  subst exs
  have hlen : us.length = 2 := hlen
  refine iteF (by kernel_rfl!) ?_
  repeat cell_call
  refine sliceT S5 hra (by first | decide | omega) (fun sa h6 t6 S6 gs => ?_)
  repeat cell_call
  refine listSeq S6 (.inr rfl) put_self rfl rfl (fun pa0 h7 pn0 S7 gp => ?_) (by rw [sizeLine_eq]; omega)
  repeat cell_call
  refine itemT (by assumption) (put_old gp _ _ (put_old gs _ _ hra5)) (j := 0) rfl rfl (by decide) ?_
  repeat cell_call
  refine ex2 (hall.head) fun p1 us' hx9 => ?_
  refine and3 hx9 fun er9_2 hp1 hall => ?_
  clear hx9
  subst er9_2
  refine itemT (by assumption) (put_old gp _ _ (put_old gs _ _ hra5)) (j := 1) rfl rfl (by decide) ?_
  have gx0 : ∀ a o, U5 a = some o → put (put U5 sa (tupOf (p1 :: us') 0)) pa0 (listOf (p1 :: us').toArray pn0) a = some o := fun a o e => put_old gp a o (put_old gs a o e)
  generalize put (put U5 sa (tupOf (p1 :: us') 0)) pa0 (listOf (p1 :: us').toArray pn0) = U7 at *
  clear gp gs
  repeat (first | refine tail _ ?_ | cell_call)
  rename_i pa h9 S9 gp h10 t10 S10
  have hpa : mask W (put U7 pa (listOf [p1].toArray 0)) pa = some (listOf [p1].toArray 0) := by
    rw [mask_out (W := W) (notCell (cf.mono gx0) gp), put_self]
  have upU : ∀ a o, U5 a = some o → put U7 pa (listOf [p1].toArray 0) a = some o := fun a o e => put_old gp a o (gx0 a o e)
  have hrows : RAll (mask W (put U7 pa (listOf [p1].toArray 0))) [p1] ((rowItems n (.stream ds oc)).map fun e => e.2.row none e.1) := .cons (hp1.mono (mask_mono upU)) .nil
  generalize put U7 pa (listOf [p1].toArray 0) = U8 at *
  exact .mk _ _ _ _ pa _ _ rfl (by assumption) (by w_left) (by w_left) upU hpa hrows
  case tail =>
    intro s' M
    obtain ⟨U8, h8, t8, m8, pa, pvs, pn', er10_7, S8, e1, e2, upU, hpa, hrows⟩ := M
    subst er10_7
    generalize rowItems n d = items at *
    repeat cell_call
    refine itemT (by assumption) (upU _ _ hra5) (j := 0) rfl rfl (by decide) ?_
    repeat cell_call
    rename_i s1 _ s2 _ s3 _ ta h11 S11 gta
    refine inStrs S11 put_self (.cons (Str.ofString "array") s1 (.cons (Str.ofString "dict") s2 (.cons (Str.ofString "stream") s3 .nil))) ?_
    rw [hbox]
    have plen := hrows.length
    rw [List.length_map] at plen
    have up11 : ∀ a o, U5 a = some o → put U8 ta (tupOf [.str (Str.ofString "array") s1, .str (Str.ofString "dict") s2, .str (Str.ofString "stream") s3] 0) a = some o := fun a o e => put_old gta a o (upU a o e)
    have cf11 := cf.mono up11
    have hla11 := mask_mono (W := W) up11 _ _ hla
    have hpa11 := mask_put_old (W := W) (o := tupOf [.str (Str.ofString "array") s1, .str (Str.ofString "dict") s2, .str (Str.ofString "stream") s3] 0) gta _ _ hpa
    have hrows11 := hrows.mono (mask_put_old (W := W) (o := tupOf [.str (Str.ofString "array") s1, .str (Str.ofString "dict") s2, .str (Str.ofString "stream") s3] 0) gta)
    generalize put U8 ta (tupOf [.str (Str.ofString "array") s1, .str (Str.ofString "dict") s2, .str (Str.ofString "stream") s3] 0) = U11 at *
    repeat cell_call
    refine x_for ?_
    repeat cell_call
    have hW11 : ∀ a, W a → U11 a ≠ none := by
      intro a z
      have z : a = L + 1 := z
      refine ex1 (cf11) fun o hx11 => ?_
      refine and2 hx11 fun e _ => ?_
      clear hx11
      try clear cf11
      rw [z, e]; exact Option.some_ne_none _
    have npa : ¬ (W pa ∨ pa = L) := fun z => z.elim (of_mask hpa11).1 fun z => (S11.sub _ _ (mask_sub _ _ hpa11)).2.1 z
    refine for_at (W := W) (n := pvs.toArray.size) (P := fun i v => pvs.toArray[i]? = some v) (fun i _ U => WalkInv W (L + 1) items i U) S11 Z (Src.list o.deeper.hh ⟨_, S11.get (mask_sub _ _ hpa11), rfl, _, rfl⟩ npa) (fun a z => mask_in (.inl z)) ?win2 ⟨la, [], 0, cf11, hla11, .nil⟩ ?turn2 ?done2
    case win2 =>
      intro i m' U' hi11_3 a z
      obtain ⟨la, vs, nl, hp13_3, _⟩ := hi11_3
      obtain ⟨o, q1, _⟩ := hp13_3
      have z : a = L + 1 := z
      rw [z, q1]; exact Option.some_ne_none _
    case done2 =>
      intro m' U' h t S12 g12 hi14_6
      obtain ⟨la, vs, nl, q1, q2, q3⟩ := hi14_6
      rw [List.size_toArray, plen, List.take_length, hitg] at q3
      repeat cell_call
      exact k _ _ _ _ _ _ (exitC S12 up sL hG g1 g2 gL hW hf) (mask_sub _ _ q2) (q3.mono mask_sub)
    case turn2 =>
      intro i pv m' U' h t hi hpv g12 S12 Z hi16_11
      obtain ⟨la, vs, nl, q1, q2, q3⟩ := hi16_11
      have up12 : ∀ a o, mask W U11 a = some o → mask W U' a = some o := fun a o e => by
        refine and2 (of_mask e) fun nw e => ?_
        rw [mask_out nw]
        exact g12.mono a o (fun z => z.elim nw fun z => (S11.sub _ _ e).2.1 z) e
      have hW12 : ∀ a, W a → U' a ≠ none := by
        intro a z
        have z : a = L + 1 := z
        refine ex1 (q1) fun o hx20 => ?_
        refine and2 hx20 fun e _ => ?_
        clear hx20
        try clear q1
        rw [z, e]; exact Option.some_ne_none _
      have hu : ∀ env, (A.deeper env).units + 1 < cLine := fun env => by have := (o.deeper (env := env)).units; show _ < 9900; omega
      refine ex1 (hrows11.get' (i := i) (v := pv) (by simpa using hpv)) fun rr hx21 => ?_
      refine and2 hx21 fun hr hrow => ?_
      clear hx21
      rw [List.getElem?_map] at hr
      refine ex1 (Option.map_eq_some_iff.mp hr) fun e hx22 => ?_
      refine and2 hx22 fun he er22_2 => ?_
      clear hx22
      subst er22_2
      have hem := List.mem_of_getElem? he
      have gl : (gather (items.take i) []).length ≤ 192 := by
        have := gather_len (l := items.take i) (F := []) fun x hx => hito x (List.mem_of_mem_take hx)
        rw [List.length_nil, List.length_take] at this
        omega
      have wl := walked_len (hito e hem).1 (hito e hem).2
      repeat cell_call
      refine eval_comp (cl := [((Str.ofString "found"), L + 1)]) (by kernel_rfl) ?_
      repeat cell_call
      refine ih e hem _ _ _ _ _ _ _ _ o.deeper (Z.at_ S12) (fun _ _ e => S12.get (mask_sub _ _ e)) (hrow.mono up12) (fun wa wvs wn G' h t g13 hwa hwr => ?_)
      refine ex1 (S12.call g13 hW12) fun U2 hx23 => ?_
      refine and3 hx23 fun S13 uU uG => ?_
      clear hx23
      have hwa := uG _ _ hwa
      have hwr := hwr.mono uG
      have wvl := hwr.length
      rw [List.length_map] at wvl
      have nwa : ¬ No wa := fun z => z
      have c13 := q1.mono uU
      have la13 := mask_mono (W := W) uU _ _ q2
      have r13 := q3.mono (mask_mono (W := W) uU)
      have fl := r13.length
      rw [List.length_map] at fl
      refine comp_at (W := No) (P := fun i v => wvs.toArray[i]? = some v) (n := wvs.toArray.size) (fun j ys U => RAll (mask W U) ys ((((Ob.walked e.1 e.2).take j).filter fun p => !decide (p ∈ gather (items.take i) [])).map rowP)) S13 Z (Src.list o.deeper.hh ⟨_, S13.get (mask_sub _ _ hwa), rfl, _, rfl⟩ nwa) no_B (fun _ _ _ _ => no_ne) ?sz3 .nil ?turn3 ?done3
      case sz3 => rw [List.size_toArray, wvl, sizeLine_eq]; omega
      case turn3 =>
        intro j pv2 ys U h t C m₂ hj hpv2 g14 S14 Z hm inv hl
        rw [mask_no] at S14
        have mm14 : ∀ a o, mask W U2 a = some o → mask W U a = some o := mask_mono (W := W) g14.up
        have c14 := c13.mono g14.up
        refine ex1 (hwr.get' (i := j) (v := pv2) (by simpa using hpv2)) fun rr hx24 => ?_
        refine and2 hx24 fun hr2 hrow2 => ?_
        clear hx24
        rw [List.getElem?_map] at hr2
        refine ex1 (Option.map_eq_some_iff.mp hr2) fun p hx25 => ?_
        refine and2 hx25 fun hp er25_2 => ?_
        clear hx25
        subst er25_2
        have hrow2 := hrow2.mono mm14
        repeat cell_call
        refine notInPairs S14 (mask_sub _ _ (mm14 _ _ la13)) (r13.mono fun a o e => mask_sub a o (mm14 a o e)) (hrow2.mono mask_sub) (hu _) ?_
        repeat cell_call
        rw [take_next hp, List.filter_append]
        refine iteB (fun eb => ?_) (fun eb => ?_)
        · repeat cell_call
          refine ⟨_, _, _, _, rfl, by rw [mask_no]; exact S14, ?_⟩
          have ef : List.filter (fun p => !decide (p ∈ gather (items.take i) [])) [p] = [p] := by
            have eb : (!decide (p ∈ gather (items.take i) [])) = true := eb
            simp only [List.filter_cons, List.filter_nil, eb, if_true]
          rw [ef, List.map_append]
          exact inv.snoc hrow2
        · refine ⟨_, _, _, _, rfl, by rw [mask_no]; exact S14, ?_⟩
          have ef : List.filter (fun p => !decide (p ∈ gather (items.take i) [])) [p] = [] := by
            have eb : (!decide (p ∈ gather (items.take i) [])) = false := eb
            simp only [List.filter_cons, List.filter_nil, eb, Bool.false_eq_true, if_false]
          rw [ef, List.append_nil]
          exact inv
      case done3 =>
        intro D3 ys U h t S15 uD bD hD g15 g15' inv hl3
        rw [List.size_toArray, wvl, List.take_length] at inv
        rw [List.size_toArray, wvl] at hl3
        have la15 := mask_mono (W := W) (g15'.up) _ _ la13
        have la16 := mask_put_old (W := W) (o := lstOf ys) uD _ _ la15
        refine addList S15 (mask_sub _ _ la16) put_self (fun nb h16 S16 gb => ?_) (by rw [fl, sizeLine_eq]; omega)
        refine ex1 (c13.mono (g15'.up)) fun oc16 hx26 => ?_
        refine and2 hx26 fun z16 d16 => ?_
        clear hx26
        have z17 := put_old (o := listOf (vs ++ ys).toArray 0) gb _ _ (put_old (o := lstOf ys) uD _ _ z16)
        refine storeC S16 z17 d16 (mask_in (.inl rfl)) (fun h17 t17 oc17 S17 d17 => ?_)
        repeat cell_call
        have nnb : nb ≠ L + 1 := fun z => by rw [← z] at z16; rw [put_old (o := lstOf ys) uD _ _ z16] at gb; (first | with_reducible exact no_some gb | with_reducible exact some_no gb | with_reducible exact no_bool gb | with_reducible exact no_bool' gb | cases gb)
        have mm17 : ∀ a o, mask W U a = some o → mask W (put (put (put U D3 (lstOf ys)) nb (listOf (vs ++ ys).toArray 0)) (L + 1) oc17) a = some o := fun a o e => by
          rw [mask_put (show W (L + 1) from rfl)]
          exact mask_put_old gb _ _ (mask_put_old uD _ _ e)
        refine ⟨rfl, _, _, _, _, rfl, S17, nb, vs ++ ys, 0, ⟨oc17, put_self, d17⟩, by rw [mask_out (show ¬ W nb from nnb), put_ne nnb, put_self], ?_⟩
        rw [take_next he, gather_snoc]
        unfold lawAdd
        rw [List.map_append]
        exact (r13.mono fun a o e => mm17 a o (mask_mono (W := W) (g15'.up) a o e)).append (inv.mono mm17)
end
section
variable {prog : Program} {w : World} {mg mb : Str → Option Value}
theorem walked_leaf (n : Nat) (d : Ob) (hd : d.isPlain = true) (hr : d.word ≠ (Str.ofString "ref")) : WalkAt prog w mg mb 3 (d.row none n) (Ob.walked n d) := by
  intro A E c h t G v Q o Z hG hv k
  refine' enterC2 (m := upd none_ (Str.ofString "row") v) (cm := none_) (fun L a => a = L + 1) [((Str.ofString "row"), v)] o.room Z hG ?hw ?ho ?hcd ?hb ?hl ?hc ?hm ?hcm ?_ ?c1 ?c2 ?c3
  case ho => exact rfl
  case hw => intro L a e; have e : a = L + 1 := e; exact ⟨Str.ofString "found", by rw [e]; exact rfl⟩
  case hcd => kernel_rfl
  case hb => exact BindsTo.of_eq rfl
  case hl => kernel_rfl
  case hc => decide +kernel
  case hm => intro L; kernel_rfl
  case hcm => intro L; kernel_rfl
  case c1 => exact rfl
  case c2 => exact rfl
  case c3 => exact rfl
  intro L h₁ t₁ G₁ g1 g2 ce S Z gL sL up hf
  have hv := hv.mono g1
  refine ex1 (row_head (T := none) (n := n) hd rfl) fun xs er => ?_
  rw [er] at hv
  have e0 : (d.word == (Str.ofString "ref")) = false := by rw [beq_eq_false_iff_ne]; exact hr
  have e2 : (d.word == (Str.ofString "dict")) = false := by cases d <;> first | rfl | (first | with_reducible exact no_some hd | with_reducible exact some_no hd | with_reducible exact no_bool hd | with_reducible exact no_bool' hd | cases hd)
  have e3 : (d.word == (Str.ofString "stream")) = false := by cases d <;> first | rfl | (first | with_reducible exact no_some hd | with_reducible exact some_no hd | with_reducible exact no_bool hd | with_reducible exact no_bool' hd | cases hd)
  have eb : ([(Str.ofString "array"), (Str.ofString "dict"), (Str.ofString "stream")].any (· == d.word)) = false := by cases d <;> first | rfl | (first | with_reducible exact no_some hd | with_reducible exact some_no hd | with_reducible exact no_bool hd | with_reducible exact no_bool' hd | cases hd)
  have hw : Ob.walked n d = [] := by
    unfold Ob.walked
    have : Ob.refs n d = [] := by cases d <;> first | (cases n <;> rfl) | exact absurd rfl hr | (first | with_reducible exact no_some hd | with_reducible exact some_no hd | with_reducible exact no_bool hd | with_reducible exact no_bool' hd | cases hd)
    rw [this]; rfl
  have xl : xs.length ≤ 2 := by
    have : d.row none n = .tup (.str d.word :: xs) := er
    cases d with
    | null => rw [row_null, nullRow] at this; injection this with this; injection this with _ this; subst this; exact Nat.zero_le _
    | truth _ => rw [row_truth] at this; injection this with this; injection this with _ this; subst this; exact Nat.le_succ 1
    | int _ => rw [row_int] at this; injection this with this; injection this with _ this; subst this; exact Nat.le_succ 1
    | real _ _ => rw [row_real] at this; injection this with this; injection this with _ this; subst this; exact Nat.le_refl _
    | name _ => rw [row_name] at this; injection this with this; injection this with _ this; subst this; exact Nat.le_succ 1
    | string _ _ => rw [row_string] at this; injection this with this; injection this with _ this; subst this; exact Nat.le_succ 1
    | ref _ _ => exact absurd rfl hr
    | _ => (first | with_reducible exact no_some hd | with_reducible exact some_no hd | with_reducible exact no_bool hd | with_reducible exact no_bool' hd | cases hd)
  cases hv using RIn.tupE with
  | k ra vs rn hra hall =>
  cases hall using RAll.consE with
  | k v0 us h0 hall =>
  cases h0 using RIn.strE with
  | k u0 =>
  have hlen := hall.length
  repeat cell_call
  refine itemT S hra (j := 0) rfl rfl (by decide) ?_
  repeat cell_call
  refine iteF e0 ?_
  repeat cell_call
  rename_i la h4 S4 gla
  refine ex1 (ce (Str.ofString "found") (L + 1) (by exact rfl)) fun oc hx28 => ?_
  refine and2 hx28 fun ec edc => ?_
  clear hx28
  let W : Addr → Prop := fun a => a = L + 1
  have hW : ∀ a, W a → G₁ a ≠ none := by
    intro a z
    have z : a = L + 1 := z
    rw [z, ec]; exact Option.some_ne_none _
  have nra : ra ≠ L + 1 := fun z => by
    rw [z, ec] at hra; cases hra; (first | with_reducible exact no_some edc | with_reducible exact some_no edc | with_reducible exact no_bool edc | with_reducible exact no_bool' edc | cases edc)
  have nla : la ≠ L + 1 := fun e => by rw [← e, gla] at ec; (first | with_reducible exact no_some ec | with_reducible exact some_no ec | with_reducible exact no_bool ec | with_reducible exact no_bool' ec | cases ec)
  refine storeC S4 (put_old gla _ _ ec) edc (mask_in (.inl rfl)) (fun h5 t5 oc' S5 edc' => ?_)
  have hra5 : put (put G₁ la (listOf [].toArray 0)) (L + 1) oc' ra = _ := (put_ne nra).trans (put_old gla _ _ hra)
  have hla5 : put (put G₁ la (listOf [].toArray 0)) (L + 1) oc' la = _ := (put_ne nla).trans put_self
  have cf : CellIn (put (put G₁ la (listOf [].toArray 0)) (L + 1) oc') (Str.ofString "found") (L + 1) (.ref la) := ⟨oc', put_self, edc'⟩
  generalize put (put G₁ la (listOf [].toArray 0)) (L + 1) oc' = U5 at *
  repeat cell_call
  refine itemT S5 hra5 (j := 0) rfl rfl (by decide) ?_
  repeat cell_call
  refine iteF e2 ?_
  repeat cell_call
  refine sliceT S5 hra5 (by first | decide | omega) (fun sa h6 t6 S6 gs => ?_)
  repeat cell_call
  refine listSeq S6 (.inr rfl) put_self rfl rfl (fun pa h7 pn S7 gp => ?_) (by rw [sizeLine_eq]; omega)
  have up7 : ∀ a o, U5 a = some o → put (put U5 sa (tupOf us 0)) pa (listOf us.toArray pn) a = some o := fun a o e => put_old gp a o (put_old gs a o e)
  generalize put (put U5 sa (tupOf us 0)) pa (listOf us.toArray pn) = U7 at *
  repeat cell_call
  refine itemT (by assumption) (up7 _ _ hra5) (j := 0) rfl rfl (by decide) ?_
  repeat cell_call
  refine iteF e3 ?_
  repeat cell_call
  refine itemT (by assumption) (up7 _ _ hra5) (j := 0) rfl rfl (by decide) ?_
  repeat cell_call
  rename_i s1 _ s2 _ s3 _ ta h11 S11 gta
  refine inStrs S11 put_self (.cons (Str.ofString "array") s1 (.cons (Str.ofString "dict") s2 (.cons (Str.ofString "stream") s3 .nil))) ?_
  have cf11 := (cf.mono up7).mono (put_old (o := tupOf [.str (Str.ofString "array") s1, .str (Str.ofString "dict") s2, .str (Str.ofString "stream") s3] 0) gta)
  repeat cell_call
  refine iteF eb ?_
  repeat cell_call
  rw [hw] at k
  exact k _ [] 0 _ _ _ (exitC S11 up sL hG g1 g2 gL hW hf) (put_old gta _ _ (up7 _ _ hla5)) .nil
theorem walked_spec : ∀ (n : Nat) (d : Ob), n ≤ 3 → d.ok n = true → WalkAt prog w mg mb (2 * n + 3) (d.row none n) (Ob.walked n d) := by
  intro n
  have less : ∀ {r r' : Nat} {row : Rw} {F : List (Int × Int)}, r ≤ r' → WalkAt prog w mg mb r row F → WalkAt prog w mg mb r' row F := fun hr H A E c h t G v Q o => H A E c h t G v Q (o.less hr)
  have wn : ∀ {d : Ob}, (d.word == (Str.ofString "ref")) = false → d.word ≠ (Str.ofString "ref") := fun h => beq_eq_false_iff_ne.mp h
  induction n with
  | zero =>
    intro d hn hd
    cases d with
    | array _ => (first | with_reducible exact no_some hd | with_reducible exact some_no hd | with_reducible exact no_bool hd | with_reducible exact no_bool' hd | cases hd)
    | dict _ => (first | with_reducible exact no_some hd | with_reducible exact some_no hd | with_reducible exact no_bool hd | with_reducible exact no_bool' hd | cases hd)
    | stream _ _ => (first | with_reducible exact no_some hd | with_reducible exact some_no hd | with_reducible exact no_bool hd | with_reducible exact no_bool' hd | cases hd)
    | ref x y => exact walked_ref 0 x y
    | _ => exact walked_leaf 0 _ rfl (wn (by kernel_rfl))
  | succ n ih =>
    intro d hn hd
    have dict4 : ∀ ds, (Ob.dict ds).ok (n + 1) = true → WalkAt prog w mg mb (2 * n + 4) ((Ob.dict ds).row none (n + 1)) (Ob.walked (n + 1) (.dict ds)) := fun ds h => walked_box n _ hn _ h rfl fun e he => by
      refine ex1 (List.mem_map.mp he) fun x hx29 => ?_
      refine and2 hx29 fun hx er29_2 => ?_
      clear hx29
      subst er29_2
      exact ih x.2 (by first | decide | omega) ((ok_dict h).2.2 _ _ (entList_mem hx)).2
    cases d with
    | array ds =>
      refine less (by first | decide | omega) (walked_box n (2 * n + 3) hn _ hd rfl fun e he => ?_)
      refine ex1 (List.mem_map.mp he) fun x hx30 => ?_
      refine and2 hx30 fun hx er30_2 => ?_
      clear hx30
      subst er30_2
      exact ih x (by first | decide | omega) ((ok_array hd).2 x hx)
    | dict ds => exact less (by first | decide | omega) (dict4 ds hd)
    | stream ds oc =>
      refine walked_box n (2 * n + 4) hn _ hd rfl fun e he => ?_
      rw [show rowItems n (.stream ds oc) = [(n + 1, .dict ds)] from rfl, List.mem_singleton] at he
      subst he
      exact dict4 ds (ok_stream hd).1
    | ref x y => exact less (by first | decide | omega) (walked_ref (n + 1) x y)
    | _ => exact less (by first | decide | omega) (walked_leaf (n + 1) _ rfl (wn (by kernel_rfl)))
end

end
section
inductive ContAt (prog : Program) (w : World) (G : PMap) (b : Addr) : Prop
  | list {o : Obj} : G b = some o → o.cls = .type "list" → ContAt prog w G b
  | dict {o : Obj} {kvs : List (Str × Value)} : G b = some o → o.IsDictOf (PySem.strKind prog w) kvs → (∀ k ∈ kvs.map (·.1), k ∈ abc) → ContAt prog w G b
  | head {es : List DictEntry} {n : Nat} {hv : Value} : G b = some (dictOf es n) → getL (Str.ofString "head") es = some (some hv) → ContAt prog w G b
section
variable {prog : Program} {w : World} {G G' : PMap}
theorem pairs_key {x : Str} {es : List DictEntry} {kvs : List (Str × Value)} (H : Pairs (PySem.strKind prog w) es kvs) : ∀ {e : DictEntry}, e ∈ es → e.key.isStr x = true → x ∈ kvs.map (·.1) := by
  induction H with
  | nil => intro _ h; (first | with_reducible exact no_some h | with_reducible exact some_no h | with_reducible exact no_bool h | with_reducible exact no_bool' h | cases h)
  | cons hk _ r ih =>
    intro e h hx
    rcases List.mem_cons.mp h with rfl | h
    · refine ex1 (Value.isStrOf_shape hk) fun u hu => ?_
      rw [hu] at hx
      rw [List.map_cons, ← eq_of_beq hx]; exact List.mem_cons_self
    · exact List.mem_cons_of_mem _ (ih h hx)
theorem dict_noName {es : List DictEntry} {n : Nat} {kvs : List (Str × Value)} {x : Str} {v : Value} (hd : (dictOf es n).IsDictOf (PySem.strKind prog w) kvs) (hx : getL x es = some (some v)) : x ∈ kvs.map (·.1) := by
  refine ex2 (hd) fun es' ep hx2 => ?_
  refine and5 hx2 fun _ hdat _ hp _ => ?_
  clear hx2
  try clear hd
  have he : es' = es.toArray := by injection hdat with h1; exact h1.symm
  subst he
  unfold getL at hx
  split at hx
  · rename_i e he
    exact pairs_key hp (List.mem_of_find?_eq_some he) (by simpa using List.find?_some he)
  · split at hx <;> cases hx
theorem ContAt.notInst {b C dx : Addr} (H : ContAt prog w G b) (h : G b = some (instObj C dx)) : False := by
  cases H with
  | list e q => rw [h] at e; rw [← Option.some.inj e] at q; exact absurd (show Value.ref C = Value.type "list" from q) (fun z => by (first | with_reducible exact no_some z | with_reducible exact some_no z | with_reducible exact no_bool z | with_reducible exact no_bool' z | cases z))
  | dict e d _ =>
    rw [h] at e
    refine ex2 (d) fun _ _ hx3 => ?_
    refine and2 hx3 fun x _ => ?_
    clear hx3
    try clear d
    have := x.1
    rw [← Option.some.inj e] at this
    exact absurd (show Value.ref C = Value.type "dict" from this) (fun z => by (first | with_reducible exact no_some z | with_reducible exact some_no z | with_reducible exact no_bool z | with_reducible exact no_bool' z | cases z))
  | head e _ => rw [h] at e; exact absurd (show Value.ref C = Value.type "dict" from congrArg Obj.cls (Option.some.inj e)) (fun z => by (first | with_reducible exact no_some z | with_reducible exact some_no z | with_reducible exact no_bool z | with_reducible exact no_bool' z | cases z))
theorem ContAt.notLeaf {b : Addr} {es : List DictEntry} {n : Nat} {x : Str} {v : Value} (H : ContAt prog w G b) (h : G b = some (dictOf es n)) (hn : getL (Str.ofString "head") es = some none) (hx : getL x es = some (some v)) (ha : x ∉ abc) : False := by
  cases H with
  | list e q => rw [h] at e; rw [← Option.some.inj e] at q; exact absurd (show Value.type "dict" = Value.type "list" from q) (by decide)
  | dict e d k =>
    rw [h] at e
    have e := Option.some.inj e
    subst e
    exact ha (k x (dict_noName d hx))
  | head e q =>
    rw [h] at e
    have e := congrArg Obj.data (Option.some.inj e)
    injection e with e1
    have e1 := congrArg Array.toList e1
    simp only at e1
    rw [← e1, hn] at q
    (first | with_reducible exact no_some q | with_reducible exact some_no q | with_reducible exact no_bool q | with_reducible exact no_bool' q | cases q)
theorem Inst.avoid {a C : Addr} {es : List DictEntry} {x : Str} {v : Value} {W : Addr → Prop} (I : Inst G a C es) (hx : getL x es = some (some v)) (ha : x ∉ abc) (H : ∀ b, W b → ContAt prog w G b) : Inst (mask W G) a C es := by
  refine ex2 (I.ex) fun dx n hx4 => ?_
  refine and2 hx4 fun h1 h2 => ?_
  clear hx4
  refine ⟨⟨dx, n, ?_, ?_⟩, I.nh⟩
  · rw [mask_out fun z => (H a z).notInst h1]; exact h1
  · rw [mask_out fun z => (H dx z).notLeaf h2 I.nh hx ha]; exact h2
theorem nTop : (Str.ofString "top") ∉ abc := by decide +kernel
theorem nText : (Str.ofString "text") ∉ abc := by decide +kernel
theorem nOctets : (Str.ofString "octets") ∉ abc := by decide +kernel
theorem nNumber : (Str.ofString "number") ∉ abc := by decide +kernel
noncomputable def Off (W : Addr → Prop) (f : List Addr) : Prop := ∀ b ∈ f, ¬ W b
theorem Off.tl {W : Addr → Prop} {a : Addr} {f : List Addr} (h : Off W (a :: f)) : Off W f := fun b hb => h b (List.mem_cons_of_mem _ hb)
theorem Off.at {W : Addr → Prop} {a : Addr} {f : List Addr} {o : Obj} (h : Off W (a :: f)) (e : G a = some o) : mask W G a = some o := by rw [mask_out (h _ List.mem_cons_self)]; exact e
theorem Off.l {W : Addr → Prop} {f g : List Addr} (h : Off W (f ++ g)) : Off W f := fun b hb => h b (List.mem_append.mpr (.inl hb))
theorem Off.r {W : Addr → Prop} {f g : List Addr} (h : Off W (f ++ g)) : Off W g := fun b hb => h b (List.mem_append.mpr (.inr hb))
theorem OIn.avoid {W : Addr → Prop} (H : ∀ b, W b → ContAt prog w G b) {f : List Addr} {v : Value} {d : Ob} (hv : OIn prog w G f v d) : (∀ b ∈ f, ¬ W b) → OIn prog w (mask W G) f v d :=
  OIn.rec (motive_1 := fun f v d _ => Off W f → OIn prog w (mask W G) f v d) (motive_2 := fun f vs ds _ => Off W f → OAll prog w (mask W G) f vs ds) (motive_3 := fun f vs ds _ => Off W f → OEnt prog w (mask W G) f vs ds)
    (fun _ => .null) (fun b _ => .truth b) (fun i t _ => .int i t) (fun i a b _ => .real (i.avoid a nTop H) a b) (fun i a _ => .name (i.avoid a nText H) a) (fun i a _ => .string (i.avoid a nOctets H) a) (fun i a b c _ => .ref (i.avoid a nNumber H) a b c)
    (fun h1 _ r hf => .array (hf.at h1) (r hf.tl)) (fun h1 h2 h3 _ r hf => .dict (hf.at h1) h2 h3 (r hf.tl)) (fun i j a b _ y r hf => .stream (by rw [mask_out fun z => (H _ z).notInst i]; exact i) (hf.at j) a b (r hf.tl) y)
    (fun _ => .nil) (fun _ _ a b hf => .cons (a hf.l) (b hf.r)) (fun _ => .nil) (fun _ _ a b hf => .cons (a hf.l) (b hf.r)) hv
theorem OAll.avoid {W : Addr → Prop} (H : ∀ b, W b → ContAt prog w G b) {f : List Addr} {vs : List Value} {ds : List Ob} (hv : OAll prog w G f vs ds) : (∀ b ∈ f, ¬ W b) → OAll prog w (mask W G) f vs ds :=
  hv.ind (P := fun f vs ds => Off W f → OAll prog w (mask W G) f vs ds) (fun _ => .nil) fun q _ r hf => .cons (q.avoid H hf.l) (r hf.r)
theorem OEnt.avoid {W : Addr → Prop} (H : ∀ b, W b → ContAt prog w G b) {f : List Addr} {vs : List (Str × Value)} {ds : List (Str × Ob)} (hv : OEnt prog w G f vs ds) : (∀ b ∈ f, ¬ W b) → OEnt prog w (mask W G) f vs ds :=
  hv.ind (P := fun f vs ds => Off W f → OEnt prog w (mask W G) f vs ds) (fun _ => .nil) fun q _ r hf => .cons (q.avoid H hf.l) (r hf.r)
noncomputable def Cont (prog : Program) (w : World) (G : PMap) (f : List Addr) : Prop := ∀ b ∈ f, ContAt prog w G b
theorem Cont.nil : Cont prog w G [] := fun _ h => absurd h List.not_mem_nil
theorem Cont.cons {a : Addr} {f : List Addr} (h : ContAt prog w G a) (r : Cont prog w G f) : Cont prog w G (a :: f) := fun _ h' => (List.mem_cons.mp h').elim (fun e => e ▸ h) (r _)
theorem Cont.app {f g : List Addr} (q : Cont prog w G f) (r : Cont prog w G g) : Cont prog w G (f ++ g) := fun _ h => (List.mem_append.mp h).elim (q _) (r _)
theorem OIn.cont (n : Nat) {f : List Addr} {v : Value} {d : Ob} (H : OIn prog w G f v d) (hd : d.ok n = true) : ∀ b ∈ f, ContAt prog w G b := by
  refine OIn.rec (motive_1 := fun f _ d _ => ∀ n, d.ok n = true → Cont prog w G f) (motive_2 := fun f _ ds _ => ∀ n, (∀ d ∈ ds, d.ok n = true) → Cont prog w G f) (motive_3 := fun f _ ds _ => ∀ n, (∀ d ∈ ds, d.2.ok n = true) → Cont prog w G f)
    (fun _ _ => .nil) (fun _ _ _ => .nil) (fun _ _ _ _ => .nil) (fun _ _ _ _ _ => .nil) (fun _ _ _ _ => .nil) (fun _ _ _ _ => .nil) (fun _ _ _ _ _ _ => .nil) (fun h1 _ r n hd => ?_) (fun h1 h2 _ q r n hd => ?_) (fun _ j a _ _ _ r n hd => ?_)
    (fun _ _ => .nil) (fun _ _ a b n hd => .app (a n (hd _ List.mem_cons_self)) (b n fun d hx => hd d (List.mem_cons_of_mem _ hx))) (fun _ _ => .nil) (fun _ _ a b n hd => .app (a n (hd _ List.mem_cons_self)) (b n fun d hx => hd d (List.mem_cons_of_mem _ hx))) H n hd
  · cases n with
    | zero => (first | with_reducible exact no_some hd | with_reducible exact some_no hd | with_reducible exact no_bool hd | with_reducible exact no_bool' hd | cases hd)
    | succ n => exact .cons (.list h1 rfl) (r n (ok_array hd).2)
  · cases n with
    | zero => (first | with_reducible exact no_some hd | with_reducible exact some_no hd | with_reducible exact no_bool hd | with_reducible exact no_bool' hd | cases hd)
    | succ n =>
      have od := ok_dict hd
      refine .cons (.dict h1 h2 fun k hk => ?_) (r n fun d hx => (od.2.2 d.1 d.2 hx).2)
      rw [q.keys] at hk
      refine ex1 (List.mem_map.mp hk) fun e hx5 => ?_
      refine and2 hx5 fun he er5_2 => ?_
      clear hx5
      subst er5_2
      exact (od.2.2 e.1 e.2 he).1
  · cases n with
    | zero => (first | with_reducible exact no_some hd | with_reducible exact some_no hd | with_reducible exact no_bool hd | with_reducible exact no_bool' hd | cases hd)
    | succ n => exact .cons (.head j a) (r (n + 1) (ok_stream hd).1)
end

end
section
section
variable {prog : Program} {w : World} {A : Around} {E : Value → Shared → Prop} {s : Shared} {c : Fx} {h : Heap} {t : Nat} {mg mb m : Str → Option Value} {B G₀ G : PMap} {L a : Addr} {env : Env}
theorem bytesL {l : Addr} {vs : List Value} {n : Nat} {ns : List Int} {Q : Value → Shared → Prop} (S : St B G₀ L m G h) (hl : G l = some (listOf vs.toArray n)) (hi : IntsAre vs ns) (hr : ∀ n ∈ ns, 0 ≤ n ∧ n < 256) (hz : vs.length ≤ 1000) (hh : A.handled = none)
    (q : ∀ h' t' u, St B G₀ L m G h' → Q (.bytes (byteArr ns) u) (c.at h' t')) : wpAny (model prog w) A (call (.type "bytes") [.ref l]) Q E (c.at h t) :=
  call_bytes_ints (s := c.at h t) ⟨_, S.get hl, rfl, n, rfl⟩ hi hr (by rw [sizeLine_eq]; omega) hh fun h' u k hk => q h' k u (S.kept hk)
theorem listD {d : Addr} {o : Obj} {kvs : List (Str × Value)} {Q : Value → Shared → Prop} (S : St B G₀ L m G h) (ha : G d = some o) (hd : o.IsDictOf (PySem.strKind prog w) kvs) (hs : (d == sysModules) = false) (hh : A.handled = none) (hz : kvs.length ≤ 1000)
    (q : ∀ (l : Addr) (vs : List Value) (n : Nat) h' t', St B G₀ L m (put G l (listOf vs.toArray n)) h' → G l = none → vs.length = kvs.length → (∀ (j : Nat) (v : Value), vs[j]? = some v → ∃ k x, kvs[j]? = some (k, x) ∧ (PySem.strKind prog w).is k v = true) → Q (.ref l) (c.at h' t')) :
    wpAny (model prog w) A (call (.type "list") [.ref d]) Q E (c.at h t) := by
  refine ex1 ((Heap.dictOf_iff.mpr ⟨o, S.get ha, hd⟩ : Heap.DictOf (PySem.strKind prog w) h d kvs).dictAt) fun ep hat => ?_
  refine kdl_call (s := c.at h t) (kdl_dict (knd := PySem.strKind prog w) (kvs := kvs) (ep := ep) hs) hh hat (by rw [sizeLine_eq]; omega) fun h' tk acc' c' hk hD hacc => ?_
  have fin := S.alloc (D := h.objs.size) (o := listOf acc'.toList.toArray c') hk no_size (by rw [Array.toArray_toList]; exact hD)
  exact q _ acc'.toList c' h' tk fin.1 fin.2 (by rw [Array.length_toList]; exact hacc.1) fun j v e => hacc.2 j v (by rw [← Array.getElem?_toList]; exact e)
end
theorem find_putL {x y : Str} {hs : Int} {u : Tok} {v : Value} (hn : (y == x) = false) : ∀ (es : List DictEntry), (putL y hs (.str y u) v es).find? (·.key.isStr x) = es.find? (·.key.isStr x)
  | [] => by
    unfold putL
    rw [List.find?_cons]
    show (match (y == x) with | true => _ | false => _) = _
    rw [hn]
  | e :: r => by
    unfold putL
    split
    · rename_i he
      have hx : e.key.isStr x = false := by
        cases hk : e.key with
        | str z u' =>
          rw [hk] at he
          have : z = y := by simpa [Value.isStr] using he
          rw [this]; exact hn
        | _ => rfl
      rw [List.find?_cons, List.find?_cons]
      simp only [hx]
    · rw [List.find?_cons, List.find?_cons, find_putL hn r]
theorem getL_other {x y : Str} {hs : Int} {u : Tok} {v v0 : Value} {es : List DictEntry} (hn : (y == x) = false) (h : getL x es = some (some v0)) : getL x (putL y hs (.str y u) v es) = some (some v0) := by
  unfold getL at h ⊢
  rw [find_putL hn]
  split at h
  · exact h
  · split at h <;> cases h
theorem Bs.sub {w : World} {mg mb : Str → Option Value} {B G₀ G : PMap} {L : Addr} {m : Str → Option Value} {h : Heap} {W : Addr → Prop} (Z : Bs (KK w) VV LL mg mb B) (S : St B G₀ L m G h) (hW : ∀ a, W a → B a = none) : Bs (KK w) VV LL mg mb (mask W h.get?) :=
  Z.mono fun b o e => by
    rw [mask_out fun z => by rw [hW b z] at e; cases e]
    exact S.keep b o e
theorem valueAt_at : ∀ {kvs : List (Str × Value)}, (kvs.map (·.1)).Nodup → ∀ {i : Nat} {k : Str} {x : Value}, kvs[i]? = some (k, x) → valueAt kvs k = some x
  | [], _, i, k, x, h => by simp at h
  | (k', x') :: kvs, hn, 0, k, x, h => by
    simp only [List.getElem?_cons_zero, Option.some.injEq, Prod.mk.injEq] at h
    refine and2 (h) fun er2_0 er2_1 => ?_
    try clear h
    subst er2_0
    subst er2_1
    simp [valueAt]
  | (k', x') :: kvs, hn, i + 1, k, x, h => by
    have h : kvs[i]? = some (k, x) := by simpa using h
    rw [List.map_cons, List.nodup_cons] at hn
    have ne : k' ≠ k := fun e => hn.1 (by rw [show (k', x').1 = k from e]; exact List.mem_map.mpr ⟨_, List.mem_of_getElem? h, rfl⟩)
    have := valueAt_at hn.2 h
    simpa [valueAt, ne] using this
noncomputable def SpoilAt (prog : Program) (w : World) (mg mb : Str → Option Value) (r : Nat) (d : Ob) : Prop :=
  ∀ (A : Around) (E : Value → Shared → Prop) (c : Fx) (h : Heap) (t : Nat) (G : PMap) (f : List Addr) (v : Value) (Q : Value → Shared → Prop), Ok r A → Bs (KK w) VV LL mg mb (mask (fun a => a ∈ f) h.get?) → (∀ a o, G a = some o → h.get? a = some o) → OIn prog w G f v d → f.Nodup →
    (∀ G' h' t', Grow (fun a => a ∈ f) G h G' h' → (∀ a ∈ f, G' a ≠ none) → Q .none (c.at h' t')) → wpAny (model prog w) A (call (.ref 349) [v]) Q E (c.at h t)
inductive SpA (prog : Program) (w : World) (fs : List Addr) (vs : List Value) (ds : List Ob) (va : Addr) (i : Nat) (m : Str → Option Value) (U : PMap) : Prop
  | mk (f2 : List Addr) (inv : OAll prog w U f2 (vs.drop i) (ds.drop i)) (nd2 : f2.Nodup) (sub2 : ∀ a ∈ f2, a ∈ fs) (dom2 : ∀ a ∈ fs, U a ≠ none) (hm : m (Str.ofString "value") = some (.ref va)) : SpA prog w fs vs ds va i m U
inductive SpE (prog : Program) (w : World) (fs : List Addr) (vs : List (Str × Value)) (ds : List (Str × Ob)) (va : Addr) (i : Nat) (m : Str → Option Value) (U : PMap) : Prop
  | mk (f2 : List Addr) (inv : OEnt prog w U f2 (vs.drop i) (ds.drop i)) (nd2 : f2.Nodup) (sub2 : ∀ a ∈ f2, a ∈ fs) (dom2 : ∀ a ∈ fs, U a ≠ none) (hm : m (Str.ofString "value") = some (.ref va)) : SpE prog w fs vs ds va i m U
section
variable {prog : Program} {w : World} {mg mb : Str → Option Value}
theorem spoil_plain (d : Ob) (hd : d.isPlain = true) : SpoilAt prog w mg mb 1 d := by
  intro A E c h t G f v Q o Z hG hv nd k
  have hf := hv.plain hd
  subst hf
  have hWG : ∀ a, (fun a => a ∈ ([] : List Addr)) a → G a ≠ none := fun a z => by (first | with_reducible exact no_some z | with_reducible exact some_no z | with_reducible exact no_bool z | with_reducible exact no_bool' z | cases z)
  refine' enter (fun a => a ∈ ([] : List Addr)) [((Str.ofString "value"), v)] o.room Z hG ?ho ?hcd ?hb ?hl ?hc ?hm ?_ ?c1 ?c2 ?c3
  case ho => exact rfl
  case hcd => kernel_rfl
  case hb => exact BindsTo.of_eq rfl
  case hl => kernel_rfl
  case hc => kernel_rfl
  case hm => exact binds1
  case c1 => exact rfl
  case c2 => exact rfl
  case c3 => exact rfl
  intro L h₁ t₁ S Z gL sL up
  have hv' := hv
  have e1 : isiB d.ty (.ref 214) = false := by cases d <;> first | rfl | (first | with_reducible exact no_some hd | with_reducible exact some_no hd | with_reducible exact no_bool hd | with_reducible exact no_bool' hd | cases hd)
  have e2 : isiB d.ty (.type "list") = false := by cases d <;> first | rfl | (first | with_reducible exact no_some hd | with_reducible exact some_no hd | with_reducible exact no_bool hd | with_reducible exact no_bool' hd | cases hd)
  have e3 : isiB d.ty (.type "dict") = false := by cases d <;> first | rfl | (first | with_reducible exact no_some hd | with_reducible exact some_no hd | with_reducible exact no_bool hd | with_reducible exact no_bool' hd | cases hd)
  repeat cell_call
  refine iteF e1 ?_
  repeat cell_call
  refine iteF e2 ?_
  repeat cell_call
  refine iteF e3 ?_
  repeat cell_call
  exact k _ _ _ (exit0 S up sL hG hWG gL) fun a z => by (first | with_reducible exact no_some z | with_reducible exact some_no z | with_reducible exact no_bool z | with_reducible exact no_bool' z | cases z)
theorem spoil_array (n : Nat) (ih : ∀ d, d.ok n = true → SpoilAt prog w mg mb (2 * n + 1) d) (ds : List Ob) (hok : (Ob.array ds).ok (n + 1) = true) : SpoilAt prog w mg mb (2 * n + 2) (.array ds) := by
  intro A E c h t G f v Q o Z hG hv nd k
  have hWG : ∀ a, (fun a => a ∈ f) a → G a ≠ none := fun a z => by obtain ⟨o, e⟩ := hv.dom a z; rw [e]; exact Option.some_ne_none _
  refine' enter (fun a => a ∈ f) [((Str.ofString "value"), v)] o.room Z hG ?ho ?hcd ?hb ?hl ?hc ?hm ?_ ?c1 ?c2 ?c3
  case ho => exact rfl
  case hcd => kernel_rfl
  case hb => exact BindsTo.of_eq rfl
  case hl => kernel_rfl
  case hc => kernel_rfl
  case hm => exact binds1
  case c1 => exact rfl
  case c2 => exact rfl
  case c3 => exact rfl
  intro L h₁ t₁ S Z gL sL up
  have hv' := hv
  have od := ok_array hok
  cases hv using OIn.arrayE with
  | k va vs vn fs hd1 he =>
  have hlen := he.length
  have ndc := List.nodup_cons.mp nd
  repeat cell_call
  refine x_for ?_
  repeat cell_call
  rename St _ _ _ _ _ _ => S2
  have nL : L ∉ fs := fun z => (S2.sub _ _ (he.dom L z).choose_spec).2.1 rfl
  have nva : ¬ (va ∈ fs ∨ va = L) := fun z => z.elim ndc.1 fun z => (S2.sub _ _ hd1).2.1 z
  refine for_at (W := fun a => a ∈ fs) (n := vs.toArray.size) (P := fun i v => vs.toArray[i]? = some v) (SpA prog w fs vs ds va) S2 Z (Src.list o.deeper.hh ⟨_, S2.get hd1, rfl, _, rfl⟩ nva) (fun a z => mask_in (.inl (List.mem_cons_of_mem _ z))) ?win ⟨fs, he, ndc.2, fun a z => z, fun a z => hWG a (List.mem_cons_of_mem _ z), by w_left⟩ ?turn ?done
  case win => rintro i m' U' ⟨_, _, _, _, q, _⟩ a z; exact q a z
  case turn =>
    intro i v m' U h t hi hpv g S3 Z hi2_11
    obtain ⟨f2, inv, nd2, sub2, dom2, hm⟩ := hi2_11
    have hi' : i < vs.length := by simpa using hi
    have hvi : vs[i]? = some v := by simpa using hpv
    have hdi : i < ds.length := by omega
    have e1 : vs.drop i = v :: vs.drop (i + 1) := by
      rw [List.drop_eq_getElem_cons hi']
      congr 1
      rw [List.getElem?_eq_getElem hi'] at hvi
      exact Option.some.inj hvi
    have e2 : ds.drop i = ds[i] :: ds.drop (i + 1) := List.drop_eq_getElem_cons hdi
    rw [e1, e2] at inv
    cases inv with
    | @cons f3 f4 _ _ _ _ hin rest =>
    have ndd := List.nodup_append.mp nd2
    have hok' := od.2 ds[i] (List.getElem_mem hdi)
    repeat cell_call
    refine ih ds[i] hok' _ _ _ _ _ _ _ _ _ (o.deeper.less (by first | decide | omega)) (Z.sub S3 fun a z => mask_in (.inl (sub2 a (List.mem_append.mpr (.inl z))))) (fun _ _ e => S3.get e) hin ndd.1 (fun G' h t g2 dom3 => ?_)
    have S4 := S3.grow g2 (fun a z => mask_in (.inl (sub2 a (List.mem_append.mpr (.inl z))))) (fun z => nL (sub2 L (List.mem_append.mpr (.inl z))))
    repeat cell_call
    have rest' := rest.avoid (OIn.cont n hin hok') (fun b hb z => ndd.2.2 b z b hb rfl)
    refine ⟨rfl, _, _, _, _, rfl, S4, f4, rest'.mono fun a o e => g2.mono a o (of_mask e).1 (of_mask e).2, ndd.2.1, fun a z => sub2 a (List.mem_append.mpr (.inr z)), fun a z => ?_, by w_left⟩
    by_cases z3 : a ∈ f3
    · exact dom3 a z3
    · refine ex1 (Option.ne_none_iff_exists'.mp (dom2 a z)) fun o e => ?_
      rw [g2.mono a o z3 e]; exact Option.some_ne_none _
  case done =>
    intro m' U h t S5 g hi5_6
    obtain ⟨f2, inv, nd2, sub2, dom2, hm⟩ := hi5_6
    have hva := g.mono va _ nva hd1
    repeat cell_call
    refine e_meth (fun pl => ?_)
    repeat cell_call
    refine mList S5 hva PySem.F.slot_list_append PySem.F.type_list_append ?_
    refine cwB ?_
    repeat cell_call
    refine appendL S5 hva (mask_in (.inl List.mem_cons_self)) (by rw [hlen, sizeLine_eq]; omega) (fun h6 n6 S6 => ?_)
    repeat cell_call
    refine k _ _ _ (exit0 S6 up sL hG hWG gL) fun a z => ?_
    rcases List.mem_cons.mp z with rfl | z
    · rw [put_self]; exact Option.some_ne_none _
    · rw [put_ne (show a ≠ va from fun e => ndc.1 (by rw [← e]; exact z))]; exact dom2 a z
theorem spoil_dict (n : Nat) (ih : ∀ d, d.ok n = true → SpoilAt prog w mg mb (2 * n + 1) d) (ds : List (Str × Ob)) (hok : (Ob.dict ds).ok (n + 1) = true) : SpoilAt prog w mg mb (2 * n + 2) (.dict ds) := by
  intro A E c h t G f v Q o Z hG hv nd k
  have hWG : ∀ a, (fun a => a ∈ f) a → G a ≠ none := fun a z => by obtain ⟨o, e⟩ := hv.dom a z; rw [e]; exact Option.some_ne_none _
  refine' enter (fun a => a ∈ f) [((Str.ofString "value"), v)] o.room Z hG ?ho ?hcd ?hb ?hl ?hc ?hm ?_ ?c1 ?c2 ?c3
  case ho => exact rfl
  case hcd => kernel_rfl
  case hb => exact BindsTo.of_eq rfl
  case hl => kernel_rfl
  case hc => kernel_rfl
  case hm => exact binds1
  case c1 => exact rfl
  case c2 => exact rfl
  case c3 => exact rfl
  intro L h₁ t₁ S Z gL sL up
  have hv' := hv
  have od := ok_dict hok
  cases hv using OIn.dictE with
  | k va ob kvs fs hd1 hd2 hd3 he =>
  have hlen := he.length
  have ndc := List.nodup_cons.mp nd
  repeat cell_call
  refine x_for ?_
  repeat cell_call
  rename St _ _ _ _ _ _ => S2
  refine listD S2 hd1 hd2 hd3 o.deeper.hh (by first | decide | omega) (fun la ks kn h3 t3 S3 gl kl kk => ?_)
  have nL : L ∉ fs := fun z => (S3.sub _ _ (put_old gl _ _ (he.dom L z).choose_spec)).2.1 rfl
  have nla : ¬ (la ∈ fs ∨ la = L) := fun z => z.elim (fun z => by rw [(he.dom la z).choose_spec] at gl; (first | with_reducible exact no_some gl | with_reducible exact some_no gl | with_reducible exact no_bool gl | with_reducible exact no_bool' gl | cases gl)) fun z => (S3.sub _ _ put_self).2.1 z
  have nva : ¬ (va ∈ fs ∨ va = L) := fun z => z.elim ndc.1 fun z => (S2.sub _ _ hd1).2.1 z
  refine for_at (W := fun a => a ∈ fs) (n := ks.toArray.size) (P := fun i v => ks.toArray[i]? = some v) (SpE prog w fs kvs ds va) S3 Z (Src.list o.deeper.hh ⟨_, S3.get put_self, rfl, _, rfl⟩ nla) (fun a z => mask_in (.inl (List.mem_cons_of_mem _ z))) ?win ⟨fs, he.mono (put_old gl), ndc.2, fun a z => z, fun a z => ?dom, by w_left⟩ ?turn ?done
  case dom =>
    refine ex1 (Option.ne_none_iff_exists'.mp (hWG a (List.mem_cons_of_mem _ z))) fun o e => ?_
    rw [put_old gl _ _ e]; exact Option.some_ne_none _
  case win => rintro i m' U' ⟨_, _, _, _, q, _⟩ a z; exact q a z
  case turn =>
    intro i v m' U h t hi hpv g S4 Z hi8_11
    obtain ⟨f2, inv, nd2, sub2, dom2, hm⟩ := hi8_11
    have hi' : i < kvs.length := by rw [← kl]; simpa using hi
    have hdi : i < ds.length := by omega
    refine ex2 (kk i v (by simpa using hpv)) fun key x hx11 => ?_
    refine and2 hx11 fun hkx hk => ?_
    clear hx11
    refine ex1 (Value.isStrOf_shape hk) fun u er12_1 => ?_
    subst er12_1
    refine ex2 (he.get hkx) fun _ d hx13 => ?_
    refine and3 hx13 fun hd _ _ => ?_
    clear hx13
    have hkd := keyed_at od.2.1 hd
    have hok' := (od.2.2 key d (keyed_mem hkd)).2
    refine ex2 (he.value hkd) fun f' vv hx14 => ?_
    refine and3 hx14 fun hval _ _ => ?_
    clear hx14
    have hvx : vv = x := by
      have kn : (kvs.map (·.1)).Nodup := by rw [he.keys]; exact od.2.1
      have : valueAt kvs key = some x := valueAt_at kn hkx
      rw [hval] at this; exact Option.some.inj this
    subst hvx
    have e1 : kvs.drop i = (key, vv) :: kvs.drop (i + 1) := by
      rw [List.drop_eq_getElem_cons hi']
      congr 1
      rw [List.getElem?_eq_getElem hi'] at hkx
      exact Option.some.inj hkx
    have e2 : ds.drop i = (key, d) :: ds.drop (i + 1) := by
      rw [List.drop_eq_getElem_cons hdi]
      congr 1
      rw [List.getElem?_eq_getElem hdi] at hd
      exact Option.some.inj hd
    rw [e1, e2] at inv
    cases inv with
    | @cons f3 f4 _ _ _ _ _ hin rest =>
    have ndd := List.nodup_append.mp nd2
    have hdU := g.mono va _ nva (put_old gl _ _ hd1)
    repeat cell_call
    refine ih d hok' _ _ _ _ _ _ _ _ _ (o.deeper.less (by first | decide | omega)) (Z.sub S4 fun a z => mask_in (.inl (sub2 a (List.mem_append.mpr (.inl z))))) (fun _ _ e => S4.get e) hin ndd.1 (fun G' h t g2 dom3 => ?_)
    have S5 := S4.grow g2 (fun a z => mask_in (.inl (sub2 a (List.mem_append.mpr (.inl z))))) (fun z => nL (sub2 L (List.mem_append.mpr (.inl z))))
    repeat cell_call
    have rest' := rest.avoid (OIn.cont n hin hok') (fun b hb z => ndd.2.2 b z b hb rfl)
    refine ⟨rfl, _, _, _, _, rfl, S5, f4, rest'.mono fun a o e => g2.mono a o (of_mask e).1 (of_mask e).2, ndd.2.1, fun a z => sub2 a (List.mem_append.mpr (.inr z)), fun a z => ?_, by w_left⟩
    by_cases z3 : a ∈ f3
    · exact dom3 a z3
    · refine ex1 (Option.ne_none_iff_exists'.mp (dom2 a z)) fun o e => ?_
      rw [g2.mono a o z3 e]; exact Option.some_ne_none _
  case done =>
    intro m' U h t S5 g hi15_6
    obtain ⟨f2, inv, nd2, sub2, dom2, hm⟩ := hi15_6
    have hva := g.mono va _ nva (put_old gl _ _ hd1)
    repeat cell_call
    refine setD S5 hva hd2 (mask_in (.inl List.mem_cons_self)) (by rw [hlen, sizeLine_eq]; omega) (fun o' h6 t6 S6 hd6 => ?_)
    repeat cell_call
    refine k _ _ _ (exit0 S6 up sL hG hWG gL) fun a z => ?_
    rcases List.mem_cons.mp z with rfl | z
    · rw [put_self]; exact Option.some_ne_none _
    · rw [put_ne (show a ≠ va from fun e => ndc.1 (by rw [← e]; exact z))]; exact dom2 a z
theorem spoil_stream (n : Nat) (ih : ∀ ds, (Ob.dict ds).ok (n + 1) = true → SpoilAt prog w mg mb (2 * n + 2) (.dict ds)) (ds : List (Str × Ob)) (oc : Array UInt8) (hok : (Ob.stream ds oc).ok (n + 1) = true) : SpoilAt prog w mg mb (2 * n + 3) (.stream ds oc) := by
  intro A E c h t G f v Q o Z hG hv nd k
  have hWG : ∀ a, (fun a => a ∈ f) a → G a ≠ none := fun a z => by obtain ⟨o, e⟩ := hv.dom a z; rw [e]; exact Option.some_ne_none _
  refine' enter (fun a => a ∈ f) [((Str.ofString "value"), v)] o.room Z hG ?ho ?hcd ?hb ?hl ?hc ?hm ?_ ?c1 ?c2 ?c3
  case ho => exact rfl
  case hcd => kernel_rfl
  case hb => exact BindsTo.of_eq rfl
  case hl => kernel_rfl
  case hc => kernel_rfl
  case hm => exact binds1
  case c1 => exact rfl
  case c2 => exact rfl
  case c3 => exact rfl
  intro L h₁ t₁ S Z gL sL up
  have hv' := hv
  have od := ok_stream hok
  cases hv using OIn.streamE with
  | k a dx es n' hv fs tt i1 i2 q1 q2 hin ely =>
  have ndc := List.nodup_cons.mp nd
  have hh := hin.handed
  repeat cell_call
  rename_i tk9 _ l9 h9 S9 g9
  refine bytesL S9 put_self (.cons 9 tk9 .nil) (by intro x hx; rw [List.mem_singleton] at hx; subst hx; omega) (by show 1 ≤ 1000; omega) o.deeper.hh (fun h10 t10 u10 S10 => ?_)
  repeat cell_call
  have hane : a ≠ dx := fun z => by
    rw [z, i2] at i1
    exact absurd (show Value.type "dict" = Value.ref 214 from congrArg Obj.cls (Option.some.inj i1)) (fun z => by (first | with_reducible exact no_some z | with_reducible exact some_no z | with_reducible exact no_bool z | with_reducible exact no_bool' z | cases z))
  have i1' := put_old (o := listOf [Value.int 9 tk9].toArray 0) g9 _ _ i1
  have i2' := put_old (o := listOf [Value.int 9 tk9].toArray 0) g9 _ _ i2
  refine sa S10 Z i1' i2' P214_octets (mask_in (.inl List.mem_cons_self)) (by rw [q2]; rfl) ely (fun u11 h11 t11 S11 => ?_)
  have hd11 : getL (Str.ofString "head") (putL (Str.ofString "octets") (PyData.keyHash w.params (Str.ofString "octets")) (.str (Str.ofString "octets") u11) (.bytes (byteArr [9]) u10) es) = some (some hv) := getL_other (by kernel_rfl!) q1
  have hcont : ∀ b, (fun b => b = dx) b → ContAt prog w G b := fun b z => by
    have z : b = dx := z
    rw [z]; exact .head i2 q1
  have hin11 := (hin.avoid hcont (fun b hb z => ndc.1 (by have z : b = dx := z; rw [← z]; exact hb))).mono (G' := put (put G l9 (listOf [Value.int 9 tk9].toArray 0)) dx (dictOf (putL (Str.ofString "octets") (PyData.keyHash w.params (Str.ofString "octets")) (.str (Str.ofString "octets") u11) (.bytes (byteArr [9]) u10) es) (putN (Str.ofString "octets") es n'))) fun a o e => by
    refine and2 (of_mask e) fun nw e => ?_
    rw [put_ne (show a ≠ dx from nw)]
    exact put_old g9 _ _ e
  have j1 : put (put G l9 (listOf [Value.int 9 tk9].toArray 0)) dx (dictOf (putL (Str.ofString "octets") (PyData.keyHash w.params (Str.ofString "octets")) (.str (Str.ofString "octets") u11) (.bytes (byteArr [9]) u10) es) (putN (Str.ofString "octets") es n')) a = _ := (put_ne hane).trans i1'
  have j2 : put (put G l9 (listOf [Value.int 9 tk9].toArray 0)) dx (dictOf (putL (Str.ofString "octets") (PyData.keyHash w.params (Str.ofString "octets")) (.str (Str.ofString "octets") u11) (.bytes (byteArr [9]) u10) es) (putN (Str.ofString "octets") es n')) dx = _ := put_self
  generalize put (put G l9 (listOf [Value.int 9 tk9].toArray 0)) dx (dictOf (putL (Str.ofString "octets") (PyData.keyHash w.params (Str.ofString "octets")) (.str (Str.ofString "octets") u11) (.bytes (byteArr [9]) u10) es) (putN (Str.ofString "octets") es n')) = U11 at *
  have nL : L ∉ fs := fun z => (S11.sub _ _ (hin11.dom L z).choose_spec).2.1 rfl
  repeat cell_call
  refine ih ds od.1 _ _ _ _ _ _ _ _ _ (o.deeper.less (by first | decide | omega)) (Z.sub S11 fun a z => mask_in (.inl (List.mem_cons_of_mem _ z))) (fun _ _ e => S11.get e) hin11 ndc.2 (fun G' h t g2 dom3 => ?_)
  have S12 := S11.grow g2 (fun a z => mask_in (.inl (List.mem_cons_of_mem _ z))) nL
  repeat cell_call
  refine k _ _ _ (exit0 S12 up sL hG hWG gL) fun b z => ?_
  rcases List.mem_cons.mp z with rfl | z
  · rw [g2.mono _ _ ndc.1 j2]; exact Option.some_ne_none _
  · exact dom3 b z
theorem spoil_spec : ∀ (n : Nat) (d : Ob), d.ok n = true → SpoilAt prog w mg mb (2 * n + 1) d := by
  intro n
  have less : ∀ {r r' : Nat} {d : Ob}, r ≤ r' → SpoilAt prog w mg mb r d → SpoilAt prog w mg mb r' d := fun hr H A E c h t G f v Q o => H A E c h t G f v Q (o.less hr)
  induction n with
  | zero =>
    intro d hd
    cases d with
    | array _ => (first | with_reducible exact no_some hd | with_reducible exact some_no hd | with_reducible exact no_bool hd | with_reducible exact no_bool' hd | cases hd)
    | dict _ => (first | with_reducible exact no_some hd | with_reducible exact some_no hd | with_reducible exact no_bool hd | with_reducible exact no_bool' hd | cases hd)
    | stream _ _ => (first | with_reducible exact no_some hd | with_reducible exact some_no hd | with_reducible exact no_bool hd | with_reducible exact no_bool' hd | cases hd)
    | _ => exact spoil_plain _ rfl
  | succ n ih =>
    intro d hd
    cases d with
    | array ds => exact less (by first | decide | omega) (spoil_array n ih ds hd)
    | dict ds => exact less (by first | decide | omega) (spoil_dict n ih ds hd)
    | stream ds oc => exact spoil_stream n (fun ds h => spoil_dict n ih ds h) ds oc hd
    | _ => exact less (by first | decide | omega) (spoil_plain _ rfl)
end

end
section
noncomputable def LstAt (G : PMap) (l : Addr) (vs : List Value) : Prop := ∃ o n, G l = some o ∧ o.cls = .type "list" ∧ o.data = .seq vs.toArray n
section
variable {prog : Program} {w : World} {A : Around} {E : Value → Shared → Prop} {c : Fx} {h : Heap} {t : Nat} {mg mb m : Str → Option Value} {B G₀ G G' : PMap} {L l : Addr} {env : Env} {vs us : List Value} {n : Nat} {v : Value} {i j : Int} {u u' : Tok}
theorem LstAt.mono (H : LstAt G l vs) (hG : ∀ a o, G a = some o → G' a = some o) : LstAt G' l vs := let ⟨o, n, e, r⟩ := H; ⟨o, n, hG _ _ e, r⟩
theorem LstAt.isList (H : LstAt G l vs) (S : St B G₀ L m G h) : h.IsList l vs.toArray := let ⟨o, n, e, a, b⟩ := H; ⟨o, S.get e, a, n, b⟩
theorem itemL2 {e1 e2 : Expr} {k : Int} {j : Nat} {QV : Value → Shared → Prop} (S : St B G₀ L m G h) (H : LstAt G l vs) (hx : vs[j]? = some v) (hk : k = (j : Int)) (hj : j < 1000000) (q : QV v (c.at h t))
    (hs : subscripted e2 false (.ref l) (.int k u) = operate [.ref l, .int k u] (getItem (.ref l) (.int k u)) := by kernel_rfl) (ht : ∀ r, letTemporaryGo e1 (.ref l) r = pure () := by intro _; kernel_rfl) :
    wpAny (model prog w) A (subscriptTail e1 e2 (.ref l) (.int k u)) QV E (c.at h t) := by
  subst hk
  have hl := H.isList S
  exact subscriptTail_builtin (s := c.at h t) hl.typeIs slot_list_getitem.lookup (wpAny_getItem_list hl (by first | decide | omega) (by first | decide | omega) (by simpa using hx) q) hs ht
theorem setL2 {k : Int} {j : Nat} {QU : Unit → Shared → Prop} (S : St B G₀ L m G h) (H : LstAt G l vs) (hB : B l = none) (hk : k = (j : Int)) (hj : j < vs.length) (hz : vs.length ≤ 1000) (q : ∀ h' o', St B G₀ L m (put G l o') h' → LstAt (put G l o') l (vs.set j v) → QU () (c.at h' t)) :
    wpAny (model prog w) A (setItem (.ref l) (.int k u) v) QU E (c.at h t) := by
  subst hk
  refine wpAny_setItem_list (s := c.at h t) (H.isList S) (by first | decide | omega) (by first | decide | omega) (by rw [List.size_toArray]; omega) fun h' hl hs => ?_
  obtain ⟨o', e, a, n, b⟩ := hl
  refine ex2 (H) fun o n0 hx2 => ?_
  refine and2 hx2 fun e0 _ => ?_
  clear hx2
  try clear H
  refine q h' o' (S.set hB e0 hs e) ⟨o', n, put_self, a, ?_⟩
  rw [b]
  simp
theorem modI {QV : Value → Shared → Prop} (hj : j ≠ 0) (q : ∀ w' t', QV (.int (i.fmod j) w') (c.at h t')) : wpAny (model prog w) A (binaryOp .Mod (.int i u) (.int j u')) QV E (c.at h t) := PyProof.Rows.mod_int (s := c.at h t) hj (q _ _)
theorem small_div {i j : Int} (h0 : 0 < j) (h1 : j ≤ 1000) : Builtin.divisionGoesByPylong i j = false := by
  unfold Builtin.divisionGoesByPylong
  have : j.natAbs.log2 ≤ 9 := by
    have : j.natAbs < 2 ^ 10 := by omega
    have hne : j.natAbs ≠ 0 := by omega
    have := (Nat.log2_lt hne).mpr this
    omega
  have hj : (j == 0) = false := by rw [beq_eq_false_iff_ne]; omega
  simp only [hj, Bool.false_eq_true, if_false]
  rw [Bool.and_eq_false_iff]
  left
  simp only [decide_eq_false_iff_not]
  omega
theorem divI {QV : Value → Shared → Prop} (h0 : 0 < j) (h1 : j ≤ 1000) (q : ∀ w' t', QV (.int (i.fdiv j) w') (c.at h t')) : wpAny (model prog w) A (binaryOp .FloorDiv (.int i u) (.int j u')) QV E (c.at h t) :=
  AutoIntOps.floordiv_1 (s := c.at h t) (by rw [beq_iff_eq]; omega) (by rw [small_div h0 h1]; exact Bool.false_ne_true) (q _ _)
theorem mulI {QV : Value → Shared → Prop} (hm : IntMulOk i j) (q : ∀ w' t', QV (.int (i * j) w') (c.at h t')) : wpAny (model prog w) A (binaryOp .Mult (.int i u) (.int j u')) QV E (c.at h t) := PyProof.Rows.mul_int (s := c.at h t) (q _ _) hm
end
noncomputable def PenAt (G : PMap) (p : Addr) (k : Nat) : Prop := ∃ (N C : Int) (t1 t2 : Tok), LstAt G p [.int N t1, .int C t2] ∧ 0 ≤ N ∧ 0 ≤ C ∧ C ≤ (k : Int)
theorem PenAt.mono {G G' : PMap} {p : Addr} {k : Nat} (H : PenAt G p k) (hG : ∀ a o, G a = some o → G' a = some o) : PenAt G' p k := ex4 H fun N C t1 t2 y => ⟨N, C, t1, t2, y.1.mono hG, y.2⟩
theorem PenAt.le {G : PMap} {p : Addr} {k k' : Nat} (H : PenAt G p k) (hk : k ≤ k') : PenAt G p k' := ex4 H fun N C t1 t2 y => ⟨N, C, t1, t2, y.1, y.2.1, y.2.2.1, Int.le_trans y.2.2.2 (Int.ofNat_le.mpr hk)⟩
theorem PenAt.dom {G : PMap} {p : Addr} {k : Nat} (H : PenAt G p k) : G p ≠ none := ex4 H fun _ _ _ _ y => ex2 y.1 fun _ _ z w => nomatch z.1.symm.trans w
section
variable {prog : Program} {w : World} {A : Around} {E : Value → Shared → Prop} {c : Fx} {h : Heap} {t : Nat} {mg mb : Str → Option Value} {G : PMap} {p : Addr} {k : Nat} {many : Int} {u : Tok}
theorem draw_spec {Q : Value → Shared → Prop} (o : Ok 1 A) (Z : Bs (KK w) VV LL mg mb (mask (fun a => a = p) h.get?)) (hG : ∀ a o, G a = some o → h.get? a = some o) (hp : PenAt G p k) (hk : k ≤ 1000000) (h0 : 0 < many) (h1 : many ≤ 1000)
    (q : ∀ r u' G' h' t', Grow (fun a => a = p) G h G' h' → PenAt G' p (k + 1) → 0 ≤ r → r < many → Q (.int r u') (c.at h' t')) : wpAny (model prog w) A (call (.ref 322) [.ref p, .int many u]) Q E (c.at h t) := by
  have hWG : ∀ a, (fun a => a = p) a → G a ≠ none := fun a z => by have z : a = p := z; rw [z]; exact hp.dom
  refine' enter (fun a => a = p) [((Str.ofString "pen"), .ref p), ((Str.ofString "many"), .int many u)] o.room Z hG ?ho ?hcd ?hb ?hl ?hc ?hm ?_ ?c1 ?c2 ?c3
  case ho => exact rfl
  case hcd => kernel_rfl
  case hb => exact BindsTo.of_eq rfl
  case hl => kernel_rfl
  case hc => kernel_rfl
  case hm => exact binds2
  case c1 => exact rfl
  case c2 => exact rfl
  case c3 => exact rfl
  intro L h₁ t₁ S Z gL sL up
  refine ex4 (hp) fun N C t1 t2 hx3 => ?_
  refine and4 hx3 fun hl b1 b2 b3 => ?_
  clear hx3
  try clear hp
  have hB : mask (fun a => a = p ∨ a = L) h₁.get? p = none := mask_in (.inl rfl)
  repeat cell_call
  refine itemL2 S hl (j := 1) rfl rfl (by decide) ?_
  repeat cell_call
  refine setL2 S hl hB (j := 1) rfl (by show 1 < 2; omega) (by show 2 ≤ 1000; omega) (fun h2 o2 S2 hl2 => ?_)
  have hl2 : LstAt (put G p o2) p [.int N t1, .int (C + 1) _] := hl2
  generalize put G p o2 = U2 at *
  repeat cell_call
  refine itemL2 S2 hl2 (j := 0) rfl rfl (by decide) ?_
  repeat cell_call
  refine iteB (fun hb => ?_) (fun hb => ?_)
  · repeat cell_call
    refine itemL2 S2 hl2 (j := 0) rfl rfl (by decide) ?_
    repeat cell_call
    refine modI (by first | decide | omega) (fun wm tm => ?_)
    repeat cell_call
    refine itemL2 (by assumption) hl2 (j := 0) rfl rfl (by decide) ?_
    repeat cell_call
    refine divI h0 h1 (fun wd td => ?_)
    repeat cell_call
    refine setL2 (by assumption) hl2 hB (j := 0) rfl (by show 0 < 2; omega) (by show 2 ≤ 1000; omega) (fun h3 o3 S3 hl3 => ?_)
    have hl3 : LstAt (put U2 p o3) p [.int (N.fdiv many) wd, .int (C + 1) _] := hl3
    repeat cell_call
    exact q _ _ _ _ _ (exit0 S3 up sL hG hWG gL) ⟨_, _, _, _, hl3, Int.fdiv_nonneg b1 (by first | decide | omega), by omega, by omega⟩ (Int.fmod_nonneg_of_pos _ h0) (Int.fmod_lt_of_pos _ h0)
  · repeat cell_call
    refine itemL2 S2 hl2 (j := 1) rfl rfl (by decide) ?_
    repeat cell_call
    refine itemL2 S2 hl2 (j := 1) rfl rfl (by decide) ?_
    repeat cell_call
    have hbits : Builtin.Int.intBits (C + 1) ≤ 30 := intBits_le_iff.mpr (by have : (C + 1).natAbs ≤ 1000001 := by omega
                                                                            exact Nat.lt_of_le_of_lt this (by decide))
    refine mulI (IntMulOk.of_le hbits hbits (by decide)) (fun wm tm => ?_)
    repeat cell_call
    refine modI (by first | decide | omega) (fun wm2 tm2 => ?_)
    repeat cell_call
    exact q _ _ _ _ _ (exit0 S2 up sL hG hWG gL) ⟨_, _, _, _, hl2, b1, by omega, by omega⟩ (Int.fmod_nonneg_of_pos _ h0) (Int.fmod_lt_of_pos _ h0)
end

end
section
inductive DecInv (a : Addr) (k : Nat) (m : Str → Option Value) (U : PMap) : Prop
  | mk (T P : Int) (t1 t2 : Tok) (e1 : m (Str.ofString "self") = some (.ref a)) (e2 : m (Str.ofString "top") = some (.int T t1)) (e3 : m (Str.ofString "places") = some (.int P t2)) (b1 : -9 ≤ T) (b2 : T ≤ 20) (b3 : 0 ≤ P) (b4 : P ≤ 2) (b5 : (k : Int) = P) : DecInv a k m U
inductive DecFin (a : Addr) (m : Str → Option Value) : Prop
  | mk (T P : Int) (t1 t2 : Tok) (e1 : m (Str.ofString "self") = some (.ref a)) (e2 : m (Str.ofString "top") = some (.int T t1)) (e3 : m (Str.ofString "places") = some (.int P t2)) (b1 : -9 ≤ T) (b2 : T ≤ 20) (b3 : 0 ≤ P) (b4 : P ≤ 2) : DecFin a m
section
variable {prog : Program} {w : World} {A : Around} {E : Value → Shared → Prop} {c : Fx} {h : Heap} {t : Nat} {mg mb m : Str → Option Value} {B G₀ G : PMap} {L : Addr}
theorem make_Decimal {x y : Int} {u v : Tok} {Q : Value → Shared → Prop} (o : Ok 2 A) (S : St B G₀ L m G h) (Z : Bs (KK w) VV LL mg mb B) (hx : -9 ≤ x ∧ x ≤ 20) (hy : 0 ≤ y ∧ y ≤ 2)
    (q : ∀ a G' h' t' tp pl, St B G₀ L m G' h' → (∀ b o, G b = some o → G' b = some o) → OIn prog w G' [] (.ref a) (.real tp pl) → -9 ≤ tp ∧ tp ≤ 20 → 0 ≤ pl ∧ pl ≤ 2 → Q (.ref a) (c.at h' t')) : wpAny (model prog w) A (call (.ref 143) [.int x u, .int y v]) Q E (c.at h t) := by
  refine mkInst (fI := 63) S Z (by kernel_rfl) (by kernel_rfl) (by kernel_rfl) fun a dx h₁ S hd hg hx' hdx => ?_
  have o := o.make (C := 143) (vals := [.int x u, .int y v]) (kw := [])
  have Sc := S
  refine and3 (twoG (o' := instObj 143 dx) hg hx') fun ne gdx gold => ?_
  refine' enterI (W := fun a => a = dx) [((Str.ofString "self"), .ref a), ((Str.ofString "top"), .int x u), ((Str.ofString "places"), .int y v)] o.room (Z.but S hdx) (fun a o e => S.get e) ?ho ?hcd ?hb ?hl ?hc ?hm ?_ ?c1 ?c2 ?c3
  case ho => exact rfl
  case hcd => kernel_rfl
  case hb => first | exact BindsTo.of_eq rfl | exact kp_binds (Z.k S.keep) fun _ => rfl
  case hl => kernel_rfl
  case hc => kernel_rfl
  case hm => exact binds3
  case c1 => exact rfl
  case c2 => exact rfl
  case c3 => exact rfl
  intro L₂ h₂ t₂ S Z gL sL up
  have hdxL : dx ≠ L₂ := (S.sub _ _ gdx).2.1
  refine while_at (W := No) (DecInv a) (fun m' _ => DecFin a m') y.toNat S Z (fun _ z => z.elim) (fun _ _ _ _ _ z => z.elim) ⟨x, y, u, v, by w_left, by w_left, by w_left, hx.1, hx.2, hy.1, hy.2, by omega⟩ ?turn ?done
  case turn =>
    intro k m' U h t g S3 Z3 hi1_8
    obtain ⟨T, P, t1, t2, e1, e2, e3, b1, b2, b3, b4, b5⟩ := hi1_8
    repeat cell_call
    refine iteB (fun hb => ?_) (fun hb => ?_)
    · repeat cell_call
      refine modI (by decide) (fun wm tm => ?_)
      repeat cell_call
      refine iteB (fun hb2 => ?_) (fun hb2 => ?_)
      · repeat cell_call
        refine divI (by decide) (by decide) (fun wd td => ?_)
        repeat cell_call
        have hb : 0 < P := of_decide_eq_true hb
        have d1 : -9 ≤ T.fdiv 10 ∧ T.fdiv 10 ≤ 20 := by
          have h3 : T.fdiv 10 = T / 10 := Int.fdiv_eq_ediv_of_nonneg _ (by decide)
          rw [h3]; omega
        exact ⟨rfl, (P - 1).toNat, _, _, _, _, rfl, by omega, by assumption, T.fdiv 10, P - 1, _, _, by w_left, by w_left, by w_left, d1.1, d1.2, by omega, by omega, by omega⟩
      · repeat cell_call
        exact ⟨_, _, _, _, rfl, by assumption, T, P, t1, t2, e1, e2, e3, b1, b2, b3, b4⟩
    · repeat cell_call
      exact ⟨_, _, _, _, rfl, by assumption, T, P, t1, t2, e1, e2, e3, b1, b2, b3, b4⟩
  case done =>
    intro m' U h t S4 g hi3_6
    obtain ⟨T, P, t1, t2, e1, e2, e3, b1, b2, b3, b4⟩ := hi3_6
    repeat cell_call
    have ha4 := g.mono a _ (fun z => z.elim (fun z => z) fun z => (S.sub _ _ put_self).2.1 z) put_self
    have hd4 := g.mono dx _ (fun z => z.elim (fun z => z) hdxL) gdx
    refine sa S4 Z ha4 hd4 P143_top (mask_in (.inl rfl)) (by kernel_rfl) (by decide) fun u₁ h₃ t₃ S5 => ?_
    repeat cell_call
    refine sa S5 Z ((put_ne ne).trans ha4) put_self P143_places (mask_in (.inl rfl)) (by kernel_rfl) (Nat.le_of_ble_eq_true (by kernel_rfl)) fun u₂ h₄ t₄ S6 => ?_
    repeat cell_call
    refine and2 (endI Sc S6 up sL gL hdx gdx gold hg) fun SS old => ?_
    exact ⟨rfl, q _ _ _ _ _ _ SS old (.real (t1 := t1) (t2 := t2) ⟨⟨dx, _, (put_ne ne).trans ((put_ne ne).trans ha4), put_self⟩, by kernel_rfl⟩ (by kernel_rfl) (by kernel_rfl)) ⟨b1, b2⟩ ⟨b3, b4⟩⟩
end

end
section
theorem not_any_id {x : Str} {v : Value} : ∀ {kvs : List (Str × Value)}, x ∉ kvs.map (·.1) → (kvs.map fun kv => if kv.1 = x then (kv.1, v) else kv) = kvs
  | [], _ => rfl
  | kv :: kvs, h => by
    rw [List.map_cons, List.mem_cons, not_or] at h
    rw [List.map_cons, if_neg (fun z => h.1 z.symm), not_any_id h.2]
theorem OEnt.replace {prog : Program} {w : World} {G : PMap} {f : List Addr} {v : Value} {d : Ob} {x : Str} (hin : OIn prog w G f v d) (nf : f.Nodup) {fs : List Addr} {kvs : List (Str × Value)} {ds : List (Str × Ob)} (H : OEnt prog w G fs kvs ds) : (kvs.map (·.1)).Nodup → x ∈ kvs.map (·.1) → fs.Nodup → (∀ a ∈ f, a ∉ fs) →
    ∃ fs' ds', OEnt prog w G fs' (kvs.map fun kv => if kv.1 = x then (kv.1, v) else kv) ds' ∧ (∀ a ∈ fs', a ∈ fs ∨ a ∈ f) ∧ fs'.Nodup ∧ ds'.map (·.1) = ds.map (·.1) ∧ ∀ e ∈ ds', e ∈ ds ∨ e.2 = d := by
  refine H.ind (P := fun fs kvs ds => (kvs.map (·.1)).Nodup → x ∈ kvs.map (·.1) → fs.Nodup → (∀ a ∈ f, a ∉ fs) → ∃ fs' ds', OEnt prog w G fs' (kvs.map fun kv => if kv.1 = x then (kv.1, v) else kv) ds' ∧ (∀ a ∈ fs', a ∈ fs ∨ a ∈ f) ∧ fs'.Nodup ∧ ds'.map (·.1) = ds.map (·.1) ∧ ∀ e ∈ ds', e ∈ ds ∨ e.2 = d) (fun _ h => nomatch h) fun {f1 fr k v1 kvs d1 ds} h r ih nk hx nfs hd => ?_
  · skip
    rw [List.map_cons, List.nodup_cons] at nk
    have nd := List.nodup_append.mp nfs
    by_cases e : k = x
    · subst e
      rw [List.map_cons, if_pos rfl, not_any_id nk.1]
      refine ⟨f ++ fr, (k, d) :: ds, .cons hin r, fun a ha => (List.mem_append.mp ha).elim .inr fun z => .inl (List.mem_append.mpr (.inr z)), List.nodup_append.mpr ⟨nf, nd.2.1, fun a ha b hb z => hd a ha (by rw [z]; exact List.mem_append.mpr (.inr hb))⟩, rfl, fun y hy => ?_⟩
      rcases List.mem_cons.mp hy with rfl | hy
      · exact .inr rfl
      · exact .inl (List.mem_cons_of_mem _ hy)
    · rw [List.map_cons, if_neg e]
      have hx' : x ∈ kvs.map (·.1) := (List.mem_cons.mp hx).elim (fun z => absurd z.symm e) id
      obtain ⟨fs', ds', a1, a2, a3, a4, a5⟩ := ih nk.2 hx' nd.2.1 fun a ha z => hd a ha (List.mem_append.mpr (.inr z))
      refine ⟨f1 ++ fs', (k, d1) :: ds', .cons h a1, fun a ha => ?_, List.nodup_append.mpr ⟨nd.1, a3, fun a ha b hb z => ?_⟩, by rw [List.map_cons, List.map_cons, a4], fun y hy => ?_⟩
      · rcases List.mem_append.mp ha with ha | ha
        · exact .inl (List.mem_append.mpr (.inl ha))
        · exact (a2 a ha).imp (fun z => List.mem_append.mpr (.inr z)) id
      · rcases a2 b hb with q | q
        · exact nd.2.2 a ha b q z
        · exact hd b q (List.mem_append.mpr (.inl (by rw [← z]; exact ha)))
      · rcases List.mem_cons.mp hy with rfl | hy
        · exact .inl List.mem_cons_self
        · exact (a5 y hy).imp (fun z => List.mem_cons_of_mem _ z) id
theorem OEnt.stored {prog : Program} {w : World} {G : PMap} {f fs : List Addr} {v : Value} {d : Ob} {x : Str} {kvs : List (Str × Value)} {ds : List (Str × Ob)} (H : OEnt prog w G fs kvs ds) (hin : OIn prog w G f v d) (nf : f.Nodup) (nk : (kvs.map (·.1)).Nodup) (nfs : fs.Nodup) (hd : ∀ a ∈ f, a ∉ fs) :
    ∃ fs' ds', OEnt prog w G fs' (PySem.stored kvs x v) ds' ∧ (∀ a ∈ fs', a ∈ fs ∨ a ∈ f) ∧ fs'.Nodup ∧ (ds'.map (·.1)).Nodup ∧ ds'.length ≤ ds.length + 1 ∧ (∀ e ∈ ds', e ∈ ds ∨ e.2 = d) ∧ ∀ k ∈ ds'.map (·.1), k ∈ ds.map (·.1) ∨ k = x := by
  by_cases hx : x ∈ kvs.map (·.1)
  · refine ex2 (H.replace (x := x) hin nf nk hx nfs hd) fun fs' ds' hx2 => ?_
    refine and5 hx2 fun a1 a2 a3 a4 a5 => ?_
    clear hx2
    have hany : (kvs.any fun kv => decide (kv.1 = x)) = true := by
      refine ex1 (List.mem_map.mp hx) fun kv hx3 => ?_
      refine and2 hx3 fun h1 h2 => ?_
      clear hx3
      exact List.any_eq_true.mpr ⟨kv, h1, decide_eq_true h2⟩
    refine ⟨fs', ds', by unfold PySem.stored; rw [if_pos hany]; exact a1, a2, a3, by rw [a4, ← H.keys]; exact nk, ?_, a5, fun k hk => .inl (by rw [a4] at hk; exact hk)⟩
    have := congrArg List.length a4
    rw [List.length_map, List.length_map] at this
    omega
  · have hany : ¬ (kvs.any fun kv => decide (kv.1 = x)) = true := fun z => by
      refine ex1 (List.any_eq_true.mp z) fun kv hx4 => ?_
      refine and2 hx4 fun h1 h2 => ?_
      clear hx4
      exact hx (List.mem_map.mpr ⟨kv, h1, of_decide_eq_true h2⟩)
    refine ⟨fs ++ f, ds ++ [(x, d)], by unfold PySem.stored; rw [if_neg hany]; exact H.snoc hin, fun a ha => List.mem_append.mp ha, List.nodup_append.mpr ⟨nfs, nf, fun a ha b hb z => hd b hb (by rw [← z]; exact ha)⟩, ?_, by rw [List.length_append]; exact Nat.le_refl _, fun e he => ?_, fun k hk => ?_⟩
    · rw [List.map_append, ← H.keys]
      refine List.nodup_append.mpr ⟨nk, by simp, fun a ha b hb z => hx ?_⟩
      rw [List.map_cons, List.map_nil, List.mem_singleton] at hb
      have hb : b = x := hb
      rw [← hb, ← z]; exact ha
    · rcases List.mem_append.mp he with he | he
      · exact .inl he
      · rw [List.mem_singleton] at he; subst he; exact .inr rfl
    · rw [List.map_append] at hk
      rcases List.mem_append.mp hk with hk | hk
      · exact .inl hk
      · rw [List.map_cons, List.map_nil, List.mem_singleton] at hk; exact .inr hk

end
section
section
variable {prog : Program} {w : World} {A : Around} {E : Value → Shared → Prop} {c : Fx} {h : Heap} {t : Nat} {mg mb m : Str → Option Value} {B G₀ G : PMap} {L p : Addr} {k : Nat} {many : Int} {u : Tok}
theorem drawIn {Q : Value → Shared → Prop} (S : St B G₀ L m G h) (Z : Bs (KK w) VV LL mg mb B) (hB : B p = none) (o : Ok 1 A) (hp : PenAt G p k) (hk : k ≤ 1000000) (h0 : 0 < many) (h1 : many ≤ 1000)
    (q : ∀ r u' G' h' t', St B G₀ L m G' h' → (∀ a ob, a ≠ p → G a = some ob → G' a = some ob) → PenAt G' p (k + 1) → 0 ≤ r → r < many → Q (.int r u') (c.at h' t')) : wpAny (model prog w) A (call (.ref 322) [.ref p, .int many u]) Q E (c.at h t) := by
  have hpL : L ≠ p := fun z => by
    refine ex4 (hp) fun _ _ _ _ hx1 => ?_
    refine and2 hx1 fun hp1_4 _ => ?_
    clear hx1
    try clear hp
    refine ex2 (hp1_4) fun o _ hx2 => ?_
    refine and2 hx2 fun e _ => ?_
    clear hx2
    clear hp1_4
    exact (S.sub _ _ e).2.1 z.symm
  refine draw_spec o (Z.sub S fun a z => by have z : a = p := z; rw [z]; exact hB) (fun _ _ e => S.get e) hp hk h0 h1 (fun r u' G' h' t' g hp' r0 r1 => ?_)
  exact q r u' G' h' t' (S.grow g (fun a z => by have z : a = p := z; rw [z]; exact hB) hpL) (fun a ob n e => g.mono a ob n e) hp' r0 r1
theorem rangeN {i : Int} {Q : Value → Shared → Prop} (S : St B G₀ L m G h) (q : ∀ r t1 t2 t3 h' t', St B G₀ L m (put G r { cls := .type "range", data := .fields #[.int 0 t1, .int i t2, .int 1 t3] }) h' → G r = none → Q (.ref r) (c.at h' t')) : wpAny (model prog w) A (call (.type "range") [.int i u]) Q E (c.at h t) := by
  have S1 := S.push (fun _ _ e => e) ({ cls := .type "range", data := .fields #[.int 0 t, .int i u, .int 1 (t + 1)] } : Obj)
  exact call_range_1 (s := c.at h t) (q _ _ _ _ _ _ S1 S.size)
theorem itemTT {e1 e2 : Expr} {a : Addr} {vs : List Value} {n : Nat} {v : Value} {k : Int} {u : Tok} {j : Nat} {Q : Value → Shared → Prop} (S : St B G₀ L m G h) (ha : G a = some (tupOf vs n)) (hx : vs[j]? = some v) (hk : k = (j : Int)) (hj : j < 1000000) (q : Q v (c.at h t))
    (hs : subscripted e2 false (.ref a) (.int k u) = operate [.ref a, .int k u] (getItem (.ref a) (.int k u)) := by kernel_rfl) : wpAny (model prog w) A (subscriptTail e1 e2 (.ref a) (.int k u)) Q E (c.at h t) := by
  subst hk
  have hlt : j < vs.length := (List.getElem?_eq_some_iff.mp hx).1
  exact PyProof.Rows.item_tupleT (s := c.at h t) ⟨_, S.get ha, rfl, n, rfl⟩ (by first | decide | omega) (by first | decide | omega) (j := j) (seq_at hlt) hx q hs
theorem rsize (r : Int) (h0 : 0 ≤ r) : Builtin.Range.rangeSize 0 r 1 = ((r.toNat : Nat) : Int) := by
  rw [rangeSize_one]
  split <;> omega
end
noncomputable def cost : Nat → Nat
  | 0 => 10
  | n + 1 => 10 + 3 * (cost n + 1)
theorem cost_pos (n : Nat) : 10 ≤ cost n := by cases n with | zero => exact Nat.le_refl _ | succ n => exact Nat.le_add_right ..
noncomputable def ObjAt (prog : Program) (w : World) (mg mb : Str → Option Value) (n r : Nat) : Prop :=
  ∀ (A : Around) (E : Value → Shared → Prop) (c : Fx) (h : Heap) (t : Nat) (G : PMap) (p : Addr) (k : Nat) (u : Tok) (Q : Value → Shared → Prop), Ok r A → Bs (KK w) VV LL mg mb (mask (fun a => a = p) h.get?) → (∀ a o, G a = some o → h.get? a = some o) → PenAt G p k → k + cost n ≤ 1000000 →
    (∀ v d f G' h' t', Grow (fun a => a = p) G h G' h' → PenAt G' p (k + cost n) → OIn prog w (mask (fun a => a = p) G') f v d → Fresh h f → d.ok n = true → Q v (c.at h' t')) → wpAny (model prog w) A (call (.ref 327) [.ref p, .int (n : Nat) u]) Q E (c.at h t)
theorem cell_ne {G : PMap} {p a : Addr} {k : Nat} {x : Str} {v : Value} (hp : PenAt G p k) (hc : CellIn G x a v) : a ≠ p := fun z => by
  refine ex4 (hp) fun _ _ _ _ hx3 => ?_
  refine and2 hx3 fun hp3_4 _ => ?_
  clear hx3
  try clear hp
  refine ex2 (hp3_4) fun o n hx4 => ?_
  refine and3 hx4 fun e _ d => ?_
  clear hx4
  clear hp3_4
  refine ex1 (hc) fun o' hx5 => ?_
  refine and2 hx5 fun e' d' => ?_
  clear hx5
  try clear hc
  rw [z, e] at e'; (first | with_reducible exact no_some e' | with_reducible exact some_no e' | with_reducible exact no_bool e' | with_reducible exact no_bool' e' | cases e')
  rw [d] at d'; (first | with_reducible exact no_some d' | with_reducible exact some_no d' | with_reducible exact no_bool d' | with_reducible exact no_bool' d' | cases d')
theorem penOut {prog : Program} {w : World} {G : PMap} {p : Addr} {k : Nat} {f : List Addr} {v : Value} {d : Ob} (hp : PenAt G p k) (hv : OIn prog w G f v d) (hf : p ∉ f) : OIn prog w (mask (fun a => a = p) G) f v d := by
  refine ex4 (hp) fun _ _ _ _ hx6 => ?_
  refine and2 hx6 fun hp6_4 _ => ?_
  clear hx6
  try clear hp
  refine ex2 (hp6_4) fun o _ hx7 => ?_
  refine and3 hx7 fun e ec _ => ?_
  clear hx7
  clear hp6_4
  refine hv.avoid (fun b z => ?_) fun b hb z => hf (by have z : b = p := z; rw [← z]; exact hb)
  have z : b = p := z
  rw [z]; exact .list e ec
theorem okb {ns : List Int} (hl : ns.length ≤ 2) (hn : ∀ x ∈ ns, 0 ≤ x ∧ x < 3) : okBytes (byteArr ns) = true := by
  unfold okBytes
  rw [Bool.and_eq_true, byteArr_size]
  refine ⟨decide_eq_true hl, List.all_eq_true.mpr fun x hx => ?_⟩
  unfold byteArr at hx
  refine ex1 (List.mem_map.mp hx) fun y hx8 => ?_
  refine and2 hx8 fun hy er8_2 => ?_
  clear hx8
  subst er8_2
  have := hn y hy
  have h3 : y = 0 ∨ y = 1 ∨ y = 2 := by omega
  rcases h3 with rfl | rfl | rfl <;> decide
noncomputable def Old (h h' : Heap) : Prop := ∀ b, h.get? b ≠ none → h'.get? b ≠ none
theorem Fresh.app2 {h h' : Heap} {f f' : List Addr} (F : Fresh h f) (F' : Fresh h' f') (k : Old h h') (dom : ∀ a ∈ f, ∃ o, h'.get? a = some o) : Fresh h (f ++ f') := by
  refine ⟨List.nodup_append.mpr ⟨F.1, F'.1, fun a ha b hb e => ?_⟩, fun b hb => (List.mem_append.mp hb).elim (F.2 b) fun hb => ?_⟩
  · refine ex1 (dom a ha) fun o z => ?_
    have := F'.2 b hb
    rw [← e, z] at this; (first | with_reducible exact no_some this | with_reducible exact some_no this | with_reducible exact no_bool this | with_reducible exact no_bool' this | cases this)
  · cases e : h.get? b with
    | none => rfl
    | some o => exact absurd (F'.2 b hb) (k b (by rw [e]; exact Option.some_ne_none _))
theorem PenAt.put {G : PMap} {p a : Addr} {k : Nat} {o : Obj} (hp : PenAt G p k) (ne : a ≠ p) : PenAt (Mine.put G a o) p k := by
  refine ex4 (hp) fun N C t1 t2 hx10 => ?_
  refine and2 hx10 fun hp10_4 b => ?_
  clear hx10
  try clear hp
  refine ex2 (hp10_4) fun ob n hx11 => ?_
  refine and2 hx11 fun e r => ?_
  clear hx11
  clear hp10_4
  exact ⟨N, C, t1, t2, ⟨ob, n, (put_ne (Ne.symm ne)).trans e, r⟩, b⟩
theorem cell_out {G : PMap} {p a : Addr} {k : Nat} {x : Str} {v : Value} (hp : PenAt G p k) (hc : CellIn G x a v) : CellIn (mask (fun a => a = p) G) x a v := by
  have ne := cell_ne hp hc
  refine ex1 (hc) fun o hx12 => ?_
  refine and2 hx12 fun e d => ?_
  clear hx12
  try clear hc
  exact ⟨o, by rw [mask_out (W := fun a => a = p) ne]; exact e, d⟩
theorem way7 (k : Nat) (h : k < 7) (e0 : ((k : Int) == 0) = false) (e1 : ((k : Int) == 1) = false) (e2 : ((k : Int) == 2) = false) (e3 : ((k : Int) == 3) = false) (e4 : ((k : Int) == 4) = false) (e5 : ((k : Int) == 5) = false) (e6 : ((k : Int) == 6) = false) : False := by
  have f : ∀ j : Nat, ((k : Int) == (j : Int)) = false → j ≤ k → j + 1 ≤ k := fun j e h => Nat.lt_of_le_of_ne h fun q => by rw [q, beq_self_eq_true] at e; exact absurd e.symm Bool.false_ne_true
  exact absurd (f 6 e6 (f 5 e5 (f 4 e4 (f 3 e3 (f 2 e2 (f 1 e1 (f 0 e0 (Nat.zero_le k)))))))) (Nat.not_le.mpr h)
theorem way_pos {r : Int} {n : Nat} (h : r < 7 ∨ 0 < n) (h0 : 0 ≤ r) (e0 : (r == 0) = false) (e1 : (r == 1) = false) (e2 : (r == 2) = false) (e3 : (r == 3) = false) (e4 : (r == 4) = false) (e5 : (r == 5) = false) (e6 : (r == 6) = false) : n = n - 1 + 1 := by
  rcases h with h | h
  · obtain ⟨k, er13_1⟩ := Int.eq_ofNat_of_zero_le h0
    subst er13_1
    exact (way7 k (Int.ofNat_lt.mp h) e0 e1 e2 e3 e4 e5 e6).elim
  · exact (Nat.succ_pred_eq_of_pos h).symm
theorem of3 {r : Int} (h0 : 0 ≤ r) (h1 : r < 3) : r = 0 ∨ r = 1 ∨ r = 2 := by omega
theorem of4 {r : Int} (h0 : 0 ≤ r) (h1 : r < 4) : r = 0 ∨ r = 1 ∨ r = 2 ∨ r = 3 := by omega
theorem nat_lt {r : Int} {k : Nat} (h0 : 0 ≤ r) (h1 : r < (k : Nat)) : r.toNat < k := by omega
theorem Ok.dl {n k d : Nat} {A : Around} {env : Env} (o : Ok (n + (k + 1)) A) (h : d ≤ k) : Ok d (A.deeper env) := (Ok.deeper (n := n + k) o).less (Nat.le_trans h (Nat.le_add_left k n))
inductive NsInv (p : Addr) (K i : Nat) (ys : List Value) (U : PMap) : Prop
  | mk (ns : List Int) (i1 : IntsAre ys ns) (i2 : ∀ x ∈ ns, 0 ≤ x ∧ x < 3) (i3 : ns.length = i) (i4 : PenAt U p (K + i)) : NsInv p K i ys U
inductive ArrInv (prog : Program) (w : World) (h0 : Heap) (p : Addr) (j K i : Nat) (ys : List Value) (U : PMap) : Prop
  | mk (fs : List Addr) (ds : List Ob) (i1 : OAll prog w (mask (fun a => a = p) U) fs ys ds) (i2 : ds.length = i) (i3 : ∀ d ∈ ds, d.ok j = true) (i4 : Fresh h0 fs) (i5 : PenAt U p (K + i * cost j)) : ArrInv prog w h0 p j K i ys U
inductive DicInv (prog : Program) (w : World) (h0 : Heap) (W : Addr → Prop) (p ha : Addr) (r : Int) (j K i : Nat) (m : Str → Option Value) (U : PMap) : Prop
  | mk (ob : Obj) (kvs : List (Str × Value)) (ds : List (Str × Ob)) (fs : List Addr) (wt : Tok) (q1 : m (Str.ofString "head") = some (.ref ha)) (q2 : m (Str.ofString "way") = some (.int r wt)) (q3 : U ha = some ob) (q4 : ob.IsDictOf (PySem.strKind prog w) kvs) (q5 : OEnt prog w (mask W U) fs kvs ds) (q6 : ds.length ≤ i) (q7 : (ds.map (·.1)).Nodup) (q8 : ∀ k ∈ ds.map (·.1), k ∈ abc) (q9 : ∀ e ∈ ds, e.2.ok j = true) (q10 : Fresh h0 fs) (q11 : PenAt U p (K + i * (cost j + 1))) : DicInv prog w h0 W p ha r j K i m U
section
variable {prog : Program} {w : World} {mg mb : Str → Option Value}
theorem object_step (n : Nat) (ih : ∀ j, n = j + 1 → ObjAt prog w mg mb j (j + 4)) : ObjAt prog w mg mb n (n + 4) := by
  intro A E c h0 t G p k u Q o Z hG hp hk q
  have hWG : ∀ a, (fun a => a = p) a → G a ≠ none := fun a z => by have z : a = p := z; rw [z]; exact hp.dom
  refine' enterCl (m := none_) (cm := upd (upd none_ (Str.ofString "pen") (.ref p)) (Str.ofString "deep") (.int (n : Nat) u)) (fun a => a = p) [((Str.ofString "pen"), .ref p), ((Str.ofString "deep"), .int (n : Nat) u)] o.room Z hG ?hw ?ho ?hcd ?hb ?hl ?hc ?hm ?hcm ?_ ?c1 ?c2 ?c3
  case ho => exact rfl
  case hw => exact hWG
  case hcd => kernel_rfl
  case hb => exact BindsTo.of_eq rfl
  case hl => kernel_rfl
  case hc => decide +kernel
  case hm => intro L; kernel_rfl
  case hcm => intro L; kernel_rfl
  case c1 => exact rfl
  case c2 => exact rfl
  case c3 => exact rfl
  intro L h₁ t₁ G₁ g1 g2 ce S Z gL sL up
  have hp1 := hp.mono g1
  have cpen := cellIn ce (Str.ofString "pen") (a := L + 1) (by kernel_rfl) (upd_there upd_here (by kernel_rfl))
  have cdeep := cellIn ce (Str.ofString "deep") (a := L + 2) (by kernel_rfl) upd_here
  have cpen := cell_out hp1 cpen
  have cdeep := cell_out hp1 cdeep
  have hB : mask (fun a => a = p ∨ a = L) h₁.get? p = none := mask_in (.inl rfl)
  have hc := cost_pos n
  have kA : ∀ d, d ≤ 10 → k + d ≤ 1000000 := fun d h => Nat.le_trans (Nat.add_le_add_left (Nat.le_trans h hc) k) hk
  have kB : ∀ d, d ≤ 10 → k + d ≤ k + cost n := fun d h => Nat.add_le_add_left (Nat.le_trans h hc) k
  have kA3 : ∀ i, i ≤ 8 → k + 2 + i ≤ 1000000 := fun i h => by rw [Nat.add_assoc]; exact kA _ (Nat.add_le_add_left h 2)
  have drawn : ∀ {many : Int} {u : Tok} {m : Str → Option Value} {U : PMap} {h : Heap} {t : Nat} {kk : Nat} {Q : Value → Shared → Prop} {A' : Around} {E' : Value → Shared → Prop}, St (mask (fun a => a = p ∨ a = L) h₁.get?) (mask (fun a => a = p) G₁) L m U h → Ok 1 A' → PenAt U p kk → kk ≤ 1000000 → 0 < many → many ≤ 1000 →
    (∀ r u' G' h' t', St (mask (fun a => a = p ∨ a = L) h₁.get?) (mask (fun a => a = p) G₁) L m G' h' → (∀ a ob, a ≠ p → U a = some ob → G' a = some ob) → PenAt G' p (kk + 1) → 0 ≤ r → r < many → Q (.int r u') (c.at h' t')) → wpAny (model prog w) A' (call (.ref 322) [.ref p, .int many u]) Q E' (c.at h t) :=
    fun S o hp hk h0 h1 q => drawIn S Z hB o hp hk h0 h1 q
  have fin : ∀ {v : Value} {d : Ob} {f : List Addr} {m : Str → Option Value} {U : PMap} {h : Heap} {t : Nat} {kk : Nat}, St (mask (fun a => a = p ∨ a = L) h₁.get?) (mask (fun a => a = p) G₁) L m U h → PenAt U p kk → kk ≤ k + cost n → OIn prog w (mask (fun a => a = p) U) f v d → Fresh h0 f → d.ok n = true → Q v (c.at h t) :=
    fun S hp hkk hin fr hok => q _ _ _ _ _ _ (exit_ (St.outW (W := fun a => a = p) S (fun a z => by have z : a = p := z; rw [z]; exact hp1.dom) gL) up sL hG g1 g2) (hp.le hkk) hin fr hok
  have oldF : ∀ {m : Str → Option Value} {U : PMap} {h : Heap} {kk : Nat}, St (mask (fun a => a = p ∨ a = L) h₁.get?) (mask (fun a => a = p) G₁) L m U h → PenAt U p kk → Old h0 h := fun S hp b hb => by
    refine ex1 (Option.ne_none_iff_exists'.mp hb) fun o e => ?_
    by_cases hbp : b = p
    · refine ex4 (hp) fun _ _ _ _ hx15 => ?_
      refine and2 hx15 fun hp15_4 _ => ?_
      clear hx15
      try clear hp
      obtain ⟨o, _, e, _⟩ := hp15_4
      rw [hbp, S.get e]; exact Option.some_ne_none _
    · rw [S.keep b o (by rw [mask_out fun z => z.elim hbp fun z => by rw [z, sL] at e; cases e]; exact up b o e)]
      exact Option.some_ne_none _
  have leaf : ∀ {d : Ob}, d.isPlain = true → d.ok 0 = true → d.ok n = true := fun {d} hd h => by cases d <;> first | (cases n <;> exact h) | (first | with_reducible exact no_some hd | with_reducible exact some_no hd | with_reducible exact no_bool hd | with_reducible exact no_bool' hd | cases hd)
  refine x_assign (hsw := by kernel_rfl!) ?_
  refine e_call ?_
  tb_rel
  refine And.intro (by tb_start) ?_
  refine a_cons ?_
  tb_rel
  refine a_cons ?_
  refine e_ifJoin (fun v s' => ∃ many u' t', v = .int many u' ∧ s' = c.at h₁ t' ∧ (many = 7 ∨ (many = 11 ∧ 0 < n))) ?_ ?_
  · repeat cell_call
    refine iteB (fun hb => ?_) (fun hb => ?_)
    · repeat cell_call
      exact ⟨_, _, _, rfl, rfl, .inr ⟨rfl, by have := of_decide_eq_true hb; omega⟩⟩
    · repeat cell_call
      exact ⟨_, _, _, rfl, rfl, .inl rfl⟩
  intro v0 s0 hi16_2
  obtain ⟨many, u0, t0, er18_3, er18_4, hmany⟩ := hi16_2
  subst er18_3
  subst er18_4
  repeat cell_call
  refine drawn (by assumption) (o.dl (k := 3) (by decide)) hp1 (kA 0 (by decide)) (by first | decide | omega) (by first | decide | omega) (fun r u2 U2 h2 t2 S2 up2 hp2 r0 r1 => ?_)
  have hr : r < 7 ∨ 0 < n := by omega
  have hr2 : r < 11 := by omega
  clear r1 hmany
  · repeat cell_call
    rename St _ _ _ _ _ _ => S3
    refine iteB (fun e0 => ?_) (fun e0 => ?_)
    · repeat cell_call
      exact fin S3 hp2 (kB 1 (by decide)) .null .nil (leaf rfl rfl)
    repeat cell_call
    refine iteB (fun e1 => ?_) (fun e1 => ?_)
    · repeat cell_call
      refine drawn S3 (o.dl (k := 3) (by decide)) hp2 (kA 1 (by decide)) (by decide) (by decide) (fun r u4 U4 h4 t4 S4 up4 hp4 r0 r1 => ?_)
      repeat cell_call
      exact fin S4 hp4 (kB 2 (by decide)) (.truth _) .nil (leaf rfl rfl)
    repeat cell_call
    refine iteB (fun e2 => ?_) (fun e2 => ?_)
    · repeat cell_call
      refine drawn S3 (o.dl (k := 3) (by decide)) hp2 (kA 1 (by decide)) (by decide) (by decide) (fun r u4 U4 h4 t4 S4 up4 hp4 r0 r1 => ?_)
      repeat cell_call
      exact fin S4 hp4 (kB 2 (by decide)) (.int _ _) .nil (leaf rfl (Bool.and_eq_true_iff.mpr ⟨decide_eq_true (by first | decide | omega), decide_eq_true (by first | decide | omega)⟩))
    repeat cell_call
    refine iteB (fun e3 => ?_) (fun e3 => ?_)
    · repeat cell_call
      refine drawn S3 (o.dl (k := 3) (by decide)) hp2 (kA 1 (by decide)) (by decide) (by decide) (fun r u4 U4 h4 t4 S4 up4 hp4 r0 r1 => ?_)
      repeat cell_call
      refine drawn S4 (o.dl (k := 3) (by decide)) hp4 (kA 2 (by decide)) (by decide) (by decide) (fun r5 u5 U5 h5 t5 S5 up5 hp5 r50 r51 => ?_)
      repeat cell_call
      refine make_Decimal (o.dl (k := 3) (by decide)) S5 Z (by first | decide | omega) (by first | decide | omega) (fun a G6 h6 t6 tp pl S6 up6 hin b1 b2 => ?_)
      have hp6 := hp5.mono up6
      repeat cell_call
      exact fin S6 hp6 (kB 3 (by decide)) (penOut hp6 hin (by simp)) .nil (leaf rfl (Bool.and_eq_true_iff.mpr ⟨Bool.and_eq_true_iff.mpr ⟨decide_eq_true b1.1, decide_eq_true b1.2⟩, Bool.and_eq_true_iff.mpr ⟨decide_eq_true b2.1, decide_eq_true b2.2⟩⟩))
    repeat cell_call
    refine iteB (fun e4 => ?_) (fun e4 => ?_)
    · repeat cell_call
      rename_i s1 _ s2 _ s3 _ s4 _ ta h4 S4 gta tk4 tn4
      refine drawn S4 (o.dl (k := 3) (by decide)) (hp2.mono (put_old gta)) (kA 1 (by decide)) (by decide) (by decide) (fun r u5 U5 h5 t5 S5 up5 hp5 r0 r1 => ?_)
      repeat cell_call
      have tap : ta ≠ p := fun z => by
        refine ex1 (Option.ne_none_iff_exists'.mp hp2.dom) fun ob e => ?_
        rw [z, e] at gta; (first | with_reducible exact no_some gta | with_reducible exact some_no gta | with_reducible exact no_bool gta | with_reducible exact no_bool' gta | cases gta)
      have hta := up5 ta _ tap put_self
      have hr4 : r = ((r.toNat : Nat) : Int) := (Int.toNat_of_nonneg r0).symm
      have hx : ∃ x s, [Value.str (Str.ofString "A") s1, .str (Str.ofString "B") s2, .str (Str.ofString "Type") s3, .str (Str.ofString "") s4][r.toNat]? = some (.str x s) ∧ x ∈ names4 := by
        have h3 := of4 r0 r1
        rcases h3 with rfl | rfl | rfl | rfl
        · exact ⟨_, _, rfl, by simp [names4]⟩
        · exact ⟨_, _, rfl, by simp [names4]⟩
        · exact ⟨_, _, rfl, by simp [names4]⟩
        · exact ⟨_, _, rfl, by simp [names4]⟩
      refine ex2 (hx) fun x s hx20 => ?_
      refine and2 hx20 fun hx hxm => ?_
      clear hx20
      refine itemTT S5 hta hx hr4 (by first | decide | omega) ?_
      repeat cell_call
      refine make_Name (o.dl (k := 3) (by decide)) S5 Z (fun a G6 h6 t6 S6 up6 hin => ?_)
      have hp6 := hp5.mono up6
      repeat cell_call
      exact fin S6 hp6 (kB 2 (by decide)) (penOut hp6 hin (by simp)) .nil (leaf rfl (List.contains_iff_mem.mpr hxm))
    repeat cell_call
    refine iteB (fun e5 => ?_) (fun e5 => ?_)
    · repeat cell_call
      refine eval_comp (cl := [((Str.ofString "pen"), L + 1)]) (by kernel_rfl) ?_
      repeat cell_call
      refine drawn S3 (o.dl (k := 3) (by decide)) hp2 (kA 1 (by decide)) (by decide) (by decide) (fun r4 u4 U4 h4 t4 S4 up4 hp4 r40 r41 => ?_)
      repeat cell_call
      refine rangeN S4 (fun ra ta tb tc h5 t5 S5 gra => ?_)
      have hp5 := hp4.mono (put_old (o := { cls := .type "range", data := .fields #[.int 0 ta, .int r4 tb, .int 1 tc] }) gra)
      have hr3 : r4.toNat < 3 := nat_lt r40 r41
      refine comp_at (W := fun a => a = p) (P := fun i v => ∃ t, v = .int (0 + (i : Int)) t) (n := r4.toNat) (NsInv p (k + 2)) S5 Z (Src.range o.deeper.hh (S5.get put_self) (small_one (by first | decide | omega) (by first | decide | omega) (by first | decide | omega) (by first | decide | omega)) (rsize r4 r40)) (fun a z => by have z : a = p := z; rw [z]; exact hB) (fun i ys U hi a z => by obtain ⟨_, _, _, _, q⟩ := hi; have z : a = p := z; rw [z]; exact q.dom) (by rw [sizeLine_eq]; omega) ⟨[], .nil, (fun x hx => absurd hx List.not_mem_nil), rfl, hp5.le (Nat.le_refl (k + 2))⟩ ?turn ?done
      case turn =>
        intro i v ys U h t C m₂ hi hv g S Z hm hi20_14 hl
        obtain ⟨ns, i1, i2, i3, i4⟩ := hi20_14
        have cpenU := cpen.mono fun a o e => g.mono a o (of_mask e).1 (S5.mono a o e)
        repeat cell_call
        refine drawIn (many := 3) S Z (mask_in (.inl rfl)) (o.dl (k := 3) (by decide)) i4 (kA3 i (Nat.le_trans (Nat.le_of_lt (Nat.lt_trans hi hr3)) (by decide))) (by decide) (by decide) (fun r u6 U6 h6 t6 S6 up6 hp6 r60 r61 => ?_)
        refine ⟨_, _, _, _, rfl, S6, ns ++ [r], i1.append (.cons _ _ .nil), ?_, by rw [List.length_append, i3]; rfl, hp6⟩
        intro x hx
        rcases List.mem_append.mp hx with hx | hx
        · exact i2 x hx
        · rw [List.mem_singleton] at hx; subst hx; exact ⟨r60, r61⟩
      case done =>
        intro D ys U h t S6 uD bD hD g g' hi22_11 hl
        obtain ⟨ns, i1, i2, i3, i4⟩ := hi22_11
        repeat cell_call
        refine bytesL S6 put_self i1 (fun x hx => by have := i2 x hx; omega) (by have := i1.length; omega) o.deeper.hh (fun h7 t7 u7 S7 => ?_)
        repeat cell_call
        have hp7 := i4.mono (put_old (o := lstOf ys) uD)
        refine drawn S7 (o.dl (k := 3) (by decide)) hp7 (kA3 _ (Nat.le_trans (Nat.le_of_lt hr3) (by decide))) (by decide) (by decide) (fun r8 u8 U8 h8 t8 S8 up8 hp8 r80 r81 => ?_)
        repeat cell_call
        refine make_String (o.dl (k := 3) (by decide)) S8 Z (fun a G9 h9 t9 S9 up9 hin => ?_)
        have hp9 := hp8.mono up9
        repeat cell_call
        exact fin S9 hp9 (by rw [Nat.add_assoc, Nat.add_assoc]; exact kB _ (Nat.le_trans (Nat.add_le_add_left (Nat.succ_le_of_lt hr3) 2) (by decide))) (penOut hp9 hin (by simp)) .nil (leaf rfl (okb (by first | decide | omega) i2))
    repeat cell_call
    refine iteB (fun e6 => ?_) (fun e6 => ?_)
    · repeat cell_call
      refine drawn S3 (o.dl (k := 3) (by decide)) hp2 (kA 1 (by decide)) (by decide) (by decide) (fun r4 u4 U4 h4 t4 S4 up4 hp4 r40 r41 => ?_)
      repeat cell_call
      refine drawn S4 (o.dl (k := 3) (by decide)) hp4 (kA 2 (by decide)) (by decide) (by decide) (fun r5 u5 U5 h5 t5 S5 up5 hp5 r50 r51 => ?_)
      repeat cell_call
      refine make_Reference (o.dl (k := 3) (by decide)) S5 Z (fun a G6 h6 t6 S6 up6 hin => ?_)
      have hp6 := hp5.mono up6
      repeat cell_call
      exact fin S6 hp6 (kB 3 (by decide)) (penOut hp6 hin (by simp)) .nil (leaf rfl (Bool.and_eq_true_iff.mpr ⟨Bool.and_eq_true_iff.mpr ⟨decide_eq_true (by first | decide | omega), decide_eq_true (by first | decide | omega)⟩, Bool.and_eq_true_iff.mpr ⟨decide_eq_true (by first | decide | omega), decide_eq_true (by first | decide | omega)⟩⟩))
    repeat cell_call
    refine iteB (fun e7 => ?_) (fun e7 => ?_)
    · repeat cell_call
      obtain ⟨j, hj⟩ : ∃ j, n = j + 1 := ⟨n - 1, way_pos hr r0 e0 e1 e2 e3 e4 e5 e6⟩
      have hn1 : ((n : Nat) : Int) - 1 = ((j : Nat) : Int) := by omega
      have hcn : cost n = 10 + 3 * (cost j + 1) := by rw [hj]; rfl
      refine eval_comp (cl := [((Str.ofString "pen"), L + 1), ((Str.ofString "deep"), L + 2)]) (by kernel_rfl!) ?_
      repeat cell_call
      refine drawn S3 (o.dl (k := 3) (by decide)) hp2 (kA 1 (by decide)) (by decide) (by decide) (fun r4 u4 U4 h4 t4 S4 up4 hp4 r40 r41 => ?_)
      repeat cell_call
      refine rangeN S4 (fun ra ta tb tc h5 t5 S5 gra => ?_)
      have hp5 := hp4.mono (put_old (o := { cls := .type "range", data := .fields #[.int 0 ta, .int r4 tb, .int 1 tc] }) gra)
      have old5 : Old h0 h5 := oldF S5 hp5
      refine comp_at (W := fun a => a = p) (P := fun i v => ∃ t, v = .int (0 + (i : Int)) t) (n := r4.toNat) (ArrInv prog w h0 p j (k + 2)) S5 Z (Src.range o.deeper.hh (S5.get put_self) (small_one (by first | decide | omega) (by first | decide | omega) (by first | decide | omega) (by first | decide | omega)) (rsize r4 r40)) (fun a z => by have z : a = p := z; rw [z]; exact hB) (fun i ys U hi a z => by obtain ⟨_, _, _, _, _, _, q⟩ := hi; have z : a = p := z; rw [z]; exact q.dom) (by rw [sizeLine_eq]; omega) ⟨[], [], .nil, rfl, (fun x hx => by (first | with_reducible exact no_some hx | with_reducible exact some_no hx | with_reducible exact no_bool hx | with_reducible exact no_bool' hx | cases hx)), .nil, hp5.le (by first | decide | omega)⟩ ?turn ?done
      case turn =>
        intro i v ys U h t C m₂ hi hv g S Z hm hi24_14 hl
        obtain ⟨fs, ds, i1, i2, i3, i4, i5⟩ := hi24_14
        have hCp : C ≠ p := fun z => by
          refine ex4 (i5) fun _ _ _ _ hx27 => ?_
          refine and2 hx27 fun hp27_4 _ => ?_
          clear hx27
          try clear i5
          obtain ⟨o, _, e, _⟩ := hp27_4
          exact (S.sub _ _ e).2.1 z.symm
        have old6 : Old h0 h := fun b hb => by
          refine ex1 (Option.ne_none_iff_exists'.mp (old5 b hb)) fun o e => ?_
          by_cases hbp : b = p
          · refine ex4 (i5) fun _ _ _ _ hx30 => ?_
            refine and2 hx30 fun hp30_4 _ => ?_
            clear hx30
            try clear i5
            obtain ⟨o, _, e, _⟩ := hp30_4
            rw [hbp, S.get e]; exact Option.some_ne_none _
          · rw [g.keep b o hbp e]; exact Option.some_ne_none _
        have hik : k + 2 + i * cost j + cost j ≤ 1000000 := by
          have : i ≤ 2 := by omega
          have : i * cost j ≤ 2 * cost j := Nat.mul_le_mul_right _ this
          omega
        have cpenU := cpen.mono fun a o e => g.mono a o (of_mask e).1 (S5.mono a o e)
        have cdeepU := cdeep.mono fun a o e => g.mono a o (of_mask e).1 (S5.mono a o e)
        repeat cell_call
        rw [hn1]
        refine ih j hj _ _ _ _ _ _ _ _ _ _ (by rw [hj] at o; exact o.deeper) (Z.sub S fun a z => mask_in (.inl z)) (fun _ _ e => S.get e) i5 hik (fun v6 d6 f6 U6 h6 t6 g6 hp6 hin6 fr6 ok6 => ?_)
        have S6 := S.grow g6 (fun a z => mask_in (.inl z)) hCp
        have mm6 : ∀ a o, mask (fun a => a = p) U a = some o → mask (fun a => a = p) U6 a = some o := fun a o e => by
          refine and2 (of_mask e) fun nw e => ?_
          rw [mask_out (W := fun a => a = p) nw]; exact g6.mono a o nw e
        refine ⟨_, _, _, _, rfl, S6, fs ++ f6, ds ++ [d6], (i1.mono mm6).snoc hin6, by rw [List.length_append, i2]; rfl, ?_, i4.app2 fr6 old6 fun a ha => ?_, by rw [Nat.add_mul, Nat.one_mul, ← Nat.add_assoc]; exact hp6⟩
        · intro x hx
          rcases List.mem_append.mp hx with hx | hx
          · exact i3 x hx
          · rw [List.mem_singleton] at hx; subst hx; exact ok6
        · refine ex1 (i1.dom a ha) fun o e => ?_
          exact ⟨o, S.get (mask_sub _ _ e)⟩
      case done =>
        intro D ys U h t S6 uD bD hD g g' hi33_11 hl
        obtain ⟨fs, ds, i1, i2, i3, i4, i5⟩ := hi33_11
        repeat cell_call
        have hp7 := i5.mono (put_old (o := lstOf ys) uD)
        have hDp : D ≠ p := fun z => by
          refine ex1 (Option.ne_none_iff_exists'.mp i5.dom) fun ob e => ?_
          rw [z, e] at uD; (first | with_reducible exact no_some uD | with_reducible exact some_no uD | with_reducible exact no_bool uD | with_reducible exact no_bool' uD | cases uD)
        have hik : r4.toNat * cost j ≤ 3 * cost j := Nat.mul_le_mul_right _ (by first | decide | omega)
        have frD : h0.get? D = none := by
          cases e : h0.get? D with
          | none => rfl
          | some ob => exact absurd hD (old5 D (by rw [e]; exact Option.some_ne_none _))
        refine fin S6 hp7 (by first | decide | omega) (.array (by rw [mask_out (W := fun a => a = p) hDp, put_self]) (i1.mono (mask_put_old uD))) (i4.cons frD fun z => ?_) ?_
        · refine ex1 (i1.dom _ z) fun ob e => ?_
          rw [mask_sub _ _ e] at uD; (first | with_reducible exact no_some uD | with_reducible exact some_no uD | with_reducible exact no_bool uD | with_reducible exact no_bool' uD | cases uD)
        · rw [hj]
          show (decide (ds.length ≤ 3) && ds.all fun d => Ob.ok j d) = true
          rw [Bool.and_eq_true]
          exact ⟨decide_eq_true (by first | decide | omega), List.all_eq_true.mpr i3⟩
    repeat cell_call
    obtain ⟨j, hj⟩ : ∃ j, n = j + 1 := ⟨n - 1, way_pos hr r0 e0 e1 e2 e3 e4 e5 e6⟩
    have hn1 : ((n : Nat) : Int) - 1 = ((j : Nat) : Int) := by omega
    have hcn : cost n = 10 + 3 * (cost j + 1) := by rw [hj]; rfl
    refine mkDict S3 Z (fun ha h4 S4 gha hsm => ?_)
    have hBa := S3.free gha S4
    have hap : ha ≠ p := fun z => by
      refine ex1 (Option.ne_none_iff_exists'.mp hp2.dom) fun ob e => ?_
      rw [z, e] at gha; (first | with_reducible exact no_some gha | with_reducible exact some_no gha | with_reducible exact no_bool gha | with_reducible exact no_bool' gha | cases gha)
    have hp4 := hp2.mono (put_old (o := emptyDict) gha)
    have hd4 : put U2 ha emptyDict ha = some emptyDict := put_self
    have cp4 : CellIn (put U2 ha emptyDict) (Str.ofString "pen") (L + 1) (.ref p) := cpen.mono fun a o e => put_old gha a o (S3.mono a o e)
    have cd4 : CellIn (put U2 ha emptyDict) (Str.ofString "deep") (L + 2) (.int (n : Nat) u) := cdeep.mono fun a o e => put_old gha a o (S3.mono a o e)
    have frH : h0.get? ha = none := by
      cases e : h0.get? ha with
      | none => rfl
      | some ob =>
        have e1 := up ha ob e
        rw [mask_out (W := fun a => a = p ∨ a = L) (fun z => z.elim hap (S4.sub _ _ put_self).2.1), e1] at hBa
        (first | with_reducible exact no_some hBa | with_reducible exact some_no hBa | with_reducible exact no_bool hBa | with_reducible exact no_bool' hBa | cases hBa)
    generalize put U2 ha emptyDict = U4 at *
    repeat cell_call
    refine x_for ?_
    repeat cell_call
    refine drawn (by assumption) (o.dl (k := 3) (by decide)) hp4 (by first | decide | omega) (by decide) (by decide) (fun r5 u5 U5 h5 t5 S5 up5 hp5 r50 r51 => ?_)
    repeat cell_call
    refine rangeN S5 (fun ra ta tb tc h6 t6 S6 gra => ?_)
    have hp6 := hp5.mono (put_old (o := { cls := .type "range", data := .fields #[.int 0 ta, .int r5 tb, .int 1 tc] }) gra)
    have hd6 : put U5 ra { cls := .type "range", data := .fields #[.int 0 ta, .int r5 tb, .int 1 tc] } ha = some emptyDict := put_old gra _ _ (up5 _ _ hap hd4)
    have hr6 : put U5 ra { cls := .type "range", data := .fields #[.int 0 ta, .int r5 tb, .int 1 tc] } ra = some { cls := .type "range", data := .fields #[.int 0 ta, .int r5 tb, .int 1 tc] } := put_self
    have cp6 : CellIn (put U5 ra { cls := .type "range", data := .fields #[.int 0 ta, .int r5 tb, .int 1 tc] }) (Str.ofString "pen") (L + 1) (.ref p) := by
      have ne := cell_ne hp4 cp4
      refine ex1 (cp4) fun ob hx39 => ?_
      refine and2 hx39 fun e d => ?_
      clear hx39
      try clear cp4
      exact ⟨ob, put_old gra _ _ (up5 _ _ ne e), d⟩
    have cd6 : CellIn (put U5 ra { cls := .type "range", data := .fields #[.int 0 ta, .int r5 tb, .int 1 tc] }) (Str.ofString "deep") (L + 2) (.int (n : Nat) u) := by
      have ne := cell_ne hp4 cd4
      refine ex1 (cd4) fun ob hx40 => ?_
      refine and2 hx40 fun e d => ?_
      clear hx40
      try clear cd4
      exact ⟨ob, put_old gra _ _ (up5 _ _ ne e), d⟩
    generalize put U5 ra { cls := .type "range", data := .fields #[.int 0 ta, .int r5 tb, .int 1 tc] } = U6 at *
    let W : Addr → Prop := fun a => a = p ∨ a = ha
    have cellW : ∀ {x : Str} {a : Addr} {v : Value}, CellIn U6 x a v → ¬ (W a ∨ a = L) := fun {x a v} hc z => by
      rcases z with (z | z) | z
      · exact cell_ne hp6 hc z
      · refine ex1 (hc) fun ob hx41 => ?_
        refine and2 hx41 fun e d => ?_
        clear hx41
        try clear hc
        rw [z, hd6] at e; cases e; (first | with_reducible exact no_some d | with_reducible exact some_no d | with_reducible exact no_bool d | with_reducible exact no_bool' d | cases d)
      · refine ex1 (hc) fun ob hx42 => ?_
        refine and2 hx42 fun e d => ?_
        clear hx42
        try clear hc
        exact (S6.sub _ _ e).2.1 z
    have nWr : ¬ (W ra ∨ ra = L) := fun z => by
      rcases z with (z | z) | z
      · rw [z] at gra
        refine ex4 (hp5) fun _ _ _ _ hx43 => ?_
        refine and2 hx43 fun hp43_4 _ => ?_
        clear hx43
        try clear hp5
        obtain ⟨_, _, e, _⟩ := hp43_4
        rw [gra] at e; (first | with_reducible exact no_some e | with_reducible exact some_no e | with_reducible exact no_bool e | with_reducible exact no_bool' e | cases e)
      · rw [z, hd6] at hr6; exact absurd (show Value.type "dict" = Value.type "range" from congrArg Obj.cls (Option.some.inj hr6)) (by decide)
      · exact (S6.sub _ _ hr6).2.1 z
    have old6 : Old h0 h6 := oldF S6 hp6
    refine for_at (W := W) (P := fun i v => ∃ t, v = .int (0 + (i : Int)) t) (n := r5.toNat) (DicInv prog w h0 W p ha r j (k + 2)) S6 Z (Src.range o.deeper.hh (S6.get hr6) (small_one (by first | decide | omega) (by first | decide | omega) (by first | decide | omega) (by first | decide | omega)) (rsize r5 r50)) (fun a z => z.elim (fun z => by rw [z]; exact hB) fun z => by rw [z]; exact hBa) ?win ?h0 ?turn ?done
    case win =>
      intro i m' U hi44_3 a z
      obtain ⟨ob, kvs, ds, fs, _, _, _, q3, _, _, _, _, _, _, _, q11⟩ := hi44_3
      rcases z with z | z
      · rw [z]; exact q11.dom
      · rw [z, q3]; exact Option.some_ne_none _
    case h0 => exact ⟨_, [], [], [], _, by w_left, by w_left, hd6, ⟨#[], 0, ⟨rfl, rfl, rfl⟩, rfl, (fun _ he => by simp at he), Pairs.nil, List.nodup_nil⟩, .nil, Nat.le_refl _, List.nodup_nil, (fun k hk => by (first | with_reducible exact no_some hk | with_reducible exact some_no hk | with_reducible exact no_bool hk | with_reducible exact no_bool' hk | cases hk)), (fun e he => by (first | with_reducible exact no_some he | with_reducible exact some_no he | with_reducible exact no_bool he | with_reducible exact no_bool' he | cases he)), .nil, hp6.le (by first | decide | omega)⟩
    case turn =>
      intro i v m' U h t hi hv g S7 Z7 hi46_11
      obtain ⟨ob, kvs, ds, fs, wt, q1, q2, q3, q4, q5, q6, q7, q8, q9, q10, q11⟩ := hi46_11
      have cp7 : CellIn U (Str.ofString "pen") (L + 1) (.ref p) := by have ne := cellW cp6; obtain ⟨o, e, d⟩ := cp6; exact ⟨o, g.mono _ _ ne e, d⟩
      have cd7 : CellIn U (Str.ofString "deep") (L + 2) (.int (n : Nat) u) := by have ne := cellW cd6; obtain ⟨o, e, d⟩ := cd6; exact ⟨o, g.mono _ _ ne e, d⟩
      repeat cell_call
      rw [hn1]
      have hi3 : i ≤ 2 := by omega
      have hmul : i * (cost j + 1) ≤ 2 * (cost j + 1) := Nat.mul_le_mul_right _ hi3
      have hLp : ¬ (fun a => a = p) L := fun z => by
        have z : L = p := z
        refine ex4 (q11) fun _ _ _ _ hx49 => ?_
        refine and2 hx49 fun hp49_4 _ => ?_
        clear hx49
        try clear q11
        refine ex2 (hp49_4) fun o _ hx50 => ?_
        refine and2 hx50 fun e _ => ?_
        clear hx50
        clear hp49_4
        exact (S7.sub _ _ e).2.1 z.symm
      refine ih j hj _ _ _ _ _ _ _ _ _ _ (by rw [hj] at o; exact o.deeper) (Z7.sub S7 fun a z => mask_in (.inl (.inl z))) (fun _ _ e => S7.get e) q11 (by first | decide | omega) (fun v8 d8 f8 U8 h8 t8 g8 hp8 hin8 fr8 ok8 => ?_)
      have S8 := S7.grow g8 (fun a z => mask_in (.inl (.inl z))) hLp
      have q3' := g8.mono ha ob hap q3
      have cp8 : CellIn U8 (Str.ofString "pen") (L + 1) (.ref p) := by have ne := cell_ne q11 cp7; obtain ⟨o, e, d⟩ := cp7; exact ⟨o, g8.mono _ _ ne e, d⟩
      repeat cell_call
      rename_i s1 _ s2 _ s3 _ ta9 h9 S9 gt9
      have cp9 : CellIn (put U8 ta9 (tupOf [.str (Str.ofString "C") s1, .str (Str.ofString "A") s2, .str (Str.ofString "B") s3] 0)) (Str.ofString "pen") (L + 1) (.ref p) := cp8.mono (put_old gt9)
      repeat cell_call
      have t9p : ta9 ≠ p := fun z => by
        refine ex1 (Option.ne_none_iff_exists'.mp hp8.dom) fun o e => ?_
        rw [z, e] at gt9; (first | with_reducible exact no_some gt9 | with_reducible exact some_no gt9 | with_reducible exact no_bool gt9 | with_reducible exact no_bool' gt9 | cases gt9)
      refine drawIn (many := 3) S9 Z7 (mask_in (.inl (.inl rfl))) (o.dl (k := 3) (by decide)) (hp8.mono (put_old gt9)) (by first | decide | omega) (by decide) (by decide) (fun r10 u10 U10 h10 t10 S10 up10 hp10 r100 r101 => ?_)
      have hta := up10 ta9 _ t9p put_self
      have hr4 : r10 = ((r10.toNat : Nat) : Int) := (Int.toNat_of_nonneg r100).symm
      have hx : ∃ x s, [Value.str (Str.ofString "C") s1, .str (Str.ofString "A") s2, .str (Str.ofString "B") s3][r10.toNat]? = some (.str x s) ∧ x ∈ abc := by
        have h3 := of3 r100 r101
        rcases h3 with rfl | rfl | rfl
        · exact ⟨_, _, rfl, by decide +kernel⟩
        · exact ⟨_, _, rfl, by decide +kernel⟩
        · exact ⟨_, _, rfl, by decide +kernel⟩
      refine ex2 (hx) fun x s hx52 => ?_
      refine and2 hx52 fun hx hxm => ?_
      clear hx52
      refine itemTT S10 hta hx hr4 (by first | decide | omega) ?_
      have hha := up10 ha ob hap (put_old gt9 _ _ q3')
      have klen := q5.length
      refine setD S10 hha q4 (mask_in (.inl (.inr rfl))) (by rw [sizeLine_eq]; omega) (fun o' h11 t11 S11 hd11 => ?_)
      repeat cell_call
      have up78 : ∀ a o, a ≠ p → U8 a = some o → U10 a = some o := fun a o n e => up10 a o n (put_old gt9 a o e)
      have mm : ∀ a o, mask W U a = some o → mask W U10 a = some o := fun a o e => by
        refine and2 (of_mask e) fun nw e => ?_
        rw [mask_out nw]
        exact up78 a o (fun z => nw (.inl z)) (g8.mono a o (fun z => nw (.inl z)) e)
      have hha8 : mask (fun a => a = p) U8 ha = some ob := by rw [mask_out (W := fun a => a = p) hap]; exact q3'
      have hcont : ∀ b, (fun b => b = ha) b → ContAt prog w (mask (fun a => a = p) U8) b := fun b z => by
        have z : b = ha := z
        rw [z]; exact .dict hha8 q4 fun k hk => by rw [q5.keys] at hk; exact q8 k hk
      have hin10 : OIn prog w (mask W U10) f8 v8 d8 := (hin8.avoid hcont fun b hb z => by
          have z : b = ha := z
          have := fr8.2 b hb
          rw [z, S7.get q3] at this; (first | with_reducible exact no_some this | with_reducible exact some_no this | with_reducible exact no_bool this | with_reducible exact no_bool' this | cases this)).mono fun a o e => by
        refine and2 (of_mask e) fun n1 e => ?_
        refine and2 (of_mask e) fun n2 e => ?_
        rw [mask_out (W := W) fun z => z.elim n2 n1]
        exact up78 a o n2 e
      obtain ⟨fs', ds', b1, b2, b3, b4, b5, b6, b7⟩ := (q5.mono mm).stored (x := x) hin10 fr8.1 (by rw [q5.keys]; exact q7) q10.1 (fun a ha' z => by
        refine ex1 (q5.dom a z) fun o e => ?_
        have := fr8.2 a ha'
        rw [S7.get (mask_sub _ _ e)] at this; (first | with_reducible exact no_some this | with_reducible exact some_no this | with_reducible exact no_bool this | with_reducible exact no_bool' this | cases this))
      have old7 : Old h0 h := fun b hb => by
        refine ex1 (Option.ne_none_iff_exists'.mp (old6 b hb)) fun o e => ?_
        by_cases hbW : W b ∨ b = L
        · rcases hbW with (z | z) | z
          · refine ex4 (q11) fun _ _ _ _ hx58 => ?_
            refine and2 hx58 fun hp58_4 _ => ?_
            clear hx58
            try clear q11
            refine ex2 (hp58_4) fun o _ hx59 => ?_
            refine and2 hx59 fun e _ => ?_
            clear hx59
            clear hp58_4
            rw [z, S7.get e]; exact Option.some_ne_none _
          · rw [z, S7.get q3]; exact Option.some_ne_none _
          · rw [z, sL] at hb; exact absurd rfl hb
        · rw [g.keep b o hbW e]; exact Option.some_ne_none _
      refine ⟨rfl, _, _, _, _, rfl, S11, o', _, ds', fs', wt, by w_left, by w_left, put_self, hd11, by rw [mask_put (show W ha from .inr rfl)]; exact b1, by omega, b4, fun k hk => (b7 k hk).elim (q8 k) fun z => by rw [z]; exact hxm, fun e he => (b6 e he).elim (q9 e) fun z => by rw [z]; exact ok8, ⟨b3, fun a ha' => (b2 a ha').elim (q10.2 a) fun z => ?_⟩, (hp10.put hap).le ?_⟩
      · cases e : h0.get? a with
        | none => rfl
        | some o => exact absurd (fr8.2 a z) (old7 a (by rw [e]; exact Option.some_ne_none _))
      · rw [Nat.add_mul, Nat.one_mul]; omega
    case done =>
      intro m' U h t S7 g hi59_6
      obtain ⟨ob, kvs, ds, fs, wt, q1, q2, q3, q4, q5, q6, q7, q8, q9, q10, q11⟩ := hi59_6
      repeat cell_call
      have hmul : r5.toNat * (cost j + 1) ≤ 3 * (cost j + 1) := Nat.mul_le_mul_right _ (by first | decide | omega)
      have hnf : ha ∉ fs := fun z => by
        refine ex1 (q5.dom ha z) fun o e => ?_
        exact (of_mask e).1 (.inr rfl)
      have hpf : p ∉ fs := fun z => by
        refine ex1 (q5.dom p z) fun o e => ?_
        exact (of_mask e).1 (.inl rfl)
      have okd : (Ob.dict ds).ok n = true := by
        rw [hj]
        show (decide (ds.length ≤ 3) && decide (ds.map (·.1)).Nodup && ds.all fun d => abc.contains d.1 && Ob.ok j d.2) = true
        rw [Bool.and_eq_true, Bool.and_eq_true]
        exact ⟨⟨decide_eq_true (by first | decide | omega), decide_eq_true q7⟩, List.all_eq_true.mpr fun e he => Bool.and_eq_true_iff.mpr ⟨List.contains_iff_mem.mpr (q8 e.1 (List.mem_map.mpr ⟨e, he, rfl⟩)), q9 e he⟩⟩
      have hdict : OIn prog w U (ha :: fs) (.ref ha) (.dict ds) := .dict q3 q4 hsm (q5.mono mask_sub)
      have frD : Fresh h0 (ha :: fs) := q10.cons frH hnf
      have pnf : p ∉ ha :: fs := fun z => (List.mem_cons.mp z).elim (fun z => hap z.symm) hpf
      have cp7 : CellIn U (Str.ofString "pen") (L + 1) (.ref p) := by have ne := cellW cp6; obtain ⟨o, e, d⟩ := cp6; exact ⟨o, g.mono _ _ ne e, d⟩
      refine iteB (fun e9 => ?_) (fun e9 => ?_)
      · repeat cell_call
        exact fin S7 q11 (by first | decide | omega) (penOut q11 hdict pnf) frD okd
      · repeat cell_call
        refine eval_comp (cl := [((Str.ofString "pen"), L + 1)]) (by kernel_rfl!) ?_
        repeat cell_call
        refine rangeN S7 (fun rb tx ty tz h8 t8 S8 grb => ?_)
        have hp8 := q11.mono (put_old (o := { cls := .type "range", data := .fields #[.int 0 tx, .int 2 ty, .int 1 tz] }) grb)
        have cp8 : CellIn (Mine.put U rb { cls := .type "range", data := .fields #[.int 0 tx, .int 2 ty, .int 1 tz] }) (Str.ofString "pen") (L + 1) (.ref p) := cp7.mono (put_old grb)
        have hdm := penOut hp8 (hdict.mono (put_old (o := { cls := .type "range", data := .fields #[.int 0 tx, .int 2 ty, .int 1 tz] }) grb)) pnf
        refine comp_at (W := fun a => a = p) (P := fun i v => ∃ t, v = .int (0 + (i : Int)) t) (n := (2 : Int).toNat) (NsInv p (k + 2 + r5.toNat * (cost j + 1))) S8 Z (Src.range o.deeper.hh (S8.get put_self) (small_one (by first | decide | omega) (by first | decide | omega) (by first | decide | omega) (by first | decide | omega)) (rsize 2 (by first | decide | omega))) (fun a z => by have z : a = p := z; rw [z]; exact hB) (fun i ys U hi a z => by obtain ⟨_, _, _, _, q⟩ := hi; have z : a = p := z; rw [z]; exact q.dom) (by rw [sizeLine_eq]; omega) ⟨[], .nil, (fun x hx => absurd hx List.not_mem_nil), rfl, hp8.le (Nat.le_refl _)⟩ ?turn3 ?done3
        case turn3 =>
          intro i v ys U9 h t C m₂ hi hv g9 S Z hm hi63_14 hl
          obtain ⟨ns, i1, i2, i3, i4⟩ := hi63_14
          have cpU : CellIn U9 (Str.ofString "pen") (L + 1) (.ref p) := by have ne := cell_ne hp8 cp8; obtain ⟨o, e, d⟩ := cp8; exact ⟨o, g9.mono _ _ ne e, d⟩
          repeat cell_call
          have hi2 : i < 2 := hi
          refine drawIn (many := 3) S Z (mask_in (.inl rfl)) (o.dl (k := 3) (by decide)) i4 (by first | decide | omega) (by decide) (by decide) (fun r u6 U6 h6 t6 S6 up6 hp6 r60 r61 => ?_)
          refine ⟨_, _, _, _, rfl, S6, ns ++ [r], i1.append (.cons _ _ .nil), ?_, by rw [List.length_append, i3]; rfl, hp6⟩
          intro x hx
          rcases List.mem_append.mp hx with hx | hx
          · exact i2 x hx
          · rw [List.mem_singleton] at hx; subst hx; exact ⟨r60, r61⟩
        case done3 =>
          intro D ys U9 h t S9 uD bD hD g9 g9' hi65_11 hl
          obtain ⟨ns, i1, i2, i3, i4⟩ := hi65_11
          repeat cell_call
          have i3 : ns.length = 2 := i3
          have i4 : PenAt U9 p (k + 2 + r5.toNat * (cost j + 1) + 2) := i4
          refine bytesL S9 put_self i1 (fun x hx => by have := i2 x hx; omega) (by have := i1.length; omega) o.deeper.hh (fun h7 t7 u7 S10 => ?_)
          repeat cell_call
          have hp10 := i4.mono (put_old (o := lstOf ys) uD)
          have hdm10 : OIn prog w (Mine.put U9 D (lstOf ys)) (ha :: fs) (.ref ha) (.dict ds) := hdm.mono fun a o e => by
            refine and2 (of_mask e) fun nw e => ?_
            exact g9.mono a o nw e
          refine make_Stream (o.dl (k := 3) (by decide)) S10 Z hdm10 (fun a dx G11 h11 t11 S11 up11 hdx hin => ?_)
          have hp11 := hp10.mono up11
          repeat cell_call
          have dxo : h0.get? dx = none := by
            cases e : h0.get? dx with
            | none => rfl
            | some ob => exact absurd hdx (oldF S10 hp10 dx (by rw [e]; exact Option.some_ne_none _))
          have dxp : p ≠ dx := fun z => by
            refine ex4 (hp10) fun _ _ _ _ hx69 => ?_
            refine and2 hx69 fun hp69_4 _ => ?_
            clear hx69
            try clear hp10
            obtain ⟨o, _, e, _⟩ := hp69_4
            rw [← z, S10.get e] at hdx; (first | with_reducible exact no_some hdx | with_reducible exact some_no hdx | with_reducible exact no_bool hdx | with_reducible exact no_bool' hdx | cases hdx)
          refine fin S11 hp11 (by first | decide | omega) (penOut hp11 hin fun z => (List.mem_cons.mp z).elim dxp pnf) (frD.cons dxo fun z => ?_) ?_
          · refine ex1 (hdm10.dom dx z) fun o e => ?_
            rw [S10.get e] at hdx; (first | with_reducible exact no_some hdx | with_reducible exact some_no hdx | with_reducible exact no_bool hdx | with_reducible exact no_bool' hdx | cases hdx)
          · rw [hj] at okd ⊢
            exact Bool.and_eq_true_iff.mpr ⟨okd, okb (by first | decide | omega) i2⟩
theorem object_spec : ∀ (n : Nat), ObjAt prog w mg mb n (n + 4)
  | 0 => object_step 0 fun j hj => by (first | with_reducible exact no_some hj | with_reducible exact some_no hj | with_reducible exact no_bool hj | with_reducible exact no_bool' hj | cases hj)
  | n + 1 => object_step (n + 1) fun j hj => by
    have : j = n := by omega
    subst this
    exact object_spec j
end

end
section
noncomputable def numWords : List Str := [(Str.ofString "int"), (Str.ofString "real")]
noncomputable def Ob.isNum (d : Ob) : Bool := numWords.any (· == d.word)
section
variable {prog : Program} {w : World} {A : Around} {E : Value → Shared → Prop} {c : Fx} {h : Heap} {t : Nat} {mg mb : Str → Option Value} {G : PMap} {f : List Addr} {v : Value} {d : Ob} {Q : Value → Shared → Prop}
theorem number_spec (o : Ok 3 A) (Z : Bs (KK w) VV LL mg mb h.get?) (hG : ∀ a o, G a = some o → h.get? a = some o) (hv : OIn prog w G f v d)
    (k : ∀ G' h' t', Grow No G h G' h' → Q (.bool d.isNum) (c.at h' t')) : wpAny (model prog w) A (call (.ref 260) [v]) Q E (c.at h t) := by
  refine' enter No [((Str.ofString "value"), v)] o.room Z.no hG ?ho ?hcd ?hb ?hl ?hc ?hm ?_ ?c1 ?c2 ?c3
  case ho => exact rfl
  case hcd => kernel_rfl
  case hb => exact BindsTo.of_eq rfl
  case hl => kernel_rfl
  case hc => kernel_rfl
  case hm => exact binds1
  case c1 => exact rfl
  case c2 => exact rfl
  case c3 => exact rfl
  intro L h₁ t₁ S Z gL sL up
  rw [mask_no] at S
  repeat cell_call
  refine kind_spec (o.deeper.less (by first | decide | omega)) (Z.at_ S) (fun _ _ e => S.get e) hv (fun u h t g => ?_)
  have S := S.grow0 g
  repeat cell_call
  rename_i s1 _ s2 _ ta h4 S4 gta
  refine inStrs S4 put_self (.cons (Str.ofString "int") s1 (.cons (Str.ofString "real") s2 .nil)) ?_
  repeat cell_call
  exact k _ _ _ (out0 S4 up sL hG gL)
end
section
open Classical
variable {prog : Program} {w : World} {A : Around} {E : Value → Shared → Prop} {c : Fx} {h : Heap} {t : Nat} {mg mb : Str → Option Value} {G : PMap} {f f' : List Addr} {v v' : Value} {d d' : Ob} {Q : Value → Shared → Prop}
theorem same_spec {n : Nat} (hn : n ≤ 3) (hd : d.ok n = true) (hd' : d'.ok n = true) (o : Ok 10 A) (Z : Bs (KK w) VV LL mg mb h.get?) (hG : ∀ a o, G a = some o → h.get? a = some o) (hv : OIn prog w G f v d) (hv' : OIn prog w G f' v' d')
    (k : ∀ G' h' t', Grow No G h G' h' → Q (.bool (decide (d.row none n = d'.row none n))) (c.at h' t')) : wpAny (model prog w) A (call (.ref 279) [v, v']) Q E (c.at h t) := by
  refine' enter No [((Str.ofString "one"), v), ((Str.ofString "other"), v')] o.room Z.no hG ?ho ?hcd ?hb ?hl ?hc ?hm ?_ ?c1 ?c2 ?c3
  case ho => exact rfl
  case hcd => kernel_rfl
  case hb => exact BindsTo.of_eq rfl
  case hl => kernel_rfl
  case hc => kernel_rfl
  case hm => exact binds2
  case c1 => exact rfl
  case c2 => exact rfl
  case c3 => exact rfl
  intro L h₁ t₁ S Z gL sL up
  rw [mask_no] at S
  repeat cell_call
  refine told_spec n d hd _ _ _ _ _ _ _ _ _ (o.deeper.less (by first | decide | omega)) (Z.at_ S) (fun _ _ e => S.get e) hv (fun r G2 h t g rr => ?_)
  have S2 := S.grow0 g
  repeat cell_call
  refine told_spec n d' hd' _ _ _ _ _ _ _ _ _ (o.deeper.less (by first | decide | omega)) (Z.at_ S2) (fun _ _ e => S2.get e) (hv'.mono S2.mono) (fun r' G3 h t g' rr' => ?_)
  have S3 := S2.grow0 g'
  repeat cell_call
  refine ex1 (row_tag n d hd) fun xs e1 => ?_
  refine ex1 (row_tag n d' hd') fun ys e2 => ?_
  rw [e1] at rr
  rw [e2] at rr'
  refine eqT S3 (rr.mono g'.up) rr' (o.deeper.c) ?_ ?_
  · obtain ⟨xs', ys', f1, f2, H⟩ := reqs_rows (s := c.at h t) (G := G3) (fun a o e => S3.get e) n d d' hd hd' (A.deeper _) (by have := (o.deeper (env := envX (Str.ofString "same") ⟨.function, [], false, false, []⟩ L 279 .none [])).units; show A.units + 3 + _ < 9900; have : A.units + 3 + 24 * 9 < 9000 := this; omega)
    rw [e1] at f1
    rw [e2] at f2
    injection f1 with f1
    injection f2 with f2
    rw [f1, f2]; exact H
  have := k _ _ t (out0 S3 up sL hG gL)
  rw [e1, e2] at this
  have ee : decide (Rw.str d.word :: xs = Rw.str d'.word :: ys) = decide (Rw.tup (Rw.str d.word :: xs) = Rw.tup (Rw.str d'.word :: ys)) := by
    rw [decide_eq_decide]
    exact ⟨fun z => by rw [z], fun z => by injection z⟩
  rw [ee]
  exact this
end

end
section
theorem ints_at {vs : List Value} {ns : List Int} (H : IntsAre vs ns) : ∀ {i : Nat} {v : Value}, vs[i]? = some v → ∃ x t, v = .int x t ∧ x ∈ ns := by
  induction H with
  | nil => intro _ _ h; (first | with_reducible exact no_some h | with_reducible exact some_no h | with_reducible exact no_bool h | with_reducible exact no_bool' h | cases h)
  | cons n t _ ih =>
    intro i v h
    cases i with
    | zero => cases h; exact ⟨n, t, rfl, List.mem_cons_self⟩
    | succ i =>
      obtain ⟨x, t', e, hx⟩ := ih (i := i) h
      exact ⟨x, t', e, List.mem_cons_of_mem _ hx⟩
theorem abs_nat {x : Int} : (if x < 0 then -x else x) = (x.natAbs : Int) := by split <;> omega
theorem pen_nn {N b : Int} {y : Nat} (h : 0 ≤ N) (hb : 0 ≤ b) : 0 ≤ N * 1000003 + 2 * (y : Int) + b + 1 := by omega
theorem pen_lt {N b : Int} {y P : Nat} (h : 0 ≤ N) (h1 : N.natAbs < P) (h2 : y < P) (hb : 0 ≤ b) (hb1 : b ≤ 1) : (N * 1000003 + 2 * (y : Int) + b + 1).natAbs < P * 4194304 := by
  obtain ⟨n, er2_1⟩ := Int.eq_ofNat_of_zero_le h
  subst er2_1
  obtain ⟨c, er3_1⟩ := Int.eq_ofNat_of_zero_le hb
  subst er3_1
  have hc : c ≤ 1 := Int.ofNat_le.mp hb1
  have h1 : n < P := h1
  show n * 1000003 + 2 * y + c + 1 < P * 4194304
  clear h hb hb1
  omega
section
variable {prog : Program} {w : World} {A : Around} {E : Value → Shared → Prop} {c : Fx} {h : Heap} {t : Nat} {mg mb m : Str → Option Value} {B G₀ G : PMap} {L a : Addr} {env : Env} {vs : List Value} {n : Nat} {Q : Value → Shared → Prop}
theorem sliceUpto {value : Expr} {k : Nat} {kk : Nat} {p1 p : Pos} (S : St B G₀ L m G h) (hl : h.IsList a vs.toArray) (hz : vs.length ≤ 1000) (q : ∀ d h' t', St B G₀ L m (put G d (listOf (vs.take k).toArray 0)) h' → G d = none → Q (.ref d) (c.at h' t'))
    (hs : ∀ i, subscripted (.Slice none (some (.Constant (.int (k : Nat)) kk p1)) none p) false (.ref a) (.ref i) = operate [.ref i, .ref a] (getItem (.ref a) (.ref i)) := by intro _; kernel_rfl) (hg : ∀ r, letTemporaryGo value (.ref a) r = pure () := by intro _; kernel_rfl) :
    wpAny (model prog w) A (eval (.Slice none (some (.Constant (.int (k : Nat)) kk p1)) none p) env) (fun i s₂ => wpAny (model prog w) A (subscriptTail value (.Slice none (some (.Constant (.int (k : Nat)) kk p1)) none p) (.ref a) i) Q E s₂) E (c.at h t) := by
  refine wpAny_Slice ?_
  rw [evalPart_none, evalPart_some]
  refine wpAny_pure ?_
  refine c_int fun u t' => ?_
  refine wpAny_pure ?_
  have S1 := S.kept (h' := h.push { cls := .type "slice", data := .fields #[.none, .int (k : Nat) u, .none] }) fun _ _ e => Heap.get?_push_of_some _ e
  have hl1 : Heap.IsList (h.push { cls := .type "slice", data := .fields #[.none, .int (k : Nat) u, .none] }) a vs.toArray := hl.push _
  refine subscriptTail_ops (s := c.at (h.push { cls := .type "slice", data := .fields #[.none, .int (k : Nat) u, .none] }) t') hl1.typeIs list_getitem_lookup (wpAny_getItem_list_slice hl1 (Heap.IsSliceOf.new ..) .none (.int _ _) .none (by simp) ?_ (by rw [List.size_toArray, sizeLine_eq]; omega)) (hs _) hg
  rw [slicePick_upto']
  exact q _ _ _ (S1.push (fun _ _ e => e) _) S1.size
end
section
variable {prog : Program} {w : World} {A : Around} {E : Value → Shared → Prop} {c : Fx} {h : Heap} {t : Nat} {mg mb : Str → Option Value} {G : PMap} {a : Addr} {vs : List Value} {ns : List Int} {n Bd : Nat} {Q : Value → Shared → Prop}
theorem pen_spec (o : Ok 1 A) (Z : Bs (KK w) VV LL mg mb h.get?) (hG : ∀ a o, G a = some o → h.get? a = some o) (hl : h.IsList a vs.toArray) (hi : IntsAre vs ns) (hz : vs.length ≤ 1000) (hb : ∀ x ∈ ns, Builtin.Int.intBits x ≤ Bd) (hBd : Bd ≤ 2000000)
    (q : ∀ p G' h' t', Grow No G h G' h' → PenAt G' p 0 → h.get? p = none → Q (.ref p) (c.at h' t')) : wpAny (model prog w) A (call (.ref 315) [.ref a]) Q E (c.at h t) := by
  refine' enter No [((Str.ofString "script"), .ref a)] o.room Z.no hG ?ho ?hcd ?hb ?hl ?hc ?hm ?_ ?c1 ?c2 ?c3
  case ho => exact rfl
  case hcd => kernel_rfl
  case hb => exact BindsTo.of_eq rfl
  case hl => kernel_rfl
  case hc => kernel_rfl
  case hm => exact binds1
  case c1 => exact rfl
  case c2 => exact rfl
  case c3 => exact rfl
  intro L h₁ t₁ S Z gL sL up
  rw [mask_no] at S
  repeat cell_call
  refine x_for ?_
  repeat cell_call
  rename_i tk0 tn0 hx2 tx2 S2
  have hl2 : hx2.IsList a vs.toArray := by obtain ⟨o, e, r⟩ := hl; exact ⟨o, old_in S2 up sL a o e, r⟩
  refine sliceUpto (k := 24) S2 hl2 hz (fun sa h3 t3 S3 gs => ?_)
  have hi24 := hi.take 24
  have ilen := hi24.length
  have nsa : ¬ (No sa ∨ sa = L) := fun z => z.elim (fun z => z) fun z => (S3.sub _ _ put_self).2.1 z
  refine for_at (W := No) (n := (vs.take 24).toArray.size) (P := fun i v => (vs.take 24).toArray[i]? = some v) (fun i m' U => ∃ N t, m' (Str.ofString "number") = some (.int N t) ∧ 0 ≤ N ∧ N.natAbs < 2 ^ (Bd + 22 * i)) S3 Z (Src.list o.deeper.hh ⟨_, S3.get put_self, rfl, _, rfl⟩ nsa) (fun _ z => z.elim) (fun _ _ _ _ _ z => z.elim) ⟨0, _, by w_left, Int.le_refl _, by show 0 < _; exact Nat.pow_pos (by decide)⟩ ?turn ?done
  case turn =>
    intro i v m' U h t hi' hv g S4 Z4 hi3_11
    obtain ⟨N, tN, e1, e2, e3⟩ := hi3_11
    have hi25 : i < 24 := by rw [List.size_toArray, List.length_take] at hi'; exact Nat.lt_of_lt_of_le hi' (Nat.min_le_left ..)
    refine ex2 (ints_at hi24 (i := i) (v := v) (by simpa using hv)) fun x tx hx6 => ?_
    refine and2 hx6 fun er6_2 hx => ?_
    clear hx6
    subst er6_2
    have hxb := hb x (List.mem_of_mem_take hx)
    rw [intBits_le_iff] at hxb
    have hxb2 : x.natAbs < 2 ^ (Bd + 22 * i) := Nat.lt_of_lt_of_le hxb (Nat.pow_le_pow_right (by decide) (Nat.le_add_right ..))
    have hNb : Builtin.Int.intBits N ≤ Bd + 22 * i := intBits_le_iff.mpr e3
    have hpow : 2 ^ (Bd + 22 * (i + 1)) = 2 ^ (Bd + 22 * i) * 4194304 := by rw [Nat.mul_succ, ← Nat.add_assoc, Nat.pow_add]
    have hxb3 : Builtin.Int.intBits (if x < 0 then -x else x) ≤ Bd := intBits_le_iff.mpr (by rw [abs_nat]; exact hxb)
    repeat cell_call
    refine mulI (IntMulOk.of_le hNb (intBits_le_iff.mpr (by decide : (1000003 : Int).natAbs < 2 ^ 20)) (by first | decide | omega)) (fun w1 t1 => ?_)
    repeat cell_call
    refine call_abs_int (s := c.at h _) (fun u5 t5 => ?_)
    repeat cell_call
    refine mulI (i := 2) (j := if x < 0 then -x else x) (h := h) (c := c) (IntMulOk.of_le (intBits_le_iff.mpr (by decide : (2 : Int).natAbs < 2 ^ 2)) hxb3 (by first | decide | omega)) (fun w2 t2 => ?_)
    repeat cell_call
    refine iteB (fun hb1 => ?_) (fun hb1 => ?_)
    · repeat cell_call
      refine ⟨rfl, _, _, _, _, rfl, by assumption, _, _, by w_left, ?_, ?_⟩
      · rw [abs_nat]; exact pen_nn e2 (by decide)
      · rw [hpow, abs_nat]; exact pen_lt e2 e3 hxb2 (by decide) (by decide)
    · repeat cell_call
      refine ⟨rfl, _, _, _, _, rfl, by assumption, _, _, by w_left, ?_, ?_⟩
      · rw [abs_nat]; exact pen_nn e2 (by decide)
      · rw [hpow, abs_nat]; exact pen_lt e2 e3 hxb2 (by decide) (by decide)
  case done =>
    intro m' U h t S4 g hi6_6
    obtain ⟨N, tN, e1, e2, e3⟩ := hi6_6
    repeat cell_call
    rename_i t9 _ p hp9 S9 gp
    exact q _ _ _ _ (out0 S9 up sL hG gL) ⟨N, 0, tN, _, ⟨_, 0, put_self, rfl, rfl⟩, e2, Int.le_refl _, Int.le_refl _⟩ (fresh0 S4 gp S9 up)
end

end
section
section
open Classical
variable {prog : Program} {w : World} {A : Around} {E : Value → Shared → Prop} {c : Fx} {h : Heap} {t : Nat} {mg mb m : Str → Option Value} {B G₀ G : PMap} {L a b : Addr} {vs us : List Value} {n k : Nat} {v v' : Value} {Q : Value → Shared → Prop}
theorem req_rowP {A : Around} {s : Shared} (hs : ∀ a o, G a = some o → s.heap.get? a = some o) (hu : A.units < cLine) (p q : Int × Int) : REq A s G (rowP p) (rowP q) :=
  req_tup hs hu ⟨req_int, fun _ => ⟨req_int, fun _ => trivial⟩⟩
theorem neL {F : List (Int × Int)} (S : St B G₀ L m G h) (h1 : G a = some (listOf vs.toArray n)) (h2 : G b = some (listOf us.toArray k)) (r1 : RAll G vs (F.map rowP)) (r2 : RAll G us (F.map rowP)) (hu : A.units + 1 < cLine) (q : Q (.bool false) (c.at h t)) :
    wpAny (model prog w) A (compareOp .NotEq (.ref a) (.ref b)) Q E (c.at h t) := by
  have len1 := r1.length
  have len2 := r2.length
  refine SeqAt.RcNeAt.lists (s := c.at h t) (A := A) (items := vs.toArray) (items2 := us.toArray) (e := fun _ => true) ⟨_, S.get h1, rfl, n, rfl⟩ ⟨_, S.get h2, rfl, k, rfl⟩ (by rw [List.size_toArray, List.size_toArray, len1, len2]) (by first | decide | omega) (fun j j1 j2 => ?_) prog w E Q (by rw [List.all_eq_true.mpr fun _ _ => rfl]; exact q)
  simp only [List.size_toArray] at j1 j2
  refine ex1 (r1.get' (i := j) (v := vs[j]) (by simp [j1])) fun r hx1 => ?_
  refine and2 hx1 fun hr hv => ?_
  clear hx1
  refine ex1 (r2.get' (i := j) (v := us[j]) (by simp [j2])) fun r' hx2 => ?_
  refine and2 hx2 fun hr' hv' => ?_
  clear hx2
  rw [hr] at hr'
  (first | with_reducible exact no_some hr' | with_reducible exact some_no hr' | with_reducible exact no_bool hr' | with_reducible exact no_bool' hr' | cases hr')
  rw [List.getElem?_map] at hr
  refine ex1 (Option.map_eq_some_iff.mp hr) fun p hx3 => ?_
  refine and2 hx3 fun _ er3_2 => ?_
  clear hx3
  subst er3_2
  have := req_rowP (s := c.at h t) (fun a o e => S.get e) (show A.in1.units < cLine from hu) p p _ _ hv hv'
  rw [decide_eq_true rfl] at this
  simpa using this
theorem in_cons {α : Type} {P : α → Prop} {a : α} {l : List α} (h1 : P a) (h2 : ∀ x ∈ l, P x) : ∀ x ∈ a :: l, P x := fun x hx => (List.mem_cons.mp hx).elim (fun e => e ▸ h1) (h2 x)
theorem in_nil {α : Type} {P : α → Prop} : ∀ x ∈ ([] : List α), P x := fun x hx => by (first | with_reducible exact no_some hx | with_reducible exact some_no hx | with_reducible exact no_bool hx | with_reducible exact no_bool' hx | cases hx)
theorem self_items {A : Around} {s : Shared} (hs : ∀ a o, G a = some o → s.heap.get? a = some o) (T : Option Tab) (n : Nat) (d : Ob) (hd : d.ok n = true) (hu : A.units + (4 * n + 6) < cLine) : ∃ xs, d.row T n = .tup xs ∧ ∀ x ∈ xs, REq A.in1 s G x x := by
  cases d with
  | null => exact ⟨_, row_null, in_cons req_str in_nil⟩
  | truth _ => exact ⟨_, row_truth, in_cons req_str (in_cons req_int in_nil)⟩
  | int _ => exact ⟨_, row_int, in_cons req_str (in_cons req_int in_nil)⟩
  | real _ _ => exact ⟨_, row_real, in_cons req_str (in_cons req_int (in_cons req_int in_nil))⟩
  | name _ => exact ⟨_, row_name, in_cons req_str (in_cons req_str in_nil)⟩
  | string _ _ => exact ⟨_, row_string, in_cons req_str (in_cons req_bytes in_nil)⟩
  | ref a b =>
    cases T with
    | none => exact ⟨_, row_ref, in_cons req_str (in_cons req_int (in_cons req_int in_nil))⟩
    | some T =>
      have e : (Ob.ref a b).row (some T) n = match T.at (a, b) with | some (a, b) => Rw.tup [rs "ref", .int a, .int b] | none => nullRow := row_ref
      rw [e]
      cases T.at (a, b) with
      | none => exact ⟨_, rfl, in_cons req_str in_nil⟩
      | some q => exact ⟨_, rfl, in_cons req_str (in_cons req_int (in_cons req_int in_nil))⟩
  | array ds =>
    cases n with
    | zero => (first | with_reducible exact no_some hd | with_reducible exact some_no hd | with_reducible exact no_bool hd | with_reducible exact no_bool' hd | cases hd)
    | succ n =>
      refine ⟨_, row_array, in_cons req_str fun x hx => ?_⟩
      refine ex1 (List.mem_map.mp hx) fun d hx4 => ?_
      refine and2 hx4 fun _ er4_2 => ?_
      clear hx4
      subst er4_2
      exact req_self hs T n d _ (in1_lt (by first | decide | omega))
  | dict ds =>
    cases n with
    | zero => (first | with_reducible exact no_some hd | with_reducible exact some_no hd | with_reducible exact no_bool hd | with_reducible exact no_bool' hd | cases hd)
    | succ n =>
      refine ⟨_, row_dict, in_cons req_str fun x hx => ?_⟩
      refine ex2 (mem_entRows hx) fun k d hx5 => ?_
      refine and2 hx5 fun _ er5_3 => ?_
      clear hx5
      subst er5_3
      exact req_tup hs (in1_lt (k := 0) (by first | decide | omega)) ⟨req_str, fun _ => ⟨req_self hs T n d _ (in1_lt (in1_lt (by first | decide | omega))), fun _ => trivial⟩⟩
  | stream ds o =>
    cases n with
    | zero => (first | with_reducible exact no_some hd | with_reducible exact some_no hd | with_reducible exact no_bool hd | with_reducible exact no_bool' hd | cases hd)
    | succ n => exact ⟨_, row_stream, in_cons req_str (in_cons (req_self hs T (n + 1) _ _ (in1_lt (by first | decide | omega))) (in_cons req_bytes in_nil))⟩
theorem neSelf {T : Option Tab} {i : Nat} {d : Ob} (hd : d.ok i = true) (S : St B G₀ L m G h) (hv : RIn G v (d.row T i)) (hv' : RIn G v' (d.row T i)) (hu : A.units + (4 * i + 6) < cLine) (q : Q (.bool false) (c.at h t)) :
    wpAny (model prog w) A (compareOp .NotEq v v') Q E (c.at h t) := by
  refine ex1 (self_items (s := c.at h t) (G := G) (A := A) (fun a o e => S.get e) T i d hd hu) fun xs hx6 => ?_
  refine and2 hx6 fun e H => ?_
  clear hx6
  rw [e] at hv hv'
  refine neT S hv hv' (by first | decide | omega) (fun j r r' h1 h2 => ?_) (by rw [decide_eq_true rfl]; exact q)
  rw [h1] at h2
  (first | with_reducible exact no_some h2 | with_reducible exact some_no h2 | with_reducible exact no_bool h2 | with_reducible exact no_bool' h2 | cases h2)
  exact H r (List.mem_of_getElem? h1)
theorem eqSelf {T : Option Tab} {i : Nat} {d : Ob} (hd : d.ok i = true) (S : St B G₀ L m G h) (hv : RIn G v (d.row T i)) (hv' : RIn G v' (d.row T i)) (hu : A.units + (4 * i + 6) < cLine) (q : Q (.bool true) (c.at h t)) :
    wpAny (model prog w) A (compareOp .Eq v v') Q E (c.at h t) := by
  refine ex1 (self_items (s := c.at h t) (G := G) (A := A) (fun a o e => S.get e) T i d hd hu) fun xs hx7 => ?_
  refine and2 hx7 fun e H => ?_
  clear hx7
  rw [e] at hv hv'
  exact eqT S hv hv' (by first | decide | omega) (reqs_self H) (by rw [decide_eq_true rfl]; exact q)
end

end
section
theorem rb_slot : Slot "bytes" "__repr__" "bytes.__repr__" :=
  .of (owner := "bytes") (n := "__repr__") (by rw [typeLookup_type, builtinLookup_eq_fast]; kernel_rfl) (by decide +kernel) (by decide +kernel) (by decide +kernel)
    (by first | exact .inl (by decide +kernel) | exact .inr (by decide +kernel)) (by rw [isSubtype_type]; kernel_rfl)
theorem rb_entry : entryFor table "bytes.__repr__" = some Builtin.«bytes.__repr__» := entryFor_of_tree (by kernel_rfl)
theorem rb_args (a : Value) : argsOk "bytes.__repr__" ⟨[a], []⟩ := by unfold argsOk; kernel_rfl
theorem rb_gives (b : Array UInt8) (t : Tok) (hb : b.size ≤ 1000) : Gives (Builtin.«bytes.__repr__» ⟨[.bytes b t], []⟩) (.str (Builtin.Bytes.literal b)) := by
  have h : Builtin.Bytes.tooLong (4 * b.size + 3 + 0) = false := by
    unfold Builtin.Bytes.tooLong
    rw [decide_eq_false_iff_not, sizeLine_eq]
    omega
  refine .of_eq ?_
  show (do let s ← Builtin.Bytes.literalAsked b; PySem.retStr s) = _
  unfold Builtin.Bytes.literalAsked
  rw [h]
  rfl
theorem ReprIs.bytes {prog : Program} {w : World} (b : Array UInt8) (t : Tok) (hb : b.size ≤ 1000) (hsz : (Builtin.Bytes.literal b).length ≤ sizeLine) : ReprIs prog w (.bytes b t) (Builtin.Bytes.literal b) := fun n hn _ _ _ _ h => by
  have hn' : n ≤ sizeLine := by omega
  rw [pyReprUnder_leaf (v := .bytes b t) hn' (fun _ e => nomatch e)]
  unfold pyRepr
  exact wpAny_bind (wpAny_pyReprObj_gives (PySem.W.typeIs_bytes _ b t) rb_slot rb_entry (rb_args _) (rb_gives b t hb) (wpAny_pure (h _)) (hx := hsz))

end
section
mutual
noncomputable def Rw.text : Rw → Str
  | .int i => Str.ofString (toString i)
  | .str x => reprText x
  | .bytes b => Builtin.Bytes.literal b
  | .tup l => tupleText (Rw.texts l)
noncomputable def Rw.texts : List Rw → List Str
  | [] => []
  | r :: rs => r.text :: Rw.texts rs
end
mutual
noncomputable def Rw.sz : Rw → Nat
  | .int _ | .str _ | .bytes _ => 1
  | .tup l => 1 + Rw.szs l
noncomputable def Rw.szs : List Rw → Nat
  | [] => 0
  | r :: rs => max r.sz (Rw.szs rs)
end
mutual
noncomputable def Rw.good : Rw → Prop
  | .int i => i.natAbs.log2 < 1920
  | .str x => (reprText x).length ≤ sizeLine
  | .bytes b => b.size ≤ 1000 ∧ (Builtin.Bytes.literal b).length ≤ sizeLine
  | .tup l => Rw.goods l
noncomputable def Rw.goods : List Rw → Prop
  | [] => True
  | r :: rs => r.good ∧ Rw.goods rs
end
section
variable {prog : Program} {w : World} {G : PMap} {h : Heap}
theorem ReprAllK.more' {as as' : List Addr} {d d' : Nat} (hs : ∀ b ∈ as, b ∈ as') (hd : d ≤ d') : ∀ {l : List Value} {ts : List Str}, ReprAllK prog w as h d l ts → ReprAllK prog w as' h d' l ts := by
  intro l ts H
  induction H with
  | nil => exact .nil
  | cons x _ r => exact .cons ((x.more hs).level_le hd) r
abbrev RepOne (prog : Program) (w : World) (G : PMap) (h : Heap) (v : Value) (r : Rw) : Prop := ∃ as, (∀ b ∈ as, ∃ r', RIn G (.ref b) r' ∧ r'.sz ≤ r.sz) ∧ ReprK prog w as h r.sz v r.text
abbrev RepAll (prog : Program) (w : World) (G : PMap) (h : Heap) (vs : List Value) (rs : List Rw) : Prop := ∃ as, (∀ b ∈ as, ∃ r', RIn G (.ref b) r' ∧ r'.sz ≤ Rw.szs rs) ∧ ReprAllK prog w as h (Rw.szs rs) vs (Rw.texts rs)
theorem RepAll.cons {v : Value} {r : Rw} {vs : List Value} {rs : List Rw} (x : RepOne prog w G h v r) (y : RepAll prog w G h vs rs) : RepAll prog w G h (v :: vs) (r :: rs) := by
  obtain ⟨as1, a1, a2⟩ := x
  obtain ⟨as2, b1, b2⟩ := y
  have l1 : r.sz ≤ Rw.szs (r :: rs) := by rw [Rw.szs]; exact Nat.le_max_left _ _
  have l2 : Rw.szs rs ≤ Rw.szs (r :: rs) := by rw [Rw.szs]; exact Nat.le_max_right _ _
  refine ⟨as1 ++ as2, fun b z => ?_, ?_⟩
  · rcases List.mem_append.mp z with z | z
    · refine ex1 (a1 b z) fun r' hx3 => ?_
      refine and2 hx3 fun x y => ?_
      clear hx3
      exact ⟨r', x, Nat.le_trans y l1⟩
    · refine ex1 (b1 b z) fun r' hx4 => ?_
      refine and2 hx4 fun x y => ?_
      clear hx4
      exact ⟨r', x, Nat.le_trans y l2⟩
  · rw [Rw.texts]
    exact .cons ((a2.more fun b z => List.mem_append_left _ z).level_le l1) (ReprAllK.more' (fun b z => List.mem_append_right _ z) l2 b2)
theorem RIn.reprK (hG : ∀ a o, G a = some o → h.get? a = some o) {v : Value} {r : Rw} (H : RIn G v r) : r.good → RepOne prog w G h v r := by
  refine RIn.rec (motive_1 := fun v r _ => r.good → RepOne prog w G h v r) (motive_2 := fun vs rs _ => Rw.goods rs → RepAll prog w G h vs rs)
    (fun i t g => ⟨[], (fun b z => nomatch z), .of_is (ReprIs.int t (by rw [Rw.good] at g; exact g)) _ _ _⟩)
    (fun x t g => ⟨[], (fun b z => nomatch z), .of_is (ReprIs.str x t (by rw [Rw.good] at g; exact g)) _ _ _⟩)
    (fun b t g => by rw [Rw.good] at g; exact ⟨[], (fun b z => nomatch z), .of_is (ReprIs.bytes b t g.1 g.2) _ _ _⟩)
    (fun {a vs n ds} e rr ih g => ?_) (fun _ => ⟨[], (fun b z => nomatch z), .nil⟩) (fun q rr ih1 ih2 g => by rw [Rw.goods] at g; exact .cons (ih1 g.1) (ih2 g.2)) H
  obtain ⟨as, h1, h2⟩ := ih (by rw [Rw.good] at g; exact g)
  have hna : a ∉ as := fun z => by
    refine ex1 (h1 a z) fun r' hx5 => ?_
    refine and2 hx5 fun x y => ?_
    clear hx5
    have := RIn.fun x (.tup e rr)
    subst this
    rw [Rw.sz] at y
    omega
  refine ⟨a :: as, fun b z => ?_, ?_⟩
  · rcases List.mem_cons.mp z with rfl | z
    · exact ⟨_, .tup e rr, Nat.le_refl _⟩
    · refine ex1 (h1 b z) fun r' hx6 => ?_
      refine and2 hx6 fun x y => ?_
      clear hx6
      exact ⟨r', x, by rw [Rw.sz]; exact Nat.le_trans y (Nat.le_add_left _ _)⟩
  · have := ReprK.tuple (prog := prog) (w := w) (hG _ _ e) rfl rfl hna (by simpa using h2)
    rw [Rw.sz, Rw.text, Nat.add_comm]
    exact this
theorem RAll.reprK (hG : ∀ a o, G a = some o → h.get? a = some o) {vs : List Value} {rs : List Rw} (H : RAll G vs rs) : Rw.goods rs → RepAll prog w G h vs rs :=
  H.ind (P := fun vs rs => Rw.goods rs → RepAll prog w G h vs rs) (fun _ => ⟨[], (fun b z => nomatch z), .nil⟩) fun q _ r g => by rw [Rw.goods] at g; exact .cons (q.reprK hG g.1) (r g.2)
end

end
section
abbrev Str.cp (s : Str) : List Nat := s.cps.toList
theorem cp_append (a b : Str) : (a ++ b).cps.toList = a.cps.toList ++ b.cps.toList := by
  show (a.cps ++ b.cps).toList = _
  simp
theorem cp_inj {a b : Str} (h : a.cps.toList = b.cps.toList) : a = b := by
  cases a; cases b; simp only [Str.mk.injEq] at *; exact Array.ext' h
noncomputable def leafInts : List Int := (List.range 30).map fun (k : Nat) => Int.ofNat k - 9
noncomputable def leafStrs : List Str := [(Str.ofString "null"), (Str.ofString "truth"), (Str.ofString "int"), (Str.ofString "real"), (Str.ofString "name"), (Str.ofString "string"), (Str.ofString "ref"), (Str.ofString "array"), (Str.ofString "dict"), (Str.ofString "stream"), sA, sB, sC, (Str.ofString "Type"), Str.ofString ""]
noncomputable def leafBytes : List (Array UInt8) := [#[], #[0], #[1], #[2], #[0, 0], #[0, 1], #[0, 2], #[1, 0], #[1, 1], #[1, 2], #[2, 0], #[2, 1], #[2, 2]]
mutual
noncomputable def Rw.low : Rw → Prop
  | .int i => i ∈ leafInts
  | .str x => x ∈ leafStrs
  | .bytes b => b ∈ leafBytes
  | .tup l => Rw.lows l
noncomputable def Rw.lows : List Rw → Prop
  | [] => True
  | r :: rs => r.low ∧ Rw.lows rs
end
theorem lows_of : ∀ {l : List Rw}, (∀ r ∈ l, r.low) → Rw.lows l
  | [], _ => by simp [Rw.lows]
  | r :: l, h => by rw [Rw.lows]; exact ⟨h r List.mem_cons_self, lows_of fun r hr => h r (List.mem_cons_of_mem _ hr)⟩
noncomputable def intTx (i : Int) : List Nat := (Str.ofString (toString i)).cps.toList
noncomputable def strTx (x : Str) : List Nat := (reprText x).cps.toList
noncomputable def bytTx (b : Array UInt8) : List Nat := (Builtin.Bytes.literal b).cps.toList
noncomputable def leafLike (k : Nat) (l : List Nat) : Bool := (l.all fun c => c != 44 && c != 41 && c != 40) && decide (l.length ≤ 20) && match l with
  | [] => false
  | c :: _ => match k with
    | 0 => c == 45 || (decide (48 ≤ c) && decide (c ≤ 57))
    | 1 => c == 39
    | _ => c == 98
theorem ints_like : (leafInts.all fun i => leafLike 0 (intTx i)) = true := by decide +kernel
theorem strs_like : (leafStrs.all fun i => leafLike 1 (strTx i)) = true := by decide +kernel
theorem byts_like : (leafBytes.all fun i => leafLike 2 (bytTx i)) = true := by decide +kernel
theorem ints_apart : (leafInts.all fun i => leafInts.all fun j => i == j || intTx i != intTx j) = true := by decide +kernel
theorem strs_apart : (leafStrs.all fun i => leafStrs.all fun j => i == j || strTx i != strTx j) = true := by decide +kernel
theorem byts_apart : (leafBytes.all fun i => leafBytes.all fun j => i == j || bytTx i != bytTx j) = true := by decide +kernel
theorem apart_of {α : Type} [BEq α] [LawfulBEq α] {l : List α} {tx : α → List Nat} (h : (l.all fun i => l.all fun j => i == j || tx i != tx j) = true) {i j : α} (hi : i ∈ l) (hj : j ∈ l) (e : tx i = tx j) : i = j := by
  have := List.all_eq_true.mp (List.all_eq_true.mp h i hi) j hj
  rcases Bool.or_eq_true_iff.mp this with q | q
  · exact eq_of_beq q
  · rw [e] at q; simp at q
noncomputable def Ends : List Nat → Prop
  | [] => True
  | c :: _ => c = 44 ∨ c = 41
theorem ends_comma {l : List Nat} : Ends (44 :: l) := Or.inl rfl
theorem upto_delim : ∀ {a b u v : List Nat}, (∀ c ∈ a, c ≠ 44 ∧ c ≠ 41) → (∀ c ∈ b, c ≠ 44 ∧ c ≠ 41) → Ends u → Ends v → a ++ u = b ++ v → a = b ∧ u = v
  | [], [], _, _, _, _, _, _, e => ⟨rfl, e⟩
  | [], c :: b, u, v, _, hb, hu, _, e => by
    simp only [List.nil_append, List.cons_append] at e
    subst e
    exact (hu.elim (hb c List.mem_cons_self).1 (hb c List.mem_cons_self).2).elim
  | c :: a, [], u, v, ha, _, _, hv, e => by
    simp only [List.nil_append, List.cons_append] at e
    subst e
    exact (hv.elim (ha c List.mem_cons_self).1 (ha c List.mem_cons_self).2).elim
  | c :: a, d :: b, u, v, ha, hb, hu, hv, e => by
    simp only [List.cons_append, List.cons.injEq] at e
    refine and2 (upto_delim (fun z hz => ha z (List.mem_cons_of_mem _ hz)) (fun z hz => hb z (List.mem_cons_of_mem _ hz)) hu hv e.2) fun x y => ?_
    exact ⟨by rw [e.1, x], y⟩
theorem like_free {k : Nat} {l : List Nat} (h : leafLike k l = true) : ∀ c ∈ l, c ≠ 44 ∧ c ≠ 41 := fun c hc => by
  have h1 := (Bool.and_eq_true_iff.mp (Bool.and_eq_true_iff.mp h).1).1
  have h2 := List.all_eq_true.mp h1 c hc
  simp only [Bool.and_eq_true, bne_iff_ne, ne_eq] at h2
  exact h2.1
theorem like_len {k : Nat} {l : List Nat} (h : leafLike k l = true) : l.length ≤ 20 := of_decide_eq_true (Bool.and_eq_true_iff.mp (Bool.and_eq_true_iff.mp h).1).2
theorem like_head {k : Nat} {l : List Nat} (h : leafLike k l = true) : ∃ c r, l = c :: r ∧ c ≠ 40 ∧ c ≠ 41 ∧ (match k with | 0 => c ≠ 39 ∧ c ≠ 98 | 1 => c = 39 | _ => c = 98) := by
  have h1 := (Bool.and_eq_true_iff.mp h).2
  cases l with
  | nil => (first | with_reducible exact no_some h1 | with_reducible exact some_no h1 | with_reducible exact no_bool h1 | with_reducible exact no_bool' h1 | cases h1)
  | cons c r =>
    have h3 := (Bool.and_eq_true_iff.mp (Bool.and_eq_true_iff.mp h).1).1
    have h4 := List.all_eq_true.mp h3 c List.mem_cons_self
    simp only [Bool.and_eq_true, bne_iff_ne, ne_eq] at h4
    refine ⟨c, r, rfl, h4.2, h4.1.2, ?_⟩
    match k with
    | 0 =>
      simp only [Bool.or_eq_true, Bool.and_eq_true, beq_iff_eq, decide_eq_true_eq] at h1
      show c ≠ 39 ∧ c ≠ 98
      omega
    | 1 => exact eq_of_beq h1
    | k + 2 => exact eq_of_beq h1
noncomputable def tailTx : List Rw → List Nat
  | [] => [41]
  | y :: r => 44 :: 32 :: (y.text.cps.toList ++ tailTx r)
theorem tail_ends (l : List Rw) (u : List Nat) : Ends (tailTx l ++ u) := by
  cases l with
  | nil => exact Or.inr rfl
  | cons y r => exact Or.inl rfl
theorem lit_open : ((("(" : String) : Str)).cps.toList = [40] := by decide +kernel
theorem lit_close : (((")" : String) : Str)).cps.toList = [41] := by decide +kernel
theorem lit_close1 : (((",)" : String) : Str)).cps.toList = [44, 41] := by decide +kernel
theorem lit_comma : (((", " : String) : Str)).cps.toList = [44, 32] := by decide +kernel
theorem join_tail : ∀ (x : Rw) (l : List Rw), (Str.join ", " (Rw.texts (x :: l))).cps.toList ++ [41] = x.text.cps.toList ++ tailTx l
  | x, [] => by
    rw [Rw.texts, Rw.texts, Str.join, tailTx]
  | x, y :: l => by
    have ih := join_tail y l
    have e : Str.join ", " (Rw.texts (x :: y :: l)) = x.text ++ (((", " : String) : Str)) ++ Str.join ", " (Rw.texts (y :: l)) := by
      rw [Rw.texts, Rw.texts]; rfl
    rw [e, cp_append, cp_append, lit_comma, tailTx, List.append_assoc, List.append_assoc, ih]
    simp
theorem texts_length : ∀ l : List Rw, (Rw.texts l).length = l.length
  | [] => by rw [Rw.texts]; rfl
  | r :: l => by rw [Rw.texts, List.length_cons, List.length_cons, texts_length l]
theorem tup_text0 : (Rw.tup []).text.cps.toList = [40, 41] := by
  rw [Rw.text, Rw.texts]; decide +kernel
theorem tup_text1 (x : Rw) : (Rw.tup [x]).text.cps.toList = 40 :: (x.text.cps.toList ++ [44, 41]) := by
  rw [Rw.text, Rw.texts, Rw.texts, tupleText, cp_append, cp_append, lit_open, Str.join]
  show [40] ++ x.text.cps.toList ++ (((",)" : String) : Str)).cps.toList = _
  rw [lit_close1]; simp
theorem tup_text2 (x y : Rw) (l : List Rw) : (Rw.tup (x :: y :: l)).text.cps.toList = 40 :: (x.text.cps.toList ++ tailTx (y :: l)) := by
  rw [Rw.text, tupleText, cp_append, cp_append, lit_open]
  have e : ((Rw.texts (x :: y :: l)).length == 1) = false := by rw [texts_length]; simp
  rw [e]
  show [40] ++ (Str.join ", " (Rw.texts (x :: y :: l))).cps.toList ++ (((")" : String) : Str)).cps.toList = _
  rw [lit_close, List.append_assoc, join_tail]; rfl
theorem int_text {i : Int} : (Rw.int i).text.cps.toList = intTx i := by rw [Rw.text]; rfl
theorem str_text {x : Str} : (Rw.str x).text.cps.toList = strTx x := by rw [Rw.text]; rfl
theorem bytes_text {b : Array UInt8} : (Rw.bytes b).text.cps.toList = bytTx b := by rw [Rw.text]; rfl
theorem tup_head (l : List Rw) : ∃ r, (Rw.tup l).text.cps.toList = 40 :: r := by
  match l with
  | [] => exact ⟨_, tup_text0⟩
  | [x] => exact ⟨_, tup_text1 x⟩
  | x :: y :: l => exact ⟨_, tup_text2 x y l⟩
theorem text_head (r : Rw) (h : r.low) : ∃ c t, r.text.cps.toList = c :: t ∧ c ≠ 41 := by
  cases r with
  | int i =>
    rw [Rw.low] at h
    refine ex2 (like_head (List.all_eq_true.mp ints_like i h)) fun c t hx2 => ?_
    refine and4 hx2 fun e _ q _ => ?_
    clear hx2
    exact ⟨c, t, by rw [int_text, e], q⟩
  | str x =>
    rw [Rw.low] at h
    refine ex2 (like_head (List.all_eq_true.mp strs_like x h)) fun c t hx3 => ?_
    refine and4 hx3 fun e _ q _ => ?_
    clear hx3
    exact ⟨c, t, by rw [str_text, e], q⟩
  | bytes b =>
    rw [Rw.low] at h
    refine ex2 (like_head (List.all_eq_true.mp byts_like b h)) fun c t hx4 => ?_
    refine and4 hx4 fun e _ q _ => ?_
    clear hx4
    exact ⟨c, t, by rw [bytes_text, e], q⟩
  | tup l => obtain ⟨t, e⟩ := tup_head l; exact ⟨40, t, e, by decide⟩
theorem leaf_tup {k : Nat} {a : List Nat} {l : List Rw} {u v : List Nat} (h : leafLike k a = true) (e : a ++ u = (Rw.tup l).text.cps.toList ++ v) : False := by
  refine ex2 (like_head h) fun c t hx5 => ?_
  refine and3 hx5 fun e1 q _ => ?_
  clear hx5
  refine ex1 (tup_head l) fun t' e2 => ?_
  rw [e1, e2] at e
  simp only [List.cons_append, List.cons.injEq] at e
  exact q e.1
theorem leaf_leaf {a b : List Nat} {u v : List Nat} {k j : Nat} (h : leafLike k a = true) (h' : leafLike j b = true) (hu : Ends u) (hv : Ends v) (e : a ++ u = b ++ v) : a = b ∧ u = v := upto_delim (like_free h) (like_free h') hu hv e
theorem kinds_apart {a : List Nat} {k j : Nat} (h : leafLike k a = true) (h' : leafLike j a = true) (hkj : (k = 0 ∧ j = 1) ∨ (k = 0 ∧ j = 2) ∨ (k = 1 ∧ j = 2)) : False := by
  refine ex2 (like_head h) fun c t hx7 => ?_
  refine and4 hx7 fun e _ _ q => ?_
  clear hx7
  refine ex2 (like_head h') fun c' t' hx8 => ?_
  refine and4 hx8 fun e' _ _ q' => ?_
  clear hx8
  rw [e] at e'
  (first | with_reducible exact no_some e' | with_reducible exact some_no e' | with_reducible exact no_bool e' | with_reducible exact no_bool' e' | cases e')
  rcases hkj with ⟨rfl, rfl⟩ | ⟨rfl, rfl⟩ | ⟨rfl, rfl⟩
  · exact q.1 q'
  · exact q.2 q'
  · have q : c = 39 := q
    have q' : c = 98 := q'
    omega
mutual
theorem text_inj : ∀ (r r' : Rw) (u v : List Nat), r.low → r'.low → Ends u → Ends v → r.text.cps.toList ++ u = r'.text.cps.toList ++ v → r = r' ∧ u = v
  | .int i, r', u, v, h, h', hu, hv, e => by
    rw [Rw.low] at h
    rw [int_text] at e
    have L := List.all_eq_true.mp ints_like i h
    cases r' with
    | int j =>
      rw [Rw.low] at h'
      rw [int_text] at e
      refine and2 (leaf_leaf L (List.all_eq_true.mp ints_like j h') hu hv e) fun x y => ?_
      exact ⟨by rw [apart_of ints_apart h h' x], y⟩
    | str j =>
      rw [Rw.low] at h'
      rw [str_text] at e
      have L' := List.all_eq_true.mp strs_like j h'
      refine and2 (leaf_leaf L L' hu hv e) fun x y => ?_
      rw [x] at L
      exact (kinds_apart L L' (.inl ⟨rfl, rfl⟩)).elim
    | bytes j =>
      rw [Rw.low] at h'
      rw [bytes_text] at e
      have L' := List.all_eq_true.mp byts_like j h'
      refine and2 (leaf_leaf L L' hu hv e) fun x y => ?_
      rw [x] at L
      exact (kinds_apart L L' (.inr (.inl ⟨rfl, rfl⟩))).elim
    | tup l => exact (leaf_tup L e).elim
  | .str i, r', u, v, h, h', hu, hv, e => by
    rw [Rw.low] at h
    rw [str_text] at e
    have L := List.all_eq_true.mp strs_like i h
    cases r' with
    | int j =>
      rw [Rw.low] at h'
      rw [int_text] at e
      have L' := List.all_eq_true.mp ints_like j h'
      refine and2 (leaf_leaf L L' hu hv e) fun x y => ?_
      rw [x] at L
      exact (kinds_apart L' L (.inl ⟨rfl, rfl⟩)).elim
    | str j =>
      rw [Rw.low] at h'
      rw [str_text] at e
      refine and2 (leaf_leaf L (List.all_eq_true.mp strs_like j h') hu hv e) fun x y => ?_
      exact ⟨by rw [apart_of strs_apart h h' x], y⟩
    | bytes j =>
      rw [Rw.low] at h'
      rw [bytes_text] at e
      have L' := List.all_eq_true.mp byts_like j h'
      refine and2 (leaf_leaf L L' hu hv e) fun x y => ?_
      rw [x] at L
      exact (kinds_apart L L' (.inr (.inr ⟨rfl, rfl⟩))).elim
    | tup l => exact (leaf_tup L e).elim
  | .bytes i, r', u, v, h, h', hu, hv, e => by
    rw [Rw.low] at h
    rw [bytes_text] at e
    have L := List.all_eq_true.mp byts_like i h
    cases r' with
    | int j =>
      rw [Rw.low] at h'
      rw [int_text] at e
      have L' := List.all_eq_true.mp ints_like j h'
      refine and2 (leaf_leaf L L' hu hv e) fun x y => ?_
      rw [x] at L
      exact (kinds_apart L' L (.inr (.inl ⟨rfl, rfl⟩))).elim
    | str j =>
      rw [Rw.low] at h'
      rw [str_text] at e
      have L' := List.all_eq_true.mp strs_like j h'
      refine and2 (leaf_leaf L L' hu hv e) fun x y => ?_
      rw [x] at L
      exact (kinds_apart L' L (.inr (.inr ⟨rfl, rfl⟩))).elim
    | bytes j =>
      rw [Rw.low] at h'
      rw [bytes_text] at e
      refine and2 (leaf_leaf L (List.all_eq_true.mp byts_like j h') hu hv e) fun x y => ?_
      exact ⟨by rw [apart_of byts_apart h h' x], y⟩
    | tup l => exact (leaf_tup L e).elim
  | .tup l, r', u, v, h, h', hu, hv, e => by
    rw [Rw.low] at h
    cases r' with
    | int j =>
      rw [Rw.low] at h'
      rw [int_text] at e
      exact (leaf_tup (List.all_eq_true.mp ints_like j h') e.symm).elim
    | str j =>
      rw [Rw.low] at h'
      rw [str_text] at e
      exact (leaf_tup (List.all_eq_true.mp strs_like j h') e.symm).elim
    | bytes j =>
      rw [Rw.low] at h'
      rw [bytes_text] at e
      exact (leaf_tup (List.all_eq_true.mp byts_like j h') e.symm).elim
    | tup l' =>
      rw [Rw.low] at h'
      refine and2 (tup_inj l l' u v h h' hu hv e) fun x y => ?_
      exact ⟨by rw [x], y⟩
theorem tup_inj : ∀ (l l' : List Rw) (u v : List Nat), Rw.lows l → Rw.lows l' → Ends u → Ends v → (Rw.tup l).text.cps.toList ++ u = (Rw.tup l').text.cps.toList ++ v → l = l' ∧ u = v
  | [], l', u, v, h, h', hu, hv, e => by
    rw [tup_text0] at e
    match l', h', e with
    | [], h', e => rw [tup_text0] at e; exact ⟨rfl, by simpa using e⟩
    | [x], h', e =>
      rw [tup_text1] at e
      rw [Rw.lows] at h'
      refine ex2 (text_head x h'.1) fun c t hx19 => ?_
      refine and2 hx19 fun e1 q => ?_
      clear hx19
      rw [e1] at e
      simp only [List.cons_append, List.cons.injEq, true_and, List.nil_append] at e
      exact (q e.1.symm).elim
    | x :: y :: r, h', e =>
      rw [tup_text2] at e
      rw [Rw.lows] at h'
      refine ex2 (text_head x h'.1) fun c t hx20 => ?_
      refine and2 hx20 fun e1 q => ?_
      clear hx20
      rw [e1] at e
      simp only [List.cons_append, List.cons.injEq, true_and, List.nil_append] at e
      exact (q e.1.symm).elim
  | [x], l', u, v, h, h', hu, hv, e => by
    rw [tup_text1] at e
    rw [Rw.lows] at h
    match l', h', e with
    | [], h', e =>
      rw [tup_text0] at e
      refine ex2 (text_head x h.1) fun c t hx21 => ?_
      refine and2 hx21 fun e1 q => ?_
      clear hx21
      rw [e1] at e
      simp only [List.cons_append, List.cons.injEq, true_and, List.nil_append] at e
      exact (q e.1).elim
    | [x'], h', e =>
      rw [tup_text1] at e
      rw [Rw.lows] at h'
      simp only [List.cons_append, List.cons.injEq, true_and, List.append_assoc] at e
      refine and2 (text_inj x x' _ _ h.1 h'.1 ends_comma ends_comma e) fun a b => ?_
      exact ⟨by rw [a], by simpa using b⟩
    | x' :: y :: r, h', e =>
      rw [tup_text2] at e
      rw [Rw.lows] at h'
      simp only [List.cons_append, List.cons.injEq, true_and, List.append_assoc] at e
      refine and2 (text_inj x x' _ _ h.1 h'.1 ends_comma (tail_ends _ _) e) fun a b => ?_
      simp [tailTx] at b
  | x :: z :: l, l', u, v, h, h', hu, hv, e => by
    rw [tup_text2] at e
    rw [Rw.lows] at h
    match l', h', e with
    | [], h', e =>
      rw [tup_text0] at e
      refine ex2 (text_head x h.1) fun c t hx24 => ?_
      refine and2 hx24 fun e1 q => ?_
      clear hx24
      rw [e1] at e
      simp only [List.cons_append, List.cons.injEq, true_and, List.nil_append] at e
      exact (q e.1).elim
    | [x'], h', e =>
      rw [tup_text1] at e
      rw [Rw.lows] at h'
      simp only [List.cons_append, List.cons.injEq, true_and, List.append_assoc] at e
      refine and2 (text_inj x x' _ _ h.1 h'.1 (tail_ends _ _) ends_comma e) fun a b => ?_
      simp [tailTx] at b
    | x' :: y :: r, h', e =>
      rw [tup_text2] at e
      rw [Rw.lows] at h'
      simp only [List.cons_append, List.cons.injEq, true_and, List.append_assoc] at e
      refine and2 (text_inj x x' _ _ h.1 h'.1 (tail_ends _ _) (tail_ends _ _) e) fun a b => ?_
      refine and2 (tail_inj (z :: l) (y :: r) u v h.2 h'.2 b) fun c d => ?_
      exact ⟨by rw [a, c], d⟩
theorem tail_inj : ∀ (l l' : List Rw) (u v : List Nat), Rw.lows l → Rw.lows l' → tailTx l ++ u = tailTx l' ++ v → l = l' ∧ u = v
  | [], [], u, v, _, _, e => ⟨rfl, by simpa [tailTx] using e⟩
  | [], y :: r, u, v, _, _, e => by simp [tailTx] at e
  | y :: r, [], u, v, _, _, e => by simp [tailTx] at e
  | x :: l, y :: r, u, v, h, h', e => by
    rw [Rw.lows] at h h'
    rw [tailTx, tailTx] at e
    simp only [List.cons_append, List.cons.injEq, true_and, List.append_assoc] at e
    refine and2 (text_inj x y _ _ h.1 h'.1 (tail_ends _ _) (tail_ends _ _) e) fun a b => ?_
    refine and2 (tail_inj l r u v h.2 h'.2 b) fun c d => ?_
    exact ⟨by rw [a, c], d⟩
end
theorem text_eq {r r' : Rw} (h : r.low) (h' : r'.low) : (r.text = r'.text) ↔ r = r' := by
  refine ⟨fun e => ?_, fun e => by rw [e]⟩
  exact (text_inj r r' [] [] h h' trivial trivial (by rw [e])).1

end
section
theorem mem_ints {i : Int} (h : -9 ≤ i) (h' : i ≤ 20) : i ∈ leafInts := by
  unfold leafInts
  rw [List.mem_map]
  exact ⟨(i + 9).toNat, List.mem_range.mpr (by first | decide | omega), by show ((i + 9).toNat : Int) - 9 = i; omega⟩
theorem names_low : (names4.all fun x => leafStrs.contains x) = true := by decide +kernel
theorem abc_low : (abc.all fun x => leafStrs.contains x) = true := by decide +kernel
theorem words_low {d : Ob} : d.word ∈ leafStrs := List.contains_iff_mem.mp (by cases d <;> kernel_rfl)
theorem u8_low {x : UInt8} (h : x.toNat < 3) : x = 0 ∨ x = 1 ∨ x = 2 := by
  have h3 : x.toNat = 0 ∨ x.toNat = 1 ∨ x.toNat = 2 := by omega
  rcases h3 with h | h | h
  · exact .inl (UInt8.toNat_inj.mp h)
  · exact .inr (.inl (UInt8.toNat_inj.mp h))
  · exact .inr (.inr (UInt8.toNat_inj.mp h))
theorem bytes_low {b : Array UInt8} (h : okBytes b = true) : b ∈ leafBytes := by
  refine and2 (Bool.and_eq_true_iff.mp h) fun h1 h2 => ?_
  have h1 := of_decide_eq_true h1
  cases b with
  | mk l =>
    have h1 : l.length ≤ 2 := by simpa using h1
    have h2 : ∀ x ∈ l, x = 0 ∨ x = 1 ∨ x = 2 := fun x hx => u8_low (of_decide_eq_true (List.all_eq_true.mp h2 x hx))
    refine List.contains_iff_mem.mp ?_
    match l, h1, h2 with
    | [], _, _ => kernel_rfl
    | [x], _, h2 =>
      rcases h2 x List.mem_cons_self with rfl | rfl | rfl <;> kernel_rfl
    | [x, y], _, h2 =>
      rcases h2 x List.mem_cons_self with rfl | rfl | rfl <;> rcases h2 y (List.mem_cons_of_mem _ List.mem_cons_self) with rfl | rfl | rfl <;> kernel_rfl
    | x :: y :: z :: l, h1, _ => exact absurd h1 (by rw [List.length_cons, List.length_cons, List.length_cons]; omega)
theorem tags_low (x : String) (h : leafStrs.contains (Str.ofString x) = true := by decide +kernel) : (rs x).low := by
  rw [Rw.low]; exact List.contains_iff_mem.mp h
theorem ints_low {i : Int} (h : -9 ≤ i) (h' : i ≤ 20) : (Rw.int i).low := by rw [Rw.low]; exact mem_ints h h'
theorem str_low {x : Str} (h : x ∈ leafStrs) : (Rw.str x).low := by rw [Rw.low]; exact h
theorem byt_low {b : Array UInt8} (h : okBytes b = true) : (Rw.bytes b).low := by rw [Rw.low]; exact bytes_low h
theorem tup_low {l : List Rw} (h : ∀ r ∈ l, r.low) : (Rw.tup l).low := by rw [Rw.low]; exact lows_of h
theorem text_len (r : Rw) : r.text.length = r.text.cps.toList.length := rfl
noncomputable def lens : List Rw → Nat
  | [] => 0
  | r :: l => r.text.length + 2 + lens l
theorem tail_len : ∀ l : List Rw, (tailTx l).length = lens l + 1
  | [] => rfl
  | y :: l => by rw [tailTx, List.length_cons, List.length_cons, List.length_append, tail_len l, lens, text_len]; omega
theorem tup_len : ∀ l : List Rw, (Rw.tup l).text.length ≤ lens l + 2
  | [] => by rw [text_len, tup_text0]; exact Nat.le_refl _
  | [x] => by rw [text_len, tup_text1, List.length_cons, List.length_append, lens, lens, text_len]; simp
  | x :: y :: l => by rw [text_len, tup_text2, List.length_cons, List.length_append, tail_len]; simp only [lens, text_len]; omega
theorem int_len {i : Int} (h : (Rw.int i).low) : (Rw.int i).text.length ≤ 20 := by
  rw [Rw.low] at h
  rw [text_len, int_text]; exact like_len (List.all_eq_true.mp ints_like i h)
theorem str_len {i : Str} (h : (Rw.str i).low) : (Rw.str i).text.length ≤ 20 := by
  rw [Rw.low] at h
  rw [text_len, str_text]; exact like_len (List.all_eq_true.mp strs_like i h)
theorem byt_len {i : Array UInt8} (h : (Rw.bytes i).low) : (Rw.bytes i).text.length ≤ 20 := by
  rw [Rw.low] at h
  rw [text_len, bytes_text]; exact like_len (List.all_eq_true.mp byts_like i h)
theorem lens_le {B : Nat} : ∀ {l : List Rw}, (∀ r ∈ l, r.text.length ≤ B) → lens l ≤ l.length * (B + 2)
  | [], _ => Nat.zero_le _
  | r :: l, h => by
    have h1 := h r List.mem_cons_self
    have h2 := lens_le fun r hr => h r (List.mem_cons_of_mem _ hr)
    rw [lens, List.length_cons, Nat.add_mul]; omega
noncomputable def rowLen : Nat → Nat
  | 0 => 70
  | n + 1 => 160 + 3 * rowLen n
theorem rowLen_ge (n : Nat) : 70 ≤ rowLen n := by cases n <;> simp [rowLen]; omega
structure Nice (B : Nat) (r : Rw) : Prop where
  low : r.low
  len : r.text.length ≤ B
  sz : r.sz ≤ B
theorem szs_le {B : Nat} : ∀ {l : List Rw}, (∀ r ∈ l, r.sz ≤ B) → Rw.szs l ≤ B
  | [], _ => by rw [Rw.szs]; exact Nat.zero_le _
  | r :: l, h => by
    rw [Rw.szs]
    exact Nat.max_le.mpr ⟨h r List.mem_cons_self, szs_le fun r hr => h r (List.mem_cons_of_mem _ hr)⟩
theorem Nice.le {A B : Nat} {r : Rw} (h : Nice A r) (hab : A ≤ B) : Nice B r := ⟨h.low, Nat.le_trans h.len hab, Nat.le_trans h.sz hab⟩
theorem nice_tup {l : List Rw} {A B : Nat} (h : ∀ r ∈ l, Nice A r) (hl : lens l + 2 ≤ B) (hA : A + 1 ≤ B) : Nice B (.tup l) :=
  ⟨tup_low fun r hr => (h r hr).low, Nat.le_trans (tup_len _) hl, by rw [Rw.sz]; have := szs_le fun r hr => (h r hr).sz; omega⟩
theorem nice_int {i : Int} (h : -9 ≤ i) (h' : i ≤ 20) : Nice 20 (.int i) := ⟨ints_low h h', int_len (ints_low h h'), by rw [Rw.sz]; decide⟩
theorem nice_str {x : Str} (h : x ∈ leafStrs) : Nice 20 (.str x) := ⟨str_low h, str_len (str_low h), by rw [Rw.sz]; decide⟩
theorem nice_tag (x : String) (h : leafStrs.contains (Str.ofString x) = true := by decide +kernel) : Nice 20 (rs x) := nice_str (List.contains_iff_mem.mp h)
theorem nice_byt {b : Array UInt8} (h : okBytes b = true) : Nice 20 (.bytes b) := ⟨byt_low h, byt_len (byt_low h), by rw [Rw.sz]; decide⟩
theorem nice1 {a : Rw} {A B : Nat} (ha : Nice A a) (h : A + 4 ≤ B) : Nice B (.tup [a]) :=
  nice_tup (A := A) (fun r hr => by rw [List.mem_singleton] at hr; rw [hr]; exact ha) (by have := ha.len; simp only [lens]; omega) (by first | decide | omega)
theorem nice2 {a b : Rw} {A B C : Nat} (ha : Nice A a) (hb : Nice B b) (h : A + B + 6 ≤ C) : Nice C (.tup [a, b]) :=
  nice_tup (A := A + B) (fun r hr => by
    rcases List.mem_cons.mp hr with rfl | hr
    · exact ha.le (by first | decide | omega)
    · rw [List.mem_singleton] at hr; rw [hr]; exact hb.le (by first | decide | omega)) (by have := ha.len; have := hb.len; simp only [lens]; omega) (by first | decide | omega)
theorem nice3 {a b c : Rw} {A B C D : Nat} (ha : Nice A a) (hb : Nice B b) (hc : Nice C c) (h : A + B + C + 8 ≤ D) : Nice D (.tup [a, b, c]) :=
  nice_tup (A := A + B + C) (fun r hr => by
    rcases List.mem_cons.mp hr with rfl | hr
    · exact ha.le (by first | decide | omega)
    · rcases List.mem_cons.mp hr with rfl | hr
      · exact hb.le (by first | decide | omega)
      · rw [List.mem_singleton] at hr; rw [hr]; exact hc.le (by first | decide | omega)) (by have := ha.len; have := hb.len; have := hc.len; simp only [lens]; omega) (by first | decide | omega)
theorem okInt_le {lo hi i : Int} (h : okInt lo hi i = true) : lo ≤ i ∧ i ≤ hi := by
  refine and2 (Bool.and_eq_true_iff.mp h) fun a b => ?_
  exact ⟨of_decide_eq_true a, of_decide_eq_true b⟩
theorem ent_length {T : Option Tab} {n : Nat} {ds : List (Str × Ob)} {ks : List Str} : (entRows T n ds ks).length ≤ ks.length := List.length_filterMap_le _ _
theorem nice_row : ∀ (n : Nat) (d : Ob), d.ok n = true → Nice (rowLen n) (d.row none n) := by
  intro n
  induction n with
  | zero =>
    intro d h
    cases d with
    | null => rw [row_null]; exact nice1 (nice_tag "null") (by decide)
    | truth b => rw [row_truth]; exact nice2 (nice_tag "truth") (nice_int (by split <;> omega) (by split <;> omega)) (by decide)
    | int i => rw [row_int]; have := okInt_le (show okInt (-1) 1 i = true from h); exact nice2 (nice_tag "int") (nice_int (by first | decide | omega) (by first | decide | omega)) (by decide)
    | real t p =>
      rw [row_real]
      refine and2 (Bool.and_eq_true_iff.mp (show (okInt (-9) 20 t && okInt 0 2 p) = true from h)) fun a b => ?_
      have := okInt_le a
      have := okInt_le b
      exact nice3 (nice_tag "real") (nice_int (by first | decide | omega) (by first | decide | omega)) (nice_int (by first | decide | omega) (by first | decide | omega)) (by decide)
    | name x => rw [row_name]; exact nice2 (nice_tag "name") (nice_str (List.contains_iff_mem.mp (List.all_eq_true.mp names_low x (List.contains_iff_mem.mp (show names4.contains x = true from h))))) (by decide)
    | string o b => rw [row_string]; exact nice2 (nice_tag "string") (nice_byt (show okBytes o = true from h)) (by decide)
    | ref a b =>
      rw [row_ref]
      refine and2 (Bool.and_eq_true_iff.mp (show (okInt 1 9 a && okInt 0 1 b) = true from h)) fun x y => ?_
      have := okInt_le x
      have := okInt_le y
      exact nice3 (nice_tag "ref") (nice_int (by first | decide | omega) (by first | decide | omega)) (nice_int (by first | decide | omega) (by first | decide | omega)) (by decide)
    | array ds => (first | with_reducible exact no_some h | with_reducible exact some_no h | with_reducible exact no_bool h | with_reducible exact no_bool' h | cases h)
    | dict ds => (first | with_reducible exact no_some h | with_reducible exact some_no h | with_reducible exact no_bool h | with_reducible exact no_bool' h | cases h)
    | stream ds o => (first | with_reducible exact no_some h | with_reducible exact some_no h | with_reducible exact no_bool h | with_reducible exact no_bool' h | cases h)
  | succ n ih =>
    intro d h
    have leaf : ∀ {d : Ob}, d.isPlain = true → d.ok (n + 1) = true → Nice (rowLen (n + 1)) (d.row none (n + 1)) := by
      intro d hp h
      have hz : d.ok n = true := by cases d <;> first | (cases n <;> exact h) | (first | with_reducible exact no_some hp | with_reducible exact some_no hp | with_reducible exact no_bool hp | with_reducible exact no_bool' hp | cases hp)
      have e : d.row none (n + 1) = d.row none n := by cases d <;> first | (cases n <;> rfl) | (first | with_reducible exact no_some hp | with_reducible exact some_no hp | with_reducible exact no_bool hp | with_reducible exact no_bool' hp | cases hp)
      rw [e]
      exact (ih d hz).le (by rw [rowLen]; omega)
    have dict : ∀ {ds : List (Str × Ob)}, (Ob.dict ds).ok (n + 1) = true → Nice (110 + 3 * rowLen n) ((Ob.dict ds).row none (n + 1)) := by
      intro ds h
      rw [row_dict]
      have hx : ∀ r ∈ entRows none n ds abc, Nice (rowLen n + 26) r := fun r hr => by
        refine ex2 (mem_entRows hr) fun k d hx5 => ?_
        refine and2 hx5 fun hd er5_3 => ?_
        clear hx5
        subst er5_3
        refine and2 ((ok_dict h).2.2 _ _ hd) fun hk hd => ?_
        exact nice2 (nice_str (List.contains_iff_mem.mp (List.all_eq_true.mp abc_low k hk))) (ih d hd) (by first | decide | omega)
      refine nice_tup (A := rowLen n + 26) (fun r hr => ?_) ?_ (by first | decide | omega)
      · rcases List.mem_cons.mp hr with rfl | hr
        · exact (nice_tag "dict").le (by first | decide | omega)
        · exact hx r hr
      · rw [lens]
        have h1 := lens_le (B := rowLen n + 26) fun r hr => (hx r hr).len
        have h2 : (entRows none n ds abc).length ≤ 3 := ent_length
        have h3 : (entRows none n ds abc).length * (rowLen n + 26 + 2) ≤ 3 * (rowLen n + 26 + 2) := Nat.mul_le_mul_right _ h2
        have := (nice_tag "dict").len
        omega
    cases d with
    | array ds =>
      rw [row_array]
      have hx : ∀ r ∈ (ds.map fun d => Ob.row none n d), Nice (rowLen n) r := fun r hr => by
        refine ex1 (List.mem_map.mp hr) fun d hx7 => ?_
        refine and2 hx7 fun hd er7_2 => ?_
        clear hx7
        subst er7_2
        exact ih d ((ok_array h).2 d hd)
      have hge := rowLen_ge n
      refine nice_tup (A := rowLen n) (fun r hr => ?_) ?_ (by rw [rowLen]; omega)
      · rcases List.mem_cons.mp hr with rfl | hr
        · exact (nice_tag "array").le (by first | decide | omega)
        · exact hx r hr
      · rw [lens]
        have h1 := lens_le (B := rowLen n) fun r hr => (hx r hr).len
        have h2 : (ds.map fun d => Ob.row none n d).length ≤ 3 := by rw [List.length_map]; exact (ok_array h).1
        have h3 : (ds.map fun d => Ob.row none n d).length * (rowLen n + 2) ≤ 3 * (rowLen n + 2) := Nat.mul_le_mul_right _ h2
        have := (nice_tag "array").len
        rw [rowLen]
        omega
    | dict ds =>
      exact (dict h).le (by rw [rowLen]; omega)
    | stream ds o =>
      rw [row_stream]
      refine and2 (ok_stream h) fun h1 h2 => ?_
      exact nice3 (nice_tag "stream") (dict h1) (nice_byt h2) (by rw [rowLen]; omega)
    | _ => exact leaf rfl h
theorem ints_good : (leafInts.all fun i => decide (i.natAbs.log2 < 1920)) = true := by decide +kernel
theorem byts_good : (leafBytes.all fun i => decide (i.size ≤ 1000)) = true := by decide +kernel
mutual
theorem good_of_low : ∀ (r : Rw), r.low → r.good
  | .int i, h => by
    rw [Rw.low] at h
    rw [Rw.good]; exact of_decide_eq_true (List.all_eq_true.mp ints_good i h)
  | .str x, h => by
    have z := str_len h
    rw [Rw.text] at z
    rw [Rw.good, sizeLine_eq]; omega
  | .bytes b, h => by
    have z := byt_len h
    rw [Rw.text] at z
    rw [Rw.low] at h
    rw [Rw.good, sizeLine_eq]
    exact ⟨of_decide_eq_true (List.all_eq_true.mp byts_good b h), by omega⟩
  | .tup l, h => by
    rw [Rw.low] at h
    rw [Rw.good]; exact goods_of_low l h
theorem goods_of_low : ∀ (l : List Rw), Rw.lows l → Rw.goods l
  | [], _ => by rw [Rw.goods]; trivial
  | r :: l, h => by
    rw [Rw.lows] at h
    rw [Rw.goods]; exact ⟨good_of_low r h.1, goods_of_low l h.2⟩
end

end
section
theorem clear_nil (b : Addr) : Clear [] b := fun _ _ _ _ h => by (first | with_reducible exact no_some h | with_reducible exact some_no h | with_reducible exact no_bool h | with_reducible exact no_bool' h | cases h)
section
variable {prog : Program} {w : World} {A : Around} {E : Value → Shared → Prop} {c : Fx} {h : Heap} {t : Nat} {m : Str → Option Value} {B G₀ G : PMap} {L : Addr} {Q : Value → Shared → Prop} {v : Value} {r : Rw} {Bd : Nat}
theorem reprRow (S : St B G₀ L m G h) (hv : RIn G v r) (ht : ∃ xs, r = .tup xs) (hr : Nice Bd r) (hB : Bd ≤ 5000) (hg : A.guards = some []) (hu : A.units + 6000 < cLine)
    (q : ∀ u h' t', St B G₀ L m G h' → Q (.str r.text u) (c.at h' t')) : wpAny (model prog w) A (call (.builtin "repr") [v]) Q E (c.at h t) := by
  refine ex1 (ht) fun xs er1_1 => ?_
  try clear ht
  subst er1_1
  have g := good_of_low _ hr.low
  rw [Rw.good] at g
  cases hv with
  | tup e rr =>
    rename_i a vs n
    refine ex1 (RAll.reprK (prog := prog) (w := w) (h := h) (fun a o e => S.get e) rr g) fun as hx2 => ?_
    refine and2 hx2 fun h1 h2 => ?_
    clear hx2
    have hna : a ∉ as := fun z => by
      refine ex1 (h1 a z) fun r' hx3 => ?_
      refine and2 hx3 fun x y => ?_
      clear hx3
      have := RIn.fun x (.tup e rr)
      subst this
      rw [Rw.sz] at y
      omega
    have hsz := hr.sz
    rw [Rw.sz] at hsz
    have hln := hr.len
    rw [Rw.text] at hln q
    refine call_repr_slot (by first | decide | omega) (T := "tuple") ⟨_, S.get e, rfl⟩ F.slot_tuple_repr ?_
    refine call_tuple_reprK (S.get e) rfl rfl hna (by simpa using h2) (A := A.in1) (g := []) hg (fun b _ => clear_nil b) (by show A.units + 1 + _ < cLine; omega) (fun _ _ e => e) (fun h' u tk hk => ?_) (by rw [sizeLine_eq]; omega)
    exact ⟨_, _, rfl, q _ _ _ (S.kept hk)⟩
end

end
section
abbrev bmE : List Value := [.type "Exception", .type "BaseException", .type "object"]
abbrev excObj (dx : Addr) (vs : List Value) : Obj := { cls := .ref 46, dict := some dx, data := .fields vs.toArray }
abbrev excBare (vs : List Value) : Obj := { cls := .ref 46, data := .fields vs.toArray }
abbrev fldsOf (t : Value) : List Value := [t, .none, .none, .none, .bool false, .none]
structure Cls46 (h : Heap) : Prop where
  ex : ∃ nm q bs sn sub ab col dd k0 k1 k2 k3 k5 mN, h.get? 46 = some (excClassObj nm q 46 45 bs bmE true sn sub ab col dd k0 k1 k2 k3 k5 "Exception.__new__") ∧ h.Ns 45 mN ∧ mN "__init__" = some (.ref 36)
theorem cls46 {w : World} {h : Heap} (X : (KK w).In h) : Cls46 h := by
  refine ⟨_, _, _, _, _, _, _, _, _, _, _, _, _, _, X 46 _ (by exact rfl), ⟨_, _, _, X 45 _ (by exact rfl), rfl, ?_, fun _ => rfl⟩, by kernel_rfl⟩
  intro e he
  simp only [List.mem_toArray, List.mem_cons, List.not_mem_nil, or_false] at he
  rcases he with rfl | rfl | rfl | rfl | rfl | rfl | rfl <;> exact ⟨_, _, rfl⟩
section
variable {prog : Program} {w : World} {A : Around} {E : Value → Shared → Prop} {c : Fx} {h : Heap} {t : Nat} {mg mb m : Str → Option Value} {B G₀ G : PMap} {L e dx : Addr} {env : Env}
theorem new_exc {v : Value} {Q : Value → Shared → Prop} (S : St B G₀ L m G h) (Z : Bs (KK w) VV LL mg mb B)
    (q : ∀ e t0 h', St B G₀ L m (put (put G t0 (tupOf [v] 0)) e (excBare (fldsOf (.ref t0)))) h' → (∀ b o, h.get? b = some o → h'.get? b = some o) → h.get? e = none → G t0 = none → put G t0 (tupOf [v] 0) e = none → B e = none →
      wpAny (model prog w) (A.under (.builtin "type.__call__" ⟨.ref 46 :: [v], []⟩)) (call (.ref 36) [.ref e, v]) (fun r s' => r = .none ∧ Q (.ref e) s') E (c.at h' t)) :
    wpAny (model prog w) A (call (.ref 46) [v]) Q E (c.at h t) := by
  have X := Z.k S.keep
  obtain ⟨nm, qn, bs, sn, sub, ab, col, dd, k0, k1, k2, k3, k5, mN, hC, hn, hi⟩ := (cls46 X).ex
  refine wpAny_call_exc_init (hrest := by show 1 ≤ sizeLine; rw [sizeLine_eq]; decide) PySem.F.excBase_Exception hC hn hi (X 36 _ (by exact rfl)) rfl fun h' e hm => ?_
  refine ex1 (hm.there) fun t0 hx2 => ?_
  refine and3 hx2 fun he ht0 ht => ?_
  clear hx2
  have S1 := S.kept hm.keeps
  have nG : ∀ a, h.get? a = none → G a = none := fun a z => by
    cases x : G a with
    | none => rfl
    | some o => rw [S.get x] at z; (first | with_reducible exact no_some z | with_reducible exact some_no z | with_reducible exact no_bool z | with_reducible exact no_bool' z | cases z)
  have nB : ∀ a, h.get? a = none → B a = none := fun a z => by
    cases x : B a with
    | none => rfl
    | some o => rw [S.keep a o x] at z; (first | with_reducible exact no_some z | with_reducible exact some_no z | with_reducible exact no_bool z | with_reducible exact no_bool' z | cases z)
  have nL : ∀ a, h.get? a = none → a ≠ L := fun a z y => by
    refine ex1 (S.has) fun o x => ?_
    rw [y, x] at z; (first | with_reducible exact no_some z | with_reducible exact some_no z | with_reducible exact no_bool z | with_reducible exact no_bool' z | cases z)
  have ne : e ≠ t0 := fun z => by
    rw [z, ht] at he
    exact absurd (show Value.type "tuple" = Value.ref 46 from congrArg Obj.cls (Option.some.inj he)) (by decide)
  have S2 := S1.more (nG t0 ht0) (nB t0 ht0) (nL t0 ht0) ht
  have ge : put G t0 (tupOf [v] 0) e = none := by rw [put_ne ne]; exact nG e hm.new
  have S3 := S2.more (o := excBare (fldsOf (.ref t0))) ge (nB e hm.new) (nL e hm.new) he
  exact q e t0 h' S3 hm.keeps hm.new (nG t0 ht0) ge (nB e hm.new)
theorem exc_init {v : Value} {t0 : Addr} {Q : Value → Shared → Prop} (S : St B G₀ L m G h) (Z : Bs (KK w) VV LL mg mb B) (he : G e = some (excBare (fldsOf (.ref t0)))) (hB : B e = none)
    (q : ∀ t1 h', St B G₀ L m (put (put G t1 (tupOf [v] 0)) e (excBare (fldsOf (.ref t1)))) h' → G t1 = none → Q .none (c.at h' t)) :
    wpAny (model prog w) A (call (.builtin "Exception.__init__") [.ref e, v]) Q E (c.at h t) := by
  have X := Z.k S.keep
  obtain ⟨nm, qn, bs, sn, sub, ab, col, dd, k0, k1, k2, k3, k5, mN, hC, hn, hi⟩ := (cls46 X).ex
  have F := PySem.F.excBase_Exception
  have hx := S.get he
  refine wpAny_call (codeAny_call_builtin F.init.plain F.initEntry (wpAny_check_init_sub F hC hx rfl ?_))
  wp_walk
  have S1 := S.push (fun _ _ e => e) (tupOf [v] 0)
  have he1 := put_old (o := tupOf [v] 0) S.size _ _ he
  exact q _ _ (S1.set hB he1 (Heap.SameBut.update ..) (Heap.get?_update_self _ (S1.get he1) rfl)) S.size
theorem refuse46 (self : Value) : refuseLoop self "__setattr__" (.ref 46 :: bmE) = pure () := by
  rw [refuseLoop_ref]; exact PySem.F.store_Exception.passes self
theorem mro46 {w : World} : (clsIn (KK w) 46).map (·.mro) = some (.ref 46 :: bmE) := by kernel_rfl
theorem osaE {ox : Obj} {od : Option Obj} {name : Str} {tk : Tok} {v : Value} {R : Result → Shared → Prop} {s : Shared} (X : (KK w).In s.heap) (I : W.InstAt s.heap e ox 46 od) (ht : takerIn (KK w) 46 name = some none)
    (q : ∀ b, wpAny (model prog w) A.in1 (Builtin.ObjectAttr.storeInOwnDict (.ref e) (.ref 46) (.str name tk) name v b)
      (fun fin s' => match fin with | .done f => R (.ok f) s' | .again c' => c'.quiet = true ∧ codeAny (model prog w) A c' R s') (fun e s' => R (.error e) s') s) :
    codeAny (model prog w) A (.call (.builtin "object.__setattr__") ⟨[.ref e, .str name tk, v], []⟩) R s := by
  have SF := PySem.F.store_object
  refine ex1 (Option.map_eq_some_iff.mp (mro46 (w := w))) fun cd hx5 => ?_
  refine and2 hx5 fun hc hm46 => ?_
  clear hx5
  have sub : Looks (model prog w) s.heap (isInstance (.ref e) (.type "object")) true := I.type.andThen (looks_mroIn X (by unfold mroIn; rw [hc, Option.bind_some, hm46]; rfl))
  refine codeAny_call_builtin SF.slot.plain SF.entry (@check_slot (model prog w) _ _ s "object.__setattr__" "object" "__setattr__" (.ref e) [.str name tk, v] [] _ SF.kind SF.split sub (SF.args (.ref e) (.str name tk) v) ?_)
  refine ex1 (Option.bind_eq_some_iff.mp ht) fun attr hx6 => ?_
  refine and2 hx6 fun ha hr => ?_
  clear hx6
  have hm : Looks (model prog w) s.heap (mroOf (.ref 46)) cd.mro := (looks_clsIn X hc).andThen .now
  have L3 : Looks (model prog w) s.heap (Builtin.ObjectAttr.storeTaker? attr) none := by
    cases attr with
    | none => exact .now
    | some a =>
      refine ex1 (Option.map_eq_some_iff.mp hr) fun b hx7 => ?_
      refine and2 hx7 fun hb hbr => ?_
      clear hx7
      refine (looks_takesIn X hb).andThen ?_
      cases b with
      | true => (first | with_reducible exact no_some hbr | with_reducible exact some_no hbr | with_reducible exact no_bool hbr | with_reducible exact no_bool' hbr | cases hbr)
      | false => exact .now
  rw [osa_eq, refuse_eq]
  refine wpAny_bind (wpAny_bind (I.type.here (wpAny_bind (hm.here ?_))))
  rw [hm46, refuse46]
  refine wpAny_pure (wpAny_bind (I.type.here (wpAny_bind ((looks_findIn X ha).here (wpAny_bind (L3.here ?_))))))
  exact q _
theorem hash46 {w : World} : ((clsIn (KK w) 46).any (·.hasDict)) = true := by kernel_rfl
theorem sa46 {w : World} : findIn (KK w) (.ref 46) "__setattr__" = some (some (.builtin "object.__setattr__")) := by kernel_rfl
theorem storeD {es : List DictEntry} {n : Nat} {name : Str} {v : Value} {tk : Tok} {QF : Fin → Shared → Prop} {EE : Value → Shared → Prop} (S : St B G₀ L m G h) (hD : G dx = some (dictOf es n)) (hn : B dx = none) (hl : (getL name es).isSome = true) (hz : es.length ≤ 900)
    (q : ∀ u h' t', St B G₀ L m (put G dx (dictOf (putL name (PyData.keyHash w.params name) (.str name u) v es) (putN name es n))) h' → QF (.done (.ret .none)) (c.at h' t')) :
    wpAny (model prog w) A (Builtin.ObjectAttr.storeInDict dx (.str name tk) name v) QF EE (c.at h t) := by
  have D := S.get hD
  have len : ∀ es : List DictEntry, (putL name (PyData.keyHash w.params name) (.str name t) v es).length ≤ es.length + 1 := by
    intro es
    induction es with
    | nil => exact Nat.le_refl _
    | cons e r ih =>
      unfold putL
      split
      · rw [List.length_cons, List.length_cons]; omega
      · rw [List.length_cons, List.length_cons]; omega
  have D' := Heap.get?_update_self (Obj.putName name (PyData.keyHash w.params name) (.str name t) v) D (by rw [putName_dict]; rfl)
  rw [putName_dict] at D'
  unfold Builtin.ObjectAttr.storeInDict Builtin.ObjectAttr.newKeyGuard
  refine wpAny_bind (wpAny_pure (wpAny_bind ?_))
  unfold nsSet
  refine wpAny_bind (wpAny_bind (wpAny_askSetting (wpAny_pure (wpAny_bind (wpAny_mkText (wpAny_bind (wpAny_loadPart D ?_)))))))
  dsimp only
  have r : (!es.toArray.any (·.key.isStr name) && es.toArray.any (·.refKey)) = false := by
    unfold getL at hl
    rw [List.any_toArray, List.any_toArray]
    split at hl
    · rename_i en he
      rw [List.any_eq_true.mpr ⟨en, List.mem_of_find?_eq_some he, List.find?_some he⟩]; rfl
    · split at hl
      · (first | with_reducible exact no_some hl | with_reducible exact some_no hl | with_reducible exact no_bool hl | with_reducible exact no_bool' hl | cases hl)
      · rename_i z; rw [Bool.not_eq_true] at z; rw [z, Bool.and_false]
  rw [aRefKeyMayBeTheName_at, r]
  refine wpAny_updatePart D ?_
  refine wpAny_bind (wpAny_lookBehind D' (pastItsLine_dict (by have := len es; rw [List.size_toArray, sizeLine_eq]; omega)) ?_)
  exact wpAny_pure (q _ _ _ (S.set hn hD ⟨Heap.size_update .., fun b hb => Heap.get?_update_ne _ _ _ _ hb⟩ D'))
theorem exc_set1 {vs : List Value} {name : Str} {v : Value} {Q : Unit → Shared → Prop} (S : St B G₀ L m G h) (Z : Bs (KK w) VV LL mg mb B) (he : G e = some (excBare vs)) (hB : B e = none) (ht : takerIn (KK w) 46 name = some none)
    (q : ∀ dx u h' t', St B G₀ L m (put (put (put G dx emptyDict) e (excObj dx vs)) dx (dictOf [⟨PyData.keyHash w.params name, .str name u, v⟩] 1)) h' → G dx = none → B dx = none → h.get? dx = none → Q () (c.at h' t')) :
    wpAny (model prog w) A (setAttr (.ref e) name v) Q E (c.at h t) := by
  have X := Z.k S.keep
  have I : W.InstAt h e (excBare vs) 46 none := ⟨S.get he, rfl, rfl, trivial⟩
  refine set_plain (s := c.at h t) X I sa46 ?_
  refine osaE (s := c.at h (t + 1)) X I ht fun b => ?_
  refine ex1 (any_some (hash46 (w := w))) fun cd hx8 => ?_
  refine and2 hx8 fun hc hd => ?_
  clear hx8
  unfold Builtin.ObjectAttr.storeInOwnDict
  refine wpAny_bind (wpAny_pure ?_)
  refine wpAny_bind (wpAny_bind (wpAny_loadPart (S.get he) (wpAny_bind ((looks_clsIn X hc).here ?_))))
  rw [hd]
  have S1 := S.push (fun _ _ e => e) emptyDict
  have gx := S.size
  have bx := S.sizeB
  have he1 := put_old (o := emptyDict) gx _ _ he
  have hne : e ≠ h.objs.size := fun z => by rw [z, gx] at he; (first | with_reducible exact no_some he | with_reducible exact some_no he | with_reducible exact no_bool he | with_reducible exact no_bool' he | cases he)
  have S2 := S1.set (h' := (h.push emptyDict).update e fun o => { o with dict := some h.objs.size }) hB he1 (Heap.SameBut.update ..) (Heap.get?_update_self _ (S1.get he1) rfl)
  refine wpAny_bind (wpAny_alloc' ?_)
  refine wpAny_bind (wpAny_update' (S1.get he1) ?_)
  refine wpAny_pure ?_
  refine storeD (G := put (put G h.objs.size emptyDict) e (excObj h.objs.size vs)) (es := []) (n := 0) S2 (by rw [put_ne (Ne.symm hne), put_self]) bx rfl (Nat.zero_le _) fun u h' t' S3 => ?_
  exact q _ _ _ _ S3 gx bx no_size
theorem exc_set2 {vs : List Value} {es : List DictEntry} {n : Nat} {name : Str} {v : Value} {Q : Unit → Shared → Prop} (S : St B G₀ L m G h) (Z : Bs (KK w) VV LL mg mb B) (he : G e = some (excObj dx vs)) (hD : G dx = some (dictOf es n)) (hn : B dx = none) (hl : (getL name es).isSome = true) (hz : es.length ≤ 900) (ht : takerIn (KK w) 46 name = some none)
    (q : ∀ u h' t', St B G₀ L m (put G dx (dictOf (putL name (PyData.keyHash w.params name) (.str name u) v es) (putN name es n))) h' → Q () (c.at h' t')) :
    wpAny (model prog w) A (setAttr (.ref e) name v) Q E (c.at h t) := by
  have X := Z.k S.keep
  have I : W.InstAt h e (excObj dx vs) 46 (some (dictOf es n)) := ⟨S.get he, rfl, rfl, S.get hD⟩
  refine set_plain (s := c.at h t) X I sa46 ?_
  refine osaE (s := c.at h (t + 1)) X I ht fun b => ?_
  refine ex1 (any_some (hash46 (w := w))) fun cd hx9 => ?_
  refine and2 hx9 fun hc hd => ?_
  clear hx9
  unfold Builtin.ObjectAttr.storeInOwnDict
  refine wpAny_bind (wpAny_pure ?_)
  refine wpAny_bind (wpAny_bind (wpAny_loadPart (S.get he) (wpAny_bind ((looks_clsIn X hc).here ?_))))
  rw [hd]
  refine wpAny_pure (a := some dx) ?_
  exact storeD S hD hn hl hz fun u h' t' S3 => q u h' t' S3
theorem mType {T : String} {name : Str} {v : Value} {pl : Sem Bool} {Q : Value × List Value → Shared → Prop} (S : St B G₀ L m G h) (Z : Bs (KK w) VV LL mg mb B) (ht : typeOf (.type T) = pure (.type "type")) (hs : Manifest.isStub T = false)
    (ec : findCls (KK w) (.type T) (.type "type") name = some (.val v)) (hh : handedIn v = true) (q : ∀ t', Q (v, []) (c.at h t')) : wpAny (model prog w) A (getMethod (.type T) name pl) Q E (c.at h t) := by
  have X := Z.k S.keep
  have hstub : opaqueClassAbove (.type T) = pure none := by unfold opaqueClassAbove; dsimp only; rw [hs]; rfl
  have L0 : Looks (model prog w) h (typeOf (.type T)) (.type "type") := Looks.of_pure ht
  have hg : findIn (KK w) (.type "type") "__getattribute__" = some (some (.builtin "type.__getattribute__")) := type_tga
  unfold getMethod specialOf
  refine wpAny_bind (wpAny_bind (L0.here (s := c.at h t) ((looks_findIn X hg).here (s := c.at h t) ?_)))
  dsimp only
  rw [if_pos canon_tga]
  refine wpAny_bind (wpAny_mono (Q := fun v => Q (v, [])) (E := E) ?_ (fun _ _ z => wpAny_pure z) fun _ _ z => z)
  have LO : Looks (model prog w) h (opaqueClassAbove (.type T)) none := Looks.of_pure hstub
  refine cls_open (s := c.at h t) X LO L0 hg (looks_hook X (r := none) (by rfl)) (by show subIn (KK w) _ _ = _; rfl) ec
    (wpAny_pure (by show wpAny _ _ (handedOut v) _ _ _; rw [handedOut_of hh]; exact wpAny_pure (q _)))
end
section
variable {prog : Program} {w : World} {A : Around} {E : Value → Shared → Prop} {c : Fx} {h : Heap} {t : Nat} {mg mb m : Str → Option Value} {B G₀ G : PMap} {L : Addr}
structure ExcIn (G : PMap) (e dx : Addr) (v : Value) : Prop where
  ex : ∃ t1 es n, G e = some (excObj dx (fldsOf (.ref t1))) ∧ G dx = some (dictOf es n) ∧ getL (Str.ofString "what") es = some (some v) ∧ (∃ u, getL (Str.ofString "at") es = some (some (.int (-1) u))) ∧ getL (Str.ofString "told") es = some none
theorem make_Paper {x : Str} {u : Tok} {Q : Value → Shared → Prop} (o : Ok 2 A) (S : St B G₀ L m G h) (Z : Bs (KK w) VV LL mg mb B)
    (q : ∀ e dx G' h' t', St B G₀ L m G' h' → (∀ b o, G b = some o → G' b = some o) → h.get? e = none → h.get? dx = none → ExcIn G' e dx (.str x u) → Q (.ref e) (c.at h' t')) : wpAny (model prog w) A (call (.ref 46) [.str x u]) Q E (c.at h t) := by
  refine new_exc S Z fun e t0 h₁ S hup hen gt0 ge hBe => ?_
  have o := o.make (C := 46) (vals := [.str x u]) (kw := [])
  have Sc := S
  have hGe : (put (put G t0 (tupOf [.str x u] 0)) e (excBare (fldsOf (.ref t0)))) e = some (excBare (fldsOf (.ref t0))) := put_self
  have old1 : ∀ b ob, b ≠ e → G b = some ob → (put (put G t0 (tupOf [.str x u] 0)) e (excBare (fldsOf (.ref t0)))) b = some ob := fun b ob nb z => by rw [put_ne nb]; exact put_old gt0 b ob z
  generalize (put (put G t0 (tupOf [.str x u] 0)) e (excBare (fldsOf (.ref t0)))) = G1 at *
  refine' enter (fun a => a = e) [((Str.ofString "self"), .ref e), ((Str.ofString "what"), .str x u), ((Str.ofString "at"), .int (-1) 209)] o.room (Z.but S hBe) (fun a o e => S.get e) ?ho ?hcd ?hb ?hl ?hc ?hm ?_ ?c1 ?c2 ?c3
  case ho => exact rfl
  case hcd => kernel_rfl
  case hb => exact kp_binds (Z.k S.keep) fun _ => by kernel_rfl
  case hl => kernel_rfl
  case hc => kernel_rfl
  case hm => exact binds3
  case c1 => exact rfl
  case c2 => exact rfl
  case c3 => exact rfl
  intro L₂ h₂ t₂ S Z2 gL sL up
  repeat cell_call
  refine e_meth fun pl => ?_
  repeat cell_call
  refine mType S Z2 (by kernel_rfl) (by kernel_rfl) (v := .builtin "Exception.__init__") (by kernel_rfl) (by kernel_rfl) fun t₃ => ?_
  refine cwB ?_
  repeat cell_call
  refine exc_init S Z2 hGe (mask_in (.inl rfl)) fun t1 h₃ S gt1 => ?_
  have he3 : put (put G1 t1 (tupOf [.str x u] 0)) e (excBare (fldsOf (.ref t1))) e = some (excBare (fldsOf (.ref t1))) := put_self
  have old3 : ∀ b ob, b ≠ e → G1 b = some ob → put (put G1 t1 (tupOf [.str x u] 0)) e (excBare (fldsOf (.ref t1))) b = some ob := fun b ob nb z => by rw [put_ne nb]; exact put_old gt1 b ob z
  generalize put (put G1 t1 (tupOf [.str x u] 0)) e (excBare (fldsOf (.ref t1))) = G3 at *
  have S3 := S
  repeat cell_call
  refine exc_set1 S Z2 he3 (mask_in (.inl rfl)) (by kernel_rfl) fun dx u4 h₄ t₄ S gdx bdx hdx => ?_
  have hne : e ≠ dx := fun z => by rw [← z, he3] at gdx; (first | with_reducible exact no_some gdx | with_reducible exact some_no gdx | with_reducible exact no_bool gdx | with_reducible exact no_bool' gdx | cases gdx)
  have he4 : put (put (put G3 dx emptyDict) e (excObj dx (fldsOf (.ref t1)))) dx (dictOf [⟨PyData.keyHash w.params (Str.ofString "what"), .str (Str.ofString "what") u4, .str x u⟩] 1) e = some (excObj dx (fldsOf (.ref t1))) := by rw [put_ne hne, put_self]
  have hd4 : put (put (put G3 dx emptyDict) e (excObj dx (fldsOf (.ref t1)))) dx (dictOf [⟨PyData.keyHash w.params (Str.ofString "what"), .str (Str.ofString "what") u4, .str x u⟩] 1) dx = some (dictOf [⟨PyData.keyHash w.params (Str.ofString "what"), .str (Str.ofString "what") u4, .str x u⟩] 1) := put_self
  have old4 : ∀ b ob, b ≠ e → G3 b = some ob → put (put (put G3 dx emptyDict) e (excObj dx (fldsOf (.ref t1)))) dx (dictOf [⟨PyData.keyHash w.params (Str.ofString "what"), .str (Str.ofString "what") u4, .str x u⟩] 1) b = some ob := fun b ob nb z => by
    have nd : b ≠ dx := fun y => by rw [y, gdx] at z; (first | with_reducible exact no_some z | with_reducible exact some_no z | with_reducible exact no_bool z | with_reducible exact no_bool' z | cases z)
    rw [put_ne nd, put_ne nb]; exact put_old gdx b ob z
  generalize put (put (put G3 dx emptyDict) e (excObj dx (fldsOf (.ref t1)))) dx (dictOf [⟨PyData.keyHash w.params (Str.ofString "what"), .str (Str.ofString "what") u4, .str x u⟩] 1) = G4 at *
  repeat cell_call
  refine exc_set2 (w := w) S Z2 he4 hd4 bdx (by kernel_rfl) (by exact Nat.le_of_ble_eq_true rfl) (by kernel_rfl) fun u5 h₅ t₅ S => ?_
  repeat cell_call
  have g : Grow (fun a => a = e) G1 h₁ _ h₅ := exit0 S up sL (fun a o e => Sc.get e) (fun a z => by have z : a = e := z; rw [z, hGe]; exact Option.some_ne_none _) gL
  have SS := Sc.grow g (fun a z => by have z : a = e := z; rw [z]; exact hBe) (fun z => (Sc.sub _ _ hGe).2.1 (Eq.symm z))
  have hgne : ∀ b ob, G b = some ob → b ≠ e := fun b ob z y => by
    rw [y] at z
    have : put G t0 (tupOf [.str x u] 0) e = some ob := put_old gt0 _ _ z
    rw [ge] at this; (first | with_reducible exact no_some this | with_reducible exact some_no this | with_reducible exact no_bool this | with_reducible exact no_bool' this | cases this)
  have hdn : h.get? dx = none := by
    cases z : h.get? dx with
    | none => rfl
    | some ob =>
      have z1 := hup dx ob z
      have z2 := up dx ob z1
      have z3 := S3.keep dx ob (by rw [mask_out fun y => y.elim (fun y => by rw [y, hen] at z; (first | with_reducible exact no_some z | with_reducible exact some_no z | with_reducible exact no_bool z | with_reducible exact no_bool' z | cases z)) fun y => by rw [y, sL] at z1; cases z1]; exact z2)
      rw [z3] at hdx; (first | with_reducible exact no_some hdx | with_reducible exact some_no hdx | with_reducible exact no_bool hdx | with_reducible exact no_bool' hdx | cases hdx)
  refine ⟨rfl, q e dx _ _ _ SS (fun b ob z => ?_) hen hdn ⟨t1, _, _, by rw [put_ne hne]; exact he4, put_self, rfl, ⟨_, rfl⟩, rfl⟩⟩
  have nb := hgne b ob z
  have z3 := old3 b ob nb (old1 b ob nb z)
  have z4 := old4 b ob nb z3
  have nd : b ≠ dx := fun y => by rw [y, gdx] at z3; (first | with_reducible exact no_some z3 | with_reducible exact some_no z3 | with_reducible exact no_bool z3 | with_reducible exact no_bool' z3 | cases z3)
  rw [put_ne nd]; exact z4
end

end
section
section
variable {M : Model} {A : Around} {E : Value → Shared → Prop} {env : Env}
theorem raise46 {s : Shared} {x : Sem Value} {Q : Flow → Shared → Prop} (hh : A.handled = none)
    (q : wpAny M A x (fun v s₁ => ∃ e dx t0, v = .ref e ∧ Cls46 s₁.heap ∧ s₁.heap.get? e = some (excObj dx (fldsOf t0)) ∧ E (.ref e) s₁) E s) :
    wpAny M A (raiseStmt env (some x) none) Q E s := by
  unfold raiseStmt
  refine wpAny_bind (wpAny_mono q (fun v s₁ h₁ => ?_) fun _ _ x => x)
  refine ex3 (h₁) fun e dx t0 hx1 => ?_
  refine and4 hx1 fun er1_3 C he hE => ?_
  clear hx1
  try clear h₁
  subst er1_3
  obtain ⟨nm, qn, bs, sn, sub, ab, col, dd, k0, k1, k2, k3, k5, mN, hC, hn, hi⟩ := C.ex
  have hcB : (Value.ref 46 :: bmE).contains (.type "BaseException") = true := by decide
  obtain ⟨hp, g, d, tk, os⟩ := s₁
  repeat (first | with_reducible refine wpAny_loadPart_at he ?_ | with_reducible refine wpAny_loadPart_at hC ?_ | (with_reducible refine wpAny_isSubtype_exc hC ?_; rw [hcB]) | wp_step)
  exact wpAny_raiseNew_none hh hE
end
section
variable {prog : Program} {w : World} {A : Around} {E : Value → Shared → Prop} {env : Env} {rest : List Stmt}
theorem x_raise {s : Shared} {e : Expr} {pos : Pos} {Q : Flow → Shared → Prop} (hh : A.handled = none)
    (q : wpAny (model prog w) A (eval e env) (fun v s₁ => ∃ e dx t0, v = .ref e ∧ Cls46 s₁.heap ∧ s₁.heap.get? e = some (excObj dx (fldsOf t0)) ∧ E (.ref e) s₁) E s) :
    wpAny (model prog w) A (execs (.Raise (some e) none pos :: rest) env) Q E s := by
  refine wpAny_execs_cons ?_
  rw [arm_exec_Raise]
  refine wpAny_bind (wpAny_standAt (raise46 hh ?_))
  refine wpAny_bind (wpAny_mono q (fun v s₃ h₃ => wpAny_bind (wpAny_standAt (wpAny_pure h₃))) fun _ _ x => x)
end
noncomputable def noHeap : Heap := {}
theorem noHeap_get (a : Addr) : noHeap.get? a = none := rfl
noncomputable def Frames (h : Heap) (l : List Env) : Prop := h.FunFrames noHeap l
abbrev frs (l : List Env) : List Addr := l.filterMap (·.frame)
structure NoteK (l : List Env) (X : Addr → Prop) (h h' : Heap) : Prop where
  out : ∀ b o, b ∉ frs l → ¬ X b → h.get? b = some o → h'.get? b = some o
  fr : ∀ b o, b ∈ frs l → h.get? b = some o → ∃ sl, h'.get? b = some { o with slots := sl }
structure Fly (h : Heap) (e T dx : Addr) (fl : Value) : Prop where
  ex : ∃ vs oT ts sl, h.get? e = some { cls := .ref 46, dict := some dx, data := .fields vs, slots := sl } ∧ vs[1]? = some (.ref T) ∧ T ≠ e ∧ h.get? T = some oT ∧ oT.data = .fields ts ∧ ts[3]? = some fl
section
variable {M : Model} {A : Around} {E : Value → Shared → Prop} {s : Shared}
theorem frames_in {h : Heap} {l : List Env} (hl : Frames h l) {b : Addr} (hb : b ∈ frs l) : ∃ o, h.get? b = some o ∧ ∀ vs, o.data ≠ .fields vs := (hl.mem hb).2
theorem frames_not {h : Heap} {l : List Env} (hl : Frames h l) {b : Addr} {o : Obj} {vs : Array Value} (ho : h.get? b = some o) (hd : o.data = .fields vs) : b ∉ frs l := fun hm => by
  refine ex1 (frames_in hl hm) fun o' hx4 => ?_
  refine and2 hx4 fun ho' hn => ?_
  clear hx4
  rw [ho] at ho'; cases ho'; exact hn vs hd
theorem entry46 {env : Env} {outer : List Env} {L e dx : Addr} {vs sl} {head : Value} {hadNext : Bool} {Q : Unit → Shared → Prop}
    (hfr : A.frames = some (env :: outer)) (hl : Frames s.heap (env :: outer)) (hf : env.frame = some L) (he : s.heap.get? e = some { cls := .ref 46, dict := some dx, data := .fields vs, slots := sl }) (hsz : 1 < vs.size)
    (q : ∀ h' T, NoteK (env :: outer) (fun b => b = e) s.heap h' → s.heap.get? T = none → Fly h' e T dx (rawInt L) → Q () { s with heap := h' }) :
    wpAny M A (do let a ← frameOf env; let pl ← entryPlaceOf L hadNext; let b ← EntryCells.newEntry head a .none (rawInt L) .none pl; setField (.ref e) 1 b) Q E s := by
  have hene : e ∉ frs (env :: outer) := frames_not hl he rfl
  refine wpAny_bind (wpAny_frameOf_fun hfr hl hf fun h₁ hs₁ => ?_)
  refine wpAny_bind (wpAny_entryPlaceOf fun pl hpl => ?_)
  unfold EntryCells.newEntry newFields
  refine wpAny_bind (wpAny_newObj_type ?_ (hpl.sizeOk5 _ _ _ _ _))
  have he₁ : h₁.get? e = some { cls := .ref 46, dict := some dx, data := .fields vs, slots := sl } := (hs₁.2.1 e hene).trans he
  generalize hoT : ({ cls := .type "traceback", dict := none, data := .fields ([head, .ref L, .none, rawInt L, .none] ++ (if pl.isEmpty then List.replicate 6 Value.none else pl)).toArray } : Obj) = oT
  have hfT : oT.isFreed = false := by rw [← hoT]; rfl
  have he₂ := Heap.get?_push_of_some (h := h₁) oT he₁
  refine wpAny_setField he₂ rfl hsz ?_
  have hTe : h₁.objs.size ≠ e := Nat.ne_of_gt (Heap.lt_size he₁)
  have he₃ := Heap.get?_update_self (Obj.mapFields (·.setIfInBounds 1 (Value.ref h₁.objs.size))) he₂ rfl
  have hT₃ := (Heap.get?_update_other (h₁.push oT) (Obj.mapFields (·.setIfInBounds 1 (Value.ref h₁.objs.size))) (Ne.symm hTe)).trans (Heap.get?_push_size h₁ hfT)
  have keep : ∀ b o, b ≠ e → h₁.get? b = some o → ((h₁.push oT).update e (Obj.mapFields (·.setIfInBounds 1 (Value.ref h₁.objs.size)))).get? b = some o := fun b o nb hb => by
    rw [Heap.get?_update_other _ _ (Ne.symm nb)]
    exact Heap.get?_push_of_some _ hb
  refine q _ h₁.objs.size ⟨fun b o nb nx hb => keep b o nx ((hs₁.2.1 b nb).trans hb), fun b o hb ho => ?_⟩ ?_ ⟨_, oT, ([head, .ref L, .none, rawInt L, .none] ++ (if pl.isEmpty then List.replicate 6 Value.none else pl)).toArray, sl, he₃, by simp [hsz], hTe, hT₃, by rw [← hoT], ?_⟩
  · refine ex1 (hs₁.2.2 b o ho) fun sl' z => ?_
    exact ⟨sl', keep b _ (fun y => hene (y ▸ hb)) z⟩
  · have e1 : h₁.objs.size = s.heap.objs.size := hs₁.1
    rw [e1]; exact no_size
  · simp
theorem unmark46 {e T dx : Addr} {fl : Value} {Q : Unit → Shared → Prop} (F : Fly s.heap e T dx fl) (q : ∀ h', Heap.SameBut T s.heap h' → Fly h' e T dx .none → Q () { s with heap := h' }) : wpAny M A (setFlight (.ref e) none) Q E s := by
  refine ex4 (F.ex) fun vs oT ts sl hx6 => ?_
  refine and6 hx6 fun he h1 hTe hT hdT h3 => ?_
  clear hx6
  have hsz3 : 3 < ts.size := (Array.getElem?_eq_some_iff.mp h3).1
  unfold setFlight
  refine wpAny_bind (wpAny_field he rfl h1 ?_)
  rw [if_pos (show (Value.ref T != Value.none) = true from by simp)]
  refine wpAny_setField hT hdT hsz3 (q _ (Heap.SameBut.update ..) ⟨vs, _, _, sl, (Heap.get?_update_other _ _ hTe).trans he, h1, hTe, Heap.get?_update_self _ hT (Obj.isFreed_of_fields (Obj.data_mapFields hdT _)), Obj.data_mapFields hdT _, by simp [hsz3]⟩)
theorem leave46 {env : Env} {outer : List Env} {L e dx : Addr} {vs sl} {Q : Unit → Shared → Prop}
    (hfr : A.frames = some (env :: outer)) (hl : Frames s.heap (env :: outer)) (hf : env.frame = some L) (he : s.heap.get? e = some { cls := .ref 46, dict := some dx, data := .fields vs, slots := sl }) (h1 : vs[1]? = some .none)
    (q : ∀ h' T, NoteK (env :: outer) (fun b => b = e) s.heap h' → s.heap.get? T = none → Fly h' e T dx .none → Q () { s with heap := h' }) : wpAny M A (leaving env (.ref e)) Q E s := by
  unfold leaving noteFrame
  simp only [hf]
  refine wpAny_bind (wpAny_bind (wpAny_field he rfl h1 ?_))
  rw [if_neg (by decide)]
  refine entry46 hfr hl hf he (Array.getElem?_eq_some_iff.mp h1).1 fun h₂ T k hT F => ?_
  refine unmark46 (s := { s with heap := h₂ }) F fun h₃ hs F' => q h₃ T ⟨fun b o nb nx hb => ?_, fun b o hb ho => ?_⟩ hT F'
  · exact (hs.2 b fun z => by rw [z, hT] at hb; (first | with_reducible exact no_some hb | with_reducible exact some_no hb | with_reducible exact no_bool hb | with_reducible exact no_bool' hb | cases hb)).trans (k.out b o nb nx hb)
  · refine ex1 (k.fr b o hb ho) fun sl' z => ?_
    exact ⟨sl', (hs.2 b fun z => by rw [z, hT] at ho; (first | with_reducible exact no_some ho | with_reducible exact some_no ho | with_reducible exact no_bool ho | with_reducible exact no_bool' ho | cases ho)).trans z⟩
theorem note46 {env : Env} {outer : List Env} {L e T dx : Addr} {Q : Unit → Shared → Prop}
    (hfr : A.frames = some (env :: outer)) (hl : Frames s.heap (env :: outer)) (hf : env.frame = some L) (F : Fly s.heap e T dx .none)
    (q : ∀ h' T', NoteK (env :: outer) (fun b => b = e ∨ b = T) s.heap h' → Fly h' e T' dx (rawInt L) → s.heap.get? T' = none → Q () { s with heap := h' }) : wpAny M A (noteFrame (.ref e) env) Q E s := by
  refine ex4 (F.ex) fun vs oT ts sl hx8 => ?_
  refine and6 hx8 fun he h1 hTe hT hdT h3 => ?_
  clear hx8
  unfold noteFrame
  simp only [hf]
  refine wpAny_bind (wpAny_field he rfl h1 ?_)
  rw [if_pos (show (Value.ref T != Value.none) = true from by simp)]
  refine wpAny_bind (wpAny_field hT hdT h3 ?_)
  rw [if_neg (show ¬ ((Value.none == rawInt L) = true) from by simp [rawInt])]
  refine wpAny_bind (wpAny_setField hT hdT (Array.getElem?_eq_some_iff.mp h3).1 ?_)
  have other : ∀ b, b ≠ T → (s.heap.update T (Obj.mapFields (·.setIfInBounds 3 Value.none))).get? b = s.heap.get? b := fun b hb => Heap.get?_update_other _ _ (Ne.symm hb)
  have hTf : T ∉ frs (env :: outer) := frames_not hl hT hdT
  have hl2 : Frames (s.heap.update T (Obj.mapFields (·.setIfInBounds 3 Value.none))) (env :: outer) := hl.of_keeps fun b o hb hnf => ⟨o, (other b fun z => by rw [z, hT] at hb; cases hb; exact hnf ts hdT).trans hb, rfl⟩
  refine entry46 (s := { s with heap := s.heap.update T (Obj.mapFields (·.setIfInBounds 3 Value.none)) }) hfr hl2 hf ((other e (Ne.symm hTe)).trans he) (Array.getElem?_eq_some_iff.mp h1).1 fun h₂ T' k hT' F' => ?_
  refine q h₂ T' ⟨fun b o nb nx hb => k.out b o nb (fun z => nx (.inl z)) ((other b fun z => nx (.inr z)).trans hb), fun b o hb ho => k.fr b o hb ((other b fun z => hTf (z ▸ hb)).trans ho)⟩ F' ?_
  by_cases z : T' = T
  · have hTT := Heap.get?_update_self (Obj.mapFields (·.setIfInBounds 3 Value.none)) hT (Obj.isFreed_of_fields (Obj.data_mapFields hdT _))
    rw [z, hTT] at hT'; (first | with_reducible exact no_some hT' | with_reducible exact some_no hT' | with_reducible exact no_bool hT' | with_reducible exact no_bool' hT' | cases hT')
  · exact (other T' z).symm.trans hT'
end

end
section
section
variable {prog : Program} {w : World} {A : Around} {E : Value → Shared → Prop} {c : Fx} {h : Heap} {t : Nat} {mg mb m : Str → Option Value} {B G₀ G : PMap} {L : Addr}
theorem enterE {name qual : Str} {params : Arguments} {body : List Stmt} {scope : Scope} {dV kV doc pm cdv ct oc : Value} {an od : Option Addr} {osl : Array (Option Value)} {f : Addr} {args : List Value} (binds : List (Str × Value)) {Q : Value → Shared → Prop}
    (hr : A.depth < recursionLimit) (Z : Bs (KK w) VV LL mg mb h.get?) (hG : ∀ a o, G a = some o → h.get? a = some o)
    (ho : (KK w).lookup f = some ⟨oc, od, .func (fnX name qual params body scope [] dV kV doc pm an cdv ct), osl⟩) (hcd : codeIn (KK w) cdv qual = true)
    (hbind : BindsTo (c.at h t) (fnX name qual params body scope [] dV kV doc pm an cdv ct) ⟨args, []⟩ binds) (hloc : (binds.all fun x => decide (scope.names.lookup x.1 = some .local)) = true)
    (hcell : (scope.names.all fun x => decide (x.2 ≠ .cell)) = true) (hm : (fun y => binds.reverse.lookup y) = m)
    (q : ∀ L h₁ t₁, St (mask (fun a => a = L) h₁.get?) G L m G h₁ → Bs (KK w) VV LL mg mb (mask (fun a => a = L) h₁.get?) → G L = none → h.get? L = none → (∀ b o, h.get? b = some o → h₁.get? b = some o) →
      wpAny (model prog w) (A.deeper (envX qual scope L f cdv [])) (execs body (envX qual scope L f cdv [])) (fun fl s' => Q (retOf fl) s')
        (fun e s' => wpAny (model prog w) (A.deeper (envX qual scope L f cdv [])) (leaving (envX qual scope L f cdv []) e) (fun _ s'' => E e s'') (fun e' s'' => E e' s'') s') (c.at h₁ t₁))
    (hco : scope.isCoroutine = false) (hgen : scope.isGenerator = false) (hk : scope.kind = .function) :
    wpAny (model prog w) A (call (.ref f) args) Q E (c.at h t) := by
  subst hm
  refine wpAny_call ?_
  have k0 : ∀ b o, h.get? b = some o → h.get? b = some o := fun b o e => e
  refine codeAny_call_function hr (Z.k k0 _ _ ho) rfl hco hgen rfl (codeRec_of (Z.k k0) hcd) (hbind _ _ _ _ ?_)
  refine wpAny_newFunctionEnv (noCells hcell) (allLocal hloc) (fun h₁ hns hsb => ⟨(Z.t k0).nolimit.fresh _ hsb, ?_⟩) hk
  have up : ∀ b o, h.get? b = some o → h₁.get? b = some o := fun b o e => hsb.extBut b o (Nat.ne_of_lt (Heap.lt_size e)) (Heap.get?_push_of_some _ e)
  have gL : G h.objs.size = none := by
    cases e : G h.objs.size with
    | none => rfl
    | some o => exact absurd (Heap.lt_size (hG _ _ e)) (Nat.lt_irrefl _)
  have lt : ∀ a o, h.get? a = some o → a ≠ h.objs.size := fun a o e z => by rw [z, no_size] at e; (first | with_reducible exact no_some e | with_reducible exact some_no e | with_reducible exact no_bool e | with_reducible exact no_bool' e | cases e)
  have S0 : St (mask (fun a => a = h.objs.size) h₁.get?) G h.objs.size (fun x => binds.reverse.lookup x) G h₁ :=
    ⟨hns, fun _ _ e => (of_mask e).2, mask_in rfl, fun a o e => by rw [mask_out (W := fun a => a = h.objs.size) (lt a o (hG a o e))]; exact up a o (hG a o e), fun _ _ e => e, fun a o e => ⟨up _ _ (hG a o e), lt a o (hG a o e), .inl e⟩⟩
  refine codeAny_func (wpAny_mono (q h.objs.size h₁ _ S0 (Z.mono fun b o e => ?_) gL no_size up) (fun fl s' q => ?_) fun _ _ x => x)
  · rw [mask_out (W := fun a => a = h.objs.size) (lt b o e)]
    exact up b o e
  · cases fl <;> exact q
inductive Alien (G : PMap) : Value → Prop
  | str (x : Str) (u : Tok) : Alien G (.str x u)
  | tup {a : Addr} {vs : List Value} {n : Nat} : G a = some (tupOf vs n) → Alien G (.ref a)
theorem Alien.mono {G G' : PMap} {v : Value} (hG : ∀ a o, G a = some o → G' a = some o) : Alien G v → Alien G' v := fun h => Alien.rec (motive := fun v _ => Alien G' v) .str (fun e => .tup (hG _ _ e)) h
theorem alien_kit {v : Value} (S : St B G₀ L m G h) (hv : Alien G v) : ∃ ty, ty ∈ obTys ∧ (∀ cv, obCls.contains cv = true → isiB ty cv = false) ∧ notLoader v = true ∧ ∃ H, KitX (KK w) v ty H ∧ H h := by
  cases hv with
  | str x u => exact ⟨.type "str", by simp [obTys], fun cv hc => by
      have : (obCls.all fun cv => !isiB (.type "str") cv) = true := by decide +kernel
      have := List.all_eq_true.mp this cv (List.contains_iff_mem.mp hc)
      simpa using this, rfl, _, kitx_str, trivial⟩
  | tup e => exact ⟨.type "tuple", by simp [obTys], fun cv hc => by
      have : (obCls.all fun cv => !isiB (.type "tuple") cv) = true := by decide +kernel
      have := List.all_eq_true.mp this cv (List.contains_iff_mem.mp hc)
      simpa using this, rfl, _, kitx_tuple, _, S.get e, rfl⟩
theorem isiA {v cv : Value} {QV : Value → Shared → Prop} (S : St B G₀ L m G h) (Z : Bs (KK w) VV LL mg mb B) (hv : Alien G v) (q : ∀ t', QV (.bool false) (c.at h t')) (hc : obCls.contains cv = true := by kernel_rfl) :
    wpAny (model prog w) A (call (.builtin "isinstance") [v, cv]) QV E (c.at h t) := by
  obtain ⟨ty, a, z, b, H, k, p⟩ := alien_kit (w := w) S hv
  have e := kit_of (w := w) a hc
  rw [z cv hc] at e
  exact kia_one (s := c.at h t) k (Z.k S.keep) p e (notLoader_ne b) fun tk => q tk
theorem none_A {v : Value} {s : Shared} {QV : Value → Shared → Prop} (hv : Alien G v) (q : QV (.bool false) s) : wpAny (model prog w) A (compareOp .Is v .none) QV E s := by
  cases hv with
  | str x u => exact is_none_f q
  | tup e => exact is_none_f q
noncomputable def ExcD (h : Heap) (dx : Addr) : Prop := ∃ es n x u u', h.get? dx = some (dictOf es n) ∧ getL (Str.ofString "what") es = some (some (.str x u)) ∧ getL (Str.ofString "at") es = some (some (.int (-1) u')) ∧ getL (Str.ofString "told") es = some none
theorem ns_isdict {L : Addr} {m : Str → Option Value} (hn : h.Ns L m) : ∃ o, h.get? L = some o ∧ ∀ vs, o.data ≠ .fields vs := by
  refine ex3 (hn) fun o es ep hx2 => ?_
  refine and3 hx2 fun e d _ => ?_
  clear hx2
  try clear hn
  exact ⟨o, e, fun vs z => by rw [d] at z; (first | with_reducible exact no_some z | with_reducible exact some_no z | with_reducible exact no_bool z | with_reducible exact no_bool' z | cases z)⟩
theorem frames_cons {env : Env} {envs : List Env} {L : Addr} {o : Obj} (h1 : env.scope.kind = .function) (hf : env.frame = some L) (ho : h.get? L = some o) (hd : ∀ vs, o.data ≠ .fields vs) (hl : Frames h envs) : Frames h (env :: envs) := by
  unfold Frames at *
  exact ⟨(by rw [h1]; intro z; (first | with_reducible exact no_some z | with_reducible exact some_no z | with_reducible exact no_bool z | with_reducible exact no_bool' z | cases z)), ⟨L, o, hf, noHeap_get L, ho, hd⟩, hl⟩
theorem kind_raise {v : Value} {envs : List Env} {Q : Value → Shared → Prop} (o : Ok 4 A) (hfr : A.frames = some envs) (hl : Frames h envs) (Z : Bs (KK w) VV LL mg mb h.get?) (hG : ∀ a o, G a = some o → h.get? a = some o) (hv : Alien G v)
    (k : ∀ e T dx h' t', (∀ b o, b ∉ frs envs → h.get? b = some o → h'.get? b = some o) → (∀ b o, b ∈ frs envs → h.get? b = some o → ∃ sl, h'.get? b = some { o with slots := sl }) → h.get? e = none → h.get? T = none → h.get? dx = none → Fly h' e T dx .none → ExcD h' dx → E (.ref e) (c.at h' t')) :
    wpAny (model prog w) A (call (.ref 253) [v]) Q E (c.at h t) := by
  refine' enterE [((Str.ofString "value"), v)] o.room Z hG ?ho ?hcd ?hb ?hl ?hc ?hm ?_ ?c1 ?c2 ?c3
  case ho => exact rfl
  case hcd => kernel_rfl
  case hb => exact BindsTo.of_eq rfl
  case hl => kernel_rfl
  case hc => kernel_rfl
  case hm => exact binds1
  case c1 => exact rfl
  case c2 => exact rfl
  case c3 => exact rfl
  intro L h₁ t₁ S Z gL sL up
  repeat (first | (with_reducible refine isiA (by with_reducible assumption) (by with_reducible assumption) (by with_reducible assumption) (fun _ => ?_)) | with_reducible refine none_A (by with_reducible assumption) ?_ | cell_call)
  refine x_raise o.deeper.hh ?_
  repeat cell_call
  refine make_Paper (o.deeper.less (by first | decide | omega)) S Z fun e dx G2 h₂ t₂ S2 up2 hen hdx X => ?_
  refine ex3 (X.ex) fun t1 es n hx3 => ?_
  refine and5 hx3 fun he hd a1 hp3_6 a3 => ?_
  clear hx3
  refine ex1 (hp3_6) fun u2 a2 => ?_
  clear hp3_6
  have keep2 : ∀ b o, h.get? b = some o → h₂.get? b = some o := fun b o z => S2.keep b o (by rw [mask_out (W := fun a => a = L) fun y => by rw [y, sL] at z; cases z]; exact up b o z)
  refine ⟨e, dx, .ref t1, rfl, cls46 (Z.k S2.keep), S2.get he, ?_⟩
  have hl2 : Frames h₂ envs := hl.of_keeps fun b o z _ => ⟨o, keep2 b o z, rfl⟩
  refine ex1 (ns_isdict S2.ns) fun oL hx5 => ?_
  refine and2 hx5 fun hoL hoLd => ?_
  clear hx5
  refine leave46 (s := c.at h₂ t₂) (outer := envs) (L := L) (Around.frames_deeper hfr) (frames_cons rfl rfl hoL hoLd hl2) rfl (S2.get he) rfl fun h₃ T K hT F => ?_
  have back : ∀ a, h₁.get? a = none → h.get? a = none := fun a z => by
    cases y : h.get? a with
    | none => rfl
    | some o => rw [up a o y] at z; (first | with_reducible exact no_some z | with_reducible exact some_no z | with_reducible exact no_bool z | with_reducible exact no_bool' z | cases z)
  have he0 := back e hen
  have hT0 : h.get? T = none := by
    cases y : h.get? T with
    | none => rfl
    | some o => rw [keep2 T o y] at hT; (first | with_reducible exact no_some hT | with_reducible exact some_no hT | with_reducible exact no_bool hT | with_reducible exact no_bool' hT | cases hT)
  have inL : ∀ b o, h.get? b = some o → b ≠ L := fun b o z y => by rw [y, sL] at z; (first | with_reducible exact no_some z | with_reducible exact some_no z | with_reducible exact no_bool z | with_reducible exact no_bool' z | cases z)
  refine k e T dx h₃ t₂ (fun b o nb z => ?_) (fun b o hb z => ?_) he0 hT0 (back dx hdx) F ⟨es, n, _, _, u2, ?_, a1, a2, a3⟩
  · exact K.out b o (fun y => (List.mem_cons.mp y).elim (inL b o z) nb) (fun y => by have y : b = e := y; rw [y, he0] at z; (first | with_reducible exact no_some z | with_reducible exact some_no z | with_reducible exact no_bool z | with_reducible exact no_bool' z | cases z)) (keep2 b o z)
  · exact K.fr b o (List.mem_cons_of_mem _ hb) (keep2 b o z)
  · have hd2 := S2.get hd
    have dL : dx ≠ L := fun y => by
      rw [y] at hdx
      refine ex1 (S.has) fun oL hoL => ?_
      rw [hoL] at hdx; (first | with_reducible exact no_some hdx | with_reducible exact some_no hdx | with_reducible exact no_bool hdx | with_reducible exact no_bool' hdx | cases hdx)
    refine K.out dx _ (fun y => (List.mem_cons.mp y).elim dL fun y => ?_) (fun y => by
      have y : dx = e := y
      rw [y, he] at hd
      exact absurd (show Value.ref 46 = Value.type "dict" from congrArg Obj.cls (Option.some.inj hd)) (by decide)) hd2
    refine ex1 (frames_in hl y) fun o hx7 => ?_
    refine and2 hx7 fun z _ => ?_
    clear hx7
    rw [back dx hdx] at z; (first | with_reducible exact no_some z | with_reducible exact some_no z | with_reducible exact no_bool z | with_reducible exact no_bool' z | cases z)
end

end
section
theorem ga46 {w : World} : findIn (KK w) (.ref 46) "__getattribute__" = some (some (.builtin "BaseException.__getattribute__")) := by kernel_rfl
theorem gh46 {w : World} : findIn (KK w) (.ref 46) "__getattr__" = some none := by kernel_rfl
section
variable {prog : Program} {w : World} {A : Around} {E : Value → Shared → Prop} {c : Fx} {h : Heap} {t : Nat} {mg mb m : Str → Option Value} {B G₀ G : PMap} {L e dx : Addr} {env : Env}
structure ExcG (G : PMap) (e dx : Addr) (es : List DictEntry) : Prop where
  ex : ∃ vs sl n, G e = some { cls := .ref 46, dict := some dx, data := .fields vs, slots := sl } ∧ G dx = some (dictOf es n)
theorem ExcG.mono {G G' : PMap} {es : List DictEntry} (x : ExcG G e dx es) (hG : ∀ a o, G a = some o → G' a = some o) : ExcG G' e dx es := ⟨ex3 x.ex fun vs sl n y => ⟨vs, sl, n, hG _ _ y.1, hG _ _ y.2⟩⟩
theorem exc_get {es : List DictEntry} {name : Str} {v : Value} {Q : Value → Shared → Prop} (S : St B G₀ L m G h) (Z : Bs (KK w) VV LL mg mb B) (I : ExcG G e dx es) (ha : findIn (KK w) (.ref 46) name = some none) (hl : getL name es = some (some v)) (hh : handedIn v = true)
    (q : ∀ t', Q v (c.at h t')) : wpAny (model prog w) A (getAttr (.ref e) name true) Q E (c.at h t) := by
  refine ex3 (I.ex) fun vs sl n hx1 => ?_
  refine and2 hx1 fun he hd => ?_
  clear hx1
  have X := Z.k S.keep
  have II : W.InstAt h e { cls := .ref 46, dict := some dx, data := .fields vs, slots := sl } 46 (some (dictOf es n)) := ⟨S.get he, rfl, rfl, S.get hd⟩
  have L0 : Looks (model prog w) h (typeOf (.ref e)) (.ref 46) := II.type
  have L1 := looks_findIn (M := model prog w) X (ga46 (w := w))
  have L2 := looks_findIn (M := model prog w) X (gh46 (w := w))
  refine ex1 (Option.map_eq_some_iff.mp (mro46 (w := w))) fun cd hx2 => ?_
  refine and2 hx2 fun hc hm46 => ?_
  clear hx2
  have sub : Looks (model prog w) h (isInstance (.ref e) (.type "BaseException")) true := II.type.andThen (looks_mroIn X (by unfold mroIn; rw [hc, Option.bind_some, hm46]; rfl))
  have LF := looks_find (M := model prog w) X II (findObj_own (K := KK w) (C := 46) (name := name) (od := dictOf es n) (by kernel_rfl) ha rfl hl)
  unfold getAttr getAttrBy
  refine wpAny_bind (wpAny_mkText (wpAny_holding (wpAny_bind (L0.here (s := c.at h (t + 1)) (wpAny_bind (L1.here (s := c.at h (t + 1)) ?_))))))
  dsimp only
  rw [if_neg (by decide)]
  unfold getAttrByItsOwn hookBefore
  rw [if_pos (show onTheHeap (.ref 46) = true from rfl)]
  refine wpAny_bind (L2.here (s := c.at h (t + 1)) ?_)
  refine wpAny_bind (wpAny_attempt (wpAny_holding ?_))
  unfold callGetattribute
  rw [if_neg (by decide)]
  unfold boundAndCalled
  refine wpAny_bind (wpAny_of_eq (PySem.F.attr_Exception.ga.bind (.ref e)) ?_)
  refine wpAny_call (codeAny_call_builtin PySem.F.attr_Exception.ga.plain PySem.F.entry_bexc_ga ?_)
  refine @check_slot (model prog w) _ _ _ "BaseException.__getattribute__" "BaseException" "__getattribute__" (.ref e) [.str name t] [] _ (by decide +kernel) (by decide +kernel) sub (PySem.F.args_bexc_ga (.ref e) (.str name t)) ?_
  show wpAny _ A.in1 (Builtin.«object.__getattribute__» ⟨[.ref e, .str name t], []⟩) _ _ _
  unfold Builtin.«object.__getattribute__»
  refine wpAny_bind (wpAny_of_eq (a := (Value.ref e, [Value.str name t])) rfl ?_)
  dsimp only
  refine wpAny_bind (wpAny_of_eq (a := name) rfl ?_)
  refine wpAny_bind (L0.here (s := c.at h (t + 1)) (wpAny_bind (LF.here (s := c.at h (t + 1)) ?_)))
  refine wpAny_pure ?_
  show wpAny _ _ (handedOut v) _ _ _
  rw [handedOut_of hh]; exact wpAny_pure (q _)
theorem exc_meth {es : List DictEntry} {name : Str} {f : Addr} {pl : Sem Bool} {Q : Value × List Value → Shared → Prop} (S : St B G₀ L m G h) (Z : Bs (KK w) VV LL mg mb B) (I : ExcG G e dx es) (hf : findIn (KK w) (.ref 46) name = some (some (.ref f))) (ht : typeIn (KK w) (.ref f) = some (.type "function")) (hl : getL name es = some none)
    (q : Q (.ref f, [.ref e]) (c.at h t)) : wpAny (model prog w) A (getMethod (.ref e) name pl) Q E (c.at h t) := by
  refine ex3 (I.ex) fun vs sl n hx3 => ?_
  refine and2 hx3 fun he hd => ?_
  clear hx3
  have X := Z.k S.keep
  have II : W.InstAt h e { cls := .ref 46, dict := some dx, data := .fields vs, slots := sl } 46 (some (dictOf es n)) := ⟨S.get he, rfl, rfl, S.get hd⟩
  have L0 : Looks (model prog w) h (typeOf (.ref e)) (.ref 46) := II.type
  have L1 : Looks (model prog w) h (specialOf (.ref e) "__getattribute__") (some (.builtin "BaseException.__getattribute__")) := L0.andThen (looks_findIn (M := model prog w) X (ga46 (w := w)))
  have L2 : Looks (model prog w) h (specialOf (.ref e) "__getattr__") none := L0.andThen (looks_findIn (M := model prog w) X (gh46 (w := w)))
  have L3 : Looks (model prog w) h (specialOf (.ref e) name) (some (.ref f)) := L0.andThen (looks_findIn (M := model prog w) X hf)
  have L4 : Looks (model prog w) h (typeOf (.ref f)) (.type "function") := looks_typeIn (M := model prog w) X ht
  unfold getMethod
  refine wpAny_bind (L1.here (s := c.at h t) ?_)
  dsimp only
  rw [if_neg (by decide +kernel)]
  refine wpAny_bind (L2.here (s := c.at h t) ?_)
  rw [if_neg (by decide)]
  refine wpAny_bind (L3.here (s := c.at h t) ?_)
  dsimp only
  refine wpAny_bind (L4.here (s := c.at h t) ?_)
  rw [if_neg (by decide)]
  refine wpAny_bind (wpAny_loadPart (S.get he) ?_)
  dsimp only
  have LN : nsLook name (dictOf es n) = pure none := nsLook_of (by rw [lookIn_dict, hl])
  refine wpAny_bind (wpAny_bind (wpAny_loadPart (S.get hd) ?_))
  rw [LN]
  refine wpAny_pure ?_
  rw [if_neg (by decide)]
  exact wpAny_bind (wpAny_rule (wpAny_pure q))
end

end
section
section
variable {prog : Program} {w : World} {A : Around} {E : Value → Shared → Prop} {c : Fx} {h : Heap} {t : Nat} {mg mb m : Str → Option Value} {B G₀ G : PMap} {L : Addr} {env : Env} {rest : List Stmt}
theorem exc_told {e dx : Addr} {es : List DictEntry} {x : Str} {u ua : Tok} {Q : Value → Shared → Prop} (hd : A.depth < 900) (S : St B G₀ L m G h) (Z : Bs (KK w) VV LL mg mb B) (I : ExcG G e dx es) (h1 : getL (Str.ofString "what") es = some (some (.str x u))) (h2 : getL (Str.ofString "at") es = some (some (.int (-1) ua)))
    (q : ∀ a h' t', St B G₀ L m (put G a (tupOf [.str x u, .int (-1) ua] 0)) h' → G a = none → Q (.ref a) (c.at h' t')) : wpAny (model prog w) A (call (.ref 43) [.ref e]) Q E (c.at h t) := by
  refine' enter No [((Str.ofString "self"), .ref e)] (by show A.depth < 1000; omega) (Z.at_ S).no (fun a o e => S.get e) ?ho ?hcd ?hb ?hl ?hc ?hm ?_ ?c1 ?c2 ?c3
  case ho => exact rfl
  case hcd => kernel_rfl
  case hb => exact BindsTo.of_eq rfl
  case hl => kernel_rfl
  case hc => kernel_rfl
  case hm => exact binds1
  case c1 => exact rfl
  case c2 => exact rfl
  case c3 => exact rfl
  intro L2 h₁ t₁ S2 Z2 gL sL up
  repeat cell_call
  refine exc_get S2 Z2 I (by kernel_rfl) h1 rfl fun t3 => ?_
  repeat cell_call
  refine exc_get S2 Z2 I (by kernel_rfl) h2 rfl fun t4 => ?_
  repeat cell_call
  rename_i a h5 S5 ga
  rw [mask_no] at S5
  exact q _ _ _ (S.grow0 (out0 S5 up sL (fun a o e => S.get e) gL)) ga
theorem x_try {body suite : List Stmt} {b₀ : Stmt} {x : Expr} {n : Str} {p1 p2 : Pos} {s : Shared} {Q : Flow → Shared → Prop}
    (q : wpAny (model prog w) A (execs body env) (Then prog w A rest env Q E)
      (fun e s₁ => wpAny (model prog w) A (noteFrame e env) (fun _ s₂ => wpAny (model prog w) A (setFlight e none) (fun _ s₃ => wpAny (model prog w) A (handleBy e env [.ExceptHandler (some x) (some n) (b₀ :: suite) p1]) (Then prog w A rest env Q E) E s₃) E s₂) E s₁) s) :
    wpAny (model prog w) A (execs (.Try body [.ExceptHandler (some x) (some n) (b₀ :: suite) p1] [] [] p2 :: rest) env) Q E s := by
  have e : ∀ (f : Flow) (s' : Shared), Then prog w A rest env Q E f s' → (match f with | .next => wpAny (model prog w) A (execs rest env) Q E s' | f => Q f s') := by
    intro f s' z; cases f <;> exact z
  refine wpAny_execs_cons (wpAny_mono (wpAny_Try_except (Q := Then prog w A rest env Q E) (wpAny_mono q (fun f s' z => ?_) fun _ _ z => z)) e fun _ _ x => x)
  cases f with
  | next => exact wpAny_execs_nil z
  | _ => exact z
theorem handle46 {e : Addr} {x : Expr} {n : Str} {b₀ : Stmt} {suite : List Stmt} {pos : Pos} {rest : List ExceptHandler} {s : Shared} {Q : Flow → Shared → Prop} {E' : Value → Shared → Prop}
    (q : wpAny (model prog w) (A.mark (some (.ref e))) (eval x env) (fun v s₁ => v = .ref 46 ∧ Cls46 s₁.heap ∧ (∃ oe, s₁.heap.get? e = some oe ∧ oe.cls = .ref 46) ∧
      wpAny (model prog w) (A.mark (some (.ref e))) (setFlight (.ref e) none) (fun _ s₂ => wpAny (model prog w) (A.mark (some (.ref e))) (storeName env n (.ref e)) (fun _ s₃ => wpAny (model prog w) (A.mark (some (.ref e))) (execs (b₀ :: suite) env)
        (fun f s₄ => wpAny (model prog w) A (do bindName env n .none; unbindBehindTheSuite env n pos) (fun _ s₅ => Q f s₅) (fun _ _ => False) s₄) (fun _ _ => False) s₃) (fun _ _ => False) s₂) (fun _ _ => False) s₁) (fun _ _ => False) s) :
    wpAny (model prog w) A (handleBy (.ref e) env (.ExceptHandler (some x) (some n) (b₀ :: suite) pos :: rest)) Q E' s := by
  refine wpAny_handleBy_cons (codeAny_handlers_test (wpAny_mono q (fun c s₁ h₁ => ?_) fun _ _ y => y.elim)) (by intro q; (first | with_reducible exact no_some q | with_reducible exact some_no q | with_reducible exact no_bool q | with_reducible exact no_bool' q | cases q))
  refine and4 (h₁) fun er1_0 C hp1_2 hk => ?_
  try clear h₁
  subst er1_0
  refine ex1 (hp1_2) fun oe hx2 => ?_
  refine and2 hx2 fun he hcls => ?_
  clear hx2
  clear hp1_2
  obtain ⟨nm, qn, bs, sn, sub, ab, col, dd, k0, k1, k2, k3, k5, mN, hC, hn, hi⟩ := C.ex
  obtain ⟨hh, g, d, tk, os⟩ := s₁
  refine wpAny_excMatches_sub_self hC he hcls (by decide) ?_
  refine codeAny_handlers_suite_as (wpAny_mono hk (fun _ s₂ h₂ => wpAny_mono h₂ (fun _ s₃ h₃ => wpAny_mono h₃ (fun f s₄ h₄ => wpAny_mono h₄ (fun _ _ z => z) fun _ _ z => z.elim) fun _ _ z => z.elim) fun _ _ z => z.elim) fun _ _ z => z.elim)
open Classical in
theorem raises_spec {v : Value} {envW : Env} {Q : Value → Shared → Prop} (o : Ok 6 A) (hfr : A.frames = some [envW]) (hf : envW.frame = some L) (hk : envW.scope.kind = .function) (S : St B G₀ L m G h) (Z : Bs (KK w) VV LL mg mb B) (hv : Alien G v)
    (q : ∀ h' t', St B G₀ L m G h' → Q (.bool true) (c.at h' t')) : wpAny (model prog w) A (call (.ref 356) [v]) Q E (c.at h t) := by
  refine' enterE [((Str.ofString "value"), v)] o.room (Z.at_ S) (fun a o e => S.get e) ?ho ?hcd ?hb ?hl ?hc ?hm ?_ ?c1 ?c2 ?c3
  case ho => exact rfl
  case hcd => kernel_rfl
  case hb => exact BindsTo.of_eq rfl
  case hl => kernel_rfl
  case hc => kernel_rfl
  case hm => exact binds1
  case c1 => exact rfl
  case c2 => exact rfl
  case c3 => exact rfl
  intro LR h₁ t₁ S1 Z1 gL sL up
  refine never ?_
  refine x_try ?_
  repeat cell_call
  refine ex1 (ns_isdict S.ns) fun oW hx5 => ?_
  refine and2 hx5 fun hoW hoWd => ?_
  clear hx5
  refine ex1 (ns_isdict S1.ns) fun oR hx6 => ?_
  refine and2 hx6 fun hoR hoRd => ?_
  clear hx6
  have hl1 : ∀ env : Env, env.scope.kind = .function → env.frame = some LR → Frames h₁ [env, envW] := fun env k f => frames_cons k f hoR hoRd (frames_cons hk hf (up _ _ hoW) hoWd trivial)
  refine kind_raise (o.deeper.less (by first | decide | omega)) (Around.frames_deeper hfr) (hl1 _ rfl rfl) (Z1.mono fun b o z => (of_mask z).2) (fun a o e => S1.get e) (hv.mono fun _ _ z => z) fun e T dx h₂ t₂ K1 K2 hen hTn hdn F D => ?_
  have hLR : LR ≠ L := fun z => by rw [z, hoW] at sL; (first | with_reducible exact no_some sL | with_reducible exact some_no sL | with_reducible exact no_bool sL | with_reducible exact no_bool' sL | cases sL)
  have fr2 : ∀ env : Env, env.frame = some LR → frs [env, envW] = [LR, L] := fun env f => by simp [frs, f, hf]
  rw [fr2 _ rfl] at K1 K2
  have hl2 : ∀ env : Env, env.scope.kind = .function → env.frame = some LR → Frames h₂ [env, envW] := fun env k f => by
    refine (hl1 env k f).of_keeps fun b o z zd => ?_
    by_cases hb : b ∈ [LR, L]
    · refine ex1 (K2 b o hb z) fun sl y => ?_
      exact ⟨_, y, rfl⟩
    · exact ⟨o, K1 b o hb z, rfl⟩
  refine note46 (s := c.at h₂ t₂) (outer := [envW]) (L := LR) (Around.frames_deeper hfr) (hl2 _ rfl rfl) rfl F fun h₃ T' K3 F3 hT3 => ?_
  refine unmark46 (s := c.at h₃ t₂) F3 fun h₄ K4 F4 => ?_
  have k3o := K3.out
  have k3f := K3.fr
  rw [fr2 _ rfl] at k3o k3f
  have inT : ∀ b o, h₂.get? b = some o → b ≠ T' := fun b o z y => by
    have hT3 : h₂.get? T' = none := hT3
    rw [y, hT3] at z; (first | with_reducible exact no_some z | with_reducible exact some_no z | with_reducible exact no_bool z | with_reducible exact no_bool' z | cases z)
  have far4 : ∀ b o, b ≠ LR → b ≠ L → h₁.get? b = some o → h₄.get? b = some o := fun b o n1 n2 z => by
    have nb : b ∉ [LR, L] := fun y => by
      rcases List.mem_cons.mp y with y | y
      · exact n1 y
      · exact n2 (List.mem_singleton.mp y)
    have z2 := K1 b o nb z
    have z3 : h₃.get? b = some o := k3o b o nb (fun y => by
      rcases y with y | y
      · rw [y, hen] at z; (first | with_reducible exact no_some z | with_reducible exact some_no z | with_reducible exact no_bool z | with_reducible exact no_bool' z | cases z)
      · rw [y, hTn] at z; (first | with_reducible exact no_some z | with_reducible exact some_no z | with_reducible exact no_bool z | with_reducible exact no_bool' z | cases z)) z2
    exact (K4.2 b (inT b o z2)).trans z3
  have near4 : ∀ b o, b = LR ∨ b = L → h₁.get? b = some o → ∃ sl, h₄.get? b = some { o with slots := sl } := fun b o n1 z => by
    have nb : b ∈ [LR, L] := by rcases n1 with y | y <;> simp [y]
    refine ex1 (K2 b o nb z) fun sl2 z2 => ?_
    refine ex1 (k3f b _ nb z2) fun sl3 z3 => ?_
    exact ⟨sl3, (K4.2 b (inT b _ z2)).trans z3⟩
  have nsUp : ∀ {b : Addr} {m' : Str → Option Value}, b = LR ∨ b = L → h₁.Ns b m' → h₄.Ns b m' := fun {b m'} n1 hn => by
    refine ex3 (hn) fun o es ep hx10 => ?_
    refine and3 hx10 fun z d r => ?_
    clear hx10
    try clear hn
    refine ex1 (near4 b o n1 z) fun sl y => ?_
    exact ⟨_, es, ep, y, d, r⟩
  refine ex5 (D) fun es n x u ua hx12 => ?_
  refine and4 hx12 fun hdx a1 a2 a3 => ?_
  clear hx12
  try clear D
  have dT : dx ≠ T' := inT dx _ hdx
  have dn : dx ∉ [LR, L] := fun y => by
    rcases List.mem_cons.mp y with y | y
    · rw [y, hoR] at hdn; (first | with_reducible exact no_some hdn | with_reducible exact some_no hdn | with_reducible exact no_bool hdn | with_reducible exact no_bool' hdn | cases hdn)
    · rw [List.mem_singleton.mp y, up _ _ hoW] at hdn; (first | with_reducible exact no_some hdn | with_reducible exact some_no hdn | with_reducible exact no_bool hdn | with_reducible exact no_bool' hdn | cases hdn)
  refine ex4 (F4.ex) fun vs oT ts sl hx13 => ?_
  refine and4 hx13 fun fe _ hTe _ => ?_
  clear hx13
  refine ex4 (F.ex) fun vs2 oT2 ts2 sl2 hx14 => ?_
  refine and6 hx14 fun fe2 _ _ fT2 fd2 _ => ?_
  clear hx14
  have hd4 : h₄.get? dx = some (dictOf es n) := by
    have z3 : h₃.get? dx = some (dictOf es n) := k3o dx _ dn (fun y => by
      rcases y with y | y
      · rw [y, fe2] at hdx
        exact absurd (show Value.ref 46 = Value.type "dict" from congrArg Obj.cls (Option.some.inj hdx)) (by decide)
      · rw [y, fT2] at hdx
        cases hdx; (first | with_reducible exact no_some fd2 | with_reducible exact some_no fd2 | with_reducible exact no_bool fd2 | with_reducible exact no_bool' fd2 | cases fd2)) hdx
    exact (K4.2 dx dT).trans z3
  have noneG : ∀ a, h₁.get? a = none → G a = none := fun a z => by
    cases y : G a with
    | none => rfl
    | some o => rw [S1.get y] at z; (first | with_reducible exact no_some z | with_reducible exact some_no z | with_reducible exact no_bool z | with_reducible exact no_bool' z | cases z)
  have eLR : e ≠ LR := fun y => by rw [y, hoR] at hen; (first | with_reducible exact no_some hen | with_reducible exact some_no hen | with_reducible exact no_bool hen | with_reducible exact no_bool' hen | cases hen)
  have dLR : dx ≠ LR := fun y => dn (by simp [y])
  have ed : e ≠ dx := fun y => by
    rw [y, hd4] at fe
    exact absurd (show Value.type "dict" = Value.ref 46 from congrArg Obj.cls (Option.some.inj fe)) (by decide)
  let G4 : PMap := put (put G dx (dictOf es n)) e { cls := .ref 46, dict := some dx, data := .fields vs, slots := sl }
  have G4old : ∀ a o, G a = some o → G4 a = some o := fun a o z => put_old (by rw [put_ne ed]; exact noneG e hen) _ _ (put_old (noneG dx hdn) _ _ z)
  have G4in : ∀ a o, G4 a = some o → h₄.get? a = some o ∧ a ≠ LR ∧ a ≠ T' := fun a o z => by
    by_cases y : a = e
    · subst y
      have z : (put (put G dx (dictOf es n)) a { cls := .ref 46, dict := some dx, data := .fields vs, slots := sl }) a = some o := z
      rw [put_self] at z; (first | with_reducible exact no_some z | with_reducible exact some_no z | with_reducible exact no_bool z | with_reducible exact no_bool' z | cases z)
      exact ⟨fe, eLR, Ne.symm hTe⟩
    · have z : (put (put G dx (dictOf es n)) e { cls := .ref 46, dict := some dx, data := .fields vs, slots := sl }) a = some o := z
      rw [put_ne y] at z
      by_cases y2 : a = dx
      · subst y2
        rw [put_self] at z; (first | with_reducible exact no_some z | with_reducible exact some_no z | with_reducible exact no_bool z | with_reducible exact no_bool' z | cases z)
        exact ⟨hd4, dLR, dT⟩
      · rw [put_ne y2] at z
        have z1 := S1.get z
        have aLR := (S1.sub a o z).2.1
        have aL : a ≠ L := (S.sub a o z).2.1
        have nb : a ∉ [LR, L] := fun y => by
          rcases List.mem_cons.mp y with y | y
          · exact aLR y
          · exact aL (List.mem_singleton.mp y)
        exact ⟨far4 a o aLR aL z1, aLR, inT a o (K1 a o nb z1)⟩
  have S4 : St (mask (fun a => a = LR ∨ a = T') h₄.get?) G4 LR (upd none_ (Str.ofString "value") v) G4 h₄ :=
    ⟨nsUp (.inl rfl) S1.ns, fun b o z => (of_mask z).2, mask_in (.inl rfl), fun a o z => by rw [mask_out fun y => y.elim (G4in a o z).2.1 (G4in a o z).2.2]; exact (G4in a o z).1, fun _ _ z => z, fun a o z => ⟨(G4in a o z).1, (G4in a o z).2.1, .inl z⟩⟩
  have far : ∀ b o, h.get? b = some o → b ≠ L → mask (fun a => a = LR ∨ a = T') h₄.get? b = some o := fun b o z nL => by
    have nR : b ≠ LR := fun y => by rw [y, sL] at z; (first | with_reducible exact no_some z | with_reducible exact some_no z | with_reducible exact no_bool z | with_reducible exact no_bool' z | cases z)
    have nb : b ∉ [LR, L] := fun y => by
      rcases List.mem_cons.mp y with y | y
      · exact nR y
      · exact nL (List.mem_singleton.mp y)
    rw [mask_out fun y => y.elim nR (inT b o (K1 b o nb (up b o z)))]
    exact far4 b o nR nL (up b o z)
  have Z4 : Bs (KK w) VV LL mg mb (mask (fun a => a = LR ∨ a = T') h₄.get?) := Z.mono fun b o z => far b o (S.keep b o z) fun y => by rw [y, S.off] at z; (first | with_reducible exact no_some z | with_reducible exact some_no z | with_reducible exact no_bool z | with_reducible exact no_bool' z | cases z)
  have I4 : ExcG G4 e dx es := ⟨vs, sl, n, put_self, by show put (put G dx (dictOf es n)) e _ dx = _; rw [put_ne (Ne.symm ed), put_self]⟩
  have fin : ∀ {m' : Str → Option Value} {G' : PMap} {h' h'' : Heap} {t'' : Nat}, St (mask (fun a => a = LR ∨ a = T') h₄.get?) G4 LR m' G' h' → Heap.SameBut LR h' h'' → Q (.bool true) (c.at h'' t'') := fun {m' G' h' h'' t''} S6 hs => by
    have out : ∀ b o, mask (fun a => a = LR ∨ a = T') h₄.get? b = some o → h''.get? b = some o := fun b o z => (hs.2 b fun y => by rw [y, S6.off] at z; (first | with_reducible exact no_some z | with_reducible exact some_no z | with_reducible exact no_bool z | with_reducible exact no_bool' z | cases z)).trans (S6.keep b o z)
    have hL4 : h''.Ns L m := by
      refine ex3 (S.ns) fun o es ep hx15 => ?_
      refine and3 hx15 fun z d r => ?_
      clear hx15
      have z1 := up L o z
      refine ex1 (near4 L o (.inr rfl) z1) fun sl y => ?_
      refine ex1 (K2 L o (by simp) z1) fun sl2 y2 => ?_
      refine ⟨_, es, ep, out L { o with slots := sl } (by rw [mask_out fun q => q.elim (fun q => hLR q.symm) (inT L _ y2)]; exact y), d, r⟩
    refine q h'' t'' ⟨hL4, fun b o z => out b o (far b o (S.keep b o z) fun y => by rw [y, S.off] at z; (first | with_reducible exact no_some z | with_reducible exact some_no z | with_reducible exact no_bool z | with_reducible exact no_bool' z | cases z)), S.off, S.old, S.mono, fun a o z => ⟨out a o (far a o (S.get z) (S.sub a o z).2.1), (S.sub a o z).2⟩⟩
  clear_value G4
  refine handle46 ?_
  repeat cell_call
  refine ⟨rfl, cls46 (Z4.k S4.keep), ⟨_, fe, rfl⟩, ?_⟩
  refine unmark46 (s := c.at h₄ t₂) F4 fun h₅ K5 F5 => ?_
  have S5 := S4.grow (W := fun a => a = T') (.heap (fun a o z => (K5.2 a (G4in a o z).2.2).trans (G4in a o z).1) fun a o nw z => (K5.2 a nw).trans z) (fun a z => mask_in (.inr z)) (fun z => by
    have z : LR = T' := z
    refine ex1 (K2 LR oR (by simp) hoR) fun sl2 y2 => ?_
    exact inT LR _ y2 z)
  clear S4
  repeat cell_call
  refine BoolOp_and ?_
  repeat cell_call
  refine exc_get (by assumption) Z4 I4 (by kernel_rfl) a2 rfl fun t6 => ?_
  refine UnaryOp_ ?_
  repeat cell_call
  refine neg_int ?_
  repeat cell_call
  refine BoolOp_one ?_
  repeat cell_call
  refine e_meth fun pl => ?_
  repeat cell_call
  rename St _ _ _ _ _ _ => S6
  refine exc_meth (f := 43) S6 Z4 I4 (by kernel_rfl) (by kernel_rfl) a3 ?_
  refine cwK0 S6 Z4 (by kernel_rfl) ?_
  refine exc_told (by have := o.depth; show A.depth + 1 < 900; omega) S6 Z4 I4 a1 a2 fun a h₆ t₆ S7 ga => ?_
  repeat cell_call
  refine exc_get S7 Z4 (I4.mono S7.mono) (by kernel_rfl) a1 rfl fun t7 => ?_
  repeat cell_call
  refine UnaryOp_ ?_
  repeat cell_call
  refine neg_int ?_
  repeat cell_call
  rename_i ta h8 S8 gta
  refine eqT (xs := [.str x, .int (-1)]) (ys := [.str x, .int (-1)]) S8 (.tup (put_old gta _ _ put_self) (.cons (.str _ _) (.cons (.int _ _) .nil))) (.tup put_self (.cons (.str _ _) (.cons (.int _ _) .nil))) ?_ ⟨req_str, fun _ => ⟨req_int, fun _ => trivial⟩⟩ ?_
  · have := o.units
    show A.units + 3 < 9900
    omega
  rw [decide_eq_true rfl]
  refine wpAny_nameGoes (by kernel_rfl) S8.ns rfl fun h₉ m₉ hn hs => ?_
  exact fin S8 hs
end

end
section
theorem ok_up : ∀ (n : Nat) (d : Ob), d.ok n = true → d.ok (n + 1) = true := by
  intro n
  induction n with
  | zero => intro d h; cases d <;> first | exact h | (first | with_reducible exact no_some h | with_reducible exact some_no h | with_reducible exact no_bool h | with_reducible exact no_bool' h | cases h)
  | succ n ih =>
    have hD : ∀ ds : List (Str × Ob), (Ob.dict ds).ok (n + 1) = true → (Ob.dict ds).ok (n + 2) = true := fun ds h => by
      refine and3 (ok_dict h) fun a b d => ?_
      show (decide (ds.length ≤ 3) && decide (ds.map (·.1)).Nodup && ds.all fun d => abc.contains d.1 && Ob.ok (n + 1) d.2) = true
      rw [Bool.and_eq_true, Bool.and_eq_true]
      refine ⟨⟨decide_eq_true a, decide_eq_true b⟩, List.all_eq_true.mpr fun x hx => ?_⟩
      refine and2 (d x.1 x.2 hx) fun y z => ?_
      rw [Bool.and_eq_true]
      exact ⟨List.contains_iff_mem.mpr y, ih x.2 z⟩
    intro d h
    cases d with
    | array ds =>
      refine and2 (ok_array h) fun a b => ?_
      show (decide (ds.length ≤ 3) && ds.all fun d => Ob.ok (n + 1) d) = true
      rw [Bool.and_eq_true]
      exact ⟨decide_eq_true a, List.all_eq_true.mpr fun x hx => ih x (b x hx)⟩
    | dict ds => exact hD ds h
    | stream ds o =>
      refine and2 (ok_stream h) fun a b => ?_
      show ((Ob.dict ds).ok (n + 2) && okBytes o) = true
      rw [hD ds a, b]; rfl
    | _ => exact h
noncomputable def TupKeep (G G' : PMap) : Prop := ∀ a vs n, G a = some (tupOf vs n) → G' a = some (tupOf vs n)
section
variable {prog : Program} {w : World} {G G' : PMap} {a b : Addr} {q : Int × Int} {xs : List ((Int × Int) × Addr × Value)} {T : Tab}
theorem PairAt.tk (k : TupKeep G G') : PairAt G b q → PairAt G' b q := fun h => ex3 h fun n t u e => ⟨n, t, u, k _ _ _ e⟩
theorem TVals.tk (k : TupKeep G G') {xs : List ((Int × Int) × Addr × Value)} {T : Tab} (h : TVals G xs T) : TVals G' xs T := by
  induction h with
  | nil => exact .nil
  | cons h _ r => exact .cons (h.tk k) r
theorem PIn.tk (H : PIn prog w G a xs) (k : TupKeep G G') (e : G' a = G a) : PIn prog w G' a xs :=
  ⟨ex3 H.ex fun o es ep y => ⟨o, es, ep, e.trans y.1, y.2⟩, fun x hx => (H.keys x hx).tk k, H.nodup, H.sys⟩
end
inductive LoopIn (prog : Program) (w : World) (p ta : Addr) (K i : Nat) (U : PMap) : Prop
  | mk (xs : List ((Int × Int) × Addr × Value)) (T : Tab) (a1 : PenAt U p (K + 3 * i)) (a2 : PIn prog w U ta xs) (a3 : TVals U xs T) (a4 : TabOk T) (a5 : xs.length ≤ i) (a6 : ∀ q ∈ xs.map (·.1), q.1 ≤ (i : Int)) : LoopIn prog w p ta K i U
inductive LawInv (prog : Program) (w : World) (v1 : Value) (rb p tt : Addr) (K i : Nat) (m : Str → Option Value) (U : PMap) : Prop
  | mk (q1 : m (Str.ofString "one") = some v1) (q2 : m (Str.ofString "row") = some (.ref rb)) (q3 : m (Str.ofString "table") = some (.ref tt)) (q4 : m (Str.ofString "pen") = some (.ref p)) (LI : LoopIn prog w p tt K i U) : LawInv prog w v1 rb p tt K i m U
theorem tab_snoc {T : Tab} {p q : Int × Int} (hT : TabOk T) (h1 : okInt 1 9 q.1 = true) (h2 : okInt 0 1 q.2 = true) : TabOk (T ++ [(p, q)]) := fun p' q' h => by
  unfold Tab.at at h
  rw [List.find?_append] at h
  cases e : T.find? (fun e => decide (e.1 = p')) with
  | some x =>
    rw [e] at h
    exact hT p' q' (by unfold Tab.at; rw [e]; exact h)
  | none =>
    rw [e] at h
    simp only [Option.none_or, List.find?_cons, List.find?_nil] at h
    split at h
    · cases h; exact ⟨h1, h2⟩
    · (first | with_reducible exact no_some h | with_reducible exact some_no h | with_reducible exact no_bool h | with_reducible exact no_bool' h | cases h)
section
variable {prog : Program} {w : World} {A : Around} {E : Value → Shared → Prop} {c : Fx} {h : Heap} {t : Nat} {mg mb m : Str → Option Value} {B G₀ G : PMap} {L a b : Addr} {env : Env} {Q : Value → Shared → Prop}
theorem range2 {i j : Int} {u v : Tok} (S : St B G₀ L m G h) (q : ∀ r t1 t2 t3 h' t', St B G₀ L m (put G r { cls := .type "range", data := .fields #[.int i t1, .int j t2, .int 1 t3] }) h' → G r = none → Q (.ref r) (c.at h' t')) : wpAny (model prog w) A (call (.type "range") [.int i u, .int j v]) Q E (c.at h t) := by
  have S1 := S.push (fun _ _ e => e) ({ cls := .type "range", data := .fields #[.int i u, .int j v, .int 1 t] } : Obj)
  exact call_range_2 (s := c.at h t) (q _ _ _ _ _ _ S1 S.size)
theorem neS {x y : Str} {u v : Tok} {s : Shared} (q : Q (.bool (!(x == y))) s) : wpAny (model prog w) A (compareOp .NotEq (.str x u) (.str y v)) Q E s := SeqAt.RcNeAt.str_str x u y v _ _ _ _ q
theorem neB {x y : Bool} {s : Shared} (q : Q (.bool (!(x == y))) s) : wpAny (model prog w) A (compareOp .NotEq (.bool x) (.bool y)) Q E s := SeqAt.RcNeAt.bool_bool x y _ _ _ _ q
theorem x_swapped {x y : Str} {px py tpos pos : Pos} {k} {value : Expr} {rest : List Stmt} {Q : Flow → Shared → Prop} {s : Shared} (q : wpAny (model prog w) A (eval value env) (fun v s₁ => wpAny (model prog w) A (unpackItems v 2 none) (fun items s₂ => wpAny (model prog w) A (assignInOrder [bindName env y, bindName env x] items.reverse) (fun _ s₃ => wpAny (model prog w) A (execs rest env) Q E s₃) E s₂) E s₁) E s)
    (hs : swapsWithSole [.Tuple [.Name x px, .Name y py] k tpos] value pos.line env = pure false := by kernel_rfl) (hw : swappedStores [.Tuple [.Name x px, .Name y py] k tpos] value env = pure (some [x, y]) := by kernel_rfl) :
    wpAny (model prog w) A (execs (.Assign [.Tuple [.Name x px, .Name y py] k tpos] value pos :: rest) env) Q E s :=
  wpAny_execs_cons (Assign_Tuple_swapped (names := [x, y]) q hs hw)
theorem swap2 {x y : Str} {v v' : Value} {n : Nat} {Q : Unit → Shared → Prop} (S : St B G₀ L m G h) (hb : G b = some (tupOf [v, v'] n)) (hh : A.handled = none) (q : ∀ h' t', St B G₀ L (upd (upd m y v') x v) G h' → Q () (c.at h' t'))
    (hL : env.locals = L := by kernel_rfl) (hk : env.scope.kind = .function := by kernel_rfl) (hx : env.kindOf x = some .local := by kernel_rfl) (hy : env.kindOf y = some .local := by kernel_rfl) :
    wpAny (model prog w) A (unpackItems (.ref b) 2 none) (fun items s₂ => wpAny (model prog w) A (assignInOrder [bindName env y, bindName env x] items.reverse) Q E s₂) E (c.at h t) := by
  refine unpackItems_tuple (s := c.at h t) (items := #[v, v']) hh ⟨_, S.get hb, rfl, _, rfl⟩ fun h' he => ?_
  have S2 := S.kept (h' := h') fun b o e => he b o (Nat.ne_of_lt (Heap.lt_size e)) e
  refine assignInOrder_cons (bindName_ (sL (c := c) (t := t) S2 (fun h2 t2 S3 => ?_) hL hk hy))
  refine assignInOrder_cons (bindName_ (sL S3 (fun h3 t3 S4 => ?_) hL hk hx))
  exact assignInOrder_nil (q h3 t3 S4)
end
theorem maskUp {G G' : PMap} {p : Addr} (up : ∀ a o, a ≠ p → G a = some o → G' a = some o) : ∀ a o, mask (fun a => a = p) G a = some o → mask (fun a => a = p) G' a = some o := fun a o e => by
  refine and2 (of_mask e) fun n e => ?_
  rw [mask_out (W := fun a => a = p) n]; exact up a o n e
theorem PenAt.win {U : PMap} {p : Addr} {k : Nat} (hp : PenAt U p k) : ∀ a, (fun a => a = p) a → U a ≠ none := fun a z => by have z : a = p := z; rw [z]; exact hp.dom
theorem neSs {prog : Program} {w : World} {A : Around} {E : Value → Shared → Prop} {Q : Value → Shared → Prop} {x : Str} {u v : Tok} {s : Shared} (q : Q (.bool false) s) : wpAny (model prog w) A (compareOp .NotEq (.str x u) (.str x v)) Q E s :=
  neS (by rw [show (x == x) = true from beq_self_eq_true x]; exact q)
theorem neBs {prog : Program} {w : World} {A : Around} {E : Value → Shared → Prop} {Q : Value → Shared → Prop} {x y : Bool} {s : Shared} (e : x = y) (q : Q (.bool false) s) : wpAny (model prog w) A (compareOp .NotEq (.bool x) (.bool y)) Q E s :=
  neB (by rw [e, show (y == y) = true from beq_self_eq_true y]; exact q)
theorem neIs {prog : Program} {w : World} {A : Around} {E : Value → Shared → Prop} {Q : Value → Shared → Prop} {x : Int} {u v : Tok} {c : Fx} {h : Heap} {t : Nat} (q : Q (.bool false) (c.at h t)) : wpAny (model prog w) A (compareOp .NotEq (.int x u) (.int x v)) Q E (c.at h t) :=
  neI (by rw [show (x != x) = false from bne_self_eq_false x]; exact q)
theorem row_first {G : PMap} {v : Value} {x : Str} {xs : List Rw} (h : RIn G v (.tup (.str x :: xs))) : ∃ b vs n u, v = .ref b ∧ G b = some (tupOf (.str x u :: vs) n) := by
  cases h with
  | tup e r =>
    cases r with
    | cons hx _ =>
      cases hx with
      | str _ u => exact ⟨_, _, _, u, rfl, e⟩
section
variable {prog : Program} {w : World} {U U' : PMap} {p tt : Addr} {K i k : Nat} {xs : List ((Int × Int) × Addr × Value)} {T : Tab}
theorem tupUp (hp : PenAt U p k) (up : ∀ a o, a ≠ p → U a = some o → U' a = some o) : TupKeep U U' := fun a vs n e => up a _ (fun z => by
  refine ex4 (hp) fun _ _ _ _ hx6 => ?_
  refine and2 hx6 fun hp6_4 _ => ?_
  clear hx6
  try clear hp
  refine ex2 (hp6_4) fun o _ hx7 => ?_
  refine and3 hx7 fun e2 ec _ => ?_
  clear hx7
  clear hp6_4
  rw [z, e2] at e
  rw [Option.some.inj e] at ec
  exact absurd (show Value.type "tuple" = Value.type "list" from ec) (by decide)) e
theorem PIn.up (H : PIn prog w U tt xs) (htp : tt ≠ p) (hp : PenAt U p k) (up : ∀ a o, a ≠ p → U a = some o → U' a = some o) : PIn prog w U' tt xs :=
  H.tk (tupUp hp up) (by obtain ⟨o, _, _, e, _⟩ := H.ex; rw [up _ _ htp e, e])
theorem tupPut (H : PIn prog w U tt xs) (o : Obj) : TupKeep U (put U tt o) := fun a vs n e => by
  have ne : a ≠ tt := fun z => by
    refine ex3 (H.ex) fun o' es ep hx8 => ?_
    refine and4 hx8 fun e1 _ e3 _ => ?_
    clear hx8
    rw [z, e1] at e
    cases e; (first | with_reducible exact no_some e3 | with_reducible exact some_no e3 | with_reducible exact no_bool e3 | with_reducible exact no_bool' e3 | cases e3)
  rw [put_ne ne]; exact e
theorem LoopIn.next (H : LoopIn prog w p tt K i U) (htp : tt ≠ p) (hp' : PenAt U' p (K + 3 * i + 1)) (up : ∀ a o, a ≠ p → U a = some o → U' a = some o) : LoopIn prog w p tt K (i + 1) U' := by
  obtain ⟨xs, T, hp, h2, h3, h4, h5, h6⟩ := H
  exact ⟨xs, T, hp'.le (by first | decide | omega), h2.up htp hp up, h3.tk (tupUp hp up), h4, by omega, fun q hq => by have := h6 q hq; omega⟩
end

end
section
section
open Classical
variable {prog : Program} {w : World} {A : Around} {E : Value → Shared → Prop} {c : Fx} {h : Heap} {t : Nat} {mg mb : Str → Option Value} {G : PMap} {a : Addr} {vs : List Value} {ns : List Int} {Bd : Nat} {Q : Value → Shared → Prop}
theorem law_spec (o : Ok 12 A) (hu0 : A.units ≤ 1000) (hfr : A.frames = some []) (hg : A.guards = some []) (Z : Bs (KK w) VV LL mg mb h.get?) (hG : ∀ a o, G a = some o → h.get? a = some o) (hl : h.IsList a vs.toArray) (hi : IntsAre vs ns) (hz : vs.length ≤ 1000) (hb : ∀ x ∈ ns, Builtin.Int.intBits x ≤ Bd) (hBd : Bd ≤ 2000000)
    (q : ∀ G' h' t', Grow No G h G' h' → Q (.bool true) (c.at h' t')) : wpAny (model prog w) A (call (.ref 363) [.ref a]) Q E (c.at h t) := by
  refine' enter No [((Str.ofString "script"), .ref a)] o.room Z.no hG ?ho ?hcd ?hb ?hl ?hc ?hm ?_ ?c1 ?c2 ?c3
  case ho => exact rfl
  case hcd => kernel_rfl
  case hb => exact BindsTo.of_eq rfl
  case hl => kernel_rfl
  case hc => kernel_rfl
  case hm => exact binds1
  case c1 => exact rfl
  case c2 => exact rfl
  case c3 => exact rfl
  intro L h₁ t₁ S Z gL sL up
  rw [mask_no] at S
  have hB : ∀ {b : Addr}, h.get? b = none → b ≠ L → h₁.get? b = none → mask (fun a => No a ∨ a = L) h₁.get? b = none := fun _ n z => by rw [mask_out fun q => q.elim (fun q => q) n]; exact z
  repeat cell_call
  have hl1 : h₁.IsList a vs.toArray := by obtain ⟨o, e, r⟩ := hl; exact ⟨o, up a o e, r⟩
  refine pen_spec (o.deeper.less (Nat.le_of_ble_eq_true rfl)) (Z.at_ S) (fun _ _ e => S.get e) hl1 hi hz hb hBd (fun p G2 h2 t2 g2 hp hpn => ?_)
  have S2 := S.grow0 g2
  have hBp : mask (fun a => No a ∨ a = L) h₁.get? p = none := by
    cases e : mask (fun a => No a ∨ a = L) h₁.get? p with
    | none => rfl
    | some o => rw [S.keep _ _ e] at hpn; (first | with_reducible exact no_some hpn | with_reducible exact some_no hpn | with_reducible exact no_bool hpn | with_reducible exact no_bool' hpn | cases hpn)
  repeat cell_call
  rename St _ _ _ _ _ _ => S2b
  have hpL : ∀ {m' : Str → Option Value} {U : PMap} {h' : Heap} {k : Nat}, St (mask (fun a => No a ∨ a = L) h₁.get?) G L m' U h' → PenAt U p k → L ≠ p := fun S hp z => by
    refine ex1 (Option.ne_none_iff_exists'.mp hp.dom) fun ob e => ?_
    exact (S.sub _ _ e).2.1 z.symm
  have hBP : ∀ a, (fun a => a = p) a → mask (fun a => No a ∨ a = L) h₁.get? a = none := fun a z => by have z : a = p := z; rw [z]; exact hBp
  refine object_spec 3 _ _ _ _ _ _ _ _ _ _ (o.deeper.less (Nat.le_of_ble_eq_true rfl)) (Z.sub S2b hBP) (fun _ _ e => S2b.get e) hp (by decide) (fun v1 d1 f1 G3 h3 t3 g3 hp3 hv1 fr1 ok1 => ?_)
  have S3 := S2b.grow g3 hBP (hpL S2b hp)
  clear g2 g3
  cell_call
  rename St _ _ _ _ _ _ => S3b
  refine x_assign (hsw := by kernel_rfl!) ?_
  refine e_ifJoin (fun v s' => ∃ d f U h' t', s' = c.at h' t' ∧ St (mask (fun a => No a ∨ a = L) h₁.get?) G L (upd (upd (upd none_ (Str.ofString "script") (.ref a)) (Str.ofString "pen") (.ref p)) (Str.ofString "one") v1) U h' ∧ (∀ a o, a ≠ p → G3 a = some o → U a = some o) ∧ PenAt U p (0 + cost 3 + 1 + cost 2) ∧ OIn prog w (mask (fun a => a = p) U) f v d ∧ d.ok 3 = true) ?_ ?_
  · repeat cell_call
    refine drawIn S3b Z hBp (o.deeper.less (Nat.le_of_ble_eq_true rfl)) hp3 (by decide) (by decide) (by decide) (fun r u4 G4 h4 t4 S4 up4 hp4 r0 r1 => ?_)
    repeat cell_call
    refine iteB (fun hb0 => ?_) (fun hb0 => ?_)
    · repeat cell_call
      refine copy_spec 3 d1 ok1 _ _ _ _ _ _ _ _ _ (o.deeper.less (Nat.le_of_ble_eq_true rfl)) (Z.at_ S4) (fun a o e => S4.get (mask_sub a o e)) (hv1.mono (maskUp up4)) (fun v5 G5 f5 h5 t5 g5 hv5 fr5 => ?_)
      refine ex1 (S4.call g5 hp4.win) fun U5 hx2 => ?_
      refine and3 hx2 fun S5 uU5 uG5 => ?_
      clear hx2
      exact ⟨d1, f5, U5, h5, t5, rfl, S5, fun a o n e => uU5 a o (up4 a o n e), (hp4.mono uU5).le (by decide), hv5.mono uG5, ok1⟩
    · repeat cell_call
      refine object_spec 2 _ _ _ _ _ _ _ _ _ _ (o.deeper.less (Nat.le_of_ble_eq_true rfl)) (Z.sub S4 hBP) (fun _ _ e => S4.get e) hp4 (by decide) (fun v5 d5 f5 G5 h5 t5 g5 hp5 hv5 fr5 ok5 => ?_)
      exact ⟨d5, f5, G5, h5, t5, rfl, S4.grow g5 hBP (hpL S4 hp4), fun a o n e => g5.mono a o n (up4 a o n e), hp5, hv5, ok_up 2 d5 ok5⟩
  intro v2 s2 hi2_2
  refine ex5 (hi2_2) fun d2 f2 G4 h4 t4 hx4 => ?_
  refine and6 hx4 fun er4_5 S4 up4 hp4 hv2 ok2 => ?_
  clear hx4
  clear hi2_2
  subst er4_5
  replace hv1 := hv1.mono (maskUp up4)
  clear hp hpn hp3 fr1 S3 S3b up4 S2b S2
  cell_call
  rename St _ _ _ _ _ _ => S5
  refine x_swapped ?_
  repeat cell_call
  refine lrow_spec (T := none) 3 d1 ok1 _ _ _ _ _ _ _ _ _ _ (o.deeper.less (Nat.le_of_ble_eq_true rfl)) (Z.at_ S5) (fun a o e => S5.get (mask_sub a o e)) hv1 .no (fun r1 G6 h6 t6 g6 rr1 => ?_)
  refine ex1 (S5.call g6 hp4.win) fun U6 hx5 => ?_
  refine and3 hx5 fun S6 uU6 uG6 => ?_
  clear hx5
  replace rr1 := rr1.mono uG6
  clear g6 uG6
  repeat cell_call
  refine lrow_spec (T := none) 3 d2 ok2 _ _ _ _ _ _ _ _ _ _ (o.deeper.less (Nat.le_of_ble_eq_true rfl)) (Z.at_ S6) (fun a o e => S6.get (mask_sub a o e)) (hv2.mono (mask_mono uU6)) .no (fun r2 G7 h7 t7 g7 rr2 => ?_)
  have hp6 := hp4.mono uU6
  refine ex1 (S6.call g7 hp6.win) fun U7 hx6 => ?_
  refine and3 hx6 fun S7 uU7 uG7 => ?_
  clear hx6
  replace rr2 := rr2.mono uG7
  clear g7 uG7
  repeat cell_call
  rename_i ta h8 S8 gta
  refine swap2 S8 put_self o.deeper.hh (fun h9 t9 S9 => ?_)
  have hK : (0 + cost 3 + 1 + cost 2) ≤ 2000 := by decide
  have up8 : ∀ a o, G4 a = some o → put U7 ta (tupOf [r1, r2] 0) a = some o := fun a o e => put_old gta a o (uU7 a o (uU6 a o e))
  have hp8 := hp4.mono up8
  replace hv1 := hv1.mono (mask_mono (W := fun a => a = p) up8)
  replace hv2 := hv2.mono (mask_mono (W := fun a => a = p) up8)
  replace rr1 := rr1.mono (mask_mono (W := fun a => a = p) fun a o e => put_old (o := tupOf [r1, r2] 0) gta a o (uU7 a o e))
  replace rr2 := rr2.mono (mask_mono (W := fun a => a = p) (put_old (o := tupOf [r1, r2] 0) gta))
  generalize put U7 ta (tupOf [r1, r2] 0) = U9 at *
  generalize 0 + cost 3 + 1 + cost 2 = K at *
  clear S4 S5 S6 S7 S8 gta uU6 uU7 up8 hp4 hp6
  have hu : ∀ env k, k ≤ 800 → (A.deeper env).units + k < cLine := fun env k hk => by show A.units + 3 + k < 9900; omega
  repeat cell_call
  refine told_spec 3 d1 ok1 _ _ _ _ _ _ _ _ _ (o.deeper.less (Nat.le_of_ble_eq_true rfl)) (Z.at_ S9) (fun a o e => S9.get (mask_sub a o e)) hv1 (fun x1 G10 h10 t10 g10 rx1 => ?_)
  refine ex1 (S9.call g10 hp8.win) fun U10 hx7 => ?_
  refine and3 hx7 fun S10 uU10 uG10 => ?_
  clear hx7
  repeat cell_call
  refine neSelf ok1 S10 (rx1.mono fun a o e => mask_sub a o (uG10 a o e)) (rr1.mono fun a o e => uU10 a o (mask_sub a o e)) (hu _ _ (by decide)) ?_
  repeat cell_call
  have Sa := S10.less S9.mono uU10
  clear uG10 g10 rx1
  clear S10
  refine told_spec 3 d1 ok1 _ _ _ _ _ _ _ _ _ (o.deeper.less (Nat.le_of_ble_eq_true rfl)) (Z.at_ Sa) (fun a o e => Sa.get (mask_sub a o e)) hv1 (fun x1 G10 h10 t10 g10 rx1 => ?_)
  refine ex1 (Sa.call g10 hp8.win) fun U10 hx8 => ?_
  refine and3 hx8 fun Sb uU10 uG10 => ?_
  clear hx8
  refine ex1 (row_tag 3 d1 ok1) fun xs1 ex1 => ?_
  obtain ⟨xs2, ex2⟩ := row_tag 3 d2 ok2
  have ni1 := nice_row 3 d1 ok1
  have ni2 := nice_row 3 d2 ok2
  repeat cell_call
  refine reprRow Sb (rx1.mono fun a o e => mask_sub a o (uG10 a o e)) ⟨_, ex1⟩ ni1 (by decide) hg (by show A.units + 3 + 6000 < 9900; omega) (fun u11 h11 t11 Sc => ?_)
  repeat cell_call
  refine reprRow Sc (rr1.mono fun a o e => uU10 a o (mask_sub a o e)) ⟨_, ex1⟩ ni1 (by decide) hg (by show A.units + 3 + 6000 < 9900; omega) (fun u12 h12 t12 Sd => ?_)
  repeat cell_call
  refine neSs ?_
  repeat cell_call
  replace Sd := Sd.less S9.mono uU10
  clear uG10 g10 rx1 Sc Sb
  refine told_spec 3 d2 ok2 _ _ _ _ _ _ _ _ _ (o.deeper.less (Nat.le_of_ble_eq_true rfl)) (Z.at_ Sd) (fun a o e => Sd.get (mask_sub a o e)) hv2 (fun x2 G13 h13 t13 g13 rx2 => ?_)
  obtain ⟨U13, Se, uU13, uG13⟩ := Sd.call g13 hp8.win
  repeat cell_call
  refine neSelf ok2 Se (rx2.mono fun a o e => mask_sub a o (uG13 a o e)) (rr2.mono fun a o e => uU13 a o (mask_sub a o e)) (hu _ _ (by decide)) ?_
  repeat cell_call
  replace Se := Se.less S9.mono uU13
  clear uG13 g13 rx2
  refine same_spec (n := 3) (by decide) ok1 ok2 (o.deeper.less (Nat.le_of_ble_eq_true rfl)) (Z.at_ Se) (fun a o e => Se.get (mask_sub a o e)) hv1 hv2 (fun G14 h14 t14 g14 => ?_)
  obtain ⟨U14, Sf, uU14, uG14⟩ := Se.call g14 hp8.win
  replace Sf := Sf.less S9.mono uU14
  clear uG14 g14
  repeat cell_call
  refine reprRow Sf (rr1.mono mask_sub) ⟨_, ex1⟩ ni1 (by decide) hg (by show A.units + 3 + 6000 < 9900; omega) (fun u15 h15 t15 Sg => ?_)
  repeat cell_call
  refine reprRow Sg (rr2.mono mask_sub) ⟨_, ex2⟩ ni2 (by decide) hg (by show A.units + 3 + 6000 < 9900; omega) (fun u16 h16 t16 Sh => ?_)
  repeat cell_call
  refine neBs ?_ ?_
  · rw [Bool.eq_iff_iff, decide_eq_true_iff, beq_iff_eq]
    exact (text_eq ni1.low ni2.low).symm
  repeat cell_call
  clear ni1 ni2 ex2 xs2 rr2 hv2 Sa Sd Se Sf Sg
  obtain ⟨rb, rvs, rn, ru, rfl, hrb⟩ := row_first (show RIn _ r1 _ by rw [← ex1]; exact rr1)
  refine kind_spec (o.deeper.less (Nat.le_of_ble_eq_true rfl)) (Z.at_ Sh) (fun _ _ e => Sh.get e) (hv1.mono mask_sub) (fun u20 h20 t20 g20 => ?_)
  have Si := Sh.grow0 g20
  repeat cell_call
  refine itemT (j := 0) Si (mask_sub _ _ hrb) rfl rfl (by decide) ?_
  repeat cell_call
  refine neSs ?_
  repeat cell_call
  refine number_spec (o.deeper.less (Nat.le_of_ble_eq_true rfl)) (Z.at_ Si) (fun a o e => Si.get (mask_sub a o e)) hv1 (fun G21 h21 t21 g21 => ?_)
  obtain ⟨U21, Sj, uU21, uG21⟩ := Si.call g21 hp8.win
  replace Sj := Sj.less S9.mono uU21
  clear uG21 g21 g20
  repeat cell_call
  refine itemT (j := 0) Sj (mask_sub _ _ hrb) rfl rfl (by decide) ?_
  repeat cell_call
  rename_i s1 _ s2 _ tb h22 S22 gtb
  refine inStrs S22 put_self (.cons (Str.ofString "int") s1 (.cons (Str.ofString "real") s2 .nil)) ?_
  refine neBs (show d1.isNum = _ from rfl) ?_
  have Sk := S22.less S9.mono (put_old gtb)
  clear S22 gtb
  repeat cell_call
  refine depth_spec (n := 3) (by decide) ok1 (o.deeper.less (Nat.le_of_ble_eq_true rfl)) (Z.at_ Sk) (fun a o e => Sk.get (mask_sub a o e)) hv1 (fun u23 G23 h23 t23 g23 => ?_)
  obtain ⟨U23, Sl, uU23, uG23⟩ := Sk.call g23 hp8.win
  replace Sl := Sl.less S9.mono uU23
  clear uG23 g23
  repeat cell_call
  refine rdeep_spec 3 d1 ok1 _ _ _ _ _ _ _ _ (o.deeper.less (Nat.le_of_ble_eq_true rfl)) (Z.at_ Sl) (fun a o e => Sl.get (mask_sub a o e)) rr1 (fun u24 G24 h24 t24 g24 => ?_)
  obtain ⟨U24, Sm, uU24, uG24⟩ := Sl.call g24 hp8.win
  replace Sm := Sm.less S9.mono uU24
  clear uG24 g24
  refine neIs ?_
  repeat cell_call
  refine refs_spec (n := 3) (by decide) ok1 (o.deeper.less (Nat.le_of_ble_eq_true rfl)) (Z.at_ Sm) (fun a o e => Sm.get (mask_sub a o e)) hv1 (fun la lvs ln G25 h25 t25 g25 hla rla lz => ?_)
  obtain ⟨U25, Sn, uU25, uG25⟩ := Sm.call g25 hp8.win
  repeat cell_call
  refine walked_spec 3 d1 (by decide) ok1 _ _ _ _ _ _ _ _ (o.deeper.less (Nat.le_of_ble_eq_true rfl)) (Z.at_ Sn) (fun a o e => Sn.get (mask_sub a o e)) (rr1.mono (mask_mono uU25)) (fun lb lws lm G26 h26 t26 g26 hlb rlb => ?_)
  have hp25 := hp8.mono uU25
  obtain ⟨U26, So, uU26, uG26⟩ := Sn.call g26 hp25.win
  refine neL (F := Ob.walked 3 d1) So (uU26 _ _ (mask_sub _ _ (uG25 _ _ hla))) (mask_sub _ _ (uG26 _ _ hlb)) (rla.mono fun a o e => uU26 a o (mask_sub a o (uG25 a o e))) (rlb.mono fun a o e => mask_sub a o (uG26 a o e)) (hu _ _ (by decide)) ?_
  replace So := So.less S9.mono fun a o e => uU26 a o (uU25 a o e)
  clear uU26 uG26 g26 uU25 uG25 g25 hla rla hlb rlb Sn hp25 Sh Si Sj Sk Sl Sm
  repeat cell_call
  refine mkDict So Z (fun tt h27 S27 gtt hsm => ?_)
  have hBt := So.free gtt S27
  have htp : tt ≠ p := fun z => by
    obtain ⟨ob, e⟩ := Option.ne_none_iff_exists'.mp hp8.dom
    rw [z, e] at gtt; (first | with_reducible exact no_some gtt | with_reducible exact some_no gtt | with_reducible exact no_bool gtt | with_reducible exact no_bool' gtt | cases gtt)
  have hp9 := hp8.put (o := emptyDict) htp
  let W : Addr → Prop := fun a => a = p ∨ a = tt
  have hBW : ∀ a, W a → mask (fun a => No a ∨ a = L) h₁.get? a = none := fun a z => by
    rcases z with z | z
    · rw [z]; exact hBp
    · rw [z]; exact hBt
  have toW : ∀ a o, mask (fun a => a = p) U9 a = some o → mask W (put U9 tt emptyDict) a = some o := fun a o e => by
    refine and2 (of_mask e) fun n e => ?_
    have n2 : a ≠ tt := fun z => by rw [z, gtt] at e; (first | with_reducible exact no_some e | with_reducible exact some_no e | with_reducible exact no_bool e | with_reducible exact no_bool' e | cases e)
    rw [mask_out (W := W) fun z => z.elim n n2, put_ne n2]; exact e
  replace hv1 := hv1.mono toW
  replace rr1 := rr1.mono toW
  have hd9 : put U9 tt emptyDict tt = some emptyDict := put_self
  generalize put U9 tt emptyDict = V at *
  clear toW gtt hp8 hrb So S9 G2 G3 G6 G7
  repeat cell_call
  refine x_for ?_
  repeat cell_call
  rename St _ _ _ _ _ _ => S28
  refine range2 S28 (fun ra ta tb tc h29 t29 S29 gra => ?_)
  refine for_at (W := W) (n := 3) (P := fun i v => ∃ t, v = .int (1 + (i : Int)) t) (LawInv prog w v1 rb p tt K) S29 Z (Src.range o.deeper.hh (S29.get put_self) (by decide +kernel) (by decide +kernel)) hBW ?win ?h0 ?turn ?done
  case win =>
    intro i m' U hi19_3 a z
    obtain ⟨_, _, _, _, hp21_4⟩ := hi19_3
    obtain ⟨xs, T, a1, a2, _⟩ := hp21_4
    rcases z with z | z
    · rw [z]; exact a1.dom
    · refine ex3 (a2.ex) fun o _ _ hx23 => ?_
      refine and2 hx23 fun e _ => ?_
      clear hx23
      rw [z, e]; exact Option.some_ne_none _
  case h0 =>
    refine ⟨by w_left, by w_left, by w_left, by w_left, ⟨[], [], (hp9.mono (put_old gra)).le (by omega), ⟨⟨emptyDict, #[], 0, put_old gra _ _ hd9, ⟨rfl, rfl, rfl⟩, rfl, rfl⟩, (fun x hx => by (first | with_reducible exact no_some hx | with_reducible exact some_no hx | with_reducible exact no_bool hx | with_reducible exact no_bool' hx | cases hx)), List.nodup_nil, hsm⟩, .nil, (fun _ _ h => by (first | with_reducible exact no_some h | with_reducible exact some_no h | with_reducible exact no_bool h | with_reducible exact no_bool' h | cases h)), Nat.le_refl _, fun q hq => by (first | with_reducible exact no_some hq | with_reducible exact some_no hq | with_reducible exact no_bool hq | with_reducible exact no_bool' hq | cases hq)⟩⟩
  case turn =>
    intro i v m' U h t hi hi23_7 g S Z7 hi23_11
    obtain ⟨tv, er25_1⟩ := hi23_7
    subst er25_1
    obtain ⟨q1, q2, q3, q4, LI⟩ := hi23_11
    obtain ⟨xs, T, a1, a2, a3, a4, a5, a6⟩ := id LI
    repeat cell_call
    refine drawIn S Z7 (mask_in (.inl (.inl rfl))) (o.deeper.less (Nat.le_of_ble_eq_true rfl)) a1 (by omega) (by decide) (by decide) (fun r u2 U2 h2 t2 S2 up2 hp2 r0 r1 => ?_)
    repeat cell_call
    refine iteB (fun hb0 => ?_) (fun hb0 => ?_)
    · repeat cell_call
      refine drawIn S2 Z7 (mask_in (.inl (.inl rfl))) (o.deeper.less (Nat.le_of_ble_eq_true rfl)) hp2 (by omega) (by decide) (by decide) (fun r3 u3 U3 h3 t3 S3 up3 hp3 r30 r31 => ?_)
      repeat cell_call
      refine drawIn S3 Z7 (mask_in (.inl (.inl rfl))) (o.deeper.less (Nat.le_of_ble_eq_true rfl)) hp3 (by omega) (by decide) (by decide) (fun r4 u4 U4 h4 t4 S4 up4 hp4 r40 r41 => ?_)
      repeat cell_call
      rename_i s1 _ s2 _ vb h5 S5 gvb s3 _ kb h6 S6 gkb
      have up6 : ∀ a o, a ≠ p → U a = some o → put (put U4 vb (tupOf [.int (1 + r3) s1, .int r4 u4] 0)) kb (tupOf [.int (1 + (i : Int)) tv, .int 0 s3] 0) a = some o := fun a o n e => put_old gkb a o (put_old gvb a o (up4 a o n (up3 a o n (up2 a o n e))))
      have hP6 := a2.up htp a1 up6
      have hT6 := a3.tk (tupUp a1 up6)
      have hp6 := hp4.mono (G' := put (put U4 vb (tupOf [.int (1 + r3) s1, .int r4 u4] 0)) kb (tupOf [.int (1 + (i : Int)) tv, .int 0 s3] 0)) fun a o e => put_old gkb a o (put_old gvb a o e)
      have hkb : PairAt (put (put U4 vb (tupOf [.int (1 + r3) s1, .int r4 u4] 0)) kb (tupOf [.int (1 + (i : Int)) tv, .int 0 s3] 0)) kb (1 + (i : Int), 0) := ⟨_, _, _, put_self⟩
      have hvb : PairAt (put (put U4 vb (tupOf [.int (1 + r3) s1, .int r4 u4] 0)) kb (tupOf [.int (1 + (i : Int)) tv, .int 0 s3] 0)) vb (1 + r3, r4) := ⟨_, _, _, put_old gkb _ _ put_self⟩
      generalize put (put U4 vb (tupOf [.int (1 + r3) s1, .int r4 u4] 0)) kb (tupOf [.int (1 + (i : Int)) tv, .int 0 s3] 0) = U6 at *
      clear gkb gvb S5 S4 S3 S2 hp4 hp3 hp2 up4 up3 up2
      refine setP S6 hP6 hkb (hu _ _ (by decide)) (fun z => by have z : (1 + (i : Int)) ≤ (i : Int) := a6 _ z; omega) (mask_in (.inl (.inr rfl))) (by rw [sizeLine_eq]; omega) (fun o7 h7 t7 S7 hP7 => ?_)
      repeat cell_call
      have tk7 := tupPut hP6 o7
      refine ⟨rfl, _, _, _, _, rfl, S7, by w_left, by w_left, by w_left, by w_left, ⟨_, T ++ [((1 + (i : Int), 0), (1 + r3, r4))], (hp6.put htp).le (by omega), hP7, (hT6.tk tk7).snoc (hvb.tk tk7), tab_snoc a4 ?_ ?_, by rw [List.length_append, List.length_singleton]; omega, fun q hq => ?_⟩⟩
      · exact Bool.and_eq_true_iff.mpr ⟨decide_eq_true (by omega), decide_eq_true (by omega)⟩
      · exact Bool.and_eq_true_iff.mpr ⟨decide_eq_true (by omega), decide_eq_true (by omega)⟩
      · rw [List.map_append] at hq
        rcases List.mem_append.mp hq with hq | hq
        · have := a6 q hq; omega
        · have hq : q = (1 + (i : Int), 0) := by simpa using hq
          rw [hq]; show 1 + (i : Int) ≤ ((i + 1 : Nat) : Int); omega
    · repeat cell_call
      exact ⟨rfl, _, _, _, _, rfl, S2, by w_left, by w_left, by w_left, by w_left, LI.next htp hp2 up2⟩
  case done =>
    intro m' U h t S g hi27_6
    obtain ⟨q1, q2, q3, q4, hp29_4⟩ := hi27_6
    obtain ⟨xs, T, a1, a2, a3, a4, _, _⟩ := hp29_4
    have toU : ∀ a o, mask W V a = some o → U a = some o := fun a o e => by
      refine and2 (of_mask e) fun n e => ?_
      exact g.mono a o (fun z => z.elim n fun z => (S28.sub a o e).2.1 z) (put_old gra a o e)
    replace hv1 := hv1.mono toU
    replace rr1 := rr1.mono toU
    have hT : TIn prog w U (.ref tt) (some T) := .so a2 a3
    clear toU g gra S28 S29 hd9 a1 a2 a3 q4
    repeat cell_call
    refine ren_spec a4 3 d1 ok1 _ _ _ _ _ _ _ _ _ _ (o.deeper.less (Nat.le_of_ble_eq_true rfl)) (Z.at_ S) (fun _ _ e => S.get e) hv1 hT (fun v2 G2 f2 h2 t2 g2 hv2 fr2 => ?_)
    have ok2 := renum_ok a4 3 d1 ok1
    have S2 := S.grow0 g2
    cell_call
    rename St _ _ _ _ _ _ => S3
    repeat cell_call
    refine told_spec 3 _ ok2 _ _ _ _ _ _ _ _ _ (o.deeper.less (Nat.le_of_ble_eq_true rfl)) (Z.at_ S3) (fun _ _ e => S3.get e) hv2 (fun x4 G4 h4 t4 g4 rx4 => ?_)
    have S4 := S3.grow0 g4
    rw [renum_row a4 3 d1 ok1] at rx4
    repeat cell_call
    refine lrow_spec (T := some T) 3 d1 ok1 _ _ _ _ _ _ _ _ _ _ (o.deeper.less (Nat.le_of_ble_eq_true rfl)) (Z.at_ S4) (fun _ _ e => S4.get e) (hv1.mono fun a o e => g4.up a o (g2.up a o e)) (hT.mono fun a o e => g4.up a o (g2.up a o e)) (fun x5 G5 h5 t5 g5 rx5 => ?_)
    have S5 := S4.grow0 g5
    refine neSelf ok1 S5 (rx4.mono g5.up) rx5 (hu _ _ (by decide)) ?_
    replace S5 := S5.less S3.mono fun a o e => g5.up a o (g4.up a o e)
    clear S4 g4 g5 rx4 rx5
    repeat cell_call
    refine told_spec 3 d1 ok1 _ _ _ _ _ _ _ _ _ (o.deeper.less (Nat.le_of_ble_eq_true rfl)) (Z.at_ S5) (fun _ _ e => S5.get e) (hv1.mono g2.up) (fun x6 G6 h6 t6 g6 rx6 => ?_)
    have S6 := S5.grow0 g6
    repeat cell_call
    refine neSelf ok1 S6 rx6 (rr1.mono fun a o e => g6.up a o (g2.up a o e)) (hu _ _ (by decide)) ?_
    replace S6 := S6.less S3.mono g6.up
    clear S5 g6 rx6
    repeat cell_call
    refine copy_spec 3 d1 ok1 _ _ _ _ _ _ _ _ _ (o.deeper.less (Nat.le_of_ble_eq_true rfl)) (Z.at_ S6) (fun _ _ e => S6.get e) (hv1.mono g2.up) (fun v7 G7 f7 h7 t7 g7 hv7 fr7 => ?_)
    have S7 := S6.grow0 g7
    cell_call
    rename St _ _ _ _ _ _ => S8
    repeat cell_call
    refine told_spec 3 d1 ok1 _ _ _ _ _ _ _ _ _ (o.deeper.less (Nat.le_of_ble_eq_true rfl)) (Z.at_ S8) (fun _ _ e => S8.get e) hv7 (fun x9 G9 h9 t9 g9 rx9 => ?_)
    have S9 := S8.grow0 g9
    repeat cell_call
    refine neSelf ok1 S9 rx9 (rr1.mono fun a o e => g9.up a o (g7.up a o (g2.up a o e))) (hu _ _ (by decide)) ?_
    replace S9 := S9.less S8.mono g9.up
    clear g9 rx9
    repeat cell_call
    have hB7 : ∀ a, (fun a => a ∈ f7) a → mask (fun a => No a ∨ a = L) h₁.get? a = none := fun a z => by
      cases e : mask (fun a => No a ∨ a = L) h₁.get? a with
      | none => rfl
      | some ob => have := fr7.2 a z; rw [S6.keep _ _ e] at this; (first | with_reducible exact no_some this | with_reducible exact some_no this | with_reducible exact no_bool this | with_reducible exact no_bool' this | cases this)
    have hB2 : ∀ a, (fun a => a ∈ f2) a → mask (fun a => No a ∨ a = L) h₁.get? a = none := fun a z => by
      cases e : mask (fun a => No a ∨ a = L) h₁.get? a with
      | none => rfl
      | some ob => have := fr2.2 a z; rw [S.keep _ _ e] at this; (first | with_reducible exact no_some this | with_reducible exact some_no this | with_reducible exact no_bool this | with_reducible exact no_bool' this | cases this)
    have hL7 : L ∉ f7 := fun z => by
      obtain ⟨ob, e⟩ := S6.has
      have := fr7.2 L z; rw [e] at this; (first | with_reducible exact no_some this | with_reducible exact some_no this | with_reducible exact no_bool this | with_reducible exact no_bool' this | cases this)
    have hL2 : L ∉ f2 := fun z => by
      obtain ⟨ob, e⟩ := S.has
      have := fr2.2 L z; rw [e] at this; (first | with_reducible exact no_some this | with_reducible exact some_no this | with_reducible exact no_bool this | with_reducible exact no_bool' this | cases this)
    refine spoil_spec 3 d1 ok1 _ _ _ _ _ _ _ _ _ (o.deeper.less (Nat.le_of_ble_eq_true rfl)) (Z.sub S9 hB7) (fun _ _ e => S9.get e) hv7 fr7.1 (fun G10 h10 t10 g10 _ => ?_)
    have S10 := S9.grow g10 hB7 hL7
    have k10 : ∀ a o, G2 a = some o → G10 a = some o := fun a o e => g10.mono a o (fun z => by have := fr7.2 a z; rw [S6.get e] at this; (first | with_reducible exact no_some this | with_reducible exact some_no this | with_reducible exact no_bool this | with_reducible exact no_bool' this | cases this)) (g7.up a o e)
    repeat cell_call
    refine spoil_spec 3 _ ok2 _ _ _ _ _ _ _ _ _ (o.deeper.less (Nat.le_of_ble_eq_true rfl)) (Z.sub S10 hB2) (fun _ _ e => S10.get e) (hv2.mono k10) fr2.1 (fun G11 h11 t11 g11 _ => ?_)
    have S11 := S10.grow g11 hB2 hL2
    have k11 : ∀ a o, U a = some o → G11 a = some o := fun a o e => g11.mono a o (fun z => by have := fr2.2 a z; rw [S.get e] at this; (first | with_reducible exact no_some this | with_reducible exact some_no this | with_reducible exact no_bool this | with_reducible exact no_bool' this | cases this)) (k10 a o (g2.up a o e))
    repeat cell_call
    clear S S3 S6 S8 S9 S10 k10 fr2 fr7 hB2 hB7 hL2 hL7 g2 g7 g10 g11 hv2 hv7
    refine BoolOp_and ?_
    repeat cell_call
    refine told_spec 3 d1 ok1 _ _ _ _ _ _ _ _ _ (o.deeper.less (Nat.le_of_ble_eq_true rfl)) (Z.at_ S11) (fun _ _ e => S11.get e) (hv1.mono k11) (fun x12 G12 h12 t12 g12 rx12 => ?_)
    have S12 := S11.grow0 g12
    repeat cell_call
    refine eqSelf ok1 S12 rx12 (rr1.mono fun a o e => g12.up a o (k11 a o e)) (hu _ _ (by decide)) ?_
    repeat cell_call
    refine BoolOp_and ?_
    repeat cell_call
    refine raises_spec (o.deeper.less (Nat.le_of_ble_eq_true rfl)) (Around.frames_deeper hfr) rfl rfl S12 Z (.str _ _) (fun h13 t13 S13 => ?_)
    repeat cell_call
    refine BoolOp_one ?_
    repeat cell_call
    rename_i s1 _ s2 _ tp h14 S14 gtp
    refine raises_spec (o.deeper.less (Nat.le_of_ble_eq_true rfl)) (Around.frames_deeper hfr) rfl rfl S14 Z (.tup put_self) (fun h15 t15 S15 => ?_)
    exact q _ _ _ (out0 S15 up sL hG gL)
end

end
section
theorem fin : PySem.Challenge.rw_nn0209_01.Holds := by
  refine hd ?_
  intro w s₀ s₁ mg mb G Y fa o pm cd doc dV kV ho hd' hcd hD hmg hg args vals as hpre hlay hrd hwl hlo
  have X : (KK w).In s₁.heap := kIn_of Y
  have Z : Bs (KK w) VV LL mg mb s₁.heap.get? := ⟨_, X, topRead_of G.T, fun _ _ e => e⟩
  have hfa : fa = 363 := by
    have e := mg_of X G.T.g (show nsIn (KK w) mainGlobals (Str.ofString "law") = some (some (.ref 363)) by kernel_rfl)
    rw [show mg (Str.ofString "law") = some (.ref fa) from hmg] at e
    cases e; rfl
  subst hfa
  clear hD hcd hd' ho
  wrow_args hpre hlay hrd hwl hlo
  rename_i ns _ _ hL1 _ _ _ _ sa vs _ hl _ _ _ hi _ hn _
  obtain ⟨h, g, d, t, os⟩ := s₁
  have hz : vs.length ≤ 1000 := by rw [hi.length]; omega
  refine law_spec (c := ⟨g, d, os⟩) (h := h) (t := t) (G := fun _ => none) (ns := ns) (Bd := 1048576) ⟨rfl, by decide, by decide⟩ (by decide) rfl rfl Z (fun _ _ e => by (first | with_reducible exact no_some e | with_reducible exact some_no e | with_reducible exact no_bool e | with_reducible exact no_bool' e | cases e)) hl hi hz (fun x hx => ?_) (by decide) (fun G' h' t' gr => ?_)
  · exact intBits_le_of_item hx hL1
  · refine GoodW.toG ⟨.inl ⟨_, .bool true, [], rfl, ?_, .bool true, ?_, fun h => ?_⟩, fun b o e => gr.keep b o (fun z => z) e, rfl, hg⟩
    · intro cls; first | rfl | wrow_none_raised
    · first | wrow_post | rfl
    · first | exact ⟨List.nodup_nil, fun a z => by (first | with_reducible exact no_some z | with_reducible exact some_no z | with_reducible exact no_bool z | with_reducible exact no_bool' z | cases z)⟩ | (first | with_reducible exact no_some h | with_reducible exact some_no h | with_reducible exact no_bool h | with_reducible exact no_bool' h | cases h)

end
end Mine

theorem PySem.Challenge.cw_nn0209_01_holds : PySem.Challenge.rw_nn0209_01.Holds :=
  Mine.fin
