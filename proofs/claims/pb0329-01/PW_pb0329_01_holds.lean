import PyProof.Rows.All
import Wide.All
import OpenK.AllK
import Wide.FinOn
import Lean
import PySem.Challenge.RW_pb0329_01
open PySem PySem.W PySem.Calls PyProof.Rows
set_option Elab.async false
set_option maxRecDepth 100000
set_option maxHeartbeats 1000000
namespace Mine
theorem left_of_run {p q : Program} {loose : List Str} {Xt : Shared → Bool} {α : Type} {Yf : Shared → α} {Ya : World → α} {N : Nat} {g0 : Bool} {H₀ : Params → Heap} {gs₀ : Array GenState} {d₀ : Drawn} {k₀ : Nat} {m₀ : Nat} {ann : Option Value} {M : Nat}
    (open_ : ∀ w : World, (fencedOpening treeTable p w N).map (fun s => (s.heap, s.gens, s.drawn, s.toks)) = some (H₀ w.params, gs₀, d₀, k₀))
    (size : ∀ w : World, ((H₀ w.params).isNs mainGlobals && gs₀.size == 0, (H₀ w.params).objs.size, (H₀ w.params).nsMap mainGlobals "__annotations__") = (true, m₀, ann))
    (le : Nat.ble M N = true)
    (runA : ∀ (w : World) (os : OsState), (topRun treeTable p w m₀ ann M ⟨H₀ w.params, gs₀, d₀, k₀, os⟩ (topStub p)).map (fun s₁ => staticsOk (importedModules p.main.body) (H₀ w.params) s₁.heap && namesBound p s₁.heap && gensDone s₁ && laidKept (H₀ w.params) s₁.heap) = some true)
    (runB : ∀ (w : World) (os : OsState), (topRun treeTable p w m₀ ann M ⟨H₀ w.params, gs₀, d₀, k₀, os⟩ (topStub p)).map (fun s₁ => openSeen q loose (importedModules p.main.body) Xt g0 s₁) = some (openGood q loose))
    (runC : ∀ (w : World) (os : OsState), (topRun treeTable p w m₀ ann M ⟨H₀ w.params, gs₀, d₀, k₀, os⟩ (topStub p)).map (fun s₁ => Yf s₁) = some (Ya w)) : LeftO p q loose Xt Yf Ya N g0 := fun w => by
  obtain ⟨⟨h, gs, d, k, os⟩, e, e'⟩ := Option.map_eq_some_iff.mp (open_ w)
  obtain ⟨rfl, rfl, rfl, rfl⟩ : h = H₀ w.params ∧ gs = gs₀ ∧ d = d₀ ∧ k = k₀ := by simpa using e'
  obtain ⟨z1, z2, z3⟩ : _ ∧ _ ∧ _ := by simpa only [Prod.mk.injEq] using size w
  obtain ⟨s₁, r, l1⟩ := Option.map_eq_some_iff.mp (runA w os)
  have l2 := runB w os
  have l3 := runC w os
  rw [r] at l2 l3
  replace l2 := Option.some.inj l2
  replace l3 := Option.some.inj l3
  have r := topRun_mono (N - M) _ _ _ _ r
  rw [show M + (N - M) = N by have := Nat.le_of_ble_eq_true le; omega] at r
  have t : topFrom treeTable p w N ⟨H₀ w.params, gs, d, k, os⟩ = some s₁ := by
    unfold topFrom
    dsimp only
    rw [z1, z2, z3, r]
    show (match staticsOk (importedModules p.main.body) (H₀ w.params) s₁.heap && namesBound p s₁.heap && gensDone s₁ && laidKept (H₀ w.params) s₁.heap with | true => _ | false => _) = _
    rw [l1]
  unfold openEnds
  rw [e]
  show (topFrom treeTable p w N _).map _ = _
  rw [t]
  exact congrArg some (Prod.ext l2 l3)
theorem op : ∀ w : World, (fencedOpening treeTable PySem.Challenge.pw_pb0329_01 w 3174).map (fun s => (s.heap, s.gens, s.drawn, s.toks)) = some (boot_heap w.params, Array.mk [], boot_drawn, boot_toks) :=
  boot_open (by kernel_rfl) (by decide) (fun _ => by kernel_rfl)
theorem sz : ∀ w : World, ((boot_heap w.params).isNs mainGlobals && (Array.mk [] : Array GenState).size == 0, (boot_heap w.params).objs.size, (boot_heap w.params).nsMap mainGlobals "__annotations__") = (true, 11, some (.ref 6)) := by
  intro w
  kernel_rfl
theorem said : OpenLaw.wellSaid PySem.Challenge.rw_pb0329_01 = true := by
  rw [PySem.W.Fast.te9446332074065402090]
  kernel_rfl
noncomputable abbrev vw : Program := view PySem.Challenge.pw_pb0329_01 [1, 2, 4, 5, 6, 7, 8, 9, 10, 11, 13, 14, 15, 16, 17, 18, 19, 20]
end Mine
local macro_rules | `(tactic| o_head $_) => `(tactic| assumption)
theorem Mine.kdef (h : PySem.Challenge.rw_pb0329_01.row.Holds) : PySem.Challenge.rw_pb0329_01.row.Holds := by k_head
namespace Mine
theorem asE : ∀ P : Params, ([2, 3, 15, 22, 23, 24, 25, 28, 35, 37, 38, 40, 41, 42, 43, 44, 54, 55, 57, 58, 60, 61, 62, 64, 65, 67, 68, 69, 71, 72, 74, 75, 76, 78, 79, 81, 82, 83, 85, 86, 88, 89, 90, 92, 93, 95, 96, 97, 99, 100, 102, 103, 104, 106, 107, 109, 110, 111, 113, 114, 116, 117, 118, 120, 121, 123, 124, 125, 127, 128, 130, 131, 132, 133, 134, 135, 136, 139, 141, 142, 144, 145, 146, 148, 149, 151, 152, 153, 155, 156, 158, 159, 160, 162, 163, 165, 166, 167, 169, 170, 172, 173, 174, 176, 177, 179, 180, 181, 183, 184, 186, 187, 188, 190, 191, 193, 194, 195, 198, 199, 200, 202, 203, 205, 206, 207, 209, 210, 212, 213, 214, 216, 217, 219, 220, 221, 223, 224, 226, 227, 228, 230, 231, 233, 234, 235, 238, 239] : List Addr) = (Mine.kdef.heap_1 P).map (·.1) := fun _ => by kernel_rfl
noncomputable abbrev HK : Hook := kHook Mine.kdef.heap_1 [2, 3, 15, 22, 23, 24, 25, 28, 35, 37, 38, 40, 41, 42, 43, 44, 54, 55, 57, 58, 60, 61, 62, 64, 65, 67, 68, 69, 71, 72, 74, 75, 76, 78, 79, 81, 82, 83, 85, 86, 88, 89, 90, 92, 93, 95, 96, 97, 99, 100, 102, 103, 104, 106, 107, 109, 110, 111, 113, 114, 116, 117, 118, 120, 121, 123, 124, 125, 127, 128, 130, 131, 132, 133, 134, 135, 136, 139, 141, 142, 144, 145, 146, 148, 149, 151, 152, 153, 155, 156, 158, 159, 160, 162, 163, 165, 166, 167, 169, 170, 172, 173, 174, 176, 177, 179, 180, 181, 183, 184, 186, 187, 188, 190, 191, 193, 194, 195, 198, 199, 200, 202, 203, 205, 206, 207, 209, 210, 212, 213, 214, 216, 217, 219, 220, 221, 223, 224, 226, 227, 228, 230, 231, 233, 234, 235, 238, 239] Mine.asE
theorem runA : ∀ (w : World) (os : OsState), (topRun treeTable PySem.Challenge.pw_pb0329_01 w 11 (some (.ref 6)) 3174 ⟨boot_heap w.params, Array.mk [], boot_drawn, boot_toks, os⟩ (topStub PySem.Challenge.pw_pb0329_01)).map (fun s₁ => staticsOk (importedModules PySem.Challenge.pw_pb0329_01.main.body) (boot_heap w.params) s₁.heap && namesBound PySem.Challenge.pw_pb0329_01 s₁.heap && gensDone s₁ && laidKept (boot_heap w.params) s₁.heap) = some true := by
  intro w os
  rw [PySem.W.Fast.te14082659384304107361, PySem.W.Fast.te14364793385576792824, PySem.W.Fast.te5923862056798008813]
  kernel_rfl
theorem runB : ∀ (w : World) (os : OsState), (topRun treeTable PySem.Challenge.pw_pb0329_01 w 11 (some (.ref 6)) 3174 ⟨boot_heap w.params, Array.mk [], boot_drawn, boot_toks, os⟩ (topStub PySem.Challenge.pw_pb0329_01)).map (fun s₁ => openSeen Mine.vw [] (importedModules PySem.Challenge.pw_pb0329_01.main.body) (fun s => xlAt Mine.vw [] s && recOk (RowW.records PySem.Challenge.rw_pb0329_01.row.toRowW) s) true s₁) = some (openGood Mine.vw []) := by
  intro w os
  rw [PySem.W.Fast.te14082659384304107361, PySem.W.Fast.te14364793385576792824, PySem.W.Fast.te5923862056798008813, PySem.W.Fast.te4187177175401517315]
  kernel_rfl
theorem runC : ∀ (w : World) (os : OsState), (topRun treeTable PySem.Challenge.pw_pb0329_01 w 11 (some (.ref 6)) 3174 ⟨boot_heap w.params, Array.mk [], boot_drawn, boot_toks, os⟩ (topStub PySem.Challenge.pw_pb0329_01)).map (fun s₁ => (Hook.obs Mine.HK) s₁) = some ((Hook.val Mine.HK) w) := by
  intro w os
  rw [PySem.W.Fast.te14082659384304107361, PySem.W.Fast.te14364793385576792824]
  kernel_rfl
theorem leftT : LeftO PySem.Challenge.pw_pb0329_01 Mine.vw [] (fun s => xlAt Mine.vw [] s && recOk (RowW.records PySem.Challenge.rw_pb0329_01.row.toRowW) s) (Hook.obs Mine.HK) (Hook.val Mine.HK) 3174 true :=
  left_of_run op sz (by decide) runA runB runC
theorem open0 {d : DefRec} {kwd : List (Str × Expr)} (hdef : defOf Mine.vw PySem.Challenge.rw_pb0329_01.row.name = some (d, kwd)) (hp : PySem.Challenge.rw_pb0329_01.row.prog.theDef PySem.Challenge.rw_pb0329_01.row.name = some (d.params, d.body, d.scope))
    (hk : kwWritten? d.params.kwonlyargs d.params.kw_defaults = some kwd) (k1 : PySem.Challenge.rw_pb0329_01.row.wellSaid = true) (hw : PySem.Challenge.rw_pb0329_01.row.toRowW.promised)
    (hc : WalkO Mine.vw [] (XL Mine.vw []) Mine.HK.says PySem.Challenge.rw_pb0329_01.row.toRowW d kwd fun f vs => call f vs) : PySem.Challenge.rw_pb0329_01.row.Holds :=
  PySem.W.holds_open (q := Mine.vw) (loose := []) (Xt := (fun s => xlAt Mine.vw [] s && recOk (RowW.records PySem.Challenge.rw_pb0329_01.row.toRowW) s)) (XP := XL Mine.vw []) (Yf := Hook.obs Mine.HK) (Ya := Hook.val Mine.HK) (YP := Hook.says Mine.HK) (N := 3174) Mine.leftT (Hook.of Mine.HK) (Hook.keeps Mine.HK) (fun s e => xl_of s (Bool.and_eq_true_iff.mp e).1) XL.keeps hdef hp hk (fun s e => recFacts_of (Bool.and_eq_true_iff.mp e).2) (by rfl) k1 (by decide +kernel) ⟨rfl, rfl, rfl, rfl, rfl, by decide +kernel⟩ hw hc
end Mine
local macro_rules | `(tactic| w_on) => `(tactic| skip)
local macro_rules | `(tactic| o_law) => `(tactic| refine holds_law Mine.said fun _ => ?_)
local macro_rules | `(tactic| k_head) => `(tactic| refine Mine.open0 (by rfl) (by rfl) (by rfl) (by assumption) ?hw ?hc)
namespace Mine
open_top hd for PySem.Challenge.rw_pb0329_01
end Mine
namespace Mine
theorem ex1 {A0 : Type} {p : A0 → Prop} {P : Prop} (h : ∀ a, p a → P) : (∃ a, p a) → P := fun x => x.elim fun a x => h a x
theorem ex2 {A0 A1 : Type} {p : A0 → A1 → Prop} {P : Prop} (h : ∀ a b, p a b → P) : (∃ a b, p a b) → P := fun x => x.elim fun a x => x.elim fun b x => h a b x
theorem ex3 {A0 A1 A2 : Type} {p : A0 → A1 → A2 → Prop} {P : Prop} (h : ∀ a b c, p a b c → P) : (∃ a b c, p a b c) → P := fun x => x.elim fun a x => x.elim fun b x => x.elim fun c x => h a b c x
theorem ex4 {A0 A1 A2 A3 : Type} {p : A0 → A1 → A2 → A3 → Prop} {P : Prop} (h : ∀ a b c d, p a b c d → P) : (∃ a b c d, p a b c d) → P := fun x => x.elim fun a x => x.elim fun b x => x.elim fun c x => x.elim fun d x => h a b c d x
theorem ex5 {A0 A1 A2 A3 A4 : Type} {p : A0 → A1 → A2 → A3 → A4 → Prop} {P : Prop} (h : ∀ a b c d e, p a b c d e → P) : (∃ a b c d e, p a b c d e) → P := fun x => x.elim fun a x => x.elim fun b x => x.elim fun c x => x.elim fun d x => x.elim fun e x => h a b c d e x
theorem ex6 {A0 A1 A2 A3 A4 A5 : Type} {p : A0 → A1 → A2 → A3 → A4 → A5 → Prop} {P : Prop} (h : ∀ a b c d e f, p a b c d e f → P) : (∃ a b c d e f, p a b c d e f) → P := fun x => x.elim fun a x => x.elim fun b x => x.elim fun c x => x.elim fun d x => x.elim fun e x => x.elim fun f x => h a b c d e f x
theorem ex7 {A0 A1 A2 A3 A4 A5 A6 : Type} {p : A0 → A1 → A2 → A3 → A4 → A5 → A6 → Prop} {P : Prop} (h : ∀ a b c d e f g, p a b c d e f g → P) : (∃ a b c d e f g, p a b c d e f g) → P := fun x => x.elim fun a x => x.elim fun b x => x.elim fun c x => x.elim fun d x => x.elim fun e x => x.elim fun f x => x.elim fun g x => h a b c d e f g x
theorem ex8 {A0 A1 A2 A3 A4 A5 A6 A7 : Type} {p : A0 → A1 → A2 → A3 → A4 → A5 → A6 → A7 → Prop} {P : Prop} (h : ∀ a b c d e f g i, p a b c d e f g i → P) : (∃ a b c d e f g i, p a b c d e f g i) → P := fun x => x.elim fun a x => x.elim fun b x => x.elim fun c x => x.elim fun d x => x.elim fun e x => x.elim fun f x => x.elim fun g x => x.elim fun i x => h a b c d e f g i x
theorem ex9 {A0 A1 A2 A3 A4 A5 A6 A7 A8 : Type} {p : A0 → A1 → A2 → A3 → A4 → A5 → A6 → A7 → A8 → Prop} {P : Prop} (h : ∀ a b c d e f g i j, p a b c d e f g i j → P) : (∃ a b c d e f g i j, p a b c d e f g i j) → P := fun x => x.elim fun a x => x.elim fun b x => x.elim fun c x => x.elim fun d x => x.elim fun e x => x.elim fun f x => x.elim fun g x => x.elim fun i x => x.elim fun j x => h a b c d e f g i j x
theorem an2 {a0 a1 P : Prop} (h : a0 → a1 → P) : a0 ∧ a1 → P := fun x => h x.1 x.2
theorem an3 {a0 a1 a2 P : Prop} (h : a0 → a1 → a2 → P) : a0 ∧ a1 ∧ a2 → P := fun x => h x.1 x.2.1 x.2.2
theorem an4 {a0 a1 a2 a3 P : Prop} (h : a0 → a1 → a2 → a3 → P) : a0 ∧ a1 ∧ a2 ∧ a3 → P := fun x => h x.1 x.2.1 x.2.2.1 x.2.2.2
theorem an5 {a0 a1 a2 a3 a4 P : Prop} (h : a0 → a1 → a2 → a3 → a4 → P) : a0 ∧ a1 ∧ a2 ∧ a3 ∧ a4 → P := fun x => h x.1 x.2.1 x.2.2.1 x.2.2.2.1 x.2.2.2.2
theorem an6 {a0 a1 a2 a3 a4 a5 P : Prop} (h : a0 → a1 → a2 → a3 → a4 → a5 → P) : a0 ∧ a1 ∧ a2 ∧ a3 ∧ a4 ∧ a5 → P := fun x => h x.1 x.2.1 x.2.2.1 x.2.2.2.1 x.2.2.2.2.1 x.2.2.2.2.2
theorem an7 {a0 a1 a2 a3 a4 a5 a6 P : Prop} (h : a0 → a1 → a2 → a3 → a4 → a5 → a6 → P) : a0 ∧ a1 ∧ a2 ∧ a3 ∧ a4 ∧ a5 ∧ a6 → P := fun x => h x.1 x.2.1 x.2.2.1 x.2.2.2.1 x.2.2.2.2.1 x.2.2.2.2.2.1 x.2.2.2.2.2.2
theorem an8 {a0 a1 a2 a3 a4 a5 a6 a7 P : Prop} (h : a0 → a1 → a2 → a3 → a4 → a5 → a6 → a7 → P) : a0 ∧ a1 ∧ a2 ∧ a3 ∧ a4 ∧ a5 ∧ a6 ∧ a7 → P := fun x => h x.1 x.2.1 x.2.2.1 x.2.2.2.1 x.2.2.2.2.1 x.2.2.2.2.2.1 x.2.2.2.2.2.2.1 x.2.2.2.2.2.2.2
theorem an9 {a0 a1 a2 a3 a4 a5 a6 a7 a8 P : Prop} (h : a0 → a1 → a2 → a3 → a4 → a5 → a6 → a7 → a8 → P) : a0 ∧ a1 ∧ a2 ∧ a3 ∧ a4 ∧ a5 ∧ a6 ∧ a7 ∧ a8 → P := fun x => h x.1 x.2.1 x.2.2.1 x.2.2.2.1 x.2.2.2.2.1 x.2.2.2.2.2.1 x.2.2.2.2.2.2.1 x.2.2.2.2.2.2.2.1 x.2.2.2.2.2.2.2.2
theorem an10 {a0 a1 a2 a3 a4 a5 a6 a7 a8 a9 P : Prop} (h : a0 → a1 → a2 → a3 → a4 → a5 → a6 → a7 → a8 → a9 → P) : a0 ∧ a1 ∧ a2 ∧ a3 ∧ a4 ∧ a5 ∧ a6 ∧ a7 ∧ a8 ∧ a9 → P := fun x => h x.1 x.2.1 x.2.2.1 x.2.2.2.1 x.2.2.2.2.1 x.2.2.2.2.2.1 x.2.2.2.2.2.2.1 x.2.2.2.2.2.2.2.1 x.2.2.2.2.2.2.2.2.1 x.2.2.2.2.2.2.2.2.2
theorem an11 {a0 a1 a2 a3 a4 a5 a6 a7 a8 a9 a10 P : Prop} (h : a0 → a1 → a2 → a3 → a4 → a5 → a6 → a7 → a8 → a9 → a10 → P) : a0 ∧ a1 ∧ a2 ∧ a3 ∧ a4 ∧ a5 ∧ a6 ∧ a7 ∧ a8 ∧ a9 ∧ a10 → P := fun x => h x.1 x.2.1 x.2.2.1 x.2.2.2.1 x.2.2.2.2.1 x.2.2.2.2.2.1 x.2.2.2.2.2.2.1 x.2.2.2.2.2.2.2.1 x.2.2.2.2.2.2.2.2.1 x.2.2.2.2.2.2.2.2.2.1 x.2.2.2.2.2.2.2.2.2.2
theorem an12 {a0 a1 a2 a3 a4 a5 a6 a7 a8 a9 a10 a11 P : Prop} (h : a0 → a1 → a2 → a3 → a4 → a5 → a6 → a7 → a8 → a9 → a10 → a11 → P) : a0 ∧ a1 ∧ a2 ∧ a3 ∧ a4 ∧ a5 ∧ a6 ∧ a7 ∧ a8 ∧ a9 ∧ a10 ∧ a11 → P := fun x => h x.1 x.2.1 x.2.2.1 x.2.2.2.1 x.2.2.2.2.1 x.2.2.2.2.2.1 x.2.2.2.2.2.2.1 x.2.2.2.2.2.2.2.1 x.2.2.2.2.2.2.2.2.1 x.2.2.2.2.2.2.2.2.2.1 x.2.2.2.2.2.2.2.2.2.2.1 x.2.2.2.2.2.2.2.2.2.2.2
theorem an13 {a0 a1 a2 a3 a4 a5 a6 a7 a8 a9 a10 a11 a12 P : Prop} (h : a0 → a1 → a2 → a3 → a4 → a5 → a6 → a7 → a8 → a9 → a10 → a11 → a12 → P) : a0 ∧ a1 ∧ a2 ∧ a3 ∧ a4 ∧ a5 ∧ a6 ∧ a7 ∧ a8 ∧ a9 ∧ a10 ∧ a11 ∧ a12 → P := fun x => h x.1 x.2.1 x.2.2.1 x.2.2.2.1 x.2.2.2.2.1 x.2.2.2.2.2.1 x.2.2.2.2.2.2.1 x.2.2.2.2.2.2.2.1 x.2.2.2.2.2.2.2.2.1 x.2.2.2.2.2.2.2.2.2.1 x.2.2.2.2.2.2.2.2.2.2.1 x.2.2.2.2.2.2.2.2.2.2.2.1 x.2.2.2.2.2.2.2.2.2.2.2.2
theorem an14 {a0 a1 a2 a3 a4 a5 a6 a7 a8 a9 a10 a11 a12 a13 P : Prop} (h : a0 → a1 → a2 → a3 → a4 → a5 → a6 → a7 → a8 → a9 → a10 → a11 → a12 → a13 → P) : a0 ∧ a1 ∧ a2 ∧ a3 ∧ a4 ∧ a5 ∧ a6 ∧ a7 ∧ a8 ∧ a9 ∧ a10 ∧ a11 ∧ a12 ∧ a13 → P := fun x => h x.1 x.2.1 x.2.2.1 x.2.2.2.1 x.2.2.2.2.1 x.2.2.2.2.2.1 x.2.2.2.2.2.2.1 x.2.2.2.2.2.2.2.1 x.2.2.2.2.2.2.2.2.1 x.2.2.2.2.2.2.2.2.2.1 x.2.2.2.2.2.2.2.2.2.2.1 x.2.2.2.2.2.2.2.2.2.2.2.1 x.2.2.2.2.2.2.2.2.2.2.2.2.1 x.2.2.2.2.2.2.2.2.2.2.2.2.2

noncomputable abbrev LL : List Str := looseW Mine.vw []
/-- what stands whole -/
structure St (w : World) (h : Heap) : Prop where
  X : (Mine.kdef.heap_1 w.params).In h
  T : ∃ mean mg mb, Top Mine.vw LL mean mg mb h
abbrev Keeps (h h' : Heap) : Prop := ∀ b o, h.get? b = some o → h'.get? b = some o
theorem St.keeps {w : World} {h h' : Heap} (S : St w h) (k : Keeps h h') : St w h' :=
  ⟨S.X.keeps k, let ⟨a, b, c, T⟩ := S.T; ⟨a, b, c, T.keeps k⟩⟩
abbrev Ar (dp un : Nat) (fr : Option (List Env)) (gd : Option (List Code)) : Around := { handled := none, depth := dp, frames := fr, guards := gd, units := un }

theorem St.inn {w : World} {g h : Heap} (S : St w g) (k : Keeps g h) : (Mine.kdef.heap_1 w.params).In h := S.X.keeps k
theorem news_hide {g : Heap} {s : Shared} {led : List (Addr × Obj)} {h₁ : Heap} (hled : ∀ p ∈ led, s.heap.get? p.1 = some p.2 ∧ g.get? p.1 = none) (k : Keeps s.heap h₁) :
    News (hideAll s.heap (led.map (·.1))) s.heap.objs.size h₁ led := fun p hp =>
  ⟨k _ _ (hled p hp).1, Nat.ne_of_lt (Heap.lt_size (hled p hp).1), hideAll_none _ (List.mem_map_of_mem hp)⟩

/-- entering a def: the objects that it may turn are written out (led), all else is the base -/
theorem enter {prog : Program} {w : World} {dp un : Nat} {fr : Option (List Env)} {gd : Option (List Code)} {s : Shared} {Q E : Value → Shared → Prop} {g : Heap}
    {name qual : Str} {params : Arguments} {body : List Stmt} {scope : Scope} {dV kV doc pm cdv ct oc : Value} {an od : Option Addr} {osl : Array (Option Value)} {f : Addr} {args : List Value} {binds : List (Str × Value)}
    (S : St w g) (hg : Keeps g s.heap) (led : List (Addr × Obj)) (hled : ∀ p ∈ led, s.heap.get? p.1 = some p.2 ∧ g.get? p.1 = none)
    (ho : (Mine.kdef.heap_1 w.params).lookup f = some ⟨oc, od, .func (fnOf name qual params body scope dV kV doc pm an cdv ct), osl⟩) (hcd : codeIn (Mine.kdef.heap_1 w.params) cdv qual = true) (hroom : dp < recursionLimit)
    (hbind : BindsTo s (fnOf name qual params body scope dV kV doc pm an cdv ct) ⟨args, []⟩ binds) (hloc : ∀ y ∈ binds, scope.names.lookup y.1 = some .local)
    (h : ∀ g' h₁ mean mg mb, Fr g' s.heap.objs.size h₁ (fun y => binds.reverse.lookup y) → News g' s.heap.objs.size h₁ led → (Mine.kdef.heap_1 w.params).In g' → Top Mine.vw LL mean mg mb g' →
      Keeps g g' → Keeps g' s.heap → (∀ b o, s.heap.get? b = some o → b ∉ led.map (·.1) → g'.get? b = some o) → (∀ p ∈ led, p.1 < s.heap.objs.size) →
      wpAny (model prog w) ((Ar dp un fr gd).deeper (envOf qual scope s.heap.objs.size f cdv)) (execs body (envOf qual scope s.heap.objs.size f cdv))
        (fun fl s' => Q (match fl with | .ret v => v | _ => .none) s')
        (fun e s' => wpAny (model prog w) ((Ar dp un fr gd).deeper (envOf qual scope s.heap.objs.size f cdv)) (leaving (envOf qual scope s.heap.objs.size f cdv) e) (fun _ s'' => E e s'') E s')
        { s with heap := h₁, toks := s.toks + binds.length })
    (hco : scope.isCoroutine = false) (hgen : scope.isGenerator = false) (hk : scope.kind = .function)
    (hcell : ∀ x ∈ scope.names, x.2 ≠ .cell) : wpAny (model prog w) (Ar dp un fr gd) (call (.ref f) args) Q E s := by
  have Ss := S.keeps hg
  obtain ⟨mean, mg, mb, T⟩ := Ss.T
  have hgg : Keeps g (hideAll s.heap (led.map (·.1))) := fun b o e => hideAll_get _ (hg b o e) fun q => by
    obtain ⟨p, hp, rfl⟩ := List.mem_map.mp q
    rw [(hled p hp).2] at e; cases e
  have Sg := S.keeps hgg
  obtain ⟨mean', mg', mb', T'⟩ := Sg.T
  refine wpAny_call (codeAny_call_def (fd := fnOf name qual params body scope dV kV doc pm an cdv ct) (body := body) (binds := binds) hroom (Ss.X _ _ ho) rfl T.nolimit (codeRec_of Ss.X hcd) rfl hbind hcell hloc (fun h₁ hns hk₁ => ?_) hco hgen hk)
  exact h _ h₁ mean' mg' mb' ⟨hns, fun b o e => hk₁ b o (of_hideAll _ e), Nat.le_of_eq (hideAll_size _ _)⟩ (news_hide hled hk₁) Sg.X T' hgg (fun b o e => of_hideAll _ e) (fun b o e n => hideAll_get _ e n)
    fun p hp => Heap.lt_size (hled p hp).1

/-- the end of a loop's turn -/
def Turn (g : Heap) (L : Addr) (s : Shared) (I : Addr) (oI : Obj) (J : (Str → Option Value) → List (Addr × Obj) → Prop) (Q : Flow → Shared → Prop) (f : Flow) (s₃ : Shared) : Prop :=
  match f with
  | .brk => Q .next s₃
  | .ret v => Q (.ret v) s₃
  | _ => ∃ h tk m news, s₃ = { s with heap := h, toks := tk } ∧ Fr g L h m ∧ News g L h ((I, oI) :: news) ∧ (∀ p ∈ news, p.1 ≠ I) ∧ J m news

theorem letGo_list {prog : Program} {w : World} {A : Around} {s : Shared} {E : Value → Shared → Prop} {target : Expr} {I t : Addr} {i : Nat} {v : Value} {Q' : Unit → Shared → Prop} (hit : s.heap.IsListIter I t i) (h : Q' () s) :
    wpAny (model prog w) A (letOwnedTupleGo target (.ref I) v) Q' E s := by
  obtain ⟨o, ho, hc, hd⟩ := hit
  unfold letOwnedTupleGo
  cases target <;> first
    | exact wpAny_pure h
    | (cases v <;> first
        | exact wpAny_pure h
        | (refine wpAny_bind (wpAny_load ho ?_)
           rw [hc, hd]
           exact wpAny_pure h))

theorem loop_walks {prog : Program} {w : World} {A : Around} {I : Addr} {fpl : List Addr} {n : Nat} {P : Nat → Value → Prop} {St : Nat → Heap → Prop} {s : Shared} {Q : Flow → Shared → Prop} {E' : Value → Shared → Prop} {env : Env} {g : Heap} {L : Addr} {m : Str → Option Value} {news : List (Addr × Obj)} {target : Expr} {body : List Stmt}
    (W : Walks prog w A I (I :: fpl) [I] n P St) (hI0 : g.get? I = none) (hLI : L ≠ I) (hst : St 0 s.heap) (F : Fr g L s.heap m) (N : News g L s.heap news) (hnw : ∀ p ∈ news, p.1 ≠ I)
    (J : Nat → (Str → Option Value) → List (Addr × Obj) → Prop) (h0 : J 0 m news)
    (hdata : ∀ i h m₁ news₁, J i m₁ news₁ → Fr g L h m₁ → News g L h news₁ → ∀ b ∈ fpl, h.get? b = s.heap.get? b)
    (hfI : I ∉ fpl) (hIo : ∀ i h, St i h → ∃ o, h.get? I = some o)
    (hgo : ∀ i v (s : Shared) (Q : Unit → Shared → Prop) (E : Value → Shared → Prop), St i s.heap → Q () s → wpAny (model prog w) A (letOwnedTupleGo target (.ref I) v) Q E s)
    (turn : ∀ i v oI h tk m₁ news₁, i < n → P i v → J i m₁ news₁ → Fr g L h m₁ → News g L h ((I, oI) :: news₁) → (∀ p ∈ news₁, p.1 ≠ I) →
      wpAny (model prog w) A (assign target env v) (fun _ s₂ => wpAny (model prog w) A (execs body env) (Turn g L s I oI (J (i + 1)) Q) (fun _ _ => False) s₂) (fun _ _ => False) { s with heap := h, toks := tk })
    (done : ∀ h tk m₁ news₁, J n m₁ news₁ → Fr g L h m₁ → News g L h news₁ → Q .next { s with heap := h, toks := tk }) :
    codeAny (model prog w) A (.forLoop target (.ref I) body [] env) (fun r s' => match r with | .ok f => Q f s' | .error e => E' e s') s := by
  refine codeAny_forLoop_any
    (fun k s' => ∃ h tk m₁ news₁ i, s' = { s with heap := h, toks := tk } ∧ St i h ∧ Fr g L h m₁ ∧ News g L h news₁ ∧ (∀ p ∈ news₁, p.1 ≠ I) ∧ i ≤ n ∧ k = n - i ∧ J i m₁ news₁) ?_ n
    ⟨_, _, m, news, 0, rfl, hst, F, N, hnw, Nat.zero_le _, rfl, h0⟩
  rintro k s' ⟨h, tk, m₁, news₁, i, rfl, hst₁, F₁, N₁, hne, hi, rfl, hJ⟩
  have kept : ∀ {h' : Heap}, (∀ b o, b ∉ [I] → h.get? b = some o → h'.get? b = some o) → Fr g L h' m₁ ∧ News g L h' news₁ := fun hk =>
    ⟨⟨F₁.ns.at' fun o e => hk _ _ (by simpa using hLI) e, fun b o e => hk b o (by simp only [List.mem_singleton]; exact fun q => by rw [q, hI0] at e; cases e) (F₁.keep b o e), F₁.above⟩,
     fun p hp => ⟨hk _ _ (by simpa using hne p hp) (N₁ p hp).1, (N₁ p hp).2⟩⟩
  by_cases hlt : i < n
  · refine W.item i _ _ _ hlt hst₁ fun v h₁ tk₁ hP hst₂ hk₁ => ?_
    obtain ⟨F₂, N₂⟩ := kept hk₁
    refine hgo (i + 1) v _ _ _ hst₂ ?_
    obtain ⟨oI, hoI⟩ := hIo _ _ hst₂
    have N₃ : News g L h₁ ((I, oI) :: news₁) := fun p hp => by
      rcases List.mem_cons.mp hp with rfl | hp
      · exact ⟨hoI, hLI.symm, hI0⟩
      · exact N₂ p hp
    refine wpAny_mono (turn i v oI h₁ tk₁ m₁ news₁ hlt hP hJ F₂ N₃ hne) (fun _ s₂ h₂ => wpAny_mono h₂ (fun f s₃ h₃ => ?_) fun _ _ x => x.elim) fun _ _ x => x.elim
    have back : (∃ h tk m news, s₃ = { s with heap := h, toks := tk } ∧ Fr g L h m ∧ News g L h ((I, oI) :: news) ∧ (∀ p ∈ news, p.1 ≠ I) ∧ J (i + 1) m news) →
        ∃ k', k' < n - i ∧ ∃ h tk m₁ news₁ i, s₃ = { s with heap := h, toks := tk } ∧ St i h ∧ Fr g L h m₁ ∧ News g L h news₁ ∧ (∀ p ∈ news₁, p.1 ≠ I) ∧ i ≤ n ∧ k' = n - i ∧ J i m₁ news₁ := by
      rintro ⟨h', tk', m', news', e, F', N', hn', hJ'⟩
      have N'' : News g L h' news' := fun p hp => N' p (.tail _ hp)
      refine ⟨n - (i + 1), by omega, h', tk', m', news', i + 1, e, ?_, F', N'', hn', hlt, rfl, hJ'⟩
      refine W.frame _ _ _ hst₂ fun b hb o ho => ?_
      rcases List.mem_cons.mp hb with rfl | hb
      · rw [hoI] at ho
        cases ho
        exact (N' (b, oI) (.head _)).1
      · rw [hdata (i + 1) h' m' news' hJ' F' N'' b hb]
        have e1 := hdata i h m₁ news₁ hJ F₁ N₁ b hb
        cases q : s.heap.get? b with
        | none =>
          rw [q] at e1
          exact absurd ho (by
            have e2 := hdata i h₁ m₁ news₁ hJ F₂ N₂ b hb
            rw [e2, q]; simp)
        | some o' =>
          rw [q] at e1
          have := hk₁ b o' (by simp only [List.mem_singleton]; exact fun z => hfI (z ▸ hb)) e1
          rw [ho] at this; exact this.symm
    cases f with
    | next => exact back h₃
    | cont => exact back h₃
    | brk => exact h₃
    | ret v => exact h₃
  · have hin : i = n := by omega
    subst hin
    refine W.done _ _ _ hst₁ fun h₁ tk₁ hk₁ => wpAny_execs_nil ?_
    obtain ⟨F₂, N₂⟩ := kept hk₁
    exact done _ _ _ _ hJ F₂ N₂

section
variable {prog : Program} {w : World} {A : Around} {s : Shared} {Q : Flow → Shared → Prop} {E E' : Value → Shared → Prop} {env : Env} {g : Heap} {L : Addr} {m : Str → Option Value} {news : List (Addr × Obj)} {target : Expr} {body : List Stmt}

theorem new_not_base (F : Fr g L s.heap m) : g.get? s.heap.objs.size = none := by
  cases q : g.get? s.heap.objs.size with
  | none => rfl
  | some o => exact absurd (Heap.lt_size (F.keep _ _ q)) (Nat.lt_irrefl _)
theorem new_not_L (F : Fr g L s.heap m) : L ≠ s.heap.objs.size := by
  obtain ⟨o, _, _, ho, _⟩ := F.ns
  exact Nat.ne_of_lt (Heap.lt_size ho)

/-- a for over a list that stands still -/
theorem iter_list {l : Addr} {vs : List Value}
    (hh : A.handled = none) (F : Fr g L s.heap m) (N : News g L s.heap news) {ol : Obj} (hol : s.heap.get? l = some ol) (hcl : ol.cls = .type "list") {nl : Nat} (hdl : ol.data = .seq vs.toArray nl)
    (J : Nat → (Str → Option Value) → List (Addr × Obj) → Prop) (h0 : J 0 m news)
    (hlk : ∀ i h m₁ news₁, J i m₁ news₁ → Fr g L h m₁ → News g L h news₁ → h.get? l = some ol)
    (turn : ∀ i v I oI h tk m₁ news₁, vs[i]? = some v → J i m₁ news₁ → Fr g L h m₁ → News g L h ((I, oI) :: news₁) → (∀ p ∈ news₁, p.1 ≠ I) →
      wpAny (model prog w) A (assign target env v) (fun _ s₂ => wpAny (model prog w) A (execs body env) (Turn g L s I oI (J (i + 1)) Q) (fun _ _ => False) s₂) (fun _ _ => False) { s with heap := h, toks := tk })
    (done : ∀ h tk m₁ news₁, J vs.length m₁ news₁ → Fr g L h m₁ → News g L h news₁ → Q .next { s with heap := h, toks := tk }) :
    wpAny (model prog w) A (pyIter (.ref l)) (fun it s₂ => codeAny (model prog w) A (.forLoop target it body [] env) (fun r s' => match r with | .ok f => Q f s' | .error e => E' e s') s₂) E s := by
  have hls : s.heap.IsList l vs.toArray := ⟨ol, hol, hcl, nl, hdl⟩
  have hne : l ≠ s.heap.objs.size := Nat.ne_of_lt (Heap.lt_size hol)
  refine wpAny_pyIter_list hls ?_
  have W := Walks.list (prog := prog) (w := w) hh s.heap.objs.size l hne vs.toArray
  have hsz : vs.toArray.size = vs.length := by simp
  rw [hsz] at W
  refine loop_walks (s := { s with heap := _ }) W (new_not_base F) (new_not_L F) ⟨⟨_, Heap.get?_push_size _ rfl, rfl, rfl⟩, hls.push _⟩ (F.push _) (fun p hp => ⟨Heap.get?_push_of_some _ (N p hp).1, (N p hp).2⟩) (fun p hp => Nat.ne_of_lt (Heap.lt_size (N p hp).1)) J h0 ?_ ?_ ?_ ?_ ?_ ?_
  · intro i h m₁ news₁ hJ F₁ N₁ b hb
    rw [List.mem_singleton.mp hb, hlk i h m₁ news₁ hJ F₁ N₁]
    exact (Heap.get?_push_of_some _ hol).symm
  · simpa using hne.symm
  · exact fun i h st => let ⟨o, ho, _⟩ := st.1; ⟨o, ho⟩
  · exact fun i v s Q E st h => letGo_list st.1 h
  · intro i v oI h tk m₁ news₁ _ hv hJ F₁ N₁ hn
    exact turn i v _ oI h tk m₁ news₁ (by simpa using hv) hJ F₁ N₁ hn
  · exact done

/-- a for over a text's signs, a name as target -/
theorem iter_str {x : Str} {t : Tok} {xt : Str} {pt : Pos}
    (hh : A.handled = none) (F : Fr g L s.heap m) (N : News g L s.heap news)
    (J : Nat → (Str → Option Value) → List (Addr × Obj) → Prop) (h0 : J 0 m news)
    (turn : ∀ i c u I oI h tk m₁ news₁, x.cps[i]? = some c → J i m₁ news₁ → Fr g L h m₁ → News g L h ((I, oI) :: news₁) → (∀ p ∈ news₁, p.1 ≠ I) →
      wpAny (model prog w) A (assign (.Name xt pt) env (.str ⟨#[c]⟩ u)) (fun _ s₂ => wpAny (model prog w) A (execs body env) (Turn g L s I oI (J (i + 1)) Q) (fun _ _ => False) s₂) (fun _ _ => False) { s with heap := h, toks := tk })
    (done : ∀ h tk m₁ news₁, J x.cps.size m₁ news₁ → Fr g L h m₁ → News g L h news₁ → Q .next { s with heap := h, toks := tk }) :
    wpAny (model prog w) A (pyIter (.str x t)) (fun it s₂ => codeAny (model prog w) A (.forLoop (.Name xt pt) it body [] env) (fun r s' => match r with | .ok f => Q f s' | .error e => E' e s') s₂) E s := by
  have go : ∀ (ty : String) (o : Obj), Walks prog w A s.heap.objs.size [s.heap.objs.size] [s.heap.objs.size] x.cps.size (SignAt x) (fun i h => h.IsStrIter s.heap.objs.size ty x t i) → (s.heap.push o).IsStrIter s.heap.objs.size ty x t 0 →
      codeAny (model prog w) A (.forLoop (.Name xt pt) (.ref s.heap.objs.size) body [] env) (fun r s' => match r with | .ok f => Q f s' | .error e => E' e s') { s with heap := s.heap.push o } := fun ty o W hst => ?_
  · cases ha : x.cps.all (· < 128)
    · exact wpAny_pyIter_wide ha (go _ _ (Walks.strWide hh _ x t) ⟨_, Heap.get?_push_size _ rfl, rfl, rfl⟩)
    · exact wpAny_pyIter_ascii ha (go _ _ (Walks.strAscii hh _ x t) ⟨_, Heap.get?_push_size _ rfl, rfl, rfl⟩)
  refine loop_walks (s := { s with heap := _ }) W (new_not_base F) (new_not_L F) hst (F.push _) (fun p hp => ⟨Heap.get?_push_of_some _ (N p hp).1, (N p hp).2⟩) (fun p hp => Nat.ne_of_lt (Heap.lt_size (N p hp).1)) J h0 ?_ ?_ ?_ ?_ ?_ ?_
  · intro i h m₁ news₁ hJ F₁ N₁ b hb; cases hb
  · intro hb; cases hb
  · exact fun i h st => let ⟨o, ho, _⟩ := st; ⟨o, ho⟩
  · exact fun i v s Q E st h => wpAny_pure h
  · rintro i v oI h tk m₁ news₁ _ ⟨c, u, hc, rfl⟩ hJ F₁ N₁ hn
    exact turn i c u _ oI h tk m₁ news₁ hc hJ F₁ N₁ hn
  · exact done

/-- a for over a range, a name as target -/
theorem iter_range {r : Addr} {a b c : Int} {n : Nat} {t u v : Tok} {xt : Str} {pt : Pos}
    (hh : A.handled = none) (F : Fr g L s.heap m) (N : News g L s.heap news) (hr : IsRange s.heap r a b c t u v) (hsmall : Builtin.Range.small a b c = true) (hn : Builtin.Range.rangeSize a b c = (n : Int))
    (J : Nat → (Str → Option Value) → List (Addr × Obj) → Prop) (h0 : J 0 m news)
    (turn : ∀ (i : Nat) u I oI h tk m₁ news₁, i < n → J i m₁ news₁ → Fr g L h m₁ → News g L h ((I, oI) :: news₁) → (∀ p ∈ news₁, p.1 ≠ I) →
      wpAny (model prog w) A (assign (.Name xt pt) env (.int (a + i * c) u)) (fun _ s₂ => wpAny (model prog w) A (execs body env) (Turn g L s I oI (J (i + 1)) Q) (fun _ _ => False) s₂) (fun _ _ => False) { s with heap := h, toks := tk })
    (done : ∀ h tk m₁ news₁, J n m₁ news₁ → Fr g L h m₁ → News g L h news₁ → Q .next { s with heap := h, toks := tk }) :
    wpAny (model prog w) A (pyIter (.ref r)) (fun it s₂ => codeAny (model prog w) A (.forLoop (.Name xt pt) it body [] env) (fun r s' => match r with | .ok f => Q f s' | .error e => E' e s') s₂) E s := by
  refine wpAny_pyIter_range hr hsmall ?_
  refine loop_walks (s := { s with heap := _ }) (Walks.range hh _ a c n) (new_not_base F) (new_not_L F) (by show IsRangeIter _ _ _ _ _; rw [hn]; simpa using Heap.get?_push_size _ rfl) (F.push _) (fun p hp => ⟨Heap.get?_push_of_some _ (N p hp).1, (N p hp).2⟩) (fun p hp => Nat.ne_of_lt (Heap.lt_size (N p hp).1)) J h0 ?_ ?_ ?_ ?_ ?_ ?_
  · intro i h m₁ news₁ hJ F₁ N₁ b hb; cases hb
  · intro hb; cases hb
  · exact fun i h st => ⟨_, st⟩
  · exact fun i v s Q E st h => wpAny_pure h
  · rintro i v oI h tk m₁ news₁ hi ⟨u, rfl⟩ hJ F₁ N₁ hn
    exact turn i u _ oI h tk m₁ news₁ hi hJ F₁ N₁ hn
  · exact done
end

/-- the end of a while's turn -/
def WTurn (g : Heap) (L : Addr) (s : Shared) (n : Nat) (J : Nat → (Str → Option Value) → List (Addr × Obj) → Prop) (Q : Flow → Shared → Prop) (f : Flow) (s₃ : Shared) : Prop :=
  match f with
  | .brk => Q .next s₃
  | .ret v => Q (.ret v) s₃
  | _ => ∃ k h tk m news, s₃ = { s with heap := h, toks := tk } ∧ k < n ∧ Fr g L h m ∧ News g L h news ∧ J k m news
/-- a while by a word and a measure -/
theorem while_rule {prog : Program} {w : World} {A : Around} {s : Shared} {Q : Flow → Shared → Prop} {E : Value → Shared → Prop} {env : Env} {g : Heap} {L : Addr} {m : Str → Option Value} {news : List (Addr × Obj)} {test : Expr} {body : List Stmt} {pos : Pos}
    (F : Fr g L s.heap m) (N : News g L s.heap news)
    (J : Nat → (Str → Option Value) → List (Addr × Obj) → Prop) (n : Nat) (h0 : J n m news)
    (turn : ∀ n h tk m news, J n m news → Fr g L h m → News g L h news →
      wpAny (model prog w) A (isTrue test env (eval test env)) (fun b s₂ => if b then wpAny (model prog w) A (execs body env) (WTurn g L s n J Q) (fun _ _ => False) s₂ else Q .next s₂) (fun _ _ => False) { s with heap := h, toks := tk }) :
    wpAny (model prog w) A (exec (.While test body [] pos) env) Q E s := by
  refine wpAny_While (codeAny_whileLoop (fun n s' => ∃ h tk m news, s' = { s with heap := h, toks := tk } ∧ Fr g L h m ∧ News g L h news ∧ J n m news) ?_ n ⟨_, _, _, _, rfl, F, N, h0⟩)
  rintro n s' ⟨h, tk, m, news, rfl, F, N, hJ⟩
  refine wpAny_mono (turn n h tk m news hJ F N) (fun b s₂ h₂ => ?_) fun _ _ x => x.elim
  cases b with
  | false =>
    simp only [Bool.false_eq_true, if_false] at h₂ ⊢
    exact wpAny_execs_nil h₂
  | true =>
    simp only [if_true] at h₂ ⊢
    refine wpAny_mono h₂ (fun f s₃ h₃ => ?_) fun _ _ x => x.elim
    have back : (∃ k h tk m news, s₃ = { s with heap := h, toks := tk } ∧ k < n ∧ Fr g L h m ∧ News g L h news ∧ J k m news) → ∃ k, k < n ∧ ∃ h tk m news, s₃ = { s with heap := h, toks := tk } ∧ Fr g L h m ∧ News g L h news ∧ J k m news := by
      rintro ⟨k, h, tk, m, news, e, hk, F, N, hj⟩
      exact ⟨k, hk, h, tk, m, news, e, F, N, hj⟩
    cases f with
    | next => exact back h₃
    | cont => exact back h₃
    | brk => exact h₃
    | ret v => exact h₃
/-- here the walk is to stop -/
def Hold (P : Prop) : Prop := P
theorem Hold.out {P : Prop} (h : Hold P) : P := h
theorem Hold.into {P : Prop} (h : P) : Hold P := h
theorem small_up {a b : Nat} (hb : b < 2 ^ 30) (ha : a < 2 ^ 30) : Builtin.Range.small (a : Int) (b : Int) 1 = true := by
  have e : Builtin.Range.rangeSize (a : Int) (b : Int) 1 ≤ 2 ^ 30 ∧ 0 ≤ Builtin.Range.rangeSize (a : Int) (b : Int) 1 := by
    unfold Builtin.Range.rangeSize
    rw [if_pos (by decide)]
    split <;> simp <;> omega
  unfold Builtin.Range.small Builtin.Range.rangeFitsLong
  generalize Builtin.Range.rangeSize (a : Int) (b : Int) 1 = z at e
  simp
  omega
theorem size_up (a b : Nat) : Builtin.Range.rangeSize (a : Int) (b : Int) 1 = ((b - a : Nat) : Int) := by
  unfold Builtin.Range.rangeSize
  rw [if_pos (by decide)]
  split <;> omega
section
variable {prog : Program} {w : World} {A : Around} {s : Shared} {Q : Flow → Shared → Prop} {E E' : Value → Shared → Prop} {env : Env} {g : Heap} {L : Addr} {m : Str → Option Value} {news : List (Addr × Obj)} {body : List Stmt}
/-- a for over a range by ones -/
theorem iter_up {r : Addr} {a b : Nat} {t u v : Tok} {xt : Str} {pt : Pos}
    (hh : A.handled = none) (F : Fr g L s.heap m) (N : News g L s.heap news) (hr : IsRange s.heap r (a : Int) (b : Int) 1 t u v) (hb : b < 2 ^ 30) (ha : a < 2 ^ 30)
    (J : Nat → (Str → Option Value) → List (Addr × Obj) → Prop) (h0 : J 0 m news)
    (turn : ∀ (i : Nat) u I oI h tk m₁ news₁, i < b - a → J i m₁ news₁ → Fr g L h m₁ → News g L h ((I, oI) :: news₁) → (∀ p ∈ news₁, p.1 ≠ I) →
      wpAny (model prog w) A (assign (.Name xt pt) env (.int ((a + i : Nat) : Int) u)) (fun _ s₂ => wpAny (model prog w) A (execs body env) (Turn g L s I oI (J (i + 1)) Q) (fun _ _ => False) s₂) (fun _ _ => False) { s with heap := h, toks := tk })
    (done : ∀ h tk m₁ news₁, J (b - a) m₁ news₁ → Fr g L h m₁ → News g L h news₁ → Q .next { s with heap := h, toks := tk }) :
    wpAny (model prog w) A (pyIter (.ref r)) (fun it s₂ => codeAny (model prog w) A (.forLoop (.Name xt pt) it body [] env) (fun r s' => match r with | .ok f => Q f s' | .error e => E' e s') s₂) E s := by
  refine iter_range hh F N hr (small_up hb ha) (size_up a b) J h0 ?_ done
  intro i u I oI h tk m₁ news₁ hi hJ F₁ N₁ hn
  have e : (a : Int) + (i : Int) * 1 = ((a + i : Nat) : Int) := by omega
  rw [e]
  exact turn i u I oI h tk m₁ news₁ hi hJ F₁ N₁ hn
end
def WDone (g : Heap) (L : Addr) (s : Shared) (Jd : (Str → Option Value) → List (Addr × Obj) → Prop) (s₂ : Shared) : Prop :=
  ∃ h tk m news, s₂ = { s with heap := h, toks := tk } ∧ Fr g L h m ∧ News g L h news ∧ Jd m news
theorem while_to {prog : Program} {w : World} {A : Around} {s : Shared} {Q : Flow → Shared → Prop} {E : Value → Shared → Prop} {env : Env} {g : Heap} {L : Addr} {m : Str → Option Value} {news : List (Addr × Obj)} {test : Expr} {body : List Stmt} {pos : Pos}
    (F : Fr g L s.heap m) (N : News g L s.heap news)
    (J : Nat → (Str → Option Value) → List (Addr × Obj) → Prop) (Jd : (Str → Option Value) → List (Addr × Obj) → Prop) (n : Nat) (h0 : J n m news)
    (turn : ∀ n h tk m news, J n m news → Fr g L h m → News g L h news →
      wpAny (model prog w) A (isTrue test env (eval test env)) (fun b s₂ => if b then wpAny (model prog w) A (execs body env) (WTurn g L s n J Q) (fun _ _ => False) s₂ else WDone g L s Jd s₂) (fun _ _ => False) { s with heap := h, toks := tk })
    (done : ∀ h tk m news, Jd m news → Fr g L h m → News g L h news → Q .next { s with heap := h, toks := tk }) :
    wpAny (model prog w) A (exec (.While test body [] pos) env) Q E s := by
  refine while_rule F N J n h0 fun n h tk m news hJ F N => wpAny_mono (turn n h tk m news hJ F N) (fun b s₂ h₂ => ?_) fun _ _ x => x
  cases b with
  | true => exact h₂
  | false =>
    obtain ⟨h, tk, m, news, rfl, F, N, hj⟩ := (h₂ : WDone g L s Jd s₂)
    exact done h tk m news hj F N
theorem execs_one {M : Model} {A : Around} {E : Value → Shared → Prop} {s : Shared} {env : Env} {st : Stmt} {Q : Flow → Shared → Prop} (h : wpAny M A (exec st env) Q E s) : wpAny M A (execs [st] env) Q E s :=
  wpAny_execs_cons (wpAny_mono h (fun f _ hq => by cases f <;> first | exact wpAny_execs_nil hq | exact hq) fun _ _ h => h)

inductive All2 {α β : Type} (R : α → β → Prop) : List α → List β → Prop where
  | nil : All2 R [] []
  | cons {a b as bs} : R a b → All2 R as bs → All2 R (a :: as) (b :: bs)
theorem All2.length {α β : Type} {R : α → β → Prop} {as : List α} {bs : List β} (h : All2 R as bs) : as.length = bs.length := by
  induction h with
  | nil => rfl
  | cons _ _ ih => simp [ih]
theorem All2.mono {α β : Type} {R R' : α → β → Prop} {as : List α} {bs : List β} (h : All2 R as bs) (k : ∀ a b, R a b → R' a b) : All2 R' as bs := by
  induction h with
  | nil => exact .nil
  | cons h _ ih => exact .cons (k _ _ h) ih
theorem All2.append {α β : Type} {R : α → β → Prop} {as as' : List α} {bs bs' : List β} (h : All2 R as bs) (h' : All2 R as' bs') : All2 R (as ++ as') (bs ++ bs') := by
  induction h with
  | nil => exact h'
  | cons h _ ih => exact .cons h ih
theorem All2.get {α β : Type} {R : α → β → Prop} {as : List α} {bs : List β} (h : All2 R as bs) : ∀ {i : Nat} {a : α}, as[i]? = some a → ∃ b, bs[i]? = some b ∧ R a b := by
  induction h with
  | nil => intro i a e; cases e
  | cons h _ ih =>
    intro i a e
    cases i with
    | zero => simp at e; subst e; exact ⟨_, by simp, h⟩
    | succ i => simp at e; obtain ⟨b, e1, e2⟩ := ih e; exact ⟨b, by simpa using e1, e2⟩
theorem All2.get' {α β : Type} {R : α → β → Prop} {as : List α} {bs : List β} (h : All2 R as bs) : ∀ {i : Nat} {b : β}, bs[i]? = some b → ∃ a, as[i]? = some a ∧ R a b := by
  induction h with
  | nil => intro i a e; cases e
  | cons h _ ih =>
    intro i a e
    cases i with
    | zero => simp at e; subst e; exact ⟨_, by simp, h⟩
    | succ i => simp at e; obtain ⟨b, e1, e2⟩ := ih e; exact ⟨b, by simpa using e1, e2⟩
theorem All2.one {α β : Type} {R : α → β → Prop} {a : α} {b : β} (h : R a b) : All2 R [a] [b] := .cons h .nil

/-- a piece: buffer, first, count -/
abbrev Pc := Nat × Nat × Nat
abbrev Led := List (Addr × Obj)
def HasL (h : Heap) (tl : Led) : Prop := ∀ p ∈ tl, h.get? p.1 = some p.2
theorem HasL.keeps {h h' : Heap} {tl : Led} (H : HasL h tl) (k : Keeps h h') : HasL h' tl := fun p hp => k _ _ (H p hp)
theorem HasL.sub {h : Heap} {tl tl' : Led} (H : HasL h tl) (k : ∀ p ∈ tl', p ∈ tl) : HasL h tl' := fun p hp => H p (k p hp)
theorem HasL.append {h : Heap} {tl tl' : Led} (H : HasL h tl) (H' : HasL h tl') : HasL h (tl ++ tl') := fun p hp => (List.mem_append.mp hp).elim (H p) (H' p)
theorem newsHas {g h : Heap} {L : Addr} {news : Led} (N : News g L h news) : HasL h news := fun p hp => (N p hp).1
theorem newsSub {g h : Heap} {L : Addr} {news news' : Led} (N : News g L h news) (k : ∀ p ∈ news', p ∈ news) : News g L h news' := fun p hp => N p (k p hp)
/-- what a call has made comes behind -/
theorem newsMore {g h h' : Heap} {L : Addr} {m : Str → Option Value} {news fz : Led} (F : Fr g L h m) (N : News g L h news) (k : Keeps h h') (H : HasL h' fz) (hf : ∀ p ∈ fz, h.get? p.1 = none) : News g L h' (news ++ fz) := fun p hp => by
  rcases List.mem_append.mp hp with hp | hp
  · exact ⟨k _ _ (N p hp).1, (N p hp).2⟩
  · obtain ⟨o, _, _, ho, _⟩ := F.ns
    have h1 := hf p hp
    refine ⟨H p hp, fun q => ?_, ?_⟩
    · rw [q, ho] at h1; cases h1
    · cases q : g.get? p.1 with
      | none => rfl
      | some o => rw [F.keep _ _ q] at h1; cases h1
/-- nothing of the ledger lies in the base that all came from -/
theorem newsFresh {g h h₀ : Heap} {L : Addr} {news : Led} {led : List Addr} (N : News g L h news) (k : ∀ b o, h₀.get? b = some o → b ∉ led → g.get? b = some o) : ∀ p ∈ news, p.1 ∉ led → h₀.get? p.1 = none := fun p hp hn => by
  cases q : h₀.get? p.1 with
  | none => rfl
  | some o => have := k _ _ q hn; rw [(N p hp).2.2] at this; cases this
theorem frKeeps {g h h' : Heap} {L : Addr} {m : Str → Option Value} (F : Fr g L h m) (k : Keeps h h') : Fr g L h' m := ⟨F.ns.keeps k, fun b o e => k b o (F.keep b o e), F.above⟩

def TupL (tl : Led) (v : Value) (p : Pc) : Prop :=
  ∃ ta n t1 t2 t3, v = .ref ta ∧ (ta, ({ cls := .type "tuple", data := .seq #[.int p.1 t1, .int p.2.1 t2, .int p.2.2 t3] n } : Obj)) ∈ tl
theorem TupL.mono {tl tl' : Led} {v : Value} {p : Pc} (h : TupL tl v p) (k : ∀ p ∈ tl, p ∈ tl') : TupL tl' v p :=
  let ⟨ta, n, t1, t2, t3, e, hm⟩ := h; ⟨ta, n, t1, t2, t3, e, k _ hm⟩
def PcsL (tl : Led) (a : Addr) (ps : List Pc) : Prop := ∃ vs n, (a, listOf vs.toArray n) ∈ tl ∧ All2 (TupL tl) vs ps
theorem PcsL.mono {tl tl' : Led} {a : Addr} {ps : List Pc} (h : PcsL tl a ps) (k : ∀ p ∈ tl, p ∈ tl') : PcsL tl' a ps :=
  let ⟨vs, n, hm, hv⟩ := h; ⟨vs, n, k _ hm, hv.mono fun _ _ q => q.mono k⟩
theorem TupL.isTup {h : Heap} {tl : Led} {v : Value} {p : Pc} (H : HasL h tl) (x : TupL tl v p) : ∃ ta t1 t2 t3, v = .ref ta ∧ IsTup h ta #[.int p.1 t1, .int p.2.1 t2, .int p.2.2 t3] :=
  let ⟨ta, n, t1, t2, t3, e, hm⟩ := x; ⟨ta, t1, t2, t3, e, _, H _ hm, rfl, n, rfl⟩

/-- the pieces of a stretch -/
def cutOne (b e place : Int) (p : Pc) : List Pc :=
  if max (b - place) 0 < min (e - place) p.2.2 then [(p.1, p.2.1 + (max (b - place) 0).toNat, (min (e - place) p.2.2 - max (b - place) 0).toNat)] else []
def total (ps : List Pc) : Nat := (ps.map (·.2.2)).sum
def cutFrom (b e : Int) : Int → List Pc → List Pc
  | _, [] => []
  | place, p :: r => cutOne b e place p ++ cutFrom b e (place + p.2.2) r
theorem total_append (ps qs : List Pc) : total (ps ++ qs) = total ps + total qs := by simp [total]
theorem total_cons (p : Pc) (qs : List Pc) : total (p :: qs) = p.2.2 + total qs := by simp [total]
theorem cutFrom_append (b e : Int) : ∀ (place : Int) (ps qs : List Pc), cutFrom b e place (ps ++ qs) = cutFrom b e place ps ++ cutFrom b e (place + total ps) qs
  | place, [], qs => by simp [cutFrom, total]
  | place, p :: r, qs => by
    rw [List.cons_append, cutFrom, cutFrom, cutFrom_append b e _ r qs, total_cons, List.append_assoc]
    congr 3
    omega
theorem cutOne_len (b e place : Int) (p : Pc) : (cutOne b e place p).length ≤ 1 := by unfold cutOne; split <;> simp
theorem cutFrom_len (b e : Int) : ∀ (place : Int) (ps : List Pc), (cutFrom b e place ps).length ≤ ps.length
  | _, [] => by simp [cutFrom]
  | place, p :: r => by
    rw [cutFrom, List.length_append, List.length_cons]
    have := cutOne_len b e place p
    have := cutFrom_len b e (place + p.2.2) r
    omega
theorem take_snoc {α : Type} {l : List α} {i : Nat} {a : α} (h : l[i]? = some a) : l.take (i + 1) = l.take i ++ [a] := by
  rw [List.take_add_one, h]; rfl
theorem cutFrom_snoc (b e : Int) {ps : List Pc} {i : Nat} {p : Pc} (h : ps[i]? = some p) : cutFrom b e 0 (ps.take (i + 1)) = cutFrom b e 0 (ps.take i) ++ cutOne b e (total (ps.take i)) p := by
  rw [take_snoc h, cutFrom_append]
  simp [cutFrom]
theorem total_snoc {ps : List Pc} {i : Nat} {p : Pc} (h : ps[i]? = some p) : total (ps.take (i + 1)) = total (ps.take i) + p.2.2 := by
  rw [take_snoc h, total_append]; simp [total]
theorem newsSwap {g h : Heap} {L : Addr} {a b : Addr × Obj} {r : Led} (N : News g L h (a :: b :: r)) : News g L h (b :: a :: r) := newsSub N fun p hp => by
  rcases List.mem_cons.mp hp with rfl | hp
  · exact .tail _ (.head _)
  · rcases List.mem_cons.mp hp with rfl | hp
    · exact .head _
    · exact .tail _ (.tail _ hp)
theorem cutOne_pos {b e place : Int} {p : Pc} (h : (if 0 > b - place then 0 else b - place) < if (p.2.2 : Int) < e - place then (p.2.2 : Int) else e - place) :
    cutOne b e place p = [(p.1, p.2.1 + (if 0 > b - place then 0 else b - place).toNat, ((if (p.2.2 : Int) < e - place then (p.2.2 : Int) else e - place) - (if 0 > b - place then 0 else b - place)).toNat)] := by
  have e1 : (if 0 > b - place then 0 else b - place) = max (b - place) 0 := by split <;> omega
  have e2 : (if (p.2.2 : Int) < e - place then (p.2.2 : Int) else e - place) = min (e - place) p.2.2 := by split <;> omega
  rw [e1, e2] at h ⊢
  unfold cutOne
  rw [if_pos h]
theorem cutOne_neg {b e place : Int} {p : Pc} (h : ¬ (if 0 > b - place then 0 else b - place) < if (p.2.2 : Int) < e - place then (p.2.2 : Int) else e - place) : cutOne b e place p = [] := by
  have e1 : (if 0 > b - place then 0 else b - place) = max (b - place) 0 := by split <;> omega
  have e2 : (if (p.2.2 : Int) < e - place then (p.2.2 : Int) else e - place) = min (e - place) p.2.2 := by split <;> omega
  rw [e1, e2] at h
  unfold cutOne
  rw [if_neg h]
theorem tupL_of {tl : Led} {ta : Addr} {n : Nat} {b f c : Int} {t1 t2 t3 : Tok} {p : Pc} (hm : (ta, ({ cls := .type "tuple", data := .seq #[.int b t1, .int f t2, .int c t3] n } : Obj)) ∈ tl) (hb : b = p.1) (hf : f = p.2.1) (hc : c = p.2.2) : TupL tl (.ref ta) p := by
  subst hb hf hc
  exact ⟨ta, n, t1, t2, t3, rfl, hm⟩
theorem newsRot {g h : Heap} {L : Addr} {a b c : Addr × Obj} {r : Led} (N : News g L h (a :: b :: c :: r)) : News g L h (b :: c :: a :: r) := newsSub N fun p hp => by
  simp only [List.mem_cons] at hp ⊢
  rcases hp with h | h | h | h <;> simp [h]
theorem newsTail {g h : Heap} {L : Addr} {a : Addr × Obj} {r : Led} (N : News g L h (a :: r)) : News g L h r := fun p hp => N p (.tail _ hp)
/-- all that the call did not own is as it was, and so is what it owned and gave back -/
theorem keepsBack {s₀ g h : Heap} {L : Addr} {m : Str → Option Value} {led : Led} (F : Fr g L h m) (H : HasL s₀ led) (Kh : ∀ b o, s₀.get? b = some o → b ∉ led.map (·.1) → g.get? b = some o) (back : HasL h led) : Keeps s₀ h := fun b o e => by
  by_cases hb : b ∈ led.map (·.1)
  · obtain ⟨p, hp, rfl⟩ := List.mem_map.mp hb
    have := H p hp
    rw [e] at this
    rw [back p hp, this]
  · exact F.keep b o (Kh b o e hb)
/-- a text's dict -/
abbrev tdict (w : World) (k1 k2 k3 k4 : Tok) (b p pa fu : Addr) : Obj :=
  dictOf [⟨PyData.keyHash w.params (Str.ofString "buffers"), .str (Str.ofString "buffers") k1, .ref b⟩, ⟨PyData.keyHash w.params (Str.ofString "pieces"), .str (Str.ofString "pieces") k2, .ref p⟩,
    ⟨PyData.keyHash w.params (Str.ofString "past"), .str (Str.ofString "past") k3, .ref pa⟩, ⟨PyData.keyHash w.params (Str.ofString "future"), .str (Str.ofString "future") k4, .ref fu⟩] 4
def StrV (v : Value) (x : Str) : Prop := ∃ t, v = .str x t
def Fresh (g : Heap) (tl : Led) : Prop := ∀ p ∈ tl, g.get? p.1 = none
/-- what of tl lies off the led addresses -/
def offL (led tl : Led) : Led := tl.filter fun q => !(led.map (·.1)).contains q.1
theorem mem_offL {led tl : Led} {q : Addr × Obj} : q ∈ offL led tl ↔ q ∈ tl ∧ q.1 ∉ led.map (·.1) := by
  unfold offL
  rw [List.mem_filter]
  simp only [Bool.not_eq_true', List.contains_eq_mem, decide_eq_false_iff_not]
theorem hasOff {s₀ g : Heap} {led tl : Led} (H : HasL s₀ tl) (Kh : ∀ b o, s₀.get? b = some o → b ∉ led.map (·.1) → g.get? b = some o) : HasL g (offL led tl) := fun q hq =>
  let ⟨h1, h2⟩ := mem_offL.mp hq; Kh _ _ (H q h1) h2
theorem notLed {s₀ : Heap} {led : Led} {a : Addr} {o : Obj} (ha : s₀.get? a = some o) (H : HasL s₀ led) (n : ∀ q ∈ led, q.2.cls ≠ o.cls) : a ∉ led.map (·.1) := fun hm => by
  obtain ⟨q, hq, rfl⟩ := List.mem_map.mp hm
  rw [H q hq] at ha
  cases ha
  exact n q hq rfl
theorem TupL.off {s₀ : Heap} {led tl : Led} {v : Value} {p : Pc} (H : HasL s₀ tl) (Hl : HasL s₀ led) (n : ∀ q ∈ led, q.2.cls ≠ .type "tuple") (x : TupL tl v p) : TupL (offL led tl) v p :=
  let ⟨ta, k, t1, t2, t3, e, hm⟩ := x; ⟨ta, k, t1, t2, t3, e, mem_offL.mpr ⟨hm, notLed (H _ hm) Hl n⟩⟩
theorem PcsL.off {s₀ : Heap} {led tl : Led} {a : Addr} {ps : List Pc} (H : HasL s₀ tl) (Hl : HasL s₀ led) (n : ∀ q ∈ led, q.2.cls ≠ .type "tuple") (ha : a ∉ led.map (·.1)) (x : PcsL tl a ps) : PcsL (offL led tl) a ps :=
  let ⟨vs, k, hm, hv⟩ := x; ⟨vs, k, mem_offL.mpr ⟨hm, ha⟩, hv.mono fun _ _ q => q.off H Hl n⟩
/-- the pieces with neighbours that follow each other made one -/
def joinStep (acc : List Pc) (p : Pc) : List Pc :=
  match acc.getLast? with
  | some q => if q.1 = p.1 ∧ q.2.1 + q.2.2 = p.2.1 then acc.dropLast ++ [(p.1, q.2.1, q.2.2 + p.2.2)] else acc ++ [p]
  | none => acc ++ [p]
def joinP (ps : List Pc) : List Pc := ps.foldl joinStep []
theorem joinP_snoc {ps : List Pc} {i : Nat} {p : Pc} (h : ps[i]? = some p) : joinP (ps.take (i + 1)) = joinStep (joinP (ps.take i)) p := by
  rw [take_snoc h]; simp [joinP]
theorem joinStep_nil (p : Pc) : joinStep [] p = [p] := rfl
theorem joinStep_one (acc : List Pc) (q p : Pc) : joinStep (acc ++ [q]) p = if q.1 = p.1 ∧ q.2.1 + q.2.2 = p.2.1 then acc ++ [(p.1, q.2.1, q.2.2 + p.2.2)] else acc ++ [q] ++ [p] := by
  unfold joinStep
  rw [List.getLast?_concat, List.dropLast_concat]
theorem joinStep_len (acc : List Pc) (p : Pc) : (joinStep acc p).length ≤ acc.length + 1 := by
  rcases List.eq_nil_or_concat acc with rfl | ⟨a, q, rfl⟩
  · simp [joinStep]
  · rw [List.concat_eq_append, joinStep_one]; split <;> simp
theorem joinP_len_aux : ∀ (ps acc : List Pc), (ps.foldl joinStep acc).length ≤ acc.length + ps.length
  | [], acc => by simp
  | p :: r, acc => by
    have h1 := joinP_len_aux r (joinStep acc p)
    have h2 := joinStep_len acc p
    simp only [List.foldl_cons, List.length_cons]
    omega
theorem joinP_len (ps : List Pc) : (joinP ps).length ≤ ps.length := by
  have := joinP_len_aux ps []
  simpa [joinP] using this
theorem All2.snocInv {α β : Type} {R : α → β → Prop} {as : List α} {a : α} {bs : List β} (h : All2 R (as ++ [a]) bs) : ∃ bs' b, bs = bs' ++ [b] ∧ All2 R as bs' ∧ R a b := by
  induction as generalizing bs with
  | nil =>
    cases h with
    | cons h1 h2 => cases h2; exact ⟨[], _, rfl, .nil, h1⟩
  | cons c as ih =>
    cases h with
    | cons h1 h2 =>
      obtain ⟨bs', b, rfl, h3, h4⟩ := ih h2
      exact ⟨_ :: bs', b, rfl, .cons h1 h3, h4⟩
def RefPcs (fz : Led) (v : Value) (ps : List Pc) : Prop := ∃ a, v = .ref a ∧ PcsL fz a ps
theorem RefPcs.mono {tl tl' : Led} {v : Value} {ps : List Pc} (h : RefPcs tl v ps) (k : ∀ p ∈ tl, p ∈ tl') : RefPcs tl' v ps := let ⟨a, e, x⟩ := h; ⟨a, e, x.mono k⟩
abbrev NeL (fz : Led) (a : Addr) : Prop := ∀ p ∈ fz, p.1 ≠ a
theorem NeL.append {fz fz' : Led} {a : Addr} (h : NeL fz a) (h' : NeL fz' a) : NeL (fz ++ fz') a := fun p hp => (List.mem_append.mp hp).elim (h p) (h' p)
theorem NeL.cons {q : Addr × Obj} {fz : Led} {a : Addr} (h : @Ne Nat q.1 a) (h' : NeL fz a) : NeL (q :: fz) a := List.forall_mem_cons.mpr ⟨h, h'⟩
theorem neL_fresh {h : Heap} {fz : Led} {a : Addr} {o : Obj} (hf : ∀ p ∈ fz, h.get? p.1 = none) (ho : h.get? a = some o) : NeL fz a := fun p hp q => by
  have := hf p hp
  rw [q, ho] at this; cases this
/-- a text as it lies: what it may turn first, then what stands still -/
structure TxAt (w : World) (t d b p pa fu : Addr) (k1 k2 k3 k4 : Tok) (bv pav fuv : List Value) (nb npa nfu : Nat) (fz tl : Led) (bufs : List Str) (ps : List Pc) (past fut : List (List Pc)) : Prop where
  tl_eq : tl = (t, instObj 134 d) :: (d, tdict w k1 k2 k3 k4 b p pa fu) :: (b, W.listOf bv.toArray nb) :: (pa, W.listOf pav.toArray npa) :: (fu, W.listOf fuv.toArray nfu) :: fz
  lt1 : @LT.lt Nat _ d t
  lt2 : @LT.lt Nat _ t b
  lt3 : @LT.lt Nat _ b pa
  lt4 : @LT.lt Nat _ pa fu
  ft : NeL fz t
  fd : NeL fz d
  fb : NeL fz b
  fpa : NeL fz pa
  ffu : NeL fz fu
  hb : All2 StrV bv bufs
  hp : PcsL fz p ps
  hpa : All2 (RefPcs fz) pav past
  hfu : All2 (RefPcs fz) fuv fut
def TxL (w : World) (tl : Led) (t : Addr) (bufs : List Str) (ps : List Pc) (past fut : List (List Pc)) : Prop :=
  ∃ d b p pa fu k1 k2 k3 k4 bv pav fuv nb npa nfu fz, TxAt w t d b p pa fu k1 k2 k3 k4 bv pav fuv nb npa nfu fz tl bufs ps past fut
theorem TxL.elim {w : World} {tl : Led} {t : Addr} {bufs : List Str} {ps : List Pc} {past fut : List (List Pc)} {P : Prop}
    (h : ∀ d b p pa fu k1 k2 k3 k4 bv pav fuv nb npa nfu fz, TxAt w t d b p pa fu k1 k2 k3 k4 bv pav fuv nb npa nfu fz tl bufs ps past fut → P) : TxL w tl t bufs ps past fut → P := fun x => Exists.elim x fun d x => Exists.elim x fun b x => Exists.elim x fun p x => Exists.elim x fun pa x => Exists.elim x fun fu x => Exists.elim x fun k1 x => Exists.elim x fun k2 x => Exists.elim x fun k3 x => Exists.elim x fun k4 x => Exists.elim x fun bv x => Exists.elim x fun pav x => Exists.elim x fun fuv x => Exists.elim x fun nb x => Exists.elim x fun npa x => Exists.elim x fun nfu x => Exists.elim x fun fz x => h d b p pa fu k1 k2 k3 k4 bv pav fuv nb npa nfu fz x
/-- what a call may have left of tl -/
structure Left (tl tl' : Led) (h h' : Heap) : Prop where
  has : HasL h' tl'
  from' : ∀ q ∈ tl', q.1 ∈ tl.map (·.1) ∨ h.get? q.1 = none
  off : ∀ b o, h.get? b = some o → b ∉ tl.map (·.1) → h'.get? b = some o
theorem allLt_ne {a : Addr} : ∀ {l : Led}, AllLt a l → NeL l a
  | [], _ => fun _ h => nomatch h
  | _ :: _, ⟨h, r⟩ => NeL.cons (Nat.ne_of_lt h) (allLt_ne r)
theorem leftOf {s₀ g h : Heap} {L : Addr} {m : Str → Option Value} {news tl tl' : Led} (F : Fr g L h m) (N : News g L h news) (Kh : ∀ b o, s₀.get? b = some o → b ∉ tl.map (·.1) → g.get? b = some o) (sub : ∀ q ∈ tl', q ∈ news) : Left tl tl' s₀ h where
  has := fun q hq => (N q (sub q hq)).1
  from' := fun q hq => by
    by_cases hm : q.1 ∈ tl.map (·.1)
    · exact .inl hm
    · exact .inr (newsFresh N Kh q (sub q hq) hm)
  off := fun b o e hb => F.keep b o (Kh b o e hb)
/-- what a call has made comes behind, and is none of the ledger's -/
theorem newsCall {g h h' : Heap} {L : Addr} {m : Str → Option Value} {news fz : Led} (F : Fr g L h m) (N : News g L h news) (k : Keeps h h') (H : HasL h' fz) (hf : ∀ p ∈ fz, h.get? p.1 = none) : Fr g L h' m ∧ News g L h' (news ++ fz) ∧ ∀ q ∈ news, NeL fz q.1 :=
  ⟨frKeeps F k, newsMore F N k H hf, fun q hq => neL_fresh hf (N q hq).1⟩
/-- a text's state, in plain words -/
structure TS where
  bufs : List Str
  ps : List Pc
  past : List (List Pc)
  fut : List (List Pc)
abbrev TxS (w : World) (tl : Led) (t : Addr) (T : TS) : Prop := TxL w tl t T.bufs T.ps T.past T.fut
def TS.len (T : TS) : Nat := total T.ps
def TS.change (T : TS) (nps : List Pc) : TS := { T with ps := joinP nps, past := T.past ++ [T.ps], fut := [] }
def TS.put (T : TS) (x y : Int) (added : Str) : TS :=
  { T with bufs := T.bufs ++ [added] }.change (cutFrom 0 x 0 T.ps ++ [(T.bufs.length, 0, added.length)] ++ cutFrom y T.len 0 T.ps)
def TS.insert (T : TS) (x : Int) (added : Str) : TS := if added = Str.ofString "" then T else T.put x x added
def TS.delete (T : TS) (x y : Int) : TS := if x < y then T.change (cutFrom 0 x 0 T.ps ++ cutFrom y T.len 0 T.ps) else T
def TS.replace (T : TS) (x y : Int) (added : Str) : TS := if x = y then T.insert x added else if added = Str.ofString "" then T.delete x y else T.put x y added
def TS.undo (T : TS) : TS := match T.past.getLast? with
  | none => T
  | some p => { T with ps := p, past := T.past.dropLast, fut := T.fut ++ [T.ps] }
def TS.redo (T : TS) : TS := match T.fut.getLast? with
  | none => T
  | some p => { T with ps := p, fut := T.fut.dropLast, past := T.past ++ [T.ps] }
/-- sizes that the machine bears -/
structure TS.Fits (T : TS) : Prop where
  b : T.bufs.length < 2 ^ 22
  p : T.ps.length < 2 ^ 22
  pa : T.past.length < 2 ^ 22
  fu : T.fut.length < 2 ^ 22
  t : T.len < 2 ^ 22
  bl : ∀ x ∈ T.bufs, x.length < 2 ^ 22
theorem freshOf {g g' h : Heap} {L : Addr} {news : Led} (N : News g' L h news) (Kg : Keeps g g') : Fresh g news := fun p hp => by
  cases q : g.get? p.1 with
  | none => rfl
  | some o => have := Kg _ _ q; rw [(N p hp).2.2] at this; cases this
theorem Fresh.sub {g : Heap} {tl tl' : Led} (G : Fresh g tl) (k : ∀ p ∈ tl', p ∈ tl) : Fresh g tl' := fun p hp => G p (k p hp)
theorem leftTrans {s₀ g h h' : Heap} {L : Addr} {m : Str → Option Value} {tl tl1 tl' : Led} (F : Fr g L h m) (Kh : ∀ b o, s₀.get? b = some o → b ∉ tl.map (·.1) → g.get? b = some o) (hm : tl1.map (·.1) = tl.map (·.1)) (X : Left tl1 tl' h h') : Left tl tl' s₀ h' where
  has := X.has
  from' := fun q hq => by
    by_cases hq1 : q.1 ∈ tl.map (·.1)
    · exact .inl hq1
    · rcases X.from' q hq with h1 | h1
      · exact .inl (hm ▸ h1)
      · right
        cases e : s₀.get? q.1 with
        | none => rfl
        | some o => rw [F.keep _ _ (Kh _ _ e hq1)] at h1; cases h1
  off := fun b o e hb => X.off b o (F.keep b o (Kh b o e hb)) (hm ▸ hb)
theorem notMap {tl2 tl : Led} (h : ∀ q ∈ tl, NeL tl2 q.1) : ∀ q ∈ tl2, q.1 ∉ tl.map (·.1) := fun q hq hm => by
  obtain ⟨r, hr, e⟩ := List.mem_map.mp hm
  exact h r hr q hq e.symm
theorem nm1 {g h : Heap} {L a : Addr} {o : Obj} {r : Led} (_ : News g L h ((a, o) :: r)) : ∃ x, x = a := ⟨_, rfl⟩
theorem nm2 {g h : Heap} {L a : Addr} {o : Obj} {q : Addr × Obj} {r : Led} (_ : News g L h (q :: (a, o) :: r)) : ∃ x, x = a := ⟨_, rfl⟩
theorem nm3 {g h : Heap} {L a : Addr} {o : Obj} {q q' : Addr × Obj} {r : Led} (_ : News g L h (q :: q' :: (a, o) :: r)) : ∃ x, x = a := ⟨_, rfl⟩
theorem ob1 {g h : Heap} {L a : Addr} {o : Obj} {r : Led} (_ : News g L h ((a, o) :: r)) : ∃ x, x = o := ⟨_, rfl⟩
theorem tupL_ofO {tl : Led} {ta : Addr} {n : Nat} {b f c : Int} {t1 t2 t3 : Tok} {p : Pc} {o : Obj} (hm : (ta, o) ∈ tl) (ho : o = ({ cls := .type "tuple", data := .seq #[.int b t1, .int f t2, .int c t3] n } : Obj)) (hb : b = p.1) (hf : f = p.2.1) (hc : c = p.2.2) : TupL tl (.ref ta) p := by
  subst hb hf hc
  rw [ho] at hm
  exact ⟨ta, n, t1, t2, t3, rfl, hm⟩
theorem ltAll {a : Addr} {l : Led} (h : AllLt a l) : ∀ p ∈ l, @LT.lt Nat _ p.1 a := by
  induction l with
  | nil => intro p hp; cases hp
  | cons q r ih =>
    intro p hp
    rcases List.mem_cons.mp hp with rfl | hp
    · exact h.1
    · exact ih h.2 p hp
theorem left_refl {h h' : Heap} {tl : Led} (H : HasL h tl) (k : Keeps h h') : Left tl tl h h' := ⟨H.keeps k, fun q hq => .inl (List.mem_map_of_mem hq), fun b o e _ => k b o e⟩
theorem All2.set {α β : Type} {R : α → β → Prop} {as : List α} {bs : List β} (h : All2 R as bs) {a : α} {b : β} (hr : R a b) : ∀ j : Nat, All2 R (as.set j a) (bs.set j b) := by
  induction h with
  | nil => intro j; exact .nil
  | cons h t ih =>
    intro j
    cases j with
    | zero => exact .cons hr t
    | succ j => exact .cons h (ih j)
theorem All2.replicate {α β : Type} {R : α → β → Prop} {a : α} {b : β} (h : R a b) : ∀ n : Nat, All2 R (List.replicate n a) (List.replicate n b)
  | 0 => .nil
  | n + 1 => .cons h (All2.replicate h n)
theorem newsHead {g h : Heap} {L : Addr} {a : Addr × Obj} {r : Led} (N : News g L h (a :: r)) : News g L h [a] := fun p hp => N p (by rw [List.mem_singleton.mp hp]; exact .head _)
theorem callLeft {g h h' : Heap} {L : Addr} {m : Str → Option Value} {news tl tl' other : Led} (F : Fr g L h m) (N : News g L h news) (sub : ∀ q ∈ tl, q ∈ news) (X : Left tl tl' h h') (ho : ∀ q ∈ other, q ∈ news) (hd : ∀ q ∈ other, q.1 ∉ tl.map (·.1)) : Fr g L h' m ∧ News g L h' (other ++ tl') := by
  obtain ⟨oL, es, ep, hL, r⟩ := F.ns
  have nL : L ∉ tl.map (·.1) := fun q => by
    obtain ⟨p, hp, e⟩ := List.mem_map.mp q
    exact (N p (sub p hp)).2.1 e
  have ng : ∀ b o, g.get? b = some o → b ∉ tl.map (·.1) := fun b o e q => by
    obtain ⟨p, hp, rfl⟩ := List.mem_map.mp q
    rw [(N p (sub p hp)).2.2] at e; cases e
  refine ⟨⟨⟨oL, es, ep, X.off _ _ hL nL, r⟩, fun b o e => X.off b o (F.keep b o e) (ng b o e), F.above⟩, fun q hq => ?_⟩
  rcases List.mem_append.mp hq with hq | hq
  · exact ⟨X.off _ _ (N q (ho q hq)).1 (hd q hq), (N q (ho q hq)).2⟩
  · refine ⟨X.has q hq, ?_⟩
    rcases X.from' q hq with h1 | h1
    · obtain ⟨p, hp, e⟩ := List.mem_map.mp h1
      have e' : p.1 = q.1 := e
      rw [← e']; exact (N p (sub p hp)).2
    · refine ⟨fun z => ?_, ?_⟩
      · rw [z, hL] at h1; cases h1
      · cases e : g.get? q.1 with
        | none => rfl
        | some o => rw [F.keep _ _ e] at h1; cases h1
theorem leftSelf {g h h' : Heap} {L : Addr} {m : Str → Option Value} {tl tl' : Led} (F : Fr g L h m) (N : News g L h tl) (X : Left tl tl' h h') : Fr g L h' m ∧ News g L h' tl' := by
  have := callLeft (other := []) F N (fun q hq => hq) X (fun q hq => nomatch hq) (fun q hq => nomatch hq)
  simpa using this
/-- what one after the other have left -/
theorem Left.trans {tl tl1 tl2 : Led} {h h1 h2 : Heap} (X : Left tl tl1 h h1) (Y : Left tl1 tl2 h1 h2) : Left tl tl2 h h2 where
  has := Y.has
  from' := fun q hq => by
    rcases Y.from' q hq with h' | h'
    · obtain ⟨p, hp, e⟩ := List.mem_map.mp h'
      have e' : p.1 = q.1 := e
      rw [← e']; exact X.from' p hp
    · by_cases hq1 : q.1 ∈ tl.map (·.1)
      · exact .inl hq1
      · right
        cases e : h.get? q.1 with
        | none => rfl
        | some o => rw [X.off _ _ e hq1] at h'; cases h'
  off := fun b o e hb => by
    refine Y.off b o (X.off b o e hb) fun q => ?_
    obtain ⟨p, hp, e'⟩ := List.mem_map.mp q
    have e'' : p.1 = b := e'
    rcases X.from' p hp with h' | h'
    · exact hb (e'' ▸ h')
    · rw [e'', e] at h'; cases h'

/-- the text of a list of signs -/
def ofL (l : List Nat) : Str := ⟨l.toArray⟩
theorem ofL_cps (x : Str) : ofL x.cps.toList = x := by unfold ofL; simp
theorem ofL_len (l : List Nat) : (ofL l).length = l.length := by unfold ofL Str.length; simp
theorem ofL_toList (l : List Nat) : (ofL l).cps.toList = l := by unfold ofL; simp
theorem str_len (x : Str) : x.length = x.cps.toList.length := by unfold Str.length; simp
def sub (x : Str) (a n : Nat) : Str := ofL ((x.cps.toList.drop a).take n)
theorem sub_all (x : Str) : sub x 0 x.length = x := by
  unfold sub
  rw [str_len, List.drop_zero, List.take_length, ofL_cps]
theorem slice_plain (x : Str) {a b : Nat} (hab : a ≤ b) (hb : b ≤ x.length) : Txt.slice x (some (a : Int)) (some (b : Int)) = sub x a (b - a) := by
  unfold Txt.slice
  split
  · rename_i h
    rw [StrLaws.strSliceIndices_plain hab hb] at h
    simp at h
    have h1 : a = 0 := by omega
    have h2 : b = x.length := by omega
    subst h1 h2
    exact (sub_all x).symm
  · rw [StrLaws.sliced_plain x hab hb]; rfl
theorem join_flat : ∀ ys : List Str, Str.join (Str.ofString "") ys = ofL (ys.flatMap (·.cps.toList))
  | [] => rfl
  | [x] => by simp [Str.join, ofL_cps]
  | x :: y :: r => by
    have ih := join_flat (y :: r)
    show x ++ Str.ofString "" ++ Str.join (Str.ofString "") (y :: r) = _
    rw [ih]
    refine Str.ext' ?_
    show (x ++ Str.ofString "" ++ ofL _).cps = _
    rw [Str.cps_append, Str.cps_append]
    apply Array.toList_inj.mp
    simp [ofL]
    rfl
theorem txtJoin_flat (ys : List Str) : Txt.join (Str.ofString "") ys = ofL (ys.flatMap (·.cps.toList)) := by
  rw [show Txt.join (Str.ofString "") ys = Str.join (Str.ofString "") ys from StrLaws.glued_eq_join _ _, join_flat]
theorem strsAre_of {vs : List Value} {ys : List Str} (h : All2 StrV vs ys) : StrsAre vs ys := by
  induction h with
  | nil => exact .nil
  | cons h _ ih => obtain ⟨t, rfl⟩ := h; exact .cons _ _ ih

def ValidP (bufs : List Str) (p : Pc) : Prop := ∃ x, bufs[p.1]? = some x ∧ p.2.1 + p.2.2 ≤ x.length
def Valid (bufs : List Str) (ps : List Pc) : Prop := ∀ p ∈ ps, ValidP bufs p
/-- what a piece says -/
def rdOne (bufs : List Str) (p : Pc) : List Nat := match bufs[p.1]? with
  | some x => (x.cps.toList.drop p.2.1).take p.2.2
  | none => []
/-- what pieces say -/
def rd (bufs : List Str) (ps : List Pc) : List Nat := ps.flatMap (rdOne bufs)
theorem rdOne_len {bufs : List Str} {p : Pc} (v : ValidP bufs p) : (rdOne bufs p).length = p.2.2 := by
  obtain ⟨x, hx, hl⟩ := v
  unfold rdOne
  rw [hx]
  rw [str_len] at hl
  simp only [List.length_take, List.length_drop]
  omega
theorem rd_len {bufs : List Str} : ∀ {ps : List Pc}, Valid bufs ps → (rd bufs ps).length = total ps
  | [], _ => rfl
  | p :: r, v => by
    have h1 := rdOne_len (v p (.head _))
    have h2 := rd_len (ps := r) fun q hq => v q (.tail _ hq)
    rw [total_cons, ← h1, ← h2, rd, List.flatMap_cons, List.length_append, rd]
theorem cutOne_valid {bufs : List Str} {b e place : Int} {p : Pc} (v : ValidP bufs p) : Valid bufs (cutOne b e place p) := by
  obtain ⟨x, hx, hl⟩ := v
  intro q hq
  unfold cutOne at hq
  split at hq
  · rename_i h
    rw [List.mem_singleton.mp hq]
    refine ⟨x, hx, ?_⟩
    dsimp only
    have hA := Int.le_max_right (b - place) 0
    have hB := Int.min_le_right (e - place) (p.2.2 : Int)
    generalize max (b - place) 0 = A at *
    generalize min (e - place) (p.2.2 : Int) = B at *
    omega
  · cases hq
theorem cutFrom_valid {bufs : List Str} {b e : Int} : ∀ {place : Int} {ps : List Pc}, Valid bufs ps → Valid bufs (cutFrom b e place ps)
  | _, [], _ => fun _ h => nomatch h
  | place, p :: r, v => fun q hq => by
    rw [cutFrom] at hq
    rcases List.mem_append.mp hq with hq | hq
    · exact cutOne_valid (v p (.head _)) q hq
    · exact cutFrom_valid (ps := r) (fun q hq => v q (.tail _ hq)) q hq
theorem slice_piece {bufs : List Str} {p : Pc} {x : Str} (hx : bufs[p.1]? = some x) (hl : p.2.1 + p.2.2 ≤ x.length) : Txt.slice x (some (p.2.1 : Int)) (some ((p.2.1 : Int) + (p.2.2 : Int))) = ofL (rdOne bufs p) := by
  have h := slice_plain x (a := p.2.1) (b := p.2.1 + p.2.2) (by omega) hl
  rw [Int.natCast_add] at h
  rw [h, Nat.add_sub_cancel_left]
  unfold rdOne sub
  rw [hx]
theorem total_cutOne (b e place : Int) (p : Pc) : total (cutOne b e place p) ≤ p.2.2 := by
  unfold cutOne
  split
  · simp [total]; omega
  · simp [total]
theorem total_cut (b e : Int) : ∀ (place : Int) (ps : List Pc), total (cutFrom b e place ps) ≤ total ps
  | _, [] => by simp [cutFrom]
  | place, p :: r => by
    rw [cutFrom, total_append, total_cons]
    have h1 := total_cutOne b e place p
    have h2 := total_cut b e (place + p.2.2) r
    omega
theorem rd_join (bufs : List Str) (qs : List Pc) : (qs.map fun p => ofL (rdOne bufs p)).flatMap (·.cps.toList) = rd bufs qs := by
  rw [List.flatMap_map, rd]
  exact congrArg (fun f => qs.flatMap f) (funext fun p => ofL_toList _)
theorem rd_join_len {bufs : List Str} {qs : List Pc} (v : Valid bufs qs) : ((qs.map fun p => ofL (rdOne bufs p)).map (·.length)).sum = total qs := by
  induction qs with
  | nil => rfl
  | cons p r ih =>
    rw [List.map_cons, List.map_cons, List.sum_cons, ih fun q hq => v q (.tail _ hq), total_cons, ofL_len, rdOne_len (v p (.head _))]
theorem item_at {x : Str} {k c : Nat} (h : x.cps.toList[k]? = some c) : Txt.item x (k : Int) = ofL [c] := by
  have hlt : k < x.length := by rw [str_len]; exact (List.getElem?_eq_some_iff.mp h).1
  have e : seqIndex? (k : Int) x.length = some k := by
    have := seqIndex_at (i := (k : Int)) (n := x.length) (by omega) (by omega)
    simpa using this
  have h' : x.cps[k]? = some c := by simpa using h
  first
    | (unfold Txt.item; rw [e]; simp [h', ofL])
    | (unfold Txt.item Txt.charAt; rw [e]; simp [h', ofL])
theorem ofL_inj {a b : List Nat} : ofL a = ofL b ↔ a = b := by
  constructor
  · intro h
    have := congrArg (fun x : Str => x.cps.toList) h
    simpa [ofL_toList] using this
  · intro h; rw [h]
theorem item_ne {x y : Str} {i j c c' : Nat} (h : x.cps.toList[i]? = some c) (h' : y.cps.toList[j]? = some c') (e : (Txt.item x (i : Int) != Txt.item y (j : Int)) = true) : c ≠ c' := by
  rw [item_at h, item_at h'] at e
  intro q
  subst q
  simp at e
theorem item_eq {x y : Str} {i j c c' : Nat} (h : x.cps.toList[i]? = some c) (h' : y.cps.toList[j]? = some c') (e : (Txt.item x (i : Int) != Txt.item y (j : Int)) = false) : c = c' := by
  rw [item_at h, item_at h'] at e
  have : ofL [c] = ofL [c'] := by simpa using e
  simpa using ofL_inj.mp this
theorem item_eq' {x y : Str} {i j c c' : Nat} (h : x.cps.toList[i]? = some c) (h' : y.cps.toList[j]? = some c') (e : (Txt.item x (i : Int) == Txt.item y (j : Int)) = true) : c = c' := by
  rw [item_at h, item_at h'] at e
  have : ofL [c] = ofL [c'] := by simpa using e
  simpa using ofL_inj.mp this
theorem item_ne' {x y : Str} {i j c c' : Nat} (h : x.cps.toList[i]? = some c) (h' : y.cps.toList[j]? = some c') (e : (Txt.item x (i : Int) == Txt.item y (j : Int)) = false) : c ≠ c' := by
  rw [item_at h, item_at h'] at e
  intro q
  subst q
  simp at e
theorem sign_ne {c c' k : Nat} {x : Str} (h : x.cps.toList[k]? = some c') (e : ((⟨#[c]⟩ : Str) != Txt.item x (k : Int)) = true) : c ≠ c' := by
  rw [item_at h] at e
  intro q
  subst q
  exact absurd e (by simp [ofL])
theorem sign_eq {c c' k : Nat} {x : Str} (h : x.cps.toList[k]? = some c') (e : ((⟨#[c]⟩ : Str) != Txt.item x (k : Int)) = false) : c = c' := by
  rw [item_at h] at e
  have : (⟨#[c]⟩ : Str) = ofL [c'] := by simpa using e
  simpa using ofL_inj.mp (show ofL [c] = ofL [c'] from this)
theorem sign_eq' {c c' k : Nat} {x : Str} (h : x.cps.toList[k]? = some c') (e : ((⟨#[c]⟩ : Str) == Txt.item x (k : Int)) = true) : c = c' := by
  rw [item_at h] at e
  have : (⟨#[c]⟩ : Str) = ofL [c'] := by simpa using e
  simpa using ofL_inj.mp (show ofL [c] = ofL [c'] from this)
theorem sign_ne' {c c' k : Nat} {x : Str} (h : x.cps.toList[k]? = some c') (e : ((⟨#[c]⟩ : Str) == Txt.item x (k : Int)) = false) : c ≠ c' := by
  rw [item_at h] at e
  intro q
  subst q
  exact absurd e (by simp [ofL])
theorem nl_eq : Str.ofString "\n" = ofL [10] := by decide +kernel
theorem sign_nl {c : Nat} (e : ((⟨#[c]⟩ : Str) == Str.ofString "\n") = true) : c = 10 := by
  rw [nl_eq] at e
  have : (⟨#[c]⟩ : Str) = ofL [10] := eq_of_beq e
  simpa using ofL_inj.mp (show ofL [c] = ofL [10] from this)
theorem sign_nnl {c : Nat} (e : ((⟨#[c]⟩ : Str) == Str.ofString "\n") = false) : c ≠ 10 := by
  rw [nl_eq] at e
  intro q
  subst q
  exact absurd e (by simp [ofL])

section
variable {prog : Program} {w : World} {A : Around} {E : Value → Shared → Prop} {s : Shared} {g : Heap} {L : Addr} {m : Str → Option Value} {news news' : Led} {l : Addr}
theorem mItemLast {value slice : PySem.Expr} {ys : List Value} {v : Value} {n : Nat} {u : Tok} {Q : Value → Shared → Prop} (N : News g L s.heap news) (hm : (l, W.listOf (ys ++ [v]).toArray n) ∈ news) (hlen : ys.length < 2 ^ 62) (h : Q v s)
    (hs : subscripted slice false (.ref l) (.int (-1) u) = operate [.ref l, .int (-1) u] (getItem (.ref l) (.int (-1) u)) := by with_unfolding_all rfl) :
    wpAny (model prog w) A (subscriptTail value slice (.ref l) (.int (-1) u)) Q E s := by
  have hl : s.heap.IsList l (ys ++ [v]).toArray := News.isList N hm
  have e : ((-1 : Int) + ((ys ++ [v]).toArray.size : Int)).toNat = ys.length := by simp; omega
  refine tail_any hl.typeIs slot_list_getitem.lookup (wpAny_getItem_list_neg hl (by decide) (by simp; omega) (by decide) ?_ h) hs
  rw [e]; simp
theorem mSetLast {ys : List Value} {v v' : Value} {n : Nat} {u : Tok} {Q : Unit → Shared → Prop} (F : Fr g L s.heap m) (N : News g L s.heap news) (U : Upd l (W.listOf (ys ++ [v]).toArray n) (W.listOf (ys ++ [v']).toArray n) news news') (hlen : ys.length < 2 ^ 62)
    (h : ∀ h', Fr g L h' m → News g L h' news' → Q () { s with heap := h' }) : wpAny (model prog w) A (setItem (.ref l) (.int (-1) u) v') Q E s := by
  obtain ⟨pre, post, rfl, rfl, a, b⟩ := U.split
  have z := N (l, W.listOf (ys ++ [v]).toArray n) (List.mem_append.mpr (.inr (.head _)))
  have e : ((-1 : Int) + ((ys ++ [v]).toArray.size : Int)).toNat = ys.length := by simp; omega
  refine ki_setBack z.1 (by decide) (by simp; omega) (by decide) (h _ (F.change (Heap.SameBut.update ..) z.2.1 z.2.2) (ki_turn _ N a b ?_ ?_))
  · rw [e]
    apply Array.toList_inj.mp
    simp
  · simp
theorem mLen {items : Array Value} {n : Nat} {Q : Value → Shared → Prop} (N : News g L s.heap news) (hm : (l, W.listOf items n) ∈ news) (hfit : (items.size : Int) < 2 ^ 63) (h : Q (.int items.size (s.toks + 1)) { s with toks := s.toks + 1 + 1 }) :
    wpAny (model prog w) A (call (.builtin "len") [.ref l]) Q E s := call_len_list (News.isList N hm) hfit h
end
section
variable {prog : Program} {w : World} {A : Around} {E : Value → Shared → Prop} {s : Shared} {g : Heap} {L : Addr} {m : Str → Option Value} {news : Led}
theorem mAdd {la lb : Addr} {vs ws : List Value} {na nb : Nat} {Q : Value → Shared → Prop} (F : Fr g L s.heap m) (N : News g L s.heap news) (ha : (la, W.listOf vs.toArray na) ∈ news) (hb : (lb, W.listOf ws.toArray nb) ∈ news) (hsz : vs.length + ws.length ≤ sizeLine)
    (h : ∀ l h', Fr g L h' m → News g L h' ((l, W.listOf (vs ++ ws).toArray 0) :: news) → NeL news l → (∀ p ∈ news, p.1 < l) → Q (.ref l) { s with heap := h' }) :
    wpAny (model prog w) A (binaryOp .Add (.ref la) (.ref lb)) Q E s :=
  add_lists F N (News.isList N ha) (News.isList N hb) (fun h' F' N' => h _ h' F' N' (fun p hp => Nat.ne_of_lt (Heap.lt_size (N p hp).1)) fun p hp => Heap.lt_size (N p hp).1) hsz
end
section
variable {prog : Program} {w : World} {A : Around} {E : Value → Shared → Prop} {s : Shared} {g : Heap} {L l : Addr} {m : Str → Option Value} {news news' : Led}
theorem mPop {ys : List Value} {y : Value} {n : Nat} {Q : Value → Shared → Prop} (F : Fr g L s.heap m) (N : News g L s.heap news) (U : Upd l (W.listOf (ys ++ [y]).toArray n) (W.listOf ys.toArray (n + 1)) news news') (hz : ys.length + 1 ≤ sizeLine)
    (h : ∀ h', Fr g L h' m → News g L h' news' → Q y { s with heap := h' }) : wpAny (model prog w) A (call (.builtin "list.pop") [.ref l]) Q E s :=
  kl_pop F N (p := ys) (y := y) (by simpa using kpa_last y ys) U (by simpa using hz) h
end
section
variable {prog : Program} {w : World} {A : Around} {E : Value → Shared → Prop} {s : Shared} {g : Heap} {L l : Addr} {m : Str → Option Value} {news : Led}
theorem mItem {value slice : PySem.Expr} {vs : List Value} {v : Value} {n : Nat} {k : Int} {u : Tok} {Q : Value → Shared → Prop} (N : News g L s.heap news) (hm : (l, W.listOf vs.toArray n) ∈ news) (hk : vs[k.toNat]? = some v) (h0 : 0 ≤ k) (h1 : k < 2 ^ 63) (h : Q v s)
    (hs : subscripted slice false (.ref l) (.int k u) = operate [.ref l, .int k u] (getItem (.ref l) (.int k u)) := by with_unfolding_all rfl) :
    wpAny (model prog w) A (subscriptTail value slice (.ref l) (.int k u)) Q E s := by
  have hl : s.heap.IsList l vs.toArray := News.isList N hm
  exact tail_any hl.typeIs slot_list_getitem.lookup (wpAny_getItem_list hl h0 h1 (by simpa using hk) h) hs
theorem mJoin {xs : Array Value} {ys : List Str} {n : Nat} {t : Tok} {Q : Value → Shared → Prop} (N : News g L s.heap news) (hm : (l, W.listOf xs n) ∈ news) (hi : All2 StrV xs.toList ys) (hok : (ys.map (·.length)).sum ≤ 16777216)
    (h : ∀ t' k, Q (.str (ofL (ys.flatMap (·.cps.toList))) t') { s with toks := k }) : wpAny (model prog w) A (call (.builtin "str.join") [.str (Str.ofString "") t, .ref l]) Q E s :=
  join_list (News.isList N hm) (strsAre_of hi) (by
    have e : (Str.ofString "").length = 0 := by decide
    rw [e]; omega) fun t' k => by rw [txtJoin_flat]; exact h t' k
end
section
variable {prog : Program} {w : World} {A : Around} {E : Value → Shared → Prop} {s : Shared}
theorem mStrItem {value slice : PySem.Expr} {x : Str} {t : Tok} {c : Nat} {k : Int} {u : Tok} {Q : Value → Shared → Prop} (hk : x.cps.toList[k.toNat]? = some c) (h0 : 0 ≤ k) (h1 : k < 2 ^ 63) (h : Q (.str ⟨#[c]⟩ s.toks) { s with toks := s.toks + 1 })
    (hs : subscripted slice false (.str x t) (.int k u) = operate [.str x t, .int k u] (getItem (.str x t) (.int k u)) := by with_unfolding_all rfl) :
    wpAny (model prog w) A (subscriptTail value slice (.str x t) (.int k u)) Q E s := by
  refine tail_any (typeIs_str s x t) F.slot_str_getitem.lookup (P.getItem_str (by simp; omega) ?_ h) hs
  have hlt : k.toNat < x.length := by
    rw [str_len]; exact (List.getElem?_eq_some_iff.mp hk).1
  have e : seqIndex? k x.length = some k.toNat := seqIndex_at h0 (by omega)
  rw [e]
  simpa using hk
end
section
variable {prog : Program} {w : World} {A : Around} {E : Value → Shared → Prop} {s : Shared} {g : Heap} {L l : Addr} {m : Str → Option Value} {news news' : Led}
theorem mSetAt {vs : List Value} {v : Value} {n : Nat} {k : Int} {u : Tok} {Q : Unit → Shared → Prop} (F : Fr g L s.heap m) (N : News g L s.heap news) (U : Upd l (W.listOf vs.toArray n) (W.listOf (vs.set k.toNat v).toArray n) news news') (h0 : 0 ≤ k) (h1 : k < 2 ^ 63) (h2 : k < vs.length)
    (h : ∀ h', Fr g L h' m → News g L h' news' → Q () { s with heap := h' }) : wpAny (model prog w) A (setItem (.ref l) (.int k u) v) Q E s := by
  obtain ⟨pre, post, rfl, rfl, a, b⟩ := U.split
  have z := N (l, W.listOf vs.toArray n) (List.mem_append.mpr (.inr (.head _)))
  refine ki_setAt z.1 h0 h1 (by simpa using h2) (h _ (F.change (Heap.SameBut.update ..) z.2.1 z.2.2) (ki_turn _ N a b ?_ ?_))
  · apply Array.toList_inj.mp
    simp
  · simp
end

theorem fill : (fun (_ : OpenLaw) (_ : Params → Frag) => True) PySem.Challenge.rw_pb0329_01 Mine.kdef.heap_1 := by
  k_fill
  trivial
local macro_rules | `(tactic| ktr_unf) => `(tactic| (
  refine' enter ?kS ?kg ?led ?hled ?k6 ?k7 ?k8 ?k9 ?kB ?_ ?c2 ?c3 ?c4 ?c5
  (case kS => assumption)
  (case kg => assumption)
  (case k6 => exact rfl)
  (case k7 => k_is)
  (case k8 => omega)
  (case k9 => first | exact BindsTo.of_eq rfl | exact binds_K (St.inn (by assumption) (by assumption)) rfl (by k_is) rfl rfl rfl)
  (case kB => exact locs rfl)
  (case c2 => exact rfl)
  (case c3 => exact rfl)
  (case c4 => exact rfl)
  (case c5 => decide)))
local macro_rules | `(tactic| walk_at "call builtin:list.append") => `(tactic| (k_here; dsimp only [List.cons_append, List.nil_append]))
local macro_rules | `(tactic| walk_at "eval Name") => `(tactic| (k_here; k_dflt (refine' nameX_L ?F ?v ?_ ?a ?b; (case F => k_asm); (case a => rfl); (case b => rfl); (case v => first | rfl | assumption); k_whole)))
local macro_rules | `(tactic| size_fits) => `(tactic| assumption)
local macro_rules | `(tactic| k_all) => `(tactic| assumption)
local macro_rules | `(tactic| walk_at "loadName") => `(tactic| (k_here; k_dflt (refine' ldn ?F ?v ?_ ?a ?b; (case F => k_asm); (case a => rfl); (case b => rfl); (case v => first | rfl | assumption); k_whole)))
local macro_rules | `(tactic| tb_rel) => `(tactic| ((repeat (refine List.forall_mem_cons.mpr ⟨by k_mem, ?_⟩)); first | exact List.forall_mem_nil _ | (intro p hp; kwd_rel)))
local macro_rules | `(tactic| tb_start) => `(tactic| ((repeat (refine List.forall_mem_cons.mpr ⟨by (dsimp only [tdict, dictOf, instObj, W.listOf]; (first | decide | (intro e; cases e))), ?_⟩)); exact List.forall_mem_nil _))
local macro_rules | `(tactic| walk_at "call builtin:len") => `(tactic| (k_here; (with_reducible refine' mLen ?N ?l ?z ?_); k_dflt ((case N => k_asm); (case l => k_mem); (case z => first | with_reducible assumption | (simp only [Array.size_push, List.size_toArray, List.length_append, List.length_cons, List.length_nil]; omega)); k_whole)))
local macro_rules | `(tactic| walk_at "subscriptTail") => `(tactic| (k_here; (with_reducible refine' mItemLast ?N ?l ?z ?_ ?t); k_dflt ((case N => k_asm); (case l => k_mem); (case z => with_reducible assumption); (case t => with_unfolding_all rfl); k_whole)))
local macro_rules | `(tactic| walk_at "setItem ref int") => `(tactic| (k_here; (with_reducible refine' mSetLast ?F ?N ?U ?z ?_); k_dflt ((case F => k_asm); (case N => k_asm); (case U => k_upd); (case z => with_reducible assumption); k_whole); intro h' F' N'; (try k_sweep)))
local macro_rules | `(tactic| walk_at "call builtin:len") => `(tactic| (k_here; (with_reducible show wpAny _ _ (call (Value.builtin "len") [Value.str _ _]) _ _ _); k_dflt (refine' P.len_str ?z ?_; (case z => omega); k_whole)))
local macro_rules | `(tactic| kwd_rel) => `(tactic| first | exact List.Mem.head _ | assumption | (refine List.mem_append_right _ ?_; assumption) | (refine List.mem_append_left _ ?_; kwd_rel) | (refine List.mem_append_right _ ?_; kwd_rel) | (refine List.Mem.tail _ ?_; kwd_rel))
local macro_rules | `(tactic| walk_at "call builtin:list.pop") => `(tactic| (k_here; (with_reducible refine' mPop ?F ?N ?U ?z ?_); k_dflt ((case F => k_asm); (case N => k_asm); (case U => k_upd); (case z => with_reducible assumption); k_whole); (intro h' F' N'; (try k_sweep))))
local macro_rules | `(tactic| walk_at "subscriptTail") => `(tactic| (k_here; (with_reducible refine' mItem ?N ?l ?k ?z0 ?z1 ?_ ?t); k_dflt ((case N => k_asm); (case l => k_mem); (case k => with_reducible assumption); (case z0 => omega); (case z1 => omega); (case t => with_unfolding_all rfl); k_whole)))
local macro_rules | `(tactic| walk_at "subscriptTail") => `(tactic| (k_here; (with_reducible refine' mStrItem ?k ?z0 ?z1 ?_ ?t); k_dflt ((case k => with_reducible assumption); (case z0 => omega); (case z1 => omega); (case t => with_unfolding_all rfl); k_whole)))
local macro_rules | `(tactic| walk_at "exec For Name Call cons nil") => `(tactic| (k_here; refine Hold.out ?_))
local macro_rules | `(tactic| walk_at "exec For Name Name cons nil") => `(tactic| (k_here; refine Hold.out ?_))
local macro_rules | `(tactic| walk_at "exec For Tuple Name cons nil") => `(tactic| (k_here; refine Hold.out ?_))
local macro_rules | `(tactic| walk_at "exec For Tuple Call cons nil") => `(tactic| (k_here; refine Hold.out ?_))
local macro_rules | `(tactic| walk_at "exec For Tuple Attribute cons nil") => `(tactic| (k_here; refine Hold.out ?_))
local macro_rules | `(tactic| walk_at "exec While BoolOp cons nil") => `(tactic| (k_here; refine Hold.out ?_))
local macro_rules | `(tactic| walk_at "exec While Compare cons nil") => `(tactic| (k_here; refine Hold.out ?_))
local macro_rules | `(tactic| walk_at "pyIter ref") => `(tactic| (k_here; refine Hold.out ?_))
local macro_rules | `(tactic| walk_at "pyIter str") => `(tactic| (k_here; refine Hold.out ?_))
local macro_rules | `(tactic| walk_at "setItem ref int") => `(tactic| (k_here; (with_reducible refine' mSetAt ?F ?N ?U ?z0 ?z1 ?z2 ?_); k_dflt ((case F => k_asm); (case N => k_asm); (case U => k_upd); (case z0 => omega); (case z1 => omega); (case z2 => omega); k_whole); intro h' F' N'; (try k_sweep)))
local macro_rules | `(tactic| walk_at "eval ListComp") => `(tactic| (k_here; refine Hold.out ?_))
local macro_rules | `(tactic| walk_at "CompSrc") => `(tactic| (k_here; refine Hold.out ?_))
local macro_rules | `(tactic| walk_at "CompSrcT") => `(tactic| (k_here; refine Hold.out ?_))
local macro_rules | `(tactic| walk_at "execs cons") => `(tactic| (k_here; (try k_gentoks); (try k_fold); first | (with_reducible refine execs_one ?_) | ((with_reducible refine wpAny_execs_cons ?_); k_fold)))
theorem cut_spec {prog : Program} {w : World} {dp un : Nat} {fr : Option (List Env)} {gd : Option (List Code)} {s : Shared} {Q E : Value → Shared → Prop} {g : Heap} (S : St w g) (hg : Keeps g s.heap) (hdp : dp + 1 < recursionLimit)
    {tl : Led} (H : HasL s.heap tl) {l : Addr} {ps : List Pc} (hP : PcsL tl l ps) (hlen : ps.length < 2 ^ 23) (b e : Int) (t1 t2 : Tok)
    (ret : ∀ r fz h' tk', Keeps s.heap h' → HasL h' fz → (∀ p ∈ fz, s.heap.get? p.1 = none) → PcsL fz r (cutFrom b e 0 ps) → Q (.ref r) { s with heap := h', toks := tk' }) :
    wpAny (model prog w) (Ar dp un fr gd) (call (.ref 145) [.ref l, .int b t1, .int e t2]) Q E s := by
  ktr_unf
  case led => exact []
  case hled => intro p hp; cases hp
  intro g' h₁ mean mg mb F N KX T Kg Ks Kh Kl
  have Hg : HasL g' tl := fun p hp => Kh _ _ (H p hp) (by simp)
  clear Kl
  obtain ⟨vs, nl, hml, hvs⟩ := hP
  (try dsimp only at *)
  (try k_fold)
  k_steps
  refine Hold.into (wpAny_For ?_)
  k_steps
  rename Fr _ _ _ _ => F
  rename News _ _ _ _ => N
  refine Hold.into ?_
  refine iter_list rfl F N (F.keep _ _ (Hg _ hml)) rfl rfl
    (fun i m news => ∃ found place t rest xs n, m (Str.ofString "found") = some (.ref found) ∧ m (Str.ofString "place") = some (.int place t) ∧ m (Str.ofString "begin") = some (.int b t1) ∧ m (Str.ofString "end") = some (.int e t2) ∧
      news = (found, listOf xs n) :: rest ∧ (∀ p ∈ rest, p.1 ≠ found) ∧ place = (total (ps.take i) : Int) ∧ All2 (TupL rest) xs.toList (cutFrom b e 0 (ps.take i))) ?_ ?_ ?_ ?_
  · exact ⟨_, _, _, [], _, _, rfl, rfl, rfl, rfl, rfl, fun p hp => (nomatch hp), rfl, .nil⟩
  · intros i h m₁ news₁ _ F _
    exact F.keep _ _ (Hg _ hml)
  · intro i v I oI h tk m₁ news₁ hv; refine ex6 ?_; intro found place t rest xs n; refine an8 ?_; intro hm1 hm2 hm3 hm4 e91 hr e92 hxs; subst e91; subst e92; intro F N hne
    obtain ⟨p, hp, hvp⟩ := hvs.get hv
    obtain ⟨ta, tb, tf, tc, rfl, hta⟩ := hvp.isTup (fun p hp => F.keep _ _ (Hg p hp))
    refine unpackN_ F N hta rfl rfl rfl ?_
    clear hta F N
    intro h' F N
    have hlx := hxs.length
    have hxl : xs.size + 1 ≤ sizeLine := by
      have h1 := cutFrom_len b e 0 (ps.take i)
      rw [List.length_take] at h1
      have h3 : xs.toList.length = xs.size := by simp
      rw [sizeLine_eq]; omega
    have hfI : @Ne Nat I found := fun q => hne _ (.head _) q.symm
    dsimp only [assignEach, List.map]
    k_steps
    all_goals (rename Fr _ _ _ _ => F; rename News _ _ _ _ => N)
    · rename (_ : Int) < _ => hlt
      rename _ ∧ _ => hl
      refine ⟨_, _, _, (found, _) :: (_, _) :: rest, rfl, F, newsRot N, ?_, found, _, _, (_, _) :: rest, _, _, hm1, rfl, hm3, hm4, rfl, ?_, ?_, ?_⟩
      · refine List.forall_mem_cons.mpr ⟨hfI.symm, List.forall_mem_cons.mpr ⟨?_, fun p hp => hne p (.tail _ hp)⟩⟩
        refine neN ?_; omega
      · refine List.forall_mem_cons.mpr ⟨?_, hr⟩
        refine neN ?_; omega
      · rw [total_snoc hp]; omega
      · rw [cutFrom_snoc b e hp, cutOne_pos hlt, Array.toList_push]
        refine (hxs.mono fun _ _ q => q.mono fun p hp => .tail _ hp).append (.one (tupL_of (.head _) rfl ?_ ?_))
        · dsimp only; split <;> omega
        · dsimp only; omega
    · rename ¬ (_ : Int) < _ => hlt
      refine ⟨_, _, _, (found, _) :: rest, rfl, F, N, hne, found, _, _, rest, _, _, hm1, rfl, hm3, hm4, rfl, hr, ?_, ?_⟩
      · rw [total_snoc hp]; omega
      · rw [cutFrom_snoc b e hp, cutOne_neg hlt, List.append_nil]; exact hxs
  · intro h tk m₁ news₁; refine ex6 ?_; intro found place t rest xs n; refine an8 ?_; intro hm1 hm2 hm3 hm4 e91 hr e92 hxs; subst e91; subst e92; intro F N
    k_steps
    (try dsimp only)
    rw [hvs.length, List.take_length] at hxs
    exact ret found ((found, listOf xs n) :: rest) h tk (fun b o e => F.keep b o (Kh b o e (by simp))) (newsHas N) (fun p hp => newsFresh N Kh p hp (by simp)) ⟨xs.toList, n, by simp, hxs.mono fun _ _ q => q.mono fun p hp => .tail _ hp⟩

theorem length_spec {prog : Program} {w : World} {dp un : Nat} {fr : Option (List Env)} {gd : Option (List Code)} {s : Shared} {Q E : Value → Shared → Prop} {g : Heap} (S : St w g) (hg : Keeps g s.heap) (hdp : dp + 1 < recursionLimit)
    {tl : Led} (H : HasL s.heap tl) (G : Fresh g tl) {t d b p pa fu : Addr} {k1 k2 k3 k4 : Tok} {ps : List Pc} (ht : (t, instObj 134 d) ∈ tl) (hd : (d, tdict w k1 k2 k3 k4 b p pa fu) ∈ tl) (hP : PcsL tl p ps)
    (ret : ∀ u h' tk', Keeps s.heap h' → Q (.int (total ps) u) { s with heap := h', toks := tk' }) :
    wpAny (model prog w) (Ar dp un fr gd) (call (.ref 68) [.ref t]) Q E s := by
  have Hled : HasL s.heap [(t, instObj 134 d), (d, tdict w k1 k2 k3 k4 b p pa fu)] := List.forall_mem_cons.mpr ⟨H _ ht, List.forall_mem_cons.mpr ⟨H _ hd, List.forall_mem_nil _⟩⟩
  have hP' : PcsL (offL [(t, instObj 134 d), (d, tdict w k1 k2 k3 k4 b p pa fu)] tl) p ps := hP.off H Hled (by tb_start) (by
    obtain ⟨vs, n, hm, _⟩ := hP
    exact notLed (H _ hm) Hled (by tb_start))
  ktr_unf
  case led => exact [(t, instObj 134 d), (d, tdict w k1 k2 k3 k4 b p pa fu)]
  case hled => exact List.forall_mem_cons.mpr ⟨⟨H _ ht, G _ ht⟩, List.forall_mem_cons.mpr ⟨⟨H _ hd, G _ hd⟩, List.forall_mem_nil _⟩⟩
  intro g' h₁ mean mg mb F N KX T Kg Ks Kh Kl
  have Hg := hasOff H Kh
  clear Kl
  generalize offL [(t, instObj 134 d), (d, tdict w k1 k2 k3 k4 b p pa fu)] tl = tl' at Hg hP'
  obtain ⟨vs, nl, hml, hvs⟩ := hP'
  (try dsimp only at *)
  (try k_fold)
  k_steps
  refine Hold.into (wpAny_For ?_)
  k_steps
  rename Fr _ _ _ _ => F
  rename News _ _ _ _ => N
  refine Hold.into ?_
  refine iter_list rfl F N (F.keep _ _ (Hg _ hml)) rfl rfl
    (fun i m news => ∃ v u, m (Str.ofString "total") = some (.int v u) ∧ v = total (ps.take i) ∧ news = [(t, instObj 134 d), (d, tdict w k1 k2 k3 k4 b p pa fu)]) ?_ ?_ ?_ ?_
  · exact ⟨_, _, rfl, rfl, rfl⟩
  · intros i h m₁ news₁ _ F _
    exact F.keep _ _ (Hg _ hml)
  · intro i v I oI h tk m₁ news₁ hv; refine ex2 ?_; intro v u; refine an3 ?_; intro hm1 e91 e92; subst e91; subst e92; intro F N hne
    obtain ⟨p, hp, hvp⟩ := hvs.get hv
    obtain ⟨ta, tb, tf, tc, rfl, hta⟩ := hvp.isTup (fun p hp => F.keep _ _ (Hg p hp))
    refine unpackN_ F N hta rfl rfl rfl ?_
    clear hta F N
    intro h' F N
    dsimp only [assignEach, List.map]
    k_steps
    all_goals (rename Fr _ _ _ _ => F; rename News _ _ _ _ => N)
    refine ⟨_, _, _, _, rfl, F, N, hne, _, _, rfl, ?_, rfl⟩
    rw [total_snoc hp]; omega
  · intro h tk m₁ news₁; refine ex2 ?_; intro v u; refine an3 ?_; intro hm1 e91 e92; subst e91; subst e92; intro F N
    k_steps
    (try dsimp only)
    rw [hvs.length, List.take_length]
    exact ret _ h tk (keepsBack F Hled Kh (newsHas N))

theorem join_spec {prog : Program} {w : World} {dp un : Nat} {fr : Option (List Env)} {gd : Option (List Code)} {s : Shared} {Q E : Value → Shared → Prop} {g : Heap} (S : St w g) (hg : Keeps g s.heap) (hdp : dp + 1 < recursionLimit)
    {tl : Led} (H : HasL s.heap tl) {l : Addr} {ps : List Pc} (hP : PcsL tl l ps) (hlen : ps.length < 2 ^ 23)
    (ret : ∀ r fz h' tk', Keeps s.heap h' → HasL h' fz → (∀ p ∈ fz, s.heap.get? p.1 = none) → PcsL fz r (joinP ps) → Q (.ref r) { s with heap := h', toks := tk' }) :
    wpAny (model prog w) (Ar dp un fr gd) (call (.ref 152) [.ref l]) Q E s := by
  ktr_unf
  case led => exact []
  case hled => intro p hp; cases hp
  intro g' h₁ mean mg mb F N KX T Kg Ks Kh Kl
  have Hg : HasL g' tl := fun p hp => Kh _ _ (H p hp) (by simp)
  clear Kl
  obtain ⟨vs, nl, hml, hvs⟩ := hP
  (try dsimp only at *)
  (try k_fold)
  k_steps
  refine Hold.into (wpAny_For ?_)
  k_steps
  rename Fr _ _ _ _ => F
  rename News _ _ _ _ => N
  refine Hold.into ?_
  refine iter_list rfl F N (F.keep _ _ (Hg _ hml)) rfl rfl
    (fun i m news => ∃ found rest xs n, m (Str.ofString "found") = some (.ref found) ∧
      news = (found, listOf xs n) :: rest ∧ (∀ p ∈ rest, p.1 ≠ found) ∧ All2 (TupL rest) xs.toList (joinP (ps.take i))) ?_ ?_ ?_ ?_
  · exact ⟨_, [], _, _, rfl, rfl, fun p hp => (nomatch hp), .nil⟩
  · intros i h m₁ news₁ _ F _
    exact F.keep _ _ (Hg _ hml)
  · intro i v I oI h tk m₁ news₁ hv; refine ex4 ?_; intro found rest xs n; refine an4 ?_; intro hm1 e91 hr hxs; subst e91; intro F N hne
    obtain ⟨p, hp, hvp⟩ := hvs.get hv
    obtain ⟨ta, tb, tf, tc, rfl, hta⟩ := hvp.isTup (fun p hp => F.keep _ _ (Hg p hp))
    refine unpackN_ F N hta rfl rfl rfl ?_
    clear hta F N
    intro h' F N
    have hlx := hxs.length
    have hxl : xs.size + 1 ≤ sizeLine := by
      have h1 := joinP_len (ps.take i)
      rw [List.length_take] at h1
      have h3 : xs.toList.length = xs.size := by simp
      rw [sizeLine_eq]; omega
    have hfI : @Ne Nat I found := fun q => hne _ (.head _) q.symm
    dsimp only [assignEach, List.map]
    obtain ⟨xs⟩ := xs
    rcases List.eq_nil_or_concat xs with rfl | ⟨ys, v, rfl⟩
    · have hj : joinP (ps.take i) = [] := by
        cases hxs2 : joinP (ps.take i) with
        | nil => rfl
        | cons a r => rw [hxs2] at hlx; simp at hlx
      k_steps
      rename Fr _ _ _ _ => F
      rename News _ _ _ _ => N
      rename _ ∧ _ => hl
      refine ⟨_, _, _, (found, _) :: (_, _) :: rest, rfl, F, newsRot N, ?_, found, (_, _) :: rest, _, _, hm1, rfl, ?_, ?_⟩
      · refine List.forall_mem_cons.mpr ⟨hfI.symm, List.forall_mem_cons.mpr ⟨?_, fun p hp => hne p (.tail _ hp)⟩⟩
        refine neN ?_; omega
      · refine List.forall_mem_cons.mpr ⟨?_, hr⟩
        refine neN ?_; omega
      · rw [joinP_snoc hp, hj, joinStep_nil]
        exact .one (tupL_of (.head _) rfl rfl rfl)
    · rw [List.concat_eq_append] at *
      have hyl : ys.length < 2 ^ 62 := by
        have h1 : (ys ++ [v]).length + 1 ≤ sizeLine := hxl
        rw [sizeLine_eq, List.length_append] at h1; omega
      have hfit : (((ys ++ [v]).toArray.size : Nat) : Int) < 2 ^ 63 := by
        simp; omega
      obtain ⟨acc, q, hj, hys, hvq⟩ := hxs.snocInv
      have hpos : (0 : Int) < (({ toList := ys ++ [v] } : Array Value).size : Int) := by simp
      k_steps
      · rename Fr _ _ _ _ => F
        rename News _ _ _ _ => N
        obtain ⟨qa, qb, qf, qc, rfl, hqa⟩ := hvq.isTup (fun p hp => (N p (.tail _ (.tail _ hp))).1)
        refine unpackN_ F N hqa rfl rfl rfl ?_
        clear hqa F N
        intro h' F N
        dsimp only [assignEach, List.map]
        have hqr : ∀ {D : Addr}, @LT.lt Nat _ I D → @LT.lt Nat _ found D → ∀ o o', (∀ p ∈ ((found, o) : Addr × Obj) :: (D, o') :: rest, p.1 ≠ I) ∧ ∀ p ∈ ((D, o') : Addr × Obj) :: rest, p.1 ≠ found := fun {D} h1 h2 o o' =>
          ⟨List.forall_mem_cons.mpr ⟨hfI.symm, List.forall_mem_cons.mpr ⟨neN (Nat.ne_of_gt h1), fun p hp => hne p (.tail _ hp)⟩⟩, List.forall_mem_cons.mpr ⟨neN (Nat.ne_of_gt h2), hr⟩⟩
        k_steps
        all_goals (rename Fr _ _ _ _ => F; rename News _ _ _ _ => N; rename _ ∧ _ => hl)
        · have h1 : (q.1 : Int) = p.1 := by assumption
          have h2 : (q.2.1 : Int) + q.2.2 = p.2.1 := by assumption
          (try dsimp only)
          obtain ⟨ha, hb⟩ := hqr hl.1 hl.2.1 _ _
          refine ⟨_, _, _, (found, _) :: (_, _) :: rest, rfl, F, newsRot N, ha, found, (_, _) :: rest, _, _, hm1, rfl, hb, ?_⟩
          rw [joinP_snoc hp, hj, joinStep_one, if_pos ⟨by omega, by omega⟩]
          exact (hys.mono fun _ _ q => q.mono fun p hp => .tail _ hp).append (.one (tupL_of (.head _) rfl rfl (by simp)))
        · have h2 : (q.2.1 : Int) + q.2.2 ≠ p.2.1 := by assumption
          obtain ⟨ha, hb⟩ := hqr hl.1 hl.2.1 _ _
          refine ⟨_, _, _, (found, _) :: (_, _) :: rest, rfl, F, newsRot N, ha, found, (_, _) :: rest, _, _, hm1, rfl, hb, ?_⟩
          rw [joinP_snoc hp, hj, joinStep_one, if_neg (fun h => by omega), Array.toList_push]
          rw [hj] at hxs
          exact (hxs.mono fun _ _ q => q.mono fun p hp => .tail _ hp).append (.one (tupL_of (.head _) rfl rfl rfl))
        · have h1 : (q.1 : Int) ≠ p.1 := by assumption
          obtain ⟨ha, hb⟩ := hqr hl.1 hl.2.1 _ _
          refine ⟨_, _, _, (found, _) :: (_, _) :: rest, rfl, F, newsRot N, ha, found, (_, _) :: rest, _, _, hm1, rfl, hb, ?_⟩
          rw [joinP_snoc hp, hj, joinStep_one, if_neg (fun h => by omega), Array.toList_push]
          rw [hj] at hxs
          exact (hxs.mono fun _ _ q => q.mono fun p hp => .tail _ hp).append (.one (tupL_of (.head _) rfl rfl rfl))
  · intro h tk m₁ news₁; refine ex4 ?_; intro found rest xs n; refine an4 ?_; intro hm1 e91 hr hxs; subst e91; intro F N
    k_steps
    (try dsimp only)
    rw [hvs.length, List.take_length] at hxs
    exact ret found ((found, listOf xs n) :: rest) h tk (fun b o e => F.keep b o (Kh b o e (by simp))) (newsHas N) (fun p hp => newsFresh N Kh p hp (by simp)) ⟨xs.toList, n, by simp, hxs.mono fun _ _ q => q.mono fun p hp => .tail _ hp⟩

theorem change_spec {prog : Program} {w : World} {dp un : Nat} {fr : Option (List Env)} {gd : Option (List Code)} {s : Shared} {Q E : Value → Shared → Prop} {g : Heap} (S : St w g) (hg : Keeps g s.heap) (hdp : dp + 2 < recursionLimit)
    {tl : Led} (H : HasL s.heap tl) (G : Fresh g tl) {t : Addr} {bufs : List Str} {ps : List Pc} {past fut : List (List Pc)} (X : TxL w tl t bufs ps past fut)
    {tl2 : Led} (H2 : HasL s.heap tl2) {l : Addr} {nps : List Pc} (P2 : PcsL tl2 l nps) (dis : ∀ q ∈ tl2, q.1 ∉ tl.map (·.1)) (hlen : nps.length < 2 ^ 23) (hpl : past.length < 2 ^ 23)
    (ret : ∀ tl' h' tk', Left tl tl' s.heap h' → TxL w tl' t bufs (joinP nps) (past ++ [ps]) [] → Q .none { s with heap := h', toks := tk' }) :
    wpAny (model prog w) (Ar dp un fr gd) (call (.ref 82) [.ref t, .ref l]) Q E s := by
  revert X; refine TxL.elim ?_; intro d b p pa fu k1 k2 k3 k4 bv pav fuv nb npa nfu fz X
  obtain ⟨rfl, lt1, lt2, lt3, lt4, ft, fd, fb, fpa, ffu, hb, hp, hpa, hfu⟩ := X
  ktr_unf
  case led => exact (t, instObj 134 d) :: (d, tdict w k1 k2 k3 k4 b p pa fu) :: (b, W.listOf bv.toArray nb) :: (pa, W.listOf pav.toArray npa) :: (fu, W.listOf fuv.toArray nfu) :: fz
  case hled => exact fun q hq => ⟨H q hq, G q hq⟩
  intro g' h₁ mean mg mb F N KX T Kg Ks Kh Kl
  have Hg2 : HasL g' tl2 := fun q hq => Kh _ _ (H2 q hq) (dis q hq)
  clear Kl
  have hz : pav.toArray.size + 1 ≤ sizeLine := by
    have := hpa.length
    rw [sizeLine_eq]; simp; omega
  (try dsimp only at *)
  (try k_fold)
  k_steps
  rename Fr _ _ _ _ => F
  rename News _ _ _ _ => N
  rename _ ∧ _ => hl
  obtain ⟨la, lb, lc, ld, le, lf⟩ := hl
  refine join_spec (dp := dp + 1) S (fun b o e => F.keep _ _ (Kg _ _ e)) hdp (fun q hq => F.keep _ _ (Hg2 q hq)) P2 hlen ?_
  intro r fz2 h2 tk2 K2 H2' f2 P2'
  obtain ⟨F, N, nf⟩ := newsCall F N K2 H2' f2
  have n0 := nf _ (.head _)
  have n1 := nf _ (.tail _ (.head _))
  have n2 := nf _ (.tail _ (.tail _ (.head _)))
  have n3 := nf _ (.tail _ (.tail _ (.tail _ (.head _))))
  have n4 := nf _ (.tail _ (.tail _ (.tail _ (.tail _ (.head _)))))
  simp only [List.cons_append] at N
  have m1 := NeL.append fd n2
  k_steps
  rename Fr _ _ _ _ => F
  rename News _ _ _ _ => N
  (try dsimp only)
  have ep : pav.toArray.push (Value.ref p) = (pav ++ [Value.ref p]).toArray := by simp
  rw [ep] at N
  refine ret _ _ _ (leftOf F N Kh (tl' := (t, _) :: (d, tdict w k1 k2 k3 k4 b r pa _) :: (b, _) :: (pa, W.listOf (pav ++ [Value.ref p]).toArray (npa + 1)) :: (_, W.listOf #[] 0) :: (fu, W.listOf fuv.toArray nfu) :: (fz ++ fz2)) ?_)
    ⟨d, b, r, pa, _, k1, k2, k3, k4, bv, pav ++ [Value.ref p], [], nb, npa + 1, 0, (fu, W.listOf fuv.toArray nfu) :: (fz ++ fz2), ⟨rfl, lt1, lt2, lt3, ld, ?_, ?_, ?_, ?_, ?_, hb, ?_, ?_, .nil⟩⟩
  · tb_rel
  · exact NeL.cons (neN (by dsimp only; omega)) (ft.append n1)
  · exact NeL.cons (neN (by dsimp only; omega)) (fd.append n2)
  · exact NeL.cons (neN (by dsimp only; omega)) (fb.append n3)
  · exact NeL.cons (neN (by dsimp only; omega)) (fpa.append n4)
  · exact NeL.cons (neN (by dsimp only; omega)) ((allLt_ne lf).append n0)
  · exact P2'.mono fun q hq => .tail _ (List.mem_append_right _ hq)
  · exact (hpa.mono fun _ _ x => x.mono fun q hq => .tail _ (List.mem_append_left _ hq)).append (.one ⟨p, rfl, hp.mono fun q hq => .tail _ (List.mem_append_left _ hq)⟩)

theorem check_ok {prog : Program} {w : World} {dp un : Nat} {fr : Option (List Env)} {gd : Option (List Code)} {s : Shared} {Q E : Value → Shared → Prop} {g : Heap} (S : St w g) (hg : Keeps g s.heap) (hdp : dp + 2 < recursionLimit)
    {tl : Led} (H : HasL s.heap tl) (G : Fresh g tl) {t : Addr} {bufs : List Str} {ps : List Pc} {past fut : List (List Pc)} (X : TxL w tl t bufs ps past fut)
    {x y : Int} {tx ty : Tok} (h0 : 0 ≤ x) (h1 : x ≤ y) (h2 : y ≤ total ps)
    (ret : ∀ h' tk', Keeps s.heap h' → Q .none { s with heap := h', toks := tk' }) :
    wpAny (model prog w) (Ar dp un fr gd) (call (.ref 75) [.ref t, .int x tx, .int y ty]) Q E s := by
  revert X; refine TxL.elim ?_; intro d b p pa fu k1 k2 k3 k4 bv pav fuv nb npa nfu fz X
  obtain ⟨rfl, lt1, lt2, lt3, lt4, ft, fd, fb, fpa, ffu, hb, hp, hpa, hfu⟩ := X
  ktr_unf
  case led => exact (t, instObj 134 d) :: (d, tdict w k1 k2 k3 k4 b p pa fu) :: (b, W.listOf bv.toArray nb) :: (pa, W.listOf pav.toArray npa) :: (fu, W.listOf fuv.toArray nfu) :: fz
  case hled => exact fun q hq => ⟨H q hq, G q hq⟩
  intro g' h₁ mean mg mb F N KX T Kg Ks Kh Kl
  clear Kl
  have hxy : x ≤ total ps := Int.le_trans h1 h2
  (try dsimp only at *)
  (try k_fold)
  k_steps
  rename Fr _ _ _ _ => F
  rename News _ _ _ _ => N
  refine length_spec (dp := dp + 1) S (fun b o e => F.keep _ _ (Kg _ _ e)) hdp (newsHas N) G (.head _) (.tail _ (.head _)) (hp.mono fun q hq => .tail _ (.tail _ (.tail _ (.tail _ (.tail _ hq))))) ?_
  intro u h2 tk2 K2
  replace F := frKeeps F K2
  replace N := N.grown K2
  k_steps
  dsimp only [List.append_nil, List.nil_append]
  rename Fr _ _ _ _ => F
  rename News _ _ _ _ => N
  refine length_spec (dp := dp + 1) S (fun b o e => F.keep _ _ (Kg _ _ e)) hdp (newsHas N) G (.head _) (.tail _ (.head _)) (hp.mono fun q hq => .tail _ (.tail _ (.tail _ (.tail _ (.tail _ hq))))) ?_
  intro u h3 tk3 K3
  replace F := frKeeps F K3
  replace N := N.grown K3
  k_steps
  exact ret _ _ (keepsBack F H Kh (newsHas N))

theorem insert_nil {prog : Program} {w : World} {dp un : Nat} {fr : Option (List Env)} {gd : Option (List Code)} {s : Shared} {Q E : Value → Shared → Prop} {g : Heap} (S : St w g) (hg : Keeps g s.heap) (hdp : dp + 3 < recursionLimit)
    {tl : Led} (H : HasL s.heap tl) (G : Fresh g tl) {t : Addr} {T₀ : TS} (X : TxS w tl t T₀)
    {x : Int} {tx ta : Tok} (h0 : 0 ≤ x) (h1 : x ≤ T₀.len) {added : Str} (ha : added = Str.ofString "")
    (ret : ∀ h' tk', Keeps s.heap h' → Q .none { s with heap := h', toks := tk' }) :
    wpAny (model prog w) (Ar dp un fr gd) (call (.ref 89) [.ref t, .int x tx, .str added ta]) Q E s := by
  have X' := X
  revert X; refine TxL.elim ?_; intro d b p pa fu k1 k2 k3 k4 bv pav fuv nb npa nfu fz X
  obtain ⟨rfl, lt1, lt2, lt3, lt4, ft, fd, fb, fpa, ffu, hb, hp, hpa, hfu⟩ := X
  ktr_unf
  case led => exact (t, instObj 134 d) :: (d, tdict w k1 k2 k3 k4 b p pa fu) :: (b, W.listOf bv.toArray nb) :: (pa, W.listOf pav.toArray npa) :: (fu, W.listOf fuv.toArray nfu) :: fz
  case hled => exact fun q hq => ⟨H q hq, G q hq⟩
  intro g' h₁ mean mg mb F N KX T Kg Ks Kh Kl
  clear Kl
  (try dsimp only at *)
  (try k_fold)
  k_steps
  (try dsimp only [List.append_nil, List.nil_append])
  rename Fr _ _ _ _ => F
  rename News _ _ _ _ => N
  refine check_ok (dp := dp + 1) S (fun b o e => F.keep _ _ (Kg _ _ e)) hdp (newsHas N) G X' h0 (Int.le_refl _) h1 ?_
  intro h2 tk2 K2
  replace F := frKeeps F K2
  replace N := N.grown K2
  k_steps
  · rename (added != _) = true => hne
    subst ha
    exact absurd hne (by decide)
  · exact ret _ _ (keepsBack F H Kh (newsHas N))

theorem insert_some {prog : Program} {w : World} {dp un : Nat} {fr : Option (List Env)} {gd : Option (List Code)} {s : Shared} {Q E : Value → Shared → Prop} {g : Heap} (S : St w g) (hg : Keeps g s.heap) (hdp : dp + 3 < recursionLimit)
    {tl : Led} (H : HasL s.heap tl) (G : Fresh g tl) {t : Addr} {T₀ : TS} (X : TxS w tl t T₀) (Z : T₀.Fits)
    {x : Int} {tx ta : Tok} (h0 : 0 ≤ x) (h1 : x ≤ T₀.len) {added : Str} (ha : added ≠ Str.ofString "") (hal : added.length < 2 ^ 22)
    (ret : ∀ tl' h' tk', Left tl tl' s.heap h' → TxS w tl' t (T₀.put x x added) → Q .none { s with heap := h', toks := tk' }) :
    wpAny (model prog w) (Ar dp un fr gd) (call (.ref 89) [.ref t, .int x tx, .str added ta]) Q E s := by
  have X' := X
  revert X; refine TxL.elim ?_; intro d b p pa fu k1 k2 k3 k4 bv pav fuv nb npa nfu fz X
  obtain ⟨rfl, lt1, lt2, lt3, lt4, ft, fd, fb, fpa, ffu, hb, hp, hpa, hfu⟩ := X
  ktr_unf
  case led => exact (t, instObj 134 d) :: (d, tdict w k1 k2 k3 k4 b p pa fu) :: (b, W.listOf bv.toArray nb) :: (pa, W.listOf pav.toArray npa) :: (fu, W.listOf fuv.toArray nfu) :: fz
  case hled => exact fun q hq => ⟨H q hq, G q hq⟩
  intro g' h₁ mean mg mb F N KX T Kg Ks Kh Kl
  clear Kl
  have hbl := hb.length
  have hbz := Z.b
  have hpz := Z.p
  have hz : bv.toArray.size + 1 ≤ sizeLine := by
    rw [sizeLine_eq]; simp; omega
  (try dsimp only at *)
  (try k_fold)
  k_steps
  rename Fr _ _ _ _ => F
  rename News _ _ _ _ => N
  refine check_ok (dp := dp + 1) S (fun b o e => F.keep _ _ (Kg _ _ e)) hdp (newsHas N) G X' h0 (Int.le_refl _) h1 ?_
  intro h2 tk2 K2
  replace F := frKeeps F K2
  replace N := N.grown K2
  k_steps
  · rename Fr _ _ _ _ => F
    rename News _ _ _ _ => N
    rename Fr _ _ _ _ => F
    rename News _ _ _ _ => N
    rename _ ∧ _ => hD
    obtain ⟨D, eD⟩ := nm1 N
    subst eD
    obtain ⟨oD, hoD⟩ := ob1 N
    rw [← hoD] at N
    refine cut_spec (dp := dp + 1) S (fun b o e => F.keep _ _ (Kg _ _ e)) (by omega) (newsHas N) (hp.mono fun q hq => .tail _ (.tail _ (.tail _ (.tail _ (.tail _ (.tail _ hq)))))) (by omega) _ _ _ _ ?_
    intro r1 fz1 h3 tk3 K3 H3 f3 P3
    obtain ⟨F, N, nf1⟩ := newsCall F N K3 H3 f3
    simp only [List.cons_append] at N
    k_steps
    rename Fr _ _ _ _ => F
    rename News _ _ _ _ => N
    obtain ⟨vs1, n1, hm1, hv1⟩ := P3
    have hl1 := hv1.length
    have hc1 := cutFrom_len 0 x 0 T₀.ps
    refine mAdd F N (vs := vs1) (na := n1) (.tail _ (.tail _ (.tail _ (.tail _ (.tail _ (.tail _ (.tail _ (List.mem_append_right _ hm1)))))))) (.head _) (by rw [sizeLine_eq]; simp; omega) ?_
    intro l12 h4 F N nl12 lt12
    k_steps
    rename Fr _ _ _ _ => F
    rename News _ _ _ _ => N
    (try dsimp only [List.append_nil, List.nil_append])
    refine length_spec (dp := dp + 1) S (fun b o e => F.keep _ _ (Kg _ _ e)) (by omega) (newsHas N) (freshOf N Kg) (d := d) (by kwd_rel) (k1 := k1) (k2 := k2) (k3 := k3) (k4 := k4) (b := b) (pa := pa) (fu := fu) (p := p) (by kwd_rel) (hp.mono fun q hq => by kwd_rel) ?_
    intro u h5 tk5 K5
    replace F := frKeeps F K5
    replace N := N.grown K5
    k_steps
    rename Fr _ _ _ _ => F
    rename News _ _ _ _ => N
    refine cut_spec (dp := dp + 1) S (fun b o e => F.keep _ _ (Kg _ _ e)) (by omega) (newsHas N) (hp.mono fun q hq => by kwd_rel) (by omega) _ _ _ _ ?_
    intro r2 fz2 h6 tk6 K6 H6 f6 P6
    obtain ⟨F, N, nf2⟩ := newsCall F N K6 H6 f6
    simp only [List.cons_append] at N
    k_steps
    rename Fr _ _ _ _ => F
    rename News _ _ _ _ => N
    obtain ⟨vs2, n2, hm2, hv2⟩ := P6
    have hl2 := hv2.length
    have hc2 := cutFrom_len x (total T₀.ps) 0 T₀.ps
    refine mAdd F N (vs := vs1 ++ [Value.ref _]) (na := 0) (ws := vs2) (nb := n2) (.head _) (by kwd_rel) (by rw [sizeLine_eq]; simp; omega) ?_
    intro l3 h7 F N nl3 lt3'
    k_steps
    rename Fr _ _ _ _ => F
    rename News _ _ _ _ => N
    (try simp only [List.push_toArray] at N)
    have d1 : ∀ q ∈ (t, instObj 134 d) :: (d, tdict w k1 k2 k3 k4 b p pa fu) :: (b, W.listOf (bv ++ [Value.str added ta]).toArray (nb + 1)) :: (pa, W.listOf pav.toArray npa) :: (fu, W.listOf fuv.toArray nfu) :: fz, NeL ((l3, W.listOf (vs1 ++ [Value.ref D] ++ vs2).toArray 0) :: (D, oD) :: (fz1 ++ fz2)) q.1 := by
      intro q hq
      have hqD : @LT.lt Nat _ q.1 D := by
        rcases List.mem_cons.mp hq with rfl | hq
        · exact hD.1
        rcases List.mem_cons.mp hq with rfl | hq
        · exact hD.2.1
        rcases List.mem_cons.mp hq with rfl | hq
        · exact hD.2.2.1
        rcases List.mem_cons.mp hq with rfl | hq
        · exact hD.2.2.2.1
        rcases List.mem_cons.mp hq with rfl | hq
        · exact hD.2.2.2.2.1
        exact ltAll hD.2.2.2.2.2 q hq
      simp only [List.mem_cons] at hq
      refine NeL.cons (Ne.symm (nl3 q ?_)) (NeL.cons (Nat.ne_of_gt hqD) ((nf1 q ?_).append (nf2 q ?_))) <;> simp only [List.mem_cons, List.mem_append] <;> (rcases hq with h | h | h | h | h | h <;> simp [h])
    refine change_spec (dp := dp + 1) S (fun b o e => F.keep _ _ (Kg _ _ e)) (by omega)
      (tl := (t, instObj 134 d) :: (d, tdict w k1 k2 k3 k4 b p pa fu) :: (b, W.listOf (bv ++ [Value.str added ta]).toArray (nb + 1)) :: (pa, W.listOf pav.toArray npa) :: (fu, W.listOf fuv.toArray nfu) :: fz)
      ((newsHas N).sub ?s1) ((freshOf N Kg).sub ?s1) (bufs := T₀.bufs ++ [added]) (ps := T₀.ps) (past := T₀.past) (fut := T₀.fut)
      ⟨d, b, p, pa, fu, k1, k2, k3, k4, bv ++ [.str added ta], pav, fuv, nb + 1, npa, nfu, fz, ⟨rfl, lt1, lt2, lt3, lt4, ft, fd, fb, fpa, ffu, hb.append (.one ⟨ta, rfl⟩), hp, hpa, hfu⟩⟩
      (tl2 := (l3, W.listOf (vs1 ++ [Value.ref D] ++ vs2).toArray 0) :: (D, oD) :: (fz1 ++ fz2)) ((newsHas N).sub ?s2)
      (nps := cutFrom 0 x 0 T₀.ps ++ [(T₀.bufs.length, 0, added.length)] ++ cutFrom x (total T₀.ps) 0 T₀.ps)
      ⟨vs1 ++ [Value.ref D] ++ vs2, 0, .head _, ((hv1.mono fun _ _ z => z.mono fun q hq => by kwd_rel).append (.one (tupL_ofO (.tail _ (.head _)) hoD ?e1 rfl rfl))).append (hv2.mono fun _ _ z => z.mono fun q hq => by kwd_rel)⟩
      (notMap d1) ?hl1 ?hl2 ?_
    case s1 => tb_rel
    case s2 =>
      intro q hq
      rcases List.mem_cons.mp hq with rfl | hq
      · kwd_rel
      rcases List.mem_cons.mp hq with rfl | hq
      · kwd_rel
      rcases List.mem_append.mp hq with hq | hq <;> kwd_rel
    case e1 => simp; omega
    case hl1 => simp; omega
    case hl2 => have := Z.pa; omega
    intro tl' h8 tk8 L8 X8
    k_steps
    (try dsimp only)
    exact ret tl' _ _ (leftTrans F Kh (by rfl) L8) X8
  · rename (added != _) = false => hne
    exact absurd hne (by simpa using ha)

theorem insert_spec {prog : Program} {w : World} {dp un : Nat} {fr : Option (List Env)} {gd : Option (List Code)} {s : Shared} {Q E : Value → Shared → Prop} {g : Heap} (S : St w g) (hg : Keeps g s.heap) (hdp : dp + 3 < recursionLimit)
    {tl : Led} (H : HasL s.heap tl) (G : Fresh g tl) {t : Addr} {T₀ : TS} (X : TxS w tl t T₀) (Z : T₀.Fits)
    {x : Int} {tx ta : Tok} (h0 : 0 ≤ x) (h1 : x ≤ T₀.len) {added : Str} (hal : added.length < 2 ^ 22)
    (ret : ∀ tl' h' tk', Left tl tl' s.heap h' → TxS w tl' t (T₀.insert x added) → Q .none { s with heap := h', toks := tk' }) :
    wpAny (model prog w) (Ar dp un fr gd) (call (.ref 89) [.ref t, .int x tx, .str added ta]) Q E s := by
  by_cases ha : added = Str.ofString ""
  · exact insert_nil S hg hdp H G X h0 h1 ha fun h' tk' k => ret tl h' tk' (left_refl H k) (by rw [TS.insert, if_pos ha]; exact X)
  · exact insert_some S hg hdp H G X Z h0 h1 ha hal fun tl' h' tk' l x' => ret tl' h' tk' l (by rw [TS.insert, if_neg ha]; exact x')

theorem delete_nil {prog : Program} {w : World} {dp un : Nat} {fr : Option (List Env)} {gd : Option (List Code)} {s : Shared} {Q E : Value → Shared → Prop} {g : Heap} (S : St w g) (hg : Keeps g s.heap) (hdp : dp + 3 < recursionLimit)
    {tl : Led} (H : HasL s.heap tl) (G : Fresh g tl) {t : Addr} {T₀ : TS} (X : TxS w tl t T₀)
    {x y : Int} {tx ty : Tok} (h0 : 0 ≤ x) (h1 : x = y) (h2 : y ≤ T₀.len)
    (ret : ∀ h' tk', Keeps s.heap h' → Q .none { s with heap := h', toks := tk' }) :
    wpAny (model prog w) (Ar dp un fr gd) (call (.ref 96) [.ref t, .int x tx, .int y ty]) Q E s := by
  have X' := X
  revert X; refine TxL.elim ?_; intro d b p pa fu k1 k2 k3 k4 bv pav fuv nb npa nfu fz X
  obtain ⟨rfl, lt1, lt2, lt3, lt4, ft, fd, fb, fpa, ffu, hb, hp, hpa, hfu⟩ := X
  ktr_unf
  case led => exact (t, instObj 134 d) :: (d, tdict w k1 k2 k3 k4 b p pa fu) :: (b, W.listOf bv.toArray nb) :: (pa, W.listOf pav.toArray npa) :: (fu, W.listOf fuv.toArray nfu) :: fz
  case hled => exact fun q hq => ⟨H q hq, G q hq⟩
  intro g' h₁ mean mg mb F N KX T Kg Ks Kh Kl
  clear Kl
  (try dsimp only at *)
  (try k_fold)
  k_steps
  rename Fr _ _ _ _ => F
  rename News _ _ _ _ => N
  refine check_ok (dp := dp + 1) S (fun b o e => F.keep _ _ (Kg _ _ e)) hdp (newsHas N) G X' h0 (by omega) h2 ?_
  intro h2 tk2 K2
  replace F := frKeeps F K2
  replace N := N.grown K2
  k_steps
  exact ret _ _ (keepsBack F H Kh (newsHas N))

theorem delete_some {prog : Program} {w : World} {dp un : Nat} {fr : Option (List Env)} {gd : Option (List Code)} {s : Shared} {Q E : Value → Shared → Prop} {g : Heap} (S : St w g) (hg : Keeps g s.heap) (hdp : dp + 3 < recursionLimit)
    {tl : Led} (H : HasL s.heap tl) (G : Fresh g tl) {t : Addr} {T₀ : TS} (X : TxS w tl t T₀) (Z : T₀.Fits)
    {x y : Int} {tx ty : Tok} (h0 : 0 ≤ x) (h1 : x < y) (h2 : y ≤ T₀.len)
    (ret : ∀ tl' h' tk', Left tl tl' s.heap h' → TxS w tl' t (T₀.change (cutFrom 0 x 0 T₀.ps ++ cutFrom y T₀.len 0 T₀.ps)) → Q .none { s with heap := h', toks := tk' }) :
    wpAny (model prog w) (Ar dp un fr gd) (call (.ref 96) [.ref t, .int x tx, .int y ty]) Q E s := by
  have X' := X
  revert X; refine TxL.elim ?_; intro d b p pa fu k1 k2 k3 k4 bv pav fuv nb npa nfu fz X
  obtain ⟨rfl, lt1, lt2, lt3, lt4, ft, fd, fb, fpa, ffu, hb, hp, hpa, hfu⟩ := X
  ktr_unf
  case led => exact (t, instObj 134 d) :: (d, tdict w k1 k2 k3 k4 b p pa fu) :: (b, W.listOf bv.toArray nb) :: (pa, W.listOf pav.toArray npa) :: (fu, W.listOf fuv.toArray nfu) :: fz
  case hled => exact fun q hq => ⟨H q hq, G q hq⟩
  intro g' h₁ mean mg mb F N KX T Kg Ks Kh Kl
  clear Kl
  have hpz := Z.p
  (try dsimp only at *)
  (try k_fold)
  k_steps
  rename Fr _ _ _ _ => F
  rename News _ _ _ _ => N
  refine check_ok (dp := dp + 1) S (fun b o e => F.keep _ _ (Kg _ _ e)) hdp (newsHas N) G X' h0 (by omega) h2 ?_
  intro h2 tk2 K2
  replace F := frKeeps F K2
  replace N := N.grown K2
  k_steps
  rename Fr _ _ _ _ => F
  rename News _ _ _ _ => N
  refine cut_spec (dp := dp + 1) S (fun b o e => F.keep _ _ (Kg _ _ e)) (by omega) (newsHas N) (hp.mono fun q hq => by kwd_rel) (by omega) _ _ _ _ ?_
  intro r1 fz1 h3 tk3 K3 H3 f3 P3
  obtain ⟨F, N, nf1⟩ := newsCall F N K3 H3 f3
  simp only [List.cons_append] at N
  k_steps
  (try dsimp only [List.append_nil, List.nil_append])
  rename Fr _ _ _ _ => F
  rename News _ _ _ _ => N
  refine length_spec (dp := dp + 1) S (fun b o e => F.keep _ _ (Kg _ _ e)) (by omega) (newsHas N) (freshOf N Kg) (d := d) (by kwd_rel) (k1 := k1) (k2 := k2) (k3 := k3) (k4 := k4) (b := b) (pa := pa) (fu := fu) (p := p) (by kwd_rel) (hp.mono fun q hq => by kwd_rel) ?_
  intro u h5 tk5 K5
  replace F := frKeeps F K5
  replace N := N.grown K5
  k_steps
  rename Fr _ _ _ _ => F
  rename News _ _ _ _ => N
  refine cut_spec (dp := dp + 1) S (fun b o e => F.keep _ _ (Kg _ _ e)) (by omega) (newsHas N) (hp.mono fun q hq => by kwd_rel) (by omega) _ _ _ _ ?_
  intro r2 fz2 h6 tk6 K6 H6 f6 P6
  obtain ⟨F, N, nf2⟩ := newsCall F N K6 H6 f6
  simp only [List.cons_append] at N
  k_steps
  rename Fr _ _ _ _ => F
  rename News _ _ _ _ => N
  obtain ⟨vs1, n1, hm1, hv1⟩ := P3
  have hl1 := hv1.length
  have hc1 := cutFrom_len 0 x 0 T₀.ps
  obtain ⟨vs2, n2, hm2, hv2⟩ := P6
  have hl2 := hv2.length
  have hc2 := cutFrom_len y (total T₀.ps) 0 T₀.ps
  refine mAdd F N (vs := vs1) (na := n1) (ws := vs2) (nb := n2) (by kwd_rel) (by kwd_rel) (by rw [sizeLine_eq]; omega) ?_
  intro l3 h7 F N nl3 lt3'
  k_steps
  rename Fr _ _ _ _ => F
  rename News _ _ _ _ => N
  have d1 : ∀ q ∈ (t, instObj 134 d) :: (d, tdict w k1 k2 k3 k4 b p pa fu) :: (b, W.listOf bv.toArray nb) :: (pa, W.listOf pav.toArray npa) :: (fu, W.listOf fuv.toArray nfu) :: fz, NeL ((l3, W.listOf (vs1 ++ vs2).toArray 0) :: (fz1 ++ fz2)) q.1 := by
    intro q hq
    simp only [List.mem_cons] at hq
    refine NeL.cons (Ne.symm (nl3 q ?_)) ((nf1 q ?_).append (nf2 q ?_)) <;> simp only [List.mem_cons, List.mem_append] <;> (rcases hq with h | h | h | h | h | h <;> simp [h])
  refine change_spec (dp := dp + 1) S (fun b o e => F.keep _ _ (Kg _ _ e)) (by omega)
    (tl := (t, instObj 134 d) :: (d, tdict w k1 k2 k3 k4 b p pa fu) :: (b, W.listOf bv.toArray nb) :: (pa, W.listOf pav.toArray npa) :: (fu, W.listOf fuv.toArray nfu) :: fz)
    ((newsHas N).sub ?s1) ((freshOf N Kg).sub ?s1) X'
    (tl2 := (l3, W.listOf (vs1 ++ vs2).toArray 0) :: (fz1 ++ fz2)) ((newsHas N).sub ?s2)
    (nps := cutFrom 0 x 0 T₀.ps ++ cutFrom y (total T₀.ps) 0 T₀.ps)
    ⟨vs1 ++ vs2, 0, .head _, (hv1.mono fun _ _ z => z.mono fun q hq => by kwd_rel).append (hv2.mono fun _ _ z => z.mono fun q hq => by kwd_rel)⟩
    (notMap d1) ?hl1 ?hl2 ?_
  case s1 => tb_rel
  case s2 =>
    intro q hq
    rcases List.mem_cons.mp hq with rfl | hq
    · kwd_rel
    rcases List.mem_append.mp hq with hq | hq <;> kwd_rel
  case hl1 => simp; omega
  case hl2 => have := Z.pa; omega
  intro tl' h8 tk8 L8 X8
  k_steps
  (try dsimp only)
  exact ret tl' _ _ (leftTrans F Kh (by rfl) L8) X8

theorem delete_spec {prog : Program} {w : World} {dp un : Nat} {fr : Option (List Env)} {gd : Option (List Code)} {s : Shared} {Q E : Value → Shared → Prop} {g : Heap} (S : St w g) (hg : Keeps g s.heap) (hdp : dp + 3 < recursionLimit)
    {tl : Led} (H : HasL s.heap tl) (G : Fresh g tl) {t : Addr} {T₀ : TS} (X : TxS w tl t T₀) (Z : T₀.Fits)
    {x y : Int} {tx ty : Tok} (h0 : 0 ≤ x) (h1 : x ≤ y) (h2 : y ≤ T₀.len)
    (ret : ∀ tl' h' tk', Left tl tl' s.heap h' → TxS w tl' t (T₀.delete x y) → Q .none { s with heap := h', toks := tk' }) :
    wpAny (model prog w) (Ar dp un fr gd) (call (.ref 96) [.ref t, .int x tx, .int y ty]) Q E s := by
  by_cases ha : x = y
  · exact delete_nil S hg hdp H G X h0 ha h2 fun h' tk' k => ret tl h' tk' (left_refl H k) (by rw [TS.delete, if_neg (by omega)]; exact X)
  · exact delete_some S hg hdp H G X Z h0 (by omega) h2 fun tl' h' tk' l x' => ret tl' h' tk' l (by rw [TS.delete, if_pos (by omega)]; exact x')

theorem replace_spec {prog : Program} {w : World} {dp un : Nat} {fr : Option (List Env)} {gd : Option (List Code)} {s : Shared} {Q E : Value → Shared → Prop} {g : Heap} (S : St w g) (hg : Keeps g s.heap) (hdp : dp + 4 < recursionLimit)
    {tl : Led} (H : HasL s.heap tl) (G : Fresh g tl) {t : Addr} {T₀ : TS} (X : TxS w tl t T₀) (Z : T₀.Fits)
    {x y : Int} {tx ty ta : Tok} (h0 : 0 ≤ x) (h1 : x ≤ y) (hy2 : y ≤ T₀.len) {added : Str} (hal : added.length < 2 ^ 22)
    (ret : ∀ tl' h' tk', Left tl tl' s.heap h' → TxS w tl' t (T₀.replace x y added) → Q .none { s with heap := h', toks := tk' }) :
    wpAny (model prog w) (Ar dp un fr gd) (call (.ref 103) [.ref t, .int x tx, .int y ty, .str added ta]) Q E s := by
  have X' := X
  revert X; refine TxL.elim ?_; intro d b p pa fu k1 k2 k3 k4 bv pav fuv nb npa nfu fz X
  obtain ⟨rfl, lt1, lt2, lt3, lt4, ft, fd, fb, fpa, ffu, hb, hp, hpa, hfu⟩ := X
  ktr_unf
  case led => exact (t, instObj 134 d) :: (d, tdict w k1 k2 k3 k4 b p pa fu) :: (b, W.listOf bv.toArray nb) :: (pa, W.listOf pav.toArray npa) :: (fu, W.listOf fuv.toArray nfu) :: fz
  case hled => exact fun q hq => ⟨H q hq, G q hq⟩
  intro g' h₁ mean mg mb F N KX T Kg Ks Kh Kl
  clear Kl
  have hbl := hb.length
  have hbz := Z.b
  have hpz := Z.p
  have hz : bv.toArray.size + 1 ≤ sizeLine := by
    rw [sizeLine_eq]; simp; omega
  (try dsimp only at *)
  (try k_fold)
  k_steps
  rename Fr _ _ _ _ => F
  rename News _ _ _ _ => N
  refine check_ok (dp := dp + 1) S (fun b o e => F.keep _ _ (Kg _ _ e)) (by omega) (newsHas N) G X' h0 h1 hy2 ?_
  intro h2 tk2 K2
  replace F := frKeeps F K2
  replace N := N.grown K2
  k_steps
  · rename Fr _ _ _ _ => F
    rename News _ _ _ _ => N
    have hxy : x = y := by assumption
    refine insert_spec (dp := dp + 1) S (fun b o e => F.keep _ _ (Kg _ _ e)) (by omega) (newsHas N) G X' Z h0 (by omega) hal ?_
    intro tl' h8 tk8 L8 X8
    k_steps
    (try dsimp only)
    refine ret tl' _ _ (leftTrans F Kh (by rfl) L8) ?_
    rw [TS.replace, if_pos hxy]
    exact X8
  · rename Fr _ _ _ _ => F
    rename News _ _ _ _ => N
    have hxy : x ≠ y := by assumption
    rename (added == _) = true => hna
    have ha : added = Str.ofString "" := by simpa using hna
    refine delete_spec (dp := dp + 1) S (fun b o e => F.keep _ _ (Kg _ _ e)) (by omega) (newsHas N) G X' Z h0 h1 hy2 ?_
    intro tl' h8 tk8 L8 X8
    k_steps
    (try dsimp only)
    refine ret tl' _ _ (leftTrans F Kh (by rfl) L8) ?_
    rw [TS.replace, if_neg hxy, if_pos ha]
    exact X8
  · rename Fr _ _ _ _ => F
    rename News _ _ _ _ => N
    have hxy : x ≠ y := by assumption
    rename (added == _) = false => hna
    have ha : added ≠ Str.ofString "" := by simpa using hna
    rename Fr _ _ _ _ => F
    rename News _ _ _ _ => N
    rename _ ∧ _ => hD
    obtain ⟨D, eD⟩ := nm1 N
    subst eD
    obtain ⟨oD, hoD⟩ := ob1 N
    rw [← hoD] at N
    refine cut_spec (dp := dp + 1) S (fun b o e => F.keep _ _ (Kg _ _ e)) (by omega) (newsHas N) (hp.mono fun q hq => .tail _ (.tail _ (.tail _ (.tail _ (.tail _ (.tail _ hq)))))) (by omega) _ _ _ _ ?_
    intro r1 fz1 h3 tk3 K3 H3 f3 P3
    obtain ⟨F, N, nf1⟩ := newsCall F N K3 H3 f3
    simp only [List.cons_append] at N
    k_steps
    rename Fr _ _ _ _ => F
    rename News _ _ _ _ => N
    obtain ⟨vs1, n1, hm1, hv1⟩ := P3
    have hl1 := hv1.length
    have hc1 := cutFrom_len 0 x 0 T₀.ps
    refine mAdd F N (vs := vs1) (na := n1) (.tail _ (.tail _ (.tail _ (.tail _ (.tail _ (.tail _ (.tail _ (List.mem_append_right _ hm1)))))))) (.head _) (by rw [sizeLine_eq]; simp; omega) ?_
    intro l12 h4 F N nl12 lt12
    k_steps
    rename Fr _ _ _ _ => F
    rename News _ _ _ _ => N
    (try dsimp only [List.append_nil, List.nil_append])
    refine length_spec (dp := dp + 1) S (fun b o e => F.keep _ _ (Kg _ _ e)) (by omega) (newsHas N) (freshOf N Kg) (d := d) (by kwd_rel) (k1 := k1) (k2 := k2) (k3 := k3) (k4 := k4) (b := b) (pa := pa) (fu := fu) (p := p) (by kwd_rel) (hp.mono fun q hq => by kwd_rel) ?_
    intro u h5 tk5 K5
    replace F := frKeeps F K5
    replace N := N.grown K5
    k_steps
    rename Fr _ _ _ _ => F
    rename News _ _ _ _ => N
    refine cut_spec (dp := dp + 1) S (fun b o e => F.keep _ _ (Kg _ _ e)) (by omega) (newsHas N) (hp.mono fun q hq => by kwd_rel) (by omega) _ _ _ _ ?_
    intro r2 fz2 h6 tk6 K6 H6 f6 P6
    obtain ⟨F, N, nf2⟩ := newsCall F N K6 H6 f6
    simp only [List.cons_append] at N
    k_steps
    rename Fr _ _ _ _ => F
    rename News _ _ _ _ => N
    obtain ⟨vs2, n2, hm2, hv2⟩ := P6
    have hl2 := hv2.length
    have hc2 := cutFrom_len y (total T₀.ps) 0 T₀.ps
    refine mAdd F N (vs := vs1 ++ [Value.ref _]) (na := 0) (ws := vs2) (nb := n2) (.head _) (by kwd_rel) (by rw [sizeLine_eq]; simp; omega) ?_
    intro l3 h7 F N nl3 lt3'
    k_steps
    rename Fr _ _ _ _ => F
    rename News _ _ _ _ => N
    (try simp only [List.push_toArray] at N)
    have d1 : ∀ q ∈ (t, instObj 134 d) :: (d, tdict w k1 k2 k3 k4 b p pa fu) :: (b, W.listOf (bv ++ [Value.str added ta]).toArray (nb + 1)) :: (pa, W.listOf pav.toArray npa) :: (fu, W.listOf fuv.toArray nfu) :: fz, NeL ((l3, W.listOf (vs1 ++ [Value.ref D] ++ vs2).toArray 0) :: (D, oD) :: (fz1 ++ fz2)) q.1 := by
      intro q hq
      have hqD : @LT.lt Nat _ q.1 D := by
        rcases List.mem_cons.mp hq with rfl | hq
        · exact hD.1
        rcases List.mem_cons.mp hq with rfl | hq
        · exact hD.2.1
        rcases List.mem_cons.mp hq with rfl | hq
        · exact hD.2.2.1
        rcases List.mem_cons.mp hq with rfl | hq
        · exact hD.2.2.2.1
        rcases List.mem_cons.mp hq with rfl | hq
        · exact hD.2.2.2.2.1
        exact ltAll hD.2.2.2.2.2 q hq
      simp only [List.mem_cons] at hq
      refine NeL.cons (Ne.symm (nl3 q ?_)) (NeL.cons (Nat.ne_of_gt hqD) ((nf1 q ?_).append (nf2 q ?_))) <;> simp only [List.mem_cons, List.mem_append] <;> (rcases hq with h | h | h | h | h | h <;> simp [h])
    refine change_spec (dp := dp + 1) S (fun b o e => F.keep _ _ (Kg _ _ e)) (by omega)
      (tl := (t, instObj 134 d) :: (d, tdict w k1 k2 k3 k4 b p pa fu) :: (b, W.listOf (bv ++ [Value.str added ta]).toArray (nb + 1)) :: (pa, W.listOf pav.toArray npa) :: (fu, W.listOf fuv.toArray nfu) :: fz)
      ((newsHas N).sub ?s1) ((freshOf N Kg).sub ?s1) (bufs := T₀.bufs ++ [added]) (ps := T₀.ps) (past := T₀.past) (fut := T₀.fut)
      ⟨d, b, p, pa, fu, k1, k2, k3, k4, bv ++ [.str added ta], pav, fuv, nb + 1, npa, nfu, fz, ⟨rfl, lt1, lt2, lt3, lt4, ft, fd, fb, fpa, ffu, hb.append (.one ⟨ta, rfl⟩), hp, hpa, hfu⟩⟩
      (tl2 := (l3, W.listOf (vs1 ++ [Value.ref D] ++ vs2).toArray 0) :: (D, oD) :: (fz1 ++ fz2)) ((newsHas N).sub ?s2)
      (nps := cutFrom 0 x 0 T₀.ps ++ [(T₀.bufs.length, 0, added.length)] ++ cutFrom y (total T₀.ps) 0 T₀.ps)
      ⟨vs1 ++ [Value.ref D] ++ vs2, 0, .head _, ((hv1.mono fun _ _ z => z.mono fun q hq => by kwd_rel).append (.one (tupL_ofO (.tail _ (.head _)) hoD ?e1 rfl rfl))).append (hv2.mono fun _ _ z => z.mono fun q hq => by kwd_rel)⟩
      (notMap d1) ?hl1 ?hl2 ?_
    case s1 => tb_rel
    case s2 =>
      intro q hq
      rcases List.mem_cons.mp hq with rfl | hq
      · kwd_rel
      rcases List.mem_cons.mp hq with rfl | hq
      · kwd_rel
      rcases List.mem_append.mp hq with hq | hq <;> kwd_rel
    case e1 => simp; omega
    case hl1 => simp; omega
    case hl2 => have := Z.pa; omega
    intro tl' h8 tk8 L8 X8
    k_steps
    (try dsimp only)
    refine ret tl' _ _ (leftTrans F Kh (by rfl) L8) ?_
    rw [TS.replace, if_neg hxy, if_neg ha]
    exact X8

theorem undo_spec {prog : Program} {w : World} {dp un : Nat} {fr : Option (List Env)} {gd : Option (List Code)} {s : Shared} {Q E : Value → Shared → Prop} {g : Heap} (S : St w g) (hg : Keeps g s.heap) (hdp : dp + 1 < recursionLimit)
    {tl : Led} (H : HasL s.heap tl) (G : Fresh g tl) {t : Addr} {T₀ : TS} (X : TxS w tl t T₀) (Z : T₀.Fits)
    (ret : ∀ tl' h' tk' r, Left tl tl' s.heap h' → TxS w tl' t T₀.undo → r = (!T₀.past.isEmpty) → Q (.bool r) { s with heap := h', toks := tk' }) :
    wpAny (model prog w) (Ar dp un fr gd) (call (.ref 124) [.ref t]) Q E s := by
  have X' := X
  revert X; refine TxL.elim ?_; intro d b p pa fu k1 k2 k3 k4 bv pav fuv nb npa nfu fz X
  obtain ⟨rfl, lt1, lt2, lt3, lt4, ft, fd, fb, fpa, ffu, hb, hp, hpa, hfu⟩ := X
  ktr_unf
  case led => exact (t, instObj 134 d) :: (d, tdict w k1 k2 k3 k4 b p pa fu) :: (b, W.listOf bv.toArray nb) :: (pa, W.listOf pav.toArray npa) :: (fu, W.listOf fuv.toArray nfu) :: fz
  case hled => exact fun q hq => ⟨H q hq, G q hq⟩
  intro g' h₁ mean mg mb F N KX T Kg Ks Kh Kl
  clear Kl
  have hpal := hpa.length
  have hpaz := Z.pa
  have hful := hfu.length
  have hfuz := Z.fu
  have hz : fuv.toArray.size + 1 ≤ sizeLine := by
    rw [sizeLine_eq]; simp; omega
  rcases List.eq_nil_or_concat pav with rfl | ⟨ys, v, rfl⟩
  · have hpast : T₀.past = [] := by
      cases hpp : T₀.past with
      | nil => rfl
      | cons a r => rw [hpp] at hpal; simp at hpal
    (try dsimp only at *)
    (try k_fold)
    k_steps
    (try dsimp only)
    exact ret _ _ _ _ (left_refl H (keepsBack F H Kh (newsHas N))) (by rw [TS.undo, hpast]; exact X') (by rw [hpast]; rfl)
  · rw [List.concat_eq_append] at *
    obtain ⟨past', p1, hpast, hys, ⟨a, rfl, hpa1⟩⟩ := hpa.snocInv
    have hyz : ys.length + 1 ≤ sizeLine := by
      rw [sizeLine_eq]; simp at hpal; omega
    have hfit : (((ys ++ [Value.ref a]).toArray.size : Nat) : Int) < 2 ^ 63 := by
      simp; simp at hpal; omega
    (try dsimp only at *)
    (try k_fold)
    k_steps
    · rename (_ : Int) = _ => h00
      simp at h00
      omega
    · rename Fr _ _ _ _ => F
      rename News _ _ _ _ => N
      (try dsimp only)
      have eu : T₀.undo = { T₀ with ps := p1, past := past', fut := T₀.fut ++ [T₀.ps] } := by
        rw [TS.undo, hpast, List.getLast?_concat, List.dropLast_concat]
      have ep : fuv.toArray.push (Value.ref p) = (fuv ++ [Value.ref p]).toArray := by simp
      (try rw [ep] at N)
      refine ret ((t, instObj 134 d) :: (d, tdict w k1 k2 k3 k4 b a pa fu) :: (b, W.listOf bv.toArray nb) :: (pa, W.listOf ys.toArray (npa + 1)) :: (fu, W.listOf (fuv ++ [Value.ref p]).toArray (nfu + 1)) :: fz) _ _ _ (leftOf F N Kh ?s1) ?_ (by rw [hpast]; simp)
      case s1 => tb_rel
      rw [eu]
      exact ⟨d, b, a, pa, fu, k1, k2, k3, k4, bv, ys, fuv ++ [Value.ref p], nb, npa + 1, nfu + 1, fz, ⟨rfl, lt1, lt2, lt3, lt4, ft, fd, fb, fpa, ffu, hb, hpa1, hys, hfu.append (.one ⟨p, rfl, hp⟩)⟩⟩

theorem redo_spec {prog : Program} {w : World} {dp un : Nat} {fr : Option (List Env)} {gd : Option (List Code)} {s : Shared} {Q E : Value → Shared → Prop} {g : Heap} (S : St w g) (hg : Keeps g s.heap) (hdp : dp + 1 < recursionLimit)
    {tl : Led} (H : HasL s.heap tl) (G : Fresh g tl) {t : Addr} {T₀ : TS} (X : TxS w tl t T₀) (Z : T₀.Fits)
    (ret : ∀ tl' h' tk' r, Left tl tl' s.heap h' → TxS w tl' t T₀.redo → r = (!T₀.fut.isEmpty) → Q (.bool r) { s with heap := h', toks := tk' }) :
    wpAny (model prog w) (Ar dp un fr gd) (call (.ref 131) [.ref t]) Q E s := by
  have X' := X
  revert X; refine TxL.elim ?_; intro d b p pa fu k1 k2 k3 k4 bv pav fuv nb npa nfu fz X
  obtain ⟨rfl, lt1, lt2, lt3, lt4, ft, fd, fb, fpa, ffu, hb, hp, hpa, hfu⟩ := X
  ktr_unf
  case led => exact (t, instObj 134 d) :: (d, tdict w k1 k2 k3 k4 b p pa fu) :: (b, W.listOf bv.toArray nb) :: (pa, W.listOf pav.toArray npa) :: (fu, W.listOf fuv.toArray nfu) :: fz
  case hled => exact fun q hq => ⟨H q hq, G q hq⟩
  intro g' h₁ mean mg mb F N KX T Kg Ks Kh Kl
  clear Kl
  have hpal := hpa.length
  have hpaz := Z.pa
  have hful := hfu.length
  have hfuz := Z.fu
  have hz : pav.toArray.size + 1 ≤ sizeLine := by
    rw [sizeLine_eq]; simp; omega
  rcases List.eq_nil_or_concat fuv with rfl | ⟨ys, v, rfl⟩
  · have hpast : T₀.fut = [] := by
      cases hpp : T₀.fut with
      | nil => rfl
      | cons a r => rw [hpp] at hful; simp at hful
    (try dsimp only at *)
    (try k_fold)
    k_steps
    (try dsimp only)
    exact ret _ _ _ _ (left_refl H (keepsBack F H Kh (newsHas N))) (by rw [TS.redo, hpast]; exact X') (by rw [hpast]; rfl)
  · rw [List.concat_eq_append] at *
    obtain ⟨fut', p1, hpast, hys, ⟨a, rfl, hpa1⟩⟩ := hfu.snocInv
    have hyz : ys.length + 1 ≤ sizeLine := by
      rw [sizeLine_eq]; simp at hful; omega
    have hfit : (((ys ++ [Value.ref a]).toArray.size : Nat) : Int) < 2 ^ 63 := by
      simp; simp at hful; omega
    (try dsimp only at *)
    (try k_fold)
    k_steps
    · rename (_ : Int) = _ => h00
      simp at h00
      omega
    · rename Fr _ _ _ _ => F
      rename News _ _ _ _ => N
      (try dsimp only)
      have eu : T₀.redo = { T₀ with ps := p1, fut := fut', past := T₀.past ++ [T₀.ps] } := by
        rw [TS.redo, hpast, List.getLast?_concat, List.dropLast_concat]
      have ep : pav.toArray.push (Value.ref p) = (pav ++ [Value.ref p]).toArray := by simp
      (try rw [ep] at N)
      refine ret ((t, instObj 134 d) :: (d, tdict w k1 k2 k3 k4 b a pa fu) :: (b, W.listOf bv.toArray nb) :: (pa, W.listOf (pav ++ [Value.ref p]).toArray (npa + 1)) :: (fu, W.listOf ys.toArray (nfu + 1)) :: fz) _ _ _ (leftOf F N Kh ?s1) ?_ (by rw [hpast]; simp)
      case s1 => tb_rel
      rw [eu]
      exact ⟨d, b, a, pa, fu, k1, k2, k3, k4, bv, pav ++ [Value.ref p], ys, nb, npa + 1, nfu + 1, fz, ⟨rfl, lt1, lt2, lt3, lt4, ft, fd, fb, fpa, ffu, hb, hpa1, hpa.append (.one ⟨p, rfl, hp⟩), hys⟩⟩

theorem read_spec {prog : Program} {w : World} {dp un : Nat} {fr : Option (List Env)} {gd : Option (List Code)} {s : Shared} {Q E : Value → Shared → Prop} {g : Heap} (S : St w g) (hg : Keeps g s.heap) (hdp : dp + 3 < recursionLimit)
    {tl : Led} (H : HasL s.heap tl) (G : Fresh g tl) {t : Addr} {T₀ : TS} (X : TxS w tl t T₀) (Z : T₀.Fits) (V : Valid T₀.bufs T₀.ps)
    {x y : Int} {tx ty : Tok} (h0 : 0 ≤ x) (h1 : x ≤ y) (hy2 : y ≤ T₀.len)
    (ret : ∀ u h' tk', Keeps s.heap h' → Q (.str (ofL (rd T₀.bufs (cutFrom x y 0 T₀.ps))) u) { s with heap := h', toks := tk' }) :
    wpAny (model prog w) (Ar dp un fr gd) (call (.ref 110) [.ref t, .int x tx, .int y ty]) Q E s := by
  have X' := X
  revert X; refine TxL.elim ?_; intro d b p pa fu k1 k2 k3 k4 bv pav fuv nb npa nfu fz X
  obtain ⟨rfl, lt1, lt2, lt3, lt4, ft, fd, fb, fpa, ffu, hb, hp, hpa, hfu⟩ := X
  ktr_unf
  case led => exact (t, instObj 134 d) :: (d, tdict w k1 k2 k3 k4 b p pa fu) :: (b, W.listOf bv.toArray nb) :: (pa, W.listOf pav.toArray npa) :: (fu, W.listOf fuv.toArray nfu) :: fz
  case hled => exact fun q hq => ⟨H q hq, G q hq⟩
  intro g' h₁ mean mg mb F N KX T Kg Ks Kh Kl
  clear Kl
  have hbl := hb.length
  have hbz := Z.b
  have hpz := Z.p
  (try dsimp only at *)
  (try k_fold)
  k_steps
  rename Fr _ _ _ _ => F
  rename News _ _ _ _ => N
  refine check_ok (dp := dp + 1) S (fun b o e => F.keep _ _ (Kg _ _ e)) (by omega) (newsHas N) G X' h0 h1 hy2 ?_
  intro h2 tk2 K2
  replace F := frKeeps F K2
  replace N := N.grown K2
  k_steps
  refine Hold.into (wpAny_For ?_)
  k_steps
  rename Fr _ _ _ _ => F
  rename News _ _ _ _ => N
  rename _ ∧ _ => hf
  obtain ⟨found, ef⟩ := nm1 N
  subst ef
  refine cut_spec (dp := dp + 1) S (fun b o e => F.keep _ _ (Kg _ _ e)) (by omega) (newsHas N) (hp.mono fun q hq => by kwd_rel) (by omega) _ _ _ _ ?_
  intro r1 fz1 h3 tk3 K3 H3 f3 P3
  obtain ⟨F, N, nf1⟩ := newsCall F N K3 H3 f3
  simp only [List.cons_append] at N
  obtain ⟨vs1, n1, hm1, hv1⟩ := P3
  have hl1 := hv1.length
  have hc1 := cutFrom_len x y 0 T₀.ps
  have VQ := cutFrom_valid (b := x) (e := y) (place := 0) V
  k_steps
  obtain ⟨hf1, hf2, hf3, hf4, hf5, hf6⟩ := hf
  have hfz : NeL (fz ++ fz1) found := (allLt_ne hf6).append (nf1 _ (.head _))
  refine Hold.into ?_
  refine iter_list rfl F N (newsHas N (r1, _) (by kwd_rel)) rfl rfl
    (fun i m news => ∃ xs n, m (Str.ofString "found") = some (.ref found) ∧ m (Str.ofString "self") = some (.ref t) ∧
      news = (found, W.listOf xs n) :: (t, instObj 134 d) :: (d, tdict w k1 k2 k3 k4 b p pa fu) :: (b, W.listOf bv.toArray nb) :: (pa, W.listOf pav.toArray npa) :: (fu, W.listOf fuv.toArray nfu) :: (fz ++ fz1) ∧
      All2 StrV xs.toList (((cutFrom x y 0 T₀.ps).take i).map fun p => ofL (rdOne T₀.bufs p))) ?_ ?_ ?_ ?_
  · exact ⟨_, _, rfl, rfl, rfl, .nil⟩
  · intro i h m₁ news₁; refine ex2 ?_; intro xs n; refine an4 ?_; intro _ _ e91 _; subst e91; intro _ N
    exact newsHas N (r1, _) (by kwd_rel)
  · intro i v I oI h tk m₁ news₁ hv; refine ex2 ?_; intro xs n; refine an4 ?_; intro hn1 hn2 e91 hxs; subst e91; intro F N hne
    obtain ⟨p1, hp1, hvp⟩ := hv1.get hv
    obtain ⟨ta, tb, tf, tc, rfl, hta⟩ := hvp.isTup (h := h) (fun p hp => newsHas N p (by kwd_rel))
    refine unpackN_ F N hta rfl rfl rfl ?_
    clear hta F N
    intro h' F N
    obtain ⟨bx, hbx, hbl2⟩ := VQ p1 (List.mem_of_getElem? hp1)
    obtain ⟨bval, hbv, bt, rfl⟩ := hb.get' hbx
    have hbl3 : bx.length < 2 ^ 22 := Z.bl bx (List.mem_of_getElem? hbx)
    have hp1b : p1.1 < T₀.bufs.length := (List.getElem?_eq_some_iff.mp hbx).1
    have hk : bv[((p1.1 : Int)).toNat]? = some (.str bx bt) := by simpa using hbv
    have hlx := hxs.length
    have hxl : xs.size + 1 ≤ sizeLine := by
      rw [List.length_map, List.length_take] at hlx
      have h3 : xs.toList.length = xs.size := by simp
      rw [sizeLine_eq]; omega
    have hbs : bx.length ≤ sizeLine := by rw [sizeLine_eq]; omega
    have hfI : @Ne Nat I found := fun q => hne _ (.head _) q.symm
    have hne2 := fun o => NeL.cons (q := (found, o)) hfI.symm fun q hq => hne q (.tail _ hq)
    dsimp only [assignEach, List.map]
    k_steps
    all_goals (rename Fr _ _ _ _ => F; rename News _ _ _ _ => N)
    refine ⟨_, _, _, _, rfl, F, N, hne2 _, _, _, hn1, hn2, rfl, ?_⟩
    rw [Array.toList_push, take_snoc hp1, List.map_append, slice_piece hbx hbl2]
    exact hxs.append (.one ⟨_, rfl⟩)
  · intro h tk m₁ news₁; refine ex2 ?_; intro xs n; refine an4 ?_; intro hn1 hn2 e91 hxs; subst e91; intro F N
    k_steps
    rename Fr _ _ _ _ => F
    rename News _ _ _ _ => N
    rw [hl1, List.take_length] at hxs
    have ht := total_cut x y 0 T₀.ps
    have htz : total T₀.ps < 2 ^ 22 := Z.t
    refine mJoin N (.head _) hxs (by rw [rd_join_len VQ]; omega) fun u tk => ?_
    rw [rd_join]
    exact ret u _ _ (keepsBack F H Kh (fun q hq => newsHas N q (by revert q; tb_rel)))

theorem whole_spec {prog : Program} {w : World} {dp un : Nat} {fr : Option (List Env)} {gd : Option (List Code)} {s : Shared} {Q E : Value → Shared → Prop} {g : Heap} (S : St w g) (hg : Keeps g s.heap) (hdp : dp + 4 < recursionLimit)
    {tl : Led} (H : HasL s.heap tl) (G : Fresh g tl) {t : Addr} {T₀ : TS} (X : TxS w tl t T₀) (Z : T₀.Fits) (V : Valid T₀.bufs T₀.ps)
    (ret : ∀ u h' tk', Keeps s.heap h' → Q (.str (ofL (rd T₀.bufs (cutFrom 0 T₀.len 0 T₀.ps))) u) { s with heap := h', toks := tk' }) :
    wpAny (model prog w) (Ar dp un fr gd) (call (.ref 117) [.ref t]) Q E s := by
  have X' := X
  revert X; refine TxL.elim ?_; intro d b p pa fu k1 k2 k3 k4 bv pav fuv nb npa nfu fz X
  obtain ⟨rfl, lt1, lt2, lt3, lt4, ft, fd, fb, fpa, ffu, hb, hp, hpa, hfu⟩ := X
  ktr_unf
  case led => exact (t, instObj 134 d) :: (d, tdict w k1 k2 k3 k4 b p pa fu) :: (b, W.listOf bv.toArray nb) :: (pa, W.listOf pav.toArray npa) :: (fu, W.listOf fuv.toArray nfu) :: fz
  case hled => exact fun q hq => ⟨H q hq, G q hq⟩
  intro g' h₁ mean mg mb F N KX T Kg Ks Kh Kl
  clear Kl
  (try dsimp only at *)
  (try k_fold)
  k_steps
  (try dsimp only [List.append_nil, List.nil_append])
  rename Fr _ _ _ _ => F
  rename News _ _ _ _ => N
  refine length_spec (dp := dp + 1) S (fun b o e => F.keep _ _ (Kg _ _ e)) (by omega) (newsHas N) (freshOf N Kg) (d := d) (by kwd_rel) (k1 := k1) (k2 := k2) (k3 := k3) (k4 := k4) (b := b) (pa := pa) (fu := fu) (p := p) (by kwd_rel) (hp.mono fun q hq => by kwd_rel) ?_
  intro u h5 tk5 K5
  replace F := frKeeps F K5
  replace N := N.grown K5
  k_steps
  (try dsimp only [List.append_nil, List.nil_append])
  rename Fr _ _ _ _ => F
  rename News _ _ _ _ => N
  refine read_spec (dp := dp + 1) S (fun b o e => F.keep _ _ (Kg _ _ e)) (by omega) (newsHas N) G X' Z V (Int.le_refl _) (Int.natCast_nonneg _) (Int.le_refl _) ?_
  intro u h6 tk6 K6
  k_steps
  (try dsimp only)
  exact ret u _ _ (keepsBack (frKeeps F K6) H Kh (newsHas (N.grown K6)))

theorem copy_spec {prog : Program} {w : World} {dp un : Nat} {fr : Option (List Env)} {gd : Option (List Code)} {s : Shared} {Q E : Value → Shared → Prop} {g : Heap} (S : St w g) (hg : Keeps g s.heap) (hdp : dp + 5 < recursionLimit)
    {tl : Led} (H : HasL s.heap tl) (G : Fresh g tl) {t : Addr} {T₀ : TS} (X : TxS w tl t T₀) (Z : T₀.Fits) (V : Valid T₀.bufs T₀.ps)
    {x y z : Int} {tx ty tz : Tok} (h0 : 0 ≤ x) (h1 : x ≤ y) (hy2 : y ≤ T₀.len) (hz0 : 0 ≤ z) (hz1 : z ≤ T₀.len)
    (ret : ∀ tl' h' tk', Left tl tl' s.heap h' → TxS w tl' t (T₀.insert z (ofL (rd T₀.bufs (cutFrom x y 0 T₀.ps)))) → Q .none { s with heap := h', toks := tk' }) :
    wpAny (model prog w) (Ar dp un fr gd) (call (.ref 159) [.ref t, .int x tx, .int y ty, .ref t, .int z tz]) Q E s := by
  have X' := X
  revert X; refine TxL.elim ?_; intro d b p pa fu k1 k2 k3 k4 bv pav fuv nb npa nfu fz X
  obtain ⟨rfl, lt1, lt2, lt3, lt4, ft, fd, fb, fpa, ffu, hb, hp, hpa, hfu⟩ := X
  ktr_unf
  case led => exact (t, instObj 134 d) :: (d, tdict w k1 k2 k3 k4 b p pa fu) :: (b, W.listOf bv.toArray nb) :: (pa, W.listOf pav.toArray npa) :: (fu, W.listOf fuv.toArray nfu) :: fz
  case hled => exact fun q hq => ⟨H q hq, G q hq⟩
  intro g' h₁ mean mg mb F N KX T Kg Ks Kh Kl
  clear Kl
  (try dsimp only at *)
  (try k_fold)
  k_steps
  (try dsimp only [List.append_nil, List.nil_append])
  rename Fr _ _ _ _ => F
  rename News _ _ _ _ => N
  refine read_spec (dp := dp + 1) S (fun b o e => F.keep _ _ (Kg _ _ e)) (by omega) (newsHas N) G X' Z V h0 h1 hy2 ?_
  intro u h6 tk6 K6
  replace F := frKeeps F K6
  replace N := N.grown K6
  k_steps
  (try dsimp only [List.append_nil, List.nil_append])
  rename Fr _ _ _ _ => F
  rename News _ _ _ _ => N
  have hl : (ofL (rd T₀.bufs (cutFrom x y 0 T₀.ps))).length < 2 ^ 22 := by
    have ht := total_cut x y 0 T₀.ps
    have htz : total T₀.ps < 2 ^ 22 := Z.t
    rw [ofL_len, rd_len (cutFrom_valid V)]
    omega
  refine insert_spec (dp := dp + 1) S (fun b o e => F.keep _ _ (Kg _ _ e)) (by omega) (newsHas N) G X' Z hz0 hz1 hl ?_
  intro tl' h8 tk8 L8 X8
  k_steps
  (try dsimp only)
  exact ret tl' _ _ (leftTrans F Kh (by rfl) L8) X8

/-- how far a pattern falls back before a sign -/
def fall (pat fb : List Nat) (c : Nat) : Nat → Nat → Nat
  | 0, k => k
  | n + 1, k => if 0 < k ∧ pat[k]? ≠ some c then fall pat fb c n ((fb[k - 1]?).getD 0) else k
def kstep (pat fb : List Nat) (c k : Nat) : Nat :=
  let k1 := fall pat fb c k k
  if pat[k1]? = some c then k1 + 1 else k1
/-- the rows of fallbacks behind i places, and the last -/
def fbRun (pat : List Nat) : Nat → List Nat × Nat
  | 0 => ([0], 0)
  | i + 1 =>
    let (fb, k) := fbRun pat i
    let k2 := kstep pat fb ((pat[i + 1]?).getD 0) k
    (fb ++ [k2], k2)
def fbs (pat : List Nat) : List Nat := (fbRun pat (pat.length - 1)).1
/-- the rows fall -/
def Falls (fb : List Nat) : Prop := ∀ (j k : Nat), fb[j]? = some k → k ≤ j
theorem fall_le {pat fb : List Nat} {c : Nat} (hf : Falls fb) : ∀ n k, fall pat fb c n k ≤ k
  | 0, k => Nat.le_refl _
  | n + 1, k => by
    unfold fall
    split
    · refine Nat.le_trans (fall_le hf n _) ?_
      cases q : fb[k - 1]? with
      | none => simp
      | some v => have := hf _ _ q; simp; omega
    · exact Nat.le_refl _
theorem fall_fuel {pat fb : List Nat} {c : Nat} (hf : Falls fb) : ∀ n k, k ≤ n → fall pat fb c n k = fall pat fb c k k
  | 0, k, h => by have : k = 0 := by omega
                  subst this; rfl
  | n + 1, 0, _ => by unfold fall; simp
  | n + 1, k + 1, h => by
    rw [fall, fall]
    split
    · have hv : (fb[k + 1 - 1]?).getD 0 ≤ k := by
        cases q : fb[k + 1 - 1]? with
        | none => simp
        | some v => have := hf _ _ q; simp; omega
      rw [fall_fuel hf n _ (by omega), fall_fuel hf k _ hv]
    · rfl
theorem fbRun_facts (pat : List Nat) : ∀ i, (fbRun pat i).1.length = i + 1 ∧ Falls (fbRun pat i).1 ∧ (fbRun pat i).2 ≤ i
  | 0 => ⟨rfl, fun j k h => by
      cases j with
      | zero => simp [fbRun] at h; omega
      | succ j => simp [fbRun] at h, Nat.le_refl _⟩
  | i + 1 => by
    obtain ⟨h1, h2, h3⟩ := fbRun_facts pat i
    have hk : kstep pat (fbRun pat i).1 ((pat[i + 1]?).getD 0) (fbRun pat i).2 ≤ i + 1 := by
      unfold kstep
      have := fall_le (pat := pat) (c := (pat[i + 1]?).getD 0) h2 (fbRun pat i).2 (fbRun pat i).2
      (try dsimp only)
      split <;> omega
    refine ⟨?_, ?_, ?_⟩
    · show ((fbRun pat i).1 ++ [_]).length = _
      simp [h1]
    · intro j k hj
      have hj' : ((fbRun pat i).1 ++ [kstep pat (fbRun pat i).1 ((pat[i + 1]?).getD 0) (fbRun pat i).2])[j]? = some k := hj
      rw [List.getElem?_append] at hj'
      split at hj'
      · exact h2 _ _ hj'
      · rename_i hn
        cases hq : j - (fbRun pat i).1.length with
        | zero => rw [hq] at hj'; simp at hj'; omega
        | succ q => rw [hq] at hj'; simp at hj'
    · exact hk
theorem fbRun_next {pat fb : List Nat} {i k c R : Nat} (hfb : (fbRun pat i).1 = fb) (hk : k = (fbRun pat i).2) (hc : pat[1 + i]? = some c) (hR : fall pat fb c k k = R) :
    fbRun pat (i + 1) = (fb ++ [if pat[R]? = some c then R + 1 else R], if pat[R]? = some c then R + 1 else R) := by
  subst hk hfb hR
  have hc' : pat[i + 1]? = some c := by rw [Nat.add_comm]; exact hc
  show (_, _) = _
  simp only [hc', Option.getD_some, kstep]
theorem set_app (fb : List Nat) (v n j : Nat) (hj : j = fb.length) : (fb ++ List.replicate (n + 1) 0).set j v = fb ++ [v] ++ List.replicate n 0 := by
  subst hj
  rw [List.set_append, if_neg (Nat.lt_irrefl _), Nat.sub_self, List.replicate_succ, List.set_cons_zero]
  simp
/-- the search: behind place signs, k of the pattern stand -/
def kmpGo (pat fb : List Nat) : List Nat → Nat → Nat → Int
  | [], _, _ => -1
  | c :: r, place, k => if kstep pat fb c k = pat.length then ((place + 1 : Nat) : Int) - (pat.length : Int) else kmpGo pat fb r (place + 1) (kstep pat fb c k)
theorem fbs_len (pat : List Nat) (h : 0 < pat.length) : (fbs pat).length = pat.length := by
  unfold fbs
  rw [(fbRun_facts pat _).1]; omega
theorem fbs_falls (pat : List Nat) : Falls (fbs pat) := (fbRun_facts pat _).2.1
theorem kmpGo_step {pat fb L : List Nat} {i place k c : Nat} (hc : L[i]? = some c) : kmpGo pat fb (L.drop i) place k = if kstep pat fb c k = pat.length then ((place + 1 : Nat) : Int) - (pat.length : Int) else kmpGo pat fb (L.drop (i + 1)) (place + 1) (kstep pat fb c k) := by
  obtain ⟨hlt, hv⟩ := List.getElem?_eq_some_iff.mp hc
  rw [List.drop_eq_getElem_cons hlt, hv]
  rfl

def IntV (v : Value) (n : Nat) : Prop := ∃ t, v = .int (n : Int) t
theorem sub_next {n i : Nat} (h : 1 + i < n) : n - (i + 1) = (n - (i + 1 + 1)) + 1 := by omega
theorem fb_len {n i m : Nat} (h : 1 + i < n) (e : m = i + 1) : m + (n - (i + 1)) = n := by omega
theorem fallbacks_spec {prog : Program} {w : World} {dp un : Nat} {fr : Option (List Env)} {gd : Option (List Code)} {s : Shared} {Q E : Value → Shared → Prop} {g : Heap} (S : St w g) (hg : Keeps g s.heap) (hdp : dp + 1 < recursionLimit)
    {x : Str} {tx : Tok} (h0 : 0 < x.length) (h1 : x.length < 2 ^ 22)
    (ret : ∀ r vs n h' tk', Keeps s.heap h' → h'.get? r = some (W.listOf vs.toArray n) → s.heap.get? r = none → All2 IntV vs (fbs x.cps.toList) → Q (.ref r) { s with heap := h', toks := tk' }) :
    wpAny (model prog w) (Ar dp un fr gd) (call (.ref 166) [.str x tx]) Q E s := by
  ktr_unf
  case led => exact []
  case hled => intro p hp; cases hp
  intro g' h₁ mean mg mb F N KX T Kg Ks Kh Kl
  clear Kl
  (try dsimp only at *)
  (try k_fold)
  k_steps
  refine Hold.into (wpAny_For ?_)
  k_steps
  refine Hold.into ?_
  rename Fr _ _ _ _ => F
  rename News _ _ _ _ => N
  rename IsRange _ _ _ _ _ _ _ _ => hr
  obtain ⟨D, eD⟩ := nm1 N
  subst eD
  replace N := newsHead N
  have hpl : x.cps.toList.length = x.length := (str_len x).symm
  refine iter_up (a := 1) (b := x.length) rfl F N hr (by omega) (by omega)
    (fun i m news => ∃ vs n k u, m (Str.ofString "found") = some (.ref D) ∧ m (Str.ofString "count") = some (.int (k : Nat) u) ∧ m (Str.ofString "pattern") = some (.str x tx) ∧
      news = [(D, W.listOf vs.toArray n)] ∧ k = (fbRun x.cps.toList i).2 ∧ All2 IntV vs ((fbRun x.cps.toList i).1 ++ List.replicate (x.length - (i + 1)) 0)) ?_ ?_ ?_
  · refine ⟨_, _, 0, _, rfl, rfl, rfl, rfl, rfl, ?_⟩
    rw [Int.toNat_natCast, List.flatten_replicate_singleton]
    have e : x.length = x.length - (0 + 1) + 1 := by omega
    show All2 IntV _ ([0] ++ List.replicate (x.length - (0 + 1)) 0)
    rw [e]
    simp only [Nat.add_sub_cancel, List.replicate_succ, List.cons_append, List.nil_append]
    exact .cons ⟨_, rfl⟩ (All2.replicate ⟨_, rfl⟩ _)
  · intro i u I oI h tk m₁ news₁ hi; refine ex4 ?_; intro vs n k uk; refine an6 ?_; intro hm1 hm2 hm3 e91 hk hvs; subst e91; intro F N hne
    have hi1 : 1 + i < x.length := by omega
    clear hi
    have hfI : @Ne Nat I D := fun q => hne _ (.head _) q.symm
    obtain ⟨hfl, hff, hfk⟩ := fbRun_facts x.cps.toList i
    obtain ⟨c, hc⟩ : ∃ c, x.cps.toList[1 + i]? = some c := ⟨_, List.getElem?_eq_getElem (by omega)⟩
    have hcp : x.cps.toList[((1 + i : Nat) : Int).toNat]? = some c := by rw [Int.toNat_natCast]; exact hc
    k_steps
    refine Hold.into ?_
    rename Fr _ _ _ _ => F
    rename News _ _ _ _ => N
    generalize hfb : (fbRun x.cps.toList i).1 = fb at *
    have hne2' : ∀ {o : Obj}, ∀ p ∈ [((D, o) : Addr × Obj)], p.1 ≠ I := fun p hp => by rw [List.mem_singleton.mp hp]; exact hfI.symm
    have hvl := hvs.length
    rw [List.length_append, List.length_replicate, fb_len hi1 hfl] at hvl
    refine while_to F N (fun n' m news => ∃ u', m (Str.ofString "found") = some (.ref D) ∧ m (Str.ofString "count") = some (.int (n' : Nat) u') ∧ m (Str.ofString "pattern") = some (.str x tx) ∧ m (Str.ofString "place") = some (.int ((1 + i : Nat) : Int) u) ∧
      news = [(I, oI), (D, W.listOf vs.toArray n)] ∧ n' ≤ k ∧ fall x.cps.toList fb c n' n' = fall x.cps.toList fb c k k)
      (fun m news => ∃ u', m (Str.ofString "found") = some (.ref D) ∧ m (Str.ofString "count") = some (.int ((fall x.cps.toList fb c k k : Nat) : Int) u') ∧ m (Str.ofString "pattern") = some (.str x tx) ∧ m (Str.ofString "place") = some (.int ((1 + i : Nat) : Int) u) ∧
      news = [(I, oI), (D, W.listOf vs.toArray n)]) k ⟨uk, hm1, hm2, hm3, rfl, rfl, Nat.le_refl _, rfl⟩ ?_ ?_
    · intro n' h tk m news; refine ex1 ?_; intro u'; refine an7 ?_; intro hm1 hm2 hm3 hm4 e91 hnk hfall; subst e91; intro F N
      cases n' with
      | zero =>
        k_steps
        refine ⟨_, _, _, _, rfl, F, N, u', hm1, ?_, hm3, hm4, rfl⟩
        rw [← hfall]; exact hm2
      | succ q =>
        obtain ⟨cq, hcq⟩ : ∃ c, x.cps.toList[q + 1]? = some c := ⟨_, List.getElem?_eq_getElem (by omega)⟩
        have hcq' : x.cps.toList[((q + 1 : Nat) : Int).toNat]? = some cq := by rw [Int.toNat_natCast]; exact hcq
        obtain ⟨kq, hkq⟩ : ∃ z, fb[q]? = some z := ⟨_, List.getElem?_eq_getElem (by omega)⟩
        obtain ⟨vq, hvq, tq, rfl⟩ := hvs.get' (i := q) (b := kq) (by rw [List.getElem?_append_left (by omega)]; exact hkq)
        have hvq' : vs[(((q + 1 : Nat) : Int) - 1).toNat]? = some (.int (kq : Int) tq) := by
          have e : (((q + 1 : Nat) : Int) - 1).toNat = q := by omega
          rw [e]; exact hvq
        have hpos : (0 : Int) < ((q + 1 : Nat) : Int) := by omega
        k_steps
        · rename (Txt.item _ _ != Txt.item _ _) = true => hne2
          have hcc := item_ne hc hcq hne2
          rename Fr _ _ _ _ => F
          rename News _ _ _ _ => N
          have hkl := hff _ _ hkq
          refine ⟨kq, _, _, _, _, rfl, by omega, F, N, tq, hm1, rfl, hm3, hm4, rfl, by omega, ?_⟩
          rw [← hfall, fall, if_pos ⟨by omega, by rw [hcq]; exact fun e => hcc (Option.some.inj e).symm⟩, Nat.add_sub_cancel, hkq]
          exact (fall_fuel hff q kq hkl).symm
        · rename (Txt.item _ _ != Txt.item _ _) = false => hne2
          have hcc := item_eq hc hcq hne2
          refine ⟨_, _, _, _, rfl, F, N, u', hm1, ?_, hm3, hm4, rfl⟩
          rw [← hfall, fall, if_neg (fun h => h.2 (by rw [hcq, hcc]))]
          exact hm2
    · intro h tk m news; refine ex1 ?_; intro u'; refine an5 ?_; intro hm1 hm2 hm3 hm4 e91; subst e91; intro F N
      have hfl2 := fall_le (pat := x.cps.toList) (c := c) hff k k
      generalize hR : fall x.cps.toList fb c k k = R at *
      obtain ⟨cr, hcr⟩ : ∃ c, x.cps.toList[R]? = some c := ⟨_, List.getElem?_eq_getElem (by omega)⟩
      have hcr' : x.cps.toList[((R : Nat) : Int).toNat]? = some cr := by rw [Int.toNat_natCast]; exact hcr
      k_steps
      all_goals (rename Fr _ _ _ _ => F; rename News _ _ _ _ => N)
      · rename (Txt.item _ _ == Txt.item _ _) = true => hne2
        have hcc := item_eq' hc hcr hne2
        have hnx := fbRun_next hfb hk hc hR
        rw [hcr, hcc, if_pos rfl] at hnx
        refine ⟨_, _, _, _, rfl, F, N, fun p hp => hne2' p hp, _, _, R + 1, _, hm1, rfl, hm3, rfl, by rw [hnx], ?_⟩
        rw [hnx, Int.toNat_natCast]
        have h3 : ∀ t, All2 IntV (vs.set (1 + i) (.int ((R : Int) + 1) t)) (fb ++ [R + 1] ++ List.replicate (x.length - (i + 1 + 1)) 0) := fun t => by
          have h4 := hvs.set (a := .int ((R : Int) + 1) t) (b := R + 1) ⟨t, rfl⟩ (1 + i)
          rw [sub_next hi1, set_app fb _ _ _ (by omega)] at h4
          exact h4
        exact h3 _
      · rename (Txt.item _ _ == Txt.item _ _) = false => hne2
        have hcc := item_ne' hc hcr hne2
        have hnx := fbRun_next hfb hk hc hR
        rw [hcr, if_neg (fun e => hcc (Option.some.inj e).symm)] at hnx
        refine ⟨_, _, _, _, rfl, F, N, fun p hp => hne2' p hp, _, _, R, _, hm1, hm2, hm3, rfl, by rw [hnx], ?_⟩
        rw [hnx, Int.toNat_natCast]
        have h3 := hvs.set (a := .int (R : Int) u') (b := R) ⟨_, rfl⟩ (1 + i)
        rw [sub_next hi1, set_app fb _ _ _ (by omega)] at h3
        exact h3
  · intro h tk m₁ news₁; refine ex4 ?_; intro vs n k uk; refine an6 ?_; intro hm1 hm2 hm3 e91 hk hvs; subst e91; intro F N
    k_steps
    rename Fr _ _ _ _ => F
    rename News _ _ _ _ => N
    (try dsimp only)
    have e0 : x.length - (x.length - 1 + 1) = 0 := by omega
    rw [e0, List.replicate_zero, List.append_nil] at hvs
    refine ret D vs n h _ (fun b o e => F.keep b o (Kh b o e (by simp))) (newsHas N (D, _) (.head _)) (newsFresh N Kh (D, _) (.head _) (by simp)) ?_
    unfold fbs
    rw [hpl]
    exact hvs

/-- find, in plain words -/
def TS.find (T : TS) (x : Str) (b : Int) : Int :=
  if b < 0 ∨ (T.len : Int) < b then -1 else if x = Str.ofString "" then b
  else kmpGo x.cps.toList (fbs x.cps.toList) (rd T.bufs (cutFrom b T.len 0 T.ps)) b.toNat 0
theorem find_spec {prog : Program} {w : World} {dp un : Nat} {fr : Option (List Env)} {gd : Option (List Code)} {s : Shared} {Q E : Value → Shared → Prop} {g : Heap} (S : St w g) (hg : Keeps g s.heap) (hdp : dp + 4 < recursionLimit)
    {tl : Led} (H : HasL s.heap tl) (G : Fresh g tl) {t : Addr} {T₀ : TS} (X : TxS w tl t T₀) (Z : T₀.Fits) (V : Valid T₀.bufs T₀.ps)
    {x : Str} {tx ty : Tok} {y : Int} (hx : x.length < 2 ^ 22)
    (ret : ∀ u h' tk', Keeps s.heap h' → Q (.int (T₀.find x y) u) { s with heap := h', toks := tk' }) :
    wpAny (model prog w) (Ar dp un fr gd) (call (.ref 173) [.ref t, .str x tx, .int y ty]) Q E s := by
  have X' := X
  revert X; refine TxL.elim ?_; intro d b p pa fu k1 k2 k3 k4 bv pav fuv nb npa nfu fz X
  obtain ⟨rfl, lt1, lt2, lt3, lt4, ft, fd, fb, fpa, ffu, hb, hp, hpa, hfu⟩ := X
  ktr_unf
  case led => exact (t, instObj 134 d) :: (d, tdict w k1 k2 k3 k4 b p pa fu) :: (b, W.listOf bv.toArray nb) :: (pa, W.listOf pav.toArray npa) :: (fu, W.listOf fuv.toArray nfu) :: fz
  case hled => exact fun q hq => ⟨H q hq, G q hq⟩
  intro g' h₁ mean mg mb F N KX T Kg Ks Kh Kl
  clear Kl
  (try dsimp only at *)
  (try k_fold)
  k_steps
  (try dsimp only [List.append_nil, List.nil_append])
  rename Fr _ _ _ _ => F
  rename News _ _ _ _ => N
  refine length_spec (dp := dp + 1) S (fun b o e => F.keep _ _ (Kg _ _ e)) (by omega) (newsHas N) (freshOf N Kg) (d := d) (by kwd_rel) (k1 := k1) (k2 := k2) (k3 := k3) (k4 := k4) (b := b) (pa := pa) (fu := fu) (p := p) (by kwd_rel) (hp.mono fun q hq => by kwd_rel) ?_
  intro u h5 tk5 K5
  replace F := frKeeps F K5
  replace N := N.grown K5
  have hlen : T₀.len = total T₀.ps := rfl
  k_steps
  all_goals (rename Fr _ _ _ _ => F; rename News _ _ _ _ => N)
  · have hy : y < 0 := by assumption
    (try dsimp only)
    have e : T₀.find x y = -1 := by rw [TS.find, if_pos (.inl hy)]
    rw [← e]
    exact ret _ _ _ (keepsBack F H Kh (newsHas N))
  · have hy : (total T₀.ps : Int) < y := by assumption
    (try dsimp only)
    have e : T₀.find x y = -1 := by rw [TS.find, if_pos (.inr hy)]
    rw [← e]
    exact ret _ _ _ (keepsBack F H Kh (newsHas N))
  · have hy0 : ¬ y < 0 := by assumption
    have hy1 : ¬ (total T₀.ps : Int) < y := by assumption
    rename (x == _) = true => hx0
    (try dsimp only)
    have e : T₀.find x y = y := by rw [TS.find, if_neg (by rw [hlen]; omega), if_pos (by simpa using hx0)]
    conv in (Value.int y _) => rw [← e]
    exact ret _ _ _ (keepsBack F H Kh (newsHas N))
  · have hy0 : ¬ y < 0 := by assumption
    have hy1 : ¬ (total T₀.ps : Int) < y := by assumption
    rename (x == _) = false => hx0
    have hx1 : x ≠ Str.ofString "" := by simpa using hx0
    have hxl : 0 < x.length := by
      rw [str_len]
      cases hq : x.cps.toList with
      | nil => exact absurd (by rw [← ofL_cps x, hq]; rfl) hx1
      | cons a r => simp
    have hpl : x.cps.toList.length = x.length := (str_len x).symm
    have hrl := fbs_len x.cps.toList (by omega)
    have hrf := fbs_falls x.cps.toList
    have eR : T₀.find x y = kmpGo x.cps.toList (fbs x.cps.toList) (rd T₀.bufs (cutFrom y T₀.len 0 T₀.ps)) y.toNat 0 := by
      rw [TS.find, if_neg (by rw [hlen]; omega), if_neg hx1]
    rw [eR] at ret
    clear eR
    generalize hfb : fbs x.cps.toList = rows at *
    refine fallbacks_spec (dp := dp + 1) S (fun b o e => F.keep _ _ (Kg _ _ e)) (by omega) hxl hx ?_
    intro r vs n h6 tk6 K6 hr6 fr6 hvs
    rw [hfb] at hvs
    have H6 : HasL h6 [(r, W.listOf vs.toArray n)] := fun q hq => by rw [List.mem_singleton.mp hq]; exact hr6
    obtain ⟨F, N, nf1⟩ := newsCall F N K6 H6 (fun q hq => by rw [List.mem_singleton.mp hq]; exact fr6)
    replace N : News g' s.heap.objs.size h6 ((r, W.listOf vs.toArray n) :: (t, instObj 134 d) :: (d, tdict w k1 k2 k3 k4 b p pa fu) :: (b, W.listOf bv.toArray nb) :: (pa, W.listOf pav.toArray npa) :: (fu, W.listOf fuv.toArray nfu) :: fz) := newsSub N (by
      intro q hq
      rcases List.mem_cons.mp hq with rfl | hq
      · exact List.mem_append_right _ (.head _)
      · exact List.mem_append_left _ hq)
    k_steps
    refine Hold.into (wpAny_For ?_)
    k_steps
    (try dsimp only [List.append_nil, List.nil_append])
    rename Fr _ _ _ _ => F
    rename News _ _ _ _ => N
    refine read_spec (dp := dp + 1) S (fun b o e => F.keep _ _ (Kg _ _ e)) (by omega) ((newsHas N).sub fun q hq => .tail _ hq) G X' Z V (by omega) (by omega) (by rw [hlen]; exact Int.le_refl _) ?_
    intro u7 h7 tk7 K7
    replace F := frKeeps F K7
    replace N := N.grown K7
    k_steps
    refine Hold.into ?_
    rename Fr _ _ _ _ => F
    rename News _ _ _ _ => N
    rw [hlen] at ret
    generalize rd T₀.bufs (cutFrom y (total T₀.ps) 0 T₀.ps) = tx1 at *
    obtain ⟨y0, rfl⟩ : ∃ y0 : Nat, y = (y0 : Int) := ⟨y.toNat, by omega⟩
    rw [Int.toNat_natCast] at ret
    generalize hRes : kmpGo x.cps.toList rows tx1 y0 0 = Res at *
    refine iter_str rfl F N
      (fun i m news => ∃ k u1 u2, m (Str.ofString "count") = some (.int ((k : Nat) : Int) u1) ∧ m (Str.ofString "place") = some (.int ((y0 + i : Nat) : Int) u2) ∧ m (Str.ofString "rows") = some (.ref r) ∧ m (Str.ofString "pattern") = some (.str x tx) ∧
        news = (r, W.listOf vs.toArray n) :: (t, instObj 134 d) :: (d, tdict w k1 k2 k3 k4 b p pa fu) :: (b, W.listOf bv.toArray nb) :: (pa, W.listOf pav.toArray npa) :: (fu, W.listOf fuv.toArray nfu) :: fz ∧ k < x.length ∧ kmpGo x.cps.toList rows (tx1.drop i) (y0 + i) k = Res) ?_ ?_ ?_
    · exact ⟨0, _, _, rfl, rfl, rfl, rfl, rfl, hxl, hRes⟩
    · intro i c uc I oI h tk m₁ news₁ hc; refine ex3 ?_; intro k u1 u2; refine an7 ?_; intro hm1 hm2 hm3 hm4 e91 hk hgo; subst e91; intro F N hne
      have hc1 : tx1[i]? = some c := by
        have : (ofL tx1).cps.toList[i]? = some c := by simpa using hc
        rwa [ofL_toList] at this
      rw [kmpGo_step hc1] at hgo
      k_steps
      refine Hold.into ?_
      rename Fr _ _ _ _ => F
      rename News _ _ _ _ => N
      refine while_to F N (fun n' m news => ∃ u', m (Str.ofString "count") = some (.int (n' : Nat) u') ∧ m (Str.ofString "place") = some (.int ((y0 + i : Nat) : Int) u2) ∧ m (Str.ofString "rows") = some (.ref r) ∧ m (Str.ofString "pattern") = some (.str x tx) ∧ m (Str.ofString "char") = some (.str ⟨#[c]⟩ uc) ∧
          news = (I, oI) :: (r, W.listOf vs.toArray n) :: (t, instObj 134 d) :: (d, tdict w k1 k2 k3 k4 b p pa fu) :: (b, W.listOf bv.toArray nb) :: (pa, W.listOf pav.toArray npa) :: (fu, W.listOf fuv.toArray nfu) :: fz ∧ n' ≤ k ∧ fall x.cps.toList rows c n' n' = fall x.cps.toList rows c k k)
        (fun m news => ∃ u', m (Str.ofString "count") = some (.int ((fall x.cps.toList rows c k k : Nat) : Int) u') ∧ m (Str.ofString "place") = some (.int ((y0 + i : Nat) : Int) u2) ∧ m (Str.ofString "rows") = some (.ref r) ∧ m (Str.ofString "pattern") = some (.str x tx) ∧ m (Str.ofString "char") = some (.str ⟨#[c]⟩ uc) ∧
          news = (I, oI) :: (r, W.listOf vs.toArray n) :: (t, instObj 134 d) :: (d, tdict w k1 k2 k3 k4 b p pa fu) :: (b, W.listOf bv.toArray nb) :: (pa, W.listOf pav.toArray npa) :: (fu, W.listOf fuv.toArray nfu) :: fz) k ⟨u1, hm1, hm2, hm3, hm4, rfl, rfl, Nat.le_refl _, rfl⟩ ?_ ?_
      · intro n' h tk m news; refine ex1 ?_; intro u'; refine an8 ?_; intro hm1 hm2 hm3 hm4 hm5 e91 hnk hfall; subst e91; intro F N
        cases n' with
        | zero =>
          k_steps
          refine ⟨_, _, _, _, rfl, F, N, u', ?_, hm2, hm3, hm4, hm5, rfl⟩
          rw [← hfall]; exact hm1
        | succ q =>
          obtain ⟨cq, hcq⟩ : ∃ c, x.cps.toList[q + 1]? = some c := ⟨_, List.getElem?_eq_getElem (by omega)⟩
          have hcq' : x.cps.toList[((q + 1 : Nat) : Int).toNat]? = some cq := by rw [Int.toNat_natCast]; exact hcq
          obtain ⟨kq, hkq⟩ : ∃ z, rows[q]? = some z := ⟨_, List.getElem?_eq_getElem (by omega)⟩
          obtain ⟨vq, hvq, tq, rfl⟩ := hvs.get' hkq
          have hvq' : vs[(((q + 1 : Nat) : Int) - 1).toNat]? = some (.int (kq : Int) tq) := by
            have e : (((q + 1 : Nat) : Int) - 1).toNat = q := by omega
            rw [e]; exact hvq
          have hpos : (0 : Int) < ((q + 1 : Nat) : Int) := by omega
          k_steps
          · rename ((_ : Str) != Txt.item _ _) = true => hne2
            have hcc := sign_ne hcq hne2
            rename Fr _ _ _ _ => F
            rename News _ _ _ _ => N
            have hkl := hrf _ _ hkq
            refine ⟨kq, _, _, _, _, rfl, by omega, F, N, tq, rfl, hm2, hm3, hm4, hm5, rfl, by omega, ?_⟩
            rw [← hfall, fall, if_pos ⟨by omega, by rw [hcq]; exact fun e => hcc (Option.some.inj e).symm⟩, Nat.add_sub_cancel, hkq]
            exact (fall_fuel hrf q kq hkl).symm
          · rename ((_ : Str) != Txt.item _ _) = false => hne2
            have hcc := sign_eq hcq hne2
            refine ⟨_, _, _, _, rfl, F, N, u', ?_, hm2, hm3, hm4, hm5, rfl⟩
            rw [← hfall, fall, if_neg (fun h => h.2 (by rw [hcq, hcc]))]
            exact hm1
      · intro h tk m news; refine ex1 ?_; intro u'; refine an6 ?_; intro hm1 hm2 hm3 hm4 hm5 e91; subst e91; intro F N
        have hfl2 := fall_le (pat := x.cps.toList) (c := c) hrf k k
        have hks : kstep x.cps.toList rows c k = if x.cps.toList[fall x.cps.toList rows c k k]? = some c then fall x.cps.toList rows c k k + 1 else fall x.cps.toList rows c k k := rfl
        rw [hks] at hgo
        clear hks
        generalize hR : fall x.cps.toList rows c k k = R at *
        obtain ⟨cr, hcr⟩ : ∃ c, x.cps.toList[R]? = some c := ⟨_, List.getElem?_eq_getElem (by omega)⟩
        have hcr' : x.cps.toList[((R : Nat) : Int).toNat]? = some cr := by rw [Int.toNat_natCast]; exact hcr
        k_steps
        all_goals (rename Fr _ _ _ _ => F; rename News _ _ _ _ => N)
        · rename ((_ : Str) == Txt.item _ _) = true => hne2
          have hcc := sign_eq' hcr hne2
          have hlast : (R : Int) + 1 = x.length := by assumption
          rw [hcr, hcc, if_pos rfl, if_pos (by omega)] at hgo
          obtain rfl : Res = ((y0 + i : Nat) : Int) + 1 - ((R : Int) + 1) := by omega
          (try dsimp only)
          exact ret _ _ _ (keepsBack F H Kh (fun q hq => newsHas N q (.tail _ (.tail _ hq))))
        · rename ((_ : Str) == Txt.item _ _) = true => hne2
          have hcc := sign_eq' hcr hne2
          have hlast : (R : Int) + 1 ≠ x.length := by assumption
          rw [hcr, hcc, if_pos rfl, if_neg (by omega)] at hgo
          refine ⟨_, _, _, _, rfl, F, N, hne, R + 1, _, _, rfl, rfl, hm3, hm4, rfl, by omega, hgo⟩
        · rename ((_ : Str) == Txt.item _ _) = false => hne2
          have hcc := sign_ne' hcr hne2
          have hlast : (R : Int) = x.length := by assumption
          omega
        · rename ((_ : Str) == Txt.item _ _) = false => hne2
          have hcc := sign_ne' hcr hne2
          rw [hcr, if_neg (fun e => hcc (Option.some.inj e).symm), if_neg (by omega)] at hgo
          refine ⟨_, _, _, _, rfl, F, N, hne, R, _, _, hm1, rfl, hm3, hm4, rfl, by omega, hgo⟩
    · intro h tk m₁ news₁; refine ex3 ?_; intro k u1 u2; refine an7 ?_; intro hm1 hm2 hm3 hm4 e91 hk hgo; subst e91; intro F N
      have hR1 : Res = -1 := by
        rw [← hgo, List.drop_of_length_le (by simp [ofL])]
        rfl
      subst hR1
      k_steps
      (try dsimp only)
      exact ret _ _ _ (keepsBack F H Kh (fun q hq => newsHas N q (.tail _ hq)))

/-- replace_all, turn by turn -/
def replRun (x added : Str) : Nat → TS → Int → Nat → TS × Nat
  | 0, T, _, cnt => (T, cnt)
  | n + 1, T, pl, cnt => if 0 ≤ pl then replRun x added n (T.replace pl (pl + x.length) added) ((T.replace pl (pl + x.length) added).find x (pl + added.length)) (cnt + 1) else (T, cnt)
theorem replRun_end (x added : Str) (n : Nat) (T : TS) {pl : Int} (cnt : Nat) (h : pl < 0) : replRun x added n T pl cnt = (T, cnt) := by
  cases n with
  | zero => rfl
  | succ n => rw [replRun, if_neg (by omega)]
theorem replace_all_spec {prog : Program} {w : World} {dp un : Nat} {fr : Option (List Env)} {gd : Option (List Code)} {s : Shared} {Q E : Value → Shared → Prop} {g : Heap} (S : St w g) (hg : Keeps g s.heap) (hdp : dp + 6 < recursionLimit)
    {tl : Led} (H : HasL s.heap tl) (G : Fresh g tl) {t : Addr} {T₀ : TS} (X : TxS w tl t T₀) (Z : T₀.Fits) (V : Valid T₀.bufs T₀.ps)
    {x added : Str} {tx ty : Tok} (hx : x.length < 2 ^ 22) (ha : added.length < 2 ^ 22)
    (P : Nat → TS → Int → Prop)
    (step : ∀ n T pl, P n T pl → 0 ≤ pl → T.Fits ∧ Valid T.bufs T.ps ∧ pl + x.length ≤ T.len ∧ (T.replace pl (pl + x.length) added).Fits ∧ Valid (T.replace pl (pl + x.length) added).bufs (T.replace pl (pl + x.length) added).ps ∧
      ∃ n', n = n' + 1 ∧ P n' (T.replace pl (pl + x.length) added) ((T.replace pl (pl + x.length) added).find x (pl + added.length)))
    (n0 : Nat) (h0 : x ≠ Str.ofString "" → P n0 T₀ (T₀.find x 0))
    (ret : ∀ tl' h' tk' u, Left tl tl' s.heap h' → TxS w tl' t (if x = Str.ofString "" then T₀ else (replRun x added n0 T₀ (T₀.find x 0) 0).1) →
      Q (.int ((if x = Str.ofString "" then 0 else (replRun x added n0 T₀ (T₀.find x 0) 0).2 : Nat) : Int) u) { s with heap := h', toks := tk' }) :
    wpAny (model prog w) (Ar dp un fr gd) (call (.ref 180) [.ref t, .str x tx, .str added ty]) Q E s := by
  have X' := X
  revert X; refine TxL.elim ?_; intro d b p pa fu k1 k2 k3 k4 bv pav fuv nb npa nfu fz X
  have Xe := X.tl_eq
  ktr_unf
  case led => exact tl
  case hled => exact fun q hq => ⟨H q hq, G q hq⟩
  intro g' h₁ mean mg mb F N KX T Kg Ks Kh Kl
  clear Kl
  (try dsimp only at *)
  (try k_fold)
  by_cases hx0 : x = Str.ofString ""
  · rw [if_pos hx0, if_pos hx0] at ret
    have hxb : (x != Str.ofString "") = false := by rw [hx0]; decide
    k_steps
    refine Hold.into ?_
    rename Fr _ _ _ _ => F
    rename News _ _ _ _ => N
    refine while_to F N (fun n m news => ∃ u u2, m (Str.ofString "place") = some (.int (-1) u) ∧ m (Str.ofString "found") = some (.int 0 u2) ∧ news = tl)
      (fun m news => ∃ u2, m (Str.ofString "found") = some (.int 0 u2) ∧ news = tl) 0 ⟨_, _, rfl, rfl, rfl⟩ ?_ ?_
    · intro n h tk m news; refine ex2 ?_; intro u u2; refine an3 ?_; intro hm1 hm2 e91; subst e91; intro F N
      k_steps
      exact ⟨_, _, _, _, rfl, F, N, u2, hm2, rfl⟩
    · rintro h tk m news ⟨u2, hm2, rfl⟩ F N
      k_steps
      (try dsimp only)
      exact ret _ _ _ _ (left_refl H (keepsBack F H Kh (newsHas N))) X'
  · rw [if_neg hx0, if_neg hx0] at ret
    have hxb : (x != Str.ofString "") = true := by simpa using hx0
    k_steps
    rename Fr _ _ _ _ => F
    rename News _ _ _ _ => N
    refine find_spec (dp := dp + 1) S (fun b o e => F.keep _ _ (Kg _ _ e)) (by omega) (newsHas N) G X' Z V hx ?_
    intro u1 h2 tk2 K2
    replace F := frKeeps F K2
    replace N := N.grown K2
    k_steps
    refine Hold.into ?_
    rename Fr _ _ _ _ => F
    rename News _ _ _ _ => N
    generalize hRes : replRun x added n0 T₀ (T₀.find x 0) 0 = Res at *
    refine while_to F N (fun n m news => ∃ T cnt pl u u2, m (Str.ofString "place") = some (.int pl u) ∧ m (Str.ofString "found") = some (.int ((cnt : Nat) : Int) u2) ∧ m (Str.ofString "text") = some (.ref t) ∧ m (Str.ofString "pattern") = some (.str x tx) ∧ m (Str.ofString "added") = some (.str added ty) ∧
        TxS w news t T ∧ P n T pl ∧ replRun x added n T pl cnt = Res)
      (fun m news => ∃ T cnt u2, m (Str.ofString "found") = some (.int ((cnt : Nat) : Int) u2) ∧ TxS w news t T ∧ (T, cnt) = Res) n0 ⟨T₀, 0, _, _, _, rfl, rfl, rfl, rfl, rfl, X', h0 hx0, hRes⟩ ?_ ?_
    · intro n h tk m news; refine ex5 ?_; intro T cnt pl u u2; refine an8 ?_; intro hm1 hm2 hm3 hm4 hm5 XT hP hrun; intro F N
      have XT' := XT
      revert XT; refine TxL.elim ?_; intro d b p pa fu k1 k2 k3 k4 bv pav fuv nb npa nfu fz XT
      have Xe' := XT.tl_eq
      clear XT
      by_cases hpl : 0 ≤ pl
      · obtain ⟨Z1, V1, hle, Z2, V2, n', rfl, hP'⟩ := step n T pl hP hpl
        rw [replRun, if_pos hpl] at hrun
        rw [Xe'] at N
        k_steps
        (try dsimp only [List.append_nil, List.nil_append])
        rename Fr _ _ _ _ => F
        rename News _ _ _ _ => N
        rw [← Xe'] at N
        refine replace_spec (dp := dp + 1) S (fun b o e => F.keep _ _ (Kg _ _ e)) (by omega) (newsHas N) (freshOf N Kg) XT' Z1 hpl (by omega) hle ha ?_
        intro tl' h8 tk8 L8 X8
        obtain ⟨F, N⟩ := leftSelf F N L8
        k_steps
        (try dsimp only [List.append_nil, List.nil_append])
        rename Fr _ _ _ _ => F
        rename News _ _ _ _ => N
        refine find_spec (dp := dp + 1) S (fun b o e => F.keep _ _ (Kg _ _ e)) (by omega) (newsHas N) (freshOf N Kg) X8 Z2 V2 hx ?_
        intro u9 h9 tk9 K9
        replace F := frKeeps F K9
        replace N := N.grown K9
        k_steps
        rename Fr _ _ _ _ => F
        rename News _ _ _ _ => N
        refine ⟨n', _, _, _, _, rfl, by omega, F, N, _, cnt + 1, _, _, _, rfl, rfl, hm3, hm4, hm5, X8, hP', hrun⟩
      · rw [replRun_end x added n T cnt (by omega)] at hrun
        k_steps
        exact ⟨_, _, _, _, rfl, F, N, T, cnt, u2, hm2, XT', hrun⟩
    · intro h tk m news; refine ex3 ?_; intro T cnt u2; refine an3 ?_; intro hm2 XT hT; intro F N
      subst hT
      k_steps
      (try dsimp only)
      exact ret _ _ _ _ (leftOf F N Kh fun q hq => hq) XT

/-- where rows begin behind 0, among the first n signs -/
def lsR (l : List Nat) (n : Nat) : List Nat := ((List.range n).filter fun j => l[j]? == some 10).map (· + 1)
theorem lsR_succ (l : List Nat) (n : Nat) : lsR l (n + 1) = lsR l n ++ (if l[n]? == some 10 then [n + 1] else []) := by
  unfold lsR
  rw [List.range_succ, List.filter_append, List.map_append]
  congr 1
  by_cases h : (l[n]? == some 10) = true
  · simp [h]
  · simp [h]
theorem lsR_len (l : List Nat) : ∀ n, (lsR l n).length ≤ n
  | 0 => by simp [lsR]
  | n + 1 => by
    rw [lsR_succ, List.length_append]
    have := lsR_len l n
    split <;> simp <;> omega
theorem line_starts_spec {prog : Program} {w : World} {dp un : Nat} {fr : Option (List Env)} {gd : Option (List Code)} {s : Shared} {Q E : Value → Shared → Prop} {g : Heap} (S : St w g) (hg : Keeps g s.heap) (hdp : dp + 6 < recursionLimit)
    {tl : Led} (H : HasL s.heap tl) (G : Fresh g tl) {t : Addr} {T₀ : TS} (X : TxS w tl t T₀) (Z : T₀.Fits) (V : Valid T₀.bufs T₀.ps)
    (ret : ∀ r vs n h' tk', Keeps s.heap h' → h'.get? r = some (W.listOf vs.toArray n) → s.heap.get? r = none → All2 IntV vs (0 :: lsR (rd T₀.bufs (cutFrom 0 T₀.len 0 T₀.ps)) (rd T₀.bufs (cutFrom 0 T₀.len 0 T₀.ps)).length) → Q (.ref r) { s with heap := h', toks := tk' }) :
    wpAny (model prog w) (Ar dp un fr gd) (call (.ref 187) [.ref t]) Q E s := by
  have X' := X
  revert X; refine TxL.elim ?_; intro d b p pa fu k1 k2 k3 k4 bv pav fuv nb npa nfu fz X
  obtain ⟨rfl, lt1, lt2, lt3, lt4, ft, fd, fb, fpa, ffu, hb, hp, hpa, hfu⟩ := X
  ktr_unf
  case led => exact (t, instObj 134 d) :: (d, tdict w k1 k2 k3 k4 b p pa fu) :: (b, W.listOf bv.toArray nb) :: (pa, W.listOf pav.toArray npa) :: (fu, W.listOf fuv.toArray nfu) :: fz
  case hled => exact fun q hq => ⟨H q hq, G q hq⟩
  intro g' h₁ mean mg mb F N KX T Kg Ks Kh Kl
  clear Kl
  (try dsimp only at *)
  (try k_fold)
  k_steps
  refine Hold.into (wpAny_For ?_)
  rename Fr _ _ _ _ => F
  rename News _ _ _ _ => N
  rename _ ∧ _ => hl
  obtain ⟨D, eD⟩ := nm1 N
  subst eD
  k_steps
  (try dsimp only [List.append_nil, List.nil_append])
  rename Fr _ _ _ _ => F
  rename News _ _ _ _ => N
  refine whole_spec (dp := dp + 1) S (fun b o e => F.keep _ _ (Kg _ _ e)) (by omega) ((newsHas N).sub fun q hq => .tail _ hq) G X' Z V ?_
  intro u h2 tk2 K2
  replace F := frKeeps F K2
  replace N := N.grown K2
  have hrl : (rd T₀.bufs (cutFrom 0 T₀.len 0 T₀.ps)).length < 2 ^ 22 := by
    have ht := total_cut 0 T₀.len 0 T₀.ps
    have htz : total T₀.ps < 2 ^ 22 := Z.t
    rw [rd_len (cutFrom_valid V)]
    omega
  have hDl : D ∉ ((t, instObj 134 d) :: (d, tdict w k1 k2 k3 k4 b p pa fu) :: (b, W.listOf bv.toArray nb) :: (pa, W.listOf pav.toArray npa) :: (fu, W.listOf fuv.toArray nfu) :: fz).map (·.1) := by
    have h1 : AllLt D ((t, instObj 134 d) :: (d, tdict w k1 k2 k3 k4 b p pa fu) :: (b, W.listOf bv.toArray nb) :: (pa, W.listOf pav.toArray npa) :: (fu, W.listOf fuv.toArray nfu) :: fz) := hl
    intro hm
    obtain ⟨q, hq, e⟩ := List.mem_map.mp hm
    exact allLt_ne h1 q hq e
  generalize rd T₀.bufs (cutFrom 0 T₀.len 0 T₀.ps) = l at *
  k_steps
  refine Hold.into ?_
  rename Fr _ _ _ _ => F
  rename News _ _ _ _ => N
  refine iter_str rfl F N
    (fun i m news => ∃ vs n u1, m (Str.ofString "found") = some (.ref D) ∧ m (Str.ofString "place") = some (.int ((i : Nat) : Int) u1) ∧
      news = (D, W.listOf vs.toArray n) :: (t, instObj 134 d) :: (d, tdict w k1 k2 k3 k4 b p pa fu) :: (b, W.listOf bv.toArray nb) :: (pa, W.listOf pav.toArray npa) :: (fu, W.listOf fuv.toArray nfu) :: fz ∧
      i ≤ l.length ∧ All2 IntV vs (0 :: lsR l i)) ?_ ?_ ?_
  · exact ⟨_, _, _, rfl, rfl, rfl, Nat.zero_le _, .one ⟨_, rfl⟩⟩
  · intro i c uc I oI h tk m₁ news₁ hc; refine ex3 ?_; intro vs n u1; refine an5 ?_; intro hm1 hm2 e91 hi hvs; subst e91; intro F N hne
    have hc1 : l[i]? = some c := by
      have : (ofL l).cps.toList[i]? = some c := by simpa using hc
      rwa [ofL_toList] at this
    have hi2 := (List.getElem?_eq_some_iff.mp hc1).1
    have hvl := hvs.length
    have hll := lsR_len l i
    have hvz : vs.toArray.size ≤ sizeLine := by
      rw [sizeLine_eq]; simp at hvl ⊢; omega
    have hDI : @Ne Nat I D := fun q => hne _ (.head _) q.symm
    have hne2 : ∀ o, ∀ q ∈ ((D, o) : Addr × Obj) :: (t, instObj 134 d) :: (d, tdict w k1 k2 k3 k4 b p pa fu) :: (b, W.listOf bv.toArray nb) :: (pa, W.listOf pav.toArray npa) :: (fu, W.listOf fuv.toArray nfu) :: fz, q.1 ≠ I := fun o => NeL.cons hDI.symm fun q hq => hne q (.tail _ hq)
    have hDf : NeL fz D := allLt_ne hl.2.2.2.2.2
    k_steps
    all_goals (rename Fr _ _ _ _ => F; rename News _ _ _ _ => N)
    · rename ((_ : Str) == _) = true => hnl
      have hc10 := sign_nl hnl
      subst hc10
      have ep : ∀ v : Value, vs.toArray.push v = (vs ++ [v]).toArray := fun v => by simp
      rw [ep] at N
      refine ⟨_, _, _, _, rfl, F, N, hne2 _, _, _, _, hm1, rfl, rfl, by omega, ?_⟩
      rw [lsR_succ, hc1]
      exact hvs.append (.one ⟨_, rfl⟩)
    · rename ((_ : Str) == _) = false => hnl
      have hc10 := sign_nnl hnl
      refine ⟨_, _, _, _, rfl, F, N, hne2 _, _, _, _, hm1, rfl, rfl, by omega, ?_⟩
      rw [lsR_succ, hc1, if_neg (by simpa using hc10), List.append_nil]
      exact hvs
  · intro h tk m₁ news₁; refine ex3 ?_; intro vs n u1; refine an5 ?_; intro hm1 hm2 e91 hi hvs; subst e91; intro F N
    k_steps
    (try dsimp only)
    have e : (ofL l).cps.size = l.length := by simp [ofL]
    rw [e] at hvs
    exact ret D vs n _ _ (keepsBack F H Kh fun q hq => newsHas N q (.tail _ hq)) (newsHas N (D, _) (.head _)) (newsFresh N Kh (D, _) (.head _) hDl) hvs

/-- the hand that draws -/
structure HandAt (hand cells : Addr) (pos val seed : Int) (t1 t2 t3 : Tok) (cs : List Value) (ns : List Int) (n nc : Nat) (hl : Led) : Prop where
  hl_eq : hl = [(hand, W.listOf [.ref cells, .int pos t1, .int val t2, .int seed t3].toArray n), (cells, W.listOf cs.toArray nc)]
  lt : @LT.lt Nat _ cells hand
  p0 : 0 ≤ pos
  p1 : pos ≤ cs.length
  v0 : 0 ≤ val
  s0 : 0 ≤ seed
  s1 : seed < 2147483648
  c1 : cs.length < 2 ^ 22
  ci : IntsAre cs ns
def HandL (hl : Led) (hand : Addr) : Prop := ∃ cells pos val seed t1 t2 t3 cs ns n nc, HandAt hand cells pos val seed t1 t2 t3 cs ns n nc hl
theorem HandL.elim {hl : Led} {hand : Addr} {P : Prop} (h : ∀ cells pos val seed t1 t2 t3 cs ns n nc, HandAt hand cells pos val seed t1 t2 t3 cs ns n nc hl → P) : HandL hl hand → P := fun x => Exists.elim x fun cells x => Exists.elim x fun pos x => Exists.elim x fun val x => Exists.elim x fun seed x => Exists.elim x fun t1 x => Exists.elim x fun t2 x => Exists.elim x fun t3 x => Exists.elim x fun cs x => Exists.elim x fun ns x => Exists.elim x fun n x => Exists.elim x fun nc x => h cells pos val seed t1 t2 t3 cs ns n nc x
theorem pick_spec {prog : Program} {w : World} {dp un : Nat} {fr : Option (List Env)} {gd : Option (List Code)} {s : Shared} {Q E : Value → Shared → Prop} {g : Heap} (S : St w g) (hg : Keeps g s.heap) (hdp : dp + 1 < recursionLimit)
    {hl : Led} (H : HasL s.heap hl) (G : Fresh g hl) {hand : Addr} (X : HandL hl hand) {lim : Int} {tl : Tok} (h0 : 0 < lim) (h1 : lim < 2 ^ 30)
    (ret : ∀ hl' h' tk' k u, Left hl hl' s.heap h' → HandL hl' hand → 0 ≤ k → k < lim → Q (.int k u) { s with heap := h', toks := tk' }) :
    wpAny (model prog w) (Ar dp un fr gd) (call (.ref 194) [.ref hand, .int lim tl]) Q E s := by
  revert X; refine HandL.elim ?_; intro cells pos val seed t1 t2 t3 cs ns n nc X
  obtain ⟨rfl, lt, p0, p1, v0, s0, s1, c1, ci⟩ := X
  ktr_unf
  case led => exact [(hand, W.listOf [.ref cells, .int pos t1, .int val t2, .int seed t3].toArray n), (cells, W.listOf cs.toArray nc)]
  case hled => exact fun q hq => ⟨H q hq, G q hq⟩
  intro g' h₁ mean mg mb F N KX T Kg Ks Kh Kl
  clear Kl
  have hfit : ((cs.toArray.size : Nat) : Int) < 2 ^ 63 := by simp; omega
  (try dsimp only at *)
  (try k_fold)
  have fm0 : ∀ a : Int, 0 ≤ a.fmod lim := fun a => Int.fmod_nonneg_of_pos a h0
  have fm1 : ∀ a : Int, a.fmod lim < lim := fun a => Int.fmod_lt_of_pos a h0
  have fd0 : ∀ a : Int, 0 ≤ a → 0 ≤ a.fdiv lim := fun a ha => Int.fdiv_nonneg ha (Int.le_of_lt h0)
  have sd0 : 0 ≤ (seed * 48271).fmod 2147483647 := Int.fmod_nonneg_of_pos _ (by decide)
  have sd1 : (seed * 48271).fmod 2147483647 < 2147483648 := Int.lt_trans (Int.fmod_lt_of_pos _ (by decide)) (by decide)
  have hsz : ((cs.toArray.size : Nat) : Int) = cs.length := by simp
  by_cases hv : val = 0
  · subst hv
    k_steps
    all_goals (rename Fr _ _ _ _ => F; rename News _ _ _ _ => N)
    · (try dsimp only)
      exact ret _ _ _ _ _ (leftOf F N Kh fun q hq => hq) ⟨cells, _, _, _, _, _, _, cs, ns, n, nc, ⟨rfl, lt, p0, p1, Int.le_refl _, sd0, sd1, c1, ci⟩⟩ (fm0 _) (fm1 _)
    · (try dsimp only)
      have hne : pos ≠ ((cs.toArray.size : Nat) : Int) := by assumption
      have hfg : 0 ≤ ns.getD pos.toNat 0 := by assumption
      exact ret _ _ _ _ _ (leftOf F N Kh fun q hq => hq) ⟨cells, _, _, _, _, _, _, cs, ns, n, nc, ⟨rfl, lt, by omega, by omega, fd0 _ hfg, s0, s1, c1, ci⟩⟩ (fm0 _) (fm1 _)
    · (try dsimp only)
      have hne : pos ≠ ((cs.toArray.size : Nat) : Int) := by assumption
      have hfg : ¬ 0 ≤ ns.getD pos.toNat 0 := by assumption
      exact ret _ _ _ _ _ (leftOf F N Kh fun q hq => hq) ⟨cells, _, _, _, _, _, _, cs, ns, n, nc, ⟨rfl, lt, by omega, by omega, fd0 _ (by omega), s0, s1, c1, ci⟩⟩ (fm0 _) (fm1 _)
  · k_steps
    all_goals (rename Fr _ _ _ _ => F; rename News _ _ _ _ => N)
    all_goals (try dsimp only)
    all_goals first
      | exact absurd (by assumption : val = 0) hv
      | exact ret _ _ _ _ _ (leftOf F N Kh fun q hq => hq) ⟨cells, _, _, _, _, _, _, cs, ns, n, nc, ⟨rfl, lt, p0, p1, fd0 _ v0, s0, s1, c1, ci⟩⟩ (fm0 _) (fm1 _)

theorem enterC {prog : Program} {w : World} {dp un : Nat} {fr : Option (List Env)} {gd : Option (List Code)} {s : Shared} {Q E : Value → Shared → Prop} {g : Heap}
    {name qual : Str} {params : Arguments} {body : List Stmt} {scope : Scope} {dV kV doc pm cdv ct oc : Value} {an od : Option Addr} {osl : Array (Option Value)} {f : Addr} {args : List Value} {binds : List (Str × Value)}
    (S : St w g) (hg : Keeps g s.heap) (led : List (Addr × Obj)) (hled : ∀ p ∈ led, s.heap.get? p.1 = some p.2 ∧ g.get? p.1 = none)
    (ho : (Mine.kdef.heap_1 w.params).lookup f = some ⟨oc, od, .func (fnOf name qual params body scope dV kV doc pm an cdv ct), osl⟩) (hcd : codeIn (Mine.kdef.heap_1 w.params) cdv qual = true) (hroom : dp < recursionLimit)
    (hbind : BindsTo s (fnOf name qual params body scope dV kV doc pm an cdv ct) ⟨args, []⟩ binds) (hkind : (binds.all fun y => scope.names.lookup y.1 == some .local || scope.names.lookup y.1 == some .cell) = true)
    (hnd : ((cellsFrom 0 scope.names []).map (·.1)).Nodup)
    (h : ∀ g' h₁ tk cells mean mg mb, Fr g' s.heap.objs.size h₁ (bindL (envOfC qual scope s.heap.objs.size f cdv).kindOf binds fun _ => none) → News g' s.heap.objs.size h₁ (cells ++ led) →
      CellsAre (bindC (envOfC qual scope s.heap.objs.size f cdv).kindOf binds fun _ => none) (cellsFrom (s.heap.objs.size + 1) scope.names []) cells → (Mine.kdef.heap_1 w.params).In g' → Top Mine.vw LL mean mg mb g' →
      Keeps g g' → Keeps g' s.heap → (∀ b o, s.heap.get? b = some o → b ∉ led.map (·.1) → g'.get? b = some o) → (∀ p ∈ led, p.1 < s.heap.objs.size) →
      wpAny (model prog w) ((Ar dp un fr gd).deeper (envOfC qual scope s.heap.objs.size f cdv)) (execs body (envOfC qual scope s.heap.objs.size f cdv))
        (fun fl s' => Q (match fl with | .ret v => v | _ => .none) s')
        (fun e s' => wpAny (model prog w) ((Ar dp un fr gd).deeper (envOfC qual scope s.heap.objs.size f cdv)) (leaving (envOfC qual scope s.heap.objs.size f cdv) e) (fun _ s'' => E e s'') E s')
        { s with heap := h₁, toks := tk })
    (hco : scope.isCoroutine = false) (hgen : scope.isGenerator = false) (hk : scope.kind = .function) : wpAny (model prog w) (Ar dp un fr gd) (call (.ref f) args) Q E s := by
  have Ss := S.keeps hg
  obtain ⟨mean, mg, mb, T⟩ := Ss.T
  have hgg : Keeps g (hideAll s.heap (led.map (·.1))) := fun b o e => hideAll_get _ (hg b o e) fun q => by
    obtain ⟨p, hp, rfl⟩ := List.mem_map.mp q
    rw [(hled p hp).2] at e; cases e
  have Sg := S.keeps hgg
  obtain ⟨mean', mg', mb', T'⟩ := Sg.T
  refine wpAny_call (codeAny_call_function hroom (Ss.X _ _ ho) rfl hco hgen rfl (codeRec_of Ss.X hcd) (hbind _ _ _ _ ?_))
  refine wpAny_newFunctionEnv_cells hk (kindsX hkind _) fun env' he s' x => ?_
  subst he
  refine ⟨T.nolimit.keeps x.toInCall.keep, codeAny_func ?_⟩
  obtain ⟨h₁, tk, rfl, _⟩ := x.done
  have hk₁ := x.toInCall.keep
  obtain ⟨cells, NC, Y⟩ := Cl.news (h₀ := s.heap) (Nat.le_refl _) fun n c hm => ⟨x.cell n c (lookup_of_mem_nodup (cellsFrom_names scope.names 0 (s.heap.objs.size + 1) [] [] rfl ▸ hnd) hm), x.above n c hm⟩
  refine wpAny_mono (h _ h₁ tk cells mean' mg' mb' ⟨x.toInCall.ns, fun b o e => hk₁ b o (of_hideAll _ e), Nat.le_of_eq (hideAll_size _ _)⟩ (fun p hp => ?_) Y Sg.X T' hgg (fun b o e => of_hideAll _ e) (fun b o e n => hideAll_get _ e n)
    fun p hp => Heap.lt_size (hled p hp).1) (fun fl s' hl => hl) fun _ _ y => y
  rcases List.mem_append.mp hp with hp | hp
  · refine ⟨(NC p hp).1, (NC p hp).2.1, ?_⟩
    cases q : (hideAll s.heap (led.map (·.1))).get? p.1 with
    | none => rfl
    | some o => have := of_hideAll _ q; rw [(NC p hp).2.2] at this; cases this
  · exact news_hide hled hk₁ p hp

theorem compRest_of {prog : Program} {w : World} {A : Around} {h₀ : Heap} {L : Addr} {m : Str → Option Value} {env : Env} {elt : Expr} {x : Str} {scope : Scope} {cl : List (Str × Addr)} {s : Shared} {S : Led → Prop} {P : Nat → Value → Prop} {Fin : List Value → Led → Prop} {n : Nat}
    (J : Nat → List Value → Led → Prop)
    (step : ∀ i ys news v I oI C oC D m₂ h tk (E' : Value → Shared → Prop), i < n → J i ys news → P i v → LCg.NsObj oC m₂ → m₂ x = some v → Fr h₀ L h m → News h₀ L h ((I, oI) :: (C, oC) :: (D, LCg.lst ys) :: news) → LCg.Off3 I C D news → ((@Ne Nat I C) ∧ (@Ne Nat I D) ∧ (@Ne Nat C D)) →
      wpAny (model prog w) A (eval elt (compEnvC scope cl C env)) (LCg.CompEnd h₀ L m { s with heap := h, toks := tk } I oI C oC D (LCg.lst ys) S (fun y news' => J (i + 1) (ys ++ [y]) news')) E' { s with heap := h, toks := tk })
    (fin : ∀ ys news, J n ys news → Fin ys news) : ∀ {k i : Nat} {ys : List Value} {news : Led}, i + k = n → J i ys news → LCg.CompRest prog w A h₀ L m env elt x scope cl s S P Fin k i ys news
  | 0, i, ys, news, e, h => LCg.CompRest.zero (fin _ _ ((show i = n by omega) ▸ h))
  | k + 1, i, ys, news, e, h => LCg.CompRest.succ fun v I oI C oC D m₂ hh tk E' hP hC hx F N off ne =>
    wpAny_mono (step i ys news v I oI C oC D m₂ hh tk E' (by omega) h hP hC hx F N off ne) (fun y s₂ ⟨h', tk', news', e', F', N', o', S', r⟩ => ⟨h', tk', news', e', F', N', o', S', compRest_of J step fin (by omega) r⟩) fun _ _ x => x

theorem leftNe {g h h' : Heap} {L : Addr} {news tl tl' other : Led} (N : News g L h news) (X : Left tl tl' h h') (ho : ∀ q ∈ other, q ∈ news) (hd : ∀ q ∈ other, q.1 ∉ tl.map (·.1)) : ∀ q ∈ other, NeL tl' q.1 := fun q hq r hr e => by
  rcases X.from' r hr with h1 | h1
  · exact hd q hq (e ▸ h1)
  · rw [e, (N q (ho q hq)).1] at h1; cases h1
theorem neMap {tl : Led} {a : Addr} (h : NeL tl a) : a ∉ tl.map (·.1) := fun q => by
  obtain ⟨p, hp, e⟩ := List.mem_map.mp q
  exact h p hp e

def Disj (A B : Led) : Prop := ∀ q ∈ A, ∀ r ∈ B, @Ne Nat r.1 q.1
theorem Disj.symm {A B : Led} (h : Disj A B) : Disj B A := fun q hq r hr e => h r hr q hq e.symm
theorem Disj.nil {B : Led} : Disj [] B := fun q hq => nomatch hq
theorem Disj.cons {a : Addr × Obj} {A B : Led} (h : NeL B a.1) (h' : Disj A B) : Disj (a :: A) B := fun q hq => by
  rcases List.mem_cons.mp hq with rfl | hq
  · exact h
  · exact h' q hq
theorem Disj.append {A A' B : Led} (h : Disj A B) (h' : Disj A' B) : Disj (A ++ A') B := fun q hq => (List.mem_append.mp hq).elim (h q) (h' q)
theorem Disj.sub {A B A' B' : Led} (h : Disj A B) (hA : ∀ q ∈ A', q ∈ A) (hB : ∀ q ∈ B', q ∈ B) : Disj A' B' := fun q hq r hr => h q (hA q hq) r (hB r hr)
/-- a call that turns tl, the rest stands -/
theorem callOff {g h h' : Heap} {L : Addr} {m : Str → Option Value} {news tl tl' other : Led} (F : Fr g L h m) (N : News g L h news) (X : Left tl tl' h h') (sub : ∀ q ∈ tl, q ∈ news) (ho : ∀ q ∈ other, q ∈ news) (dj : Disj other tl) : Fr g L h' m ∧ News g L h' (other ++ tl') ∧ Disj other tl' :=
  have hd : ∀ q ∈ other, q.1 ∉ tl.map (·.1) := fun q hq => neMap (dj q hq)
  ⟨(callLeft F N sub X ho hd).1, (callLeft F N sub X ho hd).2, fun q hq r hr => leftNe N X ho hd q hq r hr⟩

theorem ob3 {g h : Heap} {L a : Addr} {o : Obj} {q q' : Addr × Obj} {r : Led} (_ : News g L h (q :: q' :: (a, o) :: r)) : ∃ x, x = o := ⟨_, rfl⟩
theorem ob2 {g h : Heap} {L a : Addr} {o : Obj} {q : Addr × Obj} {r : Led} (_ : News g L h (q :: (a, o) :: r)) : ∃ x, x = o := ⟨_, rfl⟩

/-- signs that a text may hold -/
def OkS (x : Str) : Prop := ∀ c ∈ x.cps.toList, c < 0x110000
theorem okS_sign {j c : Nat} (h : (Str.ofString "ab\nc").cps.toList[j]? = some c) : OkS ⟨#[c]⟩ := fun d hd => by
  have e : d = c := by simpa using hd
  subst e
  have hm := List.mem_of_getElem? h
  have ha : ∀ z ∈ (Str.ofString "ab\nc").cps.toList, z < 0x110000 := by decide +kernel
  exact ha _ hm
theorem letters_spec {prog : Program} {w : World} {dp un : Nat} {fr : Option (List Env)} {gd : Option (List Code)} {s : Shared} {Q E : Value → Shared → Prop} {g : Heap} (S : St w g) (hg : Keeps g s.heap) (hdp : dp + 2 < recursionLimit)
    {hl : Led} (H : HasL s.heap hl) (G : Fresh g hl) {hand : Addr} (X : HandL hl hand)
    (ret : ∀ hl' h' tk' x u, Left hl hl' s.heap h' → HandL hl' hand → x.length ≤ 4 → OkS x → Q (.str x u) { s with heap := h', toks := tk' }) :
    wpAny (model prog w) (Ar dp un fr gd) (call (.ref 199) [.ref hand]) Q E s := by
  refine' enterC S hg hl (fun q hq => ⟨H q hq, G q hq⟩) ?k6 ?k7 (by omega) ?k9 ?kB ?kD ?_ ?c2 ?c3 ?c4
  case k6 => exact rfl
  case k7 => k_is
  case k9 => first | exact BindsTo.of_eq rfl | exact binds_K (St.inn (by assumption) (by assumption)) rfl (by k_is) rfl rfl rfl
  case kB => exact rfl
  case kD => decide +kernel
  case c2 => exact rfl
  case c3 => exact rfl
  case c4 => exact rfl
  intro g' h₁ tk cells mean mg mb F N Y KX T Kg Ks Kh Kl
  k_cells Y
  (try simp only [List.cons_append, List.nil_append] at N)
  (try dsimp only)
  (try k_fold)
  k_steps
  rename Fr _ _ _ _ => F
  rename News _ _ _ _ => N
  obtain ⟨oc, eo⟩ := ob1 N
  subst eo
  have hch : ∀ q ∈ hl, @Ne Nat q.1 (s.heap.objs.size + 1) := fun q hq => Nat.ne_of_lt (Nat.lt_succ_of_lt (Kl q hq))
  refine Hold.into ?_
  k_dflt (refine LCg.ListComp_U (F₀ := by k_asm) (by with_unfolding_all rfl) (by decide) (by rfl) (by decide) (by rfl) ?_)
  k_steps
  have N1 := newsTail N
  refine pick_spec (dp := dp + 1) S (fun b o e => F.keep _ _ (Kg _ _ e)) (by omega) (newsHas N1) (freshOf N1 Kg) X (by decide) (by decide) ?_
  intro hl1 h1 tk1 k u L1 X1 k0 k5
  obtain ⟨k, rfl⟩ := Int.eq_ofNat_of_zero_le k0
  have D1 : ∀ q ∈ [((s.heap.objs.size + 1 : Nat), oc)], q.1 ∉ hl.map (·.1) := fun q hq => by
    rw [List.mem_singleton.mp hq]; exact neMap hch
  have N2 := leftNe N L1 (other := [((s.heap.objs.size + 1 : Nat), oc)]) (fun q hq => by rw [List.mem_singleton.mp hq]; exact .head _) D1
  obtain ⟨F, N⟩ := callLeft (other := [((s.heap.objs.size + 1 : Nat), oc)]) F N (fun q hq => .tail _ hq) L1 (fun q hq => by rw [List.mem_singleton.mp hq]; exact .head _) D1
  simp only [List.cons_append, List.nil_append] at N
  k_steps
  refine Hold.into ?_
  rename IsRange _ _ _ _ _ _ _ _ => R
  rename Fr _ _ _ _ => F
  rename News _ _ _ _ => N
  refine LCg.CompSrc.range (n := k) rfl F N R (small_up (a := 0) (by omega) (by decide)) ((size_up 0 k).trans (by simp)) (by rw [sizeLine_eq]; omega) fun g9 => ?_
  refine compRest_of (fun i ys news => ys.length = i ∧ (∃ xs, All2 StrV ys xs ∧ ∀ x ∈ xs, x.length = 1 ∧ OkS x) ∧ ∃ hl2, news = (s.heap.objs.size + 1, oc) :: hl2 ∧ HandL hl2 hand ∧ NeL hl2 (s.heap.objs.size + 1)) ?_ ?_ (Nat.zero_add _) ⟨rfl, ⟨[], .nil, fun _ h => nomatch h⟩, hl1, rfl, X1, N2 _ (.head _)⟩
  · rintro i ys news v I oI C oC D m₂ h tk E' hi ⟨hyl, ⟨xs, hxs, hx1⟩, hl2, rfl, X2, ne2⟩ hP hC hx F N off ⟨ne1, ne3, ne4⟩
    have offm := off.mem
    k_steps
    have hI : NeL hl2 I := fun q hq => (offm q (.tail _ hq)).1
    have hCc : NeL hl2 C := fun q hq => (offm q (.tail _ hq)).2.1
    have hD : NeL hl2 D := fun q hq => (offm q (.tail _ hq)).2.2
    have oth : ∀ q ∈ [(I, oI), (C, oC), (D, LCg.lst ys), ((s.heap.objs.size + 1 : Nat), oc)], q.1 ∉ hl2.map (·.1) := by
      refine List.forall_mem_cons.mpr ⟨neMap hI, List.forall_mem_cons.mpr ⟨neMap hCc, List.forall_mem_cons.mpr ⟨neMap hD, List.forall_mem_cons.mpr ⟨neMap ne2, List.forall_mem_nil _⟩⟩⟩⟩
    have sub4 : ∀ q ∈ [(I, oI), (C, oC), (D, LCg.lst ys), ((s.heap.objs.size + 1 : Nat), oc)], q ∈ (I, oI) :: (C, oC) :: (D, LCg.lst ys) :: ((s.heap.objs.size + 1 : Nat), oc) :: hl2 := by tb_rel
    have Nh := newsSub N (news' := hl2) (fun q hq => by kwd_rel)
    refine pick_spec (dp := dp + 1) S (fun b o e => F.keep _ _ (Kg _ _ e)) (by omega) (newsHas Nh) (freshOf Nh Kg) X2 (by decide) (by decide) ?_
    intro hl3 h3 tk3 j u3 L3 X3 j0 j4
    have N4 := leftNe N L3 sub4 oth
    obtain ⟨F, N⟩ := callLeft F N (fun q hq => by kwd_rel) L3 sub4 oth
    simp only [List.cons_append, List.nil_append] at N
    obtain ⟨j, rfl⟩ := Int.eq_ofNat_of_zero_le j0
    have hc : ∃ c, (Str.ofString "ab\nc").cps.toList[((j : Nat) : Int).toNat]? = some c := by
      have hj : j < (Str.ofString "ab\nc").cps.toList.length := by
        rw [show (Str.ofString "ab\nc").cps.toList.length = 4 from rfl]; omega
      exact ⟨_, List.getElem?_eq_getElem hj⟩
    obtain ⟨ch, hch⟩ := hc
    k_steps
    rename Fr _ _ _ _ => F
    rename News _ _ _ _ => N
    refine LCg.CompEnd.intro F N ((s.heap.objs.size + 1, oc) :: hl3) (by tb_rel) (LCg.Off3.of ?_) trivial ⟨by simp [hyl], ⟨xs ++ [⟨#[ch]⟩], hxs.append (.one ⟨_, rfl⟩), fun x hx => ?_⟩, hl3, rfl, X3, N4 _ (.tail _ (.tail _ (.tail _ (.head _))))⟩
    · intro q hq
      rcases List.mem_cons.mp hq with rfl | hq
      · exact offm (s.heap.objs.size + 1, oc) (.head _)
      · exact ⟨N4 _ (.head _) q hq, N4 _ (.tail _ (.head _)) q hq, N4 _ (.tail _ (.tail _ (.head _))) q hq⟩
    · rcases List.mem_append.mp hx with hx | hx
      · exact hx1 x hx
      · rw [List.mem_singleton.mp hx]; exact ⟨rfl, okS_sign hch⟩
  · rintro ys news ⟨hyl, ⟨xs, hxs, hx1⟩, hl2, rfl, X2, ne2⟩
    intro D h tk F N o1
    k_steps
    have hsum : ∀ l : List Str, (∀ x ∈ l, x.length = 1) → (l.map (·.length)).sum = l.length := by
      intro l
      induction l with
      | nil => intro _; rfl
      | cons x l ih => intro hl; simp only [List.map_cons, List.sum_cons, List.length_cons]; rw [hl x (.head _), ih fun y hy => hl y (.tail _ hy)]; omega
    have hxl := hxs.length
    refine mJoin N (.head _) (ys := xs) hxs (by rw [hsum xs fun x hx => (hx1 x hx).1]; omega) fun u tk => ?_
    k_steps
    refine ret _ _ _ _ _ (leftOf F N Kh fun q hq => by kwd_rel) X2 ?_ ?_
    rw [ofL_len, List.length_flatMap]
    have e : (List.map (fun x : Str => x.cps.toList.length) xs) = xs.map (·.length) := List.map_congr_left fun x _ => (str_len x).symm
    · rw [e, hsum xs fun x hx => (hx1 x hx).1]; omega
    · intro c hc
      rw [ofL_toList] at hc
      obtain ⟨x, hx, hcx⟩ := List.mem_flatMap.mp hc
      exact (hx1 x hx).2 c hcx

theorem enterR {prog : Program} {w : World} {dp un : Nat} {fr : Option (List Env)} {gd : Option (List Code)} {s : Shared} {R : Result → Shared → Prop} {g : Heap}
    {name qual : Str} {params : Arguments} {body : List Stmt} {scope : Scope} {dV kV doc pm cdv ct oc : Value} {an od : Option Addr} {osl : Array (Option Value)} {f : Addr} {args : List Value} {binds : List (Str × Value)}
    (S : St w g) (hg : Keeps g s.heap) (led : List (Addr × Obj)) (hled : ∀ p ∈ led, s.heap.get? p.1 = some p.2 ∧ g.get? p.1 = none)
    (ho : (Mine.kdef.heap_1 w.params).lookup f = some ⟨oc, od, .func (fnOf name qual params body scope dV kV doc pm an cdv ct), osl⟩) (hcd : codeIn (Mine.kdef.heap_1 w.params) cdv qual = true) (hroom : dp < recursionLimit)
    (hbind : BindsTo s (fnOf name qual params body scope dV kV doc pm an cdv ct) ⟨args, []⟩ binds) (hloc : ∀ y ∈ binds, scope.names.lookup y.1 = some .local)
    (h : ∀ g' h₁ mean mg mb, Fr g' s.heap.objs.size h₁ (fun y => binds.reverse.lookup y) → News g' s.heap.objs.size h₁ led → (Mine.kdef.heap_1 w.params).In g' → Top Mine.vw LL mean mg mb g' →
      Keeps g g' → Keeps g' s.heap → (∀ b o, s.heap.get? b = some o → b ∉ led.map (·.1) → g'.get? b = some o) → (∀ p ∈ led, p.1 < s.heap.objs.size) →
      wpAny (model prog w) ((Ar dp un fr gd).deeper (envOf qual scope s.heap.objs.size f cdv)) (execs body (envOf qual scope s.heap.objs.size f cdv))
        (fun fl s' => R (.ok (.ret (match fl with | .ret v => v | _ => .none))) s')
        (fun e s' => wpAny (model prog w) ((Ar dp un fr gd).deeper (envOf qual scope s.heap.objs.size f cdv)) (leaving (envOf qual scope s.heap.objs.size f cdv) e) (fun _ s'' => R (.error e) s'') (fun e' s'' => R (.error e') s'') s')
        { s with heap := h₁, toks := s.toks + binds.length })
    (hco : scope.isCoroutine = false) (hgen : scope.isGenerator = false) (hk : scope.kind = .function)
    (hcell : ∀ x ∈ scope.names, x.2 ≠ .cell) : codeAny (model prog w) (Ar dp un fr gd) (.call (.ref f) ⟨args, []⟩) R s := by
  have Ss := S.keeps hg
  obtain ⟨mean, mg, mb, T⟩ := Ss.T
  have hgg : Keeps g (hideAll s.heap (led.map (·.1))) := fun b o e => hideAll_get _ (hg b o e) fun q => by
    obtain ⟨p, hp, rfl⟩ := List.mem_map.mp q
    rw [(hled p hp).2] at e; cases e
  have Sg := S.keeps hgg
  obtain ⟨mean', mg', mb', T'⟩ := Sg.T
  refine codeAny_call_def (fd := fnOf name qual params body scope dV kV doc pm an cdv ct) (body := body) (binds := binds) hroom (Ss.X _ _ ho) rfl T.nolimit (codeRec_of Ss.X hcd) rfl hbind hcell hloc (fun h₁ hns hk₁ => ?_) hco hgen hk
  exact wpAny_mono (h _ h₁ mean' mg' mb' ⟨hns, fun b o e => hk₁ b o (of_hideAll _ e), Nat.le_of_eq (hideAll_size _ _)⟩ (news_hide hled hk₁) Sg.X T' hgg (fun b o e => of_hideAll _ e) (fun b o e n => hideAll_get _ e n)
    fun p hp => Heap.lt_size (hled p hp).1) (fun fl s' hl => by cases fl <;> exact hl) fun _ _ y => y

theorem nm4 {g h : Heap} {L a : Addr} {o : Obj} {q q' q'' : Addr × Obj} {r : Led} (_ : News g L h (q :: q' :: q'' :: (a, o) :: r)) : ∃ x, x = a := ⟨_, rfl⟩
theorem nm5 {g h : Heap} {L a : Addr} {o : Obj} {q q' q'' q3 : Addr × Obj} {r : Led} (_ : News g L h (q :: q' :: q'' :: q3 :: (a, o) :: r)) : ∃ x, x = a := ⟨_, rfl⟩
theorem text_new {prog : Program} {w : World} {dp un : Nat} {fr : Option (List Env)} {gd : Option (List Code)} {s : Shared} {Q E : Value → Shared → Prop} {g : Heap} {L : Addr} {m : Str → Option Value} {news : Led} (S : St w g) (F₀ : Fr g L s.heap m) (N₀ : News g L s.heap news) (hdp : dp + 2 < recursionLimit)
    {x : Str} {tx : Tok} (hx : x.length < 2 ^ 22)
    (ret : ∀ tl' h' tk' t, Fr g L h' m → News g L h' (news ++ tl') → Disj news tl' → TxS w tl' t ⟨[x], if x = Str.ofString "" then [] else [(0, 0, x.length)], [], []⟩ → Q (.ref t) { s with heap := h', toks := tk' }) :
    wpAny (model prog w) (Ar dp un fr gd) (call (.ref 134) [.str x tx]) Q E s := by
  have KX := S.X
  obtain ⟨mean, mg, mb, T⟩ := S.T
  refine' call_cls (C := 134) F₀ KX N₀ ?k4 ?k5 ?k6 ?_
  case k4 => k_is
  case k5 => k_is
  case k6 => k_is
  intro t d h F N l1 l2
  have dj : Disj news [(t, instObj 134 d), (d, dictOf [] 0)] := fun q hq r hr => by
    have h1 := l1 q hq
    rcases List.mem_cons.mp hr with rfl | hr
    · exact (Nat.ne_of_lt (Nat.lt_trans h1 l2)).symm
    · rw [List.mem_singleton.mp hr]; exact (Nat.ne_of_lt h1).symm
  clear l1
  have l2' := ltN l2
  refine' enterR (g := g) S F.keep [(t, instObj 134 d), (d, dictOf [] 0)] (fun p hp => ⟨(N p (by revert p; tb_rel)).1, (N p (by revert p; tb_rel)).2.2⟩) ?a1 ?a2 ?a3 ?a4 ?a5 ?_ ?b1 ?b2 ?b3 ?b4
  case a1 => exact rfl
  case a2 => k_is
  case a3 => show dp + 1 < recursionLimit; omega
  case a4 => first | exact BindsTo.of_eq rfl | exact binds_K (St.inn (by assumption) F.keep) rfl (by k_is) rfl rfl rfl
  case a5 => exact locs rfl
  case b1 => exact rfl
  case b2 => exact rfl
  case b3 => exact rfl
  case b4 => decide
  clear KX T
  intro g' h₁ mean mg mb F1 N1 KX T Kg Ks Kh Kl
  (try dsimp only at *)
  (try k_fold)
  k_steps
  · have he : x ≠ Str.ofString "" := by
      have : (x != Str.ofString "") = true := by assumption
      simpa using this
    rename Fr g' _ _ _ => F2
    rename News g' _ _ _ => N2
    obtain ⟨fu, e⟩ := nm1 N2
    subst e
    obtain ⟨pa, e⟩ := nm2 N2
    subst e
    obtain ⟨p, e⟩ := nm3 N2
    subst e
    obtain ⟨D, e⟩ := nm4 N2
    subst e
    obtain ⟨b, e⟩ := nm5 N2
    subst e
    have hN : ∃ k1 k2 k3 k4, News g' h.objs.size _ [(t, instObj 134 d), (d, tdict w k1 k2 k3 k4 b p pa fu), (b, W.listOf [Value.str x tx].toArray 0), (pa, W.listOf ([] : List Value).toArray 0), (fu, W.listOf ([] : List Value).toArray 0), (p, W.listOf [Value.ref D].toArray 0), (D, _)] := ⟨_, _, _, _, newsSub N2 (by tb_rel)⟩
    clear N2
    obtain ⟨k1, k2, k3, k4, N2⟩ := hN
    have X := leftOf F2 N2 Kh (fun q hq => hq)
    obtain ⟨F, N, dj⟩ := callOff F N X (by tb_rel) (fun q hq => by kwd_rel) dj
    rw [if_neg he] at ret
    refine ⟨rfl, ret _ _ _ t F N dj ⟨d, b, p, pa, fu, k1, k2, k3, k4, [.str x tx], [], [], 0, 0, 0, [(p, W.listOf [Value.ref D].toArray 0), (D, _)], ⟨rfl, by omega, by omega, by omega, by omega, ?_, ?_, ?_, ?_, ?_, .one ⟨_, rfl⟩, ⟨_, _, .head _, .one ⟨D, _, _, _, _, rfl, .tail _ (.head _)⟩⟩, .nil, .nil⟩⟩⟩
    all_goals exact NeL.cons (neN (by dsimp only; omega)) (NeL.cons (neN (by dsimp only; omega)) fun q hq => nomatch hq)
  · have he : x = Str.ofString "" := by
      have : (x != Str.ofString "") = false := by assumption
      simpa using this
    rename Fr g' _ _ _ => F2
    rename News g' _ _ _ => N2
    obtain ⟨fu, e⟩ := nm1 N2
    subst e
    obtain ⟨pa, e⟩ := nm2 N2
    subst e
    obtain ⟨p, e⟩ := nm3 N2
    subst e
    obtain ⟨b, e⟩ := nm4 N2
    subst e
    have hN : ∃ k1 k2 k3 k4, News g' h.objs.size _ [(t, instObj 134 d), (d, tdict w k1 k2 k3 k4 b p pa fu), (b, W.listOf [Value.str x tx].toArray 0), (pa, W.listOf ([] : List Value).toArray 0), (fu, W.listOf ([] : List Value).toArray 0), (p, W.listOf ([] : List Value).toArray 0)] := ⟨_, _, _, _, newsSub N2 (by tb_rel)⟩
    clear N2
    obtain ⟨k1, k2, k3, k4, N2⟩ := hN
    have X := leftOf F2 N2 Kh (fun q hq => hq)
    obtain ⟨F, N, dj⟩ := callOff F N X (by tb_rel) (fun q hq => by kwd_rel) dj
    rw [if_pos he] at ret
    refine ⟨rfl, ret _ _ _ t F N dj ⟨d, b, p, pa, fu, k1, k2, k3, k4, [.str x tx], [], [], 0, 0, 0, [(p, W.listOf ([] : List Value).toArray 0)], ⟨rfl, by omega, by omega, by omega, by omega, ?_, ?_, ?_, ?_, ?_, .one ⟨_, rfl⟩, ⟨_, _, .head _, .nil⟩, .nil, .nil⟩⟩⟩
    all_goals exact NeL.cons (neN (by dsimp only; omega)) fun q hq => nomatch hq

/-- the law's own plain text -/
structure WdAt (prog : Program) (w : World) (wd pa fu : Addr) (o : Obj) (tn : Tok) (pav fuv : List Value) (n1 n2 : Nat) (wl : Led) (now : Str) (past fut : List Str) : Prop where
  wl_eq : wl = [(wd, o), (pa, W.listOf pav.toArray n1), (fu, W.listOf fuv.toArray n2)]
  l1 : @LT.lt Nat _ wd pa
  l2 : @LT.lt Nat _ pa fu
  hd : Obj.IsDictOf (PySem.strKind prog w) o [(Str.ofString "now", .str now tn), (Str.ofString "past", .ref pa), (Str.ofString "future", .ref fu)]
  hpa : All2 StrV pav past
  hfu : All2 StrV fuv fut
structure WS where
  now : Str
  past : List Str
  fut : List Str
def WdL (prog : Program) (w : World) (wl : Led) (wd : Addr) (V : WS) : Prop := ∃ pa fu o tn pav fuv n1 n2, WdAt prog w wd pa fu o tn pav fuv n1 n2 wl V.now V.past V.fut
theorem WdL.elim {prog : Program} {w : World} {wl : Led} {wd : Addr} {V : WS} {P : Prop}
    (h : ∀ pa fu o tn pav fuv n1 n2, WdAt prog w wd pa fu o tn pav fuv n1 n2 wl V.now V.past V.fut → P) : WdL prog w wl wd V → P := fun x => Exists.elim x fun pa x => Exists.elim x fun fu x => Exists.elim x fun o x => Exists.elim x fun tn x => Exists.elim x fun pav x => Exists.elim x fun fuv x => Exists.elim x fun n1 x => Exists.elim x fun n2 x => h pa fu o tn pav fuv n1 n2 x
def WS.edited (V : WS) (x : Str) : WS := ⟨x, V.past ++ [V.now], []⟩
theorem edited_spec {prog : Program} {w : World} {dp un : Nat} {fr : Option (List Env)} {gd : Option (List Code)} {s : Shared} {Q E : Value → Shared → Prop} {g : Heap} (S : St w g) (hg : Keeps g s.heap) (hdp : dp + 1 < recursionLimit)
    {wl : Led} (H : HasL s.heap wl) (G : Fresh g wl) {wd : Addr} {V : WS} (X : WdL prog w wl wd V) {x : Str} {tx : Tok} (Z : V.past.length < 2 ^ 22)
    (ret : ∀ wl' h' tk', Left wl wl' s.heap h' → WdL prog w wl' wd (V.edited x) → Q .none { s with heap := h', toks := tk' }) :
    wpAny (model prog w) (Ar dp un fr gd) (call (.ref 206) [.ref wd, .str x tx]) Q E s := by
  revert X; refine WdL.elim ?_; intro pa fu o tn pav fuv n1 n2 X
  obtain ⟨rfl, l1, l2, hd, hpa, hfu⟩ := X
  ktr_unf
  case led => exact [(wd, o), (pa, W.listOf pav.toArray n1), (fu, W.listOf fuv.toArray n2)]
  case hled => exact fun q hq => ⟨H q hq, G q hq⟩
  intro g' h₁ mean mg mb F N KX T Kg Ks Kh Kl
  clear Kl
  have hpl := hpa.length
  have hfit : pav.toArray.size + 1 ≤ sizeLine := by rw [sizeLine_eq, List.size_toArray]; omega
  (try dsimp only at *)
  (try k_fold)
  k_steps
  (try dsimp only)
  k_steps
  (try dsimp only)
  k_steps
  rename Fr _ _ _ _ => F
  rename News _ _ _ _ => N
  rename Obj.IsDictOf _ _ _ => hd
  obtain ⟨nf, e⟩ := nm1 N
  subst e
  obtain ⟨on, e⟩ := ob2 N
  subst e
  refine ret [(wd, on), (pa, W.listOf (pav ++ [Value.str V.now tn]).toArray (n1 + 1)), (nf, W.listOf ([] : List Value).toArray 0)] _ _ (leftOf F N Kh ?_) ⟨pa, nf, on, tx, pav ++ [Value.str V.now tn], [], _, _, ⟨rfl, l1, by omega, hd, hpa.append (.one ⟨_, rfl⟩), .nil⟩⟩
  rw [← List.push_toArray]
  tb_rel
theorem slice_lo (x : Str) (u : Option Int) : Txt.slice x none u = Txt.slice x (some ((0 : Nat) : Int)) u := by
  have e : Builtin.Str.strSliceIndices none u 1 x.length = Builtin.Str.strSliceIndices (some ((0 : Nat) : Int)) u 1 x.length := by
    unfold Builtin.Str.strSliceIndices
    have h : max (0 : Int) (min 0 (x.length : Int)) = 0 := by omega
    simp [h]
  unfold Txt.slice
  rw [e]
theorem slice_hi (x : Str) (l : Option Int) : Txt.slice x l none = Txt.slice x l (some ((x.length : Nat) : Int)) := by
  have e : Builtin.Str.strSliceIndices l none 1 x.length = Builtin.Str.strSliceIndices l (some ((x.length : Nat) : Int)) 1 x.length := by
    unfold Builtin.Str.strSliceIndices
    have h2 : ¬ (((x.length : Nat) : Int) < 0) := by omega
    simp [h2]
  unfold Txt.slice
  rw [e]
theorem slice_take (x : Str) {b : Nat} (hb : b ≤ x.length) : Txt.slice x none (some (b : Int)) = ofL (x.cps.toList.take b) := by
  rw [slice_lo, slice_plain x (Nat.zero_le _) hb]
  unfold sub
  simp
theorem slice_drop (x : Str) {b : Nat} (hb : b ≤ x.length) : Txt.slice x (some (b : Int)) none = ofL (x.cps.toList.drop b) := by
  rw [slice_hi, slice_plain x hb (Nat.le_refl _)]
  unfold sub
  rw [List.take_of_length_le (by rw [List.length_drop, ← str_len]; omega)]
theorem slice_any (x : Str) (b : Nat) : Txt.slice x none (some (b : Int)) = ofL (x.cps.toList.take b) := by
  by_cases hb : b ≤ x.length
  · exact slice_take x hb
  · have e : Txt.slice x none (some (b : Int)) = Txt.slice x none (some (x.length : Int)) := by
      unfold Txt.slice
      rw [sliceIdx_hi_beyond x.length (by omega)]
    rw [e, slice_take x (Nat.le_refl _), List.take_of_length_le (by rw [← str_len]; exact Nat.le_refl _), List.take_of_length_le (by rw [← str_len]; omega)]
theorem ofL_append (a b : List Nat) : ofL a ++ ofL b = ofL (a ++ b) := by
  refine Str.ext' ?_
  rw [Str.cps_append]
  apply Array.toList_inj.mp
  simp [ofL]
def splice (x : Str) (f l : Nat) (a : Str) : Str := ofL (x.cps.toList.take f ++ a.cps.toList ++ x.cps.toList.drop l)
def WS.replaced (V : WS) (f l : Nat) (a : Str) : WS := if f < l ∨ a ≠ Str.ofString "" then V.edited (splice V.now f l a) else V
theorem replaced_spec {prog : Program} {w : World} {dp un : Nat} {fr : Option (List Env)} {gd : Option (List Code)} {s : Shared} {Q E : Value → Shared → Prop} {g : Heap} (S : St w g) (hg : Keeps g s.heap) (hdp : dp + 2 < recursionLimit)
    {wl : Led} (H : HasL s.heap wl) (G : Fresh g wl) {wd : Addr} {V : WS} (X : WdL prog w wl wd V) {f l : Nat} {a : Str} {t1 t2 t3 : Tok} (Z : V.past.length < 2 ^ 22) (hf : f ≤ l) (hl : l ≤ V.now.length) (hn : V.now.length < 2 ^ 22) (ha : a.length < 2 ^ 22)
    (ret : ∀ wl' h' tk', Left wl wl' s.heap h' → WdL prog w wl' wd (V.replaced f l a) → Q .none { s with heap := h', toks := tk' }) :
    wpAny (model prog w) (Ar dp un fr gd) (call (.ref 213) [.ref wd, .int f t1, .int l t2, .str a t3]) Q E s := by
  revert X; refine WdL.elim ?_; intro pa fu o tn pav fuv n1 n2 X
  obtain ⟨rfl, l1, l2, hd, hpa, hfu⟩ := X
  ktr_unf
  case led => exact [(wd, o), (pa, W.listOf pav.toArray n1), (fu, W.listOf fuv.toArray n2)]
  case hled => exact fun q hq => ⟨H q hq, G q hq⟩
  intro g' h₁ mean mg mb F N KX T Kg Ks Kh Kl
  clear Kl
  have hnl : V.now.length ≤ sizeLine := by rw [sizeLine_eq]; omega
  (try dsimp only at *)
  (try k_fold)
  have ef : f < l → V.replaced f l a = V.edited (splice V.now f l a) := fun h => if_pos (.inl h)
  have ea : a ≠ Str.ofString "" → V.replaced f l a = V.edited (splice V.now f l a) := fun h => if_pos (.inr h)
  have en : f = l → a = Str.ofString "" → V.replaced f l a = V := fun h h' => if_neg (by rintro (h1 | h1); omega; exact h1 h')
  have es : Txt.slice V.now none (some (f : Int)) ++ a ++ Txt.slice V.now (some (l : Int)) none = splice V.now f l a := by
    rw [slice_take _ (by omega), slice_drop _ hl]
    conv => lhs; arg 1; arg 2; rw [← ofL_cps a]
    rw [ofL_append, ofL_append]; rfl
  k_steps
  · rename Fr _ _ _ _ => F
    rename News _ _ _ _ => N
    rw [es]
    refine edited_spec (dp := dp + 1) S (fun b o e => F.keep _ _ (Kg _ _ e)) (by omega) (newsHas N) G ⟨pa, fu, o, tn, pav, fuv, n1, n2, ⟨rfl, l1, l2, hd, hpa, hfu⟩⟩ Z ?_
    intro wl' h' tk' L X
    k_steps
    refine ret _ _ _ (leftTrans F Kh (by rfl) L) ?_
    rw [ef (by omega)]; exact X
  · rename Fr _ _ _ _ => F
    rename News _ _ _ _ => N
    rw [es]
    refine edited_spec (dp := dp + 1) S (fun b o e => F.keep _ _ (Kg _ _ e)) (by omega) (newsHas N) G ⟨pa, fu, o, tn, pav, fuv, n1, n2, ⟨rfl, l1, l2, hd, hpa, hfu⟩⟩ Z ?_
    intro wl' h' tk' L X
    k_steps
    refine ret _ _ _ (leftTrans F Kh (by rfl) L) ?_
    have hne : (a != Str.ofString "") = true := by assumption
    rw [ea (by simpa using hne)]; exact X
  · rename Fr _ _ _ _ => F
    rename News _ _ _ _ => N
    (try dsimp only)
    have hnf : ¬ (f : Int) < (l : Int) := by assumption
    have hne : (a != Str.ofString "") = false := by assumption
    refine ret _ _ _ (leftOf F N Kh fun q hq => hq) ?_
    rw [en (by omega) (by simpa using hne)]
    exact ⟨pa, fu, o, tn, pav, fuv, n1, n2, ⟨rfl, l1, l2, hd, hpa, hfu⟩⟩

section
variable {prog : Program} {w : World} {A : Around} {s : Shared} {Q : Flow → Shared → Prop} {E E' : Value → Shared → Prop} {env : Env} {g : Heap} {L : Addr} {m : Str → Option Value} {news : List (Addr × Obj)} {body : List Stmt}
theorem size_upI (a : Nat) (b : Int) : Builtin.Range.rangeSize (a : Int) b 1 = (((b - a).toNat : Nat) : Int) := by
  unfold Builtin.Range.rangeSize
  rw [if_pos (by decide)]
  split <;> omega
theorem small_upI {a : Nat} {b : Int} (hb : b < 2 ^ 30) (hb' : -2 ^ 30 < b) (ha : a < 2 ^ 30) : Builtin.Range.small (a : Int) b 1 = true := by
  have e := size_upI a b
  have e2 : (((b - a).toNat : Nat) : Int) ≤ 2 ^ 30 := by omega
  rw [← e] at e2
  have e3 : 0 ≤ Builtin.Range.rangeSize (a : Int) b 1 := by rw [e]; omega
  unfold Builtin.Range.small Builtin.Range.rangeFitsLong
  generalize Builtin.Range.rangeSize (a : Int) b 1 = z at e2 e3
  simp
  omega
/-- a for over a range by ones, to any end -/
theorem iter_upI {r : Addr} {a : Nat} {b : Int} {t u v : Tok} {xt : Str} {pt : Pos}
    (hh : A.handled = none) (F : Fr g L s.heap m) (N : News g L s.heap news) (hr : IsRange s.heap r (a : Int) b 1 t u v) (hb : b < 2 ^ 30) (hb' : -2 ^ 30 < b) (ha : a < 2 ^ 30)
    (J : Nat → (Str → Option Value) → List (Addr × Obj) → Prop) (h0 : J 0 m news)
    (turn : ∀ (i : Nat) u I oI h tk m₁ news₁, i < (b - a).toNat → J i m₁ news₁ → Fr g L h m₁ → News g L h ((I, oI) :: news₁) → (∀ p ∈ news₁, p.1 ≠ I) →
      wpAny (model prog w) A (assign (.Name xt pt) env (.int ((a + i : Nat) : Int) u)) (fun _ s₂ => wpAny (model prog w) A (execs body env) (Turn g L s I oI (J (i + 1)) Q) (fun _ _ => False) s₂) (fun _ _ => False) { s with heap := h, toks := tk })
    (done : ∀ h tk m₁ news₁, J (b - a).toNat m₁ news₁ → Fr g L h m₁ → News g L h news₁ → Q .next { s with heap := h, toks := tk }) :
    wpAny (model prog w) A (pyIter (.ref r)) (fun it s₂ => codeAny (model prog w) A (.forLoop (.Name xt pt) it body [] env) (fun r s' => match r with | .ok f => Q f s' | .error e => E' e s') s₂) E s := by
  refine iter_range hh F N hr (small_upI hb hb' ha) (size_upI a b) J h0 ?_ done
  intro i u I oI h tk m₁ news₁ hi hJ F₁ N₁ hn
  have e : (a : Int) + (i : Int) * 1 = ((a + i : Nat) : Int) := by omega
  rw [e]
  exact turn i u I oI h tk m₁ news₁ hi hJ F₁ N₁ hn
end
/-- p stands at place i of x -/
def Occ (x p : List Nat) (i : Nat) : Prop := i + p.length ≤ x.length ∧ (x.drop i).take p.length = p
/-- the first place at or behind first, or -1 -/
def IsFound (x p : List Nat) (first : Nat) (r : Int) : Prop :=
  (r = -1 ∧ ∀ i, first ≤ i → ¬ Occ x p i) ∨ ∃ i : Nat, r = i ∧ first ≤ i ∧ Occ x p i ∧ ∀ j, first ≤ j → j < i → ¬ Occ x p j
theorem IsFound.uniq {x p : List Nat} {first : Nat} {r r' : Int} (h : IsFound x p first r) (h' : IsFound x p first r') : r = r' := by
  rcases h with ⟨e, h⟩ | ⟨i, e, hi, ho, hn⟩ <;> rcases h' with ⟨e', h'⟩ | ⟨i', e', hi', ho', hn'⟩
  · rw [e, e']
  · exact absurd ho' (h _ hi')
  · exact absurd ho (h' _ hi)
  · rw [e, e']
    rcases Nat.lt_trichotomy i i' with h1 | h1 | h1
    · exact absurd ho (hn' _ hi h1)
    · rw [h1]
    · exact absurd ho' (hn _ hi' h1)
theorem occ_slice {x p : Str} {i : Nat} (h : i + p.length ≤ x.length) : Txt.slice x (some (i : Int)) (some ((i : Int) + (p.length : Int))) = p ↔ Occ x.cps.toList p.cps.toList i := by
  have e : ((i : Int) + (p.length : Int)) = ((i + p.length : Nat) : Int) := by omega
  rw [e, slice_plain x (by omega) h, show i + p.length - i = p.length by omega]
  unfold sub Occ
  rw [← str_len, ← str_len]
  constructor
  · intro q
    refine ⟨h, ?_⟩
    have := congrArg (fun z : Str => z.cps.toList) q
    simpa [ofL_toList] using this
  · rintro ⟨_, q⟩
    rw [q, ofL_cps]
theorem found_spec {prog : Program} {w : World} {dp un : Nat} {fr : Option (List Env)} {gd : Option (List Code)} {s : Shared} {Q E : Value → Shared → Prop} {g : Heap} (S : St w g) (hg : Keeps g s.heap) (hdp : dp + 1 < recursionLimit)
    {x p : Str} {f : Nat} {t1 t2 t3 : Tok} (hx : x.length < 2 ^ 22) (hp : p.length < 2 ^ 22) (hf : f < 2 ^ 23)
    (ret : ∀ h' tk' r u, Keeps s.heap h' → IsFound x.cps.toList p.cps.toList f r → Q (.int r u) { s with heap := h', toks := tk' }) :
    wpAny (model prog w) (Ar dp un fr gd) (call (.ref 220) [.str x t1, .str p t2, .int f t3]) Q E s := by
  ktr_unf
  case led => exact []
  case hled => exact fun q hq => nomatch hq
  intro g' h₁ mean mg mb F N KX T Kg Ks Kh Kl
  clear Kl
  have H : HasL s.heap [] := fun q hq => nomatch hq
  have hxs : x.length ≤ sizeLine := by rw [sizeLine_eq]; omega
  (try dsimp only at *)
  (try k_fold)
  k_steps
  refine Hold.into (wpAny_For ?_)
  k_steps
  refine Hold.into ?_
  rename IsRange _ _ _ _ _ _ _ _ => R
  rename Fr _ _ _ _ => F
  rename News _ _ _ _ => N
  refine iter_upI (a := f) rfl F N R (by omega) (by omega) (by omega)
    (fun i m news => m (Str.ofString "now") = some (.str x t1) ∧ m (Str.ofString "pattern") = some (.str p t2) ∧ news = [] ∧ ∀ j, f ≤ j → j < f + i → ¬ Occ x.cps.toList p.cps.toList j) ?_ ?_ ?_
  · exact ⟨rfl, rfl, rfl, fun j h1 h2 => absurd h2 (by omega)⟩
  · intro i u I oI h tk m₁ news₁ hi; refine an4 ?_; intro hm1 hm2 e91 hno; subst e91; intro F N hne
    k_steps
    · (try dsimp only)
      have he : (Txt.slice x (some ((f + i : Nat) : Int)) (some (((f + i : Nat) : Int) + (p.length : Int))) == p) = true := by assumption
      rename Fr _ _ _ _ => F
      rename News _ _ _ _ => N
      refine ret _ _ _ _ (keepsBack F H Kh (fun q hq => nomatch hq)) (.inr ⟨f + i, rfl, by omega, (occ_slice (by omega)).mp (by simpa using he), hno⟩)
    · have he : (Txt.slice x (some ((f + i : Nat) : Int)) (some (((f + i : Nat) : Int) + (p.length : Int))) == p) = false := by assumption
      rename Fr _ _ _ _ => F
      rename News _ _ _ _ => N
      refine ⟨_, _, _, _, rfl, F, N, hne, hm1, hm2, rfl, fun j h1 h2 => ?_⟩
      rcases Nat.lt_or_ge j (f + i) with h3 | h3
      · exact hno j h1 h3
      · rw [show j = f + i by omega]
        exact fun ho => by
          have := (occ_slice (x := x) (p := p) (i := f + i) (by omega)).mpr ho
          simp at he
          exact he this
  · intro h tk m₁ news₁; refine an4 ?_; intro hm1 hm2 e91 hno; subst e91; intro F N
    k_steps
    (try dsimp only)
    rename Fr _ _ _ _ => F
    rename News _ _ _ _ => N
    refine ret _ _ _ _ (keepsBack F H Kh (fun q hq => nomatch hq)) (.inl ⟨rfl, fun j h1 ho => ?_⟩)
    have h2 := ho.1
    rw [← str_len, ← str_len] at h2
    exact hno j h1 (by omega) ho

set_option maxHeartbeats 1500000 in
theorem sound_spec {prog : Program} {w : World} {dp un : Nat} {fr : Option (List Env)} {gd : Option (List Code)} {s : Shared} {Q E : Value → Shared → Prop} {g : Heap} (S : St w g) (hg : Keeps g s.heap) (hdp : dp + 5 < recursionLimit)
    {tl : Led} (H : HasL s.heap tl) (G : Fresh g tl) {t : Addr} {T₀ : TS} (X : TxS w tl t T₀) (Z : T₀.Fits) (V : Valid T₀.bufs T₀.ps)
    {wl : Led} (Hw : HasL s.heap wl) (Gw : Fresh g wl) {wd : Addr} {W₀ : WS} (Xw : WdL prog w wl wd W₀)
    (hnow : ofL (rd T₀.bufs (cutFrom 0 T₀.len 0 T₀.ps)) = W₀.now) (hlen : T₀.len = W₀.now.length) (h1 : ∀ q ∈ T₀.ps, 1 ≤ q.2.2)
    (hnj : ∀ i q q', T₀.ps[i]? = some q → T₀.ps[i + 1]? = some q' → ¬ (q.1 = q'.1 ∧ q.2.1 + q.2.2 = q'.2.1))
    (ret : ∀ h' tk', Keeps s.heap h' → Q (.bool true) { s with heap := h', toks := tk' }) :
    wpAny (model prog w) (Ar dp un fr gd) (call (.ref 227) [.ref t, .ref wd]) Q E s := by
  have X' := X
  have Xw' := Xw
  revert X; refine TxL.elim ?_; intro d b p pa fu k1 k2 k3 k4 bv pav fuv nb npa nfu fz X
  obtain ⟨rfl, lt1, lt2, lt3, lt4, ft, fd, fb, fpa, ffu, hb, hp, hpa, hfu⟩ := X
  revert Xw; refine WdL.elim ?_; intro wpa wfu wo wtn wpav wfuv wn1 wn2 Xw
  obtain ⟨rfl, wl1, wl2, whd, whpa, whfu⟩ := Xw
  have HH := Hw.append H
  have GG : Fresh g _ := fun q hq => (List.mem_append.mp hq).elim (Gw q) (G q)
  ktr_unf
  case led => exact (wd, wo) :: (wpa, W.listOf wpav.toArray wn1) :: (wfu, W.listOf wfuv.toArray wn2) :: (t, instObj 134 d) :: (d, tdict w k1 k2 k3 k4 b p pa fu) :: (b, W.listOf bv.toArray nb) :: (pa, W.listOf pav.toArray npa) :: (fu, W.listOf fuv.toArray nfu) :: fz
  case hled => exact fun q hq => ⟨HH q hq, GG q hq⟩
  intro g' h₁ mean mg mb F N KX T Kg Ks Kh Kl
  clear Kl
  (try dsimp only at *)
  (try k_fold)
  k_steps
  (try dsimp only [List.append_nil, List.nil_append])
  rename Fr _ _ _ _ => F
  rename News _ _ _ _ => N
  have N1 := newsTail (newsTail (newsTail N))
  refine whole_spec (dp := dp + 1) S (fun b o e => F.keep _ _ (Kg _ _ e)) (by omega) (newsHas N1) G X' Z V ?_
  intro u h2 tk2 K2
  rw [hnow]
  replace F := frKeeps F K2
  replace N := N.grown K2
  have hlen' : total T₀.ps = W₀.now.length := hlen
  have hnl2 : W₀.now.length < 2 ^ 22 := by
    have : total T₀.ps < 2 ^ 22 := Z.t
    omega
  have hnl : W₀.now.length ≤ sizeLine := by
    have : total T₀.ps < 2 ^ 22 := Z.t
    rw [sizeLine_eq]; omega
  k_steps
  · exact absurd (by assumption : (W₀.now != W₀.now) = true) (by simp)
  (try dsimp only [List.append_nil, List.nil_append])
  rename Fr _ _ _ _ => F
  rename News _ _ _ _ => N
  replace N1 := newsTail (newsTail (newsTail N))
  refine length_spec (dp := dp + 1) S (fun b o e => F.keep _ _ (Kg _ _ e)) (by omega) (newsHas N1) (freshOf N1 Kg) (d := d) (by kwd_rel) (k1 := k1) (k2 := k2) (k3 := k3) (k4 := k4) (b := b) (pa := pa) (fu := fu) (p := p) (by kwd_rel) (hp.mono fun q hq => by kwd_rel) ?_
  intro u h3 tk3 K3
  replace F := frKeeps F K3
  replace N := N.grown K3
  obtain ⟨vs, nl, hml, hvs⟩ := hp
  have hvl := hvs.length
  k_steps
  · have he : total T₀.ps ≠ W₀.now.length := by
      have : ((total T₀.ps : Nat) : Int) ≠ (W₀.now.length : Int) := by assumption
      omega
    exact absurd hlen' he
  refine Hold.into (wpAny_For ?_)
  k_steps
  refine Hold.into ?_
  rename Fr _ _ _ _ => F
  rename News _ _ _ _ => N
  refine iter_list rfl F N (newsHas N (p, _) (by kwd_rel)) rfl rfl
    (fun i m news => m (Str.ofString "told") = some (.ref t) ∧ m (Str.ofString "world") = some (.ref wd) ∧
      news = (wd, wo) :: (wpa, W.listOf wpav.toArray wn1) :: (wfu, W.listOf wfuv.toArray wn2) :: (t, instObj 134 d) :: (d, tdict w k1 k2 k3 k4 b p pa fu) :: (b, W.listOf bv.toArray nb) :: (pa, W.listOf pav.toArray npa) :: (fu, W.listOf fuv.toArray nfu) :: fz) ?_ ?_ ?_ ?_
  · exact ⟨rfl, rfl, rfl⟩
  · rintro i h m₁ news₁ ⟨_, _, rfl⟩ _ N
    exact newsHas N (p, _) (by kwd_rel)
  · rintro i v I oI h tk m₁ news₁ hv ⟨hm1, hm2, rfl⟩ F N hne
    obtain ⟨p1, hp1, hvp⟩ := hvs.get hv
    have hp1m := List.mem_of_getElem? hp1
    obtain ⟨ta, tb, tf, tc, rfl, hta⟩ := hvp.isTup (h := h) (fun p hp => newsHas N p (by kwd_rel))
    refine unpackN_ F N hta rfl rfl rfl ?_
    clear hta F N
    intro h' F N
    obtain ⟨bx, hbx, hbl2⟩ := V p1 hp1m
    obtain ⟨bval, hbv, bt, rfl⟩ := hb.get' hbx
    have hbl3 : bx.length < 2 ^ 22 := Z.bl bx (List.mem_of_getElem? hbx)
    have hp1b : p1.1 < T₀.bufs.length := (List.getElem?_eq_some_iff.mp hbx).1
    have hZb := Z.b
    have hk : bv[((p1.1 : Int)).toNat]? = some (.str bx bt) := by simpa using hbv
    have hc1 := h1 p1 hp1m
    dsimp only [assignEach, List.map]
    k_steps
    rename Fr _ _ _ _ => F
    rename News _ _ _ _ => N
    exact ⟨_, _, _, _, rfl, F, N, hne, hm1, hm2, rfl⟩
  · rintro h tk m₁ news₁ ⟨hm1, hm2, rfl⟩ F N
    have hZp := Z.p
    replace N := newsSub N (news' := (p, W.listOf vs.toArray nl) :: (wd, wo) :: (wpa, W.listOf wpav.toArray wn1) :: (wfu, W.listOf wfuv.toArray wn2) :: (t, instObj 134 d) :: (d, tdict w k1 k2 k3 k4 b p pa fu) :: (b, W.listOf bv.toArray nb) :: (pa, W.listOf pav.toArray npa) :: (fu, W.listOf fuv.toArray nfu) :: fz) (List.forall_mem_cons.mpr ⟨by kwd_rel, fun q hq => hq⟩)
    have hsz : vs.toArray.size = T₀.ps.length := by simpa using hvl
    have hfit : ((vs.toArray.size : Nat) : Int) < 2 ^ 63 := by omega
    k_steps
    refine Hold.into (wpAny_For ?_)
    k_steps
    refine Hold.into ?_
    rename IsRange _ _ _ _ _ _ _ _ => R
    rename Fr _ _ _ _ => F
    rename News _ _ _ _ => N
    refine iter_up (a := 1) (b := vs.toArray.size) rfl F N R (by omega) (by decide)
      (fun i m news => m (Str.ofString "told") = some (.ref t) ∧ m (Str.ofString "world") = some (.ref wd) ∧
        news = (p, W.listOf vs.toArray nl) :: (wd, wo) :: (wpa, W.listOf wpav.toArray wn1) :: (wfu, W.listOf wfuv.toArray wn2) :: (t, instObj 134 d) :: (d, tdict w k1 k2 k3 k4 b p pa fu) :: (b, W.listOf bv.toArray nb) :: (pa, W.listOf pav.toArray npa) :: (fu, W.listOf fuv.toArray nfu) :: fz) ?_ ?_ ?_
    · exact ⟨hm1, hm2, rfl⟩
    · rintro i u I oI h tk m₁ news₁ hi ⟨hm1, hm2, rfl⟩ F N hne
      have hi1 : i + 1 < T₀.ps.length := by omega
      clear hi
      obtain ⟨q, hq⟩ : ∃ q, T₀.ps[i]? = some q := ⟨_, List.getElem?_eq_getElem (by omega)⟩
      obtain ⟨q', hq'⟩ : ∃ q, T₀.ps[i + 1]? = some q := ⟨_, List.getElem?_eq_getElem (by omega)⟩
      have hno := hnj i q q' hq hq'
      obtain ⟨v1, hv1, ta, na, ta1, ta2, ta3, rfl, hma⟩ := hvs.get' hq
      obtain ⟨v2, hv2, ua, ma, ua1, ua2, ua3, rfl, hmb⟩ := hvs.get' hq'
      have hk0 : vs[(((1 + i : Nat) : Int) - 1).toNat]? = some (.ref ta) := by
        rw [show (((1 + i : Nat) : Int) - 1).toNat = i by omega]; exact hv1
      have hk1 : vs[(((1 + i : Nat) : Int)).toNat]? = some (.ref ua) := by
        rw [show (((1 + i : Nat) : Int)).toNat = i + 1 by omega]; exact hv2
      have N0 := N
      replace N := newsSub N (news' := (ta, ({ cls := .type "tuple", data := .seq #[.int q.1 ta1, .int q.2.1 ta2, .int q.2.2 ta3] na } : Obj)) :: (ua, ({ cls := .type "tuple", data := .seq #[.int q'.1 ua1, .int q'.2.1 ua2, .int q'.2.2 ua3] ma } : Obj)) :: (I, oI) :: (p, W.listOf vs.toArray nl) :: (wd, wo) :: (wpa, W.listOf wpav.toArray wn1) :: (wfu, W.listOf wfuv.toArray wn2) :: (t, instObj 134 d) :: (d, tdict w k1 k2 k3 k4 b p pa fu) :: (b, W.listOf bv.toArray nb) :: (pa, W.listOf pav.toArray npa) :: (fu, W.listOf fuv.toArray nfu) :: fz) (List.forall_mem_cons.mpr ⟨by (have := hma); kwd_rel, List.forall_mem_cons.mpr ⟨by (have := hmb); kwd_rel, fun q hq => hq⟩⟩)
      clear N0
      by_cases hqq : q.1 = q'.1
      · have hne1 : ((q.1 : Nat) : Int) = ((q'.1 : Nat) : Int) := by omega
        have hne2 : ((q.2.1 : Nat) : Int) + ((q.2.2 : Nat) : Int) ≠ ((q'.2.1 : Nat) : Int) := by omega
        clear hno hnj
        repeat' (first | exact absurd (by assumption : ((q.2.1 : Nat) : Int) + ((q.2.2 : Nat) : Int) = ((q'.2.1 : Nat) : Int)) hne2 | (walk1 <;> (try dsimp only)))
        all_goals (rename Fr _ _ _ _ => F; rename News _ _ _ _ => N; exact ⟨_, _, _, _, rfl, F, newsTail (newsTail N), hne, hm1, hm2, rfl⟩)
      · have hne1 : ((q.1 : Nat) : Int) ≠ ((q'.1 : Nat) : Int) := by omega
        clear hno hnj
        repeat' (first | exact absurd (by assumption : ((q.1 : Nat) : Int) = ((q'.1 : Nat) : Int)) hne1 | (walk1 <;> (try dsimp only)))
        all_goals (rename Fr _ _ _ _ => F; rename News _ _ _ _ => N; exact ⟨_, _, _, _, rfl, F, newsTail (newsTail N), hne, hm1, hm2, rfl⟩)
    · rintro h tk m₁ news₁ ⟨hm1, hm2, rfl⟩ F N
      k_steps
      (try dsimp only)
      rename Fr _ _ _ _ => F
      rename News _ _ _ _ => N
      exact ret _ _ (keepsBack F HH Kh (fun q hq => newsHas N q (.tail _ hq)))

/-- pieces have a length each, and no two neighbours follow each other -/
def Good (ps : List Pc) : Prop := (∀ q ∈ ps, 1 ≤ q.2.2) ∧ ∀ i q q', ps[i]? = some q → ps[i + 1]? = some q' → ¬ (q.1 = q'.1 ∧ q.2.1 + q.2.2 = q'.2.1)
/-- the pieces say x -/
def PV (bufs : List Str) (ps : List Pc) (x : Str) : Prop := Valid bufs ps ∧ Good ps ∧ ofL (rd bufs ps) = x
/-- the text and the law's plain text say the same -/
structure Rel (n : Nat) (T : TS) (V : WS) : Prop where
  now : PV T.bufs T.ps V.now
  past : All2 (PV T.bufs) T.past V.past
  fut : All2 (PV T.bufs) T.fut V.fut
  zb : T.bufs.length ≤ n
  zp : T.past.length + T.fut.length ≤ n
  zn : V.now.length ≤ n
  zpa : ∀ x ∈ V.past, x.length ≤ n
  zfu : ∀ x ∈ V.fut, x.length ≤ n
  zbl : ∀ x ∈ T.bufs, x.length ≤ n
  okn : OkS V.now
  okp : ∀ x ∈ V.past, OkS x
  okf : ∀ x ∈ V.fut, OkS x
def WS.undo (V : WS) : WS := match V.past.getLast? with
  | none => V
  | some p => ⟨p, V.past.dropLast, V.fut ++ [V.now]⟩
def WS.redo (V : WS) : WS := match V.fut.getLast? with
  | none => V
  | some p => ⟨p, V.past ++ [V.now], V.fut.dropLast⟩
theorem Good.len {ps : List Pc} (h : ∀ q ∈ ps, 1 ≤ q.2.2) : ps.length ≤ total ps := by
  induction ps with
  | nil => simp
  | cons p r ih =>
    rw [total_cons, List.length_cons]
    have := ih fun q hq => h q (.tail _ hq)
    have := h p (.head _)
    omega
theorem PV.len {bufs : List Str} {ps : List Pc} {x : Str} (h : PV bufs ps x) : total ps = x.length := by
  rw [← h.2.2, ofL_len, rd_len h.1]
theorem Rel.len {n : Nat} {T : TS} {V : WS} (R : Rel n T V) : T.len = V.now.length := R.now.len
theorem Rel.valid {n : Nat} {T : TS} {V : WS} (R : Rel n T V) : Valid T.bufs T.ps := R.now.1
theorem Rel.fits {n : Nat} {T : TS} {V : WS} (R : Rel n T V) (h : n < 2 ^ 22) : T.Fits where
  b := Nat.lt_of_le_of_lt R.zb h
  p := by have := Good.len R.now.2.1.1; have := R.now.len; have := R.zn; omega
  pa := by have := R.zp; omega
  fu := by have := R.zp; omega
  t := by rw [R.len]; have := R.zn; omega
  bl := fun x hx => Nat.lt_of_le_of_lt (R.zbl x hx) h
theorem Rel.more {n n' : Nat} {T : TS} {V : WS} (R : Rel n T V) (h : n ≤ n') : Rel n' T V where
  now := R.now
  past := R.past
  fut := R.fut
  zb := Nat.le_trans R.zb h
  zp := Nat.le_trans R.zp h
  zn := Nat.le_trans R.zn h
  zpa := fun x hx => Nat.le_trans (R.zpa x hx) h
  zfu := fun x hx => Nat.le_trans (R.zfu x hx) h
  zbl := fun x hx => Nat.le_trans (R.zbl x hx) h
  okn := R.okn
  okp := R.okp
  okf := R.okf

theorem rd_append (bufs : List Str) (ps qs : List Pc) : rd bufs (ps ++ qs) = rd bufs ps ++ rd bufs qs := by simp [rd]
theorem rd_cons (bufs : List Str) (p : Pc) (qs : List Pc) : rd bufs (p :: qs) = rdOne bufs p ++ rd bufs qs := by simp [rd]
theorem cut_len0 {u v : Int} {c : Nat} (huv : u ≤ v) (h : ¬ max u 0 < min v c) : min (v.toNat - u.toNat) (c - u.toNat) = 0 := by
  rcases Int.le_total v 0 with q | q
  · rw [Int.toNat_of_nonpos q, Nat.zero_sub, Nat.zero_min]
  · have : c ≤ u.toNat ∨ v.toNat ≤ u.toNat := by
      obtain ⟨v', rfl⟩ := Int.eq_ofNat_of_zero_le q
      omega
    rcases this with q | q
    · rw [Nat.sub_eq_zero_of_le q, Nat.min_zero]
    · rw [Nat.sub_eq_zero_of_le q, Nat.zero_min]
theorem min_cast (a b : Nat) : min (a : Int) (b : Int) = ((min a b : Nat) : Int) := by
  rcases Nat.le_total a b with h | h
  · rw [Nat.min_eq_left h, Int.min_eq_left (Int.ofNat_le.mpr h)]
  · rw [Nat.min_eq_right h, Int.min_eq_right (Int.ofNat_le.mpr h)]
theorem cut_len1 {u v : Int} {c : Nat} (h : max u 0 < min v c) : (min v c - max u 0).toNat = min (v.toNat - u.toNat) (c - u.toNat) := by
  have h1 : 0 ≤ v := Int.le_trans (Int.le_max_right u 0) (Int.le_trans (Int.le_of_lt h) (Int.min_le_left v c))
  obtain ⟨v', rfl⟩ := Int.eq_ofNat_of_zero_le h1
  rcases Int.le_total u 0 with q | q
  · rw [Int.max_eq_right q, Int.toNat_of_nonpos q, Int.sub_zero, Nat.sub_zero, Nat.sub_zero, min_cast, Int.toNat_natCast, Int.toNat_natCast]
  · obtain ⟨u', rfl⟩ := Int.eq_ofNat_of_zero_le q
    rw [Int.max_eq_left q, min_cast, Int.toNat_sub, Nat.sub_min_sub_right, Int.toNat_natCast, Int.toNat_natCast]
theorem toNat_back (b place : Int) (c : Nat) : (b - (place + c)).toNat = (b - place).toNat - c := by
  rw [← Int.sub_sub]
  rcases Int.le_total (b - place) 0 with q | q
  · rw [Int.toNat_of_nonpos q, Nat.zero_sub]
    exact Int.toNat_of_nonpos (Int.sub_nonpos_of_le (Int.le_trans q (Int.natCast_nonneg c)))
  · obtain ⟨n, hn⟩ := Int.eq_ofNat_of_zero_le q
    rw [hn, Int.toNat_sub, Int.toNat_natCast]
theorem cut_lens (u v c : Nat) : (v - c) - (u - c) = (v - u) - (c - u) := by
  rcases Nat.le_total c u with q | q
  · rw [Nat.sub_eq_zero_of_le q, Nat.sub_zero, Nat.sub_sub, Nat.add_sub_cancel' q]
  · rw [Nat.sub_eq_zero_of_le q, Nat.sub_zero, Nat.sub_sub, Nat.add_sub_cancel' q]
theorem rd_cutOne {bufs : List Str} {p : Pc} {b e place : Int} (v : ValidP bufs p) (hbe : b ≤ e) : rd bufs (cutOne b e place p) = ((rdOne bufs p).drop (b - place).toNat).take ((e - place).toNat - (b - place).toNat) := by
  obtain ⟨x, hx, hl⟩ := v
  obtain ⟨pb, pf, pc⟩ := p
  dsimp only at hx hl
  have h0 : rdOne bufs (pb, pf, pc) = (x.cps.toList.drop pf).take pc := by unfold rdOne; rw [hx]
  rw [h0, List.drop_take, List.take_take, List.drop_drop]
  unfold cutOne
  dsimp only
  split
  · rename_i h
    rw [rd, List.flatMap_cons, List.flatMap_nil, List.append_nil]
    unfold rdOne
    dsimp only
    rw [hx]
    dsimp only
    rw [show (max (b - place) 0).toNat = (b - place).toNat by omega]
    congr 1
    exact cut_len1 h
  · rename_i h
    rw [cut_len0 (by omega) h, List.take_zero]
    rfl
theorem rd_cutFrom {bufs : List Str} {b e : Int} (hbe : b ≤ e) : ∀ {place : Int} {ps : List Pc}, Valid bufs ps → rd bufs (cutFrom b e place ps) = ((rd bufs ps).drop (b - place).toNat).take ((e - place).toNat - (b - place).toNat)
  | place, [], _ => by simp [cutFrom, rd]
  | place, p :: r, v => by
    have vp := v p (.head _)
    have h1 := rdOne_len vp
    rw [cutFrom, rd_append, rd_cutOne vp hbe, rd_cutFrom hbe (ps := r) fun q hq => v q (.tail _ hq), rd_cons, List.drop_append, List.take_append, h1, List.length_drop, h1]
    congr 2
    · rw [toNat_back, toNat_back]
      exact cut_lens _ _ _
    · congr 1
      exact toNat_back _ _ _
theorem Rel.cps {n : Nat} {T : TS} {V : WS} (R : Rel n T V) : V.now.cps.toList = rd T.bufs T.ps := by rw [← R.now.2.2, ofL_toList]
theorem Rel.read {n : Nat} {T : TS} {V : WS} (R : Rel n T V) {x y : Nat} (hxy : x ≤ y) (_hy : y ≤ V.now.length) : ofL (rd T.bufs (cutFrom x y 0 T.ps)) = sub V.now x (y - x) := by
  rw [rd_cutFrom (by omega) R.valid]
  unfold sub
  rw [R.cps]
  congr 2
/-- q and q' follow each other -/
def Jn (q q' : Pc) : Prop := q.1 = q'.1 ∧ q.2.1 + q.2.2 = q'.2.1
def NJ (ps : List Pc) : Prop := ∀ i q q', ps[i]? = some q → ps[i + 1]? = some q' → ¬ Jn q q'
theorem nj_snoc {l : List Pc} {p : Pc} (h : NJ l) (hl : ∀ q, l.getLast? = some q → ¬ Jn q p) : NJ (l ++ [p]) := fun i q q' h1 h2 => by
  rcases Nat.lt_trichotomy (i + 1) l.length with hi | hi | hi
  · rw [List.getElem?_append_left (by omega)] at h1 h2
    exact h i q q' h1 h2
  · rw [List.getElem?_append_left (by omega)] at h1
    rw [List.getElem?_append_right (by omega), hi, Nat.sub_self] at h2
    obtain rfl : p = q' := by simpa using h2
    refine hl q ?_
    rw [List.getLast?_eq_getElem?, ← hi, Nat.add_sub_cancel]
    exact h1
  · rw [List.getElem?_append_right (by omega)] at h2
    have : i + 1 - l.length ≠ 0 := by omega
    obtain ⟨j, hj⟩ := Nat.exists_eq_succ_of_ne_zero this
    rw [hj] at h2
    simp at h2
theorem nj_init {l : List Pc} {p : Pc} (h : NJ (l ++ [p])) : NJ l := fun i q q' h1 h2 => by
  have h3 := (List.getElem?_eq_some_iff.mp h2).1
  exact h i q q' (by rw [List.getElem?_append_left (by omega)]; exact h1) (by rw [List.getElem?_append_left (by omega)]; exact h2)
theorem nj_last {l : List Pc} {p q : Pc} (h : NJ (l ++ [p])) (hq : l.getLast? = some q) : ¬ Jn q p := by
  rw [List.getLast?_eq_getElem?] at hq
  have h3 := (List.getElem?_eq_some_iff.mp hq).1
  refine h (l.length - 1) q p ?_ ?_
  · rw [List.getElem?_append_left (by omega)]; exact hq
  · rw [show l.length - 1 + 1 = l.length by omega]; simp
/-- what is kept while pieces are joined -/
structure JI (bufs : List Str) (acc ps : List Pc) : Prop where
  v : Valid bufs acc
  c : ∀ q ∈ acc, 1 ≤ q.2.2
  n : NJ acc
  r : rd bufs acc = rd bufs ps
theorem JI.step {bufs : List Str} {acc ps : List Pc} {p : Pc} (h : JI bufs acc ps) (vp : ValidP bufs p) (cp : 1 ≤ p.2.2) : JI bufs (joinStep acc p) (ps ++ [p]) := by
  have r1 : rd bufs (ps ++ [p]) = rd bufs acc ++ rdOne bufs p := by rw [rd_append, h.r, rd_cons]; simp [rd]
  rcases List.eq_nil_or_concat acc with rfl | ⟨a, q, rfl⟩
  · refine ⟨fun q hq => ?_, fun q hq => ?_, fun i q q' _ h2 => ?_, ?_⟩
    · rw [joinStep_nil] at hq; rw [List.mem_singleton.mp hq]; exact vp
    · rw [joinStep_nil] at hq; rw [List.mem_singleton.mp hq]; exact cp
    · rw [joinStep_nil] at h2; simp at h2
    · rw [r1, joinStep_nil, rd_cons]; simp [rd]
  · rw [List.concat_eq_append] at *
    rw [joinStep_one]
    have vq := h.v q (List.mem_append_right _ (.head _))
    split
    · rename_i hj
      obtain ⟨pb, pf, pc⟩ := p
      obtain ⟨qb, qf, qc⟩ := q
      obtain ⟨j1, j2⟩ := hj
      dsimp only at j1 j2 vp cp
      subst j1 j2
      obtain ⟨x, hx, hl⟩ := vp
      dsimp only at hx hl
      refine ⟨fun z hz => ?_, fun z hz => ?_, ?_, ?_⟩
      · rcases List.mem_append.mp hz with hz | hz
        · exact h.v z (List.mem_append_left _ hz)
        · rw [List.mem_singleton.mp hz]; exact ⟨x, hx, by dsimp only; omega⟩
      · rcases List.mem_append.mp hz with hz | hz
        · exact h.c z (List.mem_append_left _ hz)
        · rw [List.mem_singleton.mp hz]; dsimp only; omega
      · exact nj_snoc (nj_init h.n) fun z hz hj => nj_last h.n hz hj
      · rw [r1, rd_append, rd_append, List.append_assoc]
        congr 1
        rw [rd_cons, rd_cons]
        unfold rdOne
        dsimp only
        rw [hx]
        dsimp only
        simp only [rd, List.flatMap_nil, List.append_nil]
        rw [List.take_add, List.drop_drop]
    · rename_i hj
      refine ⟨fun z hz => ?_, fun z hz => ?_, ?_, ?_⟩
      · rcases List.mem_append.mp hz with hz | hz
        · exact h.v z hz
        · rw [List.mem_singleton.mp hz]; exact vp
      · rcases List.mem_append.mp hz with hz | hz
        · exact h.c z hz
        · rw [List.mem_singleton.mp hz]; exact cp
      · refine nj_snoc h.n fun z hz => ?_
        rw [List.getLast?_concat] at hz
        cases hz
        exact hj
      · rw [r1, rd_append, rd_cons (qs := [])]; simp [rd]
theorem joinP_ok {bufs : List Str} {ps : List Pc} (v : Valid bufs ps) (c : ∀ q ∈ ps, 1 ≤ q.2.2) : JI bufs (joinP ps) ps := by
  have go : ∀ (r acc done : List Pc), Valid bufs r → (∀ q ∈ r, 1 ≤ q.2.2) → JI bufs acc done → JI bufs (r.foldl joinStep acc) (done ++ r) := by
    intro r
    induction r with
    | nil => intro acc done _ _ h; simpa using h
    | cons p r ih =>
      intro acc done v c h
      have := ih _ _ (fun q hq => v q (.tail _ hq)) (fun q hq => c q (.tail _ hq)) (h.step (v p (.head _)) (c p (.head _)))
      simpa using this
  have := go ps [] [] v c ⟨(fun _ h => nomatch h), (fun _ h => nomatch h), (fun i q q' h1 _ => by simp at h1), rfl⟩
  simpa [joinP] using this
theorem joinP_PV {bufs : List Str} {ps : List Pc} {x : List Nat} (v : Valid bufs ps) (c : ∀ q ∈ ps, 1 ≤ q.2.2) (e : rd bufs ps = x) : PV bufs (joinP ps) (ofL x) :=
  have h := joinP_ok v c
  ⟨h.v, ⟨h.c, fun i q q' h1 h2 => h.n i q q' h1 h2⟩, by rw [h.r, e]⟩
theorem Valid.grow {bufs : List Str} {ps : List Pc} (a : Str) (v : Valid bufs ps) : Valid (bufs ++ [a]) ps := fun q hq =>
  let ⟨x, hx, hl⟩ := v q hq
  ⟨x, by rw [List.getElem?_append_left (List.getElem?_eq_some_iff.mp hx).1]; exact hx, hl⟩
theorem rd_grow {bufs : List Str} {a : Str} : ∀ {ps : List Pc}, Valid bufs ps → rd (bufs ++ [a]) ps = rd bufs ps
  | [], _ => rfl
  | p :: r, v => by
    obtain ⟨x, hx, _⟩ := v p (.head _)
    rw [rd_cons, rd_cons, rd_grow (ps := r) fun q hq => v q (.tail _ hq)]
    congr 1
    unfold rdOne
    rw [List.getElem?_append_left (List.getElem?_eq_some_iff.mp hx).1]
theorem PV.grow {bufs : List Str} {ps : List Pc} {x : Str} (a : Str) (h : PV bufs ps x) : PV (bufs ++ [a]) ps x := ⟨h.1.grow a, h.2.1, by rw [rd_grow h.1]; exact h.2.2⟩
theorem cut_c (b e : Int) : ∀ (place : Int) (ps : List Pc), ∀ q ∈ cutFrom b e place ps, 1 ≤ q.2.2
  | _, [] => fun _ h => nomatch h
  | place, p :: r => fun q hq => by
    rw [cutFrom] at hq
    rcases List.mem_append.mp hq with hq | hq
    · unfold cutOne at hq
      split at hq
      · rw [List.mem_singleton.mp hq]; dsimp only; omega
      · cases hq
    · exact cut_c b e _ r q hq
theorem okS_ofL {l : List Nat} (h : ∀ c ∈ l, c < 0x110000) : OkS (ofL l) := fun c hc => h c (by rw [ofL_toList] at hc; exact hc)
theorem splice_ok {x a : Str} {f l : Nat} (hx : OkS x) (ha : OkS a) : OkS (splice x f l a) := okS_ofL fun c hc => by
  rcases List.mem_append.mp hc with hc | hc
  · rcases List.mem_append.mp hc with hc | hc
    · exact hx c (List.mem_of_mem_take hc)
    · exact ha c hc
  · exact hx c (List.mem_of_mem_drop hc)
theorem splice_len {x a : Str} {f l : Nat} (hf : f ≤ l) (hl : l ≤ x.length) : (splice x f l a).length = x.length + a.length - (l - f) := by
  unfold splice
  rw [str_len] at hl
  rw [ofL_len, List.length_append, List.length_append, List.length_take, List.length_drop, ← str_len, ← str_len]
  rw [← str_len] at hl
  rw [Nat.min_eq_left (Nat.le_trans hf hl)]
  obtain ⟨d, rfl⟩ := Nat.exists_eq_add_of_le hf
  obtain ⟨e, he⟩ := Nat.exists_eq_add_of_le hl
  rw [he, Nat.add_sub_cancel_left, Nat.add_sub_cancel_left, show f + d + e + a.length = f + a.length + e + d by omega, Nat.add_sub_cancel]
/-- an edit: the pieces are changed, what was undone is forgotten -/
theorem Rel.change {n : Nat} {T : TS} {V : WS} (R : Rel n T V) {bufs : List Str} {nps : List Pc} {x : List Nat} (hb : bufs = T.bufs ∨ ∃ a, bufs = T.bufs ++ [a] ∧ a.length ≤ 4) (v : Valid bufs nps) (c : ∀ q ∈ nps, 1 ≤ q.2.2) (e : rd bufs nps = x) (hx : x.length ≤ n + 4) (hok : OkS (ofL x)) :
    Rel (n + 4) ({ T with bufs := bufs }.change nps) (V.edited (ofL x)) where
  now := joinP_PV v c e
  past := by
    have hp : ∀ ps x, PV T.bufs ps x → PV bufs ps x := by
      rcases hb with rfl | ⟨a, rfl, _⟩
      · exact fun _ _ h => h
      · exact fun _ _ h => h.grow a
    exact (R.past.mono hp).append (.one (hp _ _ R.now))
  fut := .nil
  zb := by
    have := R.zb
    rcases hb with rfl | ⟨a, rfl, _⟩
    · exact Nat.le_add_right_of_le this
    · show (T.bufs ++ [a]).length ≤ _; rw [List.length_append, List.length_singleton]; omega
  zp := by
    have := R.zp
    show (T.past ++ [T.ps]).length + ([] : List (List Pc)).length ≤ _
    rw [List.length_append, List.length_singleton, List.length_nil]; omega
  zn := by show (ofL x).length ≤ _; rw [ofL_len]; exact hx
  zpa := fun y hy => by
    rcases List.mem_append.mp hy with hy | hy
    · exact Nat.le_add_right_of_le (R.zpa y hy)
    · rw [List.mem_singleton.mp hy]; exact Nat.le_add_right_of_le R.zn
  zfu := fun _ h => nomatch h
  zbl := fun y hy => by
    rcases hb with rfl | ⟨a, rfl, ha⟩
    · exact Nat.le_add_right_of_le (R.zbl y hy)
    · rcases List.mem_append.mp hy with hy | hy
      · exact Nat.le_add_right_of_le (R.zbl y hy)
      · rw [List.mem_singleton.mp hy]; omega
  okn := hok
  okp := fun y hy => by
    rcases List.mem_append.mp hy with hy | hy
    · exact R.okp y hy
    · rw [List.mem_singleton.mp hy]; exact R.okn
  okf := fun _ h => nomatch h
theorem Rel.cutL {n : Nat} {T : TS} {V : WS} (R : Rel n T V) (x : Nat) : rd T.bufs (cutFrom 0 x 0 T.ps) = V.now.cps.toList.take x := by
  rw [rd_cutFrom (by omega) R.valid, R.cps]
  simp
theorem Rel.cutR {n : Nat} {T : TS} {V : WS} (R : Rel n T V) {y : Nat} (hy : y ≤ V.now.length) : rd T.bufs (cutFrom y T.len 0 T.ps) = V.now.cps.toList.drop y := by
  rw [rd_cutFrom (by rw [R.len]; omega) R.valid, R.cps]
  have hl : (rd T.bufs T.ps).length = V.now.length := by rw [← R.cps, ← str_len]
  rw [List.take_of_length_le]
  · congr 1
  · rw [List.length_drop, hl, R.len, Int.sub_zero, Int.sub_zero, Int.toNat_natCast, Int.toNat_natCast]; exact Nat.le_refl _
theorem Rel.put {n : Nat} {T : TS} {V : WS} (R : Rel n T V) {x y : Nat} {a : Str} (hxy : x ≤ y) (hy : y ≤ V.now.length) (ha : a.length ≤ 4) (hok : OkS a) (hne : a ≠ Str.ofString "") : Rel (n + 4) (T.put x y a) (V.edited (splice V.now x y a)) := by
  have hpos : 1 ≤ a.length := by
    rcases Nat.eq_zero_or_pos a.length with h | h
    · exact absurd (by rw [← ofL_cps a, List.eq_nil_of_length_eq_zero (l := a.cps.toList) (by rw [← str_len]; exact h)]; rfl) hne
    · exact h
  have v1 := cutFrom_valid (b := 0) (e := x) (place := 0) R.valid
  have v2 := cutFrom_valid (b := y) (e := T.len) (place := 0) R.valid
  have hbb : (T.bufs ++ [a])[T.bufs.length]? = some a := by simp
  unfold TS.put
  refine R.change (.inr ⟨a, rfl, ha⟩) (fun q hq => ?_) (fun q hq => ?_) ?_ ?_ (splice_ok R.okn hok)
  · rcases List.mem_append.mp hq with hq | hq
    · rcases List.mem_append.mp hq with hq | hq
      · exact v1.grow a q hq
      · rw [List.mem_singleton.mp hq]; exact ⟨a, hbb, by dsimp only; omega⟩
    · exact v2.grow a q hq
  · rcases List.mem_append.mp hq with hq | hq
    · rcases List.mem_append.mp hq with hq | hq
      · exact cut_c _ _ _ _ q hq
      · rw [List.mem_singleton.mp hq]; exact hpos
    · exact cut_c _ _ _ _ q hq
  · rw [rd_append, rd_append, rd_grow v1, rd_grow v2, R.cutL, R.cutR hy, rd_cons]
    unfold rdOne
    dsimp only
    rw [hbb]
    dsimp only
    rw [List.drop_zero, str_len, List.take_length]
    simp [rd]
  · have := splice_len (x := V.now) (a := a) hxy hy
    have hz := R.zn
    unfold splice at this
    rw [ofL_len] at this
    omega
theorem Rel.cutOut {n : Nat} {T : TS} {V : WS} (R : Rel n T V) {x y : Nat} (hxy : x < y) (hy : y ≤ V.now.length) : Rel (n + 4) (T.change (cutFrom 0 x 0 T.ps ++ cutFrom y T.len 0 T.ps)) (V.edited (splice V.now x y (Str.ofString ""))) := by
  have v1 := cutFrom_valid (b := 0) (e := x) (place := 0) R.valid
  have v2 := cutFrom_valid (b := y) (e := T.len) (place := 0) R.valid
  have e0 : (Str.ofString "").cps.toList = [] := rfl
  refine R.change (bufs := T.bufs) (.inl rfl) (fun q hq => ?_) (fun q hq => ?_) ?_ ?_ (splice_ok R.okn fun c hc => by rw [e0] at hc; cases hc)
  · rcases List.mem_append.mp hq with hq | hq
    · exact v1 q hq
    · exact v2 q hq
  · rcases List.mem_append.mp hq with hq | hq
    · exact cut_c _ _ _ _ q hq
    · exact cut_c _ _ _ _ q hq
  · rw [rd_append, R.cutL, R.cutR hy, e0, List.append_nil]
  · have := splice_len (x := V.now) (a := Str.ofString "") (Nat.le_of_lt hxy) hy
    have hz := R.zn
    have h0 : (Str.ofString "").length = 0 := rfl
    unfold splice at this
    rw [ofL_len] at this
    omega
theorem Rel.insert {n : Nat} {T : TS} {V : WS} (R : Rel n T V) {x : Nat} {a : Str} (hx : x ≤ V.now.length) (ha : a.length ≤ 4) (hok : OkS a) : Rel (n + 4) (T.insert x a) (V.replaced x x a) := by
  unfold TS.insert WS.replaced
  by_cases h : a = Str.ofString ""
  · rw [if_pos h, if_neg (by rintro (h1 | h1); exact absurd h1 (Nat.lt_irrefl _); exact h1 h)]
    exact R.more (by omega)
  · rw [if_neg h, if_pos (.inr h)]
    exact R.put (Nat.le_refl _) hx ha hok h
theorem Rel.delete {n : Nat} {T : TS} {V : WS} (R : Rel n T V) {x y : Nat} (hxy : x ≤ y) (hy : y ≤ V.now.length) : Rel (n + 4) (T.delete x y) (V.replaced x y (Str.ofString "")) := by
  unfold TS.delete WS.replaced
  by_cases h : x < y
  · rw [if_pos (by omega), if_pos (.inl h)]
    exact R.cutOut h hy
  · rw [if_neg (by omega), if_neg (by rintro (h1 | h1); exact h h1; exact h1 rfl)]
    exact R.more (by omega)
theorem Rel.replace {n : Nat} {T : TS} {V : WS} (R : Rel n T V) {x y : Nat} {a : Str} (hxy : x ≤ y) (hy : y ≤ V.now.length) (ha : a.length ≤ 4) (hok : OkS a) : Rel (n + 4) (T.replace x y a) (V.replaced x y a) := by
  unfold TS.replace
  by_cases h : x = y
  · subst h
    rw [if_pos rfl]
    exact R.insert hy ha hok
  · rw [if_neg (by omega)]
    by_cases h2 : a = Str.ofString ""
    · subst h2
      rw [if_pos rfl]
      exact R.delete hxy hy
    · rw [if_neg h2]
      unfold WS.replaced
      rw [if_pos (.inr h2)]
      exact R.put hxy hy ha hok h2
theorem Rel.undo {n : Nat} {T : TS} {V : WS} (R : Rel n T V) : Rel n T.undo V.undo := by
  rcases List.eq_nil_or_concat T.past with h | ⟨l, p, h⟩
  · have hv : V.past = [] := by
      have := R.past.length
      rw [h] at this
      exact List.eq_nil_of_length_eq_zero this.symm
    unfold TS.undo WS.undo
    rw [h, hv]
    exact R
  · rw [List.concat_eq_append] at h
    have hp := R.past
    rw [h] at hp
    obtain ⟨bs, b, hv, h1, h2⟩ := hp.snocInv
    unfold TS.undo WS.undo
    rw [h, hv, List.getLast?_concat, List.getLast?_concat, List.dropLast_concat, List.dropLast_concat]
    have hz := R.zp
    rw [h] at hz
    have hm : b ∈ V.past := by rw [hv]; exact List.mem_append_right _ (.head _)
    exact { now := h2, past := h1, fut := R.fut.append (.one R.now), zb := R.zb, zp := by simp only [List.length_append, List.length_cons, List.length_nil] at hz ⊢; omega, zn := R.zpa b hm,
            zpa := fun x hx => R.zpa x (by rw [hv]; exact List.mem_append_left _ hx), zbl := R.zbl, okn := R.okp b hm, okp := fun x hx => R.okp x (by rw [hv]; exact List.mem_append_left _ hx),
            zfu := fun x hx => (List.mem_append.mp hx).elim (R.zfu x) fun hx => by rw [List.mem_singleton.mp hx]; exact R.zn,
            okf := fun x hx => (List.mem_append.mp hx).elim (R.okf x) fun hx => by rw [List.mem_singleton.mp hx]; exact R.okn }
theorem Rel.redo {n : Nat} {T : TS} {V : WS} (R : Rel n T V) : Rel n T.redo V.redo := by
  rcases List.eq_nil_or_concat T.fut with h | ⟨l, p, h⟩
  · have hv : V.fut = [] := by
      have := R.fut.length
      rw [h] at this
      exact List.eq_nil_of_length_eq_zero this.symm
    unfold TS.redo WS.redo
    rw [h, hv]
    exact R
  · rw [List.concat_eq_append] at h
    have hp := R.fut
    rw [h] at hp
    obtain ⟨bs, b, hv, h1, h2⟩ := hp.snocInv
    unfold TS.redo WS.redo
    rw [h, hv, List.getLast?_concat, List.getLast?_concat, List.dropLast_concat, List.dropLast_concat]
    have hz := R.zp
    rw [h] at hz
    have hm : b ∈ V.fut := by rw [hv]; exact List.mem_append_right _ (.head _)
    exact { now := h2, fut := h1, past := R.past.append (.one R.now), zb := R.zb, zp := by simp only [List.length_append, List.length_cons, List.length_nil] at hz ⊢; omega, zn := R.zfu b hm,
            zfu := fun x hx => R.zfu x (by rw [hv]; exact List.mem_append_left _ hx), zbl := R.zbl, okn := R.okf b hm, okf := fun x hx => R.okf x (by rw [hv]; exact List.mem_append_left _ hx),
            zpa := fun x hx => (List.mem_append.mp hx).elim (R.zpa x) fun hx => by rw [List.mem_singleton.mp hx]; exact R.zn,
            okp := fun x hx => (List.mem_append.mp hx).elim (R.okp x) fun hx => by rw [List.mem_singleton.mp hx]; exact R.okn }
/-- the pattern's first j signs end u -/
def Sf (p u : List Nat) (j : Nat) : Prop := j ≤ p.length ∧ p.take j <:+ u
def Mx (p u : List Nat) (k : Nat) : Prop := Sf p u k ∧ ∀ j, Sf p u j → j ≤ k
def FB (p fb : List Nat) (n : Nat) : Prop := ∀ k, 1 ≤ k → k ≤ n → ∃ F, fb[k - 1]? = some F ∧ Mx p ((p.drop 1).take (k - 1)) F
theorem sf_len {p u : List Nat} {j : Nat} (h : Sf p u j) : j ≤ u.length := by
  have := h.2.length_le
  rw [List.length_take] at this
  have := h.1
  omega
theorem take_head {p : List Nat} {k : Nat} (h1 : 1 ≤ k) (h2 : k ≤ p.length) : ∃ a, p.take k = a :: (p.drop 1).take (k - 1) := by
  cases p with
  | nil => simp at h2; omega
  | cons a r =>
    obtain ⟨k', rfl⟩ : ∃ k', k = k' + 1 := ⟨k - 1, by omega⟩
    exact ⟨a, by simp⟩
theorem sf_proper {p u : List Nat} {j k : Nat} (h : Sf p u k) (hj : Sf p u j) (hjk : j < k) : Sf p ((p.drop 1).take (k - 1)) j := by
  have h1 : p.take j <:+ p.take k := List.suffix_of_suffix_length_le hj.2 h.2 (by simp only [List.length_take]; omega)
  obtain ⟨a, ha⟩ := take_head (p := p) (k := k) (by omega) h.1
  rw [ha] at h1
  rcases List.suffix_cons_iff.mp h1 with e | h2
  · have := congrArg List.length e
    rw [← ha] at this
    simp only [List.length_take] at this
    have := h.1
    have := hj.1
    omega
  · exact ⟨hj.1, h2⟩
theorem sf_back {p u : List Nat} {j k : Nat} (h : Sf p u k) (hk : 1 ≤ k) (hj : Sf p ((p.drop 1).take (k - 1)) j) : Sf p u j ∧ j < k := by
  obtain ⟨a, ha⟩ := take_head (p := p) (k := k) hk h.1
  have h1 : (p.drop 1).take (k - 1) <:+ p.take k := by rw [ha]; exact List.suffix_cons _ _
  refine ⟨⟨hj.1, (hj.2.trans h1).trans h.2⟩, ?_⟩
  have := sf_len hj
  rw [List.length_take] at this
  omega
theorem fall_ok {p fb u : List Nat} {c n : Nat} (hf : FB p fb n) : ∀ (fuel k : Nat), k ≤ fuel → k ≤ n → Sf p u k → (∀ j, Sf p u j → p[j]? = some c → j ≤ k) →
    Sf p u (fall p fb c fuel k) ∧ (∀ j, Sf p u j → p[j]? = some c → j ≤ fall p fb c fuel k) ∧ (fall p fb c fuel k = 0 ∨ p[fall p fb c fuel k]? = some c)
  | 0, k, h0, _, hs, hm => by
    obtain rfl : k = 0 := by omega
    exact ⟨hs, hm, .inl rfl⟩
  | fuel + 1, k, h0, hn, hs, hm => by
    unfold fall
    split
    · rename_i h
      obtain ⟨F, hF, hM⟩ := hf k h.1 hn
      obtain ⟨b1, b2⟩ := sf_back hs h.1 hM.1
      rw [hF, Option.getD_some]
      refine fall_ok hf fuel F (by omega) (by omega) b1 fun j hj hc => ?_
      have h1 := hm j hj hc
      rcases Nat.lt_or_ge j k with h2 | h2
      · exact hM.2 j (sf_proper hs hj h2)
      · exact absurd ((show j = k by omega) ▸ hc) h.2
    · rename_i h
      refine ⟨hs, hm, ?_⟩
      rcases Nat.eq_zero_or_pos k with h1 | h1
      · exact .inl h1
      · right
        exact Classical.byContradiction fun h2 => h ⟨h1, h2⟩
theorem suffix_snoc {a b : List Nat} {x y : Nat} (h : a ++ [x] <:+ b ++ [y]) : x = y ∧ a <:+ b := by
  obtain ⟨t, ht⟩ := h
  rw [← List.append_assoc] at ht
  have := List.append_inj' ht rfl
  exact ⟨by simpa using this.2, t, this.1⟩
theorem kstep_ok {p fb u : List Nat} {c n k : Nat} (hf : FB p fb n) (hn : k ≤ n) (hm : Mx p u k) : Mx p (u ++ [c]) (kstep p fb c k) := by
  obtain ⟨f1, f2, f3⟩ := fall_ok (c := c) hf k k (Nat.le_refl _) hn hm.1 fun j hj _ => hm.2 j hj
  have e : kstep p fb c k = if p[fall p fb c k k]? = some c then fall p fb c k k + 1 else fall p fb c k k := rfl
  rw [e]
  generalize fall p fb c k k = r at f1 f2 f3
  have up : ∀ j, Sf p (u ++ [c]) j → j = 0 ∨ ∃ i, j = i + 1 ∧ Sf p u i ∧ p[i]? = some c := fun j hj => by
    cases j with
    | zero => exact .inl rfl
    | succ i =>
      right
      have hlt : i < p.length := hj.1
      have h2 := hj.2
      rw [List.take_add_one, List.getElem?_eq_getElem hlt] at h2
      obtain ⟨e1, e2⟩ := suffix_snoc (show p.take i ++ [p[i]] <:+ u ++ [c] from h2)
      exact ⟨i, rfl, ⟨by omega, e2⟩, by rw [List.getElem?_eq_getElem hlt, e1]⟩
  split
  · rename_i hc
    obtain ⟨hlt, hv⟩ := List.getElem?_eq_some_iff.mp hc
    refine ⟨⟨hlt, ?_⟩, fun j hj => ?_⟩
    · rw [List.take_add_one, hc]
      obtain ⟨t, ht⟩ := f1.2
      exact ⟨t, by rw [← ht]; simp⟩
    · rcases up j hj with h | ⟨i, rfl, h1, h2⟩
      · omega
      · have := f2 i h1 h2; omega
  · rename_i hc
    have hr : r = 0 := f3.resolve_right hc
    subst hr
    refine ⟨⟨Nat.zero_le _, by simp⟩, fun j hj => ?_⟩
    rcases up j hj with h | ⟨i, rfl, h1, h2⟩
    · omega
    · have h3 := f2 i h1 h2
      exact absurd ((show i = 0 by omega) ▸ h2) hc
theorem mx_nil (p : List Nat) : Mx p [] 0 := ⟨⟨Nat.zero_le _, by simp⟩, fun j hj => sf_len hj⟩
theorem fbRun_ok (p : List Nat) : ∀ i, i < p.length → (fbRun p i).1.length = i + 1 ∧ FB p (fbRun p i).1 (i + 1) ∧ Mx p ((p.drop 1).take i) (fbRun p i).2
  | 0, h => by
    refine ⟨rfl, fun k h1 h2 => ⟨0, ?_, ?_⟩, ?_⟩
    · rw [show k - 1 = 0 by omega]; rfl
    · rw [show k - 1 = 0 by omega, List.take_zero]; exact mx_nil p
    · rw [List.take_zero]; exact mx_nil p
  | i + 1, h => by
    obtain ⟨l1, l2, l3⟩ := fbRun_ok p i (by omega)
    have hk : (fbRun p i).2 ≤ i + 1 := by
      have := sf_len l3.1
      rw [List.length_take] at this
      omega
    have hc : p[i + 1]? = some p[i + 1] := List.getElem?_eq_getElem h
    have hw : (p.drop 1).take (i + 1) = (p.drop 1).take i ++ [p[i + 1]] := by
      rw [List.take_add_one, List.getElem?_drop, Nat.add_comm 1 i, hc]; rfl
    have hm := kstep_ok (c := p[i + 1]) l2 hk l3
    rw [← hw] at hm
    have e : fbRun p (i + 1) = ((fbRun p i).1 ++ [kstep p (fbRun p i).1 p[i + 1] (fbRun p i).2], kstep p (fbRun p i).1 p[i + 1] (fbRun p i).2) := by
      show (_, _) = _
      rw [hc]; rfl
    rw [e]
    refine ⟨by simp [l1], fun k h1 h2 => ?_, hm⟩
    rcases Nat.lt_or_ge k (i + 2) with h3 | h3
    · obtain ⟨F, hF, hM⟩ := l2 k h1 (by omega)
      exact ⟨F, by rw [List.getElem?_append_left (by omega)]; exact hF, hM⟩
    · obtain rfl : k = i + 2 := by omega
      exact ⟨_, by rw [List.getElem?_append_right (by omega), l1]; simp, hm⟩
theorem kmpGo_ok {x p : List Nat} {b : Nat} (hp : 0 < p.length) {fb : List Nat} (hf : FB p fb p.length) (hb : b ≤ x.length) : ∀ (r u : List Nat) (k : Nat), x.drop b = u ++ r → Mx p u k → k < p.length →
    (∀ i, b ≤ i → i + p.length ≤ b + u.length → ¬ Occ x p i) → IsFound x p b (kmpGo p fb r (b + u.length) k)
  | [], u, k, hx, hm, hk, hno => by
    refine .inl ⟨rfl, fun i hi ho => hno i hi ?_ ho⟩
    have h1 := ho.1
    have h2 := congrArg List.length hx
    simp only [List.length_drop, List.append_nil] at h2
    omega
  | c :: r, u, k, hx, hm, hk, hno => by
    have hm' := kstep_ok (c := c) hf (Nat.le_of_lt hk) hm
    have hx' : x.drop b = (u ++ [c]) ++ r := by rw [hx]; simp
    have hul : (u ++ [c]).length = u.length + 1 := by simp
    have hxl := congrArg List.length hx'
    simp only [List.length_drop, List.length_append, List.length_cons, List.length_nil] at hxl
    unfold kmpGo
    split
    · rename_i e
      rw [e] at hm'
      obtain ⟨t, ht⟩ := hm'.1.2
      rw [List.take_length] at ht
      have hl := congrArg List.length ht
      rw [List.length_append, hul] at hl
      have hd : x.drop (b + t.length) = p ++ r := by
        rw [← List.drop_drop, hx', ← ht, List.append_assoc, List.drop_append_of_le_length (Nat.le_refl _), List.drop_length, List.nil_append]
      refine .inr ⟨b + t.length, by omega, by omega, ⟨by omega, by rw [hd, List.take_append_of_le_length (Nat.le_refl _), List.take_length]⟩, fun j h1 h2 => hno j h1 (by omega)⟩
    · rename_i e
      have hk' : kstep p fb c k < p.length := Nat.lt_of_le_of_ne hm'.1.1 e
      have := kmpGo_ok hp hf hb r (u ++ [c]) (kstep p fb c k) hx' hm' hk' fun i h1 h2 ho => by
        rw [hul] at h2
        rcases Nat.lt_or_ge (b + u.length) (i + p.length) with h3 | h3
        · have h4 : p <:+ u ++ [c] := by
            have h5 : p = (u ++ [c]).drop (i - b) := by
              have h6 := ho.2
              have h7 : x.drop i = ((u ++ [c]) ++ r).drop (i - b) := by rw [← hx', List.drop_drop]; congr 1; omega
              rw [h7, List.drop_append_of_le_length (by rw [hul]; omega), List.take_append_of_le_length (by rw [List.length_drop, hul]; omega), List.take_of_length_le (by rw [List.length_drop, hul]; omega)] at h6
              exact h6.symm
            rw [h5]
            exact List.drop_suffix _ _
          have := hm'.2 p.length ⟨Nat.le_refl _, by rw [List.take_length]; exact h4⟩
          omega
        · exact hno i h1 h3 ho
      rw [hul] at this
      exact this
theorem Rel.find {n : Nat} {T : TS} {V : WS} (R : Rel n T V) {b : Nat} {p : Str} {r : Int} (hb : b ≤ V.now.length) (h : IsFound V.now.cps.toList p.cps.toList b r) : T.find p b = r := by
  unfold TS.find
  rw [if_neg (by rw [R.len]; omega)]
  have hbl : b ≤ V.now.cps.toList.length := by rw [← str_len]; exact hb
  split
  · rename_i e
    have e0 : p.cps.toList = [] := by rw [e]; rfl
    rw [e0] at h
    refine IsFound.uniq ?_ h
    exact .inr ⟨b, rfl, Nat.le_refl _, ⟨by simpa using hbl, by simp⟩, fun j h1 h2 => absurd h1 (by omega)⟩
  · rename_i e
    have hp : 0 < p.cps.toList.length := by
      rcases Nat.eq_zero_or_pos p.cps.toList.length with h0 | h0
      · exact absurd (by rw [← ofL_cps p, List.eq_nil_of_length_eq_zero (l := p.cps.toList) h0]; rfl) e
      · exact h0
    rw [R.cutR hb]
    refine IsFound.uniq ?_ h
    have hf := (fbRun_ok p.cps.toList (p.cps.toList.length - 1) (by omega)).2.1
    rw [show p.cps.toList.length - 1 + 1 = p.cps.toList.length by omega] at hf
    have := kmpGo_ok (x := V.now.cps.toList) (b := b) hp (fb := fbs p.cps.toList) hf hbl (V.now.cps.toList.drop b) [] 0 rfl (mx_nil _) hp fun i h1 h2 => absurd h2 (by rw [List.length_nil]; omega)
    simpa using this
theorem isFound_ex (x p : List Nat) : ∀ f, ∃ r, IsFound x p f r := by
  have go : ∀ d f, x.length + 1 - f = d → ∃ r, IsFound x p f r := by
    intro d
    induction d with
    | zero => exact fun f hf => ⟨-1, .inl ⟨rfl, fun i hi ho => by have := ho.1; omega⟩⟩
    | succ d ih =>
      intro f hf
      by_cases ho : Occ x p f
      · exact ⟨f, .inr ⟨f, rfl, Nat.le_refl _, ho, fun j h1 h2 => absurd h1 (by omega)⟩⟩
      · obtain ⟨r, h⟩ := ih (f + 1) (by omega)
        rcases h with ⟨e, h⟩ | ⟨i, e, hi, h1, h2⟩
        · refine ⟨r, .inl ⟨e, fun i hi hoi => ?_⟩⟩
          rcases Nat.lt_or_ge f i with h3 | h3
          · exact h i h3 hoi
          · exact ho ((show i = f by omega) ▸ hoi)
        · refine ⟨r, .inr ⟨i, e, by omega, h1, fun j h3 h4 hoj => ?_⟩⟩
          rcases Nat.lt_or_ge f j with h5 | h5
          · exact h2 j h5 h4 hoj
          · exact ho ((show j = f by omega) ▸ hoj)
  exact fun f => go _ f rfl
/-- the two replacings, turn by turn -/
structure RP (b : Nat) (p a : Str) (n : Nat) (T : TS) (V : WS) (f : Nat) (pl : Int) : Prop where
  rel : Rel (b + 4 * (12 - n)) T V
  found : IsFound V.now.cps.toList p.cps.toList f pl
  left : V.now.length - f ≤ n
  top : n ≤ 12
  fl : f ≤ V.now.length
theorem step_sub (b : Nat) (k : Fin 12) : b + 4 * (12 - (k.val + 1)) + 4 = b + 4 * (12 - k.val) := by
  rw [Nat.add_assoc, (by decide : ∀ k : Fin 12, 4 * (12 - (k.val + 1)) + 4 = 4 * (12 - k.val)) k]
theorem left_step {L f i pl al n' L' : Nat} (h1 : f ≤ i) (h2 : i + pl ≤ L) (h3 : L - f ≤ n' + 1) (h4 : L' = L + al - (i + pl - i)) (h5 : 0 < pl) : L' - (i + al) ≤ n' := by
  rw [Nat.add_sub_cancel_left] at h4
  have h3' := Nat.sub_le_iff_le_add.mp h3
  clear h3
  refine Nat.sub_le_iff_le_add.mpr ?_
  rw [h4]
  refine Nat.sub_le_iff_le_add.mpr ?_
  omega
theorem RP.step {b : Nat} {p a : Str} {n : Nat} {T : TS} {V : WS} {f : Nat} {i : Nat} (R : RP b p a n T V f (i : Int)) (hp : 0 < p.length) (ha : a.length ≤ 4) (hok : OkS a) :
    i + p.length ≤ V.now.length ∧ ∃ n', n = n' + 1 ∧ Rel (b + 4 * (12 - n')) (T.replace i ((i + p.length : Nat) : Int) a) (V.replaced i (i + p.length) a) ∧ ∀ r, IsFound (V.replaced i (i + p.length) a).now.cps.toList p.cps.toList (i + a.length) r →
      RP b p a n' (T.replace i ((i + p.length : Nat) : Int) a) (V.replaced i (i + p.length) a) (i + a.length) r ∧ (T.replace i ((i + p.length : Nat) : Int) a).find p ((i + a.length : Nat) : Int) = r := by
  have hf := R.found
  have hl := R.left
  have ht := R.top
  rcases hf with ⟨e, _⟩ | ⟨i', e, hi, ho, _⟩
  · omega
  · obtain rfl : i = i' := by omega
    have h1 := ho.1
    rw [← str_len, ← str_len] at h1
    obtain ⟨n', rfl⟩ : ∃ n', n = n' + 1 := ⟨n - 1, by omega⟩
    have hr := R.rel.replace (x := i) (y := i + p.length) (a := a) (by omega) h1 ha hok
    have e1 := step_sub b ⟨n', by omega⟩
    rw [e1] at hr
    have hnow : (V.replaced i (i + p.length) a).now = splice V.now i (i + p.length) a := by
      unfold WS.replaced
      rw [if_pos (.inl (by omega))]
      rfl
    have hlen := splice_len (x := V.now) (a := a) (f := i) (l := i + p.length) (by omega) h1
    rw [← hnow] at hlen
    have hls := left_step hi h1 hl hlen hp
    have hlo : i + a.length ≤ (V.replaced i (i + p.length) a).now.length := by
      rw [hlen, Nat.add_sub_cancel_left]
      exact Nat.le_sub_of_add_le (by omega)
    clear hl hlen
    refine ⟨h1, n', rfl, hr, fun r hfr => ⟨⟨hr, hfr, hls, by omega, hlo⟩, hr.find hlo hfr⟩⟩
theorem RP.stepP {b : Nat} {p a : Str} (hp : 0 < p.length) (ha : a.length ≤ 4) (hok : OkS a) (hb : b + 48 < 2 ^ 22) : ∀ n T pl, (∃ V f, RP b p a n T V f pl) → 0 ≤ pl → T.Fits ∧ Valid T.bufs T.ps ∧ pl + p.length ≤ T.len ∧ (T.replace pl (pl + p.length) a).Fits ∧
    Valid (T.replace pl (pl + p.length) a).bufs (T.replace pl (pl + p.length) a).ps ∧ ∃ n', n = n' + 1 ∧ ∃ V f, RP b p a n' (T.replace pl (pl + p.length) a) V f ((T.replace pl (pl + p.length) a).find p (pl + a.length)) := by
  rintro n T pl ⟨V, f, R⟩ hpl
  obtain ⟨i, rfl⟩ := Int.eq_ofNat_of_zero_le hpl
  obtain ⟨hle, n', rfl, relk, nxt⟩ := R.step hp ha hok
  obtain ⟨r, hr⟩ := isFound_ex (V.replaced i (i + p.length) a).now.cps.toList p.cps.toList (i + a.length)
  obtain ⟨h1, h2⟩ := nxt r hr
  have ht := R.top
  have e1 : ((i : Int) + (p.length : Int)) = ((i + p.length : Nat) : Int) := by omega
  have e2 : ((i : Int) + (a.length : Int)) = ((i + a.length : Nat) : Int) := by omega
  rw [e1, e2, h2]
  exact ⟨R.rel.fits (by omega), R.rel.valid, by rw [R.rel.len]; omega, relk.fits (by omega), relk.valid, n', rfl, _, _, h1⟩
theorem Rel.start {x : Str} (hx : x.length ≤ 4) (hok : OkS x) : Rel 20 ⟨[x], if x = Str.ofString "" then [] else [(0, 0, x.length)], [], []⟩ ⟨x, [], []⟩ where
  now := by
    by_cases h : x = Str.ofString ""
    · rw [if_pos h]
      exact ⟨(fun _ h => nomatch h), ⟨(fun _ h => nomatch h), fun i q q' h1 _ => by simp at h1⟩, by rw [h]; rfl⟩
    · rw [if_neg h]
      have hpos : 1 ≤ x.length := by
        rcases Nat.eq_zero_or_pos x.length with h0 | h0
        · exact absurd (by rw [← ofL_cps x, List.eq_nil_of_length_eq_zero (l := x.cps.toList) (by rw [← str_len]; exact h0)]; rfl) h
        · exact h0
      refine ⟨fun q hq => ?_, ⟨fun q hq => ?_, fun i q q' _ h2 => by simp at h2⟩, ?_⟩
      · rw [List.mem_singleton.mp hq]; exact ⟨x, rfl, by dsimp only; omega⟩
      · rw [List.mem_singleton.mp hq]; exact hpos
      · show ofL (rdOne [x] (0, 0, x.length) ++ []) = x
        unfold rdOne
        show ofL ((x.cps.toList.drop 0).take x.length ++ []) = x
        rw [List.append_nil, List.drop_zero, str_len, List.take_length, ofL_cps]
  past := .nil
  fut := .nil
  zb := by show 1 ≤ 20; omega
  zp := by show 0 ≤ 20; omega
  zn := by show x.length ≤ 20; omega
  zpa := fun _ h => nomatch h
  zfu := fun _ h => nomatch h
  zbl := fun y hy => by rw [List.mem_singleton.mp hy]; omega
  okn := hok
  okp := fun _ h => nomatch h
  okf := fun _ h => nomatch h
theorem Rel.whole {n : Nat} {T : TS} {V : WS} (R : Rel n T V) : ofL (rd T.bufs (cutFrom 0 T.len 0 T.ps)) = V.now := by
  have h := R.read (x := 0) (y := V.now.length) (Nat.zero_le _) (Nat.le_refl _)
  rw [R.len]
  exact h.trans (sub_all _)
theorem handName {hl : Led} {a : Addr} (_ : HandL hl a) : ∃ x, x = a := ⟨_, rfl⟩

abbrev bmF : List Value := [.ref 24, .type "Exception", .type "BaseException", .type "object"]
abbrev fmtCls : Obj := excClassObj (Str.ofString "FormatError") (Str.ofString "FormatError") 44 43 [.ref 24] bmF true [] [] false none none (some (.ref 28)) none (some (.str (Str.ofString "FormatError") 209)) (some (.str (Str.ofString "FormatError") 217)) (some (.bool true)) "Exception.__new__"
abbrev excObj (t : Addr) : Obj := { cls := .ref 44, data := .fields #[.ref t, .none, .none, .none, .bool false, .none] }
abbrev excObjD (t d : Addr) : Obj := { cls := .ref 44, dict := some d, data := .fields #[.ref t, .none, .none, .none, .bool false, .none] }
theorem fmt_at {w : World} {h : Heap} (X : (Mine.kdef.heap_1 w.params).In h) : h.get? 44 = some fmtCls := X _ _ (by k_is)
theorem fmt_ns {w : World} : nsOkIn (Mine.kdef.heap_1 w.params) 23 = true := by first | kernel_rfl | with_unfolding_all rfl
theorem fmt_tail {w : World} {h : Heap} (X : (Mine.kdef.heap_1 w.params).In h) : OwnTail h [.type "Exception", .type "BaseException", .type "object"] bmF := .own (X 24 _ (by k_is)) (.of_isNs (isNs_of_in X (N := 23) fmt_ns)) (nsMap_none_of_in X fmt_ns (by k_is)) .base
theorem fmt_init {w : World} : findIn (Mine.kdef.heap_1 w.params) (.ref 44) "__init__" = some (some (.ref 41)) := by k_is
theorem fmt_initT {w : World} : typeIn (Mine.kdef.heap_1 w.params) (.ref 41) = some (.type "function") := by k_is

theorem fmt_type_call {prog : Program} {w : World} {A : Around} {s : Shared} {E : Value → Shared → Prop} {rest : List Value} {Q : Fin → Shared → Prop} (X : (Mine.kdef.heap_1 w.params).In s.heap)
    (hq : ∀ h' e, Heap.MadeExcOf s.heap h' e (.ref 44) rest →
      wpAny (model prog w) A (call (.ref 41) (.ref e :: rest)) (fun r s' => r = .none ∧ Q (.done (.ret (.ref e))) s') E { s with heap := h' }) (hrest : rest.length ≤ sizeLine) :
    wpAny (model prog w) A (Builtin.«type.__call__» ⟨.ref 44 :: rest, []⟩) Q E s := by
  obtain ⟨h, g, d, tk, os⟩ := s
  have hC := fmt_at X
  repeat (first | with_reducible refine wpAny_loadPart_at hC ?_ | with_reducible refine wpAny_madeBy_exc hC ?_ | wp_step)
  refine codeAny_call_builtin_code (Code.quiet_builtin _ PySem.F.excBase_Exception.quiet) (wpAny_check_new_subT PySem.F.excBase_Exception (fmt_tail X) hC ?_)
  refine codeAny_exc_new_subT PySem.F.excBase_Exception (fmt_tail X) hC ?_ hrest
  show wpAny _ _ _ _ _ _
  have k2 : Keeps h ((h.push { cls := .type "tuple", data := .seq rest.toArray }).push (excObj h.objs.size)) := fun b o e => Heap.get?_push_of_some _ (Heap.get?_push_of_some _ e)
  have hget : ((h.push { cls := .type "tuple", data := .seq rest.toArray }).push (excObj h.objs.size)).get? (h.objs.size + 1) = some (excObj h.objs.size) := by heap_get
  have hC1 := k2 _ _ hC
  have X1 := X.keeps k2
  have hcC : (Value.ref 44 :: bmF).contains (.ref 44) = true := by simp
  unfold isInstance
  repeat (first | with_reducible refine wpAny_loadPart_at hget ?_ | (with_reducible refine wpAny_isSubtype_exc hC1 ?_; rw [hcC]) | wp_step)
  refine (looks_findIn X1 fmt_init).here ?_
  refine wpAny_holding (wpAny_bind ((bind_fn X1 (f := 41) _ fmt_initT).here ?_))
  refine wpAny_bind (wpAny_mono (hq _ (h.objs.size + 1) ⟨k2, Heap.get?_none_of_le (Nat.le_succ _), h.objs.size, hget, Heap.get?_none_of_le (Nat.le_refl _), ?_⟩) (fun r s' hr => ?_) fun _ _ x => x)
  · exact Heap.get?_push_of_some _ (Heap.get?_push_at rfl rfl)
  · obtain ⟨rfl, hQ⟩ := hr
    wp_walk
    exact hQ

theorem call_fmt {prog : Program} {w : World} {A : Around} {s : Shared} {E : Value → Shared → Prop} {rest : List Value} {Q : Value → Shared → Prop} (X : (Mine.kdef.heap_1 w.params).In s.heap)
    (hq : ∀ h' e, Heap.MadeExcOf s.heap h' e (.ref 44) rest →
      wpAny (model prog w) (A.under (.builtin "type.__call__" ⟨.ref 44 :: rest, []⟩)) (call (.ref 41) (.ref e :: rest)) (fun r s' => r = .none ∧ Q (.ref e) s') E { s with heap := h' }) (hrest : rest.length ≤ sizeLine) :
    wpAny (model prog w) A (call (.ref 44) rest) Q E s := by
  obtain ⟨h, g, d, tk, os⟩ := s
  have hC := fmt_at X
  have f1 := tc_lookup
  have f2 := tc_bind (.ref 44)
  have hT : (⟨h, g, d, tk, os⟩ : Shared).TypeIs (.ref 44) "type" := ⟨_, hC, rfl⟩
  refine wpAny_call (codeAny_of_tree ?_)
  show wpAny _ _ (callAny (.ref 44) _) _ _ _
  repeat (any_goals (first | assumption | with_reducible refine wpAny_loadPart_at hC ?_ | wp_step))
  refine ⟨rfl, ?_⟩
  refine codeAny_call_builtin_at (Code.quiet_builtin _ (by decide +kernel)) entry_typeCall (wpAny_check_type_call_sub hC (fmt_type_call (s := ⟨h, g, d, tk, os⟩) X (fun h' e hm => ?_) hrest))
  exact hq h' e hm
open Builtin Builtin.ObjectAttr in
theorem fmt_osa {prog : Program} {w : World} {A : Around} {s : Shared} {R : Result → Shared → Prop} {x : Addr} {ox : Obj} {od : Option Obj} {name : Str} {tk : Tok} {v : Value} (X : (Mine.kdef.heap_1 w.params).In s.heap) (I : InstAt s.heap x ox 44 od)
    (ht : findIn (Mine.kdef.heap_1 w.params) (.ref 44) name = some none)
    (h : wpAny (model prog w) A.in1 (storeInOwnDict (.ref x) (.ref 44) (.str name tk) name v false)
      (fun fin s' => match fin with | .done f => R (.ok f) s' | .again c' => c'.quiet = true ∧ codeAny (model prog w) A c' R s') (fun e s' => R (.error e) s') s) :
    codeAny (model prog w) A (.call (.builtin "object.__setattr__") ⟨[.ref x, .str name tk, v], []⟩) R s := by
  have SF := PySem.F.store_Exception
  have sub : Looks (model prog w) s.heap (isInstance (.ref x) (.type "object")) true := I.type.andThen (looks_mroIn X (by k_is))
  refine codeAny_call_builtin SF.slot.plain SF.entry (@check_slot (model prog w) _ _ s "object.__setattr__" "object" "__setattr__" (.ref x) [.str name tk, v] [] _ SF.kind SF.split sub (SF.args (.ref x) (.str name tk) v) ?_)
  have hm : Looks (model prog w) s.heap (mroOf (.ref 44)) (.ref 44 :: bmF) := (looks_clsIn X (by k_is)).andThen .now
  rw [osa_eq, refuse_eq]
  refine wpAny_bind (wpAny_bind (I.type.here (wpAny_bind (hm.here ?_))))
  rw [refuseLoop_ref, refuseLoop_ref, SF.passes]
  refine wpAny_pure (wpAny_bind (I.type.here (wpAny_bind ((looks_findIn X ht).here (wpAny_bind (wpAny_pure ?_))))))
  exact h

open Builtin Builtin.ObjectAttr in
theorem fmt_store {prog : Program} {w : World} {A : Around} {s : Shared} {E : Value → Shared → Prop} {Q : Fin → Shared → Prop} {h₀ : Heap} {L : Addr} {m : Str → Option Value} {news news' : Led} {d : Addr} {name : Str} {tk : Tok} {v : Value} {es es' : List DictEntry} {n n' : Nat}
    (F : Fr h₀ L s.heap m) (N : News h₀ L s.heap news) (U : Upd d (dictOf es n) (dictOf es' n') news news') (e : (putL name (PyData.keyHash w.params name) (.str name s.toks) v es, putN name es n) = (es', n')) (hl : (getL name es).isSome = true) (hz : es'.length ≤ 1000)
    (h : ∀ h', Fr h₀ L h' m → News h₀ L h' news' → Q (.done (.ret .none)) { s with heap := h', toks := s.toks + 1 }) :
    wpAny (model prog w) A (storeInDict d (.str name tk) name v) Q E s := by
  obtain ⟨pre, post, rfl, rfl, h1, h2⟩ := U.split
  obtain ⟨e1, e2⟩ := Prod.mk.inj e
  obtain ⟨U1, U2⟩ := news_upd (f := Obj.putName name (PyData.keyHash w.params name) (.str name s.toks) v) F N h1 h2 (by rw [putName_dict, e1, e2]) rfl
  have D := (N (d, dictOf es n) (by simp)).1
  have D' := (U2 (d, dictOf es' n') (by simp)).1
  refine wpAny_bind (wpAny_pure (wpAny_bind ?_))
  unfold nsSet
  refine wpAny_bind (wpAny_bind (wpAny_askSetting (wpAny_pure (wpAny_bind (wpAny_mkText (wpAny_bind (wpAny_loadPart D ?_)))))))
  (try dsimp only)
  have c : (!es.toArray.any (·.key.isStr name) && es.toArray.any (·.refKey)) = false := by
    rw [← Array.any_toList, ← Array.any_toList]
    unfold getL at hl
    split at hl
    · rename_i en he
      rw [List.any_eq_true.mpr ⟨en, List.mem_of_find?_eq_some he, List.find?_some he⟩]; rfl
    · split at hl
      · cases hl
      · rename_i z; rw [Bool.not_eq_true] at z; rw [z, Bool.and_false]
  rw [aRefKeyMayBeTheName_at, c]
  refine wpAny_updatePart D ?_
  refine wpAny_bind (wpAny_lookBehind D' (pastItsLine_dict (by rw [List.size_toArray, sizeLine_eq]; omega)) ?_)
  exact wpAny_pure (h _ U1 U2)

open Builtin Builtin.ObjectAttr in
/-- the first attribute of an exception of ours: its dict is made -/
theorem fmt_set1 {prog : Program} {w : World} {A : Around} {s : Shared} {E : Value → Shared → Prop} {Q : Unit → Shared → Prop} {h₀ : Heap} {L : Addr} {m : Str → Option Value} {news : Led} {x : Addr} {t : Addr} {name : Str} {v : Value}
    (F : Fr h₀ L s.heap m) (X₀ : (Mine.kdef.heap_1 w.params).In h₀) (N : News h₀ L s.heap ((x, excObj t) :: news)) (hn : NeL news x) (ht : findIn (Mine.kdef.heap_1 w.params) (.ref 44) name = some none)
    (h : ∀ d h', d = s.heap.objs.size → Fr h₀ L h' m → News h₀ L h' ((x, excObjD t d) :: (d, dictOf [⟨PyData.keyHash w.params name, .str name (s.toks + 1), v⟩] 1) :: news) → Q () { s with heap := h', toks := s.toks + 2 }) :
    wpAny (model prog w) A (setAttr (.ref x) name v) Q E s := by
  have X := X₀.keeps F.keep
  have hx := (N _ (.head _)).1
  have I : InstAt s.heap x (excObj t) 44 none := ⟨hx, rfl, rfl, trivial⟩
  refine set_plain X I (by k_is) (fmt_osa (s := { s with toks := s.toks + 1 }) X I ht ?_)
  obtain ⟨hp, gg, dr, tk, os⟩ := s
  dsimp only at *
  unfold storeInOwnDict
  refine wpAny_bind (wpAny_pure (wpAny_bind ?_))
  unfold ownDictForStores instanceDict
  refine wpAny_bind (wpAny_loadPart hx ?_)
  (try dsimp only)
  refine wpAny_bind ((looks_clsIn X (show clsIn (Mine.kdef.heap_1 w.params) 44 = some _ from by k_is)).here ?_)
  rw [if_neg (by decide), if_neg (by simp [typeHasDict])]
  have hxs : x ≠ hp.objs.size := Nat.ne_of_lt (Heap.lt_size hx)
  refine wpAny_bind (wpAny_alloc' ?_)
  have hx1 : (hp.push { cls := .type "dict", data := .dict #[] }).get? x = some (excObj t) := Heap.get?_push_of_some _ hx
  refine wpAny_bind (wpAny_update' hx1 ?_)
  refine wpAny_pure (a := some hp.objs.size) ?_
  have F1 := F.push (dictOf [] 0)
  have N1 := N.push F (dictOf [] 0)
  obtain ⟨F2, N2⟩ := news_upd (f := fun o => { cls := o.cls, dict := some hp.objs.size, data := o.data, slots := o.slots }) (o' := excObjD t hp.objs.size) (pre := [(hp.objs.size, dictOf [] 0)]) F1 N1 (fun p hp' => by rw [List.mem_singleton.mp hp']; exact hxs.symm) hn rfl rfl
  have hdn : NeL ((x, excObjD t hp.objs.size) :: news) hp.objs.size := NeL.cons hxs fun p hp' => Nat.ne_of_lt (Heap.lt_size (N p (.tail _ hp')).1)
  refine fmt_store (s := { heap := _, gens := gg, drawn := dr, toks := tk + 1, os := os }) F2 (newsSub N2 (news' := (hp.objs.size, dictOf [] 0) :: (x, excObjD t hp.objs.size) :: news) (by intro p hp'; simpa [or_left_comm] using hp')) (es' := [⟨PyData.keyHash w.params name, .str name (tk + 1), v⟩]) (n' := 1) (.head hdn) rfl rfl (by simp) (fun h' F' N' => ?_)
  exact h _ _ rfl F' (newsSwap N')

open Builtin Builtin.ObjectAttr in
/-- another one -/
theorem fmt_set2 {prog : Program} {w : World} {A : Around} {s : Shared} {E : Value → Shared → Prop} {Q : Unit → Shared → Prop} {h₀ : Heap} {L : Addr} {m : Str → Option Value} {news news' : Led} {x d : Addr} {t : Addr} {name : Str} {v : Value} {es es' : List DictEntry} {n n' : Nat}
    (F : Fr h₀ L s.heap m) (X₀ : (Mine.kdef.heap_1 w.params).In h₀) (N : News h₀ L s.heap news) (hm : (x, excObjD t d) ∈ news) (hmd : (d, dictOf es n) ∈ news) (ht : findIn (Mine.kdef.heap_1 w.params) (.ref 44) name = some none)
    (U : Upd d (dictOf es n) (dictOf es' n') news news') (hl : (getL name es).isSome = true) (e : (putL name (PyData.keyHash w.params name) (.str name (s.toks + 1)) v es, putN name es n) = (es', n')) (hz : es'.length ≤ 1000)
    (h : ∀ h', Fr h₀ L h' m → News h₀ L h' news' → Q () { s with heap := h', toks := s.toks + 2 }) :
    wpAny (model prog w) A (setAttr (.ref x) name v) Q E s := by
  have X := X₀.keeps F.keep
  have hx := (N _ hm).1
  have I : InstAt s.heap x (excObjD t d) 44 (some (dictOf es n)) := ⟨hx, rfl, rfl, (N _ hmd).1⟩
  refine set_plain X I (by k_is) (fmt_osa (s := { s with toks := s.toks + 1 }) X I ht ?_)
  obtain ⟨hp, gg, dr, tk, os⟩ := s
  dsimp only at *
  unfold storeInOwnDict
  refine wpAny_bind (wpAny_pure (wpAny_bind ?_))
  unfold ownDictForStores instanceDict
  refine wpAny_bind (wpAny_loadPart hx ?_)
  (try dsimp only)
  refine wpAny_bind ((looks_clsIn X (show clsIn (Mine.kdef.heap_1 w.params) 44 = some _ from by k_is)).here ?_)
  rw [if_neg (by decide)]
  refine wpAny_pure (a := some d) ?_
  exact fmt_store (s := { heap := _, gens := gg, drawn := dr, toks := tk + 1, os := os }) F N U e hl hz h

/-- the exception's dict -/
abbrev edict (w : World) (a : Str) (ta : Tok) (v : Int) (tv : Tok) (k1 k2 : Tok) : Obj :=
  dictOf [⟨PyData.keyHash w.params (Str.ofString "what"), .str (Str.ofString "what") k1, .str a ta⟩, ⟨PyData.keyHash w.params (Str.ofString "at"), .str (Str.ofString "at") k2, .int v tv⟩] 2
theorem init_fmt {prog : Program} {w : World} {dp un : Nat} {fr : Option (List Env)} {gd : Option (List Code)} {s : Shared} {Q E : Value → Shared → Prop} {g : Heap} (S : St w g) (hg : Keeps g s.heap) (hdp : dp < recursionLimit)
    {e t : Addr} (he : s.heap.get? e = some (excObj t)) (hge : g.get? e = none) {a : Str} {ta : Tok} {v : Int} {tv : Tok}
    (ret : ∀ h' tk' d k1 k2, (∀ b o, b ≠ e → s.heap.get? b = some o → h'.get? b = some o) → s.heap.get? d = none → h'.get? e = some (excObjD t d) → h'.get? d = some (edict w a ta v tv k1 k2) → Q .none { s with heap := h', toks := tk' }) :
    wpAny (model prog w) (Ar dp un fr gd) (call (.ref 41) [.ref e, .str a ta, .int v tv]) Q E s := by
  ktr_unf
  case led => exact [(e, excObj t)]
  case hled => exact fun q hq => by rw [List.mem_singleton.mp hq]; exact ⟨he, hge⟩
  intro g' h₁ mean mg mb F N KX T Kg Ks Kh Kl
  clear Kl
  (try dsimp only at *)
  (try k_fold)
  k_steps
  rename Fr _ _ _ _ => F
  rename News _ _ _ _ => N
  have F0 := F
  have N0 := N
  refine fmt_set1 F KX N (fun _ h => nomatch h) (by k_is) ?_
  intro d h2 hd F N
  have hed : @Ne Nat e d := fun q => by
    have h1 := Heap.lt_size (N0 _ (.head _)).1
    rw [hd] at q
    exact absurd q (Nat.ne_of_lt h1)
  have hdf : s.heap.get? d = none := by
    cases q : s.heap.get? d with
    | none => rfl
    | some o =>
      have h1 := Heap.lt_size (F0.keep _ _ (Kh _ _ q (by simpa using hed.symm)))
      rw [hd] at h1
      exact absurd h1 (Nat.lt_irrefl _)
  k_steps
  rename Fr _ _ _ _ => F
  rename News _ _ _ _ => N
  refine fmt_set2 F KX N (d := d) (x := e) (.head _) (.tail _ (.head _)) (by k_is) (.tail hed (.head fun _ h => nomatch h))
    (es' := [⟨PyData.keyHash w.params (Str.ofString "what"), .str (Str.ofString "what") _, .str a ta⟩, ⟨PyData.keyHash w.params (Str.ofString "at"), .str (Str.ofString "at") _, .int v tv⟩]) (n' := 2) rfl rfl (by simp) ?_
  intro h3 F N
  k_steps
  exact ret _ _ d _ _ (fun b o hb q => F.keep _ _ (Kh _ _ q (by simpa using hb))) hdf (N _ (.head _)).1 (N _ (.tail _ (.head _))).1

theorem fmt_new {prog : Program} {w : World} {dp un : Nat} {fr : Option (List Env)} {gd : Option (List Code)} {s : Shared} {Q E : Value → Shared → Prop} {g : Heap} (S : St w g) (hg : Keeps g s.heap) (hdp : dp + 1 < recursionLimit)
    {a : Str} {ta : Tok} {v : Int} {tv : Tok}
    (ret : ∀ h' tk' e d t k1 k2, Keeps s.heap h' → s.heap.get? e = none → s.heap.get? d = none → h'.get? e = some (excObjD t d) → h'.get? d = some (edict w a ta v tv k1 k2) → Q (.ref e) { s with heap := h', toks := tk' }) :
    wpAny (model prog w) (Ar dp un fr gd) (call (.ref 44) [.str a ta, .int v tv]) Q E s := by
  refine call_fmt (St.inn S hg) (fun h1 e hm => ?_) (by rw [sizeLine_eq]; simp)
  obtain ⟨t, ht, _, _⟩ := hm.there
  have hge : g.get? e = none := by
    cases q : g.get? e with
    | none => rfl
    | some o => have := hg _ _ q; rw [hm.new] at this; cases this
  refine init_fmt (dp := dp + 1) (s := { s with heap := h1 }) S (fun b o q => hm.keeps _ _ (hg _ _ q)) hdp ht hge ?_
  intro h2 tk2 d k1 k2 hk hd he hd'
  have hnone : ∀ b, h1.get? b = none → s.heap.get? b = none := fun b q => by
    cases z : s.heap.get? b with
    | none => rfl
    | some o => have := hm.keeps _ _ z; rw [q] at this; cases this
  exact ⟨rfl, ret _ _ e d t k1 k2 (fun b o q => hk b o (fun z => by rw [z, hm.new] at q; cases q) (hm.keeps _ _ q)) hm.new (hnone _ hd) he hd'⟩

theorem raise_fmt {M : Model} {w : World} {A : Around} {env : Env} {x : Expr} {pos : Pos} {s : Shared} {Q : Flow → Shared → Prop} {E : Value → Shared → Prop} (hh : A.handled = none)
    (h : wpAny M A (eval x env) (fun v s₁ => ∃ e t d, v = .ref e ∧ (Mine.kdef.heap_1 w.params).In s₁.heap ∧ s₁.heap.get? e = some (excObjD t d) ∧ E (.ref e) s₁) E s) :
    wpAny M A (exec (.Raise (some x) none pos) env) Q E s := by
  show wpAny M A (do standAt pos; raiseStmt env (some (do let v ← eval x env; standAt pos; pure v)) none) Q E s
  refine wpAny_bind (wpAny_standAt ?_)
  unfold raiseStmt
  (try dsimp only)
  refine wpAny_bind (wpAny_bind (wpAny_mono h (fun v s₁ h₁ => wpAny_bind (wpAny_standAt (wpAny_pure ?_))) fun _ _ x => x))
  obtain ⟨e, t, d, rfl, X, he, hE⟩ := h₁
  have hC := fmt_at X
  have hcB : (Value.ref 44 :: bmF).contains (.type "BaseException") = true := by decide
  obtain ⟨hp, g, dr, tk, os⟩ := s₁
  repeat (first | with_reducible refine wpAny_loadPart_at he ?_ | with_reducible refine wpAny_loadPart_at hC ?_ | (with_reducible refine wpAny_isSubtype_exc hC ?_; rw [hcB]) | wp_step)
  exact wpAny_raiseNew_none hh hE

theorem up_push {h : Heap} (o : Obj) : h.UpToSlots (h.push o) := Heap.UpToSlots.of_keeps fun _ _ e => Heap.get?_push_of_some _ e
theorem up_upd {h : Heap} {a : Addr} {oa : Obj} {vs : Array Value} {f : Obj → Obj} (ha : h.get? a = some oa) (hd : oa.data = .fields vs) : h.UpToSlots (h.update a f) := fun b o hb hn =>
  ⟨o.slots, (Heap.get?_update_other _ _ (fun q => by subst q; rw [ha] at hb; cases hb; exact hn vs hd)).trans hb⟩
theorem stay_upd {B h : Heap} {a : Addr} {f : Obj → Obj} (k : B.StaysIn h) (n : B.get? a = none) : B.StaysIn (h.update a f) := fun b o hb =>
  (Heap.get?_update_other _ _ (fun q => by subst q; rw [n] at hb; cases hb)).trans (k b o hb)
theorem ff_up {B h h' : Heap} {l : List Env} (x : h.FunFrames B l) (u : h.UpToSlots h') : h'.FunFrames B l := x.of_keeps fun b o hb hn => let ⟨_, e⟩ := u b o hb hn; ⟨_, e, rfl⟩
/-- our exception under way -/
structure Fly (B : Heap) (l : List Env) (e d : Addr) (fl : Value) (h : Heap) : Prop where
  stay : B.StaysIn h
  fresh : B.get? e = none
  frames : h.FunFrames B l
  exc : ∃ vs sl T oT ts, h.get? e = some { cls := .ref 44, dict := some d, data := .fields vs, slots := sl } ∧ vs[1]? = some (.ref T) ∧ B.get? T = none ∧ T ≠ e ∧ h.get? T = some oT ∧ oT.data = .fields ts ∧ ts[3]? = some fl
section
variable {M : Model} {A : Around} {E : Value → Shared → Prop} {s : Shared} {B : Heap} {env : Env} {outer : List Env} {L e d : Addr} {Q : Unit → Shared → Prop}
theorem fly_entry {vs : Array Value} {sl : Array (Option Value)} {head : Value} {hadNext : Bool} (hfr : A.frames = some (env :: outer)) (hl : s.heap.FunFrames B (env :: outer)) (hf : env.frame = some L)
    (he : s.heap.get? e = some { cls := .ref 44, dict := some d, data := .fields vs, slots := sl }) (hkb : B.StaysIn s.heap) (hen : B.get? e = none) (hsz : 1 < vs.size)
    (h : ∀ h', Fly B (env :: outer) e d (rawInt L) h' → s.heap.UpToSlots h' → Q () { s with heap := h' }) :
    wpAny M A (do let a ← frameOf env; let pl ← entryPlaceOf L hadNext; let b ← EntryCells.newEntry head a .none (rawInt L) .none pl; setField (.ref e) 1 b) Q E s := by
  refine wpAny_bind (wpAny_frameOf_fun hfr hl hf fun h₁ hs₁ => wpAny_bind (wpAny_entryPlaceOf fun pl hpl => ?_))
  have he₁ : h₁.get? e = some { cls := .ref 44, dict := some d, data := .fields vs, slots := sl } := (hs₁.2.1 e fun hm => by
    obtain ⟨_, o, ho, hnf⟩ := hl.mem hm
    rw [he] at ho; cases ho; exact hnf vs rfl).trans he
  have kb₁ : B.StaysIn h₁ := fun b o hb => (hs₁.2.1 b fun hm => by rw [(hl.mem hm).1] at hb; cases hb).trans (hkb b o hb)
  have up₁ : s.heap.UpToSlots h₁ := fun b o hb _ => hs₁.2.2 b o hb
  unfold EntryCells.newEntry newFields
  refine wpAny_bind (wpAny_newObj_type ?_ (hpl.sizeOk5 _ _ _ _ _))
  generalize hT : ({ cls := .type "traceback", dict := none, data := .fields ([head, .ref L, .none, rawInt L, .none] ++ (if pl.isEmpty then List.replicate 6 Value.none else pl)).toArray } : Obj) = oT
  have he₂ := Heap.get?_push_of_some (h := h₁) oT he₁
  have hTe : h₁.objs.size ≠ e := Nat.ne_of_gt (Heap.lt_size he₁)
  refine wpAny_setField he₂ rfl hsz (h _ ⟨?_, hen, ?_, ?_⟩ ?_)
  · exact stay_upd (fun b o hb => Heap.get?_push_of_some _ (kb₁ b o hb)) hen
  · exact ff_up hl ((up₁.trans (up_push oT)).trans (up_upd he₂ rfl))
  · refine ⟨_, sl, h₁.objs.size, oT, _, Heap.get?_update_self _ he₂ rfl, by simp [hsz], kb₁.fresh, hTe, (Heap.get?_update_other _ _ (Ne.symm hTe)).trans (Heap.get?_push_size h₁ (by subst hT; rfl)), by subst hT; rfl, by simp⟩
  · exact (up₁.trans (up_push oT)).trans (up_upd he₂ rfl)
theorem fly_note1 {t : Addr} (hfr : A.frames = some (env :: outer)) (hl : s.heap.FunFrames B (env :: outer)) (hf : env.frame = some L) (he : s.heap.get? e = some (excObjD t d)) (hkb : B.StaysIn s.heap) (hen : B.get? e = none)
    (h : ∀ h', Fly B (env :: outer) e d (rawInt L) h' → s.heap.UpToSlots h' → Q () { s with heap := h' }) : wpAny M A (noteFrame (.ref e) env) Q E s := by
  unfold noteFrame
  simp only [hf]
  refine wpAny_bind (wpAny_field he rfl (x := .none) rfl ?_)
  rw [if_neg (by decide)]
  exact fly_entry hfr hl hf he hkb hen (by simp) h
theorem fly_note2 (hfr : A.frames = some (env :: outer)) (hf : env.frame = some L) (R : Fly B (env :: outer) e d .none s.heap)
    (h : ∀ h', Fly B (env :: outer) e d (rawInt L) h' → s.heap.UpToSlots h' → Q () { s with heap := h' }) : wpAny M A (noteFrame (.ref e) env) Q E s := by
  obtain ⟨hkb, hen, hl, vs, sl, T, oT, ts, he, h1, hnT, hTe, hT, hdT, h3⟩ := R
  unfold noteFrame
  simp only [hf]
  refine wpAny_bind (wpAny_field he rfl h1 ?_)
  rw [if_pos (show (Value.ref T != Value.none) = true from by simp)]
  refine wpAny_bind (wpAny_field hT hdT h3 ?_)
  rw [if_neg (show ¬ ((Value.none == rawInt L) = true) from by simp [rawInt])]
  refine wpAny_bind (wpAny_setField hT hdT (Array.getElem?_eq_some_iff.mp h3).1 ?_)
  have up := up_upd (f := Obj.mapFields (·.setIfInBounds 3 Value.none)) hT hdT
  exact fly_entry hfr (ff_up hl up) hf ((Heap.get?_update_other _ _ hTe).trans he) (stay_upd hkb hnT) hen (Array.getElem?_eq_some_iff.mp h1).1 fun h' R' u' => h h' R' (up.trans u')
theorem fly_flight {l : List Env} {fl : Value} (R : Fly B l e d fl s.heap) (h : ∀ h', Fly B l e d .none h' → s.heap.UpToSlots h' → Q () { s with heap := h' }) : wpAny M A (setFlight (.ref e) none) Q E s := by
  obtain ⟨hkb, hen, hl, vs, sl, T, oT, ts, he, h1, hnT, hTe, hT, hdT, h3⟩ := R
  have hsz := (Array.getElem?_eq_some_iff.mp h3).1
  unfold setFlight
  refine wpAny_bind (wpAny_field he rfl h1 ?_)
  rw [if_pos (show (Value.ref T != Value.none) = true from by simp)]
  refine wpAny_setField hT hdT hsz (h _ ⟨stay_upd hkb hnT, hen, ff_up hl (up_upd hT hdT), vs, sl, T, _, _, (Heap.get?_update_other _ _ hTe).trans he, h1, hnT, hTe, Heap.get?_update_self _ hT (Obj.isFreed_of_fields (Obj.data_mapFields hdT _)), Obj.data_mapFields hdT _, by simp [hsz]⟩ (up_upd hT hdT))
theorem Fly.pop {fl : Value} {h : Heap} (R : Fly B (env :: outer) e d fl h) : Fly B outer e d fl h := ⟨R.stay, R.fresh, R.frames.2.2, R.exc⟩
theorem fly_leave1 {t : Addr} (hfr : A.frames = some (env :: outer)) (hl : s.heap.FunFrames B (env :: outer)) (hf : env.frame = some L) (he : s.heap.get? e = some (excObjD t d)) (hkb : B.StaysIn s.heap) (hen : B.get? e = none)
    (h : ∀ h', Fly B outer e d .none h' → s.heap.UpToSlots h' → Q () { s with heap := h' }) : wpAny M A (leaving env (.ref e)) Q E s := by
  unfold leaving
  exact wpAny_bind (fly_note1 hfr hl hf he hkb hen fun h1 R u => fly_flight R fun h2 R2 u2 => h h2 R2.pop (u.trans u2))
theorem fly_leave2 (hfr : A.frames = some (env :: outer)) (hf : env.frame = some L) (R : Fly B (env :: outer) e d .none s.heap)
    (h : ∀ h', Fly B outer e d .none h' → s.heap.UpToSlots h' → Q () { s with heap := h' }) : wpAny M A (leaving env (.ref e)) Q E s := by
  unfold leaving
  exact wpAny_bind (fly_note2 hfr hf R fun h1 R u => fly_flight R fun h2 R2 u2 => h h2 R2.pop (u.trans u2))
end

abbrev frs (l : List Env) : List Addr := l.filterMap (·.frame)
def FFr (h : Heap) (l : List Env) : Prop := ∀ env ∈ l, env.scope.kind ≠ .module ∧ ∃ L o, env.frame = some L ∧ h.get? L = some o ∧ ∀ vs, o.data ≠ .fields vs
theorem ffr_funs {h B : Heap} : ∀ {l : List Env}, FFr h l → (∀ b ∈ frs l, B.get? b = none) → h.FunFrames B l
  | [], _, _ => trivial
  | env :: r, x, y => by
    obtain ⟨hk, L, o, hf, ho, hd⟩ := x env (.head _)
    refine ⟨hk, ⟨L, o, hf, y L (List.mem_filterMap.mpr ⟨env, .head _, hf⟩), ho, hd⟩, ffr_funs (fun e he => x e (.tail _ he)) fun b hb => y b ?_⟩
    obtain ⟨e, he, hf⟩ := List.mem_filterMap.mp hb
    exact List.mem_filterMap.mpr ⟨e, .tail _ he, hf⟩
theorem FFr.keeps {h h' : Heap} {l : List Env} (x : FFr h l) (k : Keeps h h') : FFr h' l := fun env he =>
  let ⟨hk, L, o, hf, ho, hd⟩ := x env he; ⟨hk, L, o, hf, k _ _ ho, hd⟩
theorem FFr.up {h h' : Heap} {l : List Env} (x : FFr h l) (k : h.UpToSlots h') : FFr h' l := fun env he =>
  let ⟨hk, L, o, hf, ho, hd⟩ := x env he; let ⟨_, e⟩ := k _ _ ho hd; ⟨hk, L, _, hf, e, hd⟩
theorem FFr.push {g h h' : Heap} {l : List Env} {L a : Addr} {m : Str → Option Value} {name : Str} {scope : Scope} {cd : Value} (x : FFr h l) (k : Keeps h h') (F : Fr g L h' m) (hk : scope.kind = .function) : FFr h' (envOf name scope L a cd :: l) := fun env he => by
  rcases List.mem_cons.mp he with rfl | he
  · obtain ⟨o, es, ep, ho, hd, _⟩ := F.ns
    exact ⟨by show scope.kind ≠ .module; rw [hk]; decide, L, o, rfl, ho, fun vs q => by rw [hd] at q; cases q⟩
  · exact x.keeps k env he
theorem Fly.base {B B' : Heap} {l : List Env} {e d : Addr} {fl : Value} {h : Heap} (R : Fly B' l e d fl h) (k : B.StaysIn B') : Fly B l e d fl h := by
  obtain ⟨hkb, hen, hl, vs, sl, T, oT, ts, he, h1, hnT, r⟩ := R
  exact ⟨fun b o q => hkb b o (k b o q), fresh_of_stays k hen, funFrames_base k hl, vs, sl, T, oT, ts, he, h1, fresh_of_stays k hnT, r⟩
abbrev BH (h : Heap) (l : List Env) : Heap := hideAll h (frs l)
/-- a call has raised FormatError('place', v) -/
structure Flown (w : World) (h₀ : Heap) (l : List Env) (v : Int) (h : Heap) (e : Addr) : Prop where
  up : h₀.UpToSlots h
  fly : ∃ d ta tv k1 k2 sl, Fly (BH h₀ l) l e d .none h ∧ h₀.get? d = none ∧ d ≠ e ∧ h.get? d = some { edict w (Str.ofString "place") ta v tv k1 k2 with slots := sl }
section
variable {M : Model} {A : Around} {w : World} {E : Value → Shared → Prop} {s : Shared} {h₀ h₁ g : Heap} {m : Str → Option Value} {outer : List Env} {L a e d t : Addr} {name : Str} {scope : Scope} {cd : Value} {Q : Unit → Shared → Prop} {v : Int} {ta tv k1 k2 : Tok}
theorem flown_new (hA : A.frames = some (envOf name scope L a cd :: outer)) (x : FFr h₀ outer) (k : Keeps h₀ h₁) (kl : h₀.get? L = none) (F : Fr g L h₁ m) (k' : Keeps h₁ s.heap) (he : s.heap.get? e = some (excObjD t d)) (hen : h₁.get? e = none) (hdn : h₁.get? d = none) (hd : s.heap.get? d = some (edict w (Str.ofString "place") ta v tv k1 k2))
    (h : ∀ h', Flown w h₀ outer v h' e → Q () { s with heap := h' }) (hk : scope.kind = .function := by rfl) : wpAny M A (leaving (envOf name scope L a cd) (.ref e)) Q E s := by
  have none0 : ∀ {b : Addr}, h₁.get? b = none → h₀.get? b = none := fun {b} q => by
    cases z : h₀.get? b with
    | none => rfl
    | some o => have := k _ _ z; rw [q] at this; cases this
  have noneB : ∀ {b : Addr}, h₀.get? b = none → (BH h₀ outer).get? b = none := fun {b} q => by
    cases z : (BH h₀ outer).get? b with
    | none => rfl
    | some o => have := of_hideAll _ z; rw [q] at this; cases this
  have F' := frKeeps F k'
  have kk : Keeps h₀ s.heap := fun b o q => k' _ _ (k _ _ q)
  refine fly_leave1 (B := BH h₀ outer) hA (ffr_funs (x.push kk F' hk) fun b hb => ?_) rfl he (fun b o q => kk _ _ (of_hideAll _ q)) (noneB (none0 hen)) fun h' R u => h h' ⟨(Heap.UpToSlots.of_keeps kk).trans u, ?_⟩
  · rcases List.mem_cons.mp (show b ∈ L :: frs outer from hb) with rfl | hb
    · exact noneB kl
    · exact hideAll_none _ hb
  · obtain ⟨sl, hs⟩ := u _ _ hd (fun vs q => by cases q)
    exact ⟨d, ta, tv, k1, k2, sl, R, none0 hdn, (fun q => by subst q; rw [he] at hd; cases hd), hs⟩
theorem flown_on (hA : A.frames = some (envOf name scope L a cd :: outer)) (k : Keeps h₀ h₁) (kl : h₀.get? L = none) (R : Flown w h₁ (envOf name scope L a cd :: outer) v s.heap e)
    (h : ∀ h', Flown w h₀ outer v h' e → Q () { s with heap := h' }) : wpAny M A (leaving (envOf name scope L a cd) (.ref e)) Q E s := by
  obtain ⟨up, d, ta, tv, k1, k2, sl, R, hdn, hde, hd⟩ := R
  have st : (BH h₀ outer).StaysIn (BH h₁ (envOf name scope L a cd :: outer)) := fun b o q => hideAll_get _ (k _ _ (of_hideAll _ q)) fun hm => by
    rcases List.mem_cons.mp (show b ∈ L :: frs outer from hm) with rfl | hm
    · have := of_hideAll _ q; rw [kl] at this; cases this
    · rw [hideAll_none _ hm] at q; cases q
  refine fly_leave2 hA rfl (R.base st) fun h' R' u => h h' ⟨((Heap.UpToSlots.of_keeps k).trans up).trans u, ?_⟩
  obtain ⟨sl', hs⟩ := u _ _ hd (fun vs q => by cases q)
  exact ⟨d, ta, tv, k1, k2, sl', R', (by
    cases z : h₀.get? d with
    | none => rfl
    | some o => have := k _ _ z; rw [hdn] at this; cases this), hde, hs⟩
end
local macro_rules | `(tactic| walk_at "exec Raise some none") => `(tactic| (k_here; refine Hold.out ?_))
section
variable {prog : Program} {w : World} {dp un : Nat} {outer : List Env} {gd : Option (List Code)} {s : Shared} {Q E : Value → Shared → Prop} {g : Heap} {tl : Led} {t : Addr} {bufs : List Str} {ps : List Pc} {past fut : List (List Pc)} {x y : Int} {tx ty : Tok}
theorem check_b1 (S : St w g) (hg : Keeps g s.heap) (hdp : dp + 2 < recursionLimit) (H : HasL s.heap tl) (G : Fresh g tl) (X : TxL w tl t bufs ps past fut) (ff : FFr s.heap outer)
    (h0 : x < 0) (ret : ∀ e h' tk', Flown w s.heap outer x h' e → E (.ref e) { s with heap := h', toks := tk' }) :
    wpAny (model prog w) (Ar dp un (some outer) gd) (call (.ref 75) [.ref t, .int x tx, .int y ty]) Q E s := by
  revert X; refine TxL.elim ?_; intro d b p pa fu k1 k2 k3 k4 bv pav fuv nb npa nfu fz X
  obtain ⟨rfl, lt1, lt2, lt3, lt4, ft, fd, fb, fpa, ffu, hb, hp, hpa, hfu⟩ := X
  ktr_unf
  case led => exact (t, instObj 134 d) :: (d, tdict w k1 k2 k3 k4 b p pa fu) :: (b, W.listOf bv.toArray nb) :: (pa, W.listOf pav.toArray npa) :: (fu, W.listOf fuv.toArray nfu) :: fz
  case hled => exact fun q hq => ⟨H q hq, G q hq⟩
  intro g' h₁ mean mg mb F N KX T Kg Ks Kh Kl
  clear Kl
  have hL : s.heap.get? s.heap.objs.size = none := Heap.get?_none_of_le (Nat.le_refl _)
  (try dsimp only at *)
  (try k_fold)
  k_steps
  rename Fr _ _ _ _ => F
  rename News _ _ _ _ => N
  refine Hold.into (raise_fmt (w := w) rfl ?_)
  k_steps
  rename Fr _ _ _ _ => F
  rename News _ _ _ _ => N
  refine fmt_new (dp := dp + 1) S (fun b o e => F.keep _ _ (Kg _ _ e)) (by omega) ?_
  intro h2 tk2 e2 d2 t2 j1 j2 K2 en dn he hd2
  refine ⟨e2, t2, d2, rfl, KX.keeps fun b o q => K2 _ _ (F.keep _ _ q), he, ?_⟩
  exact flown_new rfl ff (keepsBack F H Kh (newsHas N)) hL F K2 he en dn hd2 fun h3 R => ret _ _ _ R
theorem check_b2 (S : St w g) (hg : Keeps g s.heap) (hdp : dp + 2 < recursionLimit) (H : HasL s.heap tl) (G : Fresh g tl) (X : TxL w tl t bufs ps past fut) (ff : FFr s.heap outer)
    (h0 : 0 ≤ x) (h1 : total ps < x) (ret : ∀ e h' tk', Flown w s.heap outer x h' e → E (.ref e) { s with heap := h', toks := tk' }) :
    wpAny (model prog w) (Ar dp un (some outer) gd) (call (.ref 75) [.ref t, .int x tx, .int y ty]) Q E s := by
  revert X; refine TxL.elim ?_; intro d b p pa fu k1 k2 k3 k4 bv pav fuv nb npa nfu fz X
  obtain ⟨rfl, lt1, lt2, lt3, lt4, ft, fd, fb, fpa, ffu, hb, hp, hpa, hfu⟩ := X
  ktr_unf
  case led => exact (t, instObj 134 d) :: (d, tdict w k1 k2 k3 k4 b p pa fu) :: (b, W.listOf bv.toArray nb) :: (pa, W.listOf pav.toArray npa) :: (fu, W.listOf fuv.toArray nfu) :: fz
  case hled => exact fun q hq => ⟨H q hq, G q hq⟩
  intro g' h₁ mean mg mb F N KX T Kg Ks Kh Kl
  clear Kl
  have hL : s.heap.get? s.heap.objs.size = none := Heap.get?_none_of_le (Nat.le_refl _)
  (try dsimp only at *)
  (try k_fold)
  k_steps
  (try dsimp only [List.append_nil, List.nil_append])
  rename Fr _ _ _ _ => F
  rename News _ _ _ _ => N
  refine length_spec (dp := dp + 1) S (fun b o e => F.keep _ _ (Kg _ _ e)) hdp (newsHas N) G (.head _) (.tail _ (.head _)) (hp.mono fun q hq => .tail _ (.tail _ (.tail _ (.tail _ (.tail _ hq))))) ?_
  intro u h2 tk2 K2
  replace F := frKeeps F K2
  replace N := N.grown K2
  k_steps
  (try dsimp only [List.append_nil, List.nil_append])
  rename Fr _ _ _ _ => F
  rename News _ _ _ _ => N
  refine Hold.into (raise_fmt (w := w) rfl ?_)
  k_steps
  rename Fr _ _ _ _ => F
  rename News _ _ _ _ => N
  refine fmt_new (dp := dp + 1) S (fun b o e => F.keep _ _ (Kg _ _ e)) (by omega) ?_
  intro h2 tk2 e2 d2 t2 j1 j2 K2 en dn he hd2
  refine ⟨e2, t2, d2, rfl, KX.keeps fun b o q => K2 _ _ (F.keep _ _ q), he, ?_⟩
  exact flown_new rfl ff (keepsBack F H Kh (newsHas N)) hL F K2 he en dn hd2 fun h3 R => ret _ _ _ R
theorem check_b3 (S : St w g) (hg : Keeps g s.heap) (hdp : dp + 2 < recursionLimit) (H : HasL s.heap tl) (G : Fresh g tl) (X : TxL w tl t bufs ps past fut) (ff : FFr s.heap outer)
    (h0 : 0 ≤ x) (h1 : x ≤ total ps) (h2 : y < x) (ret : ∀ e h' tk', Flown w s.heap outer y h' e → E (.ref e) { s with heap := h', toks := tk' }) :
    wpAny (model prog w) (Ar dp un (some outer) gd) (call (.ref 75) [.ref t, .int x tx, .int y ty]) Q E s := by
  revert X; refine TxL.elim ?_; intro d b p pa fu k1 k2 k3 k4 bv pav fuv nb npa nfu fz X
  obtain ⟨rfl, lt1, lt2, lt3, lt4, ft, fd, fb, fpa, ffu, hb, hp, hpa, hfu⟩ := X
  ktr_unf
  case led => exact (t, instObj 134 d) :: (d, tdict w k1 k2 k3 k4 b p pa fu) :: (b, W.listOf bv.toArray nb) :: (pa, W.listOf pav.toArray npa) :: (fu, W.listOf fuv.toArray nfu) :: fz
  case hled => exact fun q hq => ⟨H q hq, G q hq⟩
  intro g' h₁ mean mg mb F N KX T Kg Ks Kh Kl
  clear Kl
  have hL : s.heap.get? s.heap.objs.size = none := Heap.get?_none_of_le (Nat.le_refl _)
  (try dsimp only at *)
  (try k_fold)
  k_steps
  (try dsimp only [List.append_nil, List.nil_append])
  rename Fr _ _ _ _ => F
  rename News _ _ _ _ => N
  refine length_spec (dp := dp + 1) S (fun b o e => F.keep _ _ (Kg _ _ e)) hdp (newsHas N) G (.head _) (.tail _ (.head _)) (hp.mono fun q hq => .tail _ (.tail _ (.tail _ (.tail _ (.tail _ hq))))) ?_
  intro u h2 tk2 K2
  replace F := frKeeps F K2
  replace N := N.grown K2
  k_steps
  (try dsimp only [List.append_nil, List.nil_append])
  rename Fr _ _ _ _ => F
  rename News _ _ _ _ => N
  refine Hold.into (raise_fmt (w := w) rfl ?_)
  k_steps
  rename Fr _ _ _ _ => F
  rename News _ _ _ _ => N
  refine fmt_new (dp := dp + 1) S (fun b o e => F.keep _ _ (Kg _ _ e)) (by omega) ?_
  intro h2 tk2 e2 d2 t2 j1 j2 K2 en dn he hd2
  refine ⟨e2, t2, d2, rfl, KX.keeps fun b o q => K2 _ _ (F.keep _ _ q), he, ?_⟩
  exact flown_new rfl ff (keepsBack F H Kh (newsHas N)) hL F K2 he en dn hd2 fun h3 R => ret _ _ _ R
theorem check_b4 (S : St w g) (hg : Keeps g s.heap) (hdp : dp + 2 < recursionLimit) (H : HasL s.heap tl) (G : Fresh g tl) (X : TxL w tl t bufs ps past fut) (ff : FFr s.heap outer)
    (h0 : 0 ≤ x) (h1 : x ≤ total ps) (h2 : x ≤ y) (h3 : total ps < y) (ret : ∀ e h' tk', Flown w s.heap outer y h' e → E (.ref e) { s with heap := h', toks := tk' }) :
    wpAny (model prog w) (Ar dp un (some outer) gd) (call (.ref 75) [.ref t, .int x tx, .int y ty]) Q E s := by
  revert X; refine TxL.elim ?_; intro d b p pa fu k1 k2 k3 k4 bv pav fuv nb npa nfu fz X
  obtain ⟨rfl, lt1, lt2, lt3, lt4, ft, fd, fb, fpa, ffu, hb, hp, hpa, hfu⟩ := X
  ktr_unf
  case led => exact (t, instObj 134 d) :: (d, tdict w k1 k2 k3 k4 b p pa fu) :: (b, W.listOf bv.toArray nb) :: (pa, W.listOf pav.toArray npa) :: (fu, W.listOf fuv.toArray nfu) :: fz
  case hled => exact fun q hq => ⟨H q hq, G q hq⟩
  intro g' h₁ mean mg mb F N KX T Kg Ks Kh Kl
  clear Kl
  have hL : s.heap.get? s.heap.objs.size = none := Heap.get?_none_of_le (Nat.le_refl _)
  (try dsimp only at *)
  (try k_fold)
  k_steps
  (try dsimp only [List.append_nil, List.nil_append])
  rename Fr _ _ _ _ => F
  rename News _ _ _ _ => N
  refine length_spec (dp := dp + 1) S (fun b o e => F.keep _ _ (Kg _ _ e)) hdp (newsHas N) G (.head _) (.tail _ (.head _)) (hp.mono fun q hq => .tail _ (.tail _ (.tail _ (.tail _ (.tail _ hq))))) ?_
  intro u h2 tk2 K2
  replace F := frKeeps F K2
  replace N := N.grown K2
  k_steps
  (try dsimp only [List.append_nil, List.nil_append])
  rename Fr _ _ _ _ => F
  rename News _ _ _ _ => N
  refine length_spec (dp := dp + 1) S (fun b o e => F.keep _ _ (Kg _ _ e)) hdp (newsHas N) G (.head _) (.tail _ (.head _)) (hp.mono fun q hq => .tail _ (.tail _ (.tail _ (.tail _ (.tail _ hq))))) ?_
  intro u h2 tk2 K2
  replace F := frKeeps F K2
  replace N := N.grown K2
  k_steps
  (try dsimp only [List.append_nil, List.nil_append])
  rename Fr _ _ _ _ => F
  rename News _ _ _ _ => N
  refine Hold.into (raise_fmt (w := w) rfl ?_)
  k_steps
  rename Fr _ _ _ _ => F
  rename News _ _ _ _ => N
  refine fmt_new (dp := dp + 1) S (fun b o e => F.keep _ _ (Kg _ _ e)) (by omega) ?_
  intro h2 tk2 e2 d2 t2 j1 j2 K2 en dn he hd2
  refine ⟨e2, t2, d2, rfl, KX.keeps fun b o q => K2 _ _ (F.keep _ _ q), he, ?_⟩
  exact flown_new rfl ff (keepsBack F H Kh (newsHas N)) hL F K2 he en dn hd2 fun h3 R => ret _ _ _ R
/-- the first of the two places that is none -/
def badOf (n x y : Int) : Option Int := if x < 0 ∨ n < x then some x else if y < x ∨ n < y then some y else none
theorem check_bad (S : St w g) (hg : Keeps g s.heap) (hdp : dp + 2 < recursionLimit) (H : HasL s.heap tl) (G : Fresh g tl) (X : TxL w tl t bufs ps past fut) (ff : FFr s.heap outer)
    {v : Int} (hb : badOf (total ps) x y = some v) (ret : ∀ e h' tk', Flown w s.heap outer v h' e → E (.ref e) { s with heap := h', toks := tk' }) :
    wpAny (model prog w) (Ar dp un (some outer) gd) (call (.ref 75) [.ref t, .int x tx, .int y ty]) Q E s := by
  unfold badOf at hb
  split at hb
  · cases hb
    by_cases h0 : x < 0
    · exact check_b1 S hg hdp H G X ff h0 ret
    · exact check_b2 S hg hdp H G X ff (by omega) (by omega) ret
  · split at hb
    · cases hb
      by_cases h0 : y < x
      · exact check_b3 S hg hdp H G X ff (by omega) (by omega) h0 ret
      · exact check_b4 S hg hdp H G X ff (by omega) (by omega) (by omega) (by omega) ret
    · cases hb
end
section
variable {prog : Program} {w : World} {dp un : Nat} {outer : List Env} {gd : Option (List Code)} {s : Shared} {Q E : Value → Shared → Prop} {g : Heap} {tl : Led} {t : Addr} {bufs : List Str} {ps : List Pc} {past fut : List (List Pc)} {x y : Int} {tx ty ta : Tok} {added : Str}
theorem insert_bad (S : St w g) (hg : Keeps g s.heap) (hdp : dp + 3 < recursionLimit) (H : HasL s.heap tl) (G : Fresh g tl) (X : TxL w tl t bufs ps past fut) (ff : FFr s.heap outer)
    {v : Int} (hb : badOf (total ps) x x = some v) (ret : ∀ e h' tk', Flown w s.heap outer v h' e → E (.ref e) { s with heap := h', toks := tk' }) :
    wpAny (model prog w) (Ar dp un (some outer) gd) (call (.ref 89) [.ref t, .int x tx, .str added ta]) Q E s := by
  have X' := X
  revert X; refine TxL.elim ?_; intro d b p pa fu k1 k2 k3 k4 bv pav fuv nb npa nfu fz X
  obtain ⟨rfl, lt1, lt2, lt3, lt4, ft, fd, fb, fpa, ffu, hb', hp, hpa, hfu⟩ := X
  ktr_unf
  case led => exact (t, instObj 134 d) :: (d, tdict w k1 k2 k3 k4 b p pa fu) :: (b, W.listOf bv.toArray nb) :: (pa, W.listOf pav.toArray npa) :: (fu, W.listOf fuv.toArray nfu) :: fz
  case hled => exact fun q hq => ⟨H q hq, G q hq⟩
  intro g' h₁ mean mg mb F N KX T Kg Ks Kh Kl
  clear Kl
  have hL : s.heap.get? s.heap.objs.size = none := Heap.get?_none_of_le (Nat.le_refl _)
  (try dsimp only at *)
  (try k_fold)
  k_steps
  (try dsimp only [List.append_nil, List.nil_append])
  rename Fr _ _ _ _ => F
  rename News _ _ _ _ => N
  have kb := keepsBack F H Kh (newsHas N)
  refine check_bad (dp := dp + 1) S (fun b o e => F.keep _ _ (Kg _ _ e)) hdp (newsHas N) G X' (ff.push kb F rfl) hb ?_
  intro e2 h2 tk2 R
  exact flown_on rfl kb hL R fun h3 R => ret _ _ _ R
theorem delete_bad (S : St w g) (hg : Keeps g s.heap) (hdp : dp + 3 < recursionLimit) (H : HasL s.heap tl) (G : Fresh g tl) (X : TxL w tl t bufs ps past fut) (ff : FFr s.heap outer)
    {v : Int} (hb : badOf (total ps) x y = some v) (ret : ∀ e h' tk', Flown w s.heap outer v h' e → E (.ref e) { s with heap := h', toks := tk' }) :
    wpAny (model prog w) (Ar dp un (some outer) gd) (call (.ref 96) [.ref t, .int x tx, .int y ty]) Q E s := by
  have X' := X
  revert X; refine TxL.elim ?_; intro d b p pa fu k1 k2 k3 k4 bv pav fuv nb npa nfu fz X
  obtain ⟨rfl, lt1, lt2, lt3, lt4, ft, fd, fb, fpa, ffu, hb', hp, hpa, hfu⟩ := X
  ktr_unf
  case led => exact (t, instObj 134 d) :: (d, tdict w k1 k2 k3 k4 b p pa fu) :: (b, W.listOf bv.toArray nb) :: (pa, W.listOf pav.toArray npa) :: (fu, W.listOf fuv.toArray nfu) :: fz
  case hled => exact fun q hq => ⟨H q hq, G q hq⟩
  intro g' h₁ mean mg mb F N KX T Kg Ks Kh Kl
  clear Kl
  have hL : s.heap.get? s.heap.objs.size = none := Heap.get?_none_of_le (Nat.le_refl _)
  (try dsimp only at *)
  (try k_fold)
  k_steps
  (try dsimp only [List.append_nil, List.nil_append])
  rename Fr _ _ _ _ => F
  rename News _ _ _ _ => N
  have kb := keepsBack F H Kh (newsHas N)
  refine check_bad (dp := dp + 1) S (fun b o e => F.keep _ _ (Kg _ _ e)) hdp (newsHas N) G X' (ff.push kb F rfl) hb ?_
  intro e2 h2 tk2 R
  exact flown_on rfl kb hL R fun h3 R => ret _ _ _ R
theorem replace_bad (S : St w g) (hg : Keeps g s.heap) (hdp : dp + 3 < recursionLimit) (H : HasL s.heap tl) (G : Fresh g tl) (X : TxL w tl t bufs ps past fut) (ff : FFr s.heap outer)
    {v : Int} (hb : badOf (total ps) x y = some v) (ret : ∀ e h' tk', Flown w s.heap outer v h' e → E (.ref e) { s with heap := h', toks := tk' }) :
    wpAny (model prog w) (Ar dp un (some outer) gd) (call (.ref 103) [.ref t, .int x tx, .int y ty, .str added ta]) Q E s := by
  have X' := X
  revert X; refine TxL.elim ?_; intro d b p pa fu k1 k2 k3 k4 bv pav fuv nb npa nfu fz X
  obtain ⟨rfl, lt1, lt2, lt3, lt4, ft, fd, fb, fpa, ffu, hb', hp, hpa, hfu⟩ := X
  ktr_unf
  case led => exact (t, instObj 134 d) :: (d, tdict w k1 k2 k3 k4 b p pa fu) :: (b, W.listOf bv.toArray nb) :: (pa, W.listOf pav.toArray npa) :: (fu, W.listOf fuv.toArray nfu) :: fz
  case hled => exact fun q hq => ⟨H q hq, G q hq⟩
  intro g' h₁ mean mg mb F N KX T Kg Ks Kh Kl
  clear Kl
  have hL : s.heap.get? s.heap.objs.size = none := Heap.get?_none_of_le (Nat.le_refl _)
  (try dsimp only at *)
  (try k_fold)
  k_steps
  (try dsimp only [List.append_nil, List.nil_append])
  rename Fr _ _ _ _ => F
  rename News _ _ _ _ => N
  have kb := keepsBack F H Kh (newsHas N)
  refine check_bad (dp := dp + 1) S (fun b o e => F.keep _ _ (Kg _ _ e)) hdp (newsHas N) G X' (ff.push kb F rfl) hb ?_
  intro e2 h2 tk2 R
  exact flown_on rfl kb hL R fun h3 R => ret _ _ _ R
theorem read_bad (S : St w g) (hg : Keeps g s.heap) (hdp : dp + 3 < recursionLimit) (H : HasL s.heap tl) (G : Fresh g tl) (X : TxL w tl t bufs ps past fut) (ff : FFr s.heap outer)
    {v : Int} (hb : badOf (total ps) x y = some v) (ret : ∀ e h' tk', Flown w s.heap outer v h' e → E (.ref e) { s with heap := h', toks := tk' }) :
    wpAny (model prog w) (Ar dp un (some outer) gd) (call (.ref 110) [.ref t, .int x tx, .int y ty]) Q E s := by
  have X' := X
  revert X; refine TxL.elim ?_; intro d b p pa fu k1 k2 k3 k4 bv pav fuv nb npa nfu fz X
  obtain ⟨rfl, lt1, lt2, lt3, lt4, ft, fd, fb, fpa, ffu, hb', hp, hpa, hfu⟩ := X
  ktr_unf
  case led => exact (t, instObj 134 d) :: (d, tdict w k1 k2 k3 k4 b p pa fu) :: (b, W.listOf bv.toArray nb) :: (pa, W.listOf pav.toArray npa) :: (fu, W.listOf fuv.toArray nfu) :: fz
  case hled => exact fun q hq => ⟨H q hq, G q hq⟩
  intro g' h₁ mean mg mb F N KX T Kg Ks Kh Kl
  clear Kl
  have hL : s.heap.get? s.heap.objs.size = none := Heap.get?_none_of_le (Nat.le_refl _)
  (try dsimp only at *)
  (try k_fold)
  k_steps
  (try dsimp only [List.append_nil, List.nil_append])
  rename Fr _ _ _ _ => F
  rename News _ _ _ _ => N
  have kb := keepsBack F H Kh (newsHas N)
  refine check_bad (dp := dp + 1) S (fun b o e => F.keep _ _ (Kg _ _ e)) hdp (newsHas N) G X' (ff.push kb F rfl) hb ?_
  intro e2 h2 tk2 R
  exact flown_on rfl kb hL R fun h3 R => ret _ _ _ R
end

open Builtin Builtin.ObjectAttr in
/-- an attribute of our exception -/
theorem fmt_get {prog : Program} {w : World} {A : Around} {s : Shared} {E : Value → Shared → Prop} {x : Addr} {ox od : Obj} {name : Str} {v : Value} {expr : Bool} {Q : Value → Shared → Prop} (X : (Mine.kdef.heap_1 w.params).In s.heap) (I : InstAt s.heap x ox 44 (some od))
    (hf : findObj (Mine.kdef.heap_1 w.params) 44 (some od) name = some (.value v)) (hh : handedIn v = true) (h : Q v { s with toks := s.toks + 1 }) : wpAny (model prog w) A (getAttr (.ref x) name expr) Q E s := by
  obtain ⟨hp, g, dr, t, os⟩ := s
  have L0 := I.type (M := model prog w)
  have L1 := looks_findIn (M := model prog w) X (t := .ref 44) (name := "__getattribute__") (r := some (.builtin "BaseException.__getattribute__")) (by k_is)
  have L2 := looks_find (M := model prog w) X I hf
  have LH : Looks (model prog w) hp (hookBefore (.ref 44)) none := looks_hook X (by rw [if_pos (by rfl)]; k_is)
  have LS : Looks (model prog w) hp (isInstance (.ref x) (.type "BaseException")) true := L0.andThen (looks_mroIn X (by k_is))
  have G : Slot "Exception" "__getattribute__" "BaseException.__getattribute__" := PySem.F.attr_Exception.ga
  unfold getAttr getAttrBy
  refine wpAny_bind (wpAny_mkText (wpAny_holding (wpAny_bind (L0.at (wpAny_bind (L1.at ?_))))))
  (try dsimp only)
  rw [show (Value.builtin "BaseException.__getattribute__" == Value.builtin "object.__getattribute__") = false from by decide +kernel, Bool.and_false, if_neg (by decide)]
  unfold getAttrByItsOwn
  refine wpAny_bind (LH.at (wpAny_bind (wpAny_attempt (wpAny_holding ?_))))
  unfold callGetattribute
  rw [show (expr && onTheHeap (Value.builtin "BaseException.__getattribute__")) = false from Bool.and_false _, if_neg (by decide)]
  unfold boundAndCalled
  rw [G.bind]
  refine wpAny_bind (wpAny_pure ?_)
  show wpAny _ _ (call (.builtin "BaseException.__getattribute__") [.ref x, .str name t]) _ _ _
  refine wpAny_call ?_
  refine codeAny_call_builtin G.plain PySem.F.entry_bexc_ga ?_
  refine @check_slot (model prog w) _ _ { heap := hp, gens := g, drawn := dr, toks := t + 1, os := os } "BaseException.__getattribute__" "BaseException" "__getattribute__" (.ref x) [.str name t] [] _ (by decide +kernel) (by decide +kernel) LS (PySem.F.args_bexc_ga (.ref x) (.str name t)) ?_
  refine wpAny_bind (wpAny_pure (wpAny_bind (wpAny_pure (wpAny_bind (L0.at (wpAny_bind (L2.at ?_)))))))
  refine wpAny_pure ?_
  show wpAny _ _ (handedOut v) _ _ _
  rw [handedOut_of hh]; exact wpAny_pure h

theorem fmt_handle {prog : Program} {w : World} {A : Around} {E : Value → Shared → Prop} {s : Shared} {env : Env} {e : Addr} {t : Expr} {n : Str} {b₀ : Stmt} {suite : List Stmt} {pos : Pos} {rest : List ExceptHandler} {Q : Flow → Shared → Prop}
    (h : wpAny (model prog w) (A.mark (some (.ref e))) (eval t env) (fun c s₁ => c = .ref 44 ∧ (Mine.kdef.heap_1 w.params).In s₁.heap ∧ (∃ oe, s₁.heap.get? e = some oe ∧ oe.cls = .ref 44) ∧
      wpAny (model prog w) (A.mark (some (.ref e))) (setFlight (.ref e) none) (fun _ s₂ =>
          wpAny (model prog w) (A.mark (some (.ref e))) (storeName env n (.ref e)) (fun _ s₃ =>
            wpAny (model prog w) (A.mark (some (.ref e))) (execs (b₀ :: suite) env)
              (fun f s₄ => wpAny (model prog w) A (do bindName env n .none; unbindBehindTheSuite env n pos) (fun _ s₅ => Q f s₅) E s₄)
              (AsSuiteRaised (model prog w) (A.mark (some (.ref e))) env n pos (notedBy (model prog w) (A.mark (some (.ref e))) env (cameBackBy (model prog w) A env E))) s₃) (notedBy (model prog w) (A.mark (some (.ref e))) env (cameBackBy (model prog w) A env E)) s₂) (notedBy (model prog w) (A.mark (some (.ref e))) env (cameBackBy (model prog w) A env E)) s₁) (notedBy (model prog w) (A.mark (some (.ref e))) env (cameBackBy (model prog w) A env E)) s) :
    wpAny (model prog w) A (handleBy (.ref e) env (.ExceptHandler (some t) (some n) (b₀ :: suite) pos :: rest)) Q E s := by
  refine wpAny_handleBy_cons (codeAny_handlers_test (wpAny_mono h (fun c s₁ h₁ => ?_) fun _ _ y => y)) (by intro q; cases q)
  obtain ⟨rfl, X, ⟨oe, he, hcls⟩, hk⟩ := h₁
  obtain ⟨hh, g, d, tk, os⟩ := s₁
  exact wpAny_excMatches_sub_self (fmt_at X) he hcls (by decide) (codeAny_handlers_suite_as hk)

/-- our exception is caught by its name in the frame -/
theorem fmt_caught {prog : Program} {w : World} {dp un : Nat} {gd : Option (List Code)} {E : Value → Shared → Prop} {s' : Shared} {g h : Heap} {L Lo a e : Addr} {envL : Env} {m : Str → Option Value} {name : Str} {scope : Scope} {cd : Value} {v : Int}
    {n : Str} {b₀ : Stmt} {suite : List Stmt} {pos np : Pos} {rest : List ExceptHandler} {Q : Flow → Shared → Prop} {oL : Obj} {xl : Led} {mean : ExcName → Option Value} {mg mb : Str → Option Value}
    (F : Fr g L h m) (N : News g L h ((Lo, oL) :: xl)) (hn : NeL xl Lo) (hoL : ∀ vs, oL.data ≠ .fields vs) (hfL : envL.frame = some Lo) (KX : (Mine.kdef.heap_1 w.params).In g) (T : Top Mine.vw LL mean mg mb g)
    (R : Flown w h [envOf name scope L a cd, envL] v s'.heap e)
    (k : ∀ h' tk d oe od sl ta tv k1 k2, Fr g L h' (fun y => if y = n then some (.ref e) else m y) → News g L h' ((e, oe) :: (d, od) :: (Lo, { oL with slots := sl }) :: xl) → NeL ((e, oe) :: (d, od) :: xl) Lo →
      InstAt h' e oe 44 (some od) → od = { edict w (Str.ofString "place") ta v tv k1 k2 with slots := od.slots } →
      wpAny (model prog w) (((Ar dp un (some [envL]) gd).deeper (envOf name scope L a cd)).mark (some (.ref e))) (execs (b₀ :: suite) (envOf name scope L a cd))
        (fun f s₄ => wpAny (model prog w) ((Ar dp un (some [envL]) gd).deeper (envOf name scope L a cd)) (do bindName (envOf name scope L a cd) n .none; unbindBehindTheSuite (envOf name scope L a cd) n pos) (fun _ s₅ => Q f s₅) E s₄)
        (AsSuiteRaised (model prog w) (((Ar dp un (some [envL]) gd).deeper (envOf name scope L a cd)).mark (some (.ref e))) (envOf name scope L a cd) n pos (notedBy (model prog w) (((Ar dp un (some [envL]) gd).deeper (envOf name scope L a cd)).mark (some (.ref e))) (envOf name scope L a cd) (cameBackBy (model prog w) ((Ar dp un (some [envL]) gd).deeper (envOf name scope L a cd)) (envOf name scope L a cd) E)))
        { s' with heap := h', toks := tk })
    (hk : scope.kind = .function := by rfl) (hlo : (envOf name scope L a cd).kindOf n = some .local := by rfl) (hx : (envOf name scope L a cd).kindOf (Str.ofString "FormatError") = some .globalImplicit := by rfl) :
    wpAny (model prog w) ((Ar dp un (some [envL]) gd).deeper (envOf name scope L a cd)) (noteFrame (.ref e) (envOf name scope L a cd))
      (fun _ s₂ => wpAny (model prog w) ((Ar dp un (some [envL]) gd).deeper (envOf name scope L a cd)) (setFlight (.ref e) none) (fun _ s₃ =>
        wpAny (model prog w) ((Ar dp un (some [envL]) gd).deeper (envOf name scope L a cd)) (handleBy (.ref e) (envOf name scope L a cd) (.ExceptHandler (some (.Name (Str.ofString "FormatError") np)) (some n) (b₀ :: suite) pos :: rest)) Q E s₃) E s₂) E s' := by
  obtain ⟨up, d, ta, tv, k1, k2, sl0, R, hdn, hde, hd0⟩ := R
  refine fly_note2 rfl rfl R fun h1 R u1 => fly_flight R fun h2 R u2 => ?_
  have hgLo := (N _ (.head _)).2.2
  have hgL : g.get? L = none := kts_self F
  have bh : ∀ b o, h.get? b = some o → @Ne Nat b L → @Ne Nat b Lo → (BH h [envOf name scope L a cd, envL]).get? b = some o := fun b o q h1 h2 => hideAll_get _ q fun hm => by
    have hfr : frs [envOf name scope L a cd, envL] = [L, Lo] := by have e : (envOf name scope L a cd).frame = some L := rfl; simp [frs, e, hfL]
    rcases List.mem_cons.mp (show b ∈ [L, Lo] from hfr ▸ hm) with z | z
    · exact h1 z
    · exact h2 (List.mem_singleton.mp z)
  have frOf : ∀ {h3}, (BH h [envOf name scope L a cd, envL]).StaysIn h3 → h.UpToSlots h3 → Fr g L h3 m := fun st u => ⟨u.ns F.ns, fun b o q => st _ _ (bh b o (F.keep b o q) (fun z => by subst z; rw [hgL] at q; cases q) fun z => by subst z; rw [hgLo] at q; cases q), F.above⟩
  have up2 := (up.trans u1).trans u2
  have F2 := frOf R.stay up2
  refine fmt_handle (ld_global_at F2 T.g (mg_of KX T.g (show nsIn (Mine.kdef.heap_1 w.params) mainGlobals (Str.ofString "FormatError") = some (some (.ref 44)) by k_is)) ⟨rfl, KX.keeps F2.keep, ?_, ?_⟩ hk hx (by decide))
  · obtain ⟨vs, sl, _, _, _, he, _⟩ := R.exc
    exact ⟨_, he, rfl⟩
  refine fly_flight R fun h3 R u3 => ?_
  have up3 := up2.trans u3
  have F3 := frOf R.stay up3
  obtain ⟨sl1, hL1⟩ := up3 _ _ (N _ (.head _)).1 hoL
  obtain ⟨sl2, hd2⟩ := ((u1.trans u2).trans u3) _ _ hd0 (fun vs q => by cases q)
  obtain ⟨vs, sl, _, _, _, he, _⟩ := R.exc
  have gn : ∀ {b : Addr}, h.get? b = none → g.get? b = none := fun {b} q => by
    cases z : g.get? b with
    | none => rfl
    | some o => have := F.keep _ _ z; rw [q] at this; cases this
  have eLo : @Ne Nat e Lo := fun z => by
    subst z
    exact hoL vs (congrArg Obj.data (Option.some.inj (hL1.symm.trans he)))
  have eL : @Ne Nat e L := fun z => by
    subst z
    obtain ⟨o, es, ep, ho, hd', _⟩ := F3.ns
    rw [he] at ho
    cases ho
    cases hd'
  have ge : g.get? e = none := by
    cases z : g.get? e with
    | none => rfl
    | some o => have := bh _ _ (F.keep _ _ z) eL eLo; rw [R.fresh] at this; cases this
  have dLo : @Ne Nat d Lo := fun z => by
    have := (N _ (.head _)).1
    rw [← z, hdn] at this
    cases this
  have dL : @Ne Nat d L := fun z => by
    obtain ⟨o, es, ep, ho, _⟩ := F.ns
    rw [← z, hdn] at ho
    cases ho
  have N3 : News g L h3 ((e, { cls := .ref 44, dict := some d, data := .fields vs, slots := sl }) :: (d, { edict w (Str.ofString "place") ta v tv k1 k2 with slots := sl2 }) :: (Lo, { oL with slots := sl1 }) :: xl) := fun q hq => by
    rcases List.mem_cons.mp hq with rfl | hq
    · exact ⟨he, eL, ge⟩
    rcases List.mem_cons.mp hq with rfl | hq
    · exact ⟨hd2, dL, gn hdn⟩
    rcases List.mem_cons.mp hq with rfl | hq
    · exact ⟨hL1, (N _ (.head _)).2⟩
    · have := N q (.tail _ hq)
      exact ⟨R.stay _ _ (bh _ _ this.1 this.2.1 (hn q hq)), this.2⟩
  refine stN F3 N3 (fun h4 F4 N4 => ?_) hk hlo
  exact k h4 _ d _ _ sl1 ta tv k1 k2 F4 N4 (NeL.cons eLo (NeL.cons dLo hn)) ⟨(N4 _ (.head _)).1, rfl, rfl, (N4 _ (.tail _ (.head _))).1⟩ rfl
theorem what_of {w : World} {od : Obj} {ta tv k1 k2 : Tok} {v : Int} (h : od = { edict w (Str.ofString "place") ta v tv k1 k2 with slots := od.slots }) : findObj (Mine.kdef.heap_1 w.params) 44 (some od) (Str.ofString "what") = some (.value (.str (Str.ofString "place") ta)) :=
  findObj_own (attr := none) (by k_is) (by k_is) rfl (by rw [h]; rfl)
theorem at_of {w : World} {od : Obj} {ta tv k1 k2 : Tok} {v : Int} (h : od = { edict w (Str.ofString "place") ta v tv k1 k2 with slots := od.slots }) : findObj (Mine.kdef.heap_1 w.params) 44 (some od) (Str.ofString "at") = some (.value (.int v tv)) :=
  findObj_own (attr := none) (by k_is) (by k_is) rfl (by rw [h]; rfl)

section
variable {prog : Program} {w : World} {dp un : Nat} {fr : Option (List Env)} {gd : Option (List Code)} {s : Shared} {Q E : Value → Shared → Prop} {g₀ g : Heap} {L : Addr} {m : Str → Option Value} {other xl : Led}
theorem off_of {h h' : Heap} {xl' : Led} (F : Fr g L h m) (N : News g L h (other ++ xl)) (D : Disj other xl) (X : Left xl xl' h h') : Fr g L h' m ∧ News g L h' (other ++ xl') ∧ Disj other xl' :=
  callOff F N X (fun _ hq => List.mem_append_right _ hq) (fun _ hq => List.mem_append_left _ hq) D
theorem sub_has {h : Heap} (N : News g L h (other ++ xl)) : HasL h xl := fun _ hq => newsHas N _ (List.mem_append_right _ hq)
theorem sub_fresh {h : Heap} (N : News g L h (other ++ xl)) (Kg : Keeps g₀ g) : Fresh g₀ xl := fun _ hq => freshOf N Kg _ (List.mem_append_right _ hq)
theorem pick_on {hand : Addr} {lim : Int} {tl : Tok} (S : St w g₀) (Kg : Keeps g₀ g) (F : Fr g L s.heap m) (N : News g L s.heap (other ++ xl)) (D : Disj other xl) (hdp : dp + 1 < recursionLimit) (X : HandL xl hand) (h0 : 0 < lim) (h1 : lim < 2 ^ 30)
    (ret : ∀ xl' h' tk' (k : Nat) u, Fr g L h' m → News g L h' (other ++ xl') → Disj other xl' → HandL xl' hand → (k : Int) < lim → Q (.int (k : Int) u) { s with heap := h', toks := tk' }) :
    wpAny (model prog w) (Ar dp un fr gd) (call (.ref 194) [.ref hand, .int lim tl]) Q E s := by
  refine pick_spec S (fun b o e => F.keep _ _ (Kg _ _ e)) hdp (sub_has N) (sub_fresh N Kg) X h0 h1 fun xl' h' tk' k u L1 X' k0 k1 => ?_
  obtain ⟨k, rfl⟩ := Int.eq_ofNat_of_zero_le k0
  obtain ⟨F, N, D⟩ := off_of F N D L1
  exact ret _ _ _ _ _ F N D X' k1
theorem letters_on {hand : Addr} (S : St w g₀) (Kg : Keeps g₀ g) (F : Fr g L s.heap m) (N : News g L s.heap (other ++ xl)) (D : Disj other xl) (hdp : dp + 2 < recursionLimit) (X : HandL xl hand)
    (ret : ∀ xl' h' tk' x u, Fr g L h' m → News g L h' (other ++ xl') → Disj other xl' → HandL xl' hand → x.length ≤ 4 → OkS x → Q (.str x u) { s with heap := h', toks := tk' }) :
    wpAny (model prog w) (Ar dp un fr gd) (call (.ref 199) [.ref hand]) Q E s := by
  refine letters_spec S (fun b o e => F.keep _ _ (Kg _ _ e)) hdp (sub_has N) (sub_fresh N Kg) X fun xl' h' tk' x u L1 X' hx hok => ?_
  obtain ⟨F, N, D⟩ := off_of F N D L1
  exact ret _ _ _ _ _ F N D X' hx hok
theorem insert_on {t : Addr} {T₀ : TS} {x : Int} {tx ta : Tok} {added : Str} (S : St w g₀) (Kg : Keeps g₀ g) (F : Fr g L s.heap m) (N : News g L s.heap (other ++ xl)) (D : Disj other xl) (hdp : dp + 3 < recursionLimit) (X : TxS w xl t T₀) (Z : T₀.Fits)
    (h0 : 0 ≤ x) (h1 : x ≤ T₀.len) (hal : added.length < 2 ^ 22) (ret : ∀ xl' h' tk', Fr g L h' m → News g L h' (other ++ xl') → Disj other xl' → TxS w xl' t (T₀.insert x added) → Q .none { s with heap := h', toks := tk' }) :
    wpAny (model prog w) (Ar dp un fr gd) (call (.ref 89) [.ref t, .int x tx, .str added ta]) Q E s := by
  refine insert_spec S (fun b o e => F.keep _ _ (Kg _ _ e)) hdp (sub_has N) (sub_fresh N Kg) X Z h0 h1 hal fun xl' h' tk' L1 X' => ?_
  obtain ⟨F, N, D⟩ := off_of F N D L1
  exact ret _ _ _ F N D X'
theorem delete_on {t : Addr} {T₀ : TS} {x y : Int} {tx ty : Tok} (S : St w g₀) (Kg : Keeps g₀ g) (F : Fr g L s.heap m) (N : News g L s.heap (other ++ xl)) (D : Disj other xl) (hdp : dp + 3 < recursionLimit) (X : TxS w xl t T₀) (Z : T₀.Fits)
    (h0 : 0 ≤ x) (h1 : x ≤ y) (h2 : y ≤ T₀.len) (ret : ∀ xl' h' tk', Fr g L h' m → News g L h' (other ++ xl') → Disj other xl' → TxS w xl' t (T₀.delete x y) → Q .none { s with heap := h', toks := tk' }) :
    wpAny (model prog w) (Ar dp un fr gd) (call (.ref 96) [.ref t, .int x tx, .int y ty]) Q E s := by
  refine delete_spec S (fun b o e => F.keep _ _ (Kg _ _ e)) hdp (sub_has N) (sub_fresh N Kg) X Z h0 h1 h2 fun xl' h' tk' L1 X' => ?_
  obtain ⟨F, N, D⟩ := off_of F N D L1
  exact ret _ _ _ F N D X'
theorem replace_on {t : Addr} {T₀ : TS} {x y : Int} {tx ty ta : Tok} {added : Str} (S : St w g₀) (Kg : Keeps g₀ g) (F : Fr g L s.heap m) (N : News g L s.heap (other ++ xl)) (D : Disj other xl) (hdp : dp + 4 < recursionLimit) (X : TxS w xl t T₀) (Z : T₀.Fits)
    (h0 : 0 ≤ x) (h1 : x ≤ y) (h2 : y ≤ T₀.len) (hal : added.length < 2 ^ 22) (ret : ∀ xl' h' tk', Fr g L h' m → News g L h' (other ++ xl') → Disj other xl' → TxS w xl' t (T₀.replace x y added) → Q .none { s with heap := h', toks := tk' }) :
    wpAny (model prog w) (Ar dp un fr gd) (call (.ref 103) [.ref t, .int x tx, .int y ty, .str added ta]) Q E s := by
  refine replace_spec S (fun b o e => F.keep _ _ (Kg _ _ e)) hdp (sub_has N) (sub_fresh N Kg) X Z h0 h1 h2 hal fun xl' h' tk' L1 X' => ?_
  obtain ⟨F, N, D⟩ := off_of F N D L1
  exact ret _ _ _ F N D X'
theorem copy_on {t : Addr} {T₀ : TS} {x y z : Int} {tx ty tz : Tok} (S : St w g₀) (Kg : Keeps g₀ g) (F : Fr g L s.heap m) (N : News g L s.heap (other ++ xl)) (D : Disj other xl) (hdp : dp + 5 < recursionLimit) (X : TxS w xl t T₀) (Z : T₀.Fits) (V : Valid T₀.bufs T₀.ps)
    (h0 : 0 ≤ x) (h1 : x ≤ y) (h2 : y ≤ T₀.len) (z0 : 0 ≤ z) (z1 : z ≤ T₀.len) (ret : ∀ xl' h' tk', Fr g L h' m → News g L h' (other ++ xl') → Disj other xl' → TxS w xl' t (T₀.insert z (ofL (rd T₀.bufs (cutFrom x y 0 T₀.ps)))) → Q .none { s with heap := h', toks := tk' }) :
    wpAny (model prog w) (Ar dp un fr gd) (call (.ref 159) [.ref t, .int x tx, .int y ty, .ref t, .int z tz]) Q E s := by
  refine copy_spec S (fun b o e => F.keep _ _ (Kg _ _ e)) hdp (sub_has N) (sub_fresh N Kg) X Z V h0 h1 h2 z0 z1 fun xl' h' tk' L1 X' => ?_
  obtain ⟨F, N, D⟩ := off_of F N D L1
  exact ret _ _ _ F N D X'
theorem undo_on {t : Addr} {T₀ : TS} (S : St w g₀) (Kg : Keeps g₀ g) (F : Fr g L s.heap m) (N : News g L s.heap (other ++ xl)) (D : Disj other xl) (hdp : dp + 1 < recursionLimit) (X : TxS w xl t T₀) (Z : T₀.Fits)
    (ret : ∀ xl' h' tk', Fr g L h' m → News g L h' (other ++ xl') → Disj other xl' → TxS w xl' t T₀.undo → Q (.bool (!T₀.past.isEmpty)) { s with heap := h', toks := tk' }) :
    wpAny (model prog w) (Ar dp un fr gd) (call (.ref 124) [.ref t]) Q E s := by
  refine undo_spec S (fun b o e => F.keep _ _ (Kg _ _ e)) hdp (sub_has N) (sub_fresh N Kg) X Z fun xl' h' tk' r L1 X' hr => ?_
  obtain ⟨F, N, D⟩ := off_of F N D L1
  subst hr
  exact ret _ _ _ F N D X'
theorem redo_on {t : Addr} {T₀ : TS} (S : St w g₀) (Kg : Keeps g₀ g) (F : Fr g L s.heap m) (N : News g L s.heap (other ++ xl)) (D : Disj other xl) (hdp : dp + 1 < recursionLimit) (X : TxS w xl t T₀) (Z : T₀.Fits)
    (ret : ∀ xl' h' tk', Fr g L h' m → News g L h' (other ++ xl') → Disj other xl' → TxS w xl' t T₀.redo → Q (.bool (!T₀.fut.isEmpty)) { s with heap := h', toks := tk' }) :
    wpAny (model prog w) (Ar dp un fr gd) (call (.ref 131) [.ref t]) Q E s := by
  refine redo_spec S (fun b o e => F.keep _ _ (Kg _ _ e)) hdp (sub_has N) (sub_fresh N Kg) X Z fun xl' h' tk' r L1 X' hr => ?_
  obtain ⟨F, N, D⟩ := off_of F N D L1
  subst hr
  exact ret _ _ _ F N D X'
theorem replaced_on {wd : Addr} {V : WS} {f l : Nat} {a : Str} {t1 t2 t3 : Tok} (S : St w g₀) (Kg : Keeps g₀ g) (F : Fr g L s.heap m) (N : News g L s.heap (other ++ xl)) (D : Disj other xl) (hdp : dp + 2 < recursionLimit) (X : WdL prog w xl wd V)
    (Z : V.past.length < 2 ^ 22) (hf : f ≤ l) (hl : l ≤ V.now.length) (hn : V.now.length < 2 ^ 22) (ha : a.length < 2 ^ 22)
    (ret : ∀ xl' h' tk', Fr g L h' m → News g L h' (other ++ xl') → Disj other xl' → WdL prog w xl' wd (V.replaced f l a) → Q .none { s with heap := h', toks := tk' }) :
    wpAny (model prog w) (Ar dp un fr gd) (call (.ref 213) [.ref wd, .int f t1, .int l t2, .str a t3]) Q E s := by
  refine replaced_spec S (fun b o e => F.keep _ _ (Kg _ _ e)) hdp (sub_has N) (sub_fresh N Kg) X Z hf hl hn ha fun xl' h' tk' L1 X' => ?_
  obtain ⟨F, N, D⟩ := off_of F N D L1
  exact ret _ _ _ F N D X'
theorem read_on {t : Addr} {T₀ : TS} {x y : Int} {tx ty : Tok} (S : St w g₀) (Kg : Keeps g₀ g) (F : Fr g L s.heap m) (N : News g L s.heap (other ++ xl)) (hdp : dp + 3 < recursionLimit) (X : TxS w xl t T₀) (Z : T₀.Fits) (V : Valid T₀.bufs T₀.ps)
    (h0 : 0 ≤ x) (h1 : x ≤ y) (h2 : y ≤ T₀.len) (ret : ∀ u h' tk', Fr g L h' m → News g L h' (other ++ xl) → Q (.str (ofL (rd T₀.bufs (cutFrom x y 0 T₀.ps))) u) { s with heap := h', toks := tk' }) :
    wpAny (model prog w) (Ar dp un fr gd) (call (.ref 110) [.ref t, .int x tx, .int y ty]) Q E s :=
  read_spec S (fun b o e => F.keep _ _ (Kg _ _ e)) hdp (sub_has N) (sub_fresh N Kg) X Z V h0 h1 h2 fun u h' tk' K => ret u h' tk' (frKeeps F K) (N.grown K)
theorem find_on {t : Addr} {T₀ : TS} {x : Str} {y : Int} {tx ty : Tok} (S : St w g₀) (Kg : Keeps g₀ g) (F : Fr g L s.heap m) (N : News g L s.heap (other ++ xl)) (hdp : dp + 4 < recursionLimit) (X : TxS w xl t T₀) (Z : T₀.Fits) (V : Valid T₀.bufs T₀.ps)
    (hx : x.length < 2 ^ 22) (ret : ∀ u h' tk', Fr g L h' m → News g L h' (other ++ xl) → Q (.int (T₀.find x y) u) { s with heap := h', toks := tk' }) :
    wpAny (model prog w) (Ar dp un fr gd) (call (.ref 173) [.ref t, .str x tx, .int y ty]) Q E s :=
  find_spec S (fun b o e => F.keep _ _ (Kg _ _ e)) hdp (sub_has N) (sub_fresh N Kg) X Z V hx fun u h' tk' K => ret u h' tk' (frKeeps F K) (N.grown K)
theorem found_on {x p : Str} {f : Nat} {t1 t2 t3 : Tok} (S : St w g₀) (Kg : Keeps g₀ g) (F : Fr g L s.heap m) (N : News g L s.heap xl) (hdp : dp + 1 < recursionLimit) (hx : x.length < 2 ^ 22) (hp : p.length < 2 ^ 22) (hf : f < 2 ^ 23)
    (ret : ∀ h' tk' r u, Fr g L h' m → News g L h' xl → IsFound x.cps.toList p.cps.toList f r → Q (.int r u) { s with heap := h', toks := tk' }) :
    wpAny (model prog w) (Ar dp un fr gd) (call (.ref 220) [.str x t1, .str p t2, .int f t3]) Q E s :=
  found_spec S (fun b o e => F.keep _ _ (Kg _ _ e)) hdp hx hp hf fun h' tk' r u K I => ret h' tk' r u (frKeeps F K) (N.grown K) I
end

/-- what the law's loop holds: the hand, the text and the plain text, all apart -/
structure Trio (prog : Program) (w : World) (n : Nat) (oth hl tl wl : Led) (hand t wd : Addr) (T : TS) (V : WS) : Prop where
  d1 : Disj oth (hl ++ (tl ++ wl))
  d2 : Disj hl (tl ++ wl)
  d3 : Disj tl wl
  xh : HandL hl hand
  xt : TxS w tl t T
  xw : WdL prog w wl wd V
  rel : Rel n T V
/-- back from the deed to the law's frame: but for its slots it stands -/
theorem deed_end {h₀ h g g' : Heap} {L Ld : Addr} {m mm : Str → Option Value} {oth led xl : Led} {oL : Obj} {sl : Array (Option Value)} (F₀ : Fr g L h₀ m) (hoL : h₀.get? L = some oL) (N₀ : News g L h₀ (oth ++ led)) (d1 : Disj oth led)
    (Kg : Keeps g g') (Kh : ∀ b o, h₀.get? b = some o → b ∉ ((L, oL) :: led).map (·.1) → g'.get? b = some o) (F : Fr g' Ld h mm) (N : News g' Ld h ((L, { oL with slots := sl }) :: xl)) (hn : NeL xl L) :
    Fr g L h m ∧ News g L h (oth ++ xl) ∧ Disj oth xl := by
  have ho : ∀ q ∈ oth, g'.get? q.1 = some q.2 := fun q hq => by
    have := N₀ q (List.mem_append_left _ hq)
    refine Kh _ _ this.1 fun hm => ?_
    obtain ⟨r, hr, e⟩ := List.mem_map.mp hm
    rcases List.mem_cons.mp hr with rfl | hr
    · exact this.2.1 e.symm
    · exact d1 q hq r hr e
  refine ⟨⟨?_, fun b o e => F.keep _ _ (Kg _ _ e), F₀.above⟩, fun q hq => ?_, fun q hq r hr e => ?_⟩
  · obtain ⟨o, es, ep, e, r⟩ := F₀.ns
    rw [hoL] at e
    cases e
    exact ⟨_, es, ep, (N _ (.head _)).1, r⟩
  · rcases List.mem_append.mp hq with hq | hq
    · exact ⟨F.keep _ _ (ho q hq), (N₀ q (List.mem_append_left _ hq)).2⟩
    · have := N q (.tail _ hq)
      refine ⟨this.1, hn q hq, ?_⟩
      cases z : g.get? q.1 with
      | none => rfl
      | some o => have h2 := Kg _ _ z; rw [this.2.2] at h2; cases h2
  · have := (N r (.tail _ hr)).2.2
    rw [e, ho q hq] at this
    cases this
theorem dat_strs {tl : Led} {vs : List Value} {xs : List Str} (h : All2 StrV vs xs) : DatAll tl vs (xs.map Dat.str) := by
  induction h with
  | nil => exact .nil
  | cons h _ ih => obtain ⟨t, rfl⟩ := h; exact .cons (.str _ _) ih
/-- a row of texts is not empty -/
theorem strs_ne_nil {prog : Program} {w : World} {A : Around} {E : Value → Shared → Prop} {s : Shared} {g : Heap} {L a b : Addr} {news : Led} {vs : List Value} {xs : List Str} {ka kb : Nat} {ob : Obj} {Q : Value → Shared → Prop}
    (N : News g L s.heap news) (ma : (a, W.listOf vs.toArray ka) ∈ news) (hx : All2 StrV vs xs) (hok : ∀ x ∈ xs, OkS x) (mb : (b, ob) ∈ news) (ho : ob = W.listOf ([] : List Value).toArray kb) (hu : A.units + 64 < cLine) (h : Q (.bool (!xs.isEmpty)) s) :
    wpAny (model prog w) A (compareOp .NotEq (.ref a) (.ref b)) Q E s := by
  subst ho
  refine kqd_ne N ma rfl rfl (dat_strs (tl := []) hx) (fun _ h => nomatch h) mb rfl rfl (.nil (news := [])) (fun _ h => nomatch h) (fun d hd => ?_) (fun _ h => nomatch h) hu ?_
  · obtain ⟨x, hm, rfl⟩ := List.mem_map.mp hd
    have := hok x hm
    show PyData.strOk x = true
    unfold PyData.strOk
    rw [← Array.all_toList, List.all_eq_true]
    exact fun c hc => decide_eq_true (this c hc)
  · cases xs <;> simpa using h
theorem replall_on {prog : Program} {w : World} {dp un : Nat} {fr : Option (List Env)} {gd : Option (List Code)} {s : Shared} {Q E : Value → Shared → Prop} {g₀ g : Heap} {L : Addr} {m : Str → Option Value} {other xl : Led} {t : Addr} {T₀ : TS} {x added : Str} {tx ty : Tok}
    (S : St w g₀) (Kg : Keeps g₀ g) (F : Fr g L s.heap m) (N : News g L s.heap (other ++ xl)) (D : Disj other xl) (hdp : dp + 6 < recursionLimit) (X : TxS w xl t T₀) (Z : T₀.Fits) (V : Valid T₀.bufs T₀.ps) (hx : x.length < 2 ^ 22) (ha : added.length < 2 ^ 22)
    (P : Nat → TS → Int → Prop)
    (step : ∀ n T pl, P n T pl → 0 ≤ pl → T.Fits ∧ Valid T.bufs T.ps ∧ pl + x.length ≤ T.len ∧ (T.replace pl (pl + x.length) added).Fits ∧ Valid (T.replace pl (pl + x.length) added).bufs (T.replace pl (pl + x.length) added).ps ∧
      ∃ n', n = n' + 1 ∧ P n' (T.replace pl (pl + x.length) added) ((T.replace pl (pl + x.length) added).find x (pl + added.length)))
    (n0 : Nat) (h0 : x ≠ Str.ofString "" → P n0 T₀ (T₀.find x 0)) {T₁ : TS} {c : Nat} (hT : T₁ = if x = Str.ofString "" then T₀ else (replRun x added n0 T₀ (T₀.find x 0) 0).1) (hc : c = if x = Str.ofString "" then 0 else (replRun x added n0 T₀ (T₀.find x 0) 0).2)
    (ret : ∀ xl' h' tk' u, Fr g L h' m → News g L h' (other ++ xl') → Disj other xl' → TxS w xl' t T₁ → Q (.int ((c : Nat) : Int) u) { s with heap := h', toks := tk' }) :
    wpAny (model prog w) (Ar dp un fr gd) (call (.ref 180) [.ref t, .str x tx, .str added ty]) Q E s := by
  subst hT hc
  refine replace_all_spec S (fun b o e => F.keep _ _ (Kg _ _ e)) hdp (sub_has N) (sub_fresh N Kg) X Z V hx ha P step n0 h0 fun xl' h' tk' u L1 X' => ?_
  obtain ⟨F, N, D⟩ := off_of F N D L1
  exact ret _ _ _ _ F N D X'

local macro_rules | `(tactic| walk_at "eval IfExp") => `(tactic| (k_here; refine Hold.out ?_))
def BadV (n x y : Int) (v : Value) : Prop := match badOf n x y with | some b => ∃ t, v = .int b t | none => v = .none
/-- what the deed's try leaves -/
def TPost (prog : Program) (w : World) (n : Nat) (hand t wd : Addr) (g : Heap) (Ld L : Addr) (oL : Obj) (s : Shared) (fl : Flow) (s' : Shared) : Prop :=
  ∃ h' tk' m' hl' tl' wl' T' V' sl, s' = { s with heap := h', toks := tk' } ∧ Fr g Ld h' m' ∧ News g Ld h' ((L, { oL with slots := sl }) :: (hl' ++ (tl' ++ wl'))) ∧ NeL (hl' ++ (tl' ++ wl')) L ∧ Disj hl' (tl' ++ wl') ∧ Disj tl' wl' ∧
    HandL hl' hand ∧ TxS w tl' t T' ∧ WdL prog w wl' wd V' ∧ Rel (n + 100) T' V' ∧ (fl = .ret (.bool true) ∨ (fl = .next ∧ m' (Str.ofString "bad") = some .none))
theorem ff2 {g h : Heap} {L Ld a : Addr} {envL : Env} {m : Str → Option Value} {nm : Str} {sc : Scope} {cd : Value} {oL : Obj} {xl : Led} (F : Fr g Ld h m) (N : News g Ld h ((L, oL) :: xl)) (hoL : ∀ vs, oL.data ≠ .fields vs) (hfL : envL.frame = some L) (hk : envL.scope.kind ≠ .module) (hk' : sc.kind = .function) :
    FFr h [envOf nm sc Ld a cd, envL] := fun env he => by
  rcases List.mem_cons.mp he with rfl | he
  · obtain ⟨o, es, ep, ho, hd, _⟩ := F.ns
    exact ⟨by show sc.kind ≠ .module; rw [hk']; decide, Ld, o, rfl, ho, fun vs q => by rw [hd] at q; cases q⟩
  · rw [List.mem_singleton.mp he]
    exact ⟨hk, L, oL, hfL, (N _ (.head _)).1, hoL⟩
theorem badOf_none {n x y : Int} (h : badOf n x y = none) : 0 ≤ x ∧ x ≤ n ∧ x ≤ y ∧ y ≤ n := by
  unfold badOf at h
  split at h
  · cases h
  split at h
  · cases h
  omega
section
variable {prog : Program} {w : World} {dp un : Nat} {gd : Option (List Code)} {s : Shared} {E : Value → Shared → Prop} {g₀ g : Heap} {L Ld : Addr} {envL : Env} {m : Str → Option Value} {oL : Obj} {hl tl wl : Led} {hand t wd : Addr} {T₀ : TS} {V₀ : WS} {n : Nat}
    {name qual : Str} {params : Arguments} {body : List Stmt} {scope : Scope} {dV kV doc pm cdv ct oc : Value} {an od : Option Addr} {osl : Array (Option Value)} {st : Stmt}
    {mean : ExcName → Option Value} {mg mb : Str → Option Value} {x y : Int} {a : Str} {td ts tf tq ta : Tok} {bv : Value}
theorem try_0 {dk : Int} (hdk : dk = 0) (ho : (Mine.kdef.heap_1 w.params).lookup 234 = some ⟨oc, od, .func (fnOf name qual params body scope dV kV doc pm an cdv ct), osl⟩) (hst : body[6]? = some st)
    (S : St w g₀) (Kg : Keeps g₀ g) (KX : (Mine.kdef.heap_1 w.params).In g) (T : Top Mine.vw LL mean mg mb g) (hdp : dp + 10 < recursionLimit) (F : Fr g Ld s.heap m) (N : News g Ld s.heap ((L, oL) :: (hl ++ (tl ++ wl)))) (hoL : ∀ vs, oL.data ≠ .fields vs)
    (neL : NeL (hl ++ (tl ++ wl)) L) (d2 : Disj hl (tl ++ wl)) (d3 : Disj tl wl) (Xh : HandL hl hand) (Xt : TxS w tl t T₀) (Xw : WdL prog w wl wd V₀) (R : Rel n T₀ V₀) (hn : n < 2 ^ 20)
    (m1 : m (Str.ofString "told") = some (.ref t)) (m2 : m (Str.ofString "world") = some (.ref wd)) (m3 : m (Str.ofString "deed") = some (.int dk td)) (m4 : m (Str.ofString "size_of") = some (.int (V₀.now.length : Nat) ts))
    (m5 : m (Str.ofString "first") = some (.int x tf)) (m6 : m (Str.ofString "last") = some (.int y tq)) (m7 : m (Str.ofString "added") = some (.str a ta)) (m8 : m (Str.ofString "bad") = some bv)
    (hbv : BadV V₀.now.length x y bv) (hx0 : -1 ≤ x) (hx1 : x < V₀.now.length + 2) (hxy : x ≤ y) (hy1 : y ≤ x + 4) (ha : a.length ≤ 4) (hoa : OkS a) (hun : un + 200 < cLine) (hfL : envL.frame = some L) (hk : envL.scope.kind ≠ .module) :
    wpAny (model prog w) ((Ar dp un (some [envL]) gd).deeper (envOf qual scope Ld 234 cdv)) (exec st (envOf qual scope Ld 234 cdv)) (TPost prog w n hand t wd g Ld L oL s) E s := by
  have h0 : (Mine.kdef.heap_1 w.params).lookup 234 = some ⟨_, _, .func (fnOf _ _ _ _ _ _ _ _ _ _ _ _), _⟩ := rfl
  have h1 := ho.symm.trans h0
  clear h0 ho
  simp only [Option.some.injEq, Obj.mk.injEq, Data.func.injEq, FuncData.mk.injEq, FuncBody.stmts.injEq, true_and, and_true] at h1
  obtain ⟨-, -, ⟨rfl, rfl, rfl, rfl, rfl, rfl, rfl, rfl, rfl, rfl, rfl, rfl⟩, -⟩ := h1
  obtain rfl := Option.some.inj hst
  clear hst
  have hzn := R.zn
  have hTl : (total T₀.ps : Int) = V₀.now.length := by rw [R.now.len]
  have hz := R.fits (by omega)
  have hlen : (T₀.len : Int) = V₀.now.length := by rw [R.len]
  have hpz : V₀.past.length < 2 ^ 22 := by
    have h1 := R.past.length
    have h2 := R.zp
    omega
  refine wpAny_Try_except ?_
  subst hdk
  have Xt' := Xt
  revert Xt'; refine TxL.elim ?_; intro d b p pa fu k1 k2 k3 k4 bv' pav fuv nb npa nfu fz Xt'
  have et := Xt'.tl_eq
  clear Xt'
  have subt : ∀ {h : Heap} {o' : Obj}, News g Ld h ((t, instObj 134 d) :: (d, tdict w k1 k2 k3 k4 b p pa fu) :: (L, o') :: (hl ++ (tl ++ wl))) → News g Ld h ((L, o') :: (hl ++ (tl ++ wl))) := fun N => newsTail (newsTail N)
  replace N := newsSub N (news' := (t, instObj 134 d) :: (d, tdict w k1 k2 k3 k4 b p pa fu) :: (L, oL) :: (hl ++ (tl ++ wl))) (by
    rw [et]; intro q hq; simp only [List.mem_cons, List.mem_append] at hq ⊢; grind)
  k_steps
  refine Hold.into (IfExp_ ?_)
  by_cases hA : x < 0 ∨ (V₀.now.length : Int) < x
  · have hb : badOf (total T₀.ps) x x = some x := by
      unfold badOf
      rw [hTl, if_pos hA]
    k_steps
    all_goals (
      rename Fr _ _ _ _ => F
      rename News _ _ _ _ => N
      replace N := subt N
      refine insert_bad (dp := dp + 1) S (fun b o e => F.keep _ _ (Kg _ _ e)) (by omega) (tl := tl) (fun q hq => newsHas N q (.tail _ (List.mem_append_right _ (List.mem_append_left _ hq)))) (fun q hq => freshOf N Kg q (.tail _ (List.mem_append_right _ (List.mem_append_left _ hq)))) Xt (ff2 F N hoL hfL hk (by rfl)) hb ?_
      intro e9 h9 tk9 R9
      refine fmt_caught F N neL hoL hfL KX T R9 ?_
      intro h10 tk10 d9 oe9 od9 sl9 ta9 tv9 j1 j2 F N neL9 I9 q9
      k_steps
      refine fmt_get (KX.keeps (Fr.keep (by assumption))) I9 (what_of q9) rfl ?_
      k_steps
      refine fmt_get (KX.keeps (Fr.keep (by assumption))) I9 (at_of q9) rfl ?_
      k_steps
      rename Fr _ _ _ _ => F
      rename News _ _ _ _ => N
      exact ⟨_, _, _, hl, tl, wl, T₀, V₀, sl9, rfl, F, newsTail (newsTail N), neL, d2, d3, Xh, Xt, Xw, R.more (by omega), .inl (by simp)⟩)
  · obtain ⟨f, rfl⟩ := Int.eq_ofNat_of_zero_le (a := x) (by omega)
    k_steps
    rename Fr _ _ _ _ => F
    rename News _ _ _ _ => N
    replace N := subt N
    refine insert_on (dp := dp + 1) (other := (L, oL) :: (hl ++ wl)) (xl := tl) S Kg F (newsSub N (by intro q hq; simp only [List.mem_cons, List.mem_append] at hq ⊢; grind)) (Disj.cons (fun q hq => neL q (List.mem_append_right _ (List.mem_append_left _ hq))) ((d2.sub (fun _ h => h) fun _ h => List.mem_append_left _ h).append d3.symm)) (by omega) Xt hz (by omega) (by omega) (by omega) ?_
    intro tl1 h5 tk5 F N D5 Xt5
    simp only [List.cons_append] at N
    k_steps
    rename Fr _ _ _ _ => F
    rename News _ _ _ _ => N
    refine replaced_on (dp := dp + 1) (other := (L, oL) :: (hl ++ tl1)) (xl := wl) S Kg F (newsSub N (by intro q hq; simp only [List.mem_cons, List.mem_append] at hq ⊢; grind)) (Disj.cons (fun q hq => neL q (List.mem_append_right _ (List.mem_append_right _ hq))) ((d2.sub (fun _ h => h) fun _ h => List.mem_append_right _ h).append (D5.symm.sub (fun _ h => h) fun q hq => .tail _ (List.mem_append_right _ hq)))) (by omega) Xw hpz (Nat.le_refl f) (by omega) (by omega) (by omega) ?_
    intro wl1 h6 tk6 F N D6 Xw6
    simp only [List.cons_append] at N
    k_steps
    rename Fr _ _ _ _ => F
    rename News _ _ _ _ => N
    refine ⟨_, _, _, hl, tl1, wl1, _, _, oL.slots, rfl, F, (show News g Ld _ ((L, oL) :: (hl ++ (tl1 ++ wl1))) from newsSub N (by intro q hq; simp only [List.mem_cons, List.mem_append] at hq ⊢; grind)), ?_, ?_, ?_, Xh, Xt5, Xw6, (R.insert (by omega) ha hoa).more (by omega), .inr ⟨rfl, rfl⟩⟩
    · intro q hq
      rcases List.mem_append.mp hq with hq | hq
      · exact neL q (List.mem_append_left _ hq)
      rcases List.mem_append.mp hq with hq | hq
      · exact D5 (L, oL) (.head _) q hq
      · exact D6 (L, oL) (.head _) q hq
    · exact (Disj.append (A := tl1) (D5.symm.sub (fun _ h => h) fun q hq => .tail _ (List.mem_append_left _ hq)) (D6.symm.sub (fun _ h => h) fun q hq => .tail _ (List.mem_append_left _ hq))).symm
    · exact D6.sub (fun q hq => .tail _ (List.mem_append_right _ hq)) fun _ h => h
theorem try_1 {dk : Int} (hdk : dk = 1) (ho : (Mine.kdef.heap_1 w.params).lookup 234 = some ⟨oc, od, .func (fnOf name qual params body scope dV kV doc pm an cdv ct), osl⟩) (hst : body[6]? = some st)
    (S : St w g₀) (Kg : Keeps g₀ g) (KX : (Mine.kdef.heap_1 w.params).In g) (T : Top Mine.vw LL mean mg mb g) (hdp : dp + 10 < recursionLimit) (F : Fr g Ld s.heap m) (N : News g Ld s.heap ((L, oL) :: (hl ++ (tl ++ wl)))) (hoL : ∀ vs, oL.data ≠ .fields vs)
    (neL : NeL (hl ++ (tl ++ wl)) L) (d2 : Disj hl (tl ++ wl)) (d3 : Disj tl wl) (Xh : HandL hl hand) (Xt : TxS w tl t T₀) (Xw : WdL prog w wl wd V₀) (R : Rel n T₀ V₀) (hn : n < 2 ^ 20)
    (m1 : m (Str.ofString "told") = some (.ref t)) (m2 : m (Str.ofString "world") = some (.ref wd)) (m3 : m (Str.ofString "deed") = some (.int dk td)) (m4 : m (Str.ofString "size_of") = some (.int (V₀.now.length : Nat) ts))
    (m5 : m (Str.ofString "first") = some (.int x tf)) (m6 : m (Str.ofString "last") = some (.int y tq)) (m7 : m (Str.ofString "added") = some (.str a ta)) (m8 : m (Str.ofString "bad") = some bv)
    (hbv : BadV V₀.now.length x y bv) (hx0 : -1 ≤ x) (hx1 : x < V₀.now.length + 2) (hxy : x ≤ y) (hy1 : y ≤ x + 4) (ha : a.length ≤ 4) (hoa : OkS a) (hun : un + 200 < cLine) (hfL : envL.frame = some L) (hk : envL.scope.kind ≠ .module) :
    wpAny (model prog w) ((Ar dp un (some [envL]) gd).deeper (envOf qual scope Ld 234 cdv)) (exec st (envOf qual scope Ld 234 cdv)) (TPost prog w n hand t wd g Ld L oL s) E s := by
  have h0 : (Mine.kdef.heap_1 w.params).lookup 234 = some ⟨_, _, .func (fnOf _ _ _ _ _ _ _ _ _ _ _ _), _⟩ := rfl
  have h1 := ho.symm.trans h0
  clear h0 ho
  simp only [Option.some.injEq, Obj.mk.injEq, Data.func.injEq, FuncData.mk.injEq, FuncBody.stmts.injEq, true_and, and_true] at h1
  obtain ⟨-, -, ⟨rfl, rfl, rfl, rfl, rfl, rfl, rfl, rfl, rfl, rfl, rfl, rfl⟩, -⟩ := h1
  obtain rfl := Option.some.inj hst
  clear hst
  have hzn := R.zn
  have hTl : (total T₀.ps : Int) = V₀.now.length := by rw [R.now.len]
  have hz := R.fits (by omega)
  have hlen : (T₀.len : Int) = V₀.now.length := by rw [R.len]
  have hpz : V₀.past.length < 2 ^ 22 := by
    have h1 := R.past.length
    have h2 := R.zp
    omega
  refine wpAny_Try_except ?_
  subst hdk
  have Xt' := Xt
  revert Xt'; refine TxL.elim ?_; intro d b p pa fu k1 k2 k3 k4 bv' pav fuv nb npa nfu fz Xt'
  have et := Xt'.tl_eq
  clear Xt'
  have subt : ∀ {h : Heap} {o' : Obj}, News g Ld h ((t, instObj 134 d) :: (d, tdict w k1 k2 k3 k4 b p pa fu) :: (L, o') :: (hl ++ (tl ++ wl))) → News g Ld h ((L, o') :: (hl ++ (tl ++ wl))) := fun N => newsTail (newsTail N)
  replace N := newsSub N (news' := (t, instObj 134 d) :: (d, tdict w k1 k2 k3 k4 b p pa fu) :: (L, oL) :: (hl ++ (tl ++ wl))) (by
    rw [et]; intro q hq; simp only [List.mem_cons, List.mem_append] at hq ⊢; grind)
  unfold BadV at hbv
  cases hbo : badOf (V₀.now.length : Int) x y with
  | some v =>
    rw [hbo] at hbv
    obtain ⟨tb, rfl⟩ := hbv
    rw [← hTl] at hbo
    k_steps
    rename Fr _ _ _ _ => F
    rename News _ _ _ _ => N
    replace N := subt N
    refine delete_bad (dp := dp + 1) S (fun b o e => F.keep _ _ (Kg _ _ e)) (by omega) (tl := tl) (fun q hq => newsHas N q (.tail _ (List.mem_append_right _ (List.mem_append_left _ hq)))) (fun q hq => freshOf N Kg q (.tail _ (List.mem_append_right _ (List.mem_append_left _ hq)))) Xt (ff2 F N hoL hfL hk (by rfl)) hbo ?_
    intro e9 h9 tk9 R9
    refine fmt_caught F N neL hoL hfL KX T R9 ?_
    intro h10 tk10 d9 oe9 od9 sl9 ta9 tv9 j1 j2 F N neL9 I9 q9
    k_steps
    refine fmt_get (KX.keeps (Fr.keep (by assumption))) I9 (what_of q9) rfl ?_
    k_steps
    refine fmt_get (KX.keeps (Fr.keep (by assumption))) I9 (at_of q9) rfl ?_
    k_steps
    rename Fr _ _ _ _ => F
    rename News _ _ _ _ => N
    exact ⟨_, _, _, hl, tl, wl, T₀, V₀, sl9, rfl, F, newsTail (newsTail N), neL, d2, d3, Xh, Xt, Xw, R.more (by omega), .inl (by simp)⟩
  | none =>
    rw [hbo] at hbv
    subst hbv
    obtain ⟨b0, b1, b2, b3⟩ := badOf_none hbo
    obtain ⟨f, rfl⟩ := Int.eq_ofNat_of_zero_le (a := x) (by omega)
    obtain ⟨e, rfl⟩ := Int.eq_ofNat_of_zero_le (a := y) (by omega)
    k_steps
    rename Fr _ _ _ _ => F
    rename News _ _ _ _ => N
    replace N := subt N
    refine delete_on (dp := dp + 1) (other := (L, oL) :: (hl ++ wl)) (xl := tl) S Kg F (newsSub N (by intro q hq; simp only [List.mem_cons, List.mem_append] at hq ⊢; grind)) (Disj.cons (fun q hq => neL q (List.mem_append_right _ (List.mem_append_left _ hq))) ((d2.sub (fun _ h => h) fun _ h => List.mem_append_left _ h).append d3.symm)) (by omega) Xt hz (by omega) (by omega) (by omega) ?_
    intro tl1 h5 tk5 F N D5 Xt5
    simp only [List.cons_append] at N
    k_steps
    rename Fr _ _ _ _ => F
    rename News _ _ _ _ => N
    refine replaced_on (dp := dp + 1) (other := (L, oL) :: (hl ++ tl1)) (xl := wl) S Kg F (newsSub N (by intro q hq; simp only [List.mem_cons, List.mem_append] at hq ⊢; grind)) (Disj.cons (fun q hq => neL q (List.mem_append_right _ (List.mem_append_right _ hq))) ((d2.sub (fun _ h => h) fun _ h => List.mem_append_right _ h).append (D5.symm.sub (fun _ h => h) fun q hq => .tail _ (List.mem_append_right _ hq)))) (by omega) Xw hpz (by omega) (by omega) (by omega) (by decide) ?_
    intro wl1 h6 tk6 F N D6 Xw6
    simp only [List.cons_append] at N
    k_steps
    rename Fr _ _ _ _ => F
    rename News _ _ _ _ => N
    refine ⟨_, _, _, hl, tl1, wl1, _, _, oL.slots, rfl, F, (show News g Ld _ ((L, oL) :: (hl ++ (tl1 ++ wl1))) from newsSub N (by intro q hq; simp only [List.mem_cons, List.mem_append] at hq ⊢; grind)), ?_, ?_, ?_, Xh, Xt5, Xw6, (R.delete (by omega) (by omega)).more (by omega), .inr ⟨rfl, m8⟩⟩
    · intro q hq
      rcases List.mem_append.mp hq with hq | hq
      · exact neL q (List.mem_append_left _ hq)
      rcases List.mem_append.mp hq with hq | hq
      · exact D5 (L, oL) (.head _) q hq
      · exact D6 (L, oL) (.head _) q hq
    · exact (Disj.append (A := tl1) (D5.symm.sub (fun _ h => h) fun q hq => .tail _ (List.mem_append_left _ hq)) (D6.symm.sub (fun _ h => h) fun q hq => .tail _ (List.mem_append_left _ hq))).symm
    · exact D6.sub (fun q hq => .tail _ (List.mem_append_right _ hq)) fun _ h => h
theorem try_2 {dk : Int} (hdk : dk = 2) (ho : (Mine.kdef.heap_1 w.params).lookup 234 = some ⟨oc, od, .func (fnOf name qual params body scope dV kV doc pm an cdv ct), osl⟩) (hst : body[6]? = some st)
    (S : St w g₀) (Kg : Keeps g₀ g) (KX : (Mine.kdef.heap_1 w.params).In g) (T : Top Mine.vw LL mean mg mb g) (hdp : dp + 10 < recursionLimit) (F : Fr g Ld s.heap m) (N : News g Ld s.heap ((L, oL) :: (hl ++ (tl ++ wl)))) (hoL : ∀ vs, oL.data ≠ .fields vs)
    (neL : NeL (hl ++ (tl ++ wl)) L) (d2 : Disj hl (tl ++ wl)) (d3 : Disj tl wl) (Xh : HandL hl hand) (Xt : TxS w tl t T₀) (Xw : WdL prog w wl wd V₀) (R : Rel n T₀ V₀) (hn : n < 2 ^ 20)
    (m1 : m (Str.ofString "told") = some (.ref t)) (m2 : m (Str.ofString "world") = some (.ref wd)) (m3 : m (Str.ofString "deed") = some (.int dk td)) (m4 : m (Str.ofString "size_of") = some (.int (V₀.now.length : Nat) ts))
    (m5 : m (Str.ofString "first") = some (.int x tf)) (m6 : m (Str.ofString "last") = some (.int y tq)) (m7 : m (Str.ofString "added") = some (.str a ta)) (m8 : m (Str.ofString "bad") = some bv)
    (hbv : BadV V₀.now.length x y bv) (hx0 : -1 ≤ x) (hx1 : x < V₀.now.length + 2) (hxy : x ≤ y) (hy1 : y ≤ x + 4) (ha : a.length ≤ 4) (hoa : OkS a) (hun : un + 200 < cLine) (hfL : envL.frame = some L) (hk : envL.scope.kind ≠ .module) :
    wpAny (model prog w) ((Ar dp un (some [envL]) gd).deeper (envOf qual scope Ld 234 cdv)) (exec st (envOf qual scope Ld 234 cdv)) (TPost prog w n hand t wd g Ld L oL s) E s := by
  have h0 : (Mine.kdef.heap_1 w.params).lookup 234 = some ⟨_, _, .func (fnOf _ _ _ _ _ _ _ _ _ _ _ _), _⟩ := rfl
  have h1 := ho.symm.trans h0
  clear h0 ho
  simp only [Option.some.injEq, Obj.mk.injEq, Data.func.injEq, FuncData.mk.injEq, FuncBody.stmts.injEq, true_and, and_true] at h1
  obtain ⟨-, -, ⟨rfl, rfl, rfl, rfl, rfl, rfl, rfl, rfl, rfl, rfl, rfl, rfl⟩, -⟩ := h1
  obtain rfl := Option.some.inj hst
  clear hst
  have hzn := R.zn
  have hTl : (total T₀.ps : Int) = V₀.now.length := by rw [R.now.len]
  have hz := R.fits (by omega)
  have hlen : (T₀.len : Int) = V₀.now.length := by rw [R.len]
  have hpz : V₀.past.length < 2 ^ 22 := by
    have h1 := R.past.length
    have h2 := R.zp
    omega
  refine wpAny_Try_except ?_
  subst hdk
  have Xt' := Xt
  revert Xt'; refine TxL.elim ?_; intro d b p pa fu k1 k2 k3 k4 bv' pav fuv nb npa nfu fz Xt'
  have et := Xt'.tl_eq
  clear Xt'
  have subt : ∀ {h : Heap} {o' : Obj}, News g Ld h ((t, instObj 134 d) :: (d, tdict w k1 k2 k3 k4 b p pa fu) :: (L, o') :: (hl ++ (tl ++ wl))) → News g Ld h ((L, o') :: (hl ++ (tl ++ wl))) := fun N => newsTail (newsTail N)
  replace N := newsSub N (news' := (t, instObj 134 d) :: (d, tdict w k1 k2 k3 k4 b p pa fu) :: (L, oL) :: (hl ++ (tl ++ wl))) (by
    rw [et]; intro q hq; simp only [List.mem_cons, List.mem_append] at hq ⊢; grind)
  unfold BadV at hbv
  cases hbo : badOf (V₀.now.length : Int) x y with
  | some v =>
    rw [hbo] at hbv
    obtain ⟨tb, rfl⟩ := hbv
    rw [← hTl] at hbo
    k_steps
    rename Fr _ _ _ _ => F
    rename News _ _ _ _ => N
    replace N := subt N
    refine replace_bad (dp := dp + 1) S (fun b o e => F.keep _ _ (Kg _ _ e)) (by omega) (tl := tl) (fun q hq => newsHas N q (.tail _ (List.mem_append_right _ (List.mem_append_left _ hq)))) (fun q hq => freshOf N Kg q (.tail _ (List.mem_append_right _ (List.mem_append_left _ hq)))) Xt (ff2 F N hoL hfL hk (by rfl)) hbo ?_
    intro e9 h9 tk9 R9
    refine fmt_caught F N neL hoL hfL KX T R9 ?_
    intro h10 tk10 d9 oe9 od9 sl9 ta9 tv9 j1 j2 F N neL9 I9 q9
    k_steps
    refine fmt_get (KX.keeps (Fr.keep (by assumption))) I9 (what_of q9) rfl ?_
    k_steps
    refine fmt_get (KX.keeps (Fr.keep (by assumption))) I9 (at_of q9) rfl ?_
    k_steps
    rename Fr _ _ _ _ => F
    rename News _ _ _ _ => N
    exact ⟨_, _, _, hl, tl, wl, T₀, V₀, sl9, rfl, F, newsTail (newsTail N), neL, d2, d3, Xh, Xt, Xw, R.more (by omega), .inl (by simp)⟩
  | none =>
    rw [hbo] at hbv
    subst hbv
    obtain ⟨b0, b1, b2, b3⟩ := badOf_none hbo
    obtain ⟨f, rfl⟩ := Int.eq_ofNat_of_zero_le (a := x) (by omega)
    obtain ⟨e, rfl⟩ := Int.eq_ofNat_of_zero_le (a := y) (by omega)
    k_steps
    rename Fr _ _ _ _ => F
    rename News _ _ _ _ => N
    replace N := subt N
    refine replace_on (dp := dp + 1) (other := (L, oL) :: (hl ++ wl)) (xl := tl) S Kg F (newsSub N (by intro q hq; simp only [List.mem_cons, List.mem_append] at hq ⊢; grind)) (Disj.cons (fun q hq => neL q (List.mem_append_right _ (List.mem_append_left _ hq))) ((d2.sub (fun _ h => h) fun _ h => List.mem_append_left _ h).append d3.symm)) (by omega) Xt hz (by omega) (by omega) (by omega) (by omega) ?_
    intro tl1 h5 tk5 F N D5 Xt5
    simp only [List.cons_append] at N
    k_steps
    rename Fr _ _ _ _ => F
    rename News _ _ _ _ => N
    refine replaced_on (dp := dp + 1) (other := (L, oL) :: (hl ++ tl1)) (xl := wl) S Kg F (newsSub N (by intro q hq; simp only [List.mem_cons, List.mem_append] at hq ⊢; grind)) (Disj.cons (fun q hq => neL q (List.mem_append_right _ (List.mem_append_right _ hq))) ((d2.sub (fun _ h => h) fun _ h => List.mem_append_right _ h).append (D5.symm.sub (fun _ h => h) fun q hq => .tail _ (List.mem_append_right _ hq)))) (by omega) Xw hpz (by omega) (by omega) (by omega) (by omega) ?_
    intro wl1 h6 tk6 F N D6 Xw6
    simp only [List.cons_append] at N
    k_steps
    rename Fr _ _ _ _ => F
    rename News _ _ _ _ => N
    refine ⟨_, _, _, hl, tl1, wl1, _, _, oL.slots, rfl, F, (show News g Ld _ ((L, oL) :: (hl ++ (tl1 ++ wl1))) from newsSub N (by intro q hq; simp only [List.mem_cons, List.mem_append] at hq ⊢; grind)), ?_, ?_, ?_, Xh, Xt5, Xw6, (R.replace (by omega) (by omega) ha hoa).more (by omega), .inr ⟨rfl, m8⟩⟩
    · intro q hq
      rcases List.mem_append.mp hq with hq | hq
      · exact neL q (List.mem_append_left _ hq)
      rcases List.mem_append.mp hq with hq | hq
      · exact D5 (L, oL) (.head _) q hq
      · exact D6 (L, oL) (.head _) q hq
    · exact (Disj.append (A := tl1) (D5.symm.sub (fun _ h => h) fun q hq => .tail _ (List.mem_append_left _ hq)) (D6.symm.sub (fun _ h => h) fun q hq => .tail _ (List.mem_append_left _ hq))).symm
    · exact D6.sub (fun q hq => .tail _ (List.mem_append_right _ hq)) fun _ h => h
theorem try_3 {dk : Int} (hdk : dk = 3) (ho : (Mine.kdef.heap_1 w.params).lookup 234 = some ⟨oc, od, .func (fnOf name qual params body scope dV kV doc pm an cdv ct), osl⟩) (hst : body[6]? = some st)
    (S : St w g₀) (Kg : Keeps g₀ g) (KX : (Mine.kdef.heap_1 w.params).In g) (T : Top Mine.vw LL mean mg mb g) (hdp : dp + 10 < recursionLimit) (F : Fr g Ld s.heap m) (N : News g Ld s.heap ((L, oL) :: (hl ++ (tl ++ wl)))) (hoL : ∀ vs, oL.data ≠ .fields vs)
    (neL : NeL (hl ++ (tl ++ wl)) L) (d2 : Disj hl (tl ++ wl)) (d3 : Disj tl wl) (Xh : HandL hl hand) (Xt : TxS w tl t T₀) (Xw : WdL prog w wl wd V₀) (R : Rel n T₀ V₀) (hn : n < 2 ^ 20)
    (m1 : m (Str.ofString "told") = some (.ref t)) (m2 : m (Str.ofString "world") = some (.ref wd)) (m3 : m (Str.ofString "deed") = some (.int dk td)) (m4 : m (Str.ofString "size_of") = some (.int (V₀.now.length : Nat) ts))
    (m5 : m (Str.ofString "first") = some (.int x tf)) (m6 : m (Str.ofString "last") = some (.int y tq)) (m7 : m (Str.ofString "added") = some (.str a ta)) (m8 : m (Str.ofString "bad") = some bv)
    (hbv : BadV V₀.now.length x y bv) (hx0 : -1 ≤ x) (hx1 : x < V₀.now.length + 2) (hxy : x ≤ y) (hy1 : y ≤ x + 4) (ha : a.length ≤ 4) (hoa : OkS a) (hun : un + 200 < cLine) (hfL : envL.frame = some L) (hk : envL.scope.kind ≠ .module) :
    wpAny (model prog w) ((Ar dp un (some [envL]) gd).deeper (envOf qual scope Ld 234 cdv)) (exec st (envOf qual scope Ld 234 cdv)) (TPost prog w n hand t wd g Ld L oL s) E s := by
  have h0 : (Mine.kdef.heap_1 w.params).lookup 234 = some ⟨_, _, .func (fnOf _ _ _ _ _ _ _ _ _ _ _ _), _⟩ := rfl
  have h1 := ho.symm.trans h0
  clear h0 ho
  simp only [Option.some.injEq, Obj.mk.injEq, Data.func.injEq, FuncData.mk.injEq, FuncBody.stmts.injEq, true_and, and_true] at h1
  obtain ⟨-, -, ⟨rfl, rfl, rfl, rfl, rfl, rfl, rfl, rfl, rfl, rfl, rfl, rfl⟩, -⟩ := h1
  obtain rfl := Option.some.inj hst
  clear hst
  have hzn := R.zn
  have hTl : (total T₀.ps : Int) = V₀.now.length := by rw [R.now.len]
  have hz := R.fits (by omega)
  have hlen : (T₀.len : Int) = V₀.now.length := by rw [R.len]
  have hpz : V₀.past.length < 2 ^ 22 := by
    have h1 := R.past.length
    have h2 := R.zp
    omega
  refine wpAny_Try_except ?_
  subst hdk
  have Xt' := Xt
  revert Xt'; refine TxL.elim ?_; intro d b p pa fu k1 k2 k3 k4 bv' pav fuv nb npa nfu fz Xt'
  have et := Xt'.tl_eq
  clear Xt'
  have Xw' := Xw
  revert Xw'; refine WdL.elim ?_; intro wpa wfu wo wtn wpav wfuv wn1 wn2 Xw'
  have ew := Xw'.wl_eq
  have whd := Xw'.hd
  have wpe := Xw'.hpa
  have wfe := Xw'.hfu
  have hnl : V₀.now.length ≤ sizeLine := by rw [sizeLine_eq]; omega
  have subt : ∀ {h : Heap} {o' : Obj}, News g Ld h ((t, instObj 134 d) :: (d, tdict w k1 k2 k3 k4 b p pa fu) :: (wd, wo) :: (wpa, W.listOf wpav.toArray wn1) :: (wfu, W.listOf wfuv.toArray wn2) :: (L, o') :: (hl ++ (tl ++ wl))) → News g Ld h ((L, o') :: (hl ++ (tl ++ wl))) := fun N => newsTail (newsTail (newsTail (newsTail (newsTail N))))
  replace N := newsSub N (news' := (t, instObj 134 d) :: (d, tdict w k1 k2 k3 k4 b p pa fu) :: (wd, wo) :: (wpa, W.listOf wpav.toArray wn1) :: (wfu, W.listOf wfuv.toArray wn2) :: (L, oL) :: (hl ++ (tl ++ wl))) (by
    rw [et, ew]; intro q hq; simp only [List.mem_cons, List.mem_append] at hq ⊢; grind)
  unfold BadV at hbv
  cases hbo : badOf (V₀.now.length : Int) x y with
  | some v =>
    rw [hbo] at hbv
    obtain ⟨tb, rfl⟩ := hbv
    rw [← hTl] at hbo
    k_steps
    rename Fr _ _ _ _ => F
    rename News _ _ _ _ => N
    replace N := subt N
    refine read_bad (dp := dp + 1) S (fun b o e => F.keep _ _ (Kg _ _ e)) (by omega) (tl := tl) (fun q hq => newsHas N q (.tail _ (List.mem_append_right _ (List.mem_append_left _ hq)))) (fun q hq => freshOf N Kg q (.tail _ (List.mem_append_right _ (List.mem_append_left _ hq)))) Xt (ff2 F N hoL hfL hk (by rfl)) hbo ?_
    intro e9 h9 tk9 R9
    refine fmt_caught F N neL hoL hfL KX T R9 ?_
    intro h10 tk10 d9 oe9 od9 sl9 ta9 tv9 j1 j2 F N neL9 I9 q9
    k_steps
    refine fmt_get (KX.keeps (Fr.keep (by assumption))) I9 (what_of q9) rfl ?_
    k_steps
    refine fmt_get (KX.keeps (Fr.keep (by assumption))) I9 (at_of q9) rfl ?_
    k_steps
    rename Fr _ _ _ _ => F
    rename News _ _ _ _ => N
    exact ⟨_, _, _, hl, tl, wl, T₀, V₀, sl9, rfl, F, newsTail (newsTail N), neL, d2, d3, Xh, Xt, Xw, R.more (by omega), .inl (by simp)⟩
  | none =>
    rw [hbo] at hbv
    subst hbv
    obtain ⟨b0, b1, b2, b3⟩ := badOf_none hbo
    obtain ⟨f, rfl⟩ := Int.eq_ofNat_of_zero_le (a := x) (by omega)
    obtain ⟨e, rfl⟩ := Int.eq_ofNat_of_zero_le (a := y) (by omega)
    have hrd := R.read (x := f) (y := e) (by omega) (by omega)
    have hsl := slice_plain V₀.now (a := f) (b := e) (by omega) (by omega)
    have hrs := hrd.trans hsl.symm
    k_steps
    rename Fr _ _ _ _ => F
    rename News _ _ _ _ => N
    refine read_spec (dp := dp + 1) S ?r1 ?r2 ?r3 ?r4 Xt hz R.valid ?r5 ?r6 ?r7 ?_
    case r1 => exact fun b o e => F.keep _ _ (Kg _ _ e)
    case r2 => omega
    case r3 => exact fun q hq => newsHas (subt N) q (.tail _ (List.mem_append_right _ (List.mem_append_left _ hq)))
    case r4 => exact fun q hq => freshOf (subt N) Kg q (.tail _ (List.mem_append_right _ (List.mem_append_left _ hq)))
    case r5 => omega
    case r6 => omega
    case r7 => omega
    intro u9 h9 tk9 K9
    replace F := frKeeps F K9
    replace N := N.grown K9
    k_steps
    · rename (_ != _) = true => hne
      rw [hrs] at hne
      simp at hne
    · rename Fr _ _ _ _ => F
      rename News _ _ _ _ => N
      exact ⟨_, _, _, hl, tl, wl, T₀, V₀, oL.slots, rfl, F, (show News g Ld _ ((L, oL) :: (hl ++ (tl ++ wl))) from subt N), neL, d2, d3, Xh, Xt, Xw, R.more (by omega), .inr ⟨rfl, m8⟩⟩
theorem try_4 {dk : Int} (hdk : dk = 4) (ho : (Mine.kdef.heap_1 w.params).lookup 234 = some ⟨oc, od, .func (fnOf name qual params body scope dV kV doc pm an cdv ct), osl⟩) (hst : body[6]? = some st)
    (S : St w g₀) (Kg : Keeps g₀ g) (KX : (Mine.kdef.heap_1 w.params).In g) (T : Top Mine.vw LL mean mg mb g) (hdp : dp + 10 < recursionLimit) (F : Fr g Ld s.heap m) (N : News g Ld s.heap ((L, oL) :: (hl ++ (tl ++ wl)))) (hoL : ∀ vs, oL.data ≠ .fields vs)
    (neL : NeL (hl ++ (tl ++ wl)) L) (d2 : Disj hl (tl ++ wl)) (d3 : Disj tl wl) (Xh : HandL hl hand) (Xt : TxS w tl t T₀) (Xw : WdL prog w wl wd V₀) (R : Rel n T₀ V₀) (hn : n < 2 ^ 20)
    (m1 : m (Str.ofString "told") = some (.ref t)) (m2 : m (Str.ofString "world") = some (.ref wd)) (m3 : m (Str.ofString "deed") = some (.int dk td)) (m4 : m (Str.ofString "size_of") = some (.int (V₀.now.length : Nat) ts))
    (m5 : m (Str.ofString "first") = some (.int x tf)) (m6 : m (Str.ofString "last") = some (.int y tq)) (m7 : m (Str.ofString "added") = some (.str a ta)) (m8 : m (Str.ofString "bad") = some bv)
    (hbv : BadV V₀.now.length x y bv) (hx0 : -1 ≤ x) (hx1 : x < V₀.now.length + 2) (hxy : x ≤ y) (hy1 : y ≤ x + 4) (ha : a.length ≤ 4) (hoa : OkS a) (hun : un + 200 < cLine) (hfL : envL.frame = some L) (hk : envL.scope.kind ≠ .module) :
    wpAny (model prog w) ((Ar dp un (some [envL]) gd).deeper (envOf qual scope Ld 234 cdv)) (exec st (envOf qual scope Ld 234 cdv)) (TPost prog w n hand t wd g Ld L oL s) E s := by
  have h0 : (Mine.kdef.heap_1 w.params).lookup 234 = some ⟨_, _, .func (fnOf _ _ _ _ _ _ _ _ _ _ _ _), _⟩ := rfl
  have h1 := ho.symm.trans h0
  clear h0 ho
  simp only [Option.some.injEq, Obj.mk.injEq, Data.func.injEq, FuncData.mk.injEq, FuncBody.stmts.injEq, true_and, and_true] at h1
  obtain ⟨-, -, ⟨rfl, rfl, rfl, rfl, rfl, rfl, rfl, rfl, rfl, rfl, rfl, rfl⟩, -⟩ := h1
  obtain rfl := Option.some.inj hst
  clear hst
  have hzn := R.zn
  have hTl : (total T₀.ps : Int) = V₀.now.length := by rw [R.now.len]
  have hz := R.fits (by omega)
  have hlen : (T₀.len : Int) = V₀.now.length := by rw [R.len]
  have hpz : V₀.past.length < 2 ^ 22 := by
    have h1 := R.past.length
    have h2 := R.zp
    omega
  refine wpAny_Try_except ?_
  subst hdk
  have Xt' := Xt
  revert Xt'; refine TxL.elim ?_; intro d b p pa fu k1 k2 k3 k4 bv' pav fuv nb npa nfu fz Xt'
  have et := Xt'.tl_eq
  clear Xt'
  have Xw' := Xw
  revert Xw'; refine WdL.elim ?_; intro wpa wfu wo wtn wpav wfuv wn1 wn2 Xw'
  have ew := Xw'.wl_eq
  have whd := Xw'.hd
  have wpe := Xw'.hpa
  have wfe := Xw'.hfu
  have hnl : V₀.now.length ≤ sizeLine := by rw [sizeLine_eq]; omega
  have subt : ∀ {h : Heap} {o' : Obj}, News g Ld h ((t, instObj 134 d) :: (d, tdict w k1 k2 k3 k4 b p pa fu) :: (wd, wo) :: (wpa, W.listOf wpav.toArray wn1) :: (wfu, W.listOf wfuv.toArray wn2) :: (L, o') :: (hl ++ (tl ++ wl))) → News g Ld h ((L, o') :: (hl ++ (tl ++ wl))) := fun N => newsTail (newsTail (newsTail (newsTail (newsTail N))))
  replace N := newsSub N (news' := (t, instObj 134 d) :: (d, tdict w k1 k2 k3 k4 b p pa fu) :: (wd, wo) :: (wpa, W.listOf wpav.toArray wn1) :: (wfu, W.listOf wfuv.toArray wn2) :: (L, oL) :: (hl ++ (tl ++ wl))) (by
    rw [et, ew]; intro q hq; simp only [List.mem_cons, List.mem_append] at hq ⊢; grind)
  unfold BadV at hbv
  cases hbo : badOf (V₀.now.length : Int) x y with
  | some v =>
    rw [hbo] at hbv
    obtain ⟨tb, rfl⟩ := hbv
    k_steps
    rename Fr _ _ _ _ => F
    rename News _ _ _ _ => N
    exact ⟨_, _, _, hl, tl, wl, T₀, V₀, oL.slots, rfl, F, (show News g Ld _ ((L, oL) :: (hl ++ (tl ++ wl))) from subt N), neL, d2, d3, Xh, Xt, Xw, R.more (by omega), .inl rfl⟩
  | none =>
    rw [hbo] at hbv
    subst hbv
    obtain ⟨b0, b1, b2, b3⟩ := badOf_none hbo
    obtain ⟨f, rfl⟩ := Int.eq_ofNat_of_zero_le (a := x) (by omega)
    obtain ⟨e, rfl⟩ := Int.eq_ofNat_of_zero_le (a := y) (by omega)
    have hrd := R.read (x := f) (y := e) (by omega) (by omega)
    have hsl := slice_plain V₀.now (a := f) (b := e) (by omega) (by omega)
    have hso : OkS (sub V₀.now f (e - f)) := fun c hc => by
      unfold sub at hc
      rw [ofL_toList] at hc
      exact R.okn c (List.mem_of_mem_drop (List.mem_of_mem_take hc))
    have hsb : (sub V₀.now f (e - f)).length ≤ 4 := by unfold sub; rw [ofL_len, List.length_take]; omega
    k_steps
    rename Fr _ _ _ _ => F
    rename News _ _ _ _ => N
    replace N := newsTail (newsTail N)
    refine copy_on (dp := dp + 1) (other := (wd, wo) :: (wpa, W.listOf wpav.toArray wn1) :: (wfu, W.listOf wfuv.toArray wn2) :: (L, oL) :: (hl ++ wl)) (xl := tl) S Kg F (newsSub N (by intro q hq; simp only [List.mem_cons, List.mem_append] at hq ⊢; grind)) (Disj.append (A := [_, _, _]) (by rw [← ew]; exact d3.symm) (Disj.cons (fun q hq => neL q (List.mem_append_right _ (List.mem_append_left _ hq))) ((d2.sub (fun _ h => h) fun _ h => List.mem_append_left _ h).append d3.symm))) (by omega) Xt hz R.valid (by omega) (by omega) (by omega) (by omega) (by omega) ?_
    intro tl1 h5 tk5 F N D5' Xt5
    have D5 := D5'.sub (A' := (L, oL) :: (hl ++ wl)) (B' := tl1) (fun q hq => .tail _ (.tail _ (.tail _ hq))) (fun _ h => h)
    clear D5'
    simp only [List.cons_append] at N
    rw [hrd] at Xt5
    k_steps
    rename Fr _ _ _ _ => F
    rename News _ _ _ _ => N
    rw [hsl]
    refine replaced_on (dp := dp + 1) (other := (L, oL) :: (hl ++ tl1)) (xl := wl) S Kg F (newsSub N (by intro q hq; simp only [List.mem_cons, List.mem_append] at hq ⊢; grind)) (Disj.cons (fun q hq => neL q (List.mem_append_right _ (List.mem_append_right _ hq))) ((d2.sub (fun _ h => h) fun _ h => List.mem_append_right _ h).append (D5.symm.sub (fun _ h => h) fun q hq => .tail _ (List.mem_append_right _ hq)))) (by omega) (f := 0) (l := 0) Xw hpz (Nat.le_refl 0) (Nat.zero_le _) (by omega) (by omega) ?_
    intro wl1 h6 tk6 F N D6 Xw6
    simp only [List.cons_append] at N
    k_steps
    rename Fr _ _ _ _ => F
    rename News _ _ _ _ => N
    refine ⟨_, _, _, hl, tl1, wl1, _, _, oL.slots, rfl, F, (show News g Ld _ ((L, oL) :: (hl ++ (tl1 ++ wl1))) from newsSub N (by intro q hq; simp only [List.mem_cons, List.mem_append] at hq ⊢; grind)), ?_, ?_, ?_, Xh, Xt5, Xw6, (R.insert (x := 0) (by omega) hsb hso).more (by omega), .inr ⟨rfl, m8⟩⟩
    · intro q hq
      rcases List.mem_append.mp hq with hq | hq
      · exact neL q (List.mem_append_left _ hq)
      rcases List.mem_append.mp hq with hq | hq
      · exact D5 (L, oL) (.head _) q hq
      · exact D6 (L, oL) (.head _) q hq
    · exact (Disj.append (A := tl1) (D5.symm.sub (fun _ h => h) fun q hq => .tail _ (List.mem_append_left _ hq)) (D6.symm.sub (fun _ h => h) fun q hq => .tail _ (List.mem_append_left _ hq))).symm
    · exact D6.sub (fun q hq => .tail _ (List.mem_append_right _ hq)) fun _ h => h
end

local macro_rules | `(tactic| walk_at "eval IfExp") => `(tactic| (k_here; refine Hold.out ?_))
local macro_rules | `(tactic| walk_at "compareOp NotEq ref ref") => `(tactic| (k_here; refine Hold.out ?_))
section
variable {prog : Program} {w : World} {dp un : Nat} {gd : Option (List Code)} {s : Shared} {E : Value → Shared → Prop} {g₀ g : Heap} {L Ld : Addr} {envL : Env} {m : Str → Option Value} {oL : Obj} {hl tl wl : Led} {hand t wd : Addr} {T₀ : TS} {V₀ : WS} {n : Nat}
    {name qual : Str} {params : Arguments} {body : List Stmt} {scope : Scope} {dV kV doc pm cdv ct oc : Value} {an od : Option Addr} {osl : Array (Option Value)} {st : Stmt}
    {mean : ExcName → Option Value} {mg mb : Str → Option Value} {x y : Int} {a : Str} {td ts tf tq ta : Tok} {bv : Value}
theorem try_6 {dk : Int} (hdk : dk = 6) (ho : (Mine.kdef.heap_1 w.params).lookup 234 = some ⟨oc, od, .func (fnOf name qual params body scope dV kV doc pm an cdv ct), osl⟩) (hst : body[6]? = some st)
    (S : St w g₀) (Kg : Keeps g₀ g) (KX : (Mine.kdef.heap_1 w.params).In g) (T : Top Mine.vw LL mean mg mb g) (hdp : dp + 10 < recursionLimit) (F : Fr g Ld s.heap m) (N : News g Ld s.heap ((L, oL) :: (hl ++ (tl ++ wl)))) (hoL : ∀ vs, oL.data ≠ .fields vs)
    (neL : NeL (hl ++ (tl ++ wl)) L) (d2 : Disj hl (tl ++ wl)) (d3 : Disj tl wl) (Xh : HandL hl hand) (Xt : TxS w tl t T₀) (Xw : WdL prog w wl wd V₀) (R : Rel n T₀ V₀) (hn : n < 2 ^ 20)
    (m1 : m (Str.ofString "told") = some (.ref t)) (m2 : m (Str.ofString "world") = some (.ref wd)) (m3 : m (Str.ofString "deed") = some (.int dk td)) (m4 : m (Str.ofString "size_of") = some (.int (V₀.now.length : Nat) ts))
    (m5 : m (Str.ofString "first") = some (.int x tf)) (m6 : m (Str.ofString "last") = some (.int y tq)) (m7 : m (Str.ofString "added") = some (.str a ta)) (m8 : m (Str.ofString "bad") = some bv)
    (hbv : BadV V₀.now.length x y bv) (hx0 : -1 ≤ x) (hx1 : x < V₀.now.length + 2) (hxy : x ≤ y) (hy1 : y ≤ x + 4) (ha : a.length ≤ 4) (hoa : OkS a) (hun : un + 200 < cLine) (hfL : envL.frame = some L) (hk : envL.scope.kind ≠ .module) :
    wpAny (model prog w) ((Ar dp un (some [envL]) gd).deeper (envOf qual scope Ld 234 cdv)) (exec st (envOf qual scope Ld 234 cdv)) (TPost prog w n hand t wd g Ld L oL s) E s := by
  have h0 : (Mine.kdef.heap_1 w.params).lookup 234 = some ⟨_, _, .func (fnOf _ _ _ _ _ _ _ _ _ _ _ _), _⟩ := rfl
  have h1 := ho.symm.trans h0
  clear h0 ho
  simp only [Option.some.injEq, Obj.mk.injEq, Data.func.injEq, FuncData.mk.injEq, FuncBody.stmts.injEq, true_and, and_true] at h1
  obtain ⟨-, -, ⟨rfl, rfl, rfl, rfl, rfl, rfl, rfl, rfl, rfl, rfl, rfl, rfl⟩, -⟩ := h1
  obtain rfl := Option.some.inj hst
  clear hst
  have hzn := R.zn
  have hTl : (total T₀.ps : Int) = V₀.now.length := by rw [R.now.len]
  have hz := R.fits (by omega)
  have hlen : (T₀.len : Int) = V₀.now.length := by rw [R.len]
  have hpz : V₀.past.length < 2 ^ 22 := by
    have h1 := R.past.length
    have h2 := R.zp
    omega
  refine wpAny_Try_except ?_
  subst hdk
  have Xt' := Xt
  revert Xt'; refine TxL.elim ?_; intro d b p pa fu k1 k2 k3 k4 bv' pav fuv nb npa nfu fz Xt'
  have et := Xt'.tl_eq
  clear Xt'
  have Xw' := Xw
  revert Xw'; refine WdL.elim ?_; intro wpa wfu wo wtn wpav wfuv wn1 wn2 Xw'
  have ew := Xw'.wl_eq
  have whd := Xw'.hd
  have wpe := Xw'.hpa
  have wfe := Xw'.hfu
  have hnl : V₀.now.length ≤ sizeLine := by rw [sizeLine_eq]; omega
  have subt : ∀ {h : Heap} {o' : Obj}, News g Ld h ((t, instObj 134 d) :: (d, tdict w k1 k2 k3 k4 b p pa fu) :: (wd, wo) :: (wpa, W.listOf wpav.toArray wn1) :: (wfu, W.listOf wfuv.toArray wn2) :: (L, o') :: (hl ++ (tl ++ wl))) → News g Ld h ((L, o') :: (hl ++ (tl ++ wl))) := fun N => newsTail (newsTail (newsTail (newsTail (newsTail N))))
  replace N := newsSub N (news' := (t, instObj 134 d) :: (d, tdict w k1 k2 k3 k4 b p pa fu) :: (wd, wo) :: (wpa, W.listOf wpav.toArray wn1) :: (wfu, W.listOf wfuv.toArray wn2) :: (L, oL) :: (hl ++ (tl ++ wl))) (by
    rw [et, ew]; intro q hq; simp only [List.mem_cons, List.mem_append] at hq ⊢; grind)
  have hplen := R.past.length
  have hflen := R.fut.length
  have wplen := wpe.length
  have wflen := wfe.length
  have hzp := R.zp
  have hfit1 : wpav.toArray.size + 1 ≤ sizeLine := by rw [sizeLine_eq, List.size_toArray]; omega
  have hfit2 : wfuv.toArray.size + 1 ≤ sizeLine := by rw [sizeLine_eq, List.size_toArray]; omega
  rcases List.eq_nil_or_concat wpav with rfl | ⟨ys, v, rfl⟩
  · have hp0 : V₀.past = [] := by cases hv : V₀.past with | nil => rfl | cons _ _ => rw [hv] at wpe; cases wpe
    have ht0 : T₀.past = [] := by cases hv : T₀.past with | nil => rfl | cons _ _ => rw [hv, hp0] at hplen; simp at hplen
    k_steps
    rename Fr _ _ _ _ => F
    rename News _ _ _ _ => N
    refine undo_on (dp := dp + 1) (other := (wd, wo) :: (wpa, W.listOf ([] : List Value).toArray wn1) :: (wfu, W.listOf wfuv.toArray wn2) :: (L, oL) :: (hl ++ wl)) (xl := tl) S Kg F (newsSub (newsTail (newsTail N)) (by intro q hq; simp only [List.mem_cons, List.mem_append] at hq ⊢; grind)) (Disj.append (A := [_, _, _]) (by rw [← ew]; exact d3.symm) (Disj.cons (fun q hq => neL q (List.mem_append_right _ (List.mem_append_left _ hq))) ((d2.sub (fun _ h => h) fun _ h => List.mem_append_left _ h).append d3.symm))) (by omega) Xt hz ?_
    intro tl1 h5 tk5 F N D5 Xt5
    simp only [List.cons_append] at N
    rw [ht0]
    dsimp only [List.isEmpty_nil, Bool.not_true]
    k_steps
    rename Fr _ _ _ _ => F
    rename News _ _ _ _ => N
    refine' Hold.into (strs_ne_nil (kb := 0) ?n1 ?n2 wpe R.okp ?n3 ?n4 ?n5 ?_)
    case n1 => exact N
    case n2 => exact .tail _ (.tail _ (.head _))
    case n3 => exact .head _
    case n4 => rfl
    case n5 => show un + 3 + 64 < cLine; omega
    rw [hp0]
    dsimp only [List.isEmpty_nil, Bool.not_true]
    k_steps
    rename Fr _ _ _ _ => F
    rename News _ _ _ _ => N
    refine' Hold.into (strs_ne_nil (kb := 0) ?n1 ?n2 wpe R.okp ?n3 ?n4 ?n5 ?_)
    case n1 => exact N
    case n2 => exact .tail _ (.tail _ (.tail _ (.head _)))
    case n3 => exact .head _
    case n4 => rfl
    case n5 => show un + 3 + 64 < cLine; omega
    rw [hp0]
    dsimp only [List.isEmpty_nil, Bool.not_true]
    k_steps
    rename Fr _ _ _ _ => F
    rename News _ _ _ _ => N
    have eV : V₀.undo = V₀ := by unfold WS.undo; rw [hp0]; rfl
    exact ⟨_, _, _, hl, tl1, wl, T₀.undo, V₀.undo, oL.slots, rfl, F, (show News g Ld _ ((L, oL) :: (hl ++ (tl1 ++ wl))) from newsSub N (by intro q hq; simp only [List.mem_cons, List.mem_append] at hq ⊢; grind)), (fun q hq => (List.mem_append.mp hq).elim (fun h => neL q (List.mem_append_left _ h)) fun h => (List.mem_append.mp h).elim (fun h => D5 (L, oL) (.tail _ (.tail _ (.tail _ (.head _)))) q h) fun h => neL q (List.mem_append_right _ (List.mem_append_right _ h))), ((D5.symm.sub (A' := tl1) (B' := hl) (fun _ h => h) (fun q hq => .tail _ (.tail _ (.tail _ (.tail _ (List.mem_append_left _ hq)))))).append (d2.symm.sub (A' := wl) (fun q hq => List.mem_append_right _ hq) (fun _ h => h))).symm, (D5.symm.sub (fun _ h => h) (fun q hq => .tail _ (.tail _ (.tail _ (.tail _ (List.mem_append_right _ hq)))))), Xh, Xt5, by rw [eV]; exact Xw, R.undo.more (by omega), .inr ⟨rfl, rfl⟩⟩
  · rw [List.concat_eq_append] at *
    obtain ⟨row', p1, hrow, hys, ⟨tv, rfl⟩⟩ := wpe.snocInv
    k_steps
    rename Fr _ _ _ _ => F
    rename News _ _ _ _ => N
    refine undo_on (dp := dp + 1) (other := (wd, wo) :: (wpa, W.listOf (ys ++ [Value.str p1 tv]).toArray wn1) :: (wfu, W.listOf wfuv.toArray wn2) :: (L, oL) :: (hl ++ wl)) (xl := tl) S Kg F (newsSub (newsTail (newsTail N)) (by intro q hq; simp only [List.mem_cons, List.mem_append] at hq ⊢; grind)) (Disj.append (A := [_, _, _]) (by rw [← ew]; exact d3.symm) (Disj.cons (fun q hq => neL q (List.mem_append_right _ (List.mem_append_left _ hq))) ((d2.sub (fun _ h => h) fun _ h => List.mem_append_left _ h).append d3.symm))) (by omega) Xt hz ?_
    intro tl1 h5 tk5 F N D5 Xt5
    simp only [List.cons_append] at N
    k_steps
    rename Fr _ _ _ _ => F
    rename News _ _ _ _ => N
    refine' Hold.into (strs_ne_nil (kb := 0) ?n1 ?n2 wpe R.okp ?n3 ?n4 ?n5 ?_)
    case n1 => exact N
    case n2 => exact .tail _ (.tail _ (.head _))
    case n3 => exact .head _
    case n4 => rfl
    case n5 => show un + 3 + 64 < cLine; omega
    have e1 : (!T₀.past.isEmpty) = true := by cases hv : T₀.past with | nil => rw [hv, hrow] at hplen; simp at hplen | cons _ _ => rfl
    have e2 : (!V₀.past.isEmpty) = true := by rw [hrow]; simp
    rw [e1, e2]
    k_steps
    rename Fr _ _ _ _ => F
    rename News _ _ _ _ => N
    refine' Hold.into (strs_ne_nil (kb := 0) ?n1 ?n2 wpe R.okp ?n3 ?n4 ?n5 ?_)
    case n1 => exact N
    case n2 => exact .tail _ (.tail _ (.tail _ (.head _)))
    case n3 => exact .head _
    case n4 => rfl
    case n5 => show un + 3 + 64 < cLine; omega
    rw [e2]
    obtain ⟨rs, hrs⟩ : ∃ rs, rs = (L, oL) :: (hl ++ tl1) := ⟨_, rfl⟩
    have nrs : ∀ q ∈ wl, NeL rs q.1 := fun q hq => by
      rw [hrs]
      refine NeL.cons (Ne.symm (neL q (List.mem_append_right _ (List.mem_append_right _ hq)))) (NeL.append (fun r hr => Ne.symm (d2 r hr q (List.mem_append_right _ hq))) fun r hr => D5 q (.tail _ (.tail _ (.tail _ (.tail _ (List.mem_append_right _ hq))))) r hr)
    have nr1 : NeL rs wd := nrs (wd, wo) (by rw [ew]; exact .head _)
    have nr2 : NeL rs wpa := nrs (wpa, _) (by rw [ew]; exact .tail _ (.head _))
    have nr3 : NeL rs wfu := nrs (wfu, _) (by rw [ew]; exact .tail _ (.tail _ (.head _)))
    have wl1 := Xw'.l1
    have wl2 := Xw'.l2
    replace N := newsSub N (news' := (wd, wo) :: (wpa, W.listOf (ys ++ [Value.str p1 tv]).toArray wn1) :: (wfu, W.listOf wfuv.toArray wn2) :: rs) (by rw [hrs]; intro q hq; simp only [List.mem_cons, List.mem_append] at hq ⊢; grind)
    have hyz : ys.length + 1 ≤ sizeLine := by rw [sizeLine_eq]; simp only [List.length_append, List.length_cons, List.length_nil] at *; omega
    have hfit : (((ys ++ [Value.str p1 tv]).toArray.size : Nat) : Int) < 2 ^ 63 := by simp only [List.size_toArray, List.length_append, List.length_cons, List.length_nil] at *; omega
    k_steps
    (try dsimp only)
    k_steps
    (try dsimp only)
    k_steps
    rename Fr _ _ _ _ => F
    rename News _ _ _ _ => N
    rename Obj.IsDictOf _ _ _ => hd9
    obtain ⟨on, e9⟩ := ob1 N
    subst e9
    rw [List.push_toArray] at N
    have eV : V₀.undo = ⟨p1, row', V₀.fut ++ [V₀.now]⟩ := by unfold WS.undo; rw [hrow, List.getLast?_concat, List.dropLast_concat]
    have dw : Disj rs [(wd, on), (wpa, W.listOf ys.toArray (wn1 + 1)), (wfu, W.listOf (wfuv ++ [Value.str V₀.now wtn]).toArray (wn2 + 1))] := fun q hq r hr => by
      rcases List.mem_cons.mp hr with rfl | hr
      · exact Ne.symm (nr1 q hq)
      rcases List.mem_cons.mp hr with rfl | hr
      · exact Ne.symm (nr2 q hq)
      rw [List.mem_singleton.mp hr]
      exact Ne.symm (nr3 q hq)
    have hLr : (L, oL) ∈ rs := by rw [hrs]; exact .head _
    have hlr : ∀ q ∈ hl, q ∈ rs := fun q hq => by rw [hrs]; exact .tail _ (List.mem_append_left _ hq)
    have htr : ∀ q ∈ tl1, q ∈ rs := fun q hq => by rw [hrs]; exact .tail _ (List.mem_append_right _ hq)
    exact ⟨_, _, _, hl, tl1, [(wd, on), (wpa, W.listOf ys.toArray (wn1 + 1)), (wfu, W.listOf (wfuv ++ [Value.str V₀.now wtn]).toArray (wn2 + 1))], T₀.undo, V₀.undo, oL.slots, rfl, F, (show News g Ld _ ((L, oL) :: (hl ++ (tl1 ++ [(wd, on), (wpa, W.listOf ys.toArray (wn1 + 1)), (wfu, W.listOf (wfuv ++ [Value.str V₀.now wtn]).toArray (wn2 + 1))]))) from newsSub N (by rw [hrs]; intro q hq; simp only [List.mem_cons, List.mem_append] at hq ⊢; grind)),
      (fun q hq => (List.mem_append.mp hq).elim (fun h => neL q (List.mem_append_left _ h)) fun h => (List.mem_append.mp h).elim (fun h => D5 (L, oL) (.tail _ (.tail _ (.tail _ (.head _)))) q h) fun h => dw (L, oL) hLr q h),
      ((D5.symm.sub (A' := tl1) (B' := hl) (fun _ h => h) (fun q hq => .tail _ (.tail _ (.tail _ (.tail _ (List.mem_append_left _ hq)))))).append (Disj.symm (dw.sub hlr fun _ h => h))).symm,
      dw.sub htr (fun _ h => h), Xh, Xt5, by rw [eV]; exact ⟨wpa, wfu, on, tv, ys, wfuv ++ [Value.str V₀.now wtn], _, _, ⟨rfl, wl1, wl2, hd9, hys, wfe.append (.one ⟨_, rfl⟩)⟩⟩, R.undo.more (by omega), .inr ⟨rfl, rfl⟩⟩
theorem try_7 {dk : Int} (hdk : dk = 7) (ho : (Mine.kdef.heap_1 w.params).lookup 234 = some ⟨oc, od, .func (fnOf name qual params body scope dV kV doc pm an cdv ct), osl⟩) (hst : body[6]? = some st)
    (S : St w g₀) (Kg : Keeps g₀ g) (KX : (Mine.kdef.heap_1 w.params).In g) (T : Top Mine.vw LL mean mg mb g) (hdp : dp + 10 < recursionLimit) (F : Fr g Ld s.heap m) (N : News g Ld s.heap ((L, oL) :: (hl ++ (tl ++ wl)))) (hoL : ∀ vs, oL.data ≠ .fields vs)
    (neL : NeL (hl ++ (tl ++ wl)) L) (d2 : Disj hl (tl ++ wl)) (d3 : Disj tl wl) (Xh : HandL hl hand) (Xt : TxS w tl t T₀) (Xw : WdL prog w wl wd V₀) (R : Rel n T₀ V₀) (hn : n < 2 ^ 20)
    (m1 : m (Str.ofString "told") = some (.ref t)) (m2 : m (Str.ofString "world") = some (.ref wd)) (m3 : m (Str.ofString "deed") = some (.int dk td)) (m4 : m (Str.ofString "size_of") = some (.int (V₀.now.length : Nat) ts))
    (m5 : m (Str.ofString "first") = some (.int x tf)) (m6 : m (Str.ofString "last") = some (.int y tq)) (m7 : m (Str.ofString "added") = some (.str a ta)) (m8 : m (Str.ofString "bad") = some bv)
    (hbv : BadV V₀.now.length x y bv) (hx0 : -1 ≤ x) (hx1 : x < V₀.now.length + 2) (hxy : x ≤ y) (hy1 : y ≤ x + 4) (ha : a.length ≤ 4) (hoa : OkS a) (hun : un + 200 < cLine) (hfL : envL.frame = some L) (hk : envL.scope.kind ≠ .module) :
    wpAny (model prog w) ((Ar dp un (some [envL]) gd).deeper (envOf qual scope Ld 234 cdv)) (exec st (envOf qual scope Ld 234 cdv)) (TPost prog w n hand t wd g Ld L oL s) E s := by
  have h0 : (Mine.kdef.heap_1 w.params).lookup 234 = some ⟨_, _, .func (fnOf _ _ _ _ _ _ _ _ _ _ _ _), _⟩ := rfl
  have h1 := ho.symm.trans h0
  clear h0 ho
  simp only [Option.some.injEq, Obj.mk.injEq, Data.func.injEq, FuncData.mk.injEq, FuncBody.stmts.injEq, true_and, and_true] at h1
  obtain ⟨-, -, ⟨rfl, rfl, rfl, rfl, rfl, rfl, rfl, rfl, rfl, rfl, rfl, rfl⟩, -⟩ := h1
  obtain rfl := Option.some.inj hst
  clear hst
  have hzn := R.zn
  have hTl : (total T₀.ps : Int) = V₀.now.length := by rw [R.now.len]
  have hz := R.fits (by omega)
  have hlen : (T₀.len : Int) = V₀.now.length := by rw [R.len]
  have hpz : V₀.past.length < 2 ^ 22 := by
    have h1 := R.past.length
    have h2 := R.zp
    omega
  refine wpAny_Try_except ?_
  subst hdk
  have Xt' := Xt
  revert Xt'; refine TxL.elim ?_; intro d b p pa fu k1 k2 k3 k4 bv' pav fuv nb npa nfu fz Xt'
  have et := Xt'.tl_eq
  clear Xt'
  have Xw' := Xw
  revert Xw'; refine WdL.elim ?_; intro wpa wfu wo wtn wpav wfuv wn1 wn2 Xw'
  have ew := Xw'.wl_eq
  have whd := Xw'.hd
  have wpe := Xw'.hpa
  have wfe := Xw'.hfu
  have hnl : V₀.now.length ≤ sizeLine := by rw [sizeLine_eq]; omega
  have subt : ∀ {h : Heap} {o' : Obj}, News g Ld h ((t, instObj 134 d) :: (d, tdict w k1 k2 k3 k4 b p pa fu) :: (wd, wo) :: (wpa, W.listOf wpav.toArray wn1) :: (wfu, W.listOf wfuv.toArray wn2) :: (L, o') :: (hl ++ (tl ++ wl))) → News g Ld h ((L, o') :: (hl ++ (tl ++ wl))) := fun N => newsTail (newsTail (newsTail (newsTail (newsTail N))))
  replace N := newsSub N (news' := (t, instObj 134 d) :: (d, tdict w k1 k2 k3 k4 b p pa fu) :: (wd, wo) :: (wpa, W.listOf wpav.toArray wn1) :: (wfu, W.listOf wfuv.toArray wn2) :: (L, oL) :: (hl ++ (tl ++ wl))) (by
    rw [et, ew]; intro q hq; simp only [List.mem_cons, List.mem_append] at hq ⊢; grind)
  have hplen := R.past.length
  have hflen := R.fut.length
  have wplen := wpe.length
  have wflen := wfe.length
  have hzp := R.zp
  have hfit1 : wpav.toArray.size + 1 ≤ sizeLine := by rw [sizeLine_eq, List.size_toArray]; omega
  have hfit2 : wfuv.toArray.size + 1 ≤ sizeLine := by rw [sizeLine_eq, List.size_toArray]; omega
  rcases List.eq_nil_or_concat wfuv with rfl | ⟨ys, v, rfl⟩
  · have hp0 : V₀.fut = [] := by cases hv : V₀.fut with | nil => rfl | cons _ _ => rw [hv] at wfe; cases wfe
    have ht0 : T₀.fut = [] := by cases hv : T₀.fut with | nil => rfl | cons _ _ => rw [hv, hp0] at hflen; simp at hflen
    k_steps
    rename Fr _ _ _ _ => F
    rename News _ _ _ _ => N
    refine redo_on (dp := dp + 1) (other := (wd, wo) :: (wpa, W.listOf wpav.toArray wn1) :: (wfu, W.listOf ([] : List Value).toArray wn2) :: (L, oL) :: (hl ++ wl)) (xl := tl) S Kg F (newsSub (newsTail (newsTail N)) (by intro q hq; simp only [List.mem_cons, List.mem_append] at hq ⊢; grind)) (Disj.append (A := [_, _, _]) (by rw [← ew]; exact d3.symm) (Disj.cons (fun q hq => neL q (List.mem_append_right _ (List.mem_append_left _ hq))) ((d2.sub (fun _ h => h) fun _ h => List.mem_append_left _ h).append d3.symm))) (by omega) Xt hz ?_
    intro tl1 h5 tk5 F N D5 Xt5
    simp only [List.cons_append] at N
    rw [ht0]
    dsimp only [List.isEmpty_nil, Bool.not_true]
    k_steps
    rename Fr _ _ _ _ => F
    rename News _ _ _ _ => N
    refine' Hold.into (strs_ne_nil (kb := 0) ?n1 ?n2 wfe R.okf ?n3 ?n4 ?n5 ?_)
    case n1 => exact N
    case n2 => exact .tail _ (.tail _ (.tail _ (.head _)))
    case n3 => exact .head _
    case n4 => rfl
    case n5 => show un + 3 + 64 < cLine; omega
    rw [hp0]
    dsimp only [List.isEmpty_nil, Bool.not_true]
    k_steps
    rename Fr _ _ _ _ => F
    rename News _ _ _ _ => N
    refine' Hold.into (strs_ne_nil (kb := 0) ?n1 ?n2 wfe R.okf ?n3 ?n4 ?n5 ?_)
    case n1 => exact N
    case n2 => exact .tail _ (.tail _ (.tail _ (.tail _ (.head _))))
    case n3 => exact .head _
    case n4 => rfl
    case n5 => show un + 3 + 64 < cLine; omega
    rw [hp0]
    dsimp only [List.isEmpty_nil, Bool.not_true]
    k_steps
    rename Fr _ _ _ _ => F
    rename News _ _ _ _ => N
    have eV : V₀.redo = V₀ := by unfold WS.redo; rw [hp0]; rfl
    exact ⟨_, _, _, hl, tl1, wl, T₀.redo, V₀.redo, oL.slots, rfl, F, (show News g Ld _ ((L, oL) :: (hl ++ (tl1 ++ wl))) from newsSub N (by intro q hq; simp only [List.mem_cons, List.mem_append] at hq ⊢; grind)), (fun q hq => (List.mem_append.mp hq).elim (fun h => neL q (List.mem_append_left _ h)) fun h => (List.mem_append.mp h).elim (fun h => D5 (L, oL) (.tail _ (.tail _ (.tail _ (.head _)))) q h) fun h => neL q (List.mem_append_right _ (List.mem_append_right _ h))), ((D5.symm.sub (A' := tl1) (B' := hl) (fun _ h => h) (fun q hq => .tail _ (.tail _ (.tail _ (.tail _ (List.mem_append_left _ hq)))))).append (d2.symm.sub (A' := wl) (fun q hq => List.mem_append_right _ hq) (fun _ h => h))).symm, (D5.symm.sub (fun _ h => h) (fun q hq => .tail _ (.tail _ (.tail _ (.tail _ (List.mem_append_right _ hq)))))), Xh, Xt5, by rw [eV]; exact Xw, R.redo.more (by omega), .inr ⟨rfl, rfl⟩⟩
  · rw [List.concat_eq_append] at *
    obtain ⟨row', p1, hrow, hys, ⟨tv, rfl⟩⟩ := wfe.snocInv
    k_steps
    rename Fr _ _ _ _ => F
    rename News _ _ _ _ => N
    refine redo_on (dp := dp + 1) (other := (wd, wo) :: (wpa, W.listOf wpav.toArray wn1) :: (wfu, W.listOf (ys ++ [Value.str p1 tv]).toArray wn2) :: (L, oL) :: (hl ++ wl)) (xl := tl) S Kg F (newsSub (newsTail (newsTail N)) (by intro q hq; simp only [List.mem_cons, List.mem_append] at hq ⊢; grind)) (Disj.append (A := [_, _, _]) (by rw [← ew]; exact d3.symm) (Disj.cons (fun q hq => neL q (List.mem_append_right _ (List.mem_append_left _ hq))) ((d2.sub (fun _ h => h) fun _ h => List.mem_append_left _ h).append d3.symm))) (by omega) Xt hz ?_
    intro tl1 h5 tk5 F N D5 Xt5
    simp only [List.cons_append] at N
    k_steps
    rename Fr _ _ _ _ => F
    rename News _ _ _ _ => N
    refine' Hold.into (strs_ne_nil (kb := 0) ?n1 ?n2 wfe R.okf ?n3 ?n4 ?n5 ?_)
    case n1 => exact N
    case n2 => exact .tail _ (.tail _ (.tail _ (.head _)))
    case n3 => exact .head _
    case n4 => rfl
    case n5 => show un + 3 + 64 < cLine; omega
    have e1 : (!T₀.fut.isEmpty) = true := by cases hv : T₀.fut with | nil => rw [hv, hrow] at hflen; simp at hflen | cons _ _ => rfl
    have e2 : (!V₀.fut.isEmpty) = true := by rw [hrow]; simp
    rw [e1, e2]
    k_steps
    rename Fr _ _ _ _ => F
    rename News _ _ _ _ => N
    refine' Hold.into (strs_ne_nil (kb := 0) ?n1 ?n2 wfe R.okf ?n3 ?n4 ?n5 ?_)
    case n1 => exact N
    case n2 => exact .tail _ (.tail _ (.tail _ (.tail _ (.head _))))
    case n3 => exact .head _
    case n4 => rfl
    case n5 => show un + 3 + 64 < cLine; omega
    rw [e2]
    obtain ⟨rs, hrs⟩ : ∃ rs, rs = (L, oL) :: (hl ++ tl1) := ⟨_, rfl⟩
    have nrs : ∀ q ∈ wl, NeL rs q.1 := fun q hq => by
      rw [hrs]
      refine NeL.cons (Ne.symm (neL q (List.mem_append_right _ (List.mem_append_right _ hq)))) (NeL.append (fun r hr => Ne.symm (d2 r hr q (List.mem_append_right _ hq))) fun r hr => D5 q (.tail _ (.tail _ (.tail _ (.tail _ (List.mem_append_right _ hq))))) r hr)
    have nr1 : NeL rs wd := nrs (wd, wo) (by rw [ew]; exact .head _)
    have nr2 : NeL rs wpa := nrs (wpa, _) (by rw [ew]; exact .tail _ (.head _))
    have nr3 : NeL rs wfu := nrs (wfu, _) (by rw [ew]; exact .tail _ (.tail _ (.head _)))
    have wl1 := Xw'.l1
    have wl2 := Xw'.l2
    replace N := newsSub N (news' := (wd, wo) :: (wpa, W.listOf wpav.toArray wn1) :: (wfu, W.listOf (ys ++ [Value.str p1 tv]).toArray wn2) :: rs) (by rw [hrs]; intro q hq; simp only [List.mem_cons, List.mem_append] at hq ⊢; grind)
    have hyz : ys.length + 1 ≤ sizeLine := by rw [sizeLine_eq]; simp only [List.length_append, List.length_cons, List.length_nil] at *; omega
    have hfit : (((ys ++ [Value.str p1 tv]).toArray.size : Nat) : Int) < 2 ^ 63 := by simp only [List.size_toArray, List.length_append, List.length_cons, List.length_nil] at *; omega
    k_steps
    (try dsimp only)
    k_steps
    (try dsimp only)
    k_steps
    rename Fr _ _ _ _ => F
    rename News _ _ _ _ => N
    rename Obj.IsDictOf _ _ _ => hd9
    obtain ⟨on, e9⟩ := ob1 N
    subst e9
    rw [List.push_toArray] at N
    have eV : V₀.redo = ⟨p1, V₀.past ++ [V₀.now], row'⟩ := by unfold WS.redo; rw [hrow, List.getLast?_concat, List.dropLast_concat]
    have dw : Disj rs [(wd, on), (wpa, W.listOf (wpav ++ [Value.str V₀.now wtn]).toArray (wn1 + 1)), (wfu, W.listOf ys.toArray (wn2 + 1))] := fun q hq r hr => by
      rcases List.mem_cons.mp hr with rfl | hr
      · exact Ne.symm (nr1 q hq)
      rcases List.mem_cons.mp hr with rfl | hr
      · exact Ne.symm (nr2 q hq)
      rw [List.mem_singleton.mp hr]
      exact Ne.symm (nr3 q hq)
    have hLr : (L, oL) ∈ rs := by rw [hrs]; exact .head _
    have hlr : ∀ q ∈ hl, q ∈ rs := fun q hq => by rw [hrs]; exact .tail _ (List.mem_append_left _ hq)
    have htr : ∀ q ∈ tl1, q ∈ rs := fun q hq => by rw [hrs]; exact .tail _ (List.mem_append_right _ hq)
    exact ⟨_, _, _, hl, tl1, [(wd, on), (wpa, W.listOf (wpav ++ [Value.str V₀.now wtn]).toArray (wn1 + 1)), (wfu, W.listOf ys.toArray (wn2 + 1))], T₀.redo, V₀.redo, oL.slots, rfl, F, (show News g Ld _ ((L, oL) :: (hl ++ (tl1 ++ [(wd, on), (wpa, W.listOf (wpav ++ [Value.str V₀.now wtn]).toArray (wn1 + 1)), (wfu, W.listOf ys.toArray (wn2 + 1))]))) from newsSub N (by rw [hrs]; intro q hq; simp only [List.mem_cons, List.mem_append] at hq ⊢; grind)),
      (fun q hq => (List.mem_append.mp hq).elim (fun h => neL q (List.mem_append_left _ h)) fun h => (List.mem_append.mp h).elim (fun h => D5 (L, oL) (.tail _ (.tail _ (.tail _ (.head _)))) q h) fun h => dw (L, oL) hLr q h),
      ((D5.symm.sub (A' := tl1) (B' := hl) (fun _ h => h) (fun q hq => .tail _ (.tail _ (.tail _ (.tail _ (List.mem_append_left _ hq)))))).append (Disj.symm (dw.sub hlr fun _ h => h))).symm,
      dw.sub htr (fun _ h => h), Xh, Xt5, by rw [eV]; exact ⟨wpa, wfu, on, tv, wpav ++ [Value.str V₀.now wtn], ys, _, _, ⟨rfl, wl1, wl2, hd9, wpe.append (.one ⟨_, rfl⟩), hys⟩⟩, R.redo.more (by omega), .inr ⟨rfl, rfl⟩⟩
end

local macro_rules | `(tactic| walk_at "eval IfExp") => `(tactic| (k_here; refine Hold.out ?_))
section
variable {prog : Program} {w : World} {dp un : Nat} {gd : Option (List Code)} {s : Shared} {E : Value → Shared → Prop} {g₀ g : Heap} {L Ld : Addr} {envL : Env} {m : Str → Option Value} {oL : Obj} {hl tl wl : Led} {hand t wd : Addr} {T₀ : TS} {V₀ : WS} {n : Nat}
    {name qual : Str} {params : Arguments} {body : List Stmt} {scope : Scope} {dV kV doc pm cdv ct oc : Value} {an od : Option Addr} {osl : Array (Option Value)} {st : Stmt}
    {mean : ExcName → Option Value} {mg mb : Str → Option Value} {x y : Int} {a : Str} {td ts tf tq ta : Tok} {bv : Value}
theorem try_8 {dk : Int} (hdk : dk = 8) (ho : (Mine.kdef.heap_1 w.params).lookup 234 = some ⟨oc, od, .func (fnOf name qual params body scope dV kV doc pm an cdv ct), osl⟩) (hst : body[6]? = some st)
    (S : St w g₀) (Kg : Keeps g₀ g) (KX : (Mine.kdef.heap_1 w.params).In g) (T : Top Mine.vw LL mean mg mb g) (hdp : dp + 10 < recursionLimit) (F : Fr g Ld s.heap m) (N : News g Ld s.heap ((L, oL) :: (hl ++ (tl ++ wl)))) (hoL : ∀ vs, oL.data ≠ .fields vs)
    (neL : NeL (hl ++ (tl ++ wl)) L) (d2 : Disj hl (tl ++ wl)) (d3 : Disj tl wl) (Xh : HandL hl hand) (Xt : TxS w tl t T₀) (Xw : WdL prog w wl wd V₀) (R : Rel n T₀ V₀) (hn : n < 2 ^ 20)
    (m1 : m (Str.ofString "told") = some (.ref t)) (m2 : m (Str.ofString "world") = some (.ref wd)) (m3 : m (Str.ofString "deed") = some (.int dk td)) (m4 : m (Str.ofString "size_of") = some (.int (V₀.now.length : Nat) ts))
    (m5 : m (Str.ofString "first") = some (.int x tf)) (m6 : m (Str.ofString "last") = some (.int y tq)) (m7 : m (Str.ofString "added") = some (.str a ta)) (m8 : m (Str.ofString "bad") = some bv)
    (hbv : BadV V₀.now.length x y bv) (hx0 : -1 ≤ x) (hx1 : x < V₀.now.length + 2) (hxy : x ≤ y) (hy1 : y ≤ x + 4) (ha : a.length ≤ 4) (hoa : OkS a) (hun : un + 200 < cLine) (hfL : envL.frame = some L) (hk : envL.scope.kind ≠ .module) :
    wpAny (model prog w) ((Ar dp un (some [envL]) gd).deeper (envOf qual scope Ld 234 cdv)) (exec st (envOf qual scope Ld 234 cdv)) (TPost prog w n hand t wd g Ld L oL s) E s := by
  have h0 : (Mine.kdef.heap_1 w.params).lookup 234 = some ⟨_, _, .func (fnOf _ _ _ _ _ _ _ _ _ _ _ _), _⟩ := rfl
  have h1 := ho.symm.trans h0
  clear h0 ho
  simp only [Option.some.injEq, Obj.mk.injEq, Data.func.injEq, FuncData.mk.injEq, FuncBody.stmts.injEq, true_and, and_true] at h1
  obtain ⟨-, -, ⟨rfl, rfl, rfl, rfl, rfl, rfl, rfl, rfl, rfl, rfl, rfl, rfl⟩, -⟩ := h1
  obtain rfl := Option.some.inj hst
  clear hst
  have hzn := R.zn
  have hTl : (total T₀.ps : Int) = V₀.now.length := by rw [R.now.len]
  have hz := R.fits (by omega)
  have hlen : (T₀.len : Int) = V₀.now.length := by rw [R.len]
  have hpz : V₀.past.length < 2 ^ 22 := by
    have h1 := R.past.length
    have h2 := R.zp
    omega
  refine wpAny_Try_except ?_
  subst hdk
  have Xt' := Xt
  revert Xt'; refine TxL.elim ?_; intro d b p pa fu k1 k2 k3 k4 bv' pav fuv nb npa nfu fz Xt'
  have et := Xt'.tl_eq
  clear Xt'
  have Xw' := Xw
  revert Xw'; refine WdL.elim ?_; intro wpa wfu wo wtn wpav wfuv wn1 wn2 Xw'
  have ew := Xw'.wl_eq
  have whd := Xw'.hd
  have wpe := Xw'.hpa
  have wfe := Xw'.hfu
  have hnl : V₀.now.length ≤ sizeLine := by rw [sizeLine_eq]; omega
  have subt : ∀ {h : Heap} {o' : Obj}, News g Ld h ((t, instObj 134 d) :: (d, tdict w k1 k2 k3 k4 b p pa fu) :: (wd, wo) :: (wpa, W.listOf wpav.toArray wn1) :: (wfu, W.listOf wfuv.toArray wn2) :: (L, o') :: (hl ++ (tl ++ wl))) → News g Ld h ((L, o') :: (hl ++ (tl ++ wl))) := fun N => newsTail (newsTail (newsTail (newsTail (newsTail N))))
  replace N := newsSub N (news' := (t, instObj 134 d) :: (d, tdict w k1 k2 k3 k4 b p pa fu) :: (wd, wo) :: (wpa, W.listOf wpav.toArray wn1) :: (wfu, W.listOf wfuv.toArray wn2) :: (L, oL) :: (hl ++ (tl ++ wl))) (by
    rw [et, ew]; intro q hq; simp only [List.mem_cons, List.mem_append] at hq ⊢; grind)
  k_steps
  refine Hold.into (IfExp_ ?_)
  by_cases hA : x < 0 ∨ (V₀.now.length : Int) < x
  · have hfd : T₀.find a x = -1 := by unfold TS.find; rw [hlen, if_pos hA]
    k_steps
    all_goals (
      rename Fr _ _ _ _ => F
      rename News _ _ _ _ => N
      refine find_on (dp := dp + 1) (other := (L, oL) :: (hl ++ wl)) (xl := tl) S Kg F (newsSub (subt N) (by intro q hq; simp only [List.mem_cons, List.mem_append] at hq ⊢; grind)) (by omega) Xt hz R.valid (by omega) ?_
      intro u9 h9 tk9 F N
      rw [hfd]
      k_steps
      rename Fr _ _ _ _ => F
      rename News _ _ _ _ => N
      exact ⟨_, _, _, hl, tl, wl, T₀, V₀, oL.slots, rfl, F, (show News g Ld _ ((L, oL) :: (hl ++ (tl ++ wl))) from newsSub N (by intro q hq; simp only [List.mem_cons, List.mem_append] at hq ⊢; grind)), neL, d2, d3, Xh, Xt, Xw, R.more (by omega), .inr ⟨rfl, rfl⟩⟩)
  · obtain ⟨f, rfl⟩ := Int.eq_ofNat_of_zero_le (a := x) (by omega)
    k_steps
    rename Fr _ _ _ _ => F
    rename News _ _ _ _ => N
    refine found_on (dp := dp + 1) S Kg F (subt N) (by omega) (by omega) (by omega) (by omega) ?_
    intro h9 tk9 r u9 F N hfnd
    have hfd : T₀.find a (f : Int) = r := R.find (by omega) hfnd
    k_steps
    rename Fr _ _ _ _ => F
    rename News _ _ _ _ => N
    refine find_on (dp := dp + 1) (other := (L, oL) :: (hl ++ wl)) (xl := tl) S Kg F (newsSub N (by intro q hq; simp only [List.mem_cons, List.mem_append] at hq ⊢; grind)) (by omega) Xt hz R.valid (by omega) ?_
    intro u9 h9 tk9 F N
    rw [hfd]
    k_steps
    all_goals (rename Fr _ _ _ _ => F; rename News _ _ _ _ => N)
    all_goals first
      | exact ⟨_, _, _, hl, tl, wl, T₀, V₀, oL.slots, rfl, F, (show News g Ld _ ((L, oL) :: (hl ++ (tl ++ wl))) from newsSub N (by intro q hq; simp only [List.mem_cons, List.mem_append] at hq ⊢; grind)), neL, d2, d3, Xh, Xt, Xw, R.more (by omega), .inr ⟨rfl, rfl⟩⟩
      | (exfalso; exact absurd rfl (by assumption : ¬ r = r))
      | (exfalso; have hne : (r != r) = true := by assumption; simp at hne)
end

local macro_rules | `(tactic| walk_at "eval IfExp") => `(tactic| (k_here; refine Hold.out ?_))
section
variable {prog : Program} {w : World} {dp un : Nat} {gd : Option (List Code)} {s : Shared} {E : Value → Shared → Prop} {g₀ g : Heap} {L Ld : Addr} {envL : Env} {m : Str → Option Value} {oL : Obj} {hl tl wl : Led} {hand t wd : Addr} {T₀ : TS} {V₀ : WS} {n : Nat}
    {name qual : Str} {params : Arguments} {body : List Stmt} {scope : Scope} {dV kV doc pm cdv ct oc : Value} {an od : Option Addr} {osl : Array (Option Value)} {st : Stmt}
    {mean : ExcName → Option Value} {mg mb : Str → Option Value} {x y : Int} {a : Str} {td ts tf tq ta : Tok} {bv : Value}
theorem try_5 {dk : Int} (hdk : dk = 5) (ho : (Mine.kdef.heap_1 w.params).lookup 234 = some ⟨oc, od, .func (fnOf name qual params body scope dV kV doc pm an cdv ct), osl⟩) (hst : body[6]? = some st)
    (S : St w g₀) (Kg : Keeps g₀ g) (KX : (Mine.kdef.heap_1 w.params).In g) (T : Top Mine.vw LL mean mg mb g) (hdp : dp + 10 < recursionLimit) (F : Fr g Ld s.heap m) (N : News g Ld s.heap ((L, oL) :: (hl ++ (tl ++ wl)))) (hoL : ∀ vs, oL.data ≠ .fields vs)
    (neL : NeL (hl ++ (tl ++ wl)) L) (d2 : Disj hl (tl ++ wl)) (d3 : Disj tl wl) (Xh : HandL hl hand) (Xt : TxS w tl t T₀) (Xw : WdL prog w wl wd V₀) (R : Rel n T₀ V₀) (hn : n < 2 ^ 20)
    (m1 : m (Str.ofString "told") = some (.ref t)) (m2 : m (Str.ofString "world") = some (.ref wd)) (m3 : m (Str.ofString "deed") = some (.int dk td)) (m4 : m (Str.ofString "size_of") = some (.int (V₀.now.length : Nat) ts))
    (m5 : m (Str.ofString "first") = some (.int x tf)) (m6 : m (Str.ofString "last") = some (.int y tq)) (m7 : m (Str.ofString "added") = some (.str a ta)) (m8 : m (Str.ofString "bad") = some bv)
    (hbv : BadV V₀.now.length x y bv) (hx0 : -1 ≤ x) (hx1 : x < V₀.now.length + 2) (hxy : x ≤ y) (hy1 : y ≤ x + 4) (ha : a.length ≤ 4) (hoa : OkS a) (hun : un + 200 < cLine) (hfL : envL.frame = some L) (hk : envL.scope.kind ≠ .module) :
    wpAny (model prog w) ((Ar dp un (some [envL]) gd).deeper (envOf qual scope Ld 234 cdv)) (exec st (envOf qual scope Ld 234 cdv)) (TPost prog w n hand t wd g Ld L oL s) E s := by
  have h0 : (Mine.kdef.heap_1 w.params).lookup 234 = some ⟨_, _, .func (fnOf _ _ _ _ _ _ _ _ _ _ _ _), _⟩ := rfl
  have h1 := ho.symm.trans h0
  clear h0 ho
  simp only [Option.some.injEq, Obj.mk.injEq, Data.func.injEq, FuncData.mk.injEq, FuncBody.stmts.injEq, true_and, and_true] at h1
  obtain ⟨-, -, ⟨rfl, rfl, rfl, rfl, rfl, rfl, rfl, rfl, rfl, rfl, rfl, rfl⟩, -⟩ := h1
  obtain rfl := Option.some.inj hst
  clear hst
  have hzn := R.zn
  have hTl : (total T₀.ps : Int) = V₀.now.length := by rw [R.now.len]
  have hz := R.fits (by omega)
  have hlen : (T₀.len : Int) = V₀.now.length := by rw [R.len]
  have hpz : V₀.past.length < 2 ^ 22 := by
    have h1 := R.past.length
    have h2 := R.zp
    omega
  refine wpAny_Try_except ?_
  subst hdk
  have Xt' := Xt
  revert Xt'; refine TxL.elim ?_; intro d b p pa fu k1 k2 k3 k4 bv' pav fuv nb npa nfu fz Xt'
  have et := Xt'.tl_eq
  clear Xt'
  have Xw' := Xw
  revert Xw'; refine WdL.elim ?_; intro wpa wfu wo wtn wpav wfuv wn1 wn2 Xw'
  have ew := Xw'.wl_eq
  have whd := Xw'.hd
  have wpe := Xw'.hpa
  have wfe := Xw'.hfu
  have hnl : V₀.now.length ≤ sizeLine := by rw [sizeLine_eq]; omega
  have subt : ∀ {h : Heap} {o' : Obj}, News g Ld h ((t, instObj 134 d) :: (d, tdict w k1 k2 k3 k4 b p pa fu) :: (wd, wo) :: (wpa, W.listOf wpav.toArray wn1) :: (wfu, W.listOf wfuv.toArray wn2) :: (L, o') :: (hl ++ (tl ++ wl))) → News g Ld h ((L, o') :: (hl ++ (tl ++ wl))) := fun N => newsTail (newsTail (newsTail (newsTail (newsTail N))))
  replace N := newsSub N (news' := (t, instObj 134 d) :: (d, tdict w k1 k2 k3 k4 b p pa fu) :: (wd, wo) :: (wpa, W.listOf wpav.toArray wn1) :: (wfu, W.listOf wfuv.toArray wn2) :: (L, oL) :: (hl ++ (tl ++ wl))) (by
    rw [et, ew]; intro q hq; simp only [List.mem_cons, List.mem_append] at hq ⊢; grind)
  have hsa : Txt.slice a none (some 2) = ofL (a.cps.toList.take 2) := by
    show Txt.slice a none (some ((2 : Nat) : Int)) = _
    exact slice_any a 2
  k_steps
  refine Hold.into (IfExp_ ?_)
  by_cases h12 : V₀.now.length < 12
  · by_cases hp0 : Txt.slice a none (some 2) = Str.ofString ""
    · rw [hp0] at hsa
      k_steps
      rename Fr _ _ _ _ => F
      rw [hp0] at F
      refine Hold.into (IfExp_ ?_)
      k_steps
      refine Hold.into ?_
      rename Fr _ _ _ _ => F
      rename News _ _ _ _ => N
      replace N := subt N
      refine while_to F N (fun k m news => ∃ u1 u2 u3, m (Str.ofString "told") = some (.ref t) ∧ m (Str.ofString "added") = some (.str a ta) ∧ m (Str.ofString "pattern") = some (.str (Str.ofString "") u3) ∧ m (Str.ofString "count") = some (.int 0 u2) ∧ m (Str.ofString "at") = some (.int (-1) u1) ∧ m (Str.ofString "bad") = some .none ∧ news = (L, oL) :: (hl ++ (tl ++ wl)))
        (fun m news => ∃ u2 u3, m (Str.ofString "told") = some (.ref t) ∧ m (Str.ofString "added") = some (.str a ta) ∧ m (Str.ofString "pattern") = some (.str (Str.ofString "") u3) ∧ m (Str.ofString "count") = some (.int 0 u2) ∧ m (Str.ofString "bad") = some .none ∧ news = (L, oL) :: (hl ++ (tl ++ wl))) 0 ⟨_, _, _, m1, m7, rfl, rfl, rfl, rfl, rfl⟩ ?_ ?_
      · intro k h9 tk9 m' news; refine ex3 ?_; intro u1 u2 u3; refine an7 ?_; intro q1 q2 q3 q4 q5 q6 e91; subst e91; intro F N
        k_steps
        exact ⟨_, _, _, _, rfl, F, N, u2, u3, q1, q2, q3, q4, q6, rfl⟩
      · intro h9 tk9 m' news; refine ex2 ?_; intro u2 u3; refine an6 ?_; intro q1 q2 q3 q4 q6 e91; subst e91; intro F N
        k_steps
        rename Fr _ _ _ _ => F
        rename News _ _ _ _ => N
        refine replall_on (dp := dp + 1) (other := (L, oL) :: (hl ++ wl)) (xl := tl) S Kg F (newsSub N (by intro q hq; simp only [List.mem_cons, List.mem_append] at hq ⊢; grind)) (Disj.cons (fun q hq => neL q (List.mem_append_right _ (List.mem_append_left _ hq))) ((d2.sub (fun _ h => h) fun _ h => List.mem_append_left _ h).append d3.symm)) (by omega) Xt hz R.valid (by decide) (by omega) (fun _ _ _ => False) (fun _ _ _ h => h.elim) 0 (fun h => absurd rfl h) (T₁ := T₀) (c := 0) (if_pos rfl).symm (if_pos rfl).symm ?_
        intro tl1 h5 tk5 u5 F N D5 Xt5
        simp only [List.cons_append] at N
        k_steps
        rename Fr _ _ _ _ => F
        rename News _ _ _ _ => N
        exact ⟨_, _, _, hl, tl1, wl, T₀, V₀, oL.slots, rfl, F, (show News g Ld _ ((L, oL) :: (hl ++ (tl1 ++ wl))) from newsSub N (by intro q hq; simp only [List.mem_cons, List.mem_append] at hq ⊢; grind)), (fun q hq => (List.mem_append.mp hq).elim (fun h => neL q (List.mem_append_left _ h)) fun h => (List.mem_append.mp h).elim (fun h => D5 (L, oL) (.head _) q h) fun h => neL q (List.mem_append_right _ (List.mem_append_right _ h))), ((D5.symm.sub (A' := tl1) (B' := hl) (fun _ h => h) (fun q hq => .tail _ (List.mem_append_left _ hq))).append (d2.symm.sub (A' := wl) (fun q hq => List.mem_append_right _ hq) (fun _ h => h))).symm, (D5.symm.sub (fun _ h => h) (fun q hq => .tail _ (List.mem_append_right _ hq))), Xh, Xt5, Xw, R.more (by omega), .inr ⟨rfl, q6⟩⟩
    · have hxb : (Txt.slice a none (some 2) != Str.ofString "") = true := by simpa using hp0
      obtain ⟨p0, ep0⟩ : ∃ p0, p0 = Txt.slice a none (some 2) := ⟨_, rfl⟩
      rw [← ep0] at hxb hsa hp0
      have hpl : p0.length ≤ 4 := by rw [hsa, ofL_len, List.length_take, ← str_len]; omega
      have hpp : 0 < p0.length := by
        rcases Nat.eq_zero_or_pos p0.length with h | h
        · exact absurd (by rw [← ofL_cps p0, List.eq_nil_of_length_eq_zero (l := p0.cps.toList) (by rw [← str_len]; exact h)]; rfl) hp0
        · exact h
      k_steps
      rename Fr _ _ _ _ => F
      rw [← ep0] at F
      refine Hold.into (IfExp_ ?_)
      k_steps
      rename Fr _ _ _ _ => F
      rename News _ _ _ _ => N
      refine' found_on (dp := dp + 1) (x := V₀.now) (p := p0) (f := 0) S Kg ?f1 ?f2 ?f3 ?f4 ?f5 ?f6 ?_
      case f1 => exact F
      case f2 => exact subt N
      case f3 => omega
      case f4 => omega
      case f5 => omega
      case f6 => omega
      intro h9 tk9 r0 u9 F N hfnd
      have hfd : T₀.find p0 0 = r0 := R.find (b := 0) (Nat.zero_le _) hfnd
      have R0 : RP n p0 a 12 T₀ V₀ 0 r0 := ⟨R.more (by omega), hfnd, by omega, by omega, Nat.zero_le _⟩
      k_steps
      refine Hold.into ?_
      rename Fr _ _ _ _ => F
      rename News _ _ _ _ => N
      refine while_to F N (fun k m news => ∃ V T f cnt pl wl' u1 u2 u3, m (Str.ofString "told") = some (.ref t) ∧ m (Str.ofString "world") = some (.ref wd) ∧ m (Str.ofString "added") = some (.str a ta) ∧ m (Str.ofString "pattern") = some (.str p0 u3) ∧ m (Str.ofString "count") = some (.int ((cnt : Nat) : Int) u2) ∧ m (Str.ofString "at") = some (.int pl u1) ∧ m (Str.ofString "bad") = some .none ∧
          news = (L, oL) :: (hl ++ (tl ++ wl')) ∧ WdL prog w wl' wd V ∧ NeL wl' L ∧ Disj (hl ++ tl) wl' ∧ RP n p0 a k T V f pl ∧ replRun p0 a 12 T₀ (T₀.find p0 0) 0 = replRun p0 a k T pl cnt)
        (fun m news => ∃ V T cnt wl' u2 u3, m (Str.ofString "told") = some (.ref t) ∧ m (Str.ofString "added") = some (.str a ta) ∧ m (Str.ofString "pattern") = some (.str p0 u3) ∧ m (Str.ofString "count") = some (.int ((cnt : Nat) : Int) u2) ∧ m (Str.ofString "bad") = some .none ∧
          news = (L, oL) :: (hl ++ (tl ++ wl')) ∧ WdL prog w wl' wd V ∧ NeL wl' L ∧ Disj (hl ++ tl) wl' ∧ Rel (n + 48) T V ∧ replRun p0 a 12 T₀ (T₀.find p0 0) 0 = (T, cnt)) 12
        ⟨V₀, T₀, 0, 0, r0, wl, _, _, _, m1, m2, m7, rfl, rfl, rfl, rfl, rfl, Xw, (fun q hq => neL q (List.mem_append_right _ (List.mem_append_right _ hq))), ((d2.sub (fun _ h => h) fun q hq => List.mem_append_right _ hq).append d3), R0, by rw [hfd]⟩ ?_ ?_
      · intro k h9 tk9 m' news; refine ex9 ?_; intro V T f cnt pl wl' u1 u2 u3; refine an13 ?_; intro q1 q2 q3 q4 q5 q6 q7 e91 Xv nv dv RPk hrun; subst e91; intro F N
        by_cases hpl0 : 0 ≤ pl
        · obtain ⟨i, rfl⟩ := Int.eq_ofNat_of_zero_le hpl0
          obtain ⟨hle, k', rfl, relk, nxt⟩ := RPk.step hpp ha hoa
          have hk12 := RPk.top
          have hvz := RPk.rel.zn
          have hvp := RPk.rel.past.length
          have hvq := RPk.rel.zp
          have ei : ((i : Int) + (p0.length : Int)) = ((i + p0.length : Nat) : Int) := by omega
          have ej : ((i : Int) + (a.length : Int)) = ((i + a.length : Nat) : Int) := by omega
          k_steps
          rename Fr _ _ _ _ => F
          rename News _ _ _ _ => N
          rw [ei]
          refine replaced_on (dp := dp + 1) (other := (L, oL) :: (hl ++ tl)) (xl := wl') S Kg F (newsSub N (by intro q hq; simp only [List.mem_cons, List.mem_append] at hq ⊢; grind)) (Disj.cons nv dv) (by omega) Xv (by omega) (by omega) hle (by omega) (by omega) ?_
          intro wl1 h6 tk6 F N D6 Xv1
          simp only [List.cons_append] at N
          have Xv1' := Xv1
          revert Xv1'; refine WdL.elim ?_; intro wpa2 wfu2 wo2 wtn2 wpav2 wfuv2 wn12 wn22 Xv2
          have ew2 := Xv2.wl_eq
          have whd2 := Xv2.hd
          have hvz2 := relk.zn
          have hnl2 : (V.replaced i (i + p0.length) a).now.length ≤ sizeLine := by rw [sizeLine_eq]; omega
          replace N := newsSub N (news' := (wd, wo2) :: (L, oL) :: (hl ++ (tl ++ wl1))) (by rw [ew2]; intro q hq; simp only [List.mem_cons, List.mem_append] at hq ⊢; grind)
          k_steps
          rename Fr _ _ _ _ => F
          rename News _ _ _ _ => N
          rw [ej]
          refine' found_on (dp := dp + 1) (x := (V.replaced i (i + p0.length) a).now) (p := p0) (f := i + a.length) S Kg ?f1 ?f2 ?f3 ?f4 ?f5 ?f6 ?_
          case f1 => exact F
          case f2 => exact newsTail N
          case f3 => omega
          case f4 => omega
          case f5 => omega
          case f6 => omega
          intro h10 tk10 r1 u10 F N hf1
          k_steps
          rename Fr _ _ _ _ => F
          rename News _ _ _ _ => N
          exact ⟨k', _, _, _, _, rfl, Nat.lt_succ_self _, F, N, V.replaced i (i + p0.length) a, T.replace i ((i + p0.length : Nat) : Int) a, i + a.length, cnt + 1, r1, wl1, _, _, u3, q1, q2, q3, q4, rfl, rfl, q7, rfl, Xv1, D6 (L, oL) (.head _), D6.sub (fun q hq => .tail _ hq) (fun _ h => h), (nxt r1 hf1).1,
            by rw [hrun, replRun, if_pos hpl0, ei, ej, (nxt r1 hf1).2]⟩
        · have hk12 := RPk.top
          k_steps
          rename Fr _ _ _ _ => F
          rename News _ _ _ _ => N
          exact ⟨_, _, _, _, rfl, F, N, V, T, cnt, wl', u2, u3, q1, q3, q4, q5, q7, rfl, Xv, nv, dv, RPk.rel.more (by omega), by rw [hrun, replRun_end _ _ _ _ _ (by omega)]⟩
      · intro h9 tk9 m' news; refine ex6 ?_; intro V T cnt wl' u2 u3; refine an11 ?_; intro q1 q3 q4 q5 q7 e91 Xv nv dv relT hrun; subst e91; intro F N
        k_steps
        rename Fr _ _ _ _ => F
        rename News _ _ _ _ => N
        refine replall_on (dp := dp + 1) (other := (L, oL) :: (hl ++ wl')) (xl := tl) S Kg F (newsSub N (by intro q hq; simp only [List.mem_cons, List.mem_append] at hq ⊢; grind)) (Disj.cons (fun q hq => neL q (List.mem_append_right _ (List.mem_append_left _ hq))) ((d2.sub (fun _ h => h) fun _ h => List.mem_append_left _ h).append (Disj.symm (dv.sub (fun q hq => List.mem_append_right _ hq) fun _ h => h)))) (by omega) Xt hz R.valid (by omega) (by omega)
          (fun k T pl => ∃ V f, RP n p0 a k T V f pl) (RP.stepP hpp ha hoa (by omega)) 12 (fun _ => ⟨V₀, 0, by rw [hfd]; exact R0⟩) (T₁ := T) (c := cnt) (by rw [if_neg hp0, hrun]) (by rw [if_neg hp0, hrun]) ?_
        intro tl1 h5 tk5 u5 F N D5 Xt5
        simp only [List.cons_append] at N
        k_steps
        all_goals (rename Fr _ _ _ _ => F; rename News _ _ _ _ => N)
        all_goals first
          | exact ⟨_, _, _, hl, tl1, wl', T, V, oL.slots, rfl, F, (show News g Ld _ ((L, oL) :: (hl ++ (tl1 ++ wl'))) from newsSub N (by intro q hq; simp only [List.mem_cons, List.mem_append] at hq ⊢; grind)), (fun q hq => (List.mem_append.mp hq).elim (fun h => neL q (List.mem_append_left _ h)) fun h => (List.mem_append.mp h).elim (fun h => D5 (L, oL) (.head _) q h) fun h => nv q h),
              ((D5.symm.sub (A' := tl1) (B' := hl) (fun _ h => h) (fun q hq => .tail _ (List.mem_append_left _ hq))).append (Disj.symm (dv.sub (B' := wl') (fun q hq => List.mem_append_left _ hq) fun _ h => h))).symm,
              (D5.symm.sub (fun _ h => h) (fun q hq => .tail _ (List.mem_append_right _ hq))), Xh, Xt5, Xv, relT.more (by omega), .inr ⟨rfl, q7⟩⟩
          | (exfalso; exact absurd rfl (by assumption : ¬ ((cnt : Nat) : Int) = cnt))
          | (exfalso; have hne : (((cnt : Nat) : Int) != cnt) = true := by assumption; simp at hne)

  · k_steps
    refine Hold.into (IfExp_ ?_)
    k_steps
    refine Hold.into ?_
    rename Fr _ _ _ _ => F
    rename News _ _ _ _ => N
    replace N := subt N
    refine while_to F N (fun k m news => ∃ u1 u2 u3, m (Str.ofString "told") = some (.ref t) ∧ m (Str.ofString "added") = some (.str a ta) ∧ m (Str.ofString "pattern") = some (.str (Str.ofString "") u3) ∧ m (Str.ofString "count") = some (.int 0 u2) ∧ m (Str.ofString "at") = some (.int (-1) u1) ∧ m (Str.ofString "bad") = some .none ∧ news = (L, oL) :: (hl ++ (tl ++ wl)))
      (fun m news => ∃ u2 u3, m (Str.ofString "told") = some (.ref t) ∧ m (Str.ofString "added") = some (.str a ta) ∧ m (Str.ofString "pattern") = some (.str (Str.ofString "") u3) ∧ m (Str.ofString "count") = some (.int 0 u2) ∧ m (Str.ofString "bad") = some .none ∧ news = (L, oL) :: (hl ++ (tl ++ wl))) 0 ⟨_, _, _, m1, m7, rfl, rfl, rfl, rfl, rfl⟩ ?_ ?_
    · intro k h9 tk9 m' news; refine ex3 ?_; intro u1 u2 u3; refine an7 ?_; intro q1 q2 q3 q4 q5 q6 e91; subst e91; intro F N
      k_steps
      exact ⟨_, _, _, _, rfl, F, N, u2, u3, q1, q2, q3, q4, q6, rfl⟩
    · intro h9 tk9 m' news; refine ex2 ?_; intro u2 u3; refine an6 ?_; intro q1 q2 q3 q4 q6 e91; subst e91; intro F N
      k_steps
      rename Fr _ _ _ _ => F
      rename News _ _ _ _ => N
      refine replall_on (dp := dp + 1) (other := (L, oL) :: (hl ++ wl)) (xl := tl) S Kg F (newsSub N (by intro q hq; simp only [List.mem_cons, List.mem_append] at hq ⊢; grind)) (Disj.cons (fun q hq => neL q (List.mem_append_right _ (List.mem_append_left _ hq))) ((d2.sub (fun _ h => h) fun _ h => List.mem_append_left _ h).append d3.symm)) (by omega) Xt hz R.valid (by decide) (by omega) (fun _ _ _ => False) (fun _ _ _ h => h.elim) 0 (fun h => absurd rfl h) (T₁ := T₀) (c := 0) (if_pos rfl).symm (if_pos rfl).symm ?_
      intro tl1 h5 tk5 u5 F N D5 Xt5
      simp only [List.cons_append] at N
      k_steps
      rename Fr _ _ _ _ => F
      rename News _ _ _ _ => N
      exact ⟨_, _, _, hl, tl1, wl, T₀, V₀, oL.slots, rfl, F, (show News g Ld _ ((L, oL) :: (hl ++ (tl1 ++ wl))) from newsSub N (by intro q hq; simp only [List.mem_cons, List.mem_append] at hq ⊢; grind)), (fun q hq => (List.mem_append.mp hq).elim (fun h => neL q (List.mem_append_left _ h)) fun h => (List.mem_append.mp h).elim (fun h => D5 (L, oL) (.head _) q h) fun h => neL q (List.mem_append_right _ (List.mem_append_right _ h))), ((D5.symm.sub (A' := tl1) (B' := hl) (fun _ h => h) (fun q hq => .tail _ (List.mem_append_left _ hq))).append (d2.symm.sub (A' := wl) (fun q hq => List.mem_append_right _ hq) (fun _ h => h))).symm, (D5.symm.sub (fun _ h => h) (fun q hq => .tail _ (List.mem_append_right _ hq))), Xh, Xt5, Xw, R.more (by omega), .inr ⟨rfl, q6⟩⟩
end

local macro_rules | `(tactic| walk_at "eval IfExp") => `(tactic| (k_here; refine Hold.out ?_))
local macro_rules | `(tactic| walk_at "exec Try cons cons nil nil") => `(tactic| (k_here; refine Hold.out ?_))
theorem bad_cut {M : Model} {A : Around} {t : Sem Value} {Q : Value → Shared → Prop} {E : Value → Shared → Prop} {s : Shared} {n x y : Int} (h : wpAny M A t (fun v s' => BadV n x y v ∧ ∃ tk, s' = { s with toks := tk }) E s)
    (k : ∀ v tk, BadV n x y v → Q v { s with toks := tk }) : wpAny M A t Q E s :=
  wpAny_mono h (fun v s' h' => by obtain ⟨hb, tk, rfl⟩ := h'; exact k v tk hb) fun _ _ x => x
theorem try_cut {prog : Program} {w : World} {A : Around} {t : Sem Flow} {Q : Flow → Shared → Prop} {E : Value → Shared → Prop} {s : Shared} {n : Nat} {hand t' wd L Ld : Addr} {g : Heap} {oL : Obj} (h : wpAny (model prog w) A t (TPost prog w n hand t' wd g Ld L oL s) E s)
    (k : ∀ fl s', TPost prog w n hand t' wd g Ld L oL s fl s' → Q fl s') : wpAny (model prog w) A t Q E s := wpAny_mono h k fun _ _ x => x
section
variable {prog : Program} {w : World} {dp un : Nat} {gd : Option (List Code)} {s : Shared} {Q E : Value → Shared → Prop} {g : Heap} {L : Addr} {envL : Env} {m : Str → Option Value} {oth hl tl wl : Led} {hand t wd : Addr} {T₀ : TS} {V₀ : WS} {n : Nat}
theorem nine : ∀ k : Fin 9, k.val = 0 ∨ k.val = 1 ∨ k.val = 2 ∨ k.val = 3 ∨ k.val = 4 ∨ k.val = 5 ∨ k.val = 6 ∨ k.val = 7 ∨ k.val = 8 := by decide
theorem deed_spec (S : St w g) (F₀ : Fr g L s.heap m) (N₀ : News g L s.heap (oth ++ (hl ++ (tl ++ wl)))) (X : Trio prog w n oth hl tl wl hand t wd T₀ V₀) (hn : n < 2 ^ 20) (hdp : dp + 11 < recursionLimit) (hun : un + 210 < cLine) (hfL : envL.frame = some L) (hk : envL.scope.kind ≠ .module)
    (ret : ∀ hl' tl' wl' h' tk' T' V', Fr g L h' m → News g L h' (oth ++ (hl' ++ (tl' ++ wl'))) → Trio prog w (n + 100) oth hl' tl' wl' hand t wd T' V' → Q (.bool true) { s with heap := h', toks := tk' }) :
    wpAny (model prog w) (Ar dp un (some [envL]) gd) (call (.ref 234) [.ref hand, .ref t, .ref wd]) Q E s := by
  obtain ⟨d1, d2, d3, Xh, Xt, Xw, R⟩ := X
  obtain ⟨oL, hoL⟩ : ∃ oL, s.heap.get? L = some oL := let ⟨o, _, _, e, _⟩ := F₀.ns; ⟨o, e⟩
  have hgL := kts_self F₀
  revert Xw; refine WdL.elim ?_; intro pa fu o tn pav fuv n1 n2 Xw
  obtain ⟨rfl, wl1, wl2, hwd, hwpa, hwfu⟩ := Xw
  have hg : Keeps g s.heap := F₀.keep
  ktr_unf
  case led => exact (L, oL) :: (hl ++ (tl ++ [(wd, o), (pa, W.listOf pav.toArray n1), (fu, W.listOf fuv.toArray n2)]))
  case hled => 
    intro q hq
    rcases List.mem_cons.mp hq with rfl | hq
    · exact ⟨hoL, hgL⟩
    · have := N₀ q (List.mem_append_right _ hq)
      exact ⟨this.1, this.2.2⟩
  intro g' h₁ mean mg mb F N KX T Kg Ks Kh Kl
  clear Kl
  have hzn := R.zn
  have hnl : V₀.now.length ≤ sizeLine := by rw [sizeLine_eq]; omega
  have neL : NeL (hl ++ (tl ++ [(wd, o), (pa, W.listOf pav.toArray n1), (fu, W.listOf fuv.toArray n2)])) L := fun q hq => (N₀ q (List.mem_append_right _ hq)).2.1
  have D : Disj ((wd, o) :: (pa, W.listOf pav.toArray n1) :: (fu, W.listOf fuv.toArray n2) :: (L, oL) :: tl) hl :=
    (Disj.append (A := [_, _, _]) (d2.symm.sub (fun q hq => List.mem_append_right _ hq) fun q hq => hq) (Disj.append (A := [_]) (fun q hq r hr => by
      rw [List.mem_singleton.mp hq]; exact neL r (List.mem_append_left _ hr)) (d2.symm.sub (fun q hq => List.mem_append_left _ hq) fun q hq => hq)))
  replace N := newsSub N (news' := (wd, o) :: (pa, W.listOf pav.toArray n1) :: (fu, W.listOf fuv.toArray n2) :: (L, oL) :: (tl ++ hl)) (by intro q hq; simp only [List.mem_cons, List.mem_append, List.not_mem_nil, or_false] at hq ⊢; rcases hq with h | h | h | h | h | h <;> simp [h])
  (try dsimp only at *)
  (try k_fold)
  k_steps
  rename Fr _ _ _ _ => F
  rename News _ _ _ _ => N
  refine pick_on (dp := dp + 1) (other := (wd, o) :: (pa, W.listOf pav.toArray n1) :: (fu, W.listOf fuv.toArray n2) :: (L, oL) :: tl) S Kg F N D (by omega) Xh (by decide) (by decide) ?_
  intro hl1 h2 tk2 kd u2 F N D Xh hkd
  simp only [List.cons_append] at N
  k_steps
  rename Fr _ _ _ _ => F
  rename News _ _ _ _ => N
  refine pick_on (dp := dp + 1) (other := (wd, o) :: (pa, W.listOf pav.toArray n1) :: (fu, W.listOf fuv.toArray n2) :: (L, oL) :: tl) S Kg F N D (by omega) Xh (by omega) (by omega) ?_
  intro hl3 h3 tk3 kf u3 F N D Xh hkf
  simp only [List.cons_append] at N
  k_steps
  rename Fr _ _ _ _ => F
  rename News _ _ _ _ => N
  refine pick_on (dp := dp + 1) (other := (wd, o) :: (pa, W.listOf pav.toArray n1) :: (fu, W.listOf fuv.toArray n2) :: (L, oL) :: tl) S Kg F N D (by omega) Xh (by decide) (by decide) ?_
  intro hl4 h4 tk4 kl u4 F N D Xh hkl
  simp only [List.cons_append] at N
  k_steps
  rename Fr _ _ _ _ => F
  rename News _ _ _ _ => N
  refine letters_on (dp := dp + 1) (other := (wd, o) :: (pa, W.listOf pav.toArray n1) :: (fu, W.listOf fuv.toArray n2) :: (L, oL) :: tl) S Kg F N D (by omega) Xh ?_
  intro hl5 h5 tk5 a u5 F N D Xh ha hoa
  simp only [List.cons_append] at N
  k_steps
  refine Hold.into (bad_cut (n := V₀.now.length) (x := (kf : Int) - 1) (y := (kf : Int) - 1 + kl) ?_ ?_)
  · refine IfExp_ ?_
    k_steps
    · unfold BadV badOf
      rw [if_pos (by omega)]
      exact ⟨_, rfl⟩
    · unfold BadV badOf
      rw [if_pos (by omega)]
      exact ⟨_, rfl⟩
    · refine Hold.into (IfExp_ ?_)
      k_steps
      · unfold BadV badOf
        rw [if_neg (by omega), if_pos (by omega)]
        exact ⟨_, rfl⟩
      · unfold BadV badOf
        rw [if_neg (by omega), if_neg (by omega)]
  intro bv tkb hbv
  k_steps
  rename Fr _ _ _ _ => F
  rename News _ _ _ _ => N
  have hoLd : ∀ vs, oL.data ≠ .fields vs := fun vs q => by
    obtain ⟨o', es, ep, ho', hd', _⟩ := F₀.ns
    rw [hoL] at ho'
    cases ho'
    rw [hd'] at q
    cases q
  have neL5 : NeL (hl5 ++ (tl ++ [(wd, o), (pa, W.listOf pav.toArray n1), (fu, W.listOf fuv.toArray n2)])) L := NeL.append (D (L, oL) (.tail _ (.tail _ (.tail _ (.head _))))) fun q hq => neL q (List.mem_append_right _ hq)
  have d25 : Disj hl5 (tl ++ [(wd, o), (pa, W.listOf pav.toArray n1), (fu, W.listOf fuv.toArray n2)]) := D.symm.sub (fun _ h => h) (by intro q hq; simp only [List.mem_cons, List.mem_append] at hq ⊢; grind)
  have N5 := newsSub N (news' := (L, oL) :: (hl5 ++ (tl ++ [(wd, o), (pa, W.listOf pav.toArray n1), (fu, W.listOf fuv.toArray n2)]))) (by intro q hq; simp only [List.mem_cons, List.mem_append] at hq ⊢; grind)
  have Xw5 : WdL prog w [(wd, o), (pa, W.listOf pav.toArray n1), (fu, W.listOf fuv.toArray n2)] wd V₀ := ⟨pa, fu, o, tn, pav, fuv, n1, n2, ⟨rfl, wl1, wl2, hwd, hwpa, hwfu⟩⟩
  have hkd' : kd = 0 ∨ kd = 1 ∨ kd = 2 ∨ kd = 3 ∨ kd = 4 ∨ kd = 5 ∨ kd = 6 ∨ kd = 7 ∨ kd = 8 := nine ⟨kd, by omega⟩
  refine Hold.into (try_cut (n := n) (hand := hand) (t' := t) (wd := wd) (L := L) (Ld := s.heap.objs.size) (g := g') (oL := oL) ?tryy ?post)
  case tryy =>
    rcases hkd' with rfl | rfl | rfl | rfl | rfl | rfl | rfl | rfl | rfl
    · exact try_0 rfl rfl rfl S Kg KX T (by omega) F N5 hoLd neL5 d25 d3 Xh Xt Xw5 R hn rfl rfl rfl rfl rfl rfl rfl rfl hbv (by omega) (by omega) (by omega) (by omega) ha hoa (by omega) hfL hk
    · exact try_1 rfl rfl rfl S Kg KX T (by omega) F N5 hoLd neL5 d25 d3 Xh Xt Xw5 R hn rfl rfl rfl rfl rfl rfl rfl rfl hbv (by omega) (by omega) (by omega) (by omega) ha hoa (by omega) hfL hk
    · exact try_2 rfl rfl rfl S Kg KX T (by omega) F N5 hoLd neL5 d25 d3 Xh Xt Xw5 R hn rfl rfl rfl rfl rfl rfl rfl rfl hbv (by omega) (by omega) (by omega) (by omega) ha hoa (by omega) hfL hk
    · exact try_3 rfl rfl rfl S Kg KX T (by omega) F N5 hoLd neL5 d25 d3 Xh Xt Xw5 R hn rfl rfl rfl rfl rfl rfl rfl rfl hbv (by omega) (by omega) (by omega) (by omega) ha hoa (by omega) hfL hk
    · exact try_4 rfl rfl rfl S Kg KX T (by omega) F N5 hoLd neL5 d25 d3 Xh Xt Xw5 R hn rfl rfl rfl rfl rfl rfl rfl rfl hbv (by omega) (by omega) (by omega) (by omega) ha hoa (by omega) hfL hk
    · exact try_5 rfl rfl rfl S Kg KX T (by omega) F N5 hoLd neL5 d25 d3 Xh Xt Xw5 R hn rfl rfl rfl rfl rfl rfl rfl rfl hbv (by omega) (by omega) (by omega) (by omega) ha hoa (by omega) hfL hk
    · exact try_6 rfl rfl rfl S Kg KX T (by omega) F N5 hoLd neL5 d25 d3 Xh Xt Xw5 R hn rfl rfl rfl rfl rfl rfl rfl rfl hbv (by omega) (by omega) (by omega) (by omega) ha hoa (by omega) hfL hk
    · exact try_7 rfl rfl rfl S Kg KX T (by omega) F N5 hoLd neL5 d25 d3 Xh Xt Xw5 R hn rfl rfl rfl rfl rfl rfl rfl rfl hbv (by omega) (by omega) (by omega) (by omega) ha hoa (by omega) hfL hk
    · exact try_8 rfl rfl rfl S Kg KX T (by omega) F N5 hoLd neL5 d25 d3 Xh Xt Xw5 R hn rfl rfl rfl rfl rfl rfl rfl rfl hbv (by omega) (by omega) (by omega) (by omega) ha hoa (by omega) hfL hk
  case post =>
    intro fl s' hP
    obtain ⟨h9, tk9, m9, hl9, tl9, wl9, T9, V9, sl9, rfl, F9, N9, neL9, d29, d39, Xh9, Xt9, Xw9, R9, hfl⟩ := hP
    obtain ⟨FL, NL, DL⟩ := deed_end F₀ hoL N₀ d1 Kg Kh F9 N9 neL9
    rcases hfl with rfl | ⟨rfl, hb9⟩
    · exact ret _ _ _ _ _ _ _ FL NL ⟨DL, d29, d39, Xh9, Xt9, Xw9, R9⟩
    · k_steps
      exact ret _ _ _ _ _ _ _ FL NL ⟨DL, d29, d39, Xh9, Xt9, Xw9, R9⟩
end

local macro_rules | `(tactic| k_qdec) => `(tactic| decide +kernel)
local macro_rules | `(tactic| walk_at "compareOp Eq ref ref") => `(tactic| (k_here; refine Hold.out ?_))
theorem ob4 {g h : Heap} {L a : Addr} {o : Obj} {q q' q'' : Addr × Obj} {r : Led} (_ : News g L h (q :: q' :: q'' :: (a, o) :: r)) : ∃ x, x = o := ⟨_, rfl⟩
theorem nmAll {g h : Heap} {L : Addr} {news : Led} (_ : News g L h news) : ∃ x, x = news := ⟨_, rfl⟩
theorem dat_ints {tl : Led} {vs : List Value} {xs : List Nat} (h : All2 IntV vs xs) : DatAll tl vs (xs.map fun (n : Nat) => Dat.int (n : Int)) := by
  induction h with
  | nil => exact .nil
  | cons h _ ih => obtain ⟨t, rfl⟩ := h; exact .cons (.int _ _) ih
theorem ints_eq {prog : Program} {w : World} {A : Around} {E : Value → Shared → Prop} {s : Shared} {g : Heap} {L a b : Addr} {news : Led} {vs ws : List Value} {xs : List Nat} {ka kb : Nat} {Q : Value → Shared → Prop}
    (N : News g L s.heap news) (ma : (a, W.listOf vs.toArray ka) ∈ news) (hx : All2 IntV vs xs) (mb : (b, W.listOf ws.toArray kb) ∈ news) (hy : All2 IntV ws xs) (hu : A.units + 64 < cLine) (h : Q (.bool true) s) :
    wpAny (model prog w) A (compareOp .Eq (.ref a) (.ref b)) Q E s := by
  refine kqd_eq N ma rfl rfl (dat_ints (tl := []) hx) (fun _ h => nomatch h) mb rfl rfl (dat_ints (tl := []) hy) (fun _ h => nomatch h) (fun d hd => ?_) (fun d hd => ?_) hu ?_
  · obtain ⟨x, _, rfl⟩ := List.mem_map.mp hd; rfl
  · obtain ⟨x, _, rfl⟩ := List.mem_map.mp hd; rfl
  · simpa using h
theorem compRestT_of {prog : Program} {w : World} {A : Around} {h₀ : Heap} {L : Addr} {m : Str → Option Value} {env : Env} {ct elt : Expr} {x : Str} {scope : Scope} {cl : List (Str × Addr)} {s : Shared} {S : Led → Prop} {P : Nat → Value → Prop} {Fin : List Value → Led → Prop} {n : Nat}
    (J : Nat → List Value → Led → Prop)
    (step : ∀ i ys news v I oI C oC D m₂ h tk (E' : Value → Shared → Prop), i < n → J i ys news → P i v → LCg.NsObj oC m₂ → m₂ x = some v → Fr h₀ L h m → News h₀ L h ((I, oI) :: (C, oC) :: (D, LCg.lst ys) :: news) → LCg.Off3 I C D news → ((@Ne Nat I C) ∧ (@Ne Nat I D) ∧ (@Ne Nat C D)) →
      wpAny (model prog w) A (isTrue ct (compEnvC scope cl C env) (eval ct (compEnvC scope cl C env))) (fun ok s' => if ok = true then
        wpAny (model prog w) A (eval elt (compEnvC scope cl C env)) (LCg.CompEnd h₀ L m { s with heap := h, toks := tk } I oI C oC D (LCg.lst ys) S (fun y news' => J (i + 1) (ys ++ [y]) news')) E' s'
        else LCg.CompEnd h₀ L m { s with heap := h, toks := tk } I oI C oC D (LCg.lst ys) S (fun _ news' => J (i + 1) ys news') Value.none s') E' { s with heap := h, toks := tk })
    (fin : ∀ ys news, J n ys news → Fin ys news) : ∀ {k i : Nat} {ys : List Value} {news : Led}, i + k = n → J i ys news → LCt.CompRestT prog w A h₀ L m env ct elt x scope cl s S P Fin k i ys news
  | 0, i, ys, news, e, h => LCt.CompRestT.zero (fin _ _ ((show i = n by omega) ▸ h))
  | k + 1, i, ys, news, e, h => LCt.CompRestT.succ fun v I oI C oC D m₂ hh tk E' hP hC hx F N off ne =>
    wpAny_mono (step i ys news v I oI C oC D m₂ hh tk E' (by omega) h hP hC hx F N off ne) (fun ok s₁ h₁ => by
      cases ok with
      | true =>
        simp only [if_true] at h₁ ⊢
        exact wpAny_mono h₁ (fun y s₂ ⟨h', tk', news', e', F', N', o', S', r⟩ => ⟨h', tk', news', e', F', N', o', S', compRestT_of J step fin (by omega) r⟩) fun _ _ x => x
      | false =>
        simp only [Bool.false_eq_true, if_false] at h₁ ⊢
        obtain ⟨h', tk', news', e', F', N', o', S', r⟩ := h₁
        exact ⟨h', tk', news', e', F', N', o', S', compRestT_of J step fin (by omega) r⟩) fun _ _ x => x
theorem law_holds : PySem.Challenge.rw_pb0329_01.Holds := by
  refine hd ?_
  w_strict k_go0
  rename Below _ _ _ _ => K0
  clear K0
  k_steps
  rename Fr _ _ _ _ => F
  rename News _ _ _ _ => N
  rename World => w
  rename Shared => s₁
  have S : St w _ := ⟨by assumption, _, _, _, by assumption⟩
  have N1 := newsSub N (news' := [_, _]) (fun q hq => by
    rcases List.mem_cons.mp hq with rfl | hq
    · exact .head _
    · rw [List.mem_singleton.mp hq]; exact .tail _ (.head _))
  rename IntsAre _ (List.take _ _) => hI63
  rename (List.take _ _).length = min _ _ => hC63
  have hcl := hI63.length
  have hm0 := fun a : Int => Int.fmod_nonneg_of_pos a (show (0:Int) < 100003 by decide)
  have hm1 := fun a : Int => Int.fmod_lt_of_pos a (show (0:Int) < 100003 by decide)
  refine letters_spec (dp := callerA.depth + 1) S F.keep (by decide +kernel) (newsHas N1) (freshOf N1 (fun b o e => e)) ⟨_, _, _, _, _, _, _, _, _, _, _, ⟨rfl, by omega, Int.le_refl _, by omega, Int.le_refl _, Int.mul_nonneg (hm0 _) (by decide), by have := hm1 (List.sum (List.take 63 (by assumption : List Int))); omega, by omega, hI63⟩⟩ ?_
  intro hl1 h1 tk1 start u L1 X1 hs4 hso
  obtain ⟨oc, eo⟩ := ob3 N
  subst eo
  obtain ⟨c0, hc0⟩ := nm3 N
  have hc0' : @Eq Nat c0 _ := hc0
  have CO := callOff (other := [(c0, oc)]) F N L1 (by tb_rel) (by subst hc0; tb_rel) (.cons (NeL.cons (neN (by dsimp only; omega)) (NeL.cons (neN (by dsimp only; omega)) fun q hq => nomatch hq)) .nil)
  clear hc0'
  subst hc0
  obtain ⟨F, N, D1⟩ := CO
  simp only [List.cons_append, List.nil_append] at N
  k_steps
  rename Fr _ _ _ _ => F
  rename News _ _ _ _ => N
  refine text_new (dp := callerA.depth + 1) S F N (by decide +kernel) (by omega) ?_
  intro tl h2 tk2 t F N D2 X2
  simp only [List.cons_append, List.nil_append] at N
  have nc : NeL (hl1 ++ tl) _ := NeL.append (D1 _ (.head _)) (D2 _ (.head _))
  k_steps
  refine Hold.into (wpAny_For ?_)
  k_steps
  rename Fr _ _ _ _ => F
  rename News _ _ _ _ => N
  obtain ⟨lf, e⟩ := nm1 N
  subst e
  obtain ⟨lp, e⟩ := nm2 N
  subst e
  obtain ⟨dw, e⟩ := nm3 N
  subst e
  obtain ⟨ow, e⟩ := ob3 N
  subst e
  obtain ⟨oc, e⟩ := ob4 N
  subst e
  rename Obj.IsDictOf _ _ (strPairs _) => hdw
  rename _ = Data.cell (some _) => hcell
  rename _ ∧ AllLt _ _ => hA
  rename _ ∧ _ ∧ AllLt _ _ => hB
  rename _ ∧ _ ∧ _ ∧ AllLt _ _ => hC
  have Dh : Disj [(lf, W.listOf ([] : List Value).toArray 0), (lp, W.listOf ([] : List Value).toArray 0), (dw, ow), (s₁.heap.objs.size + 1, oc)] (hl1 ++ tl) := .cons (allLt_ne hC.2.2.2) (.cons (allLt_ne hB.2.2) (.cons (allLt_ne hA.2) (.cons nc .nil)))
  have Dt : Disj hl1 tl := D2.sub (fun _ h => .tail _ h) fun _ h => h
  have lwp : @LT.lt Nat _ dw lp := hB.1
  have lpf : @LT.lt Nat _ lp lf := hC.1
  have cw1 : @LT.lt Nat _ (s₁.heap.objs.size + 1) dw := hA.1
  have cw2 : @LT.lt Nat _ (s₁.heap.objs.size + 1) lp := hB.2.1
  have cw3 : @LT.lt Nat _ (s₁.heap.objs.size + 1) lf := hC.2.2.1
  refine pick_on (dp := callerA.depth + 1) (other := (lf, W.listOf ([] : List Value).toArray 0) :: (lp, W.listOf ([] : List Value).toArray 0) :: (dw, ow) :: (s₁.heap.objs.size + 1, oc) :: tl) (xl := hl1) S (fun b o e => e) F (newsSub N (by intro q hq; simp only [List.mem_cons, List.mem_append] at hq ⊢; grind))
    (Disj.append (A := [_, _, _, _]) (Dh.sub (fun _ h => h) fun _ h => List.mem_append_left _ h) Dt.symm) (by decide +kernel) X1 (by decide) (by decide) ?_
  intro hl2 h3 tk3 k u3 F N D3 X3 hk14
  simp only [List.cons_append] at N
  k_steps
  refine Hold.into ?_
  rename IsRange _ _ _ _ _ _ _ _ => Rg
  rename Fr _ _ _ _ => F
  rename News _ _ _ _ => N
  obtain ⟨hand, e⟩ := handName X3
  subst e
  have hwl : ∀ q ∈ [(dw, ow), (lp, W.listOf ([] : List Value).toArray 0), (lf, W.listOf ([] : List Value).toArray 0)], q ∈ [(lf, W.listOf ([] : List Value).toArray 0), (lp, W.listOf ([] : List Value).toArray 0), (dw, ow), (s₁.heap.objs.size + 1, oc)] := by
    intro q hq; simp only [List.mem_cons, List.not_mem_nil, or_false] at hq ⊢; grind
  have X0 : Trio PySem.Challenge.rw_pb0329_01.row.prog w 20 [((s₁.heap.objs.size + 1 : Nat), oc)] hl2 tl [(dw, ow), (lp, W.listOf ([] : List Value).toArray 0), (lf, W.listOf ([] : List Value).toArray 0)] hand t dw
      ⟨[start], if start = Str.ofString "" then [] else [(0, 0, start.length)], [], []⟩ ⟨start, [], []⟩ :=
    ⟨.cons (NeL.append (D3 _ (.tail _ (.tail _ (.tail _ (.head _))))) (NeL.append (fun q hq => D2 (s₁.heap.objs.size + 1, _) (.head _) q hq) (NeL.cons (Nat.ne_of_gt cw1) (NeL.cons (Nat.ne_of_gt cw2) (NeL.cons (Nat.ne_of_gt cw3) fun _ h => nomatch h))))) .nil,
     Disj.symm (Disj.append (D3.sub (fun q hq => .tail _ (.tail _ (.tail _ (.tail _ hq)))) fun _ h => h) (D3.sub (fun q hq => by have := hwl q hq; simp only [List.mem_cons, List.not_mem_nil, or_false] at this ⊢; grind) fun _ h => h)),
     Disj.symm (Dh.sub hwl fun _ h => List.mem_append_right _ h), X3, X2, ⟨lp, lf, ow, _, [], [], 0, 0, ⟨rfl, lwp, lpf, hdw, .nil, .nil⟩⟩, Rel.start hs4 hso⟩
  replace N := newsSub N (news' := (s₁.heap.objs.size + 1, oc) :: (hl2 ++ (tl ++ [(dw, ow), (lp, W.listOf ([] : List Value).toArray 0), (lf, W.listOf ([] : List Value).toArray 0)]))) (by intro q hq; simp only [List.mem_cons, List.mem_append, List.not_mem_nil, or_false] at hq ⊢; grind)
  refine iter_upI (a := 0) rfl F N Rg (by omega) (by omega) (by omega)
    (fun i m news => ∃ hl' tl' wl' T V, m (Str.ofString "hand") = some (.ref hand) ∧ m (Str.ofString "told") = some (.ref t) ∧ news = (s₁.heap.objs.size + 1, oc) :: (hl' ++ (tl' ++ wl')) ∧
      Trio PySem.Challenge.rw_pb0329_01.row.prog w (20 + 100 * i) [((s₁.heap.objs.size + 1 : Nat), oc)] hl' tl' wl' hand t dw T V) ⟨_, _, _, _, _, rfl, rfl, rfl, X0⟩ ?_ ?_
  · intro i u I oI h tk m news hi; refine ex5 ?_; intro hl' tl' wl' T V; refine an4 ?_; intro q1 q2 e91 X; subst e91; intro F N ne
    have hi14 : i < 15 := by omega
    k_steps
    rename Fr _ _ _ _ => F
    rename News _ _ _ _ => N
    refine deed_spec (dp := callerA.depth + 1) (oth := [(I, oI), ((s₁.heap.objs.size + 1 : Nat), oc)]) (L := s₁.heap.objs.size) (hl := hl') (tl := tl') (wl := wl') (n := 20 + 100 * i) (T₀ := T) (V₀ := V) S F N
      ⟨.cons (fun q hq => ne q (.tail _ hq)) X.d1, X.d2, X.d3, X.xh, X.xt, X.xw, X.rel⟩ (by omega) (by decide +kernel) (by decide +kernel) rfl (by intro h; cases h) ?_
    intro hl3 tl3 wl3 h4 tk4 T2 V2 F N X5
    simp only [List.cons_append, List.nil_append] at N
    k_steps
    rename Fr _ _ _ _ => F
    rename News _ _ _ _ => N
    have Nt := newsSub N (news' := tl3) (fun q hq => .tail _ (.tail _ (List.mem_append_right _ (List.mem_append_left _ hq))))
    have Nw := newsSub N (news' := wl3) (fun q hq => .tail _ (.tail _ (List.mem_append_right _ (List.mem_append_right _ hq))))
    have R5 := X5.rel
    refine sound_spec (dp := callerA.depth + 1) S ?g1 ?g2 (tl := tl3) ?g3 ?g4 (T₀ := T2) X5.xt (R5.fits (by omega)) R5.valid (wl := wl3) ?g5 ?g6 (W₀ := V2) X5.xw R5.whole R5.len R5.now.2.1.1 R5.now.2.1.2 ?_
    case g1 => exact F.keep
    case g2 => decide +kernel
    case g3 => exact newsHas Nt
    case g4 => exact freshOf Nt (fun b o e => e)
    case g5 => exact newsHas Nw
    case g6 => exact freshOf Nw (fun b o e => e)
    intro h5 tk5 K5
    replace F := frKeeps F K5
    replace N := N.grown K5
    k_steps
    rename Fr _ _ _ _ => F
    rename News _ _ _ _ => N
    exact ⟨_, _, _, _, rfl, F, N, (fun q hq => by
      rcases List.mem_cons.mp hq with rfl | hq
      · exact ne _ (.head _)
      · exact X5.d1 (I, oI) (.head _) q hq), hl3, tl3, wl3, T2, V2, q1, q2, rfl, ⟨X5.d1.sub (fun q hq => .tail _ hq) (fun _ h => h), X5.d2, X5.d3, X5.xh, X5.xt, X5.xw, X5.rel.more (by omega)⟩⟩
  · intro h tk m news; refine ex5 ?_; intro hl' tl' wl' T V; refine an4 ?_; intro q1 q2 e91 X; subst e91; intro F N
    k_steps
    rename Fr _ _ _ _ => F
    rename News _ _ _ _ => N
    have Nt := newsSub N (news' := tl') (fun q hq => .tail _ (List.mem_append_right _ (List.mem_append_left _ hq)))
    have R5 := X.rel
    have hk15 : (1 + (k : Int) - ((0 : Nat) : Int)).toNat < 16 := by omega
    refine line_starts_spec (dp := callerA.depth + 1) S ?g1 ?g2 (tl := tl') ?g3 ?g4 (T₀ := T) X.xt (R5.fits (by omega)) R5.valid ?_
    case g1 => exact F.keep
    case g2 => decide +kernel
    case g3 => exact newsHas Nt
    case g4 => exact freshOf Nt (fun b o e => e)
    intro r vs nr h5 tk5 K5 hr hrn hvs
    have N5 := newsMore F N K5 (fz := [(r, W.listOf vs.toArray nr)]) (fun q hq => by rw [List.mem_singleton.mp hq]; exact hr) (fun q hq => by rw [List.mem_singleton.mp hq]; exact hrn)
    replace F := frKeeps F K5
    have X9 := X.xw
    revert X9; refine WdL.elim ?_; intro wpa wfu wo wtn wpav wfuv wn1 wn2 Xw2
    have ew := Xw2.wl_eq
    have whd := Xw2.hd
    have hzn := R5.zn
    have hnl : V.now.length ≤ sizeLine := by rw [sizeLine_eq]; omega
    have N6 := newsSub N5 (news' := (r, W.listOf vs.toArray nr) :: (dw, wo) :: ((s₁.heap.objs.size + 1 : Nat), oc) :: (hl' ++ tl')) (by rw [ew]; intro q hq; simp only [List.mem_cons, List.mem_append, List.not_mem_nil, or_false] at hq ⊢; grind)
    clear N5
    k_steps
    refine Hold.into ?_
    k_dflt (refine LCt.ListComp_T (F₀ := by k_asm) (by with_unfolding_all rfl) (by decide) (by rfl) (by decide) (by rfl) ?_)
    k_steps
    refine Hold.into ?_
    rename IsRange _ _ _ _ _ _ _ _ => Rg2
    rename Fr _ _ _ _ => F
    rename News _ _ _ _ => N
    obtain ⟨NW, hNW⟩ := nmAll N
    refine LCt.CompSrcT.range (n := V.now.length) rfl F N Rg2 (small_up (a := 0) (by omega) (by decide)) ((size_up 0 _).trans (by simp)) (by omega) fun g9 => ?_
    refine compRestT_of (fun i ys news => All2 IntV ys (lsR V.now.cps.toList i) ∧ news = NW) ?_ ?_ (Nat.zero_add _) ⟨.nil, hNW.symm⟩
    · rintro i ys news v I oI C oC D m₂ h9 tk9 E' hi ⟨hys, rfl⟩ ⟨tv, rfl⟩ hC hx F N off ⟨ne1, ne2, ne3⟩
      obtain ⟨ch, hch⟩ : ∃ ch, V.now.cps.toList[(0 + (i : Int)).toNat]? = some ch := by
        have e : (0 + (i : Int)).toNat = i := by omega
        rw [e]
        exact ⟨_, List.getElem?_eq_getElem (by rw [← str_len]; exact hi)⟩
      have hci : V.now.cps.toList[i]? = some ch := by
        have e : (0 + (i : Int)).toNat = i := by omega
        rw [e] at hch; exact hch
      subst hNW
      k_steps
      all_goals (rename Fr _ _ _ _ => F; rename News _ _ _ _ => N)
      · rename (_ == _) = true => hq
        have hc10 := sign_nl hq
        refine LCg.CompEnd.intro F N _ (fun p hp => hp) off trivial ⟨?_, rfl⟩
        rw [lsR_succ, hci, hc10]
        exact hys.append (.one ⟨_, congrArg (fun z => Value.int z _) (show (0 + (i : Int) + 1) = ((i + 1 : Nat) : Int) by omega)⟩)
      · rename (_ == _) = false => hq
        have hc10 := sign_nnl hq
        refine LCg.CompEnd.intro F N _ (fun p hp => hp) off trivial ⟨?_, rfl⟩
        rw [lsR_succ, hci, if_neg (by simpa using hc10), List.append_nil]
        exact hys
    · rintro ys news ⟨hys, rfl⟩
      intro D h9 tk9 F N o1
      subst hNW
      have hrd : rd T.bufs (cutFrom 0 T.len 0 T.ps) = V.now.cps.toList := by rw [← R5.whole, ofL_toList]
      rw [hrd, ← str_len] at hvs
      have hyl := hys.length
      have hll := lsR_len V.now.cps.toList V.now.length
      k_steps
      rename Fr _ _ _ _ => F
      rename News _ _ _ _ => N
      refine Hold.into (ints_eq N (.tail _ (.tail _ (.tail _ (.head _)))) hvs (.head _) (.cons ⟨_, rfl⟩ hys) (by show callerA.units + 3 + 64 < cLine; decide +kernel) ?_)
      k_steps

end Mine
set_option maxRecDepth 100000 in
theorem PySem.Challenge.cw_pb0329_01_holds : PySem.Challenge.rw_pb0329_01.Holds := by
  exact Mine.law_holds
