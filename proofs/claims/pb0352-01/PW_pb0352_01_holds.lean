import PyProof.Rows.All
import Wide.All
import OpenK.AllK
import Wide.FinOn
import Lean
import PySem.Challenge.RW_pb0352_01
set_option Elab.async false
set_option maxRecDepth 100000
set_option maxHeartbeats 0
set_option linter.all false
set_option compiler.extract_closed false
namespace Mine
section
open PySem PySem.W PyProof.Rows
local macro_rules | `(tactic| o_head $_) => `(tactic| assumption)
theorem frag (h : (OpenLaw.row PySem.Challenge.rw_pb0352_01).Holds) : (OpenLaw.row PySem.Challenge.rw_pb0352_01).Holds := by
  k_head

def adrs : List Addr := [2, 3, 15, 17, 18, 20, 21, 29, 31, 32, 34, 35, 36, 38, 39, 41, 42, 43, 45, 46, 48, 49, 50, 52, 53, 55, 56, 57, 58, 59, 60, 61, 71, 73, 74, 76, 77, 78, 79, 80, 81, 82, 85, 87, 88, 90, 91, 92, 94, 95, 97, 98, 99, 101, 102, 104, 105, 106, 108, 109, 111, 112, 113, 115, 116, 118, 119, 127, 129, 130, 132, 133, 134, 135, 137, 138, 140, 141, 142, 144, 145, 147, 148, 149, 151, 152, 154, 155, 156, 158, 159, 161, 162, 163, 165, 166, 168, 169, 170, 172, 173, 175, 176, 177, 179, 180, 182, 183, 184, 186, 187, 189, 190, 191, 193, 194, 196, 197, 198, 200, 201, 203, 204, 205, 207, 208, 210, 211, 212, 214, 215, 217, 218, 219, 221, 222, 224, 225, 226, 227, 228, 229, 230, 240, 242, 243, 245, 246, 247, 248, 249, 250, 251, 254, 256, 257, 259, 260, 261, 263, 264, 266, 267, 268, 270, 271, 273, 274, 282, 284, 285, 287, 288, 289, 291, 292, 294, 295, 296, 299, 300, 301, 304, 305, 306, 308, 309, 311, 312, 313, 315, 316, 318, 319, 320, 322, 323, 325, 326, 327, 328, 329, 330, 331, 334, 336, 337, 339, 340, 341, 343, 344, 346, 347, 348, 350, 351, 353, 354, 355, 357, 358, 360, 361, 362, 364, 365, 367, 368, 369, 372, 373, 374, 377, 378]
theorem adrs_ok : ∀ P, adrs = (frag.heap_1 P).map (·.1) := fun _ => by kernel_rfl
def vq : Program := PySem.W.view PySem.Challenge.pw_pb0352_01 [0, 2, 4, 5, 6, 7, 8, 9, 10, 11, 12, 14, 15, 16, 17, 18, 19, 20, 21, 23, 24, 25, 26]
def Xt : Shared → Bool := fun s => xlAt vq [] s && recOk (RowW.records (OpenRow.toRowW (OpenLaw.row PySem.Challenge.rw_pb0352_01))) s
noncomputable def nth {α : Type} : List α → Nat → Option α
  | [], _ => none
  | a :: _, 0 => some a
  | _ :: l, n + 1 => nth l n
noncomputable def bodyOf : Option Stmt → List Stmt
  | some (.ClassDef _ _ _ b _ _ _ _ _ _ _) => b
  | _ => []
noncomputable def s0 : Stmt := by
  refine' (?g : (x : Stmt) → (nth PySem.Challenge.pw_pb0352_01.main.body 0 = some x) → Stmt) _ rfl
  exact fun x _ => x
noncomputable def s1 : Stmt := by
  refine' (?g : (x : Stmt) → (nth PySem.Challenge.pw_pb0352_01.main.body 1 = some x) → Stmt) _ rfl
  exact fun x _ => x
noncomputable def m2x0 : Stmt := by
  refine' (?g : (x : Stmt) → (nth (bodyOf (nth PySem.Challenge.pw_pb0352_01.main.body 2)) 0 = some x) → Stmt) _ rfl
  exact fun x _ => x
noncomputable def m2x1 : Stmt := by
  refine' (?g : (x : Stmt) → (nth (bodyOf (nth PySem.Challenge.pw_pb0352_01.main.body 2)) 1 = some x) → Stmt) _ rfl
  exact fun x _ => x
noncomputable def m2x2 : Stmt := by
  refine' (?g : (x : Stmt) → (nth (bodyOf (nth PySem.Challenge.pw_pb0352_01.main.body 2)) 2 = some x) → Stmt) _ rfl
  exact fun x _ => x
noncomputable def m2x3 : Stmt := by
  refine' (?g : (x : Stmt) → (nth (bodyOf (nth PySem.Challenge.pw_pb0352_01.main.body 2)) 3 = some x) → Stmt) _ rfl
  exact fun x _ => x
noncomputable def s2 : Stmt := by
  refine' (?g : (x : Stmt) → (nth PySem.Challenge.pw_pb0352_01.main.body 2 = some x) → Stmt) (.ClassDef _ _ _ [m2x0, m2x1, m2x2, m2x3] _ _ _ _ _ _ _) rfl
  exact fun x _ => x
noncomputable def s3 : Stmt := by
  refine' (?g : (x : Stmt) → (nth PySem.Challenge.pw_pb0352_01.main.body 3 = some x) → Stmt) _ rfl
  exact fun x _ => x
noncomputable def s4 : Stmt := by
  refine' (?g : (x : Stmt) → (nth PySem.Challenge.pw_pb0352_01.main.body 4 = some x) → Stmt) _ rfl
  exact fun x _ => x
noncomputable def s5 : Stmt := by
  refine' (?g : (x : Stmt) → (nth PySem.Challenge.pw_pb0352_01.main.body 5 = some x) → Stmt) _ rfl
  exact fun x _ => x
noncomputable def m6x0 : Stmt := by
  refine' (?g : (x : Stmt) → (nth (bodyOf (nth PySem.Challenge.pw_pb0352_01.main.body 6)) 0 = some x) → Stmt) _ rfl
  exact fun x _ => x
noncomputable def s6 : Stmt := by
  refine' (?g : (x : Stmt) → (nth PySem.Challenge.pw_pb0352_01.main.body 6 = some x) → Stmt) (.ClassDef _ _ _ [m6x0] _ _ _ _ _ _ _) rfl
  exact fun x _ => x
noncomputable def s7 : Stmt := by
  refine' (?g : (x : Stmt) → (nth PySem.Challenge.pw_pb0352_01.main.body 7 = some x) → Stmt) _ rfl
  exact fun x _ => x
noncomputable def s8 : Stmt := by
  refine' (?g : (x : Stmt) → (nth PySem.Challenge.pw_pb0352_01.main.body 8 = some x) → Stmt) _ rfl
  exact fun x _ => x
noncomputable def s9 : Stmt := by
  refine' (?g : (x : Stmt) → (nth PySem.Challenge.pw_pb0352_01.main.body 9 = some x) → Stmt) _ rfl
  exact fun x _ => x
noncomputable def s10 : Stmt := by
  refine' (?g : (x : Stmt) → (nth PySem.Challenge.pw_pb0352_01.main.body 10 = some x) → Stmt) _ rfl
  exact fun x _ => x
noncomputable def s11 : Stmt := by
  refine' (?g : (x : Stmt) → (nth PySem.Challenge.pw_pb0352_01.main.body 11 = some x) → Stmt) _ rfl
  exact fun x _ => x
noncomputable def m12x0 : Stmt := by
  refine' (?g : (x : Stmt) → (nth (bodyOf (nth PySem.Challenge.pw_pb0352_01.main.body 12)) 0 = some x) → Stmt) _ rfl
  exact fun x _ => x
noncomputable def m12x1 : Stmt := by
  refine' (?g : (x : Stmt) → (nth (bodyOf (nth PySem.Challenge.pw_pb0352_01.main.body 12)) 1 = some x) → Stmt) _ rfl
  exact fun x _ => x
noncomputable def m12x2 : Stmt := by
  refine' (?g : (x : Stmt) → (nth (bodyOf (nth PySem.Challenge.pw_pb0352_01.main.body 12)) 2 = some x) → Stmt) _ rfl
  exact fun x _ => x
noncomputable def m12x3 : Stmt := by
  refine' (?g : (x : Stmt) → (nth (bodyOf (nth PySem.Challenge.pw_pb0352_01.main.body 12)) 3 = some x) → Stmt) _ rfl
  exact fun x _ => x
noncomputable def m12x4 : Stmt := by
  refine' (?g : (x : Stmt) → (nth (bodyOf (nth PySem.Challenge.pw_pb0352_01.main.body 12)) 4 = some x) → Stmt) _ rfl
  exact fun x _ => x
noncomputable def m12x5 : Stmt := by
  refine' (?g : (x : Stmt) → (nth (bodyOf (nth PySem.Challenge.pw_pb0352_01.main.body 12)) 5 = some x) → Stmt) _ rfl
  exact fun x _ => x
noncomputable def m12x6 : Stmt := by
  refine' (?g : (x : Stmt) → (nth (bodyOf (nth PySem.Challenge.pw_pb0352_01.main.body 12)) 6 = some x) → Stmt) _ rfl
  exact fun x _ => x
noncomputable def m12x7 : Stmt := by
  refine' (?g : (x : Stmt) → (nth (bodyOf (nth PySem.Challenge.pw_pb0352_01.main.body 12)) 7 = some x) → Stmt) _ rfl
  exact fun x _ => x
noncomputable def m12x8 : Stmt := by
  refine' (?g : (x : Stmt) → (nth (bodyOf (nth PySem.Challenge.pw_pb0352_01.main.body 12)) 8 = some x) → Stmt) _ rfl
  exact fun x _ => x
noncomputable def m12x9 : Stmt := by
  refine' (?g : (x : Stmt) → (nth (bodyOf (nth PySem.Challenge.pw_pb0352_01.main.body 12)) 9 = some x) → Stmt) _ rfl
  exact fun x _ => x
noncomputable def m12x10 : Stmt := by
  refine' (?g : (x : Stmt) → (nth (bodyOf (nth PySem.Challenge.pw_pb0352_01.main.body 12)) 10 = some x) → Stmt) _ rfl
  exact fun x _ => x
noncomputable def m12x11 : Stmt := by
  refine' (?g : (x : Stmt) → (nth (bodyOf (nth PySem.Challenge.pw_pb0352_01.main.body 12)) 11 = some x) → Stmt) _ rfl
  exact fun x _ => x
noncomputable def m12x12 : Stmt := by
  refine' (?g : (x : Stmt) → (nth (bodyOf (nth PySem.Challenge.pw_pb0352_01.main.body 12)) 12 = some x) → Stmt) _ rfl
  exact fun x _ => x
noncomputable def m12x13 : Stmt := by
  refine' (?g : (x : Stmt) → (nth (bodyOf (nth PySem.Challenge.pw_pb0352_01.main.body 12)) 13 = some x) → Stmt) _ rfl
  exact fun x _ => x
noncomputable def s12 : Stmt := by
  refine' (?g : (x : Stmt) → (nth PySem.Challenge.pw_pb0352_01.main.body 12 = some x) → Stmt) (.ClassDef _ _ _ [m12x0, m12x1, m12x2, m12x3, m12x4, m12x5, m12x6, m12x7, m12x8, m12x9, m12x10, m12x11, m12x12, m12x13] _ _ _ _ _ _ _) rfl
  exact fun x _ => x
noncomputable def s13 : Stmt := by
  refine' (?g : (x : Stmt) → (nth PySem.Challenge.pw_pb0352_01.main.body 13 = some x) → Stmt) _ rfl
  exact fun x _ => x
noncomputable def m14x0 : Stmt := by
  refine' (?g : (x : Stmt) → (nth (bodyOf (nth PySem.Challenge.pw_pb0352_01.main.body 14)) 0 = some x) → Stmt) _ rfl
  exact fun x _ => x
noncomputable def s14 : Stmt := by
  refine' (?g : (x : Stmt) → (nth PySem.Challenge.pw_pb0352_01.main.body 14 = some x) → Stmt) (.ClassDef _ _ _ [m14x0] _ _ _ _ _ _ _) rfl
  exact fun x _ => x
noncomputable def s15 : Stmt := by
  refine' (?g : (x : Stmt) → (nth PySem.Challenge.pw_pb0352_01.main.body 15 = some x) → Stmt) _ rfl
  exact fun x _ => x
noncomputable def s16 : Stmt := by
  refine' (?g : (x : Stmt) → (nth PySem.Challenge.pw_pb0352_01.main.body 16 = some x) → Stmt) _ rfl
  exact fun x _ => x
noncomputable def s17 : Stmt := by
  refine' (?g : (x : Stmt) → (nth PySem.Challenge.pw_pb0352_01.main.body 17 = some x) → Stmt) _ rfl
  exact fun x _ => x
noncomputable def m18x0 : Stmt := by
  refine' (?g : (x : Stmt) → (nth (bodyOf (nth PySem.Challenge.pw_pb0352_01.main.body 18)) 0 = some x) → Stmt) _ rfl
  exact fun x _ => x
noncomputable def m18x1 : Stmt := by
  refine' (?g : (x : Stmt) → (nth (bodyOf (nth PySem.Challenge.pw_pb0352_01.main.body 18)) 1 = some x) → Stmt) _ rfl
  exact fun x _ => x
noncomputable def m18x2 : Stmt := by
  refine' (?g : (x : Stmt) → (nth (bodyOf (nth PySem.Challenge.pw_pb0352_01.main.body 18)) 2 = some x) → Stmt) _ rfl
  exact fun x _ => x
noncomputable def m18x3 : Stmt := by
  refine' (?g : (x : Stmt) → (nth (bodyOf (nth PySem.Challenge.pw_pb0352_01.main.body 18)) 3 = some x) → Stmt) _ rfl
  exact fun x _ => x
noncomputable def m18x4 : Stmt := by
  refine' (?g : (x : Stmt) → (nth (bodyOf (nth PySem.Challenge.pw_pb0352_01.main.body 18)) 4 = some x) → Stmt) _ rfl
  exact fun x _ => x
noncomputable def m18x5 : Stmt := by
  refine' (?g : (x : Stmt) → (nth (bodyOf (nth PySem.Challenge.pw_pb0352_01.main.body 18)) 5 = some x) → Stmt) _ rfl
  exact fun x _ => x
noncomputable def m18x6 : Stmt := by
  refine' (?g : (x : Stmt) → (nth (bodyOf (nth PySem.Challenge.pw_pb0352_01.main.body 18)) 6 = some x) → Stmt) _ rfl
  exact fun x _ => x
noncomputable def s18 : Stmt := by
  refine' (?g : (x : Stmt) → (nth PySem.Challenge.pw_pb0352_01.main.body 18 = some x) → Stmt) (.ClassDef _ _ _ [m18x0, m18x1, m18x2, m18x3, m18x4, m18x5, m18x6] _ _ _ _ _ _ _) rfl
  exact fun x _ => x
noncomputable def s19 : Stmt := by
  refine' (?g : (x : Stmt) → (nth PySem.Challenge.pw_pb0352_01.main.body 19 = some x) → Stmt) _ rfl
  exact fun x _ => x
noncomputable def s20 : Stmt := by
  refine' (?g : (x : Stmt) → (nth PySem.Challenge.pw_pb0352_01.main.body 20 = some x) → Stmt) _ rfl
  exact fun x _ => x
noncomputable def s21 : Stmt := by
  refine' (?g : (x : Stmt) → (nth PySem.Challenge.pw_pb0352_01.main.body 21 = some x) → Stmt) _ rfl
  exact fun x _ => x
noncomputable def s22 : Stmt := by
  refine' (?g : (x : Stmt) → (nth PySem.Challenge.pw_pb0352_01.main.body 22 = some x) → Stmt) _ rfl
  exact fun x _ => x
noncomputable def s23 : Stmt := by
  refine' (?g : (x : Stmt) → (nth PySem.Challenge.pw_pb0352_01.main.body 23 = some x) → Stmt) _ rfl
  exact fun x _ => x
noncomputable def s24 : Stmt := by
  refine' (?g : (x : Stmt) → (nth PySem.Challenge.pw_pb0352_01.main.body 24 = some x) → Stmt) _ rfl
  exact fun x _ => x
noncomputable def s25 : Stmt := by
  refine' (?g : (x : Stmt) → (nth PySem.Challenge.pw_pb0352_01.main.body 25 = some x) → Stmt) _ rfl
  exact fun x _ => x
noncomputable def s26 : Stmt := by
  refine' (?g : (x : Stmt) → (nth PySem.Challenge.pw_pb0352_01.main.body 26 = some x) → Stmt) _ rfl
  exact fun x _ => x
noncomputable def pq : Program := by
  refine' (?g : (x : Program) → (PySem.Challenge.pw_pb0352_01 = x) → Program) { main := { body := [s0, s1, s2, s3, s4, s5, s6, s7, s8, s9, s10, s11, s12, s13, s14, s15, s16, s17, s18, s19, s20, s21, s22, s23, s24, s25, s26], scope := _, futureAnnotations := _, file := _, more := _ }, modules := _, parses := _, absent := _, harvested := _, given := _ } rfl
  exact fun x _ => x
noncomputable def rq : OpenLaw := by
  refine' (?g : (x : OpenLaw) → (PySem.Challenge.rw_pb0352_01 = x) → OpenLaw) { prog := pq, name := _, about := _, foot := _, most := _, bound := _, writes := _ } rfl
  exact fun x _ => x
noncomputable def LqOf (p v : Program) (X : Shared → Bool) (w : World) := (openEnds treeTable p w 4896).map (fun s => (openSeen v [] (importedModules p.main.body) X true s, adrs.map s.heap.get?))
noncomputable def vr : Program := PySem.W.view pq [0, 2, 4, 5, 6, 7, 8, 9, 10, 11, 12, 14, 15, 16, 17, 18, 19, 20, 21, 23, 24, 25, 26]
noncomputable def Xr : Shared → Bool := fun s => xlAt vr [] s && recOk (RowW.records (OpenRow.toRowW (OpenLaw.row rq))) s
noncomputable def Lr (w : World) := LqOf pq vr Xr w
noncomputable def Rq (w : World) := some (openGood vq [], (frag.heap_1 w.params).map fun p => some p.2)
lay_quick Mine.Lr
theorem pw_pq : PySem.Challenge.pw_pb0352_01 = pq := by kernel_rfl
theorem rw_rq : PySem.Challenge.rw_pb0352_01 = rq := by kernel_rfl
theorem vq_vr : vq = vr := congrArg (fun p => PySem.W.view p [0, 2, 4, 5, 6, 7, 8, 9, 10, 11, 12, 14, 15, 16, 17, 18, 19, 20, 21, 23, 24, 25, 26]) pw_pq
theorem Xt_Xr : Xt = Xr := by
  unfold Xt Xr
  rw [vq_vr, rw_rq]
theorem left (w : World) : LqOf PySem.Challenge.pw_pb0352_01 vq Xt w = Rq w := by
  rw [vq_vr, Xt_Xr, pw_pq]
  show Lr w = Rq w
  rw [PySem.W.Fast.te14731285842542742038]
  kernel_rfl

theorem law_rq (h : (OpenLaw.row rq).wellSaid = true → (OpenLaw.row rq).Holds) : rq.Holds := by
  w_on; o_law
  exact h (by assumption)
/-- the head: what is left is the walk of the law's own call -/
theorem hd (hc : ∀ (d : DefRec) (kwd : List (Str × Expr)), defOf vq (OpenRow.toRowW (OpenLaw.row PySem.Challenge.rw_pb0352_01)).name = some (d, kwd) → WalkO vq [] (XL vq []) (Hook.says (kHook frag.heap_1 adrs adrs_ok)) (OpenRow.toRowW (OpenLaw.row PySem.Challenge.rw_pb0352_01)) d kwd (fun f vs => PySem.call f vs)) : PySem.Challenge.rw_pb0352_01.Holds := by
  have hs := law_rq
  rw [← rw_rq] at hs
  refine hs fun said => ?_
  refine holds_open (q := vq) (loose := []) (Xt := Xt) (XP := XL vq []) (Yf := Hook.obs (kHook frag.heap_1 adrs adrs_ok)) (Ya := Hook.val (kHook frag.heap_1 adrs adrs_ok)) (YP := Hook.says (kHook frag.heap_1 adrs adrs_ok)) (N := 4896) (fun w => left w) (Hook.of (kHook frag.heap_1 adrs adrs_ok)) (Hook.keeps (kHook frag.heap_1 adrs adrs_ok)) (fun s e => xl_of s (Bool.and_eq_true_iff.mp e).1) XL.keeps (by rfl) (by rfl) (by rfl) (fun s e => recFacts_of (Bool.and_eq_true_iff.mp e).2) (by rfl) (by first | assumption | decide +kernel) (by decide +kernel) ⟨rfl, rfl, rfl, rfl, rfl, by decide +kernel⟩ ?hw (hc _ _ (by rfl))
  case hw => w_witness2
end
open PySem PySem.W PySem.Spec PySem.Calls PyProof.Rows
section
inductive And3 (a0 a1 a2 : Prop) : Prop where
  | mk : a0 → a1 → a2 → And3 a0 a1 a2
inductive And4 (a0 a1 a2 a3 : Prop) : Prop where
  | mk : a0 → a1 → a2 → a3 → And4 a0 a1 a2 a3
inductive And5 (a0 a1 a2 a3 a4 : Prop) : Prop where
  | mk : a0 → a1 → a2 → a3 → a4 → And5 a0 a1 a2 a3 a4
inductive And6 (a0 a1 a2 a3 a4 a5 : Prop) : Prop where
  | mk : a0 → a1 → a2 → a3 → a4 → a5 → And6 a0 a1 a2 a3 a4 a5
inductive And7 (a0 a1 a2 a3 a4 a5 a6 : Prop) : Prop where
  | mk : a0 → a1 → a2 → a3 → a4 → a5 → a6 → And7 a0 a1 a2 a3 a4 a5 a6
inductive And8 (a0 a1 a2 a3 a4 a5 a6 a7 : Prop) : Prop where
  | mk : a0 → a1 → a2 → a3 → a4 → a5 → a6 → a7 → And8 a0 a1 a2 a3 a4 a5 a6 a7
inductive And9 (a0 a1 a2 a3 a4 a5 a6 a7 a8 : Prop) : Prop where
  | mk : a0 → a1 → a2 → a3 → a4 → a5 → a6 → a7 → a8 → And9 a0 a1 a2 a3 a4 a5 a6 a7 a8
inductive And10 (a0 a1 a2 a3 a4 a5 a6 a7 a8 a9 : Prop) : Prop where
  | mk : a0 → a1 → a2 → a3 → a4 → a5 → a6 → a7 → a8 → a9 → And10 a0 a1 a2 a3 a4 a5 a6 a7 a8 a9
inductive And11 (a0 a1 a2 a3 a4 a5 a6 a7 a8 a9 a10 : Prop) : Prop where
  | mk : a0 → a1 → a2 → a3 → a4 → a5 → a6 → a7 → a8 → a9 → a10 → And11 a0 a1 a2 a3 a4 a5 a6 a7 a8 a9 a10
inductive And12 (a0 a1 a2 a3 a4 a5 a6 a7 a8 a9 a10 a11 : Prop) : Prop where
  | mk : a0 → a1 → a2 → a3 → a4 → a5 → a6 → a7 → a8 → a9 → a10 → a11 → And12 a0 a1 a2 a3 a4 a5 a6 a7 a8 a9 a10 a11
inductive And13 (a0 a1 a2 a3 a4 a5 a6 a7 a8 a9 a10 a11 a12 : Prop) : Prop where
  | mk : a0 → a1 → a2 → a3 → a4 → a5 → a6 → a7 → a8 → a9 → a10 → a11 → a12 → And13 a0 a1 a2 a3 a4 a5 a6 a7 a8 a9 a10 a11 a12
inductive And14 (a0 a1 a2 a3 a4 a5 a6 a7 a8 a9 a10 a11 a12 a13 : Prop) : Prop where
  | mk : a0 → a1 → a2 → a3 → a4 → a5 → a6 → a7 → a8 → a9 → a10 → a11 → a12 → a13 → And14 a0 a1 a2 a3 a4 a5 a6 a7 a8 a9 a10 a11 a12 a13
inductive And15 (a0 a1 a2 a3 a4 a5 a6 a7 a8 a9 a10 a11 a12 a13 a14 : Prop) : Prop where
  | mk : a0 → a1 → a2 → a3 → a4 → a5 → a6 → a7 → a8 → a9 → a10 → a11 → a12 → a13 → a14 → And15 a0 a1 a2 a3 a4 a5 a6 a7 a8 a9 a10 a11 a12 a13 a14
inductive And16 (a0 a1 a2 a3 a4 a5 a6 a7 a8 a9 a10 a11 a12 a13 a14 a15 : Prop) : Prop where
  | mk : a0 → a1 → a2 → a3 → a4 → a5 → a6 → a7 → a8 → a9 → a10 → a11 → a12 → a13 → a14 → a15 → And16 a0 a1 a2 a3 a4 a5 a6 a7 a8 a9 a10 a11 a12 a13 a14 a15
inductive And17 (a0 a1 a2 a3 a4 a5 a6 a7 a8 a9 a10 a11 a12 a13 a14 a15 a16 : Prop) : Prop where
  | mk : a0 → a1 → a2 → a3 → a4 → a5 → a6 → a7 → a8 → a9 → a10 → a11 → a12 → a13 → a14 → a15 → a16 → And17 a0 a1 a2 a3 a4 a5 a6 a7 a8 a9 a10 a11 a12 a13 a14 a15 a16
inductive And18 (a0 a1 a2 a3 a4 a5 a6 a7 a8 a9 a10 a11 a12 a13 a14 a15 a16 a17 : Prop) : Prop where
  | mk : a0 → a1 → a2 → a3 → a4 → a5 → a6 → a7 → a8 → a9 → a10 → a11 → a12 → a13 → a14 → a15 → a16 → a17 → And18 a0 a1 a2 a3 a4 a5 a6 a7 a8 a9 a10 a11 a12 a13 a14 a15 a16 a17
inductive And19 (a0 a1 a2 a3 a4 a5 a6 a7 a8 a9 a10 a11 a12 a13 a14 a15 a16 a17 a18 : Prop) : Prop where
  | mk : a0 → a1 → a2 → a3 → a4 → a5 → a6 → a7 → a8 → a9 → a10 → a11 → a12 → a13 → a14 → a15 → a16 → a17 → a18 → And19 a0 a1 a2 a3 a4 a5 a6 a7 a8 a9 a10 a11 a12 a13 a14 a15 a16 a17 a18
inductive And20 (a0 a1 a2 a3 a4 a5 a6 a7 a8 a9 a10 a11 a12 a13 a14 a15 a16 a17 a18 a19 : Prop) : Prop where
  | mk : a0 → a1 → a2 → a3 → a4 → a5 → a6 → a7 → a8 → a9 → a10 → a11 → a12 → a13 → a14 → a15 → a16 → a17 → a18 → a19 → And20 a0 a1 a2 a3 a4 a5 a6 a7 a8 a9 a10 a11 a12 a13 a14 a15 a16 a17 a18 a19
inductive And21 (a0 a1 a2 a3 a4 a5 a6 a7 a8 a9 a10 a11 a12 a13 a14 a15 a16 a17 a18 a19 a20 : Prop) : Prop where
  | mk : a0 → a1 → a2 → a3 → a4 → a5 → a6 → a7 → a8 → a9 → a10 → a11 → a12 → a13 → a14 → a15 → a16 → a17 → a18 → a19 → a20 → And21 a0 a1 a2 a3 a4 a5 a6 a7 a8 a9 a10 a11 a12 a13 a14 a15 a16 a17 a18 a19 a20
inductive Ex2 {α0 α1 : Type} (p : α0 → α1 → Prop) : Prop where
  | mk (x0 : α0) (x1 : α1) : p x0 x1 → Ex2 p
inductive Ex3 {α0 α1 α2 : Type} (p : α0 → α1 → α2 → Prop) : Prop where
  | mk (x0 : α0) (x1 : α1) (x2 : α2) : p x0 x1 x2 → Ex3 p
inductive Ex4 {α0 α1 α2 α3 : Type} (p : α0 → α1 → α2 → α3 → Prop) : Prop where
  | mk (x0 : α0) (x1 : α1) (x2 : α2) (x3 : α3) : p x0 x1 x2 x3 → Ex4 p
inductive Ex5 {α0 α1 α2 α3 α4 : Type} (p : α0 → α1 → α2 → α3 → α4 → Prop) : Prop where
  | mk (x0 : α0) (x1 : α1) (x2 : α2) (x3 : α3) (x4 : α4) : p x0 x1 x2 x3 x4 → Ex5 p
inductive Ex6 {α0 α1 α2 α3 α4 α5 : Type} (p : α0 → α1 → α2 → α3 → α4 → α5 → Prop) : Prop where
  | mk (x0 : α0) (x1 : α1) (x2 : α2) (x3 : α3) (x4 : α4) (x5 : α5) : p x0 x1 x2 x3 x4 x5 → Ex6 p
inductive Ex7 {α0 α1 α2 α3 α4 α5 α6 : Type} (p : α0 → α1 → α2 → α3 → α4 → α5 → α6 → Prop) : Prop where
  | mk (x0 : α0) (x1 : α1) (x2 : α2) (x3 : α3) (x4 : α4) (x5 : α5) (x6 : α6) : p x0 x1 x2 x3 x4 x5 x6 → Ex7 p
inductive Ex8 {α0 α1 α2 α3 α4 α5 α6 α7 : Type} (p : α0 → α1 → α2 → α3 → α4 → α5 → α6 → α7 → Prop) : Prop where
  | mk (x0 : α0) (x1 : α1) (x2 : α2) (x3 : α3) (x4 : α4) (x5 : α5) (x6 : α6) (x7 : α7) : p x0 x1 x2 x3 x4 x5 x6 x7 → Ex8 p
inductive Ex9 {α0 α1 α2 α3 α4 α5 α6 α7 α8 : Type} (p : α0 → α1 → α2 → α3 → α4 → α5 → α6 → α7 → α8 → Prop) : Prop where
  | mk (x0 : α0) (x1 : α1) (x2 : α2) (x3 : α3) (x4 : α4) (x5 : α5) (x6 : α6) (x7 : α7) (x8 : α8) : p x0 x1 x2 x3 x4 x5 x6 x7 x8 → Ex9 p
inductive Ex10 {α0 α1 α2 α3 α4 α5 α6 α7 α8 α9 : Type} (p : α0 → α1 → α2 → α3 → α4 → α5 → α6 → α7 → α8 → α9 → Prop) : Prop where
  | mk (x0 : α0) (x1 : α1) (x2 : α2) (x3 : α3) (x4 : α4) (x5 : α5) (x6 : α6) (x7 : α7) (x8 : α8) (x9 : α9) : p x0 x1 x2 x3 x4 x5 x6 x7 x8 x9 → Ex10 p
inductive Ex11 {α0 α1 α2 α3 α4 α5 α6 α7 α8 α9 α10 : Type} (p : α0 → α1 → α2 → α3 → α4 → α5 → α6 → α7 → α8 → α9 → α10 → Prop) : Prop where
  | mk (x0 : α0) (x1 : α1) (x2 : α2) (x3 : α3) (x4 : α4) (x5 : α5) (x6 : α6) (x7 : α7) (x8 : α8) (x9 : α9) (x10 : α10) : p x0 x1 x2 x3 x4 x5 x6 x7 x8 x9 x10 → Ex11 p
inductive Ex12 {α0 α1 α2 α3 α4 α5 α6 α7 α8 α9 α10 α11 : Type} (p : α0 → α1 → α2 → α3 → α4 → α5 → α6 → α7 → α8 → α9 → α10 → α11 → Prop) : Prop where
  | mk (x0 : α0) (x1 : α1) (x2 : α2) (x3 : α3) (x4 : α4) (x5 : α5) (x6 : α6) (x7 : α7) (x8 : α8) (x9 : α9) (x10 : α10) (x11 : α11) : p x0 x1 x2 x3 x4 x5 x6 x7 x8 x9 x10 x11 → Ex12 p
inductive Ex13 {α0 α1 α2 α3 α4 α5 α6 α7 α8 α9 α10 α11 α12 : Type} (p : α0 → α1 → α2 → α3 → α4 → α5 → α6 → α7 → α8 → α9 → α10 → α11 → α12 → Prop) : Prop where
  | mk (x0 : α0) (x1 : α1) (x2 : α2) (x3 : α3) (x4 : α4) (x5 : α5) (x6 : α6) (x7 : α7) (x8 : α8) (x9 : α9) (x10 : α10) (x11 : α11) (x12 : α12) : p x0 x1 x2 x3 x4 x5 x6 x7 x8 x9 x10 x11 x12 → Ex13 p
inductive Ex14 {α0 α1 α2 α3 α4 α5 α6 α7 α8 α9 α10 α11 α12 α13 : Type} (p : α0 → α1 → α2 → α3 → α4 → α5 → α6 → α7 → α8 → α9 → α10 → α11 → α12 → α13 → Prop) : Prop where
  | mk (x0 : α0) (x1 : α1) (x2 : α2) (x3 : α3) (x4 : α4) (x5 : α5) (x6 : α6) (x7 : α7) (x8 : α8) (x9 : α9) (x10 : α10) (x11 : α11) (x12 : α12) (x13 : α13) : p x0 x1 x2 x3 x4 x5 x6 x7 x8 x9 x10 x11 x12 x13 → Ex14 p
inductive Ex15 {α0 α1 α2 α3 α4 α5 α6 α7 α8 α9 α10 α11 α12 α13 α14 : Type} (p : α0 → α1 → α2 → α3 → α4 → α5 → α6 → α7 → α8 → α9 → α10 → α11 → α12 → α13 → α14 → Prop) : Prop where
  | mk (x0 : α0) (x1 : α1) (x2 : α2) (x3 : α3) (x4 : α4) (x5 : α5) (x6 : α6) (x7 : α7) (x8 : α8) (x9 : α9) (x10 : α10) (x11 : α11) (x12 : α12) (x13 : α13) (x14 : α14) : p x0 x1 x2 x3 x4 x5 x6 x7 x8 x9 x10 x11 x12 x13 x14 → Ex15 p
inductive Ex16 {α0 α1 α2 α3 α4 α5 α6 α7 α8 α9 α10 α11 α12 α13 α14 α15 : Type} (p : α0 → α1 → α2 → α3 → α4 → α5 → α6 → α7 → α8 → α9 → α10 → α11 → α12 → α13 → α14 → α15 → Prop) : Prop where
  | mk (x0 : α0) (x1 : α1) (x2 : α2) (x3 : α3) (x4 : α4) (x5 : α5) (x6 : α6) (x7 : α7) (x8 : α8) (x9 : α9) (x10 : α10) (x11 : α11) (x12 : α12) (x13 : α13) (x14 : α14) (x15 : α15) : p x0 x1 x2 x3 x4 x5 x6 x7 x8 x9 x10 x11 x12 x13 x14 x15 → Ex16 p
end
section
/-- a call of the def at f, with the ledger `news`, gives a value and a ledger that Post tells -/
def Con (w : World) (mean : ExcName → Option Value) (mg mb : Str → Option Value) (f : Value) (args : List Value) (dN uN : Nat) (news : List (Addr × Obj)) (Post : Value → List (Addr × Obj) → Prop) : Prop :=
  ∀ (dp un : Nat) (gd : Option (List Code)) (cn : Str) (cs : Scope) (a : Addr) (ccd : Value) (cl : List (Str × Addr)) (outer : List Env) (A₀ : Around) (base h₀ : Heap) (L : Addr) (m : Str → Option Value) (s : Shared)
    (Q E : Value → Shared → Prop),
    Below A₀ base outer h₀ → Fr h₀ L s.heap m → (frag.heap_1 w.params).In h₀ → News h₀ L s.heap news → Top vq (looseW vq []) mean mg mb h₀ → cs.kind = .function → dp + dN < recursionLimit → un + uN < cLine →
    (∀ r news' h' tk', Fr h₀ L h' m → News h₀ L h' news' → Post r news' → Q r { s with heap := h', toks := tk' }) →
    wpAny (model PySem.Challenge.rw_pb0352_01.row.prog w) (ktrTop dp un gd cn cs L a ccd cl outer) (call f args) Q E s


section
variable {w : World} {mean : ExcName → Option Value} {mg mb : Str → Option Value} {h₀ h : Heap} {L : Addr} {news : List (Addr × Obj)}

theorem news_sub {news' : List (Addr × Obj)} (N : News h₀ L h news) (hs : ∀ p ∈ news', p ∈ news) : News h₀ L h news' := fun p hp => N p (hs p hp)

theorem con_use {f : Value} {args : List Value} {dN uN : Nat} {news₀ : List (Addr × Obj)} {Post : Value → List (Addr × Obj) → Prop} (C : Con w mean mg mb f args dN uN news₀ Post)
    {dp un : Nat} {gd : Option (List Code)} {cn : Str} {cs : Scope} {a : Addr} {ccd : Value} {cl : List (Str × Addr)} {outer : List Env} {A₀ : Around} {base : Heap} {m : Str → Option Value} {s : Shared} {Q E : Value → Shared → Prop}
    (B : Below A₀ base outer h₀) (F : Fr h₀ L s.heap m) (X : (frag.heap_1 w.params).In h₀) (N : News h₀ L s.heap news) (T : Top vq (looseW vq []) mean mg mb h₀) (hk : cs.kind = .function)
    (hs : ∀ p ∈ news₀, p ∈ news) (hd : dp + dN < recursionLimit) (hu : un + uN < cLine)
    (ret : ∀ r news' h' tk', Fr h₀ L h' m → News h₀ L h' news' → Post r news' → Q r { s with heap := h', toks := tk' }) :
    wpAny (model PySem.Challenge.rw_pb0352_01.row.prog w) (ktrTop dp un gd cn cs L a ccd cl outer) (call f args) Q E s :=
  C dp un gd cn cs a ccd cl outer A₀ base h₀ L m s Q E B F X (news_sub N hs) T hk hd hu ret
end
theorem andL0 {p q : Prop} (h : p ∧ q) : p := h.1
theorem andL1 {p q a : Prop} (h : a ∧ p ∧ q) : p := h.2.1
theorem andL2 {p q a b : Prop} (h : a ∧ b ∧ p ∧ q) : p := h.2.2.1
theorem andL3 {p q a b c : Prop} (h : a ∧ b ∧ c ∧ p ∧ q) : p := h.2.2.2.1
theorem andL4 {p q a b c d : Prop} (h : a ∧ b ∧ c ∧ d ∧ p ∧ q) : p := h.2.2.2.2.1
theorem andL5 {p q a b c d e : Prop} (h : a ∧ b ∧ c ∧ d ∧ e ∧ p ∧ q) : p := h.2.2.2.2.2.1
theorem andL6 {p q a b c d e f : Prop} (h : a ∧ b ∧ c ∧ d ∧ e ∧ f ∧ p ∧ q) : p := h.2.2.2.2.2.2.1
theorem andR1 {p a : Prop} (h : a ∧ p) : p := h.2
theorem andR2 {p a b : Prop} (h : a ∧ b ∧ p) : p := h.2.2
theorem andR3 {p a b c : Prop} (h : a ∧ b ∧ c ∧ p) : p := h.2.2.2
theorem andR4 {p a b c d : Prop} (h : a ∧ b ∧ c ∧ d ∧ p) : p := h.2.2.2.2
theorem andR5 {p a b c d e : Prop} (h : a ∧ b ∧ c ∧ d ∧ e ∧ p) : p := h.2.2.2.2.2
theorem neGt {a b : Nat} (h : b < a) : a ≠ b := Nat.ne_of_gt h
theorem neLt {a b : Nat} (h : a < b) : a ≠ b := Nat.ne_of_lt h
theorem roomA {d k n R : Nat} (h : d + k < R) (e : Nat.ble n k = true) : d + n < R := Nat.lt_of_le_of_lt (Nat.add_le_add_left (Nat.le_of_ble_eq_true e) d) h
theorem roomB {d k n m R : Nat} (h : d + k < R) (e : Nat.ble (m + n) k = true) : d + m + n < R := by rw [Nat.add_assoc]; exact roomA h e
theorem room0 {d k R : Nat} (h : d + k < R) : d < R := Nat.lt_of_le_of_lt (Nat.le_add_right d k) h
theorem norm_A {M : Model} {α : Type} {t : Sem α} {Q : α → Shared → Prop} {E : Value → Shared → Prop} {s : Shared} {dp un : Nat} {gd : Option (List Code)} {cn cn' : Str} {cs cs' : Scope} {L a L' a' : Addr} {ccd ccd' : Value} {cl cl' : List (Str × Addr)} {outer : List Env}
    (h : wpAny M (ktrTop (dp + 1) (un + 3) gd cn' cs' L' a' ccd' cl' (envX cn cs L a ccd cl :: outer)) t Q E s) : wpAny M ((ktrTop dp un gd cn cs L a ccd cl outer).deeper (envX cn' cs' L' a' ccd' cl')) t Q E s := h
theorem tok_gen {M : Model} {A : Around} {α : Type} {t : Sem α} {Q : α → Shared → Prop} {E : Value → Shared → Prop} {h : Heap} {g : Array GenState} {d : Drawn} {n : Nat} {os : OsState} (k : ∀ tk, wpAny M A t Q E ⟨h, g, d, tk, os⟩) : wpAny M A t Q E ⟨h, g, d, n, os⟩ := k n
theorem a_fold {M : Model} {A : Around} {α : Type} {t : Sem α} {Q : α → Shared → Prop} {E : Value → Shared → Prop} {s : Shared} (h : let A' := A; wpAny M A' t Q E s) : wpAny M A t Q E s := h
end
section
/-- a stop for the walk -/
def Loop (P : Prop) : Prop := P
theorem Loop.out {P : Prop} (h : Loop P) : P := h
theorem Loop.in {P : Prop} (h : P) : Loop P := h
def LPost (Again : Shared → Prop) (Q : Flow → Shared → Prop) (f : Flow) (s : Shared) : Prop :=
  match f with
  | .next => Loop (Again s)
  | .cont => Loop (Again s)
  | .brk => Q .next s
  | .ret v => Q (.ret v) s
section
variable {prog : Program} {w : World} {A : Around} {E : Value → Shared → Prop} {s₀ : Shared} {env : Env} {test : PySem.Expr} {body orelse : List Stmt} {Q : Flow → Shared → Prop}
theorem loop_start {pos : Pos} {s : Shared} (h : Loop (WhlRest prog w A E env test body orelse Q 0 s)) : wpAny (model prog w) A (exec (.While test body orelse pos) env) Q E s := whl_start 0 h
theorem loop_ind {ι : Type} (I : ι → Heap → Prop) (μ : ι → Nat) (hE : PassesOwn (model prog w) A env E)
    (turn : ∀ (Again : Shared → Prop) i h tk, I i h → (∀ j h' tk', μ j < μ i → I j h' → Again { s₀ with heap := h', toks := tk' }) →
      wpAny (model prog w) A (isTrue test env (eval test env)) (fun b s₂ => WhlIf b (wpAny (model prog w) A (execs body env) (LPost Again Q) E s₂) (wpAny (model prog w) A (execs orelse env) Q E s₂)) E { s₀ with heap := h, toks := tk }) :
    ∀ i h tk, I i h → Loop (WhlRest prog w A E env test body orelse Q 0 { s₀ with heap := h, toks := tk }) := by
  have all : ∀ n i h tk, μ i < n → I i h → WhlRest prog w A E env test body orelse Q 0 { s₀ with heap := h, toks := tk } := by
    intro n
    induction n with
    | zero => intro i h tk hn; exact absurd hn (Nat.not_lt_zero _)
    | succ n ih =>
      intro i h tk hn hI
      refine whl_turn (k := 0) hE ?_
      refine wpAny_mono (turn (fun s => WhlRest prog w A E env test body orelse Q 0 s) i h tk hI fun j h' tk' hj hI' => ih j h' tk' (Nat.lt_of_lt_of_le hj (Nat.le_of_lt_succ hn)) hI') (fun b s₂ h₂ => ?_) fun _ _ e => e
      cases b with
      | false => exact h₂
      | true =>
        refine WhlIf.yes rfl ?_
        refine wpAny_mono (show wpAny _ _ _ _ _ _ from by unfold WhlIf at h₂; rw [if_pos rfl] at h₂; exact h₂) (fun f s₃ h₃ => ?_) fun _ _ e => e
        cases f with
        | next => exact h₃
        | cont => exact h₃
        | brk => exact h₃
        | ret v => exact h₃
  exact fun i h tk hI => all _ i h tk (Nat.lt_succ_self _) hI
end

section
variable {d : Addr} {g : Obj → List (Addr × Obj)}
def Slot (d : Addr) (g : Obj → List (Addr × Obj)) : Prop := ∀ o, UpdF d o (g o) g
def SlotIn (q : Addr × Obj) (g : Obj → List (Addr × Obj)) : Prop := ∀ o, q ∈ g o
theorem slot_in {q : Addr × Obj} (h : SlotIn q g) (o : Obj) : q ∈ g o := h o
theorem slot_mem (hg : Slot d g) (o : Obj) : (d, o) ∈ g o := by
  obtain ⟨pre, post, a, b, _⟩ := (hg o).split
  rw [b]
  exact List.mem_append.mpr (.inr (.head _))
theorem updF_upd {o : Obj} {l : List (Addr × Obj)} (U : UpdF d o l g) (o' : Obj) : Upd d o o' l (g o') := by
  induction U with
  | head h => exact .head h
  | tail h _ ih => exact .tail h ih
theorem slot_upd (hg : Slot d g) (o o' : Obj) : Upd d o o' (g o) (g o') := updF_upd (hg o) o'
theorem updF_self {o : Obj} {l : List (Addr × Obj)} (U : UpdF d o l g) : l = g o := by
  induction U with
  | head h => rfl
  | tail h _ ih => exact congrArg (_ :: ·) ih
theorem updF_again {o : Obj} {l : List (Addr × Obj)} (U : UpdF d o l g) : Slot d g := by
  intro o'
  induction U with
  | head h => exact .head h
  | tail h _ ih => exact .tail h ih
/-- what is said of the addresses of a slot's ledger at one object is so at another -/
theorem slot_lt (hg : Slot d g) {a : Addr} {o : Obj} (o' : Obj) (h : ∀ p ∈ g o, p.1 < a) : ∀ p ∈ g o', p.1 < a := by
  obtain ⟨pre, post, a1, b, _⟩ := (hg o).split
  rw [b] at h
  rw [b]
  intro p hp
  rcases List.mem_append.mp hp with hp | hp
  · exact h p (List.mem_append.mpr (.inl hp))
  · rcases List.mem_cons.mp hp with rfl | hp
    · exact h (d, o) (List.mem_append.mpr (.inr (.head _)))
    · exact h p (List.mem_append.mpr (.inr (.tail _ hp)))
end
section
variable {h₀ h : Heap} {L : Addr} {m : Str → Option Value}
theorem fr_one (F : Fr h₀ L h m) {a : Str} {u : Value} (ha : m a = some u) : Fr h₀ L h (fun y => if y = a then some u else m y) := by
  have e : (fun y => if y = a then some u else m y) = m := by
    funext y
    by_cases h1 : y = a
    · rw [if_pos h1, h1, ha]
    · rw [if_neg h1]
  rw [e]; exact F
theorem fr_two (F : Fr h₀ L h m) {a b : Str} {u v : Value} (ha : m a = some u) (hb : m b = some v) : Fr h₀ L h (fun y => if y = a then some u else if y = b then some v else m y) := by
  have e : (fun y => if y = a then some u else if y = b then some v else m y) = m := by
    funext y
    by_cases h1 : y = a
    · rw [if_pos h1, h1, ha]
    · rw [if_neg h1]
      by_cases h2 : y = b
      · rw [if_pos h2, h2, hb]
      · rw [if_neg h2]
  rw [e]; exact F
theorem fr_three (F : Fr h₀ L h m) {a b c : Str} {u v x : Value} (ha : m a = some u) (hb : m b = some v) (hc : m c = some x) : Fr h₀ L h (fun y => if y = a then some u else if y = b then some v else if y = c then some x else m y) := by
  have e : (fun y => if y = a then some u else if y = b then some v else if y = c then some x else m y) = m := by
    funext y
    by_cases h1 : y = a
    · rw [if_pos h1, h1, ha]
    · rw [if_neg h1]
      by_cases h2 : y = b
      · rw [if_pos h2, h2, hb]
      · rw [if_neg h2]
        by_cases h3 : y = c
        · rw [if_pos h3, h3, hc]
        · rw [if_neg h3]
  rw [e]; exact F
end
end
section
/-- from place P on the text S reads l -/
def At (S : Str) (P : Int) (l : List Nat) : Prop := 0 ≤ P ∧ S.cps.toList.drop P.toNat = l ∧ S.length ≤ 100000

theorem At.drop {S : Str} {P : Int} {a l : List Nat} (h : At S P (a ++ l)) : At S (P + (a.length : Int)) l := by
  obtain ⟨h0, h1, h2⟩ := h
  refine ⟨by omega, ?_, h2⟩
  have e : (P + (a.length : Int)).toNat = P.toNat + a.length := by omega
  rw [e, ← List.drop_drop, h1, List.drop_left]
theorem At.one {S : Str} {P : Int} {c : Nat} {l : List Nat} (h : At S P (c :: l)) : At S (P + 1) l := At.drop (a := [c]) h
theorem At.two {S : Str} {P : Int} {c d : Nat} {l : List Nat} (h : At S P (c :: d :: l)) : At S (P + 2) l := At.drop (a := [c, d]) h
theorem At.len {S : Str} {P : Int} {l : List Nat} (h : At S P l) (hl : l ≠ []) : P + (l.length : Int) = (S.cps.toList.length : Int) := by
  obtain ⟨h0, h1, _⟩ := h
  have e := congrArg List.length h1
  rw [List.length_drop] at e
  have : l.length ≠ 0 := fun q => hl (List.length_eq_zero_iff.mp q)
  omega
theorem At.cut {S : Str} {P : Int} {a l : List Nat} (h : At S P (a ++ l)) (hl : a ++ l ≠ []) {j : Int} (hj : j = P + (a.length : Int)) : Txt.slice S (some P) (some j) = ⟨a.toArray⟩ := by
  subst hj
  have hn := h.len hl
  rw [List.length_append] at hn
  have e := eq_of_beq (slice_closes (x := S) (i := P) (j := P + (a.length : Int)) ⟨h.1, by omega, by omega⟩)
  rw [e, h.2.1]
  have : (P + (a.length : Int) - P).toNat = a.length := by omega
  rw [this, List.take_left]
theorem At.sign {S : Str} {P : Int} {c : Nat} {l : List Nat} (h : At S P (c :: l)) {j : Int} (hj : j = P + 1) : Txt.slice S (some P) (some j) = ⟨#[c]⟩ := At.cut (a := [c]) h (by simp) hj
theorem At.size {S : Str} {P : Int} {l : List Nat} (h : At S P l) : S.length ≤ sizeLine := Nat.le_trans h.2.2 (by decide)
theorem At.fit {S : Str} {P : Int} {l : List Nat} (h : At S P l) (hl : l ≠ []) : P < 100000 := by
  have := h.len hl
  have h3 := h.2.2
  unfold Str.length at h3
  have : l.length ≠ 0 := fun q => hl (List.length_eq_zero_iff.mp q)
  rw [← Array.length_toList] at h3
  omega

def isL (c : Nat) : Bool := (decide (97 ≤ c) && decide (c ≤ 122)) || (decide (65 ≤ c) && decide (c ≤ 90))
def isD (c : Nat) : Bool := decide (48 ≤ c) && decide (c ≤ 57)

/-- what `skip` passes: blanks, ends of row, plain remarks -/
inductive Skips : List Nat → List Nat → Prop
  | stop {c : Nat} {l : List Nat} : 32 < c → c ≠ 40 → c < 1000 → Skips (c :: l) (c :: l)
  | blank {l l' : List Nat} : Skips l l' → Skips (32 :: l) l'
  | row {l l' : List Nat} : Skips l l' → Skips (10 :: l) l'
  | remark {b l l' : List Nat} : (∀ c ∈ b, c ≠ 40 ∧ c ≠ 42 ∧ c < 1000) → Skips l l' → Skips (40 :: 42 :: (b ++ 42 :: 41 :: l)) l'
end
section
theorem slot_cons {d a : Addr} {x : Obj} {g : Obj → List (Addr × Obj)} (h : a ≠ d) (hg : Slot d g) : Slot d (fun o => (a, x) :: g o) := fun o => .tail h (hg o)
theorem slot_self {d : Addr} {g : Obj → List (Addr × Obj)} (hg : Slot d g) {o : Obj} : UpdF d o (g o) g := hg o
theorem slot_below {d a : Addr} {g : Obj → List (Addr × Obj)} (hg : Slot d g) (h : ∀ o, ∀ q ∈ g o, q.1 < a) : @LT.lt Nat _ d a := h default _ (slot_mem hg default)
theorem all_ne {a : Addr} {g : Obj → List (Addr × Obj)} (h : ∀ o, ∀ q ∈ g o, q.1 < a) (o : Obj) : ∀ p ∈ g o, p.1 ≠ a := fun p hp => Nat.ne_of_lt (h o p hp)
theorem slot_head {d : Addr} {r : List (Addr × Obj)} (h : ∀ p ∈ r, p.1 ≠ d) : Slot d (fun o => (d, o) :: r) := fun _ => .head h
theorem slot_neA {a d : Addr} {g : Obj → List (Addr × Obj)} {o : Obj} (hg : Slot d g) (h : AllLt a (g o)) : a ≠ d := fun e => Nat.lt_irrefl a (by have := ktn_ltOf h _ (slot_mem hg o); rw [← e] at this; exact this)
theorem slot_neB {a d : Addr} {g : Obj → List (Addr × Obj)} {o : Obj} (hg : Slot d g) (h : ∀ p ∈ g o, p.1 < a) : a ≠ d := slot_neA hg (allLt_of h)
theorem slot_neC {a d : Addr} {g : Obj → List (Addr × Obj)} (hg : Slot d g) (h : ∀ o, ∀ p ∈ g o, p.1 < a) : a ≠ d := slot_neB hg (h default)
theorem slot_other {a d : Addr} {g : Obj → List (Addr × Obj)} {o : Obj} (hg : Slot d g) (h : ∀ p ∈ g o, p.1 ≠ a) : ∀ o', ∀ p ∈ g o', p.1 ≠ a := by
  intro o'
  obtain ⟨pre, post, a1, b, _⟩ := (hg o).split
  rw [a1] at h
  rw [b]
  intro p hp
  rcases List.mem_append.mp hp with hp | hp
  · exact h p (List.mem_append.mpr (.inl hp))
  · rcases List.mem_cons.mp hp with rfl | hp
    · exact h (d, o) (List.mem_append.mpr (.inr (.head _)))
    · exact h p (List.mem_append.mpr (.inr (.tail _ hp)))
theorem off_cons {a b : Addr} {x : Obj} {l : List (Addr × Obj)} (h1 : @Ne Nat a b) (h2 : ∀ q ∈ l, q.1 ≠ b) : ∀ q ∈ (a, x) :: l, q.1 ≠ b := fun q hq => by
  rcases List.mem_cons.mp hq with rfl | hq
  · exact h1
  · exact h2 q hq
end
local macro_rules | `(tactic| walk_at "k_and") => `(tactic| first | assumption | apply And.right) | `(tactic| walk_at "k_ands") => `(tactic| ((try walk_at "k_and"); (try walk_at "k_and"); (try walk_at "k_and"); (try walk_at "k_and"); (try walk_at "k_and"); (try walk_at "k_and"); (try walk_at "k_and"); (try walk_at "k_and"); (try walk_at "k_and"); done)) | `(tactic| walk_at "k_lt") => `(tactic| first | assumption | (apply And.left; walk_at "k_ands") | walk_at "k_ands")
local macro_rules | `(tactic| k_ne) => `(tactic| (refine neN ?_; (try dsimp only); first | assumption | exact neGt (by walk_at "k_lt") | exact neLt (by walk_at "k_lt") | exact slot_neB (by assumption) (by assumption) | exact slot_neA (by assumption) (by tbn_find) | exact slot_neC (by assumption) (by assumption)))
local macro_rules | `(tactic| ktr_room) => `(tactic| first | exact room0 (by assumption) | exact roomA (by assumption) rfl | exact roomB (by assumption) rfl)
local macro_rules | `(tactic| ktr_units) => `(tactic| ktr_room)
local macro_rules | `(tactic| k_all) => `(tactic| first | assumption | exact all_ne (by assumption) _)
local macro_rules | `(tactic| k_mem) => `(tactic| first | assumption | exact slot_mem (by assumption) _ | exact slot_in (by assumption) _)
local macro_rules | `(tactic| k_room) => `(tactic| ktr_room)
local macro_rules | `(tactic| is_list) => `(tactic| exact News.isList (by assumption) (by k_mem))
local macro_rules | `(tactic| k_upd) => `(tactic| exact slot_upd (by assumption) _ _)
local macro_rules | `(tactic| k_updF) => `(tactic| first | (refine' UpdF.head ?a; (case a => k_all)) | (refine' UpdF.tail ?a ?b; (case b => k_updF); (case a => k_ne)) | exact slot_self (by assumption))
local macro_rules | `(tactic| ktr_unf) => `(tactic| first | assumption | (refine' slot_cons ?hne ?hgg; (case hgg => ktr_unf); (case hne => first | assumption | k_ne)) | (refine' slot_head ?hh; (case hh => k_all)))
local macro_rules | `(tactic| size_fits) => `(tactic| first | assumption | (rw [Array.size_push]; assumption))
section
theorem lt1 (c d : Nat) : (([c] : List Nat) < [d]) = (c < d) := by
  apply propext
  rw [List.cons_lt_cons_iff]
  constructor
  · rintro (h | ⟨_, h⟩)
    · exact h
    · exact absurd h (List.not_lt_nil _)
  · exact fun h => .inl h
theorem cpsL (x : String) (n : Nat) (h : (Str.ofString x).cps.toList = [n] := by decide +kernel) : (Str.ofString x).cps.toList = [n] := h

variable {w : World} {mean : ExcName → Option Value} {mg mb : Str → Option Value}
theorem isl_con {c : Nat} {tk : Tok} {news : List (Addr × Obj)} {b : Bool} (hb : isL c = b) :
    Con w mean mg mb (.ref 98) [.str ⟨#[c]⟩ tk] 3 30 news (fun r news' => r = .bool b ∧ news' = news) := by
  w_top off
  have ea := cpsL "a" 97
  have ez := cpsL "z" 122
  have eA := cpsL "A" 65
  have eZ := cpsL "Z" 90
  have e1 : (⟨#[c]⟩ : Str).cps.toList = [c] := rfl
  subst hb
  unfold Con
  k_fill
  intro dp un gd cn cs a ccd cl outer A₀ base h₀ L m s Q E B F X N T hk hd hu hret
  refine wpAny_call ?_
  k_dflt (refine' code_def ?k1 ?k2 ?k3 ?k4 ?k5 ?kA ?kF ?kK ?k6 ?k7 ?k8 ?k9 ?kB ?_ ?c2 ?c3 ?c4 ?c5; (case kA => exact rfl); (case kF => exact rfl); (case kK => assumption); (case k1 => k_asm); (case k2 => k_asm); (case k3 => k_asm); (case k4 => k_asm); (case k5 => k_asm); (case k6 => k_is); (case k7 => k_is); (case k8 => ktr_room); (case k9 => first | exact BindsTo.of_eq rfl | exact binds_K (by k_in) rfl (by k_is) rfl rfl rfl); (case c5 => decide); (case kB => exact locs rfl); (case c2 => exact rfl); (case c3 => exact rfl); (case c4 => exact rfl); k_whole; intro g' L' h' FG' F' N' B' X' T'; (try dsimp only); (try refine norm_A ?_); (try refine tok_gen fun tk0 => ?_); (try k_fold))
  ((try k_fold); repeat' (first | (k_unfold; (try dsimp only)) | walk1 | (dsimp only; walk1) | (leave1; (try dsimp only)) | fail "no step"))
  all_goals (simp only [ea, ez, eA, eZ, e1, lt1] at *)
  all_goals (refine hret _ _ _ _ (by k_asm) (by k_asm) ⟨?_, rfl⟩)
  all_goals (congr 1; unfold isL; rw [Bool.eq_iff_iff]; simp only [Bool.not_eq_true', decide_eq_false_iff_not, Bool.or_eq_true, Bool.and_eq_true, decide_eq_true_eq]; omega)

theorem isd_con {c : Nat} {tk : Tok} {news : List (Addr × Obj)} {b : Bool} (hb : isD c = b) :
    Con w mean mg mb (.ref 105) [.str ⟨#[c]⟩ tk] 3 30 news (fun r news' => r = .bool b ∧ news' = news) := by
  have ea := cpsL "0" 48
  have ez := cpsL "9" 57
  have e1 : (⟨#[c]⟩ : Str).cps.toList = [c] := rfl
  subst hb
  unfold Con
  k_fill
  intro dp un gd cn cs a ccd cl outer A₀ base h₀ L m s Q E B F X N T hk hd hu hret
  refine wpAny_call ?_
  k_dflt (refine' code_def ?k1 ?k2 ?k3 ?k4 ?k5 ?kA ?kF ?kK ?k6 ?k7 ?k8 ?k9 ?kB ?_ ?c2 ?c3 ?c4 ?c5; (case kA => exact rfl); (case kF => exact rfl); (case kK => assumption); (case k1 => k_asm); (case k2 => k_asm); (case k3 => k_asm); (case k4 => k_asm); (case k5 => k_asm); (case k6 => k_is); (case k7 => k_is); (case k8 => ktr_room); (case k9 => first | exact BindsTo.of_eq rfl | exact binds_K (by k_in) rfl (by k_is) rfl rfl rfl); (case c5 => decide); (case kB => exact locs rfl); (case c2 => exact rfl); (case c3 => exact rfl); (case c4 => exact rfl); k_whole; intro g' L' h' FG' F' N' B' X' T'; (try dsimp only); (try refine norm_A ?_); (try refine tok_gen fun tk0 => ?_); (try k_fold))
  ((try k_fold); repeat' (first | (k_unfold; (try dsimp only)) | walk1 | (dsimp only; walk1) | (leave1; (try dsimp only)) | fail "no step"))
  all_goals (simp only [ea, ez, e1, lt1] at *)
  all_goals (refine hret _ _ _ _ (by k_asm) (by k_asm) ⟨?_, rfl⟩)
  all_goals (congr 1; unfold isD; rw [Bool.eq_iff_iff]; simp only [Bool.not_eq_true', decide_eq_false_iff_not, Bool.or_eq_true, Bool.and_eq_true, decide_eq_true_eq]; omega)

abbrev scanD (w : World) (S : Str) (aE aW : Addr) (k1 k2 k3 k4 t1 : Tok) (P : Int) (t3 : Tok) : Obj :=
  dictOf [⟨PyData.keyHash w.params (Str.ofString "source"), .str (Str.ofString "source") k1, .str S t1⟩, ⟨PyData.keyHash w.params (Str.ofString "errors"), .str (Str.ofString "errors") k2, .ref aE⟩,
    ⟨PyData.keyHash w.params (Str.ofString "place"), .str (Str.ofString "place") k3, .int P t3⟩, ⟨PyData.keyHash w.params (Str.ofString "words"), .str (Str.ofString "words") k4, .ref aW⟩] 4


theorem sign_at {prog : Program} {w : World} {A : Around} {E : Value → Shared → Prop} {s : Shared} {h₀ : Heap} {L : Addr} {m : Str → Option Value} {news : List (Addr × Obj)} {value slice : PySem.Expr} {S : Str} {t ui uj : Tok} {P i j : Int} {c : Nat} {l : List Nat} {Q : Value → Shared → Prop}
    (hF : Fr h₀ L s.heap m) (hN : News h₀ L s.heap news) (hA : At S P (c :: l)) (hi : i = P) (hj : j = P + 1) (h : ∀ h' t' k, Fr h₀ L h' m → News h₀ L h' news → Q (.str ⟨#[c]⟩ t') { s with heap := h', toks := k })
    (hs : subscripted slice false (.str S t) (.ref s.heap.objs.size) = operate [.ref s.heap.objs.size, .str S t] (getItem (.str S t) (.ref s.heap.objs.size)) := by with_unfolding_all rfl)
    (ht : ∀ r, letTemporaryGo value (.str S t) r = pure () := by intro _; with_unfolding_all rfl) :
    wpAny (model prog w) A (subscriptTail value slice (.str S t) (.ref s.heap.objs.size)) Q E { s with heap := s.heap.push { cls := .type "slice", data := .fields #[.int i ui, .int j uj, .none] } } := by
  subst hi
  refine slice_strN_ss hF hN (fun h' t' k F' N' => ?_) hs ht hA.size
  rw [hA.sign hj]
  exact h h' t' k F' N'
variable {S : Str} {aS dS aE aW : Addr} {k1 k2 k3 k4 t1 : Tok}
theorem char0_con {P : Int} {t3 : Tok} {news : List (Addr × Obj)} {c : Nat} {l : List Nat} (hS : (aS, instObj 228 dS) ∈ news) (hD : (dS, scanD w S aE aW k1 k2 k3 k4 t1 P t3) ∈ news) (hl : At S P (c :: l)) :
    Con w mean mg mb (.ref 141) [.ref aS] 3 30 news (fun r news' => (∃ t, r = .str ⟨#[c]⟩ t) ∧ news' = news) := by
  unfold Con
  k_fill
  intro dp un gd cn cs a ccd cl outer A₀ base h₀ L m s Q E B F X N T hk hd hu hret
  refine wpAny_call ?_
  k_dflt (refine' code_def ?k1 ?k2 ?k3 ?k4 ?k5 ?kA ?kF ?kK ?k6 ?k7 ?k8 ?k9 ?kB ?_ ?c2 ?c3 ?c4 ?c5; (case kA => exact rfl); (case kF => exact rfl); (case kK => assumption); (case k1 => k_asm); (case k2 => k_asm); (case k3 => k_asm); (case k4 => k_asm); (case k5 => k_asm); (case k6 => k_is); (case k7 => k_is); (case k8 => ktr_room); (case k9 => first | exact BindsTo.of_eq rfl | exact binds_K (by k_in) rfl (by k_is) rfl rfl rfl); (case c5 => decide); (case kB => exact locs rfl); (case c2 => exact rfl); (case c3 => exact rfl); (case c4 => exact rfl); k_whole; intro g' L' h' FG' F' N' B' X' T'; (try dsimp only); (try refine norm_A ?_); (try refine tok_gen fun tk0 => ?_); (try k_fold))
  ((try k_fold); repeat' (first | (k_unfold; (try dsimp only)) | ((with_reducible show wpAny _ _ (subscriptTail _ (Expr.Slice (some _) (some _) none _) (Value.str _ _) (Value.ref _)) _ _ _); (refine' sign_at (s := ⟨_, _, _, _, _⟩) ?zzkF ?zzkN ?zzkA ?zzki ?zzkj ?_ ?zzks ?zzkt; (case zzkF => k_asm); (case zzkN => k_asm); (case zzkA => assumption); (case zzki => omega); (case zzkj => omega); (case zzks => with_unfolding_all rfl); (case zzkt => (intro _; with_unfolding_all rfl)); intro h' t' tk' F' N'; (try k_sweep))) | walk1 | (dsimp only; walk1) | (leave1; (try dsimp only)) | fail "no step"))
  exact hret _ _ _ _ (by k_asm) (by k_asm) ⟨⟨_, rfl⟩, rfl⟩
theorem char1_con {P : Int} {t3 tk : Tok} {news : List (Addr × Obj)} {c d : Nat} {l : List Nat} (hS : (aS, instObj 228 dS) ∈ news) (hD : (dS, scanD w S aE aW k1 k2 k3 k4 t1 P t3) ∈ news) (hl : At S P (c :: d :: l)) :
    Con w mean mg mb (.ref 141) [.ref aS, .int 1 tk] 3 30 news (fun r news' => (∃ t, r = .str ⟨#[d]⟩ t) ∧ news' = news) := by
  have hl1 := hl.one
  clear hl
  unfold Con
  k_fill
  intro dp un gd cn cs a ccd cl outer A₀ base h₀ L m s Q E B F X N T hk hd hu hret
  refine wpAny_call ?_
  k_dflt (refine' code_def ?k1 ?k2 ?k3 ?k4 ?k5 ?kA ?kF ?kK ?k6 ?k7 ?k8 ?k9 ?kB ?_ ?c2 ?c3 ?c4 ?c5; (case kA => exact rfl); (case kF => exact rfl); (case kK => assumption); (case k1 => k_asm); (case k2 => k_asm); (case k3 => k_asm); (case k4 => k_asm); (case k5 => k_asm); (case k6 => k_is); (case k7 => k_is); (case k8 => ktr_room); (case k9 => first | exact BindsTo.of_eq rfl | exact binds_K (by k_in) rfl (by k_is) rfl rfl rfl); (case c5 => decide); (case kB => exact locs rfl); (case c2 => exact rfl); (case c3 => exact rfl); (case c4 => exact rfl); k_whole; intro g' L' h' FG' F' N' B' X' T'; (try dsimp only); (try refine norm_A ?_); (try refine tok_gen fun tk0 => ?_); (try k_fold))
  ((try k_fold); repeat' (first | (k_unfold; (try dsimp only)) | ((with_reducible show wpAny _ _ (subscriptTail _ (Expr.Slice (some _) (some _) none _) (Value.str _ _) (Value.ref _)) _ _ _); (refine' sign_at (s := ⟨_, _, _, _, _⟩) ?zzkF ?zzkN ?zzkA ?zzki ?zzkj ?_ ?zzks ?zzkt; (case zzkF => k_asm); (case zzkN => k_asm); (case zzkA => assumption); (case zzki => omega); (case zzkj => omega); (case zzks => with_unfolding_all rfl); (case zzkt => (intro _; with_unfolding_all rfl)); intro h' t' tk' F' N'; (try k_sweep))) | walk1 | (dsimp only; walk1) | (leave1; (try dsimp only)) | fail "no step"))
  exact hret _ _ _ _ (by k_asm) (by k_asm) ⟨⟨_, rfl⟩, rfl⟩
end
section
theorem lit_e : (Str.ofString "").cps.toList = [] := by decide +kernel
theorem lit_p : (Str.ofString "(").cps.toList = [40] := by decide +kernel
theorem lit_s : (Str.ofString "*").cps.toList = [42] := by decide +kernel
theorem lit_ps : (Str.ofString "(*").cps.toList = [40, 42] := by decide +kernel
theorem lit_sp : (Str.ofString "*)").cps.toList = [42, 41] := by decide +kernel
theorem lit_q : (Str.ofString "\"").cps.toList = [34] := by decide +kernel
theorem lit_a : (Str.ofString ":=").cps.toList = [58, 61] := by decide +kernel
theorem lit_c : (Str.ofString ",").cps.toList = [44] := by decide +kernel
theorem lit_sc : (Str.ofString ";").cps.toList = [59] := by decide +kernel
theorem lit_id : (Str.ofString "ident").cps.toList = [105, 100, 101, 110, 116] := by decide +kernel
section
variable {prog : Program} {w : World} {A : Around} {E : Value → Shared → Prop} {s : Shared} {x y : Str} {t u : Tok} {Q : Value → Shared → Prop}
theorem eqs_false (h : x ≠ y) (k : Q (.bool false) s) : wpAny (model prog w) A (compareOp .Eq (.str x t) (.str y u)) Q E s :=
  PyProof.Rows.eq_str (by rw [beq_false_of_ne h]; exact k)
theorem nes_true (h : x ≠ y) (k : Q (.bool true) s) : wpAny (model prog w) A (compareOp .NotEq (.str x t) (.str y u)) Q E s :=
  PyProof.Rows.ne_str (by rw [bne_iff_ne.mpr h]; exact k)
theorem eqs_true (h : x = y) (k : Q (.bool true) s) : wpAny (model prog w) A (compareOp .Eq (.str x t) (.str y u)) Q E s :=
  PyProof.Rows.eq_str (by rw [beq_iff_eq.mpr h]; exact k)
theorem nes_false (h : x = y) (k : Q (.bool false) s) : wpAny (model prog w) A (compareOp .NotEq (.str x t) (.str y u)) Q E s :=
  PyProof.Rows.ne_str (by rw [show (x != y) = false from by rw [h]; simp]; exact k)
theorem str_ne_of {x y : Str} (h : x.cps.toList ≠ y.cps.toList) : x ≠ y := fun e => h (by rw [e])
end
end
section
variable {w : World} {mean : ExcName → Option Value} {mg mb : Str → Option Value}
variable {S : Str} {aS dS aE aW : Addr} {k1 k2 k3 k4 t1 : Tok}
theorem remark_con {P : Int} {t3 : Tok} {g : Obj → List (Addr × Obj)} {b l : List Nat} (hg : Slot dS g) (hS : SlotIn (aS, instObj 228 dS) g) (hb : ∀ c ∈ b, c ≠ 40 ∧ c ≠ 42 ∧ c < 1000) (hl : At S P (40 :: 42 :: (b ++ 42 :: 41 :: l))) :
    Con w mean mg mb (.ref 162) [.ref aS] 6 60 (g (scanD w S aE aW k1 k2 k3 k4 t1 P t3)) (fun r news' => r = .none ∧ ∃ P' t', At S P' l ∧ news' = g (scanD w S aE aW k1 k2 k3 k4 t1 P' t')) := by
  w_top off
  unfold Con
  k_fill
  intro dp un gd cn cs a ccd cl outer A₀ base h₀ L m s Q E B F X N T hk hd hu hret
  refine wpAny_call ?_
  k_dflt (refine' code_def ?k1 ?k2 ?k3 ?k4 ?k5 ?kA ?kF ?kK ?k6 ?k7 ?k8 ?k9 ?kB ?_ ?c2 ?c3 ?c4 ?c5; (case kA => exact rfl); (case kF => exact rfl); (case kK => assumption); (case k1 => k_asm); (case k2 => k_asm); (case k3 => k_asm); (case k4 => k_asm); (case k5 => k_asm); (case k6 => k_is); (case k7 => k_is); (case k8 => ktr_room); (case k9 => first | exact BindsTo.of_eq rfl | exact binds_K (by k_in) rfl (by k_is) rfl rfl rfl); (case c5 => decide); (case kB => exact locs rfl); (case c2 => exact rfl); (case c3 => exact rfl); (case c4 => exact rfl); k_whole; intro g' L' h' FG' F' N' B' X' T'; (try dsimp only); (try refine norm_A ?_); (try refine tok_gen fun tk0 => ?_); (try k_fold))
  ((try k_fold); repeat' (first | (k_unfold; (try dsimp only)) | ((with_reducible show wpAny _ _ (exec (Stmt.While _ _ _ _) _) _ _ _); (k_dflt (refine loop_start ?_))) | walk1 | (dsimp only; walk1) | (leave1; (try dsimp only)) | fail "no step"))
  refine loop_ind (s₀ := s) (I := fun (i : Option (List Nat)) h => ∃ m P' t' td, Fr g' L' h m ∧ m (Str.ofString "self") = some (.ref aS) ∧ m (Str.ofString "depth") = some (.int (if i.isSome then 1 else 0) td) ∧ News g' L' h (g (scanD w S aE aW k1 k2 k3 k4 t1 P' t')) ∧ (∀ b, i = some b → (∀ c ∈ b, c ≠ 40 ∧ c ≠ 42 ∧ c < 1000) ∧ At S P' (b ++ 42 :: 41 :: l)) ∧ (i = none → At S P' l)) (fun i => match i with | some b => b.length + 1 | none => 0) ?hE ?turn (some b) _ _ ⟨_, _, _, _, (by assumption), rfl, rfl, (by assumption), fun b' e => (by cases e; exact ⟨hb, hl.two⟩), fun e => nomatch e⟩
  case hE => first | passes_own | with_unfolding_all passes_own
  case turn =>
    clear hl
    intro Again i h tk ⟨m, P', t', td, F1, hself, hdep, N1, hsome, hnone⟩ IH
    have F2 := fr_two F1 hself hdep
    clear F1
    cases i with
    | none =>
      have hA := hnone rfl
      clear hsome hnone
      simp only [Option.isSome_none, Bool.false_eq_true, if_false] at F2
      ((try k_fold); repeat' (first | (k_unfold; (try dsimp only)) | walk1 | (dsimp only; walk1) | (leave1; (try dsimp only)) | fail "no step"))
      exact hret _ _ _ _ (by k_asm) (by k_asm) ⟨rfl, _, _, hA, rfl⟩
    | some b' =>
      obtain ⟨hb', hA⟩ := hsome _ rfl
      clear hsome hnone
      simp only [Option.isSome_some, if_true] at F2
      cases b' with
      | nil =>
        simp only [List.nil_append] at hA
        ((try k_fold); repeat' (first | (k_unfold; (try dsimp only)) | ((with_reducible show wpAny _ _ (compareOp CmpOp.Eq (Value.str _ _) (Value.str _ _)) _ _ _); (k_dflt (refine eqs_false (by ((refine str_ne_of ?_); (simp only [lit_e, lit_p, lit_s, lit_ps, lit_sp, lit_q, lit_a, lit_c, lit_sc, lit_id, List.toList_toArray, Str.cps_append, Array.toList_append, List.cons_append, List.nil_append, List.cons.injEq, ne_eq, not_and, reduceCtorEq, not_false_eq_true, and_true, true_and, not_true_eq_false, imp_false]); first | done | omega)) ?_))) | ((with_reducible show wpAny _ _ (call (Value.ref 141) _) _ _ _); k_dflt (first | (refine' con_use (char0_con ?zzhS ?zzhD ?zzhl) ?zzkB ?zzkF ?zzkX ?zzkN ?zzkT ?zzkK ?zzks ?zzkd ?zzku ?_; (case zzkB => k_asm); (case zzkF => k_asm); (case zzkX => k_asm); (case zzkN => k_asm); (case zzkT => k_asm); (case zzkK => exact rfl); (case zzks => exact fun _ h => h); (case zzhS => k_mem); (case zzhD => k_mem); (case zzhl => assumption); (case zzkd => ktr_room); (case zzku => ktr_units); intro r9 news9 h9 tk9 F9 N9 p9; obtain ⟨⟨t9, e9⟩, n9⟩ := p9; subst e9 n9; (try dsimp only); (try k_sweep)) | (refine' con_use (char1_con ?zzhS ?zzhD ?zzhl) ?zzkB ?zzkF ?zzkX ?zzkN ?zzkT ?zzkK ?zzks ?zzkd ?zzku ?_; (case zzkB => k_asm); (case zzkF => k_asm); (case zzkX => k_asm); (case zzkN => k_asm); (case zzkT => k_asm); (case zzkK => exact rfl); (case zzks => exact fun _ h => h); (case zzhS => k_mem); (case zzhD => k_mem); (case zzhl => assumption); (case zzkd => ktr_room); (case zzku => ktr_units); intro r9 news9 h9 tk9 F9 N9 p9; obtain ⟨⟨t9, e9⟩, n9⟩ := p9; subst e9 n9; (try dsimp only); (try k_sweep)))) | ((with_reducible show LPost _ _ _ _); (dsimp only [LPost])) | walk1 | (dsimp only; walk1) | (leave1; (try dsimp only)) | fail "no step"))
        exact IH none _ _ (Nat.succ_pos _) ⟨_, _, _, _, by k_asm, rfl, rfl, by k_asm, (fun _ e => by cases e), fun _ => hA.two⟩
      | cons c b' =>
        obtain ⟨d, r, hr⟩ : ∃ d r, b' ++ 42 :: 41 :: l = d :: r := by cases b' <;> exact ⟨_, _, rfl⟩
        rw [List.cons_append, hr] at hA
        have hc := hb' c (.head _)
        have hc1 := hc.1
        have hc2 := hc.2.1
        ((try k_fold); repeat' (first | (k_unfold; (try dsimp only)) | ((with_reducible show wpAny _ _ (compareOp CmpOp.Eq (Value.str _ _) (Value.str _ _)) _ _ _); (k_dflt (refine eqs_false (by ((refine str_ne_of ?_); (simp only [lit_e, lit_p, lit_s, lit_ps, lit_sp, lit_q, lit_a, lit_c, lit_sc, lit_id, List.toList_toArray, Str.cps_append, Array.toList_append, List.cons_append, List.nil_append, List.cons.injEq, ne_eq, not_and, reduceCtorEq, not_false_eq_true, and_true, true_and, not_true_eq_false, imp_false]); first | done | omega)) ?_))) | ((with_reducible show wpAny _ _ (call (Value.ref 141) _) _ _ _); k_dflt (first | (refine' con_use (char0_con ?zzhS ?zzhD ?zzhl) ?zzkB ?zzkF ?zzkX ?zzkN ?zzkT ?zzkK ?zzks ?zzkd ?zzku ?_; (case zzkB => k_asm); (case zzkF => k_asm); (case zzkX => k_asm); (case zzkN => k_asm); (case zzkT => k_asm); (case zzkK => exact rfl); (case zzks => exact fun _ h => h); (case zzhS => k_mem); (case zzhD => k_mem); (case zzhl => assumption); (case zzkd => ktr_room); (case zzku => ktr_units); intro r9 news9 h9 tk9 F9 N9 p9; obtain ⟨⟨t9, e9⟩, n9⟩ := p9; subst e9 n9; (try dsimp only); (try k_sweep)) | (refine' con_use (char1_con ?zzhS ?zzhD ?zzhl) ?zzkB ?zzkF ?zzkX ?zzkN ?zzkT ?zzkK ?zzks ?zzkd ?zzku ?_; (case zzkB => k_asm); (case zzkF => k_asm); (case zzkX => k_asm); (case zzkN => k_asm); (case zzkT => k_asm); (case zzkK => exact rfl); (case zzks => exact fun _ h => h); (case zzhS => k_mem); (case zzhD => k_mem); (case zzhl => assumption); (case zzkd => ktr_room); (case zzku => ktr_units); intro r9 news9 h9 tk9 F9 N9 p9; obtain ⟨⟨t9, e9⟩, n9⟩ := p9; subst e9 n9; (try dsimp only); (try k_sweep)))) | ((with_reducible show LPost _ _ _ _); (dsimp only [LPost])) | walk1 | (dsimp only; walk1) | (leave1; (try dsimp only)) | fail "no step"))
        refine IH (some b') _ _ (Nat.lt_succ_self _) ⟨_, _, _, _, by k_asm, rfl, rfl, by k_asm, (fun b9 e9 => ?_), (fun e9 => by cases e9)⟩
        cases e9
        exact ⟨fun c h => hb' c (.tail _ h), hr ▸ hA.one⟩
theorem skip_con {P : Int} {t3 : Tok} {g : Obj → List (Addr × Obj)} {l l' : List Nat} (hg : Slot dS g) (hS : SlotIn (aS, instObj 228 dS) g) (hl : At S P l) (hsk : Skips l l') :
    Con w mean mg mb (.ref 155) [.ref aS] 10 90 (g (scanD w S aE aW k1 k2 k3 k4 t1 P t3)) (fun r news' => r = .none ∧ ∃ P' t', At S P' l' ∧ news' = g (scanD w S aE aW k1 k2 k3 k4 t1 P' t')) := by
  unfold Con
  k_fill
  intro dp un gd cn cs a ccd cl outer A₀ base h₀ L m s Q E B F X N T hk hd hu hret
  refine wpAny_call ?_
  k_dflt (refine' code_def ?k1 ?k2 ?k3 ?k4 ?k5 ?kA ?kF ?kK ?k6 ?k7 ?k8 ?k9 ?kB ?_ ?c2 ?c3 ?c4 ?c5; (case kA => exact rfl); (case kF => exact rfl); (case kK => assumption); (case k1 => k_asm); (case k2 => k_asm); (case k3 => k_asm); (case k4 => k_asm); (case k5 => k_asm); (case k6 => k_is); (case k7 => k_is); (case k8 => ktr_room); (case k9 => first | exact BindsTo.of_eq rfl | exact binds_K (by k_in) rfl (by k_is) rfl rfl rfl); (case c5 => decide); (case kB => exact locs rfl); (case c2 => exact rfl); (case c3 => exact rfl); (case c4 => exact rfl); k_whole; intro g' L' h' FG' F' N' B' X' T'; (try dsimp only); (try refine norm_A ?_); (try refine tok_gen fun tk0 => ?_); (try k_fold))
  ((try k_fold); repeat' (first | (k_unfold; (try dsimp only)) | ((with_reducible show wpAny _ _ (exec (Stmt.While _ _ _ _) _) _ _ _); (k_dflt (refine loop_start ?_))) | walk1 | (dsimp only; walk1) | (leave1; (try dsimp only)) | fail "no step"))
  refine loop_ind (s₀ := s) (I := fun (i : List Nat) h => Ex3 fun m P' t' => And5 (Fr g' L' h m) (m (Str.ofString "self") = some (.ref aS)) (News g' L' h (g (scanD w S aE aW k1 k2 k3 k4 t1 P' t'))) (At S P' i) (Skips i l')) (fun i => i.length) ?hE ?turn l _ _ ⟨_, _, _, (by k_asm), rfl, (by k_asm), hl, hsk⟩
  case hE => first | passes_own | with_unfolding_all passes_own
  case turn =>
    clear hl hsk
    intro Again i h tk ⟨m, P', t', F1, hself, N1, hA, hsk⟩ IH
    have F2 := fr_one F1 hself
    clear F1
    cases hsk with
    | stop h1 h2 h3 =>
      ((try k_fold); repeat' (first | (k_unfold; (try dsimp only)) | ((with_reducible show wpAny _ _ (compareOp CmpOp.NotEq (Value.str _ _) (Value.str _ _)) _ _ _); (k_dflt (refine nes_true (by ((refine str_ne_of ?_); (simp only [lit_e, lit_p, lit_s, lit_ps, lit_sp, lit_q, lit_a, lit_c, lit_sc, lit_id, List.toList_toArray, Str.cps_append, Array.toList_append, List.cons_append, List.nil_append, List.cons.injEq, ne_eq, not_and, reduceCtorEq, not_false_eq_true, and_true, true_and, not_true_eq_false, imp_false]); first | done | omega)) ?_))) | ((with_reducible show wpAny _ _ (compareOp CmpOp.Eq (Value.str _ _) (Value.str _ _)) _ _ _); (k_dflt (refine eqs_false (by ((refine str_ne_of ?_); (simp only [lit_e, lit_p, lit_s, lit_ps, lit_sp, lit_q, lit_a, lit_c, lit_sc, lit_id, List.toList_toArray, Str.cps_append, Array.toList_append, List.cons_append, List.nil_append, List.cons.injEq, ne_eq, not_and, reduceCtorEq, not_false_eq_true, and_true, true_and, not_true_eq_false, imp_false]); first | done | omega)) ?_))) | ((with_reducible show wpAny _ _ (call (Value.ref 141) _) _ _ _); k_dflt (first | (refine' con_use (char0_con ?zzhS ?zzhD ?zzhl) ?zzkB ?zzkF ?zzkX ?zzkN ?zzkT ?zzkK ?zzks ?zzkd ?zzku ?_; (case zzkB => k_asm); (case zzkF => k_asm); (case zzkX => k_asm); (case zzkN => k_asm); (case zzkT => k_asm); (case zzkK => exact rfl); (case zzks => exact fun _ h => h); (case zzhS => k_mem); (case zzhD => k_mem); (case zzhl => assumption); (case zzkd => ktr_room); (case zzku => ktr_units); intro r9 news9 h9 tk9 F9 N9 p9; obtain ⟨⟨t9, e9⟩, n9⟩ := p9; subst e9 n9; (try dsimp only); (try k_sweep)) | (refine' con_use (char1_con ?zzhS ?zzhD ?zzhl) ?zzkB ?zzkF ?zzkX ?zzkN ?zzkT ?zzkK ?zzks ?zzkd ?zzku ?_; (case zzkB => k_asm); (case zzkF => k_asm); (case zzkX => k_asm); (case zzkN => k_asm); (case zzkT => k_asm); (case zzkK => exact rfl); (case zzks => exact fun _ h => h); (case zzhS => k_mem); (case zzhD => k_mem); (case zzhl => assumption); (case zzkd => ktr_room); (case zzku => ktr_units); intro r9 news9 h9 tk9 F9 N9 p9; obtain ⟨⟨t9, e9⟩, n9⟩ := p9; subst e9 n9; (try dsimp only); (try k_sweep)))) | ((with_reducible show LPost _ _ _ _); (dsimp only [LPost])) | walk1 | (dsimp only; walk1) | (leave1; (try dsimp only)) | fail "no step"))
      exact hret _ _ _ _ (by k_asm) (by k_asm) ⟨rfl, _, _, hA, rfl⟩
    | blank hs =>
      ((try k_fold); repeat' (first | (k_unfold; (try dsimp only)) | ((with_reducible show wpAny _ _ (call (Value.ref 141) _) _ _ _); k_dflt (first | (refine' con_use (char0_con ?zzhS ?zzhD ?zzhl) ?zzkB ?zzkF ?zzkX ?zzkN ?zzkT ?zzkK ?zzks ?zzkd ?zzku ?_; (case zzkB => k_asm); (case zzkF => k_asm); (case zzkX => k_asm); (case zzkN => k_asm); (case zzkT => k_asm); (case zzkK => exact rfl); (case zzks => exact fun _ h => h); (case zzhS => k_mem); (case zzhD => k_mem); (case zzhl => assumption); (case zzkd => ktr_room); (case zzku => ktr_units); intro r9 news9 h9 tk9 F9 N9 p9; obtain ⟨⟨t9, e9⟩, n9⟩ := p9; subst e9 n9; (try dsimp only); (try k_sweep)) | (refine' con_use (char1_con ?zzhS ?zzhD ?zzhl) ?zzkB ?zzkF ?zzkX ?zzkN ?zzkT ?zzkK ?zzks ?zzkd ?zzku ?_; (case zzkB => k_asm); (case zzkF => k_asm); (case zzkX => k_asm); (case zzkN => k_asm); (case zzkT => k_asm); (case zzkK => exact rfl); (case zzks => exact fun _ h => h); (case zzhS => k_mem); (case zzhD => k_mem); (case zzhl => assumption); (case zzkd => ktr_room); (case zzku => ktr_units); intro r9 news9 h9 tk9 F9 N9 p9; obtain ⟨⟨t9, e9⟩, n9⟩ := p9; subst e9 n9; (try dsimp only); (try k_sweep)))) | ((with_reducible show LPost _ _ _ _); (dsimp only [LPost])) | walk1 | (dsimp only; walk1) | (leave1; (try dsimp only)) | fail "no step"))
      exact IH _ _ _ (Nat.lt_succ_self _) ⟨_, _, _, by k_asm, rfl, by k_asm, hA.one, hs⟩
    | row hs =>
      ((try k_fold); repeat' (first | (k_unfold; (try dsimp only)) | ((with_reducible show wpAny _ _ (call (Value.ref 141) _) _ _ _); k_dflt (first | (refine' con_use (char0_con ?zzhS ?zzhD ?zzhl) ?zzkB ?zzkF ?zzkX ?zzkN ?zzkT ?zzkK ?zzks ?zzkd ?zzku ?_; (case zzkB => k_asm); (case zzkF => k_asm); (case zzkX => k_asm); (case zzkN => k_asm); (case zzkT => k_asm); (case zzkK => exact rfl); (case zzks => exact fun _ h => h); (case zzhS => k_mem); (case zzhD => k_mem); (case zzhl => assumption); (case zzkd => ktr_room); (case zzku => ktr_units); intro r9 news9 h9 tk9 F9 N9 p9; obtain ⟨⟨t9, e9⟩, n9⟩ := p9; subst e9 n9; (try dsimp only); (try k_sweep)) | (refine' con_use (char1_con ?zzhS ?zzhD ?zzhl) ?zzkB ?zzkF ?zzkX ?zzkN ?zzkT ?zzkK ?zzks ?zzkd ?zzku ?_; (case zzkB => k_asm); (case zzkF => k_asm); (case zzkX => k_asm); (case zzkN => k_asm); (case zzkT => k_asm); (case zzkK => exact rfl); (case zzks => exact fun _ h => h); (case zzhS => k_mem); (case zzhD => k_mem); (case zzhl => assumption); (case zzkd => ktr_room); (case zzku => ktr_units); intro r9 news9 h9 tk9 F9 N9 p9; obtain ⟨⟨t9, e9⟩, n9⟩ := p9; subst e9 n9; (try dsimp only); (try k_sweep)))) | ((with_reducible show LPost _ _ _ _); (dsimp only [LPost])) | walk1 | (dsimp only; walk1) | (leave1; (try dsimp only)) | fail "no step"))
      exact IH _ _ _ (Nat.lt_succ_self _) ⟨_, _, _, by k_asm, rfl, by k_asm, hA.one, hs⟩
    | remark hb hs =>
      ((try k_fold); repeat' (first | (k_unfold; (try dsimp only)) | ((with_reducible show wpAny _ _ (call (Value.ref 162) _) _ _ _); k_dflt (refine' con_use (remark_con ?zzhg ?zzhS ?zzhb ?zzhl) ?zzkB ?zzkF ?zzkX ?zzkN ?zzkT ?zzkK ?zzks ?zzkd ?zzku ?_; (case zzkB => k_asm); (case zzkF => k_asm); (case zzkX => k_asm); (case zzkN => k_asm); (case zzkT => k_asm); (case zzkK => exact rfl); (case zzks => exact fun _ h => h); (case zzhS => assumption); (case zzhg => assumption); (case zzhl => assumption); (case zzhb => assumption); (case zzkd => ktr_room); (case zzku => ktr_units); intro r9 news9 h9 tk9 F9 N9 p9; obtain ⟨e9, P9, t9, hA9, n9⟩ := p9; subst e9 n9; (try dsimp only); (try k_sweep))) | ((with_reducible show wpAny _ _ (call (Value.ref 141) _) _ _ _); k_dflt (first | (refine' con_use (char0_con ?zzhS ?zzhD ?zzhl) ?zzkB ?zzkF ?zzkX ?zzkN ?zzkT ?zzkK ?zzks ?zzkd ?zzku ?_; (case zzkB => k_asm); (case zzkF => k_asm); (case zzkX => k_asm); (case zzkN => k_asm); (case zzkT => k_asm); (case zzkK => exact rfl); (case zzks => exact fun _ h => h); (case zzhS => k_mem); (case zzhD => k_mem); (case zzhl => assumption); (case zzkd => ktr_room); (case zzku => ktr_units); intro r9 news9 h9 tk9 F9 N9 p9; obtain ⟨⟨t9, e9⟩, n9⟩ := p9; subst e9 n9; (try dsimp only); (try k_sweep)) | (refine' con_use (char1_con ?zzhS ?zzhD ?zzhl) ?zzkB ?zzkF ?zzkX ?zzkN ?zzkT ?zzkK ?zzks ?zzkd ?zzku ?_; (case zzkB => k_asm); (case zzkF => k_asm); (case zzkX => k_asm); (case zzkN => k_asm); (case zzkT => k_asm); (case zzkK => exact rfl); (case zzks => exact fun _ h => h); (case zzhS => k_mem); (case zzhD => k_mem); (case zzhl => assumption); (case zzkd => ktr_room); (case zzku => ktr_units); intro r9 news9 h9 tk9 F9 N9 p9; obtain ⟨⟨t9, e9⟩, n9⟩ := p9; subst e9 n9; (try dsimp only); (try k_sweep)))) | ((with_reducible show LPost _ _ _ _); (dsimp only [LPost])) | walk1 | (dsimp only; walk1) | (leave1; (try dsimp only)) | fail "no step"))
      refine IH _ _ _ ?_ ⟨_, _, _, by k_asm, rfl, by k_asm, by assumption, hs⟩
      simp only [List.length_cons, List.length_append]
      omega
end
section
variable {w : World} {mean : ExcName → Option Value} {mg mb : Str → Option Value}
variable {S : Str} {aS dS aE aW : Addr} {k1 k2 k3 k4 t1 : Tok}
abbrev tupO (vs : List Value) (n : Nat) : Obj := { cls := .type "tuple", data := .seq vs.toArray n }
abbrev tokD (w : World) (j1 j2 j3 : Tok) (kv vv pv : Value) : Obj :=
  dictOf [⟨PyData.keyHash w.params (Str.ofString "kind"), .str (Str.ofString "kind") j1, kv⟩, ⟨PyData.keyHash w.params (Str.ofString "value"), .str (Str.ofString "value") j2, vv⟩, ⟨PyData.keyHash w.params (Str.ofString "place"), .str (Str.ofString "place") j3, pv⟩] 3
/-- what a token's making leaves -/
def TokPost (w : World) (S : Str) (aE aW : Addr) (k1 k2 k3 k4 t1 : Tok) (g : Obj → List (Addr × Obj)) (kind val : Str) (l : List Nat) (r : Value) (news' : List (Addr × Obj)) : Prop :=
  Ex10 fun aT dT j1 j2 j3 tk1 tk2 pv P' t' => And5 (r = .ref aT) (news' = (aT, instObj 80 dT) :: (dT, tokD w j1 j2 j3 (.str kind tk1) (.str val tk2) pv) :: g (scanD w S aE aW k1 k2 k3 k4 t1 P' t')) (At S P' l) (dT < aT) (∀ o, ∀ q ∈ g o, q.1 < dT)
def CutAt (S : Str) (P : Int) (a l : List Nat) : Prop := At S P (a ++ l) ∧ a ++ l ≠ []
theorem cut_at {prog : Program} {w : World} {A : Around} {E : Value → Shared → Prop} {s : Shared} {h₀ : Heap} {L : Addr} {m : Str → Option Value} {news : List (Addr × Obj)} {value slice : PySem.Expr} {S : Str} {t ui uj : Tok} {P i j : Int} {a l : List Nat} {Q : Value → Shared → Prop}
    (hF : Fr h₀ L s.heap m) (hN : News h₀ L s.heap news) (hA : CutAt S P a l) (hi : i = P) (hj : j = P + (a.length : Int)) (h : ∀ h' t' k, Fr h₀ L h' m → News h₀ L h' news → Q (.str ⟨a.toArray⟩ t') { s with heap := h', toks := k })
    (hs : subscripted slice false (.str S t) (.ref s.heap.objs.size) = operate [.ref s.heap.objs.size, .str S t] (getItem (.str S t) (.ref s.heap.objs.size)))
    (ht : ∀ r, letTemporaryGo value (.str S t) r = pure ()) :
    wpAny (model prog w) A (subscriptTail value slice (.str S t) (.ref s.heap.objs.size)) Q E { s with heap := s.heap.push { cls := .type "slice", data := .fields #[.int i ui, .int j uj, .none] } } := by
  subst hi
  refine slice_strN_ss hF hN (fun h' t' k F' N' => ?_) hs ht hA.1.size
  rw [hA.1.cut hA.2 hj]
  exact h h' t' k F' N'
theorem in_words {prog : Program} {w : World} {A : Around} {E : Value → Shared → Prop} {s : Shared} {h₀ : Heap} {L a : Addr} {news : List (Addr × Obj)} {vs : List Value} {n : Nat} {ys : List Str} {x : Str} {u : Tok} {b : Bool} {Q : Value → Shared → Prop}
    (N : News h₀ L s.heap news) (hm : (a, tupO vs n) ∈ news) (hV : StrsAre vs ys) (hb : ys.any (· == x) = b) (h : Q (.bool b) s) : wpAny (model prog w) A (compareOp .In (.str x u) (.ref a)) Q E s :=
  in_tuple_strs (News.isTup N hm) hV (by rw [hb]; exact h)
theorem word_con {P : Int} {t3 tb : Tok} {g : Obj → List (Addr × Obj)} {wd : List Nat} {d : Nat} {l : List Nat} {vs : List Value} {n : Nat} {ys : List Str} {b : Bool} (hg : Slot dS g) (hS : SlotIn (aS, instObj 228 dS) g) (hW : SlotIn (aW, tupO vs n) g) (hV : StrsAre vs ys) (hb : ys.any (· == ⟨wd.toArray⟩) = b)
    (hl : At S P (wd ++ d :: l)) (hc : ∀ c ∈ wd, isL c = true ∨ isD c = true) (hd1 : isL d = false) (hd2 : isD d = false) :
    Con w mean mg mb (.ref 169) [.ref aS, .int P tb] 10 90 (g (scanD w S aE aW k1 k2 k3 k4 t1 P t3)) (fun r news' => TokPost w S aE aW k1 k2 k3 k4 t1 g (if b then ⟨wd.toArray⟩ else Str.ofString "ident") (if b then Str.ofString "" else ⟨wd.toArray⟩) (d :: l) r news') := by
  w_top off
  have hcut : CutAt S P wd (d :: l) := ⟨hl, by simp⟩
  unfold Con
  k_fill
  intro dp un gd cn cs a ccd cl outer A₀ base h₀ L m s Q E B F X N T hk hd hu hret
  refine wpAny_call ?_
  k_dflt (refine' code_def ?k1 ?k2 ?k3 ?k4 ?k5 ?kA ?kF ?kK ?k6 ?k7 ?k8 ?k9 ?kB ?_ ?c2 ?c3 ?c4 ?c5; (case kA => exact rfl); (case kF => exact rfl); (case kK => assumption); (case k1 => k_asm); (case k2 => k_asm); (case k3 => k_asm); (case k4 => k_asm); (case k5 => k_asm); (case k6 => k_is); (case k7 => k_is); (case k8 => ktr_room); (case k9 => first | exact BindsTo.of_eq rfl | exact binds_K (by k_in) rfl (by k_is) rfl rfl rfl); (case c5 => decide); (case kB => exact locs rfl); (case c2 => exact rfl); (case c3 => exact rfl); (case c4 => exact rfl); k_whole; intro g' L' h' FG' F' N' B' X' T'; (try dsimp only); (try refine norm_A ?_); (try refine tok_gen fun tk0 => ?_); (try k_fold))
  ((try k_fold); repeat' (first | (k_unfold; (try dsimp only)) | ((with_reducible show wpAny _ _ (exec (Stmt.While _ _ _ _) _) _ _ _); (k_dflt (refine loop_start ?_))) | walk1 | (dsimp only; walk1) | (leave1; (try dsimp only)) | fail "no step"))
  refine loop_ind (s₀ := s) (I := fun (i : List Nat) h => Ex3 fun m P' t' => And8 (Fr g' L' h m) (m (Str.ofString "self") = some (.ref aS)) (m (Str.ofString "begun") = some (.int P tb)) (m (Str.ofString "end") = some (.int P' t')) (News g' L' h (g (scanD w S aE aW k1 k2 k3 k4 t1 P t3))) (At S P' (i ++ d :: l)) ((∀ c ∈ i, isL c = true ∨ isD c = true)) (P' + (i.length : Int) = P + (wd.length : Int))) (fun i => i.length) ?hE ?turn wd _ _ ⟨_, _, _, (by k_asm), rfl, rfl, rfl, (by k_asm), hl, hc, rfl⟩
  case hE => first | passes_own | with_unfolding_all passes_own
  case turn =>
    clear hl hc
    intro Again i h tk ⟨m, P', t', F1, hself, hbeg, hend, N1, hA, hc, hP⟩ IH
    have F2 := fr_three F1 hself hbeg hend
    clear F1
    cases i with
    | nil =>
      simp only [List.nil_append] at hA
      simp only [List.length_nil] at hP
      ((try k_fold); repeat' (first | (k_unfold; (try dsimp only)) | ((with_reducible show wpAny _ _ (compareOp CmpOp.In (Value.str _ _) (Value.ref _)) _ _ _); (k_dflt (refine' in_words ?zzN ?zzm ?zzv ?zzb ?_; (case zzN => k_asm); (case zzm => k_mem); (case zzv => assumption); (case zzb => assumption)))) | ((with_reducible show wpAny _ _ (subscriptTail _ (Expr.Slice (some _) (some _) none _) (Value.str _ _) (Value.ref _)) _ _ _); (refine' sign_at (s := ⟨_, _, _, _, _⟩) ?zzkF ?zzkN ?zzkA ?zzki ?zzkj ?_ ?zzks ?zzkt; (case zzkF => k_asm); (case zzkN => k_asm); (case zzkA => assumption); (case zzki => omega); (case zzkj => omega); (case zzks => with_unfolding_all rfl); (case zzkt => (intro _; with_unfolding_all rfl)); intro h' t' tk' F' N'; (try k_sweep))) | ((with_reducible show wpAny _ _ (subscriptTail _ (Expr.Slice (some _) (some _) none _) (Value.str _ _) (Value.ref _)) _ _ _); (refine' cut_at (s := ⟨_, _, _, _, _⟩) ?zzkF ?zzkN ?zzkA ?zzki ?zzkj ?_ ?zzks ?zzkt; (case zzkF => k_asm); (case zzkN => k_asm); (case zzkA => assumption); (case zzki => omega); (case zzkj => omega); (case zzks => with_unfolding_all rfl); (case zzkt => (intro _; with_unfolding_all rfl)); intro h' t' tk' F' N'; (try k_sweep))) | ((with_reducible show wpAny _ _ (call (Value.ref 105) _) _ _ _); k_dflt (refine' con_use (isd_con ?zzhb) ?zzkB ?zzkF ?zzkX ?zzkN ?zzkT ?zzkK ?zzks ?zzkd ?zzku ?_; (case zzkB => k_asm); (case zzkF => k_asm); (case zzkX => k_asm); (case zzkN => k_asm); (case zzkT => k_asm); (case zzkK => exact rfl); (case zzks => exact fun _ h => h); (case zzhb => first | assumption | exact rfl); (case zzkd => ktr_room); (case zzku => ktr_units); intro r9 news9 h9 tk9 F9 N9 p9; obtain ⟨e9, n9⟩ := p9; subst e9 n9; (try dsimp only); (try k_sweep))) | ((with_reducible show wpAny _ _ (call (Value.ref 98) _) _ _ _); k_dflt (refine' con_use (isl_con ?zzhb) ?zzkB ?zzkF ?zzkX ?zzkN ?zzkT ?zzkK ?zzks ?zzkd ?zzku ?_; (case zzkB => k_asm); (case zzkF => k_asm); (case zzkX => k_asm); (case zzkN => k_asm); (case zzkT => k_asm); (case zzkK => exact rfl); (case zzks => exact fun _ h => h); (case zzhb => first | assumption | exact rfl); (case zzkd => ktr_room); (case zzku => ktr_units); intro r9 news9 h9 tk9 F9 N9 p9; obtain ⟨e9, n9⟩ := p9; subst e9 n9; (try dsimp only); (try k_sweep))) | walk1 | (dsimp only; walk1) | (leave1; (try dsimp only)) | fail "no step"))
      all_goals first
        | (have e9 : b = true := by assumption
           subst e9
           exact hret _ _ _ _ (by k_asm) (by k_asm) ⟨_, _, _, _, _, _, _, _, _, _, rfl, rfl, hA, by assumption, fun o => slot_lt hg o (ktn_ltOf (by assumption))⟩)
        | (have e9 : b = false := by assumption
           subst e9
           exact hret _ _ _ _ (by k_asm) (by k_asm) ⟨_, _, _, _, _, _, _, _, _, _, rfl, rfl, hA, by assumption, fun o => slot_lt hg o (ktn_ltOf (by assumption))⟩)
    | cons c i =>
      rw [List.cons_append] at hA
      cases hL : isL c with
      | true =>
        ((try k_fold); repeat' (first | (k_unfold; (try dsimp only)) | ((with_reducible show wpAny _ _ (subscriptTail _ (Expr.Slice (some _) (some _) none _) (Value.str _ _) (Value.ref _)) _ _ _); (refine' sign_at (s := ⟨_, _, _, _, _⟩) ?zzkF ?zzkN ?zzkA ?zzki ?zzkj ?_ ?zzks ?zzkt; (case zzkF => k_asm); (case zzkN => k_asm); (case zzkA => assumption); (case zzki => omega); (case zzkj => omega); (case zzks => with_unfolding_all rfl); (case zzkt => (intro _; with_unfolding_all rfl)); intro h' t' tk' F' N'; (try k_sweep))) | ((with_reducible show wpAny _ _ (call (Value.ref 98) _) _ _ _); k_dflt (refine' con_use (isl_con ?zzhb) ?zzkB ?zzkF ?zzkX ?zzkN ?zzkT ?zzkK ?zzks ?zzkd ?zzku ?_; (case zzkB => k_asm); (case zzkF => k_asm); (case zzkX => k_asm); (case zzkN => k_asm); (case zzkT => k_asm); (case zzkK => exact rfl); (case zzks => exact fun _ h => h); (case zzhb => first | assumption | exact rfl); (case zzkd => ktr_room); (case zzku => ktr_units); intro r9 news9 h9 tk9 F9 N9 p9; obtain ⟨e9, n9⟩ := p9; subst e9 n9; (try dsimp only); (try k_sweep))) | ((with_reducible show LPost _ _ _ _); (dsimp only [LPost])) | walk1 | (dsimp only; walk1) | (leave1; (try dsimp only)) | fail "no step"))
        exact IH _ _ _ (Nat.lt_succ_self _) ⟨_, _, _, by k_asm, rfl, rfl, rfl, by k_asm, hA.one, fun x hx => hc x (.tail _ hx), by rw [List.length_cons] at hP; omega⟩
      | false =>
        have hD := (hc c (.head _)).resolve_left (by rw [hL]; exact Bool.false_ne_true)
        ((try k_fold); repeat' (first | (k_unfold; (try dsimp only)) | ((with_reducible show wpAny _ _ (subscriptTail _ (Expr.Slice (some _) (some _) none _) (Value.str _ _) (Value.ref _)) _ _ _); (refine' sign_at (s := ⟨_, _, _, _, _⟩) ?zzkF ?zzkN ?zzkA ?zzki ?zzkj ?_ ?zzks ?zzkt; (case zzkF => k_asm); (case zzkN => k_asm); (case zzkA => assumption); (case zzki => omega); (case zzkj => omega); (case zzks => with_unfolding_all rfl); (case zzkt => (intro _; with_unfolding_all rfl)); intro h' t' tk' F' N'; (try k_sweep))) | ((with_reducible show wpAny _ _ (call (Value.ref 105) _) _ _ _); k_dflt (refine' con_use (isd_con ?zzhb) ?zzkB ?zzkF ?zzkX ?zzkN ?zzkT ?zzkK ?zzks ?zzkd ?zzku ?_; (case zzkB => k_asm); (case zzkF => k_asm); (case zzkX => k_asm); (case zzkN => k_asm); (case zzkT => k_asm); (case zzkK => exact rfl); (case zzks => exact fun _ h => h); (case zzhb => first | assumption | exact rfl); (case zzkd => ktr_room); (case zzku => ktr_units); intro r9 news9 h9 tk9 F9 N9 p9; obtain ⟨e9, n9⟩ := p9; subst e9 n9; (try dsimp only); (try k_sweep))) | ((with_reducible show wpAny _ _ (call (Value.ref 98) _) _ _ _); k_dflt (refine' con_use (isl_con ?zzhb) ?zzkB ?zzkF ?zzkX ?zzkN ?zzkT ?zzkK ?zzks ?zzkd ?zzku ?_; (case zzkB => k_asm); (case zzkF => k_asm); (case zzkX => k_asm); (case zzkN => k_asm); (case zzkT => k_asm); (case zzkK => exact rfl); (case zzks => exact fun _ h => h); (case zzhb => first | assumption | exact rfl); (case zzkd => ktr_room); (case zzku => ktr_units); intro r9 news9 h9 tk9 F9 N9 p9; obtain ⟨e9, n9⟩ := p9; subst e9 n9; (try dsimp only); (try k_sweep))) | ((with_reducible show LPost _ _ _ _); (dsimp only [LPost])) | walk1 | (dsimp only; walk1) | (leave1; (try dsimp only)) | fail "no step"))
        exact IH _ _ _ (Nat.lt_succ_self _) ⟨_, _, _, by k_asm, rfl, rfl, rfl, by k_asm, hA.one, fun x hx => hc x (.tail _ hx), by rw [List.length_cons] at hP; omega⟩
end
section
theorem con_useU {w : World} {mean : ExcName → Option Value} {mg mb : Str → Option Value} {h₀ : Heap} {L : Addr} {news : List (Addr × Obj)} {f : Value} {args : List Value} {dN uN : Nat} {d : Addr} {o : Obj} {g : Obj → List (Addr × Obj)} {Post : Value → List (Addr × Obj) → Prop} (U : UpdF d o news g) (C : Con w mean mg mb f args dN uN (g o) Post)
    {dp un : Nat} {gd : Option (List Code)} {cn : Str} {cs : Scope} {a : Addr} {ccd : Value} {cl : List (Str × Addr)} {outer : List Env} {A₀ : Around} {base : Heap} {m : Str → Option Value} {s : Shared} {Q E : Value → Shared → Prop}
    (B : Below A₀ base outer h₀) (F : Fr h₀ L s.heap m) (X : (frag.heap_1 w.params).In h₀) (N : News h₀ L s.heap news) (T : Top vq (looseW vq []) mean mg mb h₀) (hk : cs.kind = .function)
    (hd : dp + dN < recursionLimit) (hu : un + uN < cLine)
    (ret : ∀ r news' h' tk', Fr h₀ L h' m → News h₀ L h' news' → Post r news' → Q r { s with heap := h', toks := tk' }) :
    wpAny (model PySem.Challenge.rw_pb0352_01.row.prog w) (ktrTop dp un gd cn cs L a ccd cl outer) (call f args) Q E s :=
  con_use C B F X N T hk (fun p hp => by rw [updF_self U]; exact hp) hd hu ret
/-- a name, no keyword -/
def Wd (ys : List Str) (wd : List Nat) : Prop := ∃ c cs, wd = c :: cs ∧ isL c = true ∧ (∀ x ∈ wd, isL x = true ∨ isD x = true) ∧ ys.any (· == ⟨wd.toArray⟩) = false
def Fin1 (d : Nat) : Prop := isL d = false ∧ isD d = false
/-- behind the first name wd0 of a row's item: to the module nm and the sign c behind it -/
inductive Tail1 (ys : List Str) (wd0 : Str) (l0 : List Nat) (nm : Str) (c d : Nat) (l : List Nat) : Prop
  | plain : nm = wd0 → Skips l0 (c :: d :: l) → Tail1 ys wd0 l0 nm c d l
  | alias {r2 wd2 r3 : List Nat} {d2 : Nat} : Skips l0 (58 :: 61 :: r2) → Wd ys wd2 → nm = ⟨wd2.toArray⟩ → Fin1 d2 → Skips r2 (wd2 ++ d2 :: r3) → Skips (d2 :: r3) (c :: d :: l) → Tail1 ys wd0 l0 nm c d l
/-- one imported module of a row, to the sign c behind it -/
inductive Item (ys : List Str) (l0 : List Nat) (nm : Str) (c d : Nat) (l : List Nat) : Prop
  | mk {wd r1 : List Nat} {d1 : Nat} : Wd ys wd → Fin1 d1 → Skips l0 (wd ++ d1 :: r1) → Tail1 ys ⟨wd.toArray⟩ (d1 :: r1) nm c d l → Item ys l0 nm c d l
/-- a row of imported modules -/
inductive Rows (ys : List Str) : List Nat → List Str → Prop
  | last {l0 l : List Nat} {nm : Str} {d : Nat} : Item ys l0 nm 59 d l → Rows ys l0 [nm]
  | more {l0 l : List Nat} {nm : Str} {d : Nat} {nms : List Str} : Item ys l0 nm 44 d l → Rows ys (d :: l) nms → Rows ys l0 (nm :: nms)
theorem Rows.step {ys : List Str} {l0 : List Nat} {nms : List Str} (h : Rows ys l0 nms) : ∃ nm rest c d l, nms = nm :: rest ∧ Item ys l0 nm c d l ∧ (c = 59 ∧ rest = [] ∨ c = 44 ∧ Rows ys (d :: l) rest) := by
  cases h with
  | last h => exact ⟨_, _, _, _, _, rfl, h, .inl ⟨rfl, rfl⟩⟩
  | more h r => exact ⟨_, _, _, _, _, rfl, h, .inr ⟨rfl, r⟩⟩
theorem Wd.ne {ys : List Str} {wd : List Nat} (h : Wd ys wd) : (⟨wd.toArray⟩ : Str) ≠ Str.ofString "" := by
  obtain ⟨c, cs, rfl, _⟩ := h
  intro e
  have e2 := congrArg (fun z : Str => z.cps.toList) e
  simp only [show (Str.ofString "").cps.toList = [] from by decide +kernel] at e2
  cases e2
theorem Tail1.ne {ys : List Str} {wd0 nm : Str} {l0 l : List Nat} {c d : Nat} (h0 : wd0 ≠ Str.ofString "") (h : Tail1 ys wd0 l0 nm c d l) : nm ≠ Str.ofString "" := by
  cases h with
  | plain e _ => rw [e]; exact h0
  | alias _ hw e _ _ _ => rw [e]; exact hw.ne
def ImpPost (w : World) (S : Str) (aE aW : Addr) (k1 k2 k3 k4 t1 : Tok) (g : Obj → List (Addr × Obj)) (nm kind : Str) (l : List Nat) (r : Value) (news' : List (Addr × Obj)) : Prop :=
  Ex12 fun aR aT dT j1 j2 j3 t0 tk1 vv pv P' t' => And6 (r = .ref aR) (news' = (aR, tupO [.str nm t0, .ref aT] 0) :: (aT, instObj 80 dT) :: (dT, tokD w j1 j2 j3 (.str kind tk1) vv pv) :: g (scanD w S aE aW k1 k2 k3 k4 t1 P' t')) (At S P' l) (dT < aT) (aT < aR) (∀ o, ∀ q ∈ g o, q.1 < dT)
theorem sub3 {α : Type} {a b c : α} {l : List α} (x : List α) : ∀ p ∈ a :: b :: c :: l, p ∈ a :: b :: c :: (x ++ l) := by
  intro p hp
  rcases List.mem_cons.mp hp with rfl | hp
  · exact .head _
  · refine .tail _ ?_
    rcases List.mem_cons.mp hp with rfl | hp
    · exact .head _
    · refine .tail _ ?_
      rcases List.mem_cons.mp hp with rfl | hp
      · exact .head _
      · exact .tail _ (List.mem_append.mpr (.inr hp))
theorem absorb {w : World} {S : Str} {aS dS aE aW : Addr} {k1 k2 k3 k4 t1 t3 : Tok} {P : Int} {vs : List Value} {n : Nat} {ys : List Str} {h₀ h : Heap} {L : Addr} {news rest : List (Addr × Obj)} {g : Obj → List (Addr × Obj)} {G : Prop}
    (N : News h₀ L h news) (U : UpdF dS (scanD w S aE aW k1 k2 k3 k4 t1 P t3) news g) (hS : ∀ o, (aS, instObj 228 dS) ∈ g o) (hW : ∀ o, (aW, tupO vs n) ∈ g o) (hV : StrsAre vs ys) (hsub : ∀ o, ∀ q ∈ rest, q ∈ g o)
    (k : ∀ (g : Obj → List (Addr × Obj)) (vs : List Value) (n : Nat) (k1 k2 k3 k4 t3 : Tok), Slot dS g → SlotIn (aS, instObj 228 dS) g → SlotIn (aW, tupO vs n) g → StrsAre vs ys → (∀ o, ∀ q ∈ rest, q ∈ g o) → News h₀ L h (g (scanD w S aE aW k1 k2 k3 k4 t1 P t3)) → G) : G :=
  k g vs n k1 k2 k3 k4 t3 (updF_again U) hS hW hV hsub (updF_self U ▸ N)
theorem sub3r {α : Type} {a b c : α} {r l : List α} (h : ∀ p ∈ r, p ∈ l) : ∀ p ∈ a :: b :: c :: r, p ∈ a :: b :: c :: l := by
  intro p hp
  rcases List.mem_cons.mp hp with rfl | hp
  · exact .head _
  · refine .tail _ ?_
    rcases List.mem_cons.mp hp with rfl | hp
    · exact .head _
    · refine .tail _ ?_
      rcases List.mem_cons.mp hp with rfl | hp
      · exact .head _
      · exact .tail _ (h p hp)
end
section
theorem loopify {α : Type} {M : Model} {A : Around} {t : Sem α} {Q : α → Shared → Prop} {E : Value → Shared → Prop} {s : Shared} (h : Loop (wpAny M A t Q E s)) : wpAny M A t Q E s := h
section
variable {prog : Program} {w : World} {A : Around} {E : Value → Shared → Prop} {s : Shared} {env : Env} {h₀ : Heap} {x : Str} {body : List Stmt} {Q : Flow → Shared → Prop}
/-- a loop over a list of the ledger: J says what holds of the frame and the ledger ahead of turn i -/
theorem for_list {l : Addr} {its : Array Value} {n : Nat} {m₀ : Str → Option Value} {news : List (Addr × Obj)} (J : Nat → (Str → Option Value) → List (Addr × Obj) → Prop)
    (hh : A.handled = none) (F : Fr h₀ env.locals s.heap m₀) (N : News h₀ env.locals s.heap news) (hJl : ∀ i m₁ news₁, J i m₁ news₁ → (l, listOf its n) ∈ news₁) (h0 : J 0 m₀ news)
    (turn : ∀ (Again : Shared → Prop) i v m₁ news₁ h tk I oI, its[i]? = some v → J i m₁ news₁ → (∀ p ∈ news, p.1 < I) → (∀ p ∈ news₁, p.1 ≠ I) → Fr h₀ env.locals h (fun y => if y = x then some v else m₁ y) → News h₀ env.locals h ((I, oI) :: news₁) →
      (∀ h' tk' m' nx, Fr h₀ env.locals h' m' → News h₀ env.locals h' ((I, oI) :: nx) → (∀ p ∈ nx, p.1 ≠ I) → J (i + 1) m' nx → Again { s with heap := h', toks := tk' }) →
      wpAny (model prog w) A (execs body env) (LPost Again Q) E { s with heap := h, toks := tk })
    (done : ∀ m₁ news₁ h tk, J its.size m₁ news₁ → Fr h₀ env.locals h m₁ → News h₀ env.locals h news₁ → Q .next { s with heap := h, toks := tk }) :
    wpAny (model prog w) A (pyIter (.ref l)) (fun it s₂ => LoopAtV prog w A h₀ env x body Q E it s₂) E s := by
  have hm := hJl _ _ _ h0
  have hls : s.heap.IsList l its := News.isList N hm
  have hlt : l < s.heap.objs.size := Heap.lt_size (N _ hm).1
  have hne : l ≠ s.heap.objs.size := Nat.ne_of_lt hlt
  refine wpAny_pyIter_list hls ?_
  have W := Walks.list (prog := prog) (w := w) hh s.heap.objs.size l hne its
  refine ⟨_, _, _, its.size, _, _, m₀, news, J, rfl, W, ?_, ?_, ?_, ⟨⟨_, Heap.get?_push_size _ rfl, rfl, rfl⟩, hls.at fun o e => Heap.get?_push_of_some _ e⟩, F.push _, (fun p hp => ⟨Heap.get?_push_of_some _ (N p hp).1, (N p hp).2⟩), h0, ?_, ?_⟩
  · intro hm'
    rcases List.mem_cons.mp hm' with e | hm'
    · exact absurd F.ns.lt (e ▸ Nat.lt_irrefl _)
    · exact (N _ hm).2.1 (List.mem_singleton.mp hm').symm
  · intro b hb
    rw [List.mem_singleton.mp hb]
    exact next_is_new F
  · intro p hp hI
    exact absurd (Heap.lt_size (N p hp).1) ((List.mem_singleton.mp hI) ▸ Nat.lt_irrefl _)
  · rintro i v m₁ news₁ s₁ own ⟨hh', tk', rfl⟩ hin hP hJ hoff hown hget hall hst F₁ N₁
    obtain ⟨⟨oI, hoI, _⟩, hl2⟩ := hst
    have hIown : (s.heap.objs.size, oI) ∈ own := hall _ (List.mem_cons_self ..) (next_is_new F) oI hoI
    have N₂ : News h₀ env.locals hh' ((s.heap.objs.size, oI) :: news₁) := by
      intro p hp
      rcases List.mem_cons.mp hp with rfl | hp
      · exact N₁ _ (List.mem_append.mpr (.inl hIown))
      · exact N₁ _ (List.mem_append.mpr (.inr hp))
    refine wpAny_mono (turn (fun s₂ => LoopStepU h₀ env.locals [s.heap.objs.size] own (J (i + 1)) { s with heap := hh', toks := tk' } .next s₂) i v m₁ news₁ hh' tk' _ oI hP hJ (fun p hp => Heap.lt_size (N p hp).1)
      (fun p hp e => hoff p hp (by rw [e]; exact List.mem_cons_self ..)) F₁ N₂ fun h' tk m' nx F' N' ha hj => ?_) (fun f s₂ p => ?_) fun _ _ e => e
    · refine ⟨rfl, h', tk, m', nx, rfl, F', fun p hp => ?_, fun p hp hq => ha p hp (List.mem_singleton.mp hq), hj⟩
      rcases List.mem_append.mp hp with hp | hp
      · rcases List.mem_cons.mp (hown p hp) with e | e
        · have e1 : p = (s.heap.objs.size, oI) := by
            have := hget p hp
            rw [e] at this
            have e2 : hh'.get? s.heap.objs.size = some oI := hoI
            have e3 : some oI = some p.2 := e2.symm.trans this
            exact Prod.ext e (Option.some.inj e3).symm
          exact e1 ▸ N' _ (.head _)
        · have e' := List.mem_singleton.mp e
          have e4 := N₁ p (List.mem_append.mpr (.inl hp))
          have e5 := N' _ (.tail _ (hJl _ _ _ hj))
          have e6 := N₁ _ (List.mem_append.mpr (.inr (hJl _ _ _ hJ)))
          refine ⟨?_, e4.2⟩
          have e7 := hget p hp
          rw [e'] at e7 ⊢
          exact e5.1.trans (e6.1.symm.trans e7)
      · exact N' _ (.tail _ hp)
    · cases f with
      | ret v => exact .ret p
      | brk => exact .brk p
      | next => exact .next p
      | cont => exact .cont p
  · rintro h' tk m' news' F' N' _ hJ
    exact done m' news' h' tk hJ F' N'
end
section
variable {prog : Program} {w : World} {A : Around} {E : Value → Shared → Prop} {s : Shared} {h₀ : Heap} {L a : Addr} {news : List (Addr × Obj)} {its : Array Value} {n : Nat} {ys : List Str} {x : Str} {u : Tok} {Q : Value → Shared → Prop}
theorem in_listS (N : News h₀ L s.heap news) (hm : (a, listOf its n) ∈ news) (hV : StrsAre its.toList ys) (h : Q (.bool (ys.any (· == x))) s) : wpAny (model prog w) A (compareOp .In (.str x u) (.ref a)) Q E s :=
  in_list_strs (News.isList N hm) hV h
theorem notin_listS (N : News h₀ L s.heap news) (hm : (a, listOf its n) ∈ news) (hV : StrsAre its.toList ys) (h : Q (.bool (!(ys.any (· == x)))) s) : wpAny (model prog w) A (compareOp .NotIn (.str x u) (.ref a)) Q E s :=
  notin_list_strs (News.isList N hm) hV h
end
theorem strs_get {vs : List Value} {ss : List Str} (h : StrsAre vs ss) : ∀ {i : Nat} {v : Value}, vs[i]? = some v → ∃ x t, ss[i]? = some x ∧ v = .str x t := by
  induction h with
  | nil => intro i v e; simp at e
  | cons y t _ ih =>
    intro i v e
    cases i with
    | zero => simp only [List.getElem?_cons_zero, Option.some.injEq] at e; exact ⟨y, t, by simp, e.symm⟩
    | succ i => simp only [List.getElem?_cons_succ] at e ⊢; exact ih e
theorem strs_getA {its : Array Value} {ss : List Str} (h : StrsAre its.toList ss) {i : Nat} {v : Value} (e : its[i]? = some v) : ∃ x t, ss[i]? = some x ∧ v = .str x t := strs_get h (by rw [Array.getElem?_toList]; exact e)
theorem strs_size {its : Array Value} {ss : List Str} (h : StrsAre its.toList ss) : its.size = ss.length := by
  rw [← Array.length_toList]
  have : ∀ {vs : List Value} {ss : List Str}, StrsAre vs ss → vs.length = ss.length := by
    intro vs ss h
    induction h with
    | nil => rfl
    | cons y t _ ih => simp only [List.length_cons, ih]
  exact this h
theorem take_snoc {α : Type} {l : List α} {i : Nat} {x : α} (h : l[i]? = some x) : l.take (i + 1) = l.take i ++ [x] := by
  rw [List.take_add_one, h]; rfl
end
section
section
variable {prog : Program} {w : World} {A : Around} {E : Value → Shared → Prop} {s : Shared} {h₀ : Heap} {L : Addr} {m : Str → Option Value} {news : List (Addr × Obj)}
/-- sorting a list of texts in place -/
theorem sort_strs {D : Addr} {vs : List Value} {n : Nat} {ss : List Str} {Q : Value → Shared → Prop} (F : Fr h₀ L s.heap m) (N : News h₀ L s.heap ((D, listOf vs.toArray n) :: news)) (hlt : ∀ p ∈ news, p.1 < D) (hS : StrsAre vs ss) (h64 : vs.length < 64)
    (h : ∀ (h' : Heap) (its : Array Value) (ss' : List Str) (e : Nat), Fr h₀ L h' m → News h₀ L h' ((D, listOf its e) :: news) → StrsAre its.toList ss' → ss'.Perm ss → PyProof.Rows.sortedS ss' = true → Q .none { s with heap := h' }) :
    wpAny (model prog w) A (call (.builtin "list.sort") [.ref D]) Q E s := by
  have z := N (D, listOf vs.toArray n) (.head _)
  have hD : D < s.heap.objs.size := Heap.lt_size z.1
  refine wpAny_call_entry PyProof.Rows.slot_list_sort ⟨_, z.1, rfl⟩ PyProof.Rows.entry_list_sort (list_sort_treeK strKind_oneLt (n := n) (vs := vs) z.1 hS.keysOf (fun v₁ v₂ rest e => keyKind_strs (by rw [← e]; exact hS)) h64 fun st' hp hs => ⟨.none, rfl, ?_⟩) (PyProof.Rows.args_list_sort _)
  obtain ⟨ss', h1, h2, h3⟩ := sorted_out_str hS hp hs
  obtain ⟨e, he⟩ := sortedHeap_at (out := (arrOf st').map (·.2)) z.1
  have old : ∀ b o, b ≠ D → s.heap.get? b = some o → (sortedHeap s.heap D vs ((arrOf st').map (·.2))).get? b = some o := fun b o hb ho => (sortedHeap_old hb (Heap.lt_size ho)).trans ho
  have F' : Fr h₀ L (sortedHeap s.heap D vs ((arrOf st').map (·.2))) m := by
    obtain ⟨oL, a1, a2, hL, a3⟩ := F.ns
    refine ⟨⟨oL, a1, a2, old _ _ (fun e => z.2.1 e.symm) hL, a3⟩, fun b o hb => old b o (fun e => ?_) (F.keep b o hb), F.above⟩
    have := z.2.2
    rw [← e] at this
    rw [hb] at this
    cases this
  refine h _ _ ss' e F' (fun p hp' => ?_) h1 h2 h3
  rcases List.mem_cons.mp hp' with rfl | hp'
  · exact ⟨he, z.2⟩
  · have y := N p (.tail _ hp')
    exact ⟨old _ _ (Nat.ne_of_lt (hlt p hp')) y.1, y.2⟩
end
theorem ltCps_asymm_eq {a b : List Nat} (h1 : ¬ a < b) (h2 : ¬ b < a) : a = b := by
  exact List.le_antisymm (List.not_lt.mp h2) (List.not_lt.mp h1)
theorem sortedS_pair : ∀ {l : List Str}, PyProof.Rows.sortedS l = true → l.Pairwise (fun a b => ¬ b.cps.toList < a.cps.toList) := by
  have key : ∀ (l : List Str) (p : Str), risingS p l = true → (p :: l).Pairwise (fun a b => ¬ b.cps.toList < a.cps.toList) := by
    intro l
    induction l with
    | nil => intro p _; simp
    | cons x r ih =>
      intro p h
      have h' : (!ltCps x.cps.toList p.cps.toList && risingS x r) = true := h
      rw [Bool.and_eq_true] at h'
      have hx : ¬ x.cps.toList < p.cps.toList := by
        have := h'.1
        rw [ltCps_eq] at this
        simpa using this
      have hr := ih x h'.2
      refine List.pairwise_cons.mpr ⟨fun y hy => ?_, hr⟩
      rcases List.mem_cons.mp hy with rfl | hy
      · exact hx
      · have h3 := (List.pairwise_cons.mp hr).1 y hy
        intro h4
        have h5 : p.cps.toList ≤ x.cps.toList := List.not_lt.mp hx
        have h6 : x.cps.toList ≤ y.cps.toList := List.not_lt.mp h3
        exact absurd h4 (List.not_lt.mpr (List.le_trans h5 h6))
  intro l h
  cases l with
  | nil => exact .nil
  | cons x r => exact key r x h
theorem sortedS_uniq {a b : List Str} (hp : a.Perm b) (ha : PyProof.Rows.sortedS a = true) (hb : PyProof.Rows.sortedS b = true) : a = b :=
  hp.eq_of_pairwise (fun x y _ _ h1 h2 => by
    have := ltCps_asymm_eq h2 h1
    cases x; cases y
    simp only [Str.mk.injEq]
    exact Array.toList_inj.mp this) (sortedS_pair ha) (sortedS_pair hb)
section
variable {w : World} {A : Around} {E : Value → Shared → Prop} {s : Shared} {h₀ : Heap} {L : Addr} {m : Str → Option Value} {news : List (Addr × Obj)} {prog : Program}
theorem strs_of_keys : ∀ {vs : List Value} {kvs : List (Str × Value)}, vs.length = kvs.length → (∀ (j : Nat) (v : Value), vs[j]? = some v → ∃ k x, kvs[j]? = some (k, x) ∧ (strKind prog w).is k v = true) → StrsAre vs (kvs.map (·.1))
  | [], [], _, _ => .nil
  | v :: vs, (k, x) :: kvs, hl, h => by
    obtain ⟨k', x', e1, e2⟩ := h 0 v rfl
    cases e1
    cases v with
    | str y t =>
      obtain rfl : y = k := by
        have h' : Value.isStrOf k (.str y t) = true := e2
        simpa [Value.isStrOf] using h'
      exact .cons y t (strs_of_keys (by simpa using hl) fun j v' e => h (j + 1) v' e)
    | _ => exact absurd e2 (by intro q; cases q)
/-- sorted of a dict with texts for keys, its keys rising already -/
theorem sorted_dictS {d : Addr} {o : Obj} {kvs : List (Str × Value)} {Q : Value → Shared → Prop} (hh : A.handled = none) (F : Fr h₀ L s.heap m) (N : News h₀ L s.heap news) (hm : (d, o) ∈ news) (hD : o.IsDictOf (strKind prog w) kvs) (lo : (d == sysModules) = false)
    (hs : PyProof.Rows.sortedS (kvs.map (·.1)) = true) (h64 : kvs.length < 64)
    (h : ∀ D its e h' tk, Fr h₀ L h' m → News h₀ L h' ((D, listOf its e) :: news) → (∀ p ∈ news, p.1 < D) → StrsAre its.toList (kvs.map (·.1)) → Q (.ref D) { s with heap := h', toks := tk }) :
    wpAny (model prog w) A (call (.builtin "sorted") [.ref d]) Q E s := by
  obtain ⟨ep, hat⟩ := (kda_dict (knd := strKind prog w) N hm hD).dictAt
  refine kdu_sorted (kdl_dict (knd := strKind prog w) (kvs := kvs) (ep := ep) lo) hh F N hat (kdl_size (by omega)) fun D h' tk vs F' N' l1 hl hv => ?_
  have hS := strs_of_keys hl hv
  refine sort_strs (s := { s with heap := h', toks := tk }) F' N' l1 hS (by rw [hl]; exact h64) fun h2 its ss' e F2 N2 hS2 hp hs2 => ?_
  have := sortedS_uniq hp hs2 hs
  subst this
  exact h D its e h2 tk F2 N2 l1 hS2
end
end
section
open PyProof.Rows.LCg
section
variable {prog : Program} {w : World} {A : Around} {E : Value → Shared → Prop} {s : Shared} {h₀ : Heap} {L : Addr} {m : Str → Option Value} {env : Env}
/-- the tests of a comprehension's clause -/
abbrev tests (ifs : List PySem.Expr) (cenv : Env) : Sem Bool := forIn ifs true fun c r => if r = true then do let ok ← isTrue c cenv (eval c cenv); pure (ForInStep.yield ok) else pure (ForInStep.yield r)
theorem comp_block {elt iter : PySem.Expr} {x : Str} {px : Pos} {ifs : List PySem.Expr} {scope : Scope} {cl : List (Str × Addr)} {pos : Pos} {l : Addr} {its : Array Value} {n : Nat} {news : List (Addr × Obj)} (J : Nat → List Value → List (Addr × Obj) → Prop) {RR : Value → Addr → Result → Shared → Prop}
    (hh : A.handled = none) (hcell : ∀ y ∈ scope.names, y.2 ≠ .cell) (hkind : scope.kind = .function) (hx : scope.names.lookup x = some .local)
    (F : Fr h₀ L s.heap m) (N : News h₀ L s.heap news) (hJl : ∀ i ys nx, J i ys nx → (l, listOf its n) ∈ nx) (h0 : J 0 [] news) (hsz : its.size ≤ sizeLine)
    (turn : ∀ (Take : Value → Shared → Prop) (Skip : Shared → Prop) i v ys nx h tk I oI C oC D m₂ (E' : Value → Shared → Prop), its[i]? = some v → J i ys nx → (∀ p ∈ news, p.1 < I) → NsObj oC m₂ → m₂ x = some v → Fr h₀ L h m → News h₀ L h ((I, oI) :: (C, oC) :: (D, lst ys) :: nx) → Off3 I C D nx →
      (∀ h' tk' nx', Fr h₀ L h' m → News h₀ L h' ((I, oI) :: (C, oC) :: (D, lst ys) :: nx') → Off3 I C D nx' → J (i + 1) ys nx' → Skip { s with heap := h', toks := tk' }) →
      (∀ y h' tk' nx', Fr h₀ L h' m → News h₀ L h' ((I, oI) :: (C, oC) :: (D, lst ys) :: nx') → Off3 I C D nx' → J (i + 1) (ys ++ [y]) nx' → Take y { s with heap := h', toks := tk' }) →
      wpAny (model prog w) A (tests ifs (compEnvC scope cl C env)) (fun ok s₃ => if ok = true then wpAny (model prog w) A (eval elt (compEnvC scope cl C env)) (fun y s₄ => Loop (Take y s₄)) E' s₃ else Loop (Skip s₃)) E' { s with heap := h, toks := tk })
    (done : ∀ D C h tk m' ys nx, J its.size ys nx → (∀ p ∈ news, p.1 < D) → Fr h₀ L h m → News h₀ L h ((D, lst ys) :: nx) → (∀ p ∈ nx, p.1 ≠ D ∧ p.1 ≠ C) → h.Ns C m' → h₀.get? C = none → h₀.get? D = none → C ≠ L → D ≠ L → C ≠ D → RR (.ref D) C (.ok .next) { s with heap := h, toks := tk }) :
    wpAny (model prog w) A (pyIter (.ref l)) (fun it s₂ => wpAny (model prog w) A (newList []) (fun acc s₃ => wpAny (model prog w) A (newFunctionEnv scope env.globals cl [] env.qual none .none (some env)) (fun cenv s₄ =>
      codeAny (model prog w) A (.compStart (.ListComp elt [⟨.Name x px, iter, ifs, 0⟩] scope pos) 0 it acc { cenv with scope := relabel scope env }) (RR acc cenv.locals) s₄) E s₃) E s₂) E s := by
  have hm := hJl _ _ _ h0
  have hls : s.heap.IsList l its := News.isList N hm
  have hlt : l < s.heap.objs.size := Heap.lt_size (N _ hm).1
  have hlL : l ≠ L := (N _ hm).2.1
  refine wpAny_pyIter_list hls ?_
  have W := Walks.list (prog := prog) (w := w) hh s.heap.objs.size l (Nat.ne_of_lt hlt) its
  -- three new objects: the iterator, the list, the frame of names
  generalize hI : s.heap.objs.size = I at W ⊢
  generalize hH1 : s.heap.push { cls := .type "list_iterator", data := .fields #[.ref l, .int 0 0] } = H1
  have sH1 : H1.objs.size = I + 1 := by rw [← hH1, Heap.size_push, hI]
  have up1 : ∀ b o, s.heap.get? b = some o → H1.get? b = some o := fun b o e => hH1 ▸ Heap.get?_push_of_some _ e
  have atI : H1.get? I = some { cls := .type "list_iterator", data := .fields #[.ref l, .int 0 0] } := by rw [← hH1, ← hI]; exact Heap.get?_push_size _ rfl
  refine wpAny_newObj_type (wpAny_newFunctionEnv hcell (by intro y hy; simp at hy) (fun h₁ hns₁ hsb₁ => ?_) hkind)
  dsimp only at hns₁ hsb₁ ⊢
  generalize hD : H1.objs.size = D at hns₁ hsb₁ ⊢
  generalize hH2 : H1.push { cls := .type "list", dict := none, data := .seq ([] : List Value).toArray } = H2 at hns₁ hsb₁ ⊢
  generalize hC : H2.objs.size = C at hns₁ hsb₁ ⊢
  have eD : D = I + 1 := by rw [← hD, sH1]
  have eC : C = I + 2 := by rw [← hC, ← hH2, Heap.size_push, sH1]
  have nDC : D ≠ C := by rw [eD, eC]; exact Nat.ne_of_lt (Nat.lt_succ_self _)
  have nID : I ≠ D := by rw [eD]; exact Nat.ne_of_lt (Nat.lt_succ_self _)
  have nIC : I ≠ C := by rw [eC]; exact Nat.ne_of_lt (Nat.lt_succ_of_lt (Nat.lt_succ_self _))
  have small : ∀ b o, s.heap.get? b = some o → b < I := fun b o e => hI ▸ Heap.lt_size e
  have apart : ∀ b, b < I → b ≠ I ∧ b ≠ C ∧ b ≠ D := fun b hb => ⟨Nat.ne_of_lt hb, by rw [eC]; exact Nat.ne_of_lt (Nat.lt_succ_of_lt (Nat.lt_succ_of_lt hb)), by rw [eD]; exact Nat.ne_of_lt (Nat.lt_succ_of_lt hb)⟩
  have up2 : ∀ b o, H1.get? b = some o → H2.get? b = some o := fun b o e => hH2 ▸ Heap.get?_push_of_some _ e
  have old : ∀ b o, s.heap.get? b = some o → h₁.get? b = some o := fun b o e => hsb₁.extBut b o (apart b (small b o e)).2.1 (Heap.get?_push_of_some _ (up2 _ _ (up1 _ _ e)))
  have oldI : h₁.get? I = some { cls := .type "list_iterator", data := .fields #[.ref l, .int 0 0] } := hsb₁.extBut I _ nIC (Heap.get?_push_of_some _ (up2 _ _ atI))
  have atD : H2.get? D = some (lst []) := by rw [← hH2, ← hD]; exact Heap.get?_push_size _ rfl
  have oldD : h₁.get? D = some (lst []) := hsb₁.extBut D _ nDC (Heap.get?_push_of_some _ atD)
  have none₀ : ∀ a, I ≤ a → h₀.get? a = none := fun a ha => by
    cases e : h₀.get? a with
    | none => rfl
    | some o' => exact absurd (small a o' (F.keep a o' e)) (Nat.not_lt.mpr ha)
  have hI₀ := none₀ I (Nat.le_refl _)
  have hD₀ := none₀ D (by rw [eD]; exact Nat.le_succ _)
  have hC₀ := none₀ C (by rw [eC]; exact Nat.le_add_right _ _)
  have ltL : L < I := hI ▸ F.ns.lt
  have nLI : L ≠ I := (apart L ltL).1
  have nLC : L ≠ C := (apart L ltL).2.1
  have nLD : L ≠ D := (apart L ltL).2.2
  have hst₁ : h₁.IsListIter I l 0 ∧ h₁.IsList l its := ⟨⟨_, oldI, rfl, rfl⟩, hls.at fun o e => old l o e⟩
  have newsI : ∀ p ∈ news, p.1 < I := fun p hp => small _ _ (N p hp).1
  have off₀ : Off3 I C D news := Off3.of fun p hp => ⟨(apart _ (newsI p hp)).1, (apart _ (newsI p hp)).2.1, (apart _ (newsI p hp)).2.2⟩
  have hln : l < I := newsI _ hm
  have loop : ∀ s₃ : Shared, s₃ = { s with heap := h₁, toks := s.toks + ([] : List (Str × Value)).length } →
      codeAny (model prog w) A (.compLoop (.ListComp elt [⟨.Name x px, iter, ifs, 0⟩] scope pos) 0 (.ref I) (.ref D) (compEnvC scope cl C env)) (RR (.ref D) C) s₃ := by
    rintro s₃ rfl
    refine codeAny_compLoop_tests
      (fun k s' => ∃ h' tk i ys m' nx, s' = { s with heap := h', toks := tk } ∧ i ≤ its.size ∧ k = its.size + 1 - i ∧ ys.length ≤ i ∧ h'.IsListIter I l i ∧ Fr h₀ L h' m ∧ h'.Ns C m' ∧ News h₀ L h' ((D, lst ys) :: nx) ∧ Off3 I C D nx ∧ J i ys nx) ?_ (its.size + 1)
      ⟨h₁, _, 0, [], _, news, rfl, Nat.zero_le _, rfl, Nat.le_refl _, hst₁.1, F.keeps old, hns₁, fun p hp => ?_, off₀, h0⟩
    · rintro k s' ⟨h', tk, i, ys, m', nx, rfl, hi, rfl, hyl, hit, F', hn', N', off', hJ⟩
      have offm := off'.mem
      have hl' : h'.IsList l its := News.isList N' (.tail _ (hJl _ _ _ hJ))
      by_cases hlt' : i < its.size
      · refine W.item i _ _ _ hlt' ⟨hit, hl'⟩ fun v h₂ tk₂ hPv hst₂ hk₂ => ?_
        refine wpAny_assign_Name (wpAny_storeName_local (lookup_relabel_local hx) (hn'.at' fun o e => hk₂ _ o (by simpa using Ne.symm nIC) e) (fun h₃ hn₃ hs₃ => ?_) (by simp [compEnvC, relabel, hkind]))
        obtain ⟨oI, heI2, hrI⟩ := hst₂.1
        have heI : h₃.get? I = some oI := hs₃.extBut I _ nIC heI2
        obtain ⟨oC, heC, hoC⟩ := ns_obj hn₃
        have F₃ : Fr h₀ L h₃ m := (fr_but F' hk₂ nLI hI₀).change hs₃ (Ne.symm nLC) hC₀
        have N₂ : News h₀ L h₂ ((D, lst ys) :: nx) := news_but N' hk₂ fun p hp => by
          rcases List.mem_cons.mp hp with rfl | hp
          · exact Ne.symm nID
          · exact (offm p hp).1
        have N₃ : News h₀ L h₃ ((I, oI) :: (C, oC) :: (D, lst ys) :: nx) := fun p hp => by
          rcases List.mem_cons.mp hp with rfl | hp
          · exact ⟨heI, Ne.symm nLI, hI₀⟩
          · rcases List.mem_cons.mp hp with rfl | hp
            · exact ⟨heC, Ne.symm nLC, hC₀⟩
            · have z := N₂ p hp
              refine ⟨hs₃.extBut _ _ ?_ z.1, z.2⟩
              rcases List.mem_cons.mp hp with rfl | hp
              · exact nDC
              · exact (offm p hp).2.1
        refine wpAny_mono (turn (fun y s₄ => wpAny (model prog w) A (call (.builtin "list.append") [.ref D, y]) (fun _ s₅ => ∃ k, k < its.size + 1 - i ∧ ∃ (h' : Heap) (tk : Nat) (i : Nat) (ys : List Value) (m' : Str → Option Value) (nx : List (Addr × Obj)), s₅ = { s with heap := h', toks := tk } ∧ i ≤ its.size ∧ k = its.size + 1 - i ∧ ys.length ≤ i ∧ h'.IsListIter I l i ∧ Fr h₀ L h' m ∧ h'.Ns C m' ∧ News h₀ L h' ((D, lst ys) :: nx) ∧ Off3 I C D nx ∧ J i ys nx) (notedBy (model prog w) A (compEnvC scope cl C env) fun e s' => RR (.ref D) C (.error e) s') s₄)
            (fun s₃ => ∃ k, k < its.size + 1 - i ∧ ∃ (h' : Heap) (tk : Nat) (i : Nat) (ys : List Value) (m' : Str → Option Value) (nx : List (Addr × Obj)), s₃ = { s with heap := h', toks := tk } ∧ i ≤ its.size ∧ k = its.size + 1 - i ∧ ys.length ≤ i ∧ h'.IsListIter I l i ∧ Fr h₀ L h' m ∧ h'.Ns C m' ∧ News h₀ L h' ((D, lst ys) :: nx) ∧ Off3 I C D nx ∧ J i ys nx)
            i v ys nx h₃ _ I oI C oC D _ _ hPv hJ newsI hoC (by simp) F₃ N₃ off' (fun h₄ tk₄ nx₄ F₄ N₄ off₄ hJ₄ => ?_) (fun y h₄ tk₄ nx₄ F₄ N₄ off₄ hJ₄ => ?_)) (fun ok s₄ h₄ => h₄) fun _ _ e => e
        · have zI := (N₄ (I, oI) (.head _)).1
          have zC := (N₄ (C, oC) (.tail _ (.head _))).1
          exact ⟨its.size + 1 - (i + 1), by omega, h₄, tk₄, i + 1, ys, _, nx₄, rfl, hlt', rfl, Nat.le_succ_of_le hyl, ⟨oI, zI, hrI⟩, F₄, hoC.ns zC, fun p hp => N₄ p (.tail _ (.tail _ hp)), off₄, hJ₄⟩
        · have zI := (N₄ (I, oI) (.head _)).1
          have zC := (N₄ (C, oC) (.tail _ (.head _))).1
          have zD := (N₄ (D, lst ys) (.tail _ (.tail _ (.head _)))).1
          have off4 := off₄.mem
          refine append_at (hsz := by show ys.toArray.size ≤ sizeLine; rw [List.size_toArray]; exact Nat.le_trans hyl (Nat.le_trans hi hsz)) zD fun h₅ hs₅ hD₅ => ?_
          refine ⟨its.size + 1 - (i + 1), by omega, h₅, tk₄, i + 1, ys ++ [y], _, nx₄, rfl, hlt', rfl, by rw [List.length_append, List.length_singleton]; omega, ⟨oI, hs₅.extBut _ _ nID zI, hrI⟩, F₄.change hs₅ (Ne.symm nLD) hD₀,
            (hoC.ns zC).sameBut hs₅ (Ne.symm nDC), fun p hp => ?_, off₄, hJ₄⟩
          rcases List.mem_cons.mp hp with rfl | hp
          · exact ⟨hD₅.trans (congrArg some (lst_snoc ys y)), Ne.symm nLD, hD₀⟩
          · have z := N₄ p (.tail _ (.tail _ (.tail _ hp)))
            exact ⟨hs₅.extBut _ _ (off4 p hp).2.2 z.1, z.2⟩
      · obtain rfl : i = its.size := Nat.le_antisymm hi (Nat.not_lt.mp hlt')
        refine W.done _ _ _ ⟨hit, hl'⟩ fun h₂ tk₂ hk₂ => ?_
        exact done D C h₂ tk₂ _ ys nx hJ (fun p hp => Nat.lt_of_lt_of_le (newsI p hp) (by rw [eD]; exact Nat.le_succ _)) (fr_but F' hk₂ nLI hI₀) (news_but N' hk₂ fun p hp => by
          rcases List.mem_cons.mp hp with rfl | hp
          · exact Ne.symm nID
          · exact (offm p hp).1) (fun p hp => ⟨(offm p hp).2.2, (offm p hp).2.1⟩) (hn'.at' fun o e => hk₂ _ o (by simpa using Ne.symm nIC) e) hC₀ hD₀ (Ne.symm nLC) (Ne.symm nLD) (Ne.symm nDC)
    · rcases List.mem_cons.mp hp with rfl | hp
      · exact ⟨oldD, Ne.symm nLD, hD₀⟩
      · exact ⟨old _ _ (N p hp).1, (N p hp).2⟩
  exact codeAny_compStart_list (loop _ rfl) (W.self 0 _ _ _ hst₁ (loop _ rfl))
end
end
section
open PyProof.Rows.LCg
section
variable {prog : Program} {w : World} {A : Around} {E : Value → Shared → Prop} {s : Shared} {h₀ : Heap} {L : Addr} {m : Str → Option Value} {env : Env}
/-- a stop: the comprehension ahead of its iterator -/
def CompL (prog : Program) (w : World) (A : Around) (E : Value → Shared → Prop) (env : Env) (elt : PySem.Expr) (x : Str) (px : Pos) (iter : PySem.Expr) (ifs : List PySem.Expr) (scope : Scope) (cl : List (Str × Addr)) (pos : Pos) (use : Option (Value → Sem Unit)) (Q : Value → Shared → Prop) (xv : Value) (s₁ : Shared) : Prop :=
  wpAny (model prog w) A (pyIter xv) (fun it s₂ => wpAny (model prog w) A (newList []) (fun acc s₃ => wpAny (model prog w) A (newFunctionEnv scope env.globals cl [] env.qual none .none (some env)) (fun cenv s₄ =>
      codeAny (model prog w) A (.compStart (.ListComp elt [⟨.Name x px, iter, ifs, 0⟩] scope pos) 0 it acc { cenv with scope := relabel scope env }) (compPost (model prog w) A E use Q acc cenv.locals) s₄) E s₃) E s₂) E s₁
theorem ListComp_L {elt iter : PySem.Expr} {x : Str} {px : Pos} {ifs : List PySem.Expr} {scope : Scope} {cl : List (Str × Addr)} {pos : Pos} {Q : Value → Shared → Prop}
    (hclos : closureFor scope env = pure cl) (hkind : scope.kind = .function) (hnames : ∀ y ∈ scope.names, y.2 = .local → scope.names.lookup y.1 = some .local)
    (h : wpAny (model prog w) A (eval iter env) (fun xv s₁ => CompL prog w A E env elt x px iter ifs scope cl pos none Q xv s₁) E s)
    (hs : ∀ x, foldedSetIterable iter env x = pure x := by intro _; rfl) :
    wpAny (model prog w) A (eval (.ListComp elt [⟨.Name x px, iter, ifs, 0⟩] scope pos) env) Q E s := by
  rw [eval_ListComp]
  exact wpAny_comprehension_free (use := none) rfl hs hclos hkind hnames h
theorem Assign_ListComp_L {elt iter : PySem.Expr} {x y : Str} {px py : Pos} {ifs : List PySem.Expr} {scope : Scope} {cl : List (Str × Addr)} {pos spos : Pos} {Q : Flow → Shared → Prop}
    (hsw : swapsWith (.ListComp elt [⟨.Name x px, iter, ifs, 0⟩] scope pos) (some (.Name y py)) spos.line env = pure true)
    (hclos : closureFor scope env = pure cl) (hkind : scope.kind = .function) (hnames : ∀ z ∈ scope.names, z.2 = .local → scope.names.lookup z.1 = some .local)
    (h : wpAny (model prog w) A (eval iter env) (fun xv s₁ => CompL prog w A E env elt x px iter ifs scope cl pos (some (assign (.Name y py) env)) (fun _ s' => Q .next s') xv s₁) E s)
    (hs : ∀ x, foldedSetIterable iter env x = pure x := by intro _; rfl) :
    wpAny (model prog w) A (exec (.Assign [.Name y py] (.ListComp elt [⟨.Name x px, iter, ifs, 0⟩] scope pos) spos) env) Q E s := by
  rw [exec_Assign_Name_used _ _ _ _ hsw]
  refine wpAny_bind (wpAny_standAt (wpAny_bind ?_))
  show wpAny _ A (do let _ ← comprehension (.ListComp elt [⟨.Name x px, iter, ifs, 0⟩] scope pos) scope env _ (newList []) false (eval iter env) (some (assign (.Name y py) env))) _ _ s
  exact wpAny_bind (wpAny_mono (wpAny_comprehension_free (use := some (assign (.Name y py) env)) (Q := fun _ s' => Q .next s') rfl hs hclos hkind hnames h) (fun _ s' hq => wpAny_pure (wpAny_pure hq)) fun _ _ e => e)
/-- what a turn owes: the tests, the element, and the turn's end -/
def CompTurn (prog : Program) (w : World) (A : Around) (h₀ : Heap) (L : Addr) (m : Str → Option Value) (env : Env) (elt : PySem.Expr) (x : Str) (ifs : List PySem.Expr) (scope : Scope) (cl : List (Str × Addr)) (s : Shared) (news : List (Addr × Obj)) (its : Array Value) (J : Nat → List Value → List (Addr × Obj) → Prop) : Prop :=
  ∀ (Take : Value → Shared → Prop) (Skip : Shared → Prop) i v ys nx h tk I oI C oC D m₂ (E' : Value → Shared → Prop), its[i]? = some v → J i ys nx → (∀ p ∈ news, p.1 < I) → NsObj oC m₂ → m₂ x = some v → Fr h₀ L h m → News h₀ L h ((I, oI) :: (C, oC) :: (D, lst ys) :: nx) → Off3 I C D nx →
      (∀ h' tk' nx', Fr h₀ L h' m → News h₀ L h' ((I, oI) :: (C, oC) :: (D, lst ys) :: nx') → Off3 I C D nx' → J (i + 1) ys nx' → Skip { s with heap := h', toks := tk' }) →
      (∀ y h' tk' nx', Fr h₀ L h' m → News h₀ L h' ((I, oI) :: (C, oC) :: (D, lst ys) :: nx') → Off3 I C D nx' → J (i + 1) (ys ++ [y]) nx' → Take y { s with heap := h', toks := tk' }) →
      wpAny (model prog w) A (tests ifs (compEnvC scope cl C env)) (fun ok s₃ => if ok = true then wpAny (model prog w) A (eval elt (compEnvC scope cl C env)) (fun y s₄ => Loop (Take y s₄)) E' s₃ else Loop (Skip s₃)) E' { s with heap := h, toks := tk }
theorem CompL.list {elt iter : PySem.Expr} {x : Str} {px : Pos} {ifs : List PySem.Expr} {scope : Scope} {cl : List (Str × Addr)} {pos : Pos} {Q : Value → Shared → Prop} {l : Addr} {its : Array Value} {n : Nat} {news : List (Addr × Obj)} (J : Nat → List Value → List (Addr × Obj) → Prop)
    (hh : A.handled = none) (hcell : ∀ y ∈ scope.names, y.2 ≠ .cell) (hkind : scope.kind = .function) (hx : scope.names.lookup x = some .local)
    (F : Fr h₀ L s.heap m) (N : News h₀ L s.heap news) (hJl : ∀ i ys nx, J i ys nx → (l, listOf its n) ∈ nx) (h0 : J 0 [] news) (hsz : its.size ≤ sizeLine)
    (turn : CompTurn prog w A h₀ L m env elt x ifs scope cl s news its J)
    (done : ∀ D h tk ys nx, J its.size ys nx → (∀ p ∈ news, p.1 < D) → Fr h₀ L h m → News h₀ L h ((D, lst ys) :: nx) → (∀ p ∈ nx, p.1 ≠ D) → Q (.ref D) { s with heap := h, toks := tk }) :
    CompL prog w A E env elt x px iter ifs scope cl pos none Q (.ref l) s := by
  refine comp_block (its := its) (n := n) (news := news) J hh hcell hkind hx F N hJl h0 hsz turn fun D C h tk m' ys nx hJ hD F' N' off hn hC₀ hD₀ hCL hDL hCD => ?_
  refine ⟨m', hn, fun h'' hs'' => done D h'' tk ys nx hJ hD (F'.change hs'' hCL hC₀) (fun p hp => ?_) fun p hp => (off p hp).1⟩
  refine ⟨hs''.extBut _ _ ?_ (N' p hp).1, (N' p hp).2⟩
  rcases List.mem_cons.mp hp with rfl | hp
  · exact Ne.symm hCD
  · exact (off p hp).2
theorem CompL.listA {elt iter : PySem.Expr} {x y : Str} {px py : Pos} {ifs : List PySem.Expr} {scope : Scope} {cl : List (Str × Addr)} {pos : Pos} {Q : Value → Shared → Prop} {l : Addr} {its : Array Value} {n : Nat} {news : List (Addr × Obj)} (J : Nat → List Value → List (Addr × Obj) → Prop)
    (hLe : env.locals = L) (hy : env.kindOf y = some .local) (hp : (env.scope.kind == .class || (env.scope.kind == .module && env.locals != env.globals)) = false)
    (hh : A.handled = none) (hcell : ∀ y ∈ scope.names, y.2 ≠ .cell) (hkind : scope.kind = .function) (hx : scope.names.lookup x = some .local)
    (F : Fr h₀ L s.heap m) (N : News h₀ L s.heap news) (hJl : ∀ i ys nx, J i ys nx → (l, listOf its n) ∈ nx) (h0 : J 0 [] news) (hsz : its.size ≤ sizeLine)
    (turn : CompTurn prog w A h₀ L m env elt x ifs scope cl s news its J)
    (done : ∀ D h tk ys nx, J its.size ys nx → (∀ p ∈ news, p.1 < D) → Fr h₀ L h (fun z => if z = y then some (.ref D) else m z) → News h₀ L h ((D, lst ys) :: nx) → (∀ p ∈ nx, p.1 ≠ D) → Q .none { s with heap := h, toks := tk }) :
    CompL prog w A E env elt x px iter ifs scope cl pos (some (assign (.Name y py) env)) Q (.ref l) s := by
  subst hLe
  refine comp_block (its := its) (n := n) (news := news) J hh hcell hkind hx F N hJl h0 hsz turn fun D C h tk m' ys nx hJ hD F' N' off hn hC₀ hD₀ hCL hDL hCD => ?_
  show wpAny _ A (assign (.Name y py) env (.ref D)) _ _ _
  refine wpAny_assign_Name (wpAny_storeName_local hy F'.ns (fun h₂ hn₂ hs₂ => ?_) hp)
  have hL₀ : h₀.get? env.locals = none := Heap.get?_none_of_le F'.above
  have F₂ : Fr h₀ env.locals h₂ (fun z => if z = y then some (.ref D) else m z) := ⟨hn₂, fun b o e => hs₂.extBut b o (fun q => by rw [q, hL₀] at e; cases e) (F'.keep b o e), F'.above⟩
  refine ⟨m', hn.sameBut hs₂ hCL, fun h'' hs'' => done D h'' _ ys nx hJ hD (F₂.change hs'' hCL hC₀) (fun p hp => ?_) fun p hp => (off p hp).1⟩
  have z : h₂.get? p.1 = some p.2 := hs₂.extBut _ _ (N' p hp).2.1 (N' p hp).1
  refine ⟨hs''.extBut _ _ ?_ z, (N' p hp).2⟩
  rcases List.mem_cons.mp hp with rfl | hp
  · exact Ne.symm hCD
  · exact (off p hp).2
end
end
section
/-- what a dict of numbers holds, by key -/
def KeyF (kvs : List (Str × Value)) (f : Str → Option Int) : Prop := ∀ x, (valueAt kvs x = none ∧ f x = none) ∨ ∃ n t, valueAt kvs x = some (.int n t) ∧ f x = some n
def OptV (v : Value) (a : Option Int) : Prop := (v = .none ∧ a = none) ∨ ∃ n t, v = .int n t ∧ a = some n
section
variable {prog : Program} {w : World} {A : Around} {E : Value → Shared → Prop} {s : Shared} {h₀ : Heap} {L d : Addr} {news : List (Addr × Obj)} {o : Obj} {kvs : List (Str × Value)} {f : Str → Option Int} {x : Str} {t : Tok} {Q : Value → Shared → Prop}
theorem get_opt (N : News h₀ L s.heap news) (hp : (d, o) ∈ news) (hd : o.IsDictOf (strKind prog w) kvs) (lo : (d == sysModules) = false) (hf : KeyF kvs f) (h : ∀ u, OptV u (f x) → Q u { s with toks := s.toks + 1 }) :
    wpAny (model prog w) A (call (.builtin "dict.get") [.ref d, .str x t]) Q E s := by
  rcases hf x with ⟨e1, e2⟩ | ⟨n, u, e1, e2⟩
  · exact kdg_get1 (knd := strKind prog w) N hp hd lo (strKind_is _ _ _ _) _ e1 (h _ (.inl ⟨rfl, e2⟩))
  · exact kdg_get1 (knd := strKind prog w) N hp hd lo (strKind_is _ _ _ _) _ e1 (h _ (.inr ⟨n, u, rfl, e2⟩))
theorem get_int (N : News h₀ L s.heap news) (hp : (d, o) ∈ news) (hd : o.IsDictOf (strKind prog w) kvs) (lo : (d == sysModules) = false) (hf : KeyF kvs f) {c : Int} {u : Tok} (h : ∀ n u, n = (f x).getD c → Q (.int n u) { s with toks := s.toks + 1 }) :
    wpAny (model prog w) A (call (.builtin "dict.get") [.ref d, .str x t, .int c u]) Q E s := by
  rcases hf x with ⟨e1, e2⟩ | ⟨n, u, e1, e2⟩
  · exact kdg_get2 (knd := strKind prog w) N hp hd lo (strKind_is _ _ _ _) _ e1 (h _ _ (by rw [e2]; rfl))
  · exact kdg_get2 (knd := strKind prog w) N hp hd lo (strKind_is _ _ _ _) _ e1 (h _ _ (by rw [e2]; rfl))
theorem ne_opt {u v : Value} {a b : Option Int} (hu : OptV u a) (hv : OptV v b) (h : Q (.bool (a != b)) s) : wpAny (model prog w) A (compareOp .NotEq u v) Q E s := by
  rcases hu with ⟨rfl, rfl⟩ | ⟨n, t, rfl, rfl⟩ <;> rcases hv with ⟨rfl, rfl⟩ | ⟨k, t', rfl, rfl⟩
  · exact EqNone.ne_none_none h
  · exact EqNone.ne_none_int h
  · exact EqNone.ne_int_none h
  · refine PyProof.Rows.ne_int ?_
    rw [show (n != k) = ((some n : Option Int) != some k) from rfl]
    exact h
end
end
section
section
variable {prog : Program} {w : World} {A : Around} {E : Value → Shared → Prop} {s : Shared} {h₀ : Heap} {L a : Addr} {news : List (Addr × Obj)} {its : Array Value} {n : Nat} {ss : List Str} {Q : Value → Shared → Prop}
theorem len_listS (N : News h₀ L s.heap news) (hm : (a, listOf its n) ∈ news) (hS : StrsAre its.toList ss) (hz : ss.length < 100000) (h : ∀ t tk, Q (.int ss.length t) { s with toks := tk }) : wpAny (model prog w) A (call (.builtin "len") [.ref a]) Q E s := by
  have e := strs_size hS
  refine call_len_list (News.isList N hm) (by rw [e]; omega) ?_
  rw [e]
  exact h _ _
end
end
section
section
variable {prog : Program} {w : World} {A : Around} {E : Value → Shared → Prop} {s : Shared} {env : Env} {h₀ : Heap} {x : Str} {body : List Stmt} {Q : Flow → Shared → Prop}
/-- a loop over range(n): J says what holds of the frame and the ledger ahead of turn i -/
theorem for_range {r : Addr} {b : Int} {t₀ u₀ v₀ : Tok} {n : Nat} {m₀ : Str → Option Value} {news : List (Addr × Obj)} (J : Nat → (Str → Option Value) → List (Addr × Obj) → Prop)
    (hh : A.handled = none) (hr : IsRange s.heap r 0 b 1 t₀ u₀ v₀) (hb : b = (n : Int)) (hnn : n ≤ 1000) (F : Fr h₀ env.locals s.heap m₀) (N : News h₀ env.locals s.heap news) (h0 : J 0 m₀ news)
    (turn : ∀ (Again : Shared → Prop) i t m₁ news₁ h tk I oI, i < n → J i m₁ news₁ → (∀ p ∈ news, p.1 < I) → (∀ p ∈ news₁, p.1 ≠ I) → Fr h₀ env.locals h (fun y => if y = x then some (.int (i : Int) t) else m₁ y) → News h₀ env.locals h ((I, oI) :: news₁) →
      (∀ h' tk' m' nx, Fr h₀ env.locals h' m' → News h₀ env.locals h' ((I, oI) :: nx) → (∀ p ∈ nx, p.1 ≠ I) → J (i + 1) m' nx → Again { s with heap := h', toks := tk' }) →
      wpAny (model prog w) A (execs body env) (LPost Again Q) E { s with heap := h, toks := tk })
    (done : ∀ m₁ news₁ h tk, J n m₁ news₁ → Fr h₀ env.locals h m₁ → News h₀ env.locals h news₁ → Q .next { s with heap := h, toks := tk }) :
    wpAny (model prog w) A (pyIter (.ref r)) (fun it s₂ => LoopAtV prog w A h₀ env x body Q E it s₂) E s := by
  subst hb
  have hsz : Builtin.Range.rangeSize 0 (n : Int) 1 = (n : Int) := by
    unfold Builtin.Range.rangeSize
    rw [if_pos Int.one_pos]
    split
    · rw [Int.sub_zero, Int.ediv_one]; omega
    · omega
  have hsmall : Builtin.Range.small 0 (n : Int) 1 = true := by
    unfold Builtin.Range.small
    rw [hsz, if_pos Int.one_pos]
    have h1 : Builtin.Range.rangeFitsLong (n : Int) = true := by
      unfold Builtin.Range.rangeFitsLong
      simp only [Bool.and_eq_true, decide_eq_true_eq]
      omega
    have h2 : Builtin.Range.rangeFitsLong ((n : Int) + (1 - 1)) = true := by rw [Int.sub_self, Int.add_zero]; exact h1
    rw [h1, h2, Bool.or_true]
    decide
  refine wpAny_pyIter_range hr hsmall ?_
  have W : Walks prog w A s.heap.objs.size [s.heap.objs.size] [s.heap.objs.size] n (fun i v => i < n ∧ ∃ t, v = .int (0 + i * 1) t)
      (fun i h => IsRangeIter h s.heap.objs.size (0 + (i : Nat) * 1) ((n : Int) - (i : Nat)) 1) := (Walks.range hh _ 0 1 n).bound
  refine ⟨_, _, _, n, _, _, m₀, news, J, rfl, W, ?_, ?_, ?_, (by show IsRangeIter _ _ _ _ _; rw [hsz]; simpa using Heap.get?_push_size _ rfl), F.push _, (fun p hp => ⟨Heap.get?_push_of_some _ (N p hp).1, (N p hp).2⟩), h0, ?_, ?_⟩
  · intro hm'
    exact absurd F.ns.lt ((List.mem_singleton.mp hm') ▸ Nat.lt_irrefl _)
  · intro b hb
    rw [List.mem_singleton.mp hb]
    exact next_is_new F
  · intro p hp hI
    exact absurd (Heap.lt_size (N p hp).1) ((List.mem_singleton.mp hI) ▸ Nat.lt_irrefl _)
  · rintro i v m₁ news₁ s₁ own ⟨hh', tk', rfl⟩ hin ⟨_, t, rfl⟩ hJ hoff hown hget hall hst F₁ N₁
    have hst' : IsRangeIter hh' s.heap.objs.size (0 + ((i + 1 : Nat) : Nat) * 1) ((n : Int) - ((i + 1 : Nat) : Nat)) 1 := hst
    generalize hoI : ({ cls := .type "range_iterator", dict := none, data := .fields #[rawInt (0 + ((i + 1 : Nat) : Nat) * 1), rawInt ((n : Int) - ((i + 1 : Nat) : Nat)), rawInt 1], slots := #[] } : Obj) = oI
    have hIg : hh'.get? s.heap.objs.size = some oI := by rw [← hoI]; exact hst'
    have hIown : (s.heap.objs.size, oI) ∈ own := hall _ (List.mem_cons_self ..) (next_is_new F) oI hIg
    have N₂ : News h₀ env.locals hh' ((s.heap.objs.size, oI) :: news₁) := by
      intro p hp
      rcases List.mem_cons.mp hp with rfl | hp
      · exact N₁ _ (List.mem_append.mpr (.inl hIown))
      · exact N₁ _ (List.mem_append.mpr (.inr hp))
    have e1 : (0 : Int) + (i : Int) * 1 = (i : Int) := by omega
    rw [e1] at F₁
    refine wpAny_mono (turn (fun s₂ => LoopStepU h₀ env.locals [s.heap.objs.size] own (J (i + 1)) { s with heap := hh', toks := tk' } .next s₂) i t m₁ news₁ hh' tk' _ oI hin hJ (fun p hp => Heap.lt_size (N p hp).1)
      (fun p hp e => hoff p hp (by rw [e]; exact List.mem_cons_self ..)) F₁ N₂ fun h' tk m' nx F' N' ha hj => ?_) (fun f s₂ p => ?_) fun _ _ e => e
    · refine ⟨rfl, h', tk, m', nx, rfl, F', fun p hp => ?_, fun p hp hq => ha p hp (List.mem_singleton.mp hq), hj⟩
      rcases List.mem_append.mp hp with hp | hp
      · have e := List.mem_singleton.mp (hown p hp)
        have e1 : p = (s.heap.objs.size, oI) := by
          have := hget p hp
          rw [e] at this
          have e3 : some oI = some p.2 := hIg.symm.trans this
          exact Prod.ext e (Option.some.inj e3).symm
        exact e1 ▸ N' _ (.head _)
      · exact N' _ (.tail _ hp)
    · cases f with
      | ret v => exact .ret p
      | brk => exact .brk p
      | next => exact .next p
      | cont => exact .cont p
  · rintro h' tk m' news' F' N' _ hJ
    exact done m' news' h' tk hJ F' N'
end
end
section
open PyProof.Rows.LCg
theorem strs_range {ss ts : List Str} (h : ss.length = ts.length) : ((List.range ss.length).all fun j => ss.getD j Str.empty == ts.getD j Str.empty) = decide (ss = ts) := by
  by_cases e : ss = ts
  · subst e
    rw [decide_eq_true rfl, List.all_eq_true]
    intro j _
    exact beq_self_eq_true _
  · rw [decide_eq_false e, ← Bool.not_eq_true, List.all_eq_true]
    intro hall
    refine e (List.ext_getElem h fun j h1 h2 => ?_)
    have := eq_of_beq (hall j (List.mem_range.mpr h1))
    rwa [List.getD_eq_getElem?_getD, List.getD_eq_getElem?_getD, List.getElem?_eq_getElem h1, List.getElem?_eq_getElem h2] at this
section
variable {prog : Program} {w : World} {A : Around} {E : Value → Shared → Prop} {s : Shared} {h₀ : Heap} {L a b : Addr} {news : List (Addr × Obj)} {xs ys : Array Value} {n k : Nat} {ss ts : List Str} {Q : Value → Shared → Prop}
theorem strs_eqAt {A : Around} (hi : StrsAre xs.toList ss) (hj : StrsAre ys.toList ts) : ∀ j (h1 : j < xs.size) (h2 : j < ys.size), SeqAt.EqAt A.in1 s xs[j] ys[j] (ss.getD j Str.empty == ts.getD j Str.empty) := by
  intro j h1 h2
  obtain ⟨x, t, e1, e2⟩ := strs_getA hi (Array.getElem?_eq_getElem h1)
  obtain ⟨y, u, e3, e4⟩ := strs_getA hj (Array.getElem?_eq_getElem h2)
  rw [e2, e4, List.getD_eq_getElem?_getD, List.getD_eq_getElem?_getD, e1, e3]
  exact SeqAt.EqAt.str_str _ _ _ _
theorem eq_strsL (N : News h₀ L s.heap news) (ha : (a, listOf xs n) ∈ news) (hb : (b, listOf ys k) ∈ news) (hi : StrsAre xs.toList ss) (hj : StrsAre ys.toList ts) (hu : A.units < cLine) (h : Q (.bool (decide (ss = ts))) s) :
    wpAny (model prog w) A (compareOp .Eq (.ref a) (.ref b)) Q E s := by
  refine cmp_ofEq ?_
  by_cases hz : ss.length = ts.length
  · exact SeqAt.RcAt.lists (News.isList N ha) (News.isList N hb) (by rw [strs_size hi, strs_size hj, hz]) hu (strs_eqAt hi hj) prog w E Q (by rw [strs_size hi, strs_range hz]; exact h)
  · exact SeqAt.RcAt.lists_lengths (News.isList N ha) (News.isList N hb) (by rw [strs_size hi, strs_size hj]; simpa using hz) hu prog w E Q (by rw [decide_eq_false (fun e => hz (congrArg _ e))] at h; exact h)
theorem ne_strsL (N : News h₀ L s.heap news) (ha : (a, listOf xs n) ∈ news) (hb : (b, listOf ys k) ∈ news) (hi : StrsAre xs.toList ss) (hj : StrsAre ys.toList ts) (hu : A.units < cLine) (h : Q (.bool (!decide (ss = ts))) s) :
    wpAny (model prog w) A (compareOp .NotEq (.ref a) (.ref b)) Q E s := by
  refine cmp_ofNotEq ?_
  by_cases hz : ss.length = ts.length
  · exact SeqAt.RcNeAt.lists (News.isList N ha) (News.isList N hb) (by rw [strs_size hi, strs_size hj, hz]) hu (strs_eqAt hi hj) prog w E Q (by rw [strs_size hi, strs_range hz]; exact h)
  · exact SeqAt.RcNeAt.lists_lengths (News.isList N ha) (News.isList N hb) (by rw [strs_size hi, strs_size hj]; simpa using hz) hu prog w E Q (by rw [decide_eq_false (fun e => hz (congrArg _ e))] at h; exact h)
def isFalse : Value → Bool
  | .bool b => b == false
  | _ => false
theorem notin_bools {f : Str → Bool} (N : News h₀ L s.heap news) (ha : (a, lst (ss.map fun y => Value.bool (f y))) ∈ news) (h : Q (.bool (ss.all f)) s) :
    wpAny (model prog w) A (compareOp .NotIn (.bool false) (.ref a)) Q E s := by
  refine SeqAt.notIn_listAt isFalse (News.isList N ha) (fun y hy => ?_) ?_
  · obtain ⟨x, _, rfl⟩ := List.mem_map.mp (List.mem_toArray.mp hy)
    exact SeqAt.EqAt.bool_bool _ _
  · have e : ∀ ss : List Str, (!(ss.map fun y => Value.bool (f y)).any isFalse) = ss.all f := by
      intro ss
      induction ss with
      | nil => rfl
      | cons x r ih => rw [List.map_cons, List.any_cons, List.all_cons, Bool.not_or, ih]; cases f x <;> rfl
    rw [List.any_toArray, e ss]
    exact h
theorem item_strsL {value slice : PySem.Expr} {i : Int} {u : Tok} (N : News h₀ L s.heap news) (ha : (a, listOf xs n) ∈ news) (hi : StrsAre xs.toList ss) (h0 : 0 ≤ i) (h1 : i < ss.length) (hf : ss.length < 100000) (h : ∀ x t, ss[i.toNat]? = some x → Q (.str x t) s)
    (hs : subscripted slice false (.ref a) (.int i u) = operate [.ref a, .int i u] (getItem (.ref a) (.int i u)) := by with_unfolding_all rfl) :
    wpAny (model prog w) A (subscriptTail value slice (.ref a) (.int i u)) Q E s := by
  have hlt : i.toNat < xs.size := by rw [strs_size hi]; omega
  have hx : xs[i.toNat]? = some xs[i.toNat] := Array.getElem?_eq_getElem hlt
  obtain ⟨x, t, e1, e2⟩ := strs_getA hi hx
  exact tail_any (News.isList N ha).typeIs slot_list_getitem.lookup (wpAny_getItem_list (News.isList N ha) h0 (by omega) hx (by rw [e2]; exact h x t e1)) hs
end
end
section
theorem strs_app2 {vs vs' : List Value} {ys ys' : List Str} (h : StrsAre vs ys) (h' : StrsAre vs' ys') : StrsAre (vs ++ vs') (ys ++ ys') := by
  induction h with
  | nil => exact h'
  | cons y t _ ih => exact .cons y t ih
section
variable {prog : Program} {w : World} {A : Around} {E : Value → Shared → Prop} {s : Shared} {h₀ : Heap} {L a b : Addr} {m : Str → Option Value} {news : List (Addr × Obj)} {its its2 : Array Value} {n n2 : Nat} {ss ts : List Str} {Q : Value → Shared → Prop}
theorem slice_strsL {value slice : PySem.Expr} {y : Int} {u : Tok} (F : Fr h₀ L s.heap m) (N : News h₀ L s.heap news) (ha : (a, listOf its n) ∈ news) (hi : StrsAre its.toList ss) (h0 : 0 ≤ y) (hz : ss.length < 100000)
    (h : ∀ D h' its', Fr h₀ L h' m → News h₀ L h' ((D, listOf its' 0) :: news) → (∀ p ∈ news, p.1 < D) → StrsAre its'.toList (ss.take y.toNat) → Q (.ref D) { s with heap := h' })
    (hs : subscripted slice false (.ref a) (.ref s.heap.objs.size) = operate [.ref s.heap.objs.size, .ref a] (getItem (.ref a) (.ref s.heap.objs.size))) :
    wpAny (model prog w) A (subscriptTail value slice (.ref a) (.ref s.heap.objs.size)) Q E { s with heap := s.heap.push { cls := .type "slice", data := .fields #[.none, .int y u, .none] } } := by
  have e : (slicePick its none (some y) none).toList = its.toList.take y.toNat := by
    rw [kms_pick_eq]
    unfold kms_pick kms_lo kms_hi
    simp only [if_neg (show ¬ y < 0 by omega), List.drop_zero, Nat.sub_zero]
    exact kmk_take_min _ _
  have hl := News.isList N ha
  refine tail_any (Heap.IsList.typeIs (s := { s with heap := s.heap.push { cls := .type "slice", data := .fields #[.none, .int y u, .none] } }) (hl.push _)) list_getitem_lookup
    (wpAny_getItem_list_slice (hl.push _) (Heap.IsSliceOf.new ..) .none (.int _ _) .none (by simp) ?_ (by rw [strs_size hi, sizeLine_eq]; omega)) hs
  have N1 := News.push (F.push { cls := .type "slice", data := .fields #[.none, .int y u, .none] }) (N.grown fun _ _ e => Heap.get?_push_of_some _ e) { cls := .type "list", data := .seq (slicePick its none (some y) none) }
  rw [Heap.size_push] at N1
  show Q (.ref (s.heap.push _).objs.size) _
  rw [Heap.size_push]
  refine h _ _ _ ((F.push _).push _) N1 (fun p hp => Nat.lt_succ_of_lt (Heap.lt_size (N p hp).1)) ?_
  rw [e]
  exact hi.take' _
theorem add_strsL (F : Fr h₀ L s.heap m) (N : News h₀ L s.heap news) (ha : (a, listOf its n) ∈ news) (hb : (b, listOf its2 n2) ∈ news) (hi : StrsAre its.toList ss) (hj : StrsAre its2.toList ts) (hz : ss.length < 100000) (hz2 : ts.length < 100000)
    (h : ∀ D h' its', Fr h₀ L h' m → News h₀ L h' ((D, listOf its' 0) :: news) → (∀ p ∈ news, p.1 < D) → StrsAre its'.toList (ss ++ ts) → Q (.ref D) { s with heap := h' }) :
    wpAny (model prog w) A (binaryOp .Add (.ref a) (.ref b)) Q E s := by
  refine add_arrays F N (News.isList N ha) (News.isList N hb) (fun h' F' N' => h _ h' _ F' N' (fun p hp => Heap.lt_size (N p hp).1) ?_) (by rw [strs_size hi, strs_size hj, sizeLine_eq]; omega)
  rw [show ((its.toList ++ its2.toList).toArray).toList = its.toList ++ its2.toList from rfl]
  exact strs_app2 hi hj
/-- a cut ahead of the rest of a block -/
theorem stmt_cut {M : Model} {env : Env} {st : Stmt} {rest : List Stmt} {Q : Flow → Shared → Prop} (R : Shared → Prop)
    (h : wpAny M A (exec st env) (fun f s' => Loop (f = .next ∧ R s')) E s) (k : ∀ s', R s' → wpAny M A (execs rest env) Q E s') : wpAny M A (execs (st :: rest) env) Q E s :=
  wpAny_execs_cons (wpAny_mono h (fun _ s' r => by obtain ⟨rfl, r⟩ := r; exact k s' r) fun _ _ e => e)
theorem any_cut {M : Model} {α : Type} {t : Sem α} {Q : α → Shared → Prop} (R : α → Shared → Prop) (h : wpAny M A t (fun v s' => Loop (R v s')) E s) (k : ∀ v s', R v s' → Q v s') : wpAny M A t Q E s := wpAny_mono h k fun _ _ e => e
end
theorem flow_cut {M : Model} {A : Around} {t : Sem Flow} {Q : Flow → Shared → Prop} {E : Value → Shared → Prop} {s : Shared} (R : Shared → Prop) (h : wpAny M A t (fun f s' => Loop (f = .next ∧ R s')) E s) (k : ∀ s', R s' → Q .next s') : wpAny M A t Q E s :=
  wpAny_mono h (fun _ s' r => by obtain ⟨rfl, r⟩ := r; exact k s' r) fun _ _ e => e
end
section
/-- a frame told by a list of its names, the rest as in m -/
noncomputable def ovr : List (Str × Value) → (Str → Option Value) → Str → Option Value
  | [], m => m
  | p :: r, m => fun y => if y = p.1 then some p.2 else ovr r m y
def Looks (m : Str → Option Value) (l : List (Str × Value)) : Prop := ∀ p ∈ l, m p.1 = some p.2
theorem ovr_self {m : Str → Option Value} : ∀ {l : List (Str × Value)}, Looks m l → ovr l m = m
  | [], _ => rfl
  | p :: r, h => by
    have ih := ovr_self (l := r) (m := m) fun q hq => h q (.tail _ hq)
    funext y
    show (if y = p.1 then some p.2 else ovr r m y) = m y
    rw [ih]
    by_cases e : y = p.1
    · rw [if_pos e, e, h p (.head _)]
    · rw [if_neg e]
section
variable {h₀ h : Heap} {L : Addr} {m : Str → Option Value} {l : List (Str × Value)} {x : Str} {v : Value}
theorem fr_looks (F : Fr h₀ L h m) (hl : Looks m l) : Fr h₀ L h (ovr l m) := by rw [ovr_self hl]; exact F
theorem looks_skip (hl : Looks m l) (hx : (l.map (·.1)).all (fun k => k != x) = true) : Looks (fun y => if y = x then some v else m y) l := fun p hp => by
  have := List.all_eq_true.mp hx p.1 (List.mem_map.mpr ⟨p, hp, rfl⟩)
  show (if p.1 = x then some v else m p.1) = some p.2
  rw [if_neg (fun e => by rw [e] at this; simp at this)]
  exact hl p hp
theorem looks_cons (hv : m x = some v) (hl : Looks m l) : Looks m ((x, v) :: l) := fun p hp => by
  rcases List.mem_cons.mp hp with rfl | hp
  · exact hv
  · exact hl p hp
theorem looks_nil : Looks m [] := fun _ h => by cases h
theorem looks_at (hl : Looks m l) (hx : (l.map (·.1)).all (fun k => k != x) = true) : Looks (fun y => if y = x then some v else m y) ((x, v) :: l) := looks_cons (if_pos rfl) (looks_skip hl hx)
theorem fr_at (F : Fr h₀ L h (fun y => if y = x then some v else m y)) (hl : Looks m l) (hx : (l.map (·.1)).all (fun k => k != x) = true) : Fr h₀ L h (ovr ((x, v) :: l) (fun y => if y = x then some v else m y)) := fr_looks F (looks_at hl hx)
end
end
section
theorem valueAt_of_mem {kvs : List (Str × Value)} {nm : Str} (h : nm ∈ kvs.map (·.1)) : ∃ v, valueAt kvs nm = some v ∧ (nm, v) ∈ kvs := by
  induction kvs with
  | nil => simp at h
  | cons p r ih =>
    obtain ⟨k, u⟩ := p
    by_cases e : k = nm
    · subst e
      exact ⟨u, by simp [valueAt], .head _⟩
    · have h' : nm ∈ r.map (·.1) := by
        rcases List.mem_cons.mp h with h | h
        · exact absurd h.symm e
        · exact h
      obtain ⟨v, h1, h2⟩ := ih h'
      exact ⟨v, by simpa [valueAt, e] using h1, .tail _ h2⟩
theorem valueAt_some {kvs : List (Str × Value)} {nm : Str} : (valueAt kvs nm).isSome = decide (nm ∈ kvs.map (·.1)) := by
  rw [valueAt_isSome_eq_any]
  by_cases h : nm ∈ kvs.map (·.1)
  · rw [decide_eq_true h, List.any_eq_true]
    obtain ⟨p, hp, e⟩ := List.mem_map.mp h
    exact ⟨p, hp, by simp [e]⟩
  · rw [decide_eq_false h, List.any_eq_false]
    intro p hp
    simp only [decide_eq_true_eq]
    intro e
    exact h (List.mem_map.mpr ⟨p, hp, e⟩)
theorem strs_add {ys : List Value} {ss : List Str} {x : Str} {t : Tok} (h : StrsAre ys ss) : StrsAre (ys ++ [.str x t]) (ss ++ [x]) := by
  induction h with
  | nil => exact .cons x t .nil
  | cons y u _ ih => exact .cons y u ih
theorem strs_take {l : List Str} {i : Nat} {x : Str} {t : Tok} {ys : List Value} {p : Str → Bool} (hx : l[i]? = some x) (hp : p x = true) (h : StrsAre ys ((l.take i).filter p)) : StrsAre (ys ++ [.str x t]) ((l.take (i + 1)).filter p) := by
  rw [take_snoc hx, List.filter_append, List.filter_cons_of_pos hp, List.filter_nil]
  exact strs_add h
theorem strs_skip {l : List Str} {i : Nat} {x : Str} {ys : List Value} {p : Str → Bool} (hx : l[i]? = some x) (hp : p x = false) (h : StrsAre ys ((l.take i).filter p)) : StrsAre ys ((l.take (i + 1)).filter p) := by
  rw [take_snoc hx, List.filter_append, List.filter_cons_of_neg (by rw [hp]; decide), List.filter_nil, List.append_nil]
  exact h
theorem strsLen {vs : List Value} {ss : List Str} (h : StrsAre vs ss) : vs.length = ss.length := by
  induction h with
  | nil => rfl
  | cons y t _ ih => simp only [List.length_cons, ih]
end
section
theorem sub_length : ∀ {a b : List Str}, a.Nodup → (∀ x ∈ a, x ∈ b) → a.length ≤ b.length
  | [], _, _, _ => Nat.zero_le _
  | x :: a, b, hn, hs => by
    have h1 := List.nodup_cons.mp hn
    have hx := hs x (.head _)
    have h2 := sub_length (a := a) (b := b.erase x) h1.2 fun y hy => (List.mem_erase_of_ne (fun e : y = x => h1.1 (e ▸ hy))).mpr (hs y (.tail _ hy))
    rw [List.length_erase_of_mem hx] at h2
    have h3 : 0 < b.length := List.length_pos_of_mem hx
    rw [List.length_cons]; omega
/-- may x come next? -/
def canGo (ns : List Str) (rows : Str → List Str) (acc : List Str) (x : Str) : Bool := decide (x ∉ acc) && decide (∀ y ∈ rows x, y ∈ ns → y ∈ acc)
def pickOf (ns : List Str) (rows : Str → List Str) (acc : List Str) : Option Str := ns.find? (canGo ns rows acc)
inductive Picks (ns : List Str) (rows : Str → List Str) : List Str → Prop
  | nil : Picks ns rows []
  | snoc {acc : List Str} {x : Str} : Picks ns rows acc → pickOf ns rows acc = some x → Picks ns rows (acc ++ [x])
theorem Picks.mem {ns : List Str} {rows : Str → List Str} {acc : List Str} (h : Picks ns rows acc) : ∀ x ∈ acc, x ∈ ns := by
  induction h with
  | nil => intro x h; cases h
  | snoc _ hp ih =>
    intro y hy
    rcases List.mem_append.mp hy with hy | hy
    · exact ih y hy
    · rw [List.mem_singleton.mp hy]; exact List.mem_of_find?_eq_some hp
theorem canGo_iff {ns : List Str} {rows : Str → List Str} {acc : List Str} {x : Str} : canGo ns rows acc x = true ↔ x ∉ acc ∧ ∀ y ∈ rows x, y ∈ ns → y ∈ acc := by
  rw [canGo, Bool.and_eq_true, decide_eq_true_eq, decide_eq_true_eq]
theorem Picks.nodup {ns : List Str} {rows : Str → List Str} {acc : List Str} (h : Picks ns rows acc) : acc.Nodup := by
  induction h with
  | nil => exact .nil
  | snoc _ hp ih =>
    refine List.nodup_append.mpr ⟨ih, by simp, fun a ha b hb e => ?_⟩
    rw [List.mem_singleton.mp hb] at e
    subst e
    exact (canGo_iff.mp (List.find?_some hp)).1 ha
theorem Picks.length {ns : List Str} {rows : Str → List Str} {acc : List Str} (h : Picks ns rows acc) : acc.length ≤ ns.length := sub_length h.nodup h.mem
theorem find_at {α : Type} {p : α → Bool} : ∀ {l : List α} {i : Nat} {x : α}, l[i]? = some x → p x = true → (∀ y ∈ l.take i, p y = false) → l.find? p = some x
  | a :: l, 0, x, h, hp, _ => by
    simp only [List.getElem?_cons_zero, Option.some.injEq] at h
    subst h
    rw [List.find?_cons_of_pos hp]
  | a :: l, i + 1, x, h, hp, hn => by
    have ha : p a = false := hn a (.head _)
    rw [List.find?_cons_of_neg (by rw [ha]; decide)]
    exact find_at (by simpa using h) hp fun y hy => hn y (.tail _ hy)
theorem find_none {α : Type} {p : α → Bool} {l : List α} (h : ∀ y ∈ l, p y = false) : l.find? p = none := by
  rw [List.find?_eq_none]
  intro x hx; rw [h x hx]; decide
theorem canGo_t {ns : List Str} {rows : Str → List Str} {acc ss : List Str} {x : Str} {kvs : List (Str × Value)} (hk : kvs.map (·.1) = acc) (hss : ∀ y, y ∈ ss ↔ y ∈ rows x ∧ y ∈ ns) (h1 : (valueAt kvs x).isSome = false) (h2 : (ss.all fun y => (valueAt kvs y).isSome) = true) : canGo ns rows acc x = true := by
  rw [valueAt_some, hk, decide_eq_false_iff_not] at h1
  refine canGo_iff.mpr ⟨h1, fun y hy hn => ?_⟩
  have := List.all_eq_true.mp h2 y ((hss y).mpr ⟨hy, hn⟩)
  rw [valueAt_some, hk, decide_eq_true_eq] at this
  exact this
theorem canGo_f1 {ns : List Str} {rows : Str → List Str} {acc : List Str} {x : Str} {kvs : List (Str × Value)} (hk : kvs.map (·.1) = acc) (h1 : (valueAt kvs x).isSome = true) : canGo ns rows acc x = false := by
  rw [valueAt_some, hk, decide_eq_true_eq] at h1
  rw [canGo, decide_eq_false (fun h => h h1), Bool.false_and]
theorem canGo_f2 {ns : List Str} {rows : Str → List Str} {acc ss : List Str} {x : Str} {kvs : List (Str × Value)} (hk : kvs.map (·.1) = acc) (hss : ∀ y, y ∈ ss ↔ y ∈ rows x ∧ y ∈ ns) (h2 : (ss.all fun y => (valueAt kvs y).isSome) = false) : canGo ns rows acc x = false := by
  cases hc : canGo ns rows acc x with
  | false => rfl
  | true =>
    have h3 := canGo_iff.mp hc
    rw [← h2, eq_comm, List.all_eq_true]
    intro y hy
    have h4 := (hss y).mp hy
    rw [valueAt_some, hk, decide_eq_true_eq]
    exact h3.2 y h4.1 h4.2
theorem stored_new {kvs : List (Str × Value)} {acc : List Str} {x : Str} {v : Value} (hk : kvs.map (·.1) = acc) (h : (valueAt kvs x).isSome = false) : (stored kvs x v).map (·.1) = acc ++ [x] := by
  rw [valueAt_isSome_eq_any] at h
  rw [stored, if_neg (by rw [h]; decide), List.map_append, hk]
  rfl
end
section
variable {w : World} {mean : ExcName → Option Value} {mg mb : Str → Option Value}
variable {S : Str} {aS dS aE aW : Addr} {k1 k2 k3 k4 t1 : Tok}
theorem pairs_no {c d : Nat} (hc : c = 44 ∨ c = 59) : [Str.ofString ":=", Str.ofString "<=", Str.ofString ">=", Str.ofString ".."].any (· == (⟨#[c]⟩ : Str) ++ (⟨#[d]⟩ : Str)) = false := by
  have h (x : String) (n k : Nat) (hx : (Str.ofString x).cps.toList = [n, k]) (hn : n ≠ c) : (Str.ofString x == (⟨#[c]⟩ : Str) ++ (⟨#[d]⟩ : Str)) = false := by
    refine beq_false_of_ne (str_ne_of ?_)
    rw [hx, Str.cps_append, Array.toList_append]
    intro e
    exact hn (List.cons.inj e).1
  simp only [List.any_cons, List.any_nil, Bool.or_false, h ":=" 58 61 (by decide +kernel) (by omega), h "<=" 60 61 (by decide +kernel) (by omega), h ">=" 62 61 (by decide +kernel) (by omega), h ".." 46 46 (by decide +kernel) (by omega)]
theorem in_wordsL {prog : Program} {w : World} {A : Around} {E : Value → Shared → Prop} {s : Shared} {h₀ : Heap} {L a : Addr} {news : List (Addr × Obj)} {vs : List Value} {n : Nat} {ys : List Str} {x : Str} {u : Tok} {b : Bool} {Q : Value → Shared → Prop}
    (N : News h₀ L s.heap news) (hm : (a, { cls := .type "tuple", data := .seq vs.toArray n }) ∈ news) (hV : StrsAre vs ys) (hb : ys.any (· == x) = b) (h : Q (.bool b) s) : wpAny (model prog w) A (compareOp .In (.str x u) (.ref a)) Q E s :=
  in_tuple_strs (News.isTup N hm) hV (by rw [hb]; exact h)
theorem symbol_con {P : Int} {t3 : Tok} {news : List (Addr × Obj)} {c d : Nat} {l : List Nat} (hc : c = 44 ∨ c = 59) (hS : (aS, instObj 228 dS) ∈ news) (hD : (dS, scanD w S aE aW k1 k2 k3 k4 t1 P t3) ∈ news) (hl : At S P (c :: d :: l)) :
    Con w mean mg mb (.ref 225) [.ref aS] 8 60 news (fun r news' => (∃ t, r = .str ⟨#[c]⟩ t) ∧ news' = news) := by
  w_top off
  have hno := pairs_no (d := d) hc
  have hoc : (Builtin.Str.occurrences (Str.ofString "+-*/~&.,;|([{^=#<>:)]}") ⟨#[c]⟩ 0 (Str.ofString "+-*/~&.,;|([{^=#<>:)]}").length 1).isEmpty = false := by
    rcases hc with rfl | rfl <;> decide +kernel
  unfold Con
  k_fill
  intro dp un gd cn cs a ccd cl outer A₀ base h₀ L m s Q E B F X N T hk hd hu hret
  refine wpAny_call ?_
  k_dflt (refine' code_def ?k1 ?k2 ?k3 ?k4 ?k5 ?kA ?kF ?kK ?k6 ?k7 ?k8 ?k9 ?kB ?_ ?c2 ?c3 ?c4 ?c5; (case kA => exact rfl); (case kF => exact rfl); (case kK => assumption); (case k1 => k_asm); (case k2 => k_asm); (case k3 => k_asm); (case k4 => k_asm); (case k5 => k_asm); (case k6 => k_is); (case k7 => k_is); (case k8 => ktr_room); (case k9 => first | exact BindsTo.of_eq rfl | exact binds_K (by k_in) rfl (by k_is) rfl rfl rfl); (case c5 => decide); (case kB => exact locs rfl); (case c2 => exact rfl); (case c3 => exact rfl); (case c4 => exact rfl); k_whole; intro g' L' h' FG' F' N' B' X' T'; (try dsimp only); (try refine norm_A ?_); (try refine tok_gen fun tk0 => ?_); (try k_fold))
  ((try k_fold); repeat' (first | (k_unfold; (try dsimp only)) | ((with_reducible show wpAny _ _ (call (Value.ref 141) _) _ _ _); k_dflt (first | (refine' con_use (char0_con ?zzhS ?zzhD ?zzhl) ?zzkB ?zzkF ?zzkX ?zzkN ?zzkT ?zzkK ?zzks ?zzkd ?zzku ?_; (case zzkB => k_asm); (case zzkF => k_asm); (case zzkX => k_asm); (case zzkN => k_asm); (case zzkT => k_asm); (case zzkK => exact rfl); (case zzks => exact fun _ h => h); (case zzhS => k_mem); (case zzhD => k_mem); (case zzhl => assumption); (case zzkd => ktr_room); (case zzku => ktr_units); intro r9 news9 h9 tk9 F9 N9 p9; obtain ⟨⟨t9, e9⟩, n9⟩ := p9; subst e9 n9; (try dsimp only); (try k_sweep)) | (refine' con_use (char1_con ?zzhS ?zzhD ?zzhl) ?zzkB ?zzkF ?zzkX ?zzkN ?zzkT ?zzkK ?zzks ?zzkd ?zzku ?_; (case zzkB => k_asm); (case zzkF => k_asm); (case zzkX => k_asm); (case zzkN => k_asm); (case zzkT => k_asm); (case zzkK => exact rfl); (case zzks => exact fun _ h => h); (case zzhS => k_mem); (case zzhD => k_mem); (case zzhl => assumption); (case zzkd => ktr_room); (case zzku => ktr_units); intro r9 news9 h9 tk9 F9 N9 p9; obtain ⟨⟨t9, e9⟩, n9⟩ := p9; subst e9 n9; (try dsimp only); (try k_sweep)))) | walk1 | (dsimp only; walk1) | (leave1; (try dsimp only)) | fail "no step"))
  all_goals first
    | exact hret _ _ _ _ (by k_asm) (news_sub (by k_asm) fun p hp => .tail _ hp) ⟨⟨_, rfl⟩, rfl⟩
    | (exfalso; simp_all; done)
theorem symbol2_con {P : Int} {t3 : Tok} {news : List (Addr × Obj)} {l : List Nat} (hS : (aS, instObj 228 dS) ∈ news) (hD : (dS, scanD w S aE aW k1 k2 k3 k4 t1 P t3) ∈ news) (hl : At S P (58 :: 61 :: l)) :
    Con w mean mg mb (.ref 225) [.ref aS] 8 60 news (fun r news' => (∃ t, r = .str (Str.ofString ":=") t) ∧ news' = news) := by
  unfold Con
  k_fill
  intro dp un gd cn cs a ccd cl outer A₀ base h₀ L m s Q E B F X N T hk hd hu hret
  refine wpAny_call ?_
  k_dflt (refine' code_def ?k1 ?k2 ?k3 ?k4 ?k5 ?kA ?kF ?kK ?k6 ?k7 ?k8 ?k9 ?kB ?_ ?c2 ?c3 ?c4 ?c5; (case kA => exact rfl); (case kF => exact rfl); (case kK => assumption); (case k1 => k_asm); (case k2 => k_asm); (case k3 => k_asm); (case k4 => k_asm); (case k5 => k_asm); (case k6 => k_is); (case k7 => k_is); (case k8 => ktr_room); (case k9 => first | exact BindsTo.of_eq rfl | exact binds_K (by k_in) rfl (by k_is) rfl rfl rfl); (case c5 => decide); (case kB => exact locs rfl); (case c2 => exact rfl); (case c3 => exact rfl); (case c4 => exact rfl); k_whole; intro g' L' h' FG' F' N' B' X' T'; (try dsimp only); (try refine norm_A ?_); (try refine tok_gen fun tk0 => ?_); (try k_fold))
  ((try k_fold); repeat' (first | (k_unfold; (try dsimp only)) | ((with_reducible show wpAny _ _ (call (Value.ref 141) _) _ _ _); k_dflt (first | (refine' con_use (char0_con ?zzhS ?zzhD ?zzhl) ?zzkB ?zzkF ?zzkX ?zzkN ?zzkT ?zzkK ?zzks ?zzkd ?zzku ?_; (case zzkB => k_asm); (case zzkF => k_asm); (case zzkX => k_asm); (case zzkN => k_asm); (case zzkT => k_asm); (case zzkK => exact rfl); (case zzks => exact fun _ h => h); (case zzhS => k_mem); (case zzhD => k_mem); (case zzhl => assumption); (case zzkd => ktr_room); (case zzku => ktr_units); intro r9 news9 h9 tk9 F9 N9 p9; obtain ⟨⟨t9, e9⟩, n9⟩ := p9; subst e9 n9; (try dsimp only); (try k_sweep)) | (refine' con_use (char1_con ?zzhS ?zzhD ?zzhl) ?zzkB ?zzkF ?zzkX ?zzkN ?zzkT ?zzkK ?zzks ?zzkd ?zzku ?_; (case zzkB => k_asm); (case zzkF => k_asm); (case zzkX => k_asm); (case zzkN => k_asm); (case zzkT => k_asm); (case zzkK => exact rfl); (case zzks => exact fun _ h => h); (case zzhS => k_mem); (case zzhD => k_mem); (case zzhl => assumption); (case zzkd => ktr_room); (case zzku => ktr_units); intro r9 news9 h9 tk9 F9 N9 p9; obtain ⟨⟨t9, e9⟩, n9⟩ := p9; subst e9 n9; (try dsimp only); (try k_sweep)))) | walk1 | (dsimp only; walk1) | (leave1; (try dsimp only)) | fail "no step"))
  exact hret _ _ _ _ (by k_asm) (news_sub (by k_asm) fun p hp => .tail _ hp) ⟨⟨_, rfl⟩, rfl⟩
end
section
theorem loop_once {prog : Program} {w : World} {A : Around} {E : Value → Shared → Prop} {s : Shared} {env : Env} {test : PySem.Expr} {body orelse : List Stmt} {Q : Flow → Shared → Prop} (hE : PassesOwn (model prog w) A env E)
    (turn : wpAny (model prog w) A (isTrue test env (eval test env)) (fun b s₂ => WhlIf b (wpAny (model prog w) A (execs body env) (LPost (fun _ => False) Q) E s₂) (wpAny (model prog w) A (execs orelse env) Q E s₂)) E s) :
    Loop (WhlRest prog w A E env test body orelse Q 0 s) := by
  refine Loop.in (whl_turn (k := 0) hE ?_)
  refine wpAny_mono turn (fun b s₂ h₂ => ?_) fun _ _ e => e
  cases b with
  | false => exact h₂
  | true =>
    refine WhlIf.yes rfl ?_
    refine wpAny_mono (show wpAny _ _ _ _ _ _ from by unfold WhlIf at h₂; rw [if_pos rfl] at h₂; exact h₂) (fun f s₃ h₃ => ?_) fun _ _ e => e
    cases f with
    | next => exact h₃.elim
    | cont => exact h₃.elim
    | brk => exact h₃
    | ret v => exact h₃
variable {w : World} {mean : ExcName → Option Value} {mg mb : Str → Option Value}
variable {S : Str} {aS dS aE aW : Addr} {k1 k2 k3 k4 t1 : Tok}
theorem take_word_con {P : Int} {t3 : Tok} {g : Obj → List (Addr × Obj)} {l0 : List Nat} {c : Nat} {cs : List Nat} {d : Nat} {l : List Nat} {vs : List Value} {n : Nat} {ys : List Str} {b : Bool} (hg : Slot dS g) (hS : SlotIn (aS, instObj 228 dS) g) (hW : SlotIn (aW, tupO vs n) g) (hV : StrsAre vs ys) (hb : ys.any (· == ⟨(c :: cs).toArray⟩) = b)
    (hl : At S P l0) (hsk : Skips l0 ((c :: cs) ++ d :: l)) (hc0 : isL c = true) (hc : ∀ x ∈ c :: cs, isL x = true ∨ isD x = true) (hd1 : isL d = false) (hd2 : isD d = false) :
    Con w mean mg mb (.ref 148) [.ref aS] 20 150 (g (scanD w S aE aW k1 k2 k3 k4 t1 P t3)) (fun r news' => TokPost w S aE aW k1 k2 k3 k4 t1 g (if b then ⟨(c :: cs).toArray⟩ else Str.ofString "ident") (if b then Str.ofString "" else ⟨(c :: cs).toArray⟩) (d :: l) r news') := by
  w_top off
  have hc5 : 64 < c := by
    unfold isL at hc0
    simp only [Bool.or_eq_true, Bool.and_eq_true, decide_eq_true_eq] at hc0
    omega
  unfold Con
  k_fill
  intro dp un gd cn cs a ccd cl outer A₀ base h₀ L m s Q E B F X N T hk hd hu hret
  refine wpAny_call ?_
  k_dflt (refine' code_def ?k1 ?k2 ?k3 ?k4 ?k5 ?kA ?kF ?kK ?k6 ?k7 ?k8 ?k9 ?kB ?_ ?c2 ?c3 ?c4 ?c5; (case kA => exact rfl); (case kF => exact rfl); (case kK => assumption); (case k1 => k_asm); (case k2 => k_asm); (case k3 => k_asm); (case k4 => k_asm); (case k5 => k_asm); (case k6 => k_is); (case k7 => k_is); (case k8 => ktr_room); (case k9 => first | exact BindsTo.of_eq rfl | exact binds_K (by k_in) rfl (by k_is) rfl rfl rfl); (case c5 => decide); (case kB => exact locs rfl); (case c2 => exact rfl); (case c3 => exact rfl); (case c4 => exact rfl); k_whole; intro g' L' h' FG' F' N' B' X' T'; (try dsimp only); (try refine norm_A ?_); (try refine tok_gen fun tk0 => ?_); (try k_fold))
  ((try k_fold); repeat' (first | (k_unfold; (try dsimp only)) | ((with_reducible show wpAny _ _ (exec (Stmt.While _ _ _ _) _) _ _ _); (k_dflt (refine loop_start ?_))) | walk1 | (dsimp only; walk1) | (leave1; (try dsimp only)) | fail "no step"))
  refine loop_once ?hE ?turn
  case hE => first | passes_own | with_unfolding_all passes_own
  case turn =>
    ((try k_fold); repeat' (first | (k_unfold; (try dsimp only)) | ((with_reducible show wpAny _ _ (call (Value.ref 169) _) _ _ _); k_dflt (refine' con_use (word_con ?zzhg ?zzhS ?zzhW ?zzhV ?zzhb ?zzhl ?zzhc ?zzhd1 ?zzhd2) ?zzkB ?zzkF ?zzkX ?zzkN ?zzkT ?zzkK ?zzks ?zzkd ?zzku ?_; (case zzkB => k_asm); (case zzkF => k_asm); (case zzkX => k_asm); (case zzkN => k_asm); (case zzkT => k_asm); (case zzkK => exact rfl); (case zzks => exact fun _ h => h); (case zzhS => assumption); (case zzhg => assumption); (case zzhW => assumption); (case zzhV => assumption); (case zzhl => assumption); (case zzhb => assumption); (case zzhc => assumption); (case zzhd1 => assumption); (case zzhd2 => assumption); (case zzkd => ktr_room); (case zzku => ktr_units); intro r9 news9 h9 tk9 F9 N9 p9; obtain ⟨aT9, dT9, j19, j29, j39, tk19, tk29, pv9, P9, t9, e9, n9, hA9, l9, l8⟩ := p9; subst e9 n9; (try dsimp only); (try k_sweep))) | ((with_reducible show wpAny _ _ (call (Value.ref 155) _) _ _ _); k_dflt (refine' con_use (skip_con ?zzhg ?zzhS ?zzhl ?zzhk) ?zzkB ?zzkF ?zzkX ?zzkN ?zzkT ?zzkK ?zzks ?zzkd ?zzku ?_; (case zzkB => k_asm); (case zzkF => k_asm); (case zzkX => k_asm); (case zzkN => k_asm); (case zzkT => k_asm); (case zzkK => exact rfl); (case zzks => exact fun _ h => h); (case zzhS => assumption); (case zzhg => assumption); (case zzhl => assumption); (case zzhk => assumption); (case zzkd => ktr_room); (case zzku => ktr_units); intro r9 news9 h9 tk9 F9 N9 p9; obtain ⟨e9, P9, t9, hA9, n9⟩ := p9; subst e9 n9; (try dsimp only); (try k_sweep))) | ((with_reducible show wpAny _ _ (compareOp CmpOp.Eq (Value.str _ _) (Value.str _ _)) _ _ _); (k_dflt (refine eqs_false (by ((refine str_ne_of ?_); (simp only [lit_e, lit_p, lit_s, lit_ps, lit_sp, lit_q, lit_a, lit_c, lit_sc, lit_id, List.toList_toArray, Str.cps_append, Array.toList_append, List.cons_append, List.nil_append, List.cons.injEq, ne_eq, not_and, reduceCtorEq, not_false_eq_true, and_true, true_and, not_true_eq_false, imp_false]); first | done | omega)) ?_))) | ((with_reducible show wpAny _ _ (call (Value.ref 98) _) _ _ _); k_dflt (refine' con_use (isl_con ?zzhb) ?zzkB ?zzkF ?zzkX ?zzkN ?zzkT ?zzkK ?zzks ?zzkd ?zzku ?_; (case zzkB => k_asm); (case zzkF => k_asm); (case zzkX => k_asm); (case zzkN => k_asm); (case zzkT => k_asm); (case zzkK => exact rfl); (case zzks => exact fun _ h => h); (case zzhb => first | assumption | exact rfl); (case zzkd => ktr_room); (case zzku => ktr_units); intro r9 news9 h9 tk9 F9 N9 p9; obtain ⟨e9, n9⟩ := p9; subst e9 n9; (try dsimp only); (try k_sweep))) | ((with_reducible show wpAny _ _ (call (Value.ref 141) _) _ _ _); k_dflt (first | (refine' con_use (char0_con ?zzhS ?zzhD ?zzhl) ?zzkB ?zzkF ?zzkX ?zzkN ?zzkT ?zzkK ?zzks ?zzkd ?zzku ?_; (case zzkB => k_asm); (case zzkF => k_asm); (case zzkX => k_asm); (case zzkN => k_asm); (case zzkT => k_asm); (case zzkK => exact rfl); (case zzks => exact fun _ h => h); (case zzhS => k_mem); (case zzhD => k_mem); (case zzhl => assumption); (case zzkd => ktr_room); (case zzku => ktr_units); intro r9 news9 h9 tk9 F9 N9 p9; obtain ⟨⟨t9, e9⟩, n9⟩ := p9; subst e9 n9; (try dsimp only); (try k_sweep)) | (refine' con_use (char1_con ?zzhS ?zzhD ?zzhl) ?zzkB ?zzkF ?zzkX ?zzkN ?zzkT ?zzkK ?zzks ?zzkd ?zzku ?_; (case zzkB => k_asm); (case zzkF => k_asm); (case zzkX => k_asm); (case zzkN => k_asm); (case zzkT => k_asm); (case zzkK => exact rfl); (case zzks => exact fun _ h => h); (case zzhS => k_mem); (case zzhD => k_mem); (case zzhl => assumption); (case zzkd => ktr_room); (case zzku => ktr_units); intro r9 news9 h9 tk9 F9 N9 p9; obtain ⟨⟨t9, e9⟩, n9⟩ := p9; subst e9 n9; (try dsimp only); (try k_sweep)))) | ((with_reducible show LPost _ _ _ _); (dsimp only [LPost])) | walk1 | (dsimp only; walk1) | (leave1; (try dsimp only)) | fail "no step"))
    exact hret _ _ _ _ (by k_asm) (by k_asm) ⟨_, _, _, _, _, _, _, _, _, _, rfl, rfl, by assumption, by assumption, by assumption⟩
theorem take_sym_con {P : Int} {t3 : Tok} {g : Obj → List (Addr × Obj)} {l0 : List Nat} {c d : Nat} {l : List Nat} (hg : Slot dS g) (hS : SlotIn (aS, instObj 228 dS) g)
    (hl : At S P l0) (hsk : Skips l0 (c :: d :: l)) (hc : c = 44 ∨ c = 59) :
    Con w mean mg mb (.ref 148) [.ref aS] 20 150 (g (scanD w S aE aW k1 k2 k3 k4 t1 P t3)) (fun r news' => TokPost w S aE aW k1 k2 k3 k4 t1 g ⟨#[c]⟩ (Str.ofString "") (d :: l) r news') := by
  have hL : isL c = false := by rcases hc with rfl | rfl <;> rfl
  have hD : isD c = false := by rcases hc with rfl | rfl <;> rfl
  unfold Con
  k_fill
  intro dp un gd cn cs a ccd cl outer A₀ base h₀ L m s Q E B F X N T hk hd hu hret
  refine wpAny_call ?_
  k_dflt (refine' code_def ?k1 ?k2 ?k3 ?k4 ?k5 ?kA ?kF ?kK ?k6 ?k7 ?k8 ?k9 ?kB ?_ ?c2 ?c3 ?c4 ?c5; (case kA => exact rfl); (case kF => exact rfl); (case kK => assumption); (case k1 => k_asm); (case k2 => k_asm); (case k3 => k_asm); (case k4 => k_asm); (case k5 => k_asm); (case k6 => k_is); (case k7 => k_is); (case k8 => ktr_room); (case k9 => first | exact BindsTo.of_eq rfl | exact binds_K (by k_in) rfl (by k_is) rfl rfl rfl); (case c5 => decide); (case kB => exact locs rfl); (case c2 => exact rfl); (case c3 => exact rfl); (case c4 => exact rfl); k_whole; intro g' L' h' FG' F' N' B' X' T'; (try dsimp only); (try refine norm_A ?_); (try refine tok_gen fun tk0 => ?_); (try k_fold))
  ((try k_fold); repeat' (first | (k_unfold; (try dsimp only)) | ((with_reducible show wpAny _ _ (exec (Stmt.While _ _ _ _) _) _ _ _); (k_dflt (refine loop_start ?_))) | walk1 | (dsimp only; walk1) | (leave1; (try dsimp only)) | fail "no step"))
  refine loop_once ?hE ?turn
  case hE => first | passes_own | with_unfolding_all passes_own
  case turn =>
    ((try k_fold); repeat' (first | (k_unfold; (try dsimp only)) | ((with_reducible show wpAny _ _ (call (Value.ref 225) _) _ _ _); k_dflt (first | (refine' con_use (symbol2_con ?zzhS ?zzhD ?zzhl) ?zzkB ?zzkF ?zzkX ?zzkN ?zzkT ?zzkK ?zzks ?zzkd ?zzku ?_; (case zzkB => k_asm); (case zzkF => k_asm); (case zzkX => k_asm); (case zzkN => k_asm); (case zzkT => k_asm); (case zzkK => exact rfl); (case zzks => exact fun _ h => h); (case zzhS => k_mem); (case zzhD => k_mem); (case zzhl => assumption); (case zzkd => ktr_room); (case zzku => ktr_units); intro r9 news9 h9 tk9 F9 N9 p9; obtain ⟨⟨t9, e9⟩, n9⟩ := p9; subst e9 n9; (try dsimp only); (try k_sweep)) | (refine' con_use (symbol_con ?zzhc ?zzhS ?zzhD ?zzhl) ?zzkB ?zzkF ?zzkX ?zzkN ?zzkT ?zzkK ?zzks ?zzkd ?zzku ?_; (case zzkB => k_asm); (case zzkF => k_asm); (case zzkX => k_asm); (case zzkN => k_asm); (case zzkT => k_asm); (case zzkK => exact rfl); (case zzks => exact fun _ h => h); (case zzhc => assumption); (case zzhS => k_mem); (case zzhD => k_mem); (case zzhl => assumption); (case zzkd => ktr_room); (case zzku => ktr_units); intro r9 news9 h9 tk9 F9 N9 p9; obtain ⟨⟨t9, e9⟩, n9⟩ := p9; subst e9 n9; (try dsimp only); (try k_sweep)))) | ((with_reducible show wpAny _ _ (call (Value.ref 155) _) _ _ _); k_dflt (refine' con_use (skip_con ?zzhg ?zzhS ?zzhl ?zzhk) ?zzkB ?zzkF ?zzkX ?zzkN ?zzkT ?zzkK ?zzks ?zzkd ?zzku ?_; (case zzkB => k_asm); (case zzkF => k_asm); (case zzkX => k_asm); (case zzkN => k_asm); (case zzkT => k_asm); (case zzkK => exact rfl); (case zzks => exact fun _ h => h); (case zzhS => assumption); (case zzhg => assumption); (case zzhl => assumption); (case zzhk => assumption); (case zzkd => ktr_room); (case zzku => ktr_units); intro r9 news9 h9 tk9 F9 N9 p9; obtain ⟨e9, P9, t9, hA9, n9⟩ := p9; subst e9 n9; (try dsimp only); (try k_sweep))) | ((with_reducible show wpAny _ _ (compareOp CmpOp.NotEq (Value.str _ _) (Value.str _ _)) _ _ _); (k_dflt (refine nes_true (by ((refine str_ne_of ?_); (simp only [lit_e, lit_p, lit_s, lit_ps, lit_sp, lit_q, lit_a, lit_c, lit_sc, lit_id, List.toList_toArray, Str.cps_append, Array.toList_append, List.cons_append, List.nil_append, List.cons.injEq, ne_eq, not_and, reduceCtorEq, not_false_eq_true, and_true, true_and, not_true_eq_false, imp_false]); first | done | omega)) ?_))) | ((with_reducible show wpAny _ _ (compareOp CmpOp.Eq (Value.str _ _) (Value.str _ _)) _ _ _); (k_dflt (refine eqs_false (by ((refine str_ne_of ?_); (simp only [lit_e, lit_p, lit_s, lit_ps, lit_sp, lit_q, lit_a, lit_c, lit_sc, lit_id, List.toList_toArray, Str.cps_append, Array.toList_append, List.cons_append, List.nil_append, List.cons.injEq, ne_eq, not_and, reduceCtorEq, not_false_eq_true, and_true, true_and, not_true_eq_false, imp_false]); first | done | omega)) ?_))) | ((with_reducible show wpAny _ _ (call (Value.ref 105) _) _ _ _); k_dflt (refine' con_use (isd_con ?zzhb) ?zzkB ?zzkF ?zzkX ?zzkN ?zzkT ?zzkK ?zzks ?zzkd ?zzku ?_; (case zzkB => k_asm); (case zzkF => k_asm); (case zzkX => k_asm); (case zzkN => k_asm); (case zzkT => k_asm); (case zzkK => exact rfl); (case zzks => exact fun _ h => h); (case zzhb => first | assumption | exact rfl); (case zzkd => ktr_room); (case zzku => ktr_units); intro r9 news9 h9 tk9 F9 N9 p9; obtain ⟨e9, n9⟩ := p9; subst e9 n9; (try dsimp only); (try k_sweep))) | ((with_reducible show wpAny _ _ (call (Value.ref 98) _) _ _ _); k_dflt (refine' con_use (isl_con ?zzhb) ?zzkB ?zzkF ?zzkX ?zzkN ?zzkT ?zzkK ?zzks ?zzkd ?zzku ?_; (case zzkB => k_asm); (case zzkF => k_asm); (case zzkX => k_asm); (case zzkN => k_asm); (case zzkT => k_asm); (case zzkK => exact rfl); (case zzks => exact fun _ h => h); (case zzhb => first | assumption | exact rfl); (case zzkd => ktr_room); (case zzku => ktr_units); intro r9 news9 h9 tk9 F9 N9 p9; obtain ⟨e9, n9⟩ := p9; subst e9 n9; (try dsimp only); (try k_sweep))) | ((with_reducible show wpAny _ _ (call (Value.ref 141) _) _ _ _); k_dflt (first | (refine' con_use (char0_con ?zzhS ?zzhD ?zzhl) ?zzkB ?zzkF ?zzkX ?zzkN ?zzkT ?zzkK ?zzks ?zzkd ?zzku ?_; (case zzkB => k_asm); (case zzkF => k_asm); (case zzkX => k_asm); (case zzkN => k_asm); (case zzkT => k_asm); (case zzkK => exact rfl); (case zzks => exact fun _ h => h); (case zzhS => k_mem); (case zzhD => k_mem); (case zzhl => assumption); (case zzkd => ktr_room); (case zzku => ktr_units); intro r9 news9 h9 tk9 F9 N9 p9; obtain ⟨⟨t9, e9⟩, n9⟩ := p9; subst e9 n9; (try dsimp only); (try k_sweep)) | (refine' con_use (char1_con ?zzhS ?zzhD ?zzhl) ?zzkB ?zzkF ?zzkX ?zzkN ?zzkT ?zzkK ?zzks ?zzkd ?zzku ?_; (case zzkB => k_asm); (case zzkF => k_asm); (case zzkX => k_asm); (case zzkN => k_asm); (case zzkT => k_asm); (case zzkK => exact rfl); (case zzks => exact fun _ h => h); (case zzhS => k_mem); (case zzhD => k_mem); (case zzhl => assumption); (case zzkd => ktr_room); (case zzku => ktr_units); intro r9 news9 h9 tk9 F9 N9 p9; obtain ⟨⟨t9, e9⟩, n9⟩ := p9; subst e9 n9; (try dsimp only); (try k_sweep)))) | ((with_reducible show LPost _ _ _ _); (dsimp only [LPost])) | walk1 | (dsimp only; walk1) | (leave1; (try dsimp only)) | fail "no step"))
    exact hret _ _ _ _ (by k_asm) (by k_asm) ⟨_, _, _, _, _, _, _, _, _, _, rfl, rfl, At.one (by assumption), by assumption, fun o => slot_lt hg o (ktn_ltOf (by assumption))⟩
theorem take_asg_con {P : Int} {t3 : Tok} {g : Obj → List (Addr × Obj)} {l0 : List Nat} {l : List Nat} (hg : Slot dS g) (hS : SlotIn (aS, instObj 228 dS) g)
    (hl : At S P l0) (hsk : Skips l0 (58 :: 61 :: l)) :
    Con w mean mg mb (.ref 148) [.ref aS] 20 150 (g (scanD w S aE aW k1 k2 k3 k4 t1 P t3)) (fun r news' => TokPost w S aE aW k1 k2 k3 k4 t1 g (Str.ofString ":=") (Str.ofString "") l r news') := by
  unfold Con
  k_fill
  intro dp un gd cn cs a ccd cl outer A₀ base h₀ L m s Q E B F X N T hk hd hu hret
  refine wpAny_call ?_
  k_dflt (refine' code_def ?k1 ?k2 ?k3 ?k4 ?k5 ?kA ?kF ?kK ?k6 ?k7 ?k8 ?k9 ?kB ?_ ?c2 ?c3 ?c4 ?c5; (case kA => exact rfl); (case kF => exact rfl); (case kK => assumption); (case k1 => k_asm); (case k2 => k_asm); (case k3 => k_asm); (case k4 => k_asm); (case k5 => k_asm); (case k6 => k_is); (case k7 => k_is); (case k8 => ktr_room); (case k9 => first | exact BindsTo.of_eq rfl | exact binds_K (by k_in) rfl (by k_is) rfl rfl rfl); (case c5 => decide); (case kB => exact locs rfl); (case c2 => exact rfl); (case c3 => exact rfl); (case c4 => exact rfl); k_whole; intro g' L' h' FG' F' N' B' X' T'; (try dsimp only); (try refine norm_A ?_); (try refine tok_gen fun tk0 => ?_); (try k_fold))
  ((try k_fold); repeat' (first | (k_unfold; (try dsimp only)) | ((with_reducible show wpAny _ _ (exec (Stmt.While _ _ _ _) _) _ _ _); (k_dflt (refine loop_start ?_))) | walk1 | (dsimp only; walk1) | (leave1; (try dsimp only)) | fail "no step"))
  refine loop_once ?hE ?turn
  case hE => first | passes_own | with_unfolding_all passes_own
  case turn =>
    ((try k_fold); repeat' (first | (k_unfold; (try dsimp only)) | ((with_reducible show wpAny _ _ (call (Value.ref 225) _) _ _ _); k_dflt (first | (refine' con_use (symbol2_con ?zzhS ?zzhD ?zzhl) ?zzkB ?zzkF ?zzkX ?zzkN ?zzkT ?zzkK ?zzks ?zzkd ?zzku ?_; (case zzkB => k_asm); (case zzkF => k_asm); (case zzkX => k_asm); (case zzkN => k_asm); (case zzkT => k_asm); (case zzkK => exact rfl); (case zzks => exact fun _ h => h); (case zzhS => k_mem); (case zzhD => k_mem); (case zzhl => assumption); (case zzkd => ktr_room); (case zzku => ktr_units); intro r9 news9 h9 tk9 F9 N9 p9; obtain ⟨⟨t9, e9⟩, n9⟩ := p9; subst e9 n9; (try dsimp only); (try k_sweep)) | (refine' con_use (symbol_con ?zzhc ?zzhS ?zzhD ?zzhl) ?zzkB ?zzkF ?zzkX ?zzkN ?zzkT ?zzkK ?zzks ?zzkd ?zzku ?_; (case zzkB => k_asm); (case zzkF => k_asm); (case zzkX => k_asm); (case zzkN => k_asm); (case zzkT => k_asm); (case zzkK => exact rfl); (case zzks => exact fun _ h => h); (case zzhc => assumption); (case zzhS => k_mem); (case zzhD => k_mem); (case zzhl => assumption); (case zzkd => ktr_room); (case zzku => ktr_units); intro r9 news9 h9 tk9 F9 N9 p9; obtain ⟨⟨t9, e9⟩, n9⟩ := p9; subst e9 n9; (try dsimp only); (try k_sweep)))) | ((with_reducible show wpAny _ _ (call (Value.ref 155) _) _ _ _); k_dflt (refine' con_use (skip_con ?zzhg ?zzhS ?zzhl ?zzhk) ?zzkB ?zzkF ?zzkX ?zzkN ?zzkT ?zzkK ?zzks ?zzkd ?zzku ?_; (case zzkB => k_asm); (case zzkF => k_asm); (case zzkX => k_asm); (case zzkN => k_asm); (case zzkT => k_asm); (case zzkK => exact rfl); (case zzks => exact fun _ h => h); (case zzhS => assumption); (case zzhg => assumption); (case zzhl => assumption); (case zzhk => assumption); (case zzkd => ktr_room); (case zzku => ktr_units); intro r9 news9 h9 tk9 F9 N9 p9; obtain ⟨e9, P9, t9, hA9, n9⟩ := p9; subst e9 n9; (try dsimp only); (try k_sweep))) | ((with_reducible show wpAny _ _ (compareOp CmpOp.NotEq (Value.str _ _) (Value.str _ _)) _ _ _); (k_dflt (refine nes_true (by ((refine str_ne_of ?_); (simp only [lit_e, lit_p, lit_s, lit_ps, lit_sp, lit_q, lit_a, lit_c, lit_sc, lit_id, List.toList_toArray, Str.cps_append, Array.toList_append, List.cons_append, List.nil_append, List.cons.injEq, ne_eq, not_and, reduceCtorEq, not_false_eq_true, and_true, true_and, not_true_eq_false, imp_false]); first | done | omega)) ?_))) | ((with_reducible show wpAny _ _ (call (Value.ref 105) _) _ _ _); k_dflt (refine' con_use (isd_con ?zzhb) ?zzkB ?zzkF ?zzkX ?zzkN ?zzkT ?zzkK ?zzks ?zzkd ?zzku ?_; (case zzkB => k_asm); (case zzkF => k_asm); (case zzkX => k_asm); (case zzkN => k_asm); (case zzkT => k_asm); (case zzkK => exact rfl); (case zzks => exact fun _ h => h); (case zzhb => first | assumption | exact rfl); (case zzkd => ktr_room); (case zzku => ktr_units); intro r9 news9 h9 tk9 F9 N9 p9; obtain ⟨e9, n9⟩ := p9; subst e9 n9; (try dsimp only); (try k_sweep))) | ((with_reducible show wpAny _ _ (call (Value.ref 98) _) _ _ _); k_dflt (refine' con_use (isl_con ?zzhb) ?zzkB ?zzkF ?zzkX ?zzkN ?zzkT ?zzkK ?zzks ?zzkd ?zzku ?_; (case zzkB => k_asm); (case zzkF => k_asm); (case zzkX => k_asm); (case zzkN => k_asm); (case zzkT => k_asm); (case zzkK => exact rfl); (case zzks => exact fun _ h => h); (case zzhb => first | assumption | exact rfl); (case zzkd => ktr_room); (case zzku => ktr_units); intro r9 news9 h9 tk9 F9 N9 p9; obtain ⟨e9, n9⟩ := p9; subst e9 n9; (try dsimp only); (try k_sweep))) | ((with_reducible show wpAny _ _ (call (Value.ref 141) _) _ _ _); k_dflt (first | (refine' con_use (char0_con ?zzhS ?zzhD ?zzhl) ?zzkB ?zzkF ?zzkX ?zzkN ?zzkT ?zzkK ?zzks ?zzkd ?zzku ?_; (case zzkB => k_asm); (case zzkF => k_asm); (case zzkX => k_asm); (case zzkN => k_asm); (case zzkT => k_asm); (case zzkK => exact rfl); (case zzks => exact fun _ h => h); (case zzhS => k_mem); (case zzhD => k_mem); (case zzhl => assumption); (case zzkd => ktr_room); (case zzku => ktr_units); intro r9 news9 h9 tk9 F9 N9 p9; obtain ⟨⟨t9, e9⟩, n9⟩ := p9; subst e9 n9; (try dsimp only); (try k_sweep)) | (refine' con_use (char1_con ?zzhS ?zzhD ?zzhl) ?zzkB ?zzkF ?zzkX ?zzkN ?zzkT ?zzkK ?zzks ?zzkd ?zzku ?_; (case zzkB => k_asm); (case zzkF => k_asm); (case zzkX => k_asm); (case zzkN => k_asm); (case zzkT => k_asm); (case zzkK => exact rfl); (case zzks => exact fun _ h => h); (case zzhS => k_mem); (case zzhD => k_mem); (case zzhl => assumption); (case zzkd => ktr_room); (case zzku => ktr_units); intro r9 news9 h9 tk9 F9 N9 p9; obtain ⟨⟨t9, e9⟩, n9⟩ := p9; subst e9 n9; (try dsimp only); (try k_sweep)))) | ((with_reducible show LPost _ _ _ _); (dsimp only [LPost])) | walk1 | (dsimp only; walk1) | (leave1; (try dsimp only)) | fail "no step"))
    exact hret _ _ _ _ (by k_asm) (by k_asm) ⟨_, _, _, _, _, _, _, _, _, _, rfl, rfl, At.two (by assumption), by assumption, fun o => slot_lt hg o (ktn_ltOf (by assumption))⟩

theorem take_id_con {P : Int} {t3 : Tok} {g : Obj → List (Addr × Obj)} {l0 : List Nat} {c : Nat} {cs : List Nat} {d : Nat} {l : List Nat} {vs : List Value} {n : Nat} {ys : List Str} (hg : Slot dS g) (hS : SlotIn (aS, instObj 228 dS) g) (hW : SlotIn (aW, tupO vs n) g) (hV : StrsAre vs ys) (hb : ys.any (· == ⟨(c :: cs).toArray⟩) = false)
    (hl : At S P l0) (hsk : Skips l0 ((c :: cs) ++ d :: l)) (hc0 : isL c = true) (hc : ∀ x ∈ c :: cs, isL x = true ∨ isD x = true) (hd1 : isL d = false) (hd2 : isD d = false) :
    Con w mean mg mb (.ref 148) [.ref aS] 20 150 (g (scanD w S aE aW k1 k2 k3 k4 t1 P t3)) (fun r news' => TokPost w S aE aW k1 k2 k3 k4 t1 g (Str.ofString "ident") ⟨(c :: cs).toArray⟩ (d :: l) r news') := by
  have h := take_word_con (w := w) (mean := mean) (mg := mg) (mb := mb) (aE := aE) (k1 := k1) (k2 := k2) (k3 := k3) (k4 := k4) (t1 := t1) (t3 := t3) hg hS hW hV hb hl hsk hc0 hc hd1 hd2
  simpa only [Bool.false_eq_true, if_false] using h
theorem take_kw_con {P : Int} {t3 : Tok} {g : Obj → List (Addr × Obj)} {l0 : List Nat} {c : Nat} {cs : List Nat} {d : Nat} {l : List Nat} {vs : List Value} {n : Nat} {ys : List Str} (hg : Slot dS g) (hS : SlotIn (aS, instObj 228 dS) g) (hW : SlotIn (aW, tupO vs n) g) (hV : StrsAre vs ys) (hb : ys.any (· == ⟨(c :: cs).toArray⟩) = true)
    (hl : At S P l0) (hsk : Skips l0 ((c :: cs) ++ d :: l)) (hc0 : isL c = true) (hc : ∀ x ∈ c :: cs, isL x = true ∨ isD x = true) (hd1 : isL d = false) (hd2 : isD d = false) :
    Con w mean mg mb (.ref 148) [.ref aS] 20 150 (g (scanD w S aE aW k1 k2 k3 k4 t1 P t3)) (fun r news' => TokPost w S aE aW k1 k2 k3 k4 t1 g ⟨(c :: cs).toArray⟩ (Str.ofString "") (d :: l) r news') := by
  have h := take_word_con (w := w) (mean := mean) (mg := mg) (mb := mb) (aE := aE) (k1 := k1) (k2 := k2) (k3 := k3) (k4 := k4) (t1 := t1) (t3 := t3) hg hS hW hV hb hl hsk hc0 hc hd1 hd2
  simpa only [if_true] using h
end
section
variable {w : World} {mean : ExcName → Option Value} {mg mb : Str → Option Value}
variable {S : Str} {aS dS aE aW : Addr} {k1 k2 k3 k4 t1 : Tok}
theorem impname_con {P : Int} {t3 : Tok} {g : Obj → List (Addr × Obj)} {aT dT : Addr} {j1 j2 j3 tk1 tk2 : Tok} {pv : Value} {wd0 : Str} {l0 l : List Nat} {c d : Nat} (hg : Slot dS g) (hS : SlotIn (aS, instObj 228 dS) g) (hT : SlotIn (aT, instObj 80 dT) g) (hTd : SlotIn (dT, tokD w j1 j2 j3 (.str (Str.ofString "ident") tk1) (.str wd0 tk2) pv) g)
    (hc : c = 44 ∨ c = 59) (hl : At S P l0) (hsk : Skips l0 (c :: d :: l)) :
    Con w mean mg mb (.ref 260) [.ref aS, .ref aT] 30 200 (g (scanD w S aE aW k1 k2 k3 k4 t1 P t3)) (ImpPost w S aE aW k1 k2 k3 k4 t1 g wd0 ⟨#[c]⟩ (d :: l)) := by
  w_top off
  unfold Con
  k_fill
  intro dp un gd cn cs a ccd cl outer A₀ base h₀ L m s Q E B F X N T hk hd hu hret
  refine wpAny_call ?_
  k_dflt (refine' code_def ?k1 ?k2 ?k3 ?k4 ?k5 ?kA ?kF ?kK ?k6 ?k7 ?k8 ?k9 ?kB ?_ ?c2 ?c3 ?c4 ?c5; (case kA => exact rfl); (case kF => exact rfl); (case kK => assumption); (case k1 => k_asm); (case k2 => k_asm); (case k3 => k_asm); (case k4 => k_asm); (case k5 => k_asm); (case k6 => k_is); (case k7 => k_is); (case k8 => ktr_room); (case k9 => first | exact BindsTo.of_eq rfl | exact binds_K (by k_in) rfl (by k_is) rfl rfl rfl); (case c5 => decide); (case kB => exact locs rfl); (case c2 => exact rfl); (case c3 => exact rfl); (case c4 => exact rfl); k_whole; intro g' L' h' FG' F' N' B' X' T'; (try dsimp only); (try refine norm_A ?_); (try refine tok_gen fun tk0 => ?_); (try k_fold))
  ((try k_fold); repeat' (first | (k_unfold; (try dsimp only)) | ((with_reducible show wpAny _ _ (call (Value.ref 148) _) _ _ _); k_dflt (first | (refine' con_useU ?zzU (take_sym_con ?zzhg ?zzhS ?zzhl ?zzhsk ?zzhc) ?zzkB ?zzkF ?zzkX ?zzkN ?zzkT ?zzkK ?zzkd ?zzku ?_; (case zzhl => assumption); (case zzhsk => assumption); (case zzhc => first | assumption | exact .inl rfl | exact .inr rfl); (case zzkB => k_asm); (case zzkF => k_asm); (case zzkX => k_asm); (case zzkN => k_asm); (case zzkT => k_asm); (case zzkK => exact rfl); (case zzU => k_updF); (case zzhg => ktr_unf); (case zzhS => (intro o9; (try dsimp only); k_mem)); (case zzkd => ktr_room); (case zzku => ktr_units); intro r9 news9 h9 tk9 F9 N9 p9; obtain ⟨aT9, dT9, j19, j29, j39, tk19, tk29, pv9, P9, t9, e9, n9, hA9, l9, l8⟩ := p9; subst e9 n9; (try dsimp only at N9); (try dsimp only at l8); have l9 := ltN l9; (try have l7 := slot_below (by assumption) (fun o9 q9 h9 => l8 o9 q9 (by repeat (first | exact h9 | refine List.Mem.tail _ ?_)))); have l6 := l8 default; (try k_lt l6); (try dsimp only); (try k_sweep)) | (refine' con_useU ?zzU (take_asg_con ?zzhg ?zzhS ?zzhl ?zzhsk) ?zzkB ?zzkF ?zzkX ?zzkN ?zzkT ?zzkK ?zzkd ?zzku ?_; (case zzhl => assumption); (case zzhsk => assumption); (case zzkB => k_asm); (case zzkF => k_asm); (case zzkX => k_asm); (case zzkN => k_asm); (case zzkT => k_asm); (case zzkK => exact rfl); (case zzU => k_updF); (case zzhg => ktr_unf); (case zzhS => (intro o9; (try dsimp only); k_mem)); (case zzkd => ktr_room); (case zzku => ktr_units); intro r9 news9 h9 tk9 F9 N9 p9; obtain ⟨aT9, dT9, j19, j29, j39, tk19, tk29, pv9, P9, t9, e9, n9, hA9, l9, l8⟩ := p9; subst e9 n9; (try dsimp only at N9); (try dsimp only at l8); have l9 := ltN l9; (try have l7 := slot_below (by assumption) (fun o9 q9 h9 => l8 o9 q9 (by repeat (first | exact h9 | refine List.Mem.tail _ ?_)))); have l6 := l8 default; (try k_lt l6); (try dsimp only); (try k_sweep)) | (refine' con_useU ?zzU (take_id_con ?zzhg ?zzhS ?zzhW ?zzhV ?zzhb ?zzhl ?zzhsk ?zzhc0 ?zzhc ?zzhd1 ?zzhd2) ?zzkB ?zzkF ?zzkX ?zzkN ?zzkT ?zzkK ?zzkd ?zzku ?_; (case zzhl => assumption); (case zzhsk => assumption); (case zzhb => assumption); (case zzhV => assumption); (case zzhc0 => assumption); (case zzhc => assumption); (case zzhd1 => first | assumption | exact rfl); (case zzhd2 => first | assumption | exact rfl); (case zzkB => k_asm); (case zzkF => k_asm); (case zzkX => k_asm); (case zzkN => k_asm); (case zzkT => k_asm); (case zzkK => exact rfl); (case zzU => k_updF); (case zzhg => ktr_unf); (case zzhS => (intro o9; (try dsimp only); k_mem)); (case zzhW => (intro o9; (try dsimp only); k_mem)); (case zzkd => ktr_room); (case zzku => ktr_units); intro r9 news9 h9 tk9 F9 N9 p9; obtain ⟨aT9, dT9, j19, j29, j39, tk19, tk29, pv9, P9, t9, e9, n9, hA9, l9, l8⟩ := p9; subst e9 n9; (try dsimp only at N9); (try dsimp only at l8); have l9 := ltN l9; (try have l7 := slot_below (by assumption) (fun o9 q9 h9 => l8 o9 q9 (by repeat (first | exact h9 | refine List.Mem.tail _ ?_)))); have l6 := l8 default; (try k_lt l6); (try dsimp only); (try k_sweep)) | (refine' con_useU ?zzU (take_kw_con ?zzhg ?zzhS ?zzhW ?zzhV ?zzhb ?zzhl ?zzhsk ?zzhc0 ?zzhc ?zzhd1 ?zzhd2) ?zzkB ?zzkF ?zzkX ?zzkN ?zzkT ?zzkK ?zzkd ?zzku ?_; (case zzhl => assumption); (case zzhsk => assumption); (case zzhb => assumption); (case zzhV => assumption); (case zzhc0 => first | assumption | exact rfl); (case zzhc => first | assumption | decide); (case zzhd1 => first | assumption | exact rfl); (case zzhd2 => first | assumption | exact rfl); (case zzkB => k_asm); (case zzkF => k_asm); (case zzkX => k_asm); (case zzkN => k_asm); (case zzkT => k_asm); (case zzkK => exact rfl); (case zzU => k_updF); (case zzhg => ktr_unf); (case zzhS => (intro o9; (try dsimp only); k_mem)); (case zzhW => (intro o9; (try dsimp only); k_mem)); (case zzkd => ktr_room); (case zzku => ktr_units); intro r9 news9 h9 tk9 F9 N9 p9; obtain ⟨aT9, dT9, j19, j29, j39, tk19, tk29, pv9, P9, t9, e9, n9, hA9, l9, l8⟩ := p9; subst e9 n9; (try dsimp only at N9); (try dsimp only at l8); have l9 := ltN l9; (try have l7 := slot_below (by assumption) (fun o9 q9 h9 => l8 o9 q9 (by repeat (first | exact h9 | refine List.Mem.tail _ ?_)))); have l6 := l8 default; (try k_lt l6); (try dsimp only); (try k_sweep)))) | ((with_reducible show wpAny _ _ (compareOp CmpOp.Eq (Value.str _ _) (Value.str _ _)) _ _ _); (k_dflt (refine eqs_false (by ((refine str_ne_of ?_); (simp only [lit_e, lit_p, lit_s, lit_ps, lit_sp, lit_q, lit_a, lit_c, lit_sc, lit_id, List.toList_toArray, Str.cps_append, Array.toList_append, List.cons_append, List.nil_append, List.cons.injEq, ne_eq, not_and, reduceCtorEq, not_false_eq_true, and_true, true_and, not_true_eq_false, imp_false]); first | done | omega)) ?_))) | walk1 | (dsimp only; walk1) | (leave1; (try dsimp only)) | fail "no step"))
  exact hret _ _ _ _ (by k_asm) (by k_asm) ⟨_, _, _, _, _, _, _, _, _, _, _, _, rfl, rfl, by assumption, by assumption, by (have h9 := And.left (by assumption : _ ∧ _ ∧ AllLt _ _)); exact h9, by assumption⟩
theorem impname_alias_con {P : Int} {t3 : Tok} {g : Obj → List (Addr × Obj)} {aT dT : Addr} {j1 j2 j3 tk1 tk2 : Tok} {pv : Value} {wd0 : Str} {vs : List Value} {n : Nat} {ys : List Str} {l0 l r2 r3 : List Nat} {c d d2 c2 : Nat} {cs2 : List Nat} (hg : Slot dS g) (hS : SlotIn (aS, instObj 228 dS) g) (hW : SlotIn (aW, tupO vs n) g) (hV : StrsAre vs ys) (hT : SlotIn (aT, instObj 80 dT) g) (hTd : SlotIn (dT, tokD w j1 j2 j3 (.str (Str.ofString "ident") tk1) (.str wd0 tk2) pv) g)
    (hl : At S P l0) (hsk : Skips l0 (58 :: 61 :: r2)) (hc0 : isL c2 = true) (hc1 : ∀ x ∈ c2 :: cs2, isL x = true ∨ isD x = true) (hb : ys.any (· == ⟨(c2 :: cs2).toArray⟩) = false) (hd1 : isL d2 = false) (hd2 : isD d2 = false) (hsk2 : Skips r2 ((c2 :: cs2) ++ d2 :: r3)) (hc : c = 44 ∨ c = 59) (hsk3 : Skips (d2 :: r3) (c :: d :: l)) :
    Con w mean mg mb (.ref 260) [.ref aS, .ref aT] 30 200 (g (scanD w S aE aW k1 k2 k3 k4 t1 P t3)) (ImpPost w S aE aW k1 k2 k3 k4 t1 g ⟨(c2 :: cs2).toArray⟩ ⟨#[c]⟩ (d :: l)) := by
  unfold Con
  k_fill
  intro dp un gd cn cs a ccd cl outer A₀ base h₀ L m s Q E B F X N T hk hd hu hret
  refine wpAny_call ?_
  k_dflt (refine' code_def ?k1 ?k2 ?k3 ?k4 ?k5 ?kA ?kF ?kK ?k6 ?k7 ?k8 ?k9 ?kB ?_ ?c2 ?c3 ?c4 ?c5; (case kA => exact rfl); (case kF => exact rfl); (case kK => assumption); (case k1 => k_asm); (case k2 => k_asm); (case k3 => k_asm); (case k4 => k_asm); (case k5 => k_asm); (case k6 => k_is); (case k7 => k_is); (case k8 => ktr_room); (case k9 => first | exact BindsTo.of_eq rfl | exact binds_K (by k_in) rfl (by k_is) rfl rfl rfl); (case c5 => decide); (case kB => exact locs rfl); (case c2 => exact rfl); (case c3 => exact rfl); (case c4 => exact rfl); k_whole; intro g' L' h' FG' F' N' B' X' T'; (try dsimp only); (try refine norm_A ?_); (try refine tok_gen fun tk0 => ?_); (try k_fold))
  ((try k_fold); repeat' (first | (k_unfold; (try dsimp only)) | ((with_reducible show wpAny _ _ (call (Value.ref 148) _) _ _ _); k_dflt (first | (refine' con_useU ?zzU (take_sym_con ?zzhg ?zzhS ?zzhl ?zzhsk ?zzhc) ?zzkB ?zzkF ?zzkX ?zzkN ?zzkT ?zzkK ?zzkd ?zzku ?_; (case zzhl => assumption); (case zzhsk => assumption); (case zzhc => first | assumption | exact .inl rfl | exact .inr rfl); (case zzkB => k_asm); (case zzkF => k_asm); (case zzkX => k_asm); (case zzkN => k_asm); (case zzkT => k_asm); (case zzkK => exact rfl); (case zzU => k_updF); (case zzhg => ktr_unf); (case zzhS => (intro o9; (try dsimp only); k_mem)); (case zzkd => ktr_room); (case zzku => ktr_units); intro r9 news9 h9 tk9 F9 N9 p9; obtain ⟨aT9, dT9, j19, j29, j39, tk19, tk29, pv9, P9, t9, e9, n9, hA9, l9, l8⟩ := p9; subst e9 n9; (try dsimp only at N9); (try dsimp only at l8); have l9 := ltN l9; (try have l7 := slot_below (by assumption) (fun o9 q9 h9 => l8 o9 q9 (by repeat (first | exact h9 | refine List.Mem.tail _ ?_)))); have l6 := l8 default; (try k_lt l6); (try dsimp only); (try k_sweep)) | (refine' con_useU ?zzU (take_asg_con ?zzhg ?zzhS ?zzhl ?zzhsk) ?zzkB ?zzkF ?zzkX ?zzkN ?zzkT ?zzkK ?zzkd ?zzku ?_; (case zzhl => assumption); (case zzhsk => assumption); (case zzkB => k_asm); (case zzkF => k_asm); (case zzkX => k_asm); (case zzkN => k_asm); (case zzkT => k_asm); (case zzkK => exact rfl); (case zzU => k_updF); (case zzhg => ktr_unf); (case zzhS => (intro o9; (try dsimp only); k_mem)); (case zzkd => ktr_room); (case zzku => ktr_units); intro r9 news9 h9 tk9 F9 N9 p9; obtain ⟨aT9, dT9, j19, j29, j39, tk19, tk29, pv9, P9, t9, e9, n9, hA9, l9, l8⟩ := p9; subst e9 n9; (try dsimp only at N9); (try dsimp only at l8); have l9 := ltN l9; (try have l7 := slot_below (by assumption) (fun o9 q9 h9 => l8 o9 q9 (by repeat (first | exact h9 | refine List.Mem.tail _ ?_)))); have l6 := l8 default; (try k_lt l6); (try dsimp only); (try k_sweep)) | (refine' con_useU ?zzU (take_id_con ?zzhg ?zzhS ?zzhW ?zzhV ?zzhb ?zzhl ?zzhsk ?zzhc0 ?zzhc ?zzhd1 ?zzhd2) ?zzkB ?zzkF ?zzkX ?zzkN ?zzkT ?zzkK ?zzkd ?zzku ?_; (case zzhl => assumption); (case zzhsk => assumption); (case zzhb => assumption); (case zzhV => assumption); (case zzhc0 => assumption); (case zzhc => assumption); (case zzhd1 => first | assumption | exact rfl); (case zzhd2 => first | assumption | exact rfl); (case zzkB => k_asm); (case zzkF => k_asm); (case zzkX => k_asm); (case zzkN => k_asm); (case zzkT => k_asm); (case zzkK => exact rfl); (case zzU => k_updF); (case zzhg => ktr_unf); (case zzhS => (intro o9; (try dsimp only); k_mem)); (case zzhW => (intro o9; (try dsimp only); k_mem)); (case zzkd => ktr_room); (case zzku => ktr_units); intro r9 news9 h9 tk9 F9 N9 p9; obtain ⟨aT9, dT9, j19, j29, j39, tk19, tk29, pv9, P9, t9, e9, n9, hA9, l9, l8⟩ := p9; subst e9 n9; (try dsimp only at N9); (try dsimp only at l8); have l9 := ltN l9; (try have l7 := slot_below (by assumption) (fun o9 q9 h9 => l8 o9 q9 (by repeat (first | exact h9 | refine List.Mem.tail _ ?_)))); have l6 := l8 default; (try k_lt l6); (try dsimp only); (try k_sweep)) | (refine' con_useU ?zzU (take_kw_con ?zzhg ?zzhS ?zzhW ?zzhV ?zzhb ?zzhl ?zzhsk ?zzhc0 ?zzhc ?zzhd1 ?zzhd2) ?zzkB ?zzkF ?zzkX ?zzkN ?zzkT ?zzkK ?zzkd ?zzku ?_; (case zzhl => assumption); (case zzhsk => assumption); (case zzhb => assumption); (case zzhV => assumption); (case zzhc0 => first | assumption | exact rfl); (case zzhc => first | assumption | decide); (case zzhd1 => first | assumption | exact rfl); (case zzhd2 => first | assumption | exact rfl); (case zzkB => k_asm); (case zzkF => k_asm); (case zzkX => k_asm); (case zzkN => k_asm); (case zzkT => k_asm); (case zzkK => exact rfl); (case zzU => k_updF); (case zzhg => ktr_unf); (case zzhS => (intro o9; (try dsimp only); k_mem)); (case zzhW => (intro o9; (try dsimp only); k_mem)); (case zzkd => ktr_room); (case zzku => ktr_units); intro r9 news9 h9 tk9 F9 N9 p9; obtain ⟨aT9, dT9, j19, j29, j39, tk19, tk29, pv9, P9, t9, e9, n9, hA9, l9, l8⟩ := p9; subst e9 n9; (try dsimp only at N9); (try dsimp only at l8); have l9 := ltN l9; (try have l7 := slot_below (by assumption) (fun o9 q9 h9 => l8 o9 q9 (by repeat (first | exact h9 | refine List.Mem.tail _ ?_)))); have l6 := l8 default; (try k_lt l6); (try dsimp only); (try k_sweep)))) | walk1 | (dsimp only; walk1) | (leave1; (try dsimp only)) | fail "no step"))
  rename ∀ (o : Obj) (q : Addr × Obj), q ∈ _ :: _ :: _ :: _ :: g o → q.1 < _ => l8
  exact hret _ _ _ _ (by k_asm) (news_sub (by k_asm) (sub3 [_, _, _, _])) ⟨_, _, _, _, _, _, _, _, _, _, _, _, rfl, rfl, by assumption, by assumption, by (have h9 := And.left (by assumption : _ ∧ _ ∧ _)); exact h9, fun o9 q9 h9 => l8 o9 q9 (.tail _ (.tail _ (.tail _ (.tail _ h9))))⟩
theorem impname_any_con {P : Int} {t3 : Tok} {g : Obj → List (Addr × Obj)} {aT dT : Addr} {j1 j2 j3 tk1 tk2 : Tok} {pv : Value} {wd0 nm : Str} {vs : List Value} {n : Nat} {ys : List Str} {l0 l : List Nat} {c d : Nat} (hg : Slot dS g) (hS : SlotIn (aS, instObj 228 dS) g) (hW : SlotIn (aW, tupO vs n) g) (hV : StrsAre vs ys) (hT : SlotIn (aT, instObj 80 dT) g) (hTd : SlotIn (dT, tokD w j1 j2 j3 (.str (Str.ofString "ident") tk1) (.str wd0 tk2) pv) g)
    (hl : At S P l0) (hc : c = 44 ∨ c = 59) (ht : Tail1 ys wd0 l0 nm c d l) :
    Con w mean mg mb (.ref 260) [.ref aS, .ref aT] 30 200 (g (scanD w S aE aW k1 k2 k3 k4 t1 P t3)) (ImpPost w S aE aW k1 k2 k3 k4 t1 g nm ⟨#[c]⟩ (d :: l)) := by
  cases ht with
  | plain e hs => subst e; exact impname_con hg hS hT hTd hc hl hs
  | alias hs hw e hf hs2 hs3 =>
    obtain ⟨c2, cs2, rfl, hc0, hc1, hb⟩ := hw
    subst e
    exact impname_alias_con hg hS hW hV hT hTd hl hs hc0 hc1 hb hf.1 hf.2 hs2 hc hs3
end
section
def addNew (acc : List Str) (x : Str) : List Str := if acc.any (· == x) then acc else acc ++ [x]
theorem addNew_t {acc : List Str} {x : Str} (h : acc.any (· == x) = true) : addNew acc x = acc := if_pos h
theorem addNew_f {acc : List Str} {x : Str} (h : acc.any (· == x) = false) : addNew acc x = acc ++ [x] := if_neg (by rw [h]; exact Bool.false_ne_true)
theorem comma_t {c : Nat} (h : ((⟨#[c]⟩ : Str) == Str.ofString ",") = true) : c = 44 := by
  have e := congrArg (fun z : Str => z.cps.toList) (eq_of_beq h)
  simp only [lit_c] at e
  exact (List.cons.inj e).1
theorem comma_f {c : Nat} (h : ((⟨#[c]⟩ : Str) == Str.ofString ",") = false) : c ≠ 44 := by
  rintro rfl
  rw [show ((⟨#[44]⟩ : Str) == Str.ofString ",") = true from by decide +kernel] at h
  cases h
theorem strs_app {vs vs' : List Value} {ys ys' : List Str} (h : StrsAre vs ys) (h' : StrsAre vs' ys') : StrsAre (vs ++ vs') (ys ++ ys') := by
  induction h with
  | nil => exact h'
  | cons y t _ ih => exact .cons y t ih
theorem strs_snoc {its : Array Value} {acc : List Str} {x : Str} {t : Tok} (h : StrsAre its.toList acc) : StrsAre (its.push (.str x t)).toList (acc ++ [x]) := by
  rw [Array.toList_push]
  exact strs_app h (.cons x t .nil)
theorem strs_len {vs : List Value} {acc : List Str} (h : StrsAre vs acc) : vs.length = acc.length := by
  induction h with
  | nil => rfl
  | cons y t _ ih => simp only [List.length_cons, ih]
theorem strs_fit {its : Array Value} {acc : List Str} {x : Value} {k : Nat} (h : StrsAre its.toList acc) (hk : acc.length + (k + 1) ≤ 1000) : (its.push x).size ≤ sizeLine := by
  have e := strs_len h
  rw [Array.length_toList] at e
  rw [Array.size_push, e, sizeLine_eq]
  omega
variable {w : World} {mean : ExcName → Option Value} {mg mb : Str → Option Value}
variable {S : Str} {aS dS aE aW : Addr} {k1 k2 k3 k4 t1 : Tok}
theorem impnames_con {P : Int} {t3 : Tok} {g : Obj → List (Addr × Obj)} {vs : List Value} {n : Nat} {ys : List Str} {l0 : List Nat} {nms : List Str} (hg : Slot dS g) (hS : SlotIn (aS, instObj 228 dS) g) (hW : SlotIn (aW, tupO vs n) g) (hV : StrsAre vs ys)
    (hl : At S P l0) (hrows : Rows ys l0 nms) (hlen : nms.length ≤ 1000) :
    Con w mean mg mb (.ref 267) [.ref aS] 40 300 (g (scanD w S aE aW k1 k2 k3 k4 t1 P t3)) (fun r news' => Ex5 fun aN its n' P' t' => And4 (r = .ref aN) (StrsAre its.toList (nms.foldl addNew [])) (news' = (aN, listOf its n') :: g (scanD w S aE aW k1 k2 k3 k4 t1 P' t')) (∀ o, ∀ q ∈ g o, q.1 < aN)) := by
  w_top off
  unfold Con
  k_fill
  intro dp un gd cn cs a ccd cl outer A₀ base h₀ L m s Q E B F X N T hk hd hu hret
  refine wpAny_call ?_
  k_dflt (refine' code_def ?k1 ?k2 ?k3 ?k4 ?k5 ?kA ?kF ?kK ?k6 ?k7 ?k8 ?k9 ?kB ?_ ?c2 ?c3 ?c4 ?c5; (case kA => exact rfl); (case kF => exact rfl); (case kK => assumption); (case k1 => k_asm); (case k2 => k_asm); (case k3 => k_asm); (case k4 => k_asm); (case k5 => k_asm); (case k6 => k_is); (case k7 => k_is); (case k8 => ktr_room); (case k9 => first | exact BindsTo.of_eq rfl | exact binds_K (by k_in) rfl (by k_is) rfl rfl rfl); (case c5 => decide); (case kB => exact locs rfl); (case c2 => exact rfl); (case c3 => exact rfl); (case c4 => exact rfl); k_whole; intro g' L' h' FG' F' N' B' X' T'; (try dsimp only); (try refine norm_A ?_); (try refine tok_gen fun tk0 => ?_); (try k_fold))
  ((try k_fold); repeat' (first | (k_unfold; (try dsimp only)) | ((with_reducible show wpAny _ _ (exec (Stmt.While _ _ _ _) _) _ _ _); (k_dflt (refine loop_start ?_))) | walk1 | (dsimp only; walk1) | (leave1; (try dsimp only)) | fail "no step"))
  rename ∀ p ∈ g _, p.1 < _ => hlt0
  have hlt := fun o => slot_lt hg o hlt0
  have hNS := slot_below hg hlt
  refine loop_ind (s₀ := s) (I := fun (i : Option (List Nat × List Str)) h => ∃ m aN its n' P' t', Fr g' L' h m ∧ m (Str.ofString "scanner") = some (.ref aS) ∧ m (Str.ofString "names") = some (.ref aN) ∧ m (Str.ofString "more") = some (.bool i.isSome) ∧ News g' L' h ((aN, listOf its n') :: g (scanD w S aE aW k1 k2 k3 k4 t1 P' t')) ∧ @LT.lt Nat _ dS aN ∧ (∀ o, ∀ q ∈ g o, q.1 < aN) ∧ its.size ≤ sizeLine ∧
      (∃ acc, StrsAre its.toList acc ∧ (∀ l1 nm1, i = some (l1, nm1) → At S P' l1 ∧ Rows ys l1 nm1 ∧ nm1.foldl addNew acc = nms.foldl addNew [] ∧ acc.length + nm1.length ≤ 1000) ∧ (i = none → acc = nms.foldl addNew []))) (fun i => match i with | some x => x.2.length + 1 | none => 0) ?hE ?turn (some (l0, nms)) _ _
      ⟨_, _, _, _, _, _, (by k_asm), rfl, rfl, rfl, (by k_asm), hNS, hlt, (by decide), [], .nil, (fun l1 nm1 e => (by cases e; exact ⟨hl, hrows, rfl, by simpa using hlen⟩)), (fun e => by cases e)⟩
  case hE => first | passes_own | with_unfolding_all passes_own
  case turn =>
    clear hl hrows hlt hNS hlt0
    intro Again i h tk ⟨m, aN, its, n', P', t', F1, hsc, hna, hmo, N1, hNS, hlt, hsz, acc, hacc, hsome, hnone⟩ IH
    have F2 := fr_three F1 hsc hna hmo
    clear F1
    cases i with
    | none =>
      have hA := hnone rfl
      clear hsome hnone
      simp only [Option.isSome_none] at F2
      subst hA
      ((try k_fold); repeat' (first | (k_unfold; (try dsimp only)) | walk1 | (dsimp only; walk1) | (leave1; (try dsimp only)) | fail "no step"))
      exact hret _ _ _ _ (by k_asm) (by k_asm) ⟨_, _, _, _, _, rfl, hacc, rfl, hlt⟩
    | some x =>
      obtain ⟨l1, nm1⟩ := x
      obtain ⟨hA, hR, hfo, hle⟩ := hsome _ _ rfl
      clear hsome hnone
      simp only [Option.isSome_some] at F2
      obtain ⟨nm, rest, c, d, l, rfl, hI, hrest⟩ := hR.step
      clear hR
      obtain ⟨hw, hf, hs, ht⟩ := hI
      have hne := ht.ne hw.ne
      obtain ⟨c2, cs2, rfl, hc0, hc1, hb⟩ := hw
      have hd1 := hf.1
      have hd2 := hf.2
      have hc : c = 44 ∨ c = 59 := hrest.elim (fun h => .inr h.1) fun h => .inl h.1
      ((try k_fold); repeat' (first | (k_unfold; (try dsimp only)) | ((with_reducible show wpAny _ _ (call (Value.ref 260) _) _ _ _); k_dflt ( (refine' con_useU ?zzU (impname_any_con ?zzhg ?zzhS ?zzhW ?zzhV ?zzhT ?zzhTd ?zzhl ?zzhc ?zzht) ?zzkB ?zzkF ?zzkX ?zzkN ?zzkT ?zzkK ?zzkd ?zzku ?_; (case zzhl => assumption); (case zzht => assumption); (case zzhc => assumption); (case zzhV => assumption); (case zzkB => k_asm); (case zzkF => k_asm); (case zzkX => k_asm); (case zzkN => k_asm); (case zzkT => k_asm); (case zzkK => exact rfl); (case zzU => k_updF); (case zzhg => ktr_unf); (case zzhS => (intro o9; (try dsimp only); k_mem)); (case zzhW => (intro o9; (try dsimp only); k_mem)); (case zzhT => (intro o9; (try dsimp only); k_mem)); (case zzhTd => (intro o9; (try dsimp only); k_mem)); (case zzkd => ktr_room); (case zzku => ktr_units); intro r9 news9 h9 tk9 F9 N9 p9; obtain ⟨aR9, aT9, dT9, j19, j29, j39, t09, tk19, vv9, pv9, P9, t9, e9, n9, hA9, l9, l5, l8⟩ := p9; subst e9 n9; (try dsimp only at N9); (try dsimp only at l8); have l9 := ltN l9; have l5 := ltN l5; (try have l7 := slot_below (by assumption) (fun o9 q9 h9 => l8 o9 q9 (by repeat (first | exact h9 | refine List.Mem.tail _ ?_)))); have l6 := l8 default; (try k_lt l6); (try dsimp only); (try k_sweep)))) | ((with_reducible show wpAny _ _ (compareOp CmpOp.NotEq (Value.str _ _) (Value.str _ _)) _ _ _); (k_dflt (refine nes_true (by assumption) ?_))) | ((with_reducible show wpAny _ _ (call (Value.ref 148) _) _ _ _); k_dflt (first | (refine' con_useU ?zzU (take_sym_con ?zzhg ?zzhS ?zzhl ?zzhsk ?zzhc) ?zzkB ?zzkF ?zzkX ?zzkN ?zzkT ?zzkK ?zzkd ?zzku ?_; (case zzhl => assumption); (case zzhsk => assumption); (case zzhc => first | assumption | exact .inl rfl | exact .inr rfl); (case zzkB => k_asm); (case zzkF => k_asm); (case zzkX => k_asm); (case zzkN => k_asm); (case zzkT => k_asm); (case zzkK => exact rfl); (case zzU => k_updF); (case zzhg => ktr_unf); (case zzhS => (intro o9; (try dsimp only); k_mem)); (case zzkd => ktr_room); (case zzku => ktr_units); intro r9 news9 h9 tk9 F9 N9 p9; obtain ⟨aT9, dT9, j19, j29, j39, tk19, tk29, pv9, P9, t9, e9, n9, hA9, l9, l8⟩ := p9; subst e9 n9; (try dsimp only at N9); (try dsimp only at l8); have l9 := ltN l9; (try have l7 := slot_below (by assumption) (fun o9 q9 h9 => l8 o9 q9 (by repeat (first | exact h9 | refine List.Mem.tail _ ?_)))); have l6 := l8 default; (try k_lt l6); (try dsimp only); (try k_sweep)) | (refine' con_useU ?zzU (take_asg_con ?zzhg ?zzhS ?zzhl ?zzhsk) ?zzkB ?zzkF ?zzkX ?zzkN ?zzkT ?zzkK ?zzkd ?zzku ?_; (case zzhl => assumption); (case zzhsk => assumption); (case zzkB => k_asm); (case zzkF => k_asm); (case zzkX => k_asm); (case zzkN => k_asm); (case zzkT => k_asm); (case zzkK => exact rfl); (case zzU => k_updF); (case zzhg => ktr_unf); (case zzhS => (intro o9; (try dsimp only); k_mem)); (case zzkd => ktr_room); (case zzku => ktr_units); intro r9 news9 h9 tk9 F9 N9 p9; obtain ⟨aT9, dT9, j19, j29, j39, tk19, tk29, pv9, P9, t9, e9, n9, hA9, l9, l8⟩ := p9; subst e9 n9; (try dsimp only at N9); (try dsimp only at l8); have l9 := ltN l9; (try have l7 := slot_below (by assumption) (fun o9 q9 h9 => l8 o9 q9 (by repeat (first | exact h9 | refine List.Mem.tail _ ?_)))); have l6 := l8 default; (try k_lt l6); (try dsimp only); (try k_sweep)) | (refine' con_useU ?zzU (take_id_con ?zzhg ?zzhS ?zzhW ?zzhV ?zzhb ?zzhl ?zzhsk ?zzhc0 ?zzhc ?zzhd1 ?zzhd2) ?zzkB ?zzkF ?zzkX ?zzkN ?zzkT ?zzkK ?zzkd ?zzku ?_; (case zzhl => assumption); (case zzhsk => assumption); (case zzhb => assumption); (case zzhV => assumption); (case zzhc0 => assumption); (case zzhc => assumption); (case zzhd1 => first | assumption | exact rfl); (case zzhd2 => first | assumption | exact rfl); (case zzkB => k_asm); (case zzkF => k_asm); (case zzkX => k_asm); (case zzkN => k_asm); (case zzkT => k_asm); (case zzkK => exact rfl); (case zzU => k_updF); (case zzhg => ktr_unf); (case zzhS => (intro o9; (try dsimp only); k_mem)); (case zzhW => (intro o9; (try dsimp only); k_mem)); (case zzkd => ktr_room); (case zzku => ktr_units); intro r9 news9 h9 tk9 F9 N9 p9; obtain ⟨aT9, dT9, j19, j29, j39, tk19, tk29, pv9, P9, t9, e9, n9, hA9, l9, l8⟩ := p9; subst e9 n9; (try dsimp only at N9); (try dsimp only at l8); have l9 := ltN l9; (try have l7 := slot_below (by assumption) (fun o9 q9 h9 => l8 o9 q9 (by repeat (first | exact h9 | refine List.Mem.tail _ ?_)))); have l6 := l8 default; (try k_lt l6); (try dsimp only); (try k_sweep)) | (refine' con_useU ?zzU (take_kw_con ?zzhg ?zzhS ?zzhW ?zzhV ?zzhb ?zzhl ?zzhsk ?zzhc0 ?zzhc ?zzhd1 ?zzhd2) ?zzkB ?zzkF ?zzkX ?zzkN ?zzkT ?zzkK ?zzkd ?zzku ?_; (case zzhl => assumption); (case zzhsk => assumption); (case zzhb => assumption); (case zzhV => assumption); (case zzhc0 => first | assumption | exact rfl); (case zzhc => first | assumption | decide); (case zzhd1 => first | assumption | exact rfl); (case zzhd2 => first | assumption | exact rfl); (case zzkB => k_asm); (case zzkF => k_asm); (case zzkX => k_asm); (case zzkN => k_asm); (case zzkT => k_asm); (case zzkK => exact rfl); (case zzU => k_updF); (case zzhg => ktr_unf); (case zzhS => (intro o9; (try dsimp only); k_mem)); (case zzhW => (intro o9; (try dsimp only); k_mem)); (case zzkd => ktr_room); (case zzku => ktr_units); intro r9 news9 h9 tk9 F9 N9 p9; obtain ⟨aT9, dT9, j19, j29, j39, tk19, tk29, pv9, P9, t9, e9, n9, hA9, l9, l8⟩ := p9; subst e9 n9; (try dsimp only at N9); (try dsimp only at l8); have l9 := ltN l9; (try have l7 := slot_below (by assumption) (fun o9 q9 h9 => l8 o9 q9 (by repeat (first | exact h9 | refine List.Mem.tail _ ?_)))); have l6 := l8 default; (try k_lt l6); (try dsimp only); (try k_sweep)))) | ((with_reducible show LPost _ _ _ _); (dsimp only [LPost])) | walk1 | (dsimp only; walk1) | (leave1; (try dsimp only)) | fail "no step"))
      all_goals first
        | ((rename (List.any acc fun x => x == _) = true => hb9); (rename ((⟨#[c]⟩ : Str) == Str.ofString ",") = true => hc9); have hR9 := (hrest.resolve_left (fun h => absurd (h.1.symm.trans (comma_t hc9)) (by decide))).2;
            exact IH (some (_, _)) _ _ (Nat.lt_succ_self _) ⟨_, _, _, _, _, _, by k_asm, rfl, rfl, (by first | rfl | exact congrArg (fun b => some (Value.bool b)) hc9), (news_sub (by k_asm) (fun p hp => .tail _ (.tail _ (.tail _ (.tail _ (.tail _ hp)))))), hNS, hlt, hsz, acc, hacc, (fun _ _ e => by cases e; exact ⟨by assumption, hR9, by rw [← hfo, List.foldl_cons, addNew_t hb9], by rw [List.length_cons] at hle; omega⟩), fun e => by cases e⟩)
        | ((rename (List.any acc fun x => x == _) = true => hb9); (rename ((⟨#[c]⟩ : Str) == Str.ofString ",") = false => hc9); have hr9 := (hrest.resolve_right (fun h => comma_f hc9 h.1)).2; subst hr9;
            exact IH none _ _ (Nat.succ_pos _) ⟨_, _, _, _, _, _, by k_asm, rfl, rfl, (by first | rfl | exact congrArg (fun b => some (Value.bool b)) hc9), (news_sub (by k_asm) (fun p hp => .tail _ (.tail _ (.tail _ (.tail _ (.tail _ hp)))))), hNS, hlt, hsz, acc, hacc, (fun _ _ e => by cases e), fun _ => by rw [← hfo]; exact (addNew_t hb9).symm⟩)
        | ((rename (List.any acc fun x => x == _) = false => hb9); (rename ((⟨#[c]⟩ : Str) == Str.ofString ",") = true => hc9); have hR9 := (hrest.resolve_left (fun h => absurd (h.1.symm.trans (comma_t hc9)) (by decide))).2;
            exact IH (some (_, _)) _ _ (Nat.lt_succ_self _) ⟨_, _, _, _, _, _, by k_asm, rfl, rfl, (by first | rfl | exact congrArg (fun b => some (Value.bool b)) hc9), (news_sub (by k_asm) (fun p hp => .tail _ (.tail _ (.tail _ (.tail _ (.tail _ hp)))))), hNS, hlt, strs_fit hacc hle, _, strs_snoc hacc, (fun _ _ e => by cases e; exact ⟨by assumption, hR9, by rw [← hfo, List.foldl_cons, addNew_f hb9], by rw [List.length_cons] at hle; rw [List.length_append, List.length_singleton]; omega⟩), fun e => by cases e⟩)
        | ((rename (List.any acc fun x => x == _) = false => hb9); (rename ((⟨#[c]⟩ : Str) == Str.ofString ",") = false => hc9); have hr9 := (hrest.resolve_right (fun h => comma_f hc9 h.1)).2; subst hr9;
            exact IH none _ _ (Nat.succ_pos _) ⟨_, _, _, _, _, _, by k_asm, rfl, rfl, (by first | rfl | exact congrArg (fun b => some (Value.bool b)) hc9), (news_sub (by k_asm) (fun p hp => .tail _ (.tail _ (.tail _ (.tail _ (.tail _ hp)))))), hNS, hlt, strs_fit hacc hle, _, strs_snoc hacc, (fun _ _ e => by cases e), fun _ => by rw [← hfo]; exact (addNew_f hb9).symm⟩)
end
section
variable {w : World} {mean : ExcName → Option Value} {mg mb : Str → Option Value}
def kws : List Str := [Str.ofString "ARRAY", Str.ofString "BEGIN", Str.ofString "BY", Str.ofString "CASE", Str.ofString "CONST", Str.ofString "DIV", Str.ofString "DO", Str.ofString "ELSE", Str.ofString "ELSIF", Str.ofString "END", Str.ofString "FOR", Str.ofString "IF", Str.ofString "IMPORT", Str.ofString "IN", Str.ofString "IS", Str.ofString "MOD", Str.ofString "MODULE", Str.ofString "NIL", Str.ofString "OF", Str.ofString "OR", Str.ofString "POINTER", Str.ofString "PROCEDURE", Str.ofString "RECORD", Str.ofString "REPEAT", Str.ofString "RETURN", Str.ofString "THEN", Str.ofString "TO", Str.ofString "TYPE", Str.ofString "UNTIL", Str.ofString "VAR", Str.ofString "WHILE"]
theorem kw_module : kws.any (· == ⟨[77, 79, 68, 85, 76, 69].toArray⟩) = true := by decide +kernel
theorem kw_import : kws.any (· == ⟨[73, 77, 80, 79, 82, 84].toArray⟩) = true := by decide +kernel
theorem kw_begin : kws.any (· == ⟨[66, 69, 71, 73, 78].toArray⟩) = true := by decide +kernel
abbrev headD (w : World) (q1 q2 : Tok) (nm : Value) (aI : Addr) : Obj :=
  dictOf [⟨PyData.keyHash w.params (Str.ofString "name"), .str (Str.ofString "name") q1, nm⟩, ⟨PyData.keyHash w.params (Str.ofString "imports"), .str (Str.ofString "imports") q2, .ref aI⟩] 2
/-- what head_of leaves -/
def HeadPost (w : World) (news : List (Addr × Obj)) (nms : List Str) (r : Value) (news' : List (Addr × Obj)) : Prop :=
  Ex8 fun aH dH aI q1 q2 nm its n => And6 (r = .ref aH) (news' = (aH, instObj 249 dH) :: (dH, headD w q1 q2 nm aI) :: (aI, listOf its n) :: news) (StrsAre its.toList nms) (dH < aH) (aI < dH) (∀ q ∈ news, q.1 < aI)
/-- the text of a module's head -/
structure HeadTxt (S : Str) (nms : List Str) : Prop where
  txt : ∃ full r1 r2 r3 r4 c cs d1 d2 d3 d4 c4 cs4, At S 0 full ∧ Skips full ([77, 79, 68, 85, 76, 69] ++ d1 :: r1) ∧ Fin1 d1 ∧ Skips (d1 :: r1) ((c :: cs) ++ d2 :: r2) ∧ Wd kws (c :: cs) ∧ Fin1 d2 ∧ Skips (d2 :: r2) (59 :: d3 :: r3) ∧
    Skips (d3 :: r3) ((c4 :: cs4) ++ d4 :: r4) ∧ Fin1 d4 ∧ kws.any (· == ⟨(c4 :: cs4).toArray⟩) = true ∧ isL c4 = true ∧ (∀ x ∈ c4 :: cs4, isL x = true ∨ isD x = true) ∧
    (((⟨(c4 :: cs4).toArray⟩ : Str) != Str.ofString "IMPORT") = false → Rows kws (d4 :: r4) nms) ∧ (((⟨(c4 :: cs4).toArray⟩ : Str) != Str.ofString "IMPORT") = true → nms = [])
  fit : nms.length ≤ 1000
theorem headof_con {S : Str} {tS : Tok} {news : List (Addr × Obj)} {nms : List Str} (H : HeadTxt S nms) :
    Con w mean mg mb (.ref 274) [.str S tS] 60 500 news (HeadPost w news (nms.foldl addNew [])) := by
  w_top off
  obtain ⟨⟨full, r1, r2, r3, r4, c, cs9, d1, d2, d3, d4, c4, cs4, hl, hs1, hf1, hs2, hw, hf2, hs3, hs4, hf4, hb4, hc4, hcs4, hrows, hnil⟩, hlen⟩ := H
  obtain ⟨c', cs', hcc, hc0, hc1, hb⟩ := hw
  obtain ⟨rfl, rfl⟩ := List.cons.inj hcc
  clear hcc
  have hd11 := hf1.1
  have hd12 := hf1.2
  have hd21 := hf2.1
  have hd22 := hf2.2
  have hd41 := hf4.1
  have hd42 := hf4.2
  have hbm := kw_module
  unfold Con
  k_fill
  intro dp un gd cn cs a ccd cl outer A₀ base h₀ L m s Q E B F X N T hk hd hu hret
  refine wpAny_call ?_
  k_dflt (refine' code_def ?k1 ?k2 ?k3 ?k4 ?k5 ?kA ?kF ?kK ?k6 ?k7 ?k8 ?k9 ?kB ?_ ?c2 ?c3 ?c4 ?c5; (case kA => exact rfl); (case kF => exact rfl); (case kK => assumption); (case k1 => k_asm); (case k2 => k_asm); (case k3 => k_asm); (case k4 => k_asm); (case k5 => k_asm); (case k6 => k_is); (case k7 => k_is); (case k8 => ktr_room); (case k9 => first | exact BindsTo.of_eq rfl | exact binds_K (by k_in) rfl (by k_is) rfl rfl rfl); (case c5 => decide); (case kB => exact locs rfl); (case c2 => exact rfl); (case c3 => exact rfl); (case c4 => exact rfl); k_whole; intro g' L' h' FG' F' N' B' X' T'; (try dsimp only); (try refine norm_A ?_); (try refine tok_gen fun tk0 => ?_); (try k_fold))
  ((try k_fold); repeat' (first | (k_unfold; (try dsimp only)) | ((with_reducible show wpAny _ _ (call (Value.ref 148) _) _ _ _); (fail_if_success (with_reducible rename Slot _ _ => hx9)); refine loopify ?_) | walk1 | (dsimp only; walk1) | (leave1; (try dsimp only)) | fail "no step"))
  refine Loop.in ?_
  refine' absorb (ys := kws) (rest := news) ?N ?U ?hS ?hW ?hV ?hsub ?_
  case N => k_asm
  case U => k_updF
  case hS => (intro o9; (try dsimp only); k_mem)
  case hW => (intro o9; (try dsimp only); k_mem)
  case hV => (repeat constructor)
  case hsub => (intro o9 q9 h9; (try dsimp only); repeat (first | exact h9 | refine List.Mem.tail _ ?_))
  intro g vs n k1 k2 k3 k4 t3 hg hS hW hV hsub N1
  (try k_sweep)
  ((try k_fold); repeat' (first | (k_unfold; (try dsimp only)) | ((with_reducible show wpAny _ _ (call (Value.ref 267) _) _ _ _); k_dflt ( (refine' con_useU ?zzU (impnames_con ?zzhg ?zzhS ?zzhW ?zzhV ?zzhl ?zzhrows ?zzhlen) ?zzkB ?zzkF ?zzkX ?zzkN ?zzkT ?zzkK ?zzkd ?zzku ?_; (case zzhrows => first | assumption | exact ‹(_ : Bool) = false → Rows _ _ _› (by assumption)); (case zzhl => assumption); (case zzhlen => assumption); (case zzhV => assumption); (case zzkB => k_asm); (case zzkF => k_asm); (case zzkX => k_asm); (case zzkN => k_asm); (case zzkT => k_asm); (case zzkK => exact rfl); (case zzU => k_updF); (case zzhg => ktr_unf); (case zzhS => (intro o9; (try dsimp only); k_mem)); (case zzhW => (intro o9; (try dsimp only); k_mem)); (case zzkd => ktr_room); (case zzku => ktr_units); intro r9 news9 h9 tk9 F9 N9 p9; obtain ⟨aN9, its9, nn9, P9, t9, e9, hI9, n9, l8⟩ := p9; subst e9 n9; (try dsimp only at N9); (try dsimp only at l8); have l6 := l8 default; (try k_lt l6); (try dsimp only); (try k_sweep)))) | ((with_reducible show wpAny _ _ (call (Value.ref 148) _) _ _ _); k_dflt (first | (refine' con_useU ?zzU (take_sym_con ?zzhg ?zzhS ?zzhl ?zzhsk ?zzhc) ?zzkB ?zzkF ?zzkX ?zzkN ?zzkT ?zzkK ?zzkd ?zzku ?_; (case zzhl => assumption); (case zzhsk => assumption); (case zzhc => first | assumption | exact .inl rfl | exact .inr rfl); (case zzkB => k_asm); (case zzkF => k_asm); (case zzkX => k_asm); (case zzkN => k_asm); (case zzkT => k_asm); (case zzkK => exact rfl); (case zzU => k_updF); (case zzhg => ktr_unf); (case zzhS => (intro o9; (try dsimp only); k_mem)); (case zzkd => ktr_room); (case zzku => ktr_units); intro r9 news9 h9 tk9 F9 N9 p9; obtain ⟨aT9, dT9, j19, j29, j39, tk19, tk29, pv9, P9, t9, e9, n9, hA9, l9, l8⟩ := p9; subst e9 n9; (try dsimp only at N9); (try dsimp only at l8); have l9 := ltN l9; (try have l7 := slot_below (by assumption) (fun o9 q9 h9 => l8 o9 q9 (by repeat (first | exact h9 | refine List.Mem.tail _ ?_)))); have l6 := l8 default; (try k_lt l6); (try dsimp only); (try k_sweep)) | (refine' con_useU ?zzU (take_asg_con ?zzhg ?zzhS ?zzhl ?zzhsk) ?zzkB ?zzkF ?zzkX ?zzkN ?zzkT ?zzkK ?zzkd ?zzku ?_; (case zzhl => assumption); (case zzhsk => assumption); (case zzkB => k_asm); (case zzkF => k_asm); (case zzkX => k_asm); (case zzkN => k_asm); (case zzkT => k_asm); (case zzkK => exact rfl); (case zzU => k_updF); (case zzhg => ktr_unf); (case zzhS => (intro o9; (try dsimp only); k_mem)); (case zzkd => ktr_room); (case zzku => ktr_units); intro r9 news9 h9 tk9 F9 N9 p9; obtain ⟨aT9, dT9, j19, j29, j39, tk19, tk29, pv9, P9, t9, e9, n9, hA9, l9, l8⟩ := p9; subst e9 n9; (try dsimp only at N9); (try dsimp only at l8); have l9 := ltN l9; (try have l7 := slot_below (by assumption) (fun o9 q9 h9 => l8 o9 q9 (by repeat (first | exact h9 | refine List.Mem.tail _ ?_)))); have l6 := l8 default; (try k_lt l6); (try dsimp only); (try k_sweep)) | (refine' con_useU ?zzU (take_id_con ?zzhg ?zzhS ?zzhW ?zzhV ?zzhb ?zzhl ?zzhsk ?zzhc0 ?zzhc ?zzhd1 ?zzhd2) ?zzkB ?zzkF ?zzkX ?zzkN ?zzkT ?zzkK ?zzkd ?zzku ?_; (case zzhl => assumption); (case zzhsk => assumption); (case zzhb => assumption); (case zzhV => assumption); (case zzhc0 => assumption); (case zzhc => assumption); (case zzhd1 => first | assumption | exact rfl); (case zzhd2 => first | assumption | exact rfl); (case zzkB => k_asm); (case zzkF => k_asm); (case zzkX => k_asm); (case zzkN => k_asm); (case zzkT => k_asm); (case zzkK => exact rfl); (case zzU => k_updF); (case zzhg => ktr_unf); (case zzhS => (intro o9; (try dsimp only); k_mem)); (case zzhW => (intro o9; (try dsimp only); k_mem)); (case zzkd => ktr_room); (case zzku => ktr_units); intro r9 news9 h9 tk9 F9 N9 p9; obtain ⟨aT9, dT9, j19, j29, j39, tk19, tk29, pv9, P9, t9, e9, n9, hA9, l9, l8⟩ := p9; subst e9 n9; (try dsimp only at N9); (try dsimp only at l8); have l9 := ltN l9; (try have l7 := slot_below (by assumption) (fun o9 q9 h9 => l8 o9 q9 (by repeat (first | exact h9 | refine List.Mem.tail _ ?_)))); have l6 := l8 default; (try k_lt l6); (try dsimp only); (try k_sweep)) | (refine' con_useU ?zzU (take_kw_con ?zzhg ?zzhS ?zzhW ?zzhV ?zzhb ?zzhl ?zzhsk ?zzhc0 ?zzhc ?zzhd1 ?zzhd2) ?zzkB ?zzkF ?zzkX ?zzkN ?zzkT ?zzkK ?zzkd ?zzku ?_; (case zzhl => assumption); (case zzhsk => assumption); (case zzhb => assumption); (case zzhV => assumption); (case zzhc0 => first | assumption | exact rfl); (case zzhc => first | assumption | decide); (case zzhd1 => first | assumption | exact rfl); (case zzhd2 => first | assumption | exact rfl); (case zzkB => k_asm); (case zzkF => k_asm); (case zzkX => k_asm); (case zzkN => k_asm); (case zzkT => k_asm); (case zzkK => exact rfl); (case zzU => k_updF); (case zzhg => ktr_unf); (case zzhS => (intro o9; (try dsimp only); k_mem)); (case zzhW => (intro o9; (try dsimp only); k_mem)); (case zzkd => ktr_room); (case zzku => ktr_units); intro r9 news9 h9 tk9 F9 N9 p9; obtain ⟨aT9, dT9, j19, j29, j39, tk19, tk29, pv9, P9, t9, e9, n9, hA9, l9, l8⟩ := p9; subst e9 n9; (try dsimp only at N9); (try dsimp only at l8); have l9 := ltN l9; (try have l7 := slot_below (by assumption) (fun o9 q9 h9 => l8 o9 q9 (by repeat (first | exact h9 | refine List.Mem.tail _ ?_)))); have l6 := l8 default; (try k_lt l6); (try dsimp only); (try k_sweep)))) | walk1 | (dsimp only; walk1) | (leave1; (try dsimp only)) | fail "no step"))
  all_goals first
    | exact hret _ _ _ _ (by k_asm) (news_sub (by k_asm) (sub3r (fun p9 hp9 => (by repeat (first | exact hsub _ _ (by assumption) | refine List.Mem.tail _ ?_))))) ⟨_, _, _, _, _, _, _, _, rfl, rfl, by assumption, by assumption, ltN (by omega), fun q9 hq9 => ‹∀ (o : Obj) (q : Addr × Obj), q ∈ _ → q.1 < _› default q9 (by repeat (first | exact hsub _ _ (by assumption) | refine List.Mem.tail _ ?_))⟩
    | exact hret _ _ _ _ (by k_asm) (news_sub (by k_asm) (sub3r (fun p9 hp9 => (by repeat (first | exact hsub _ _ (by assumption) | refine List.Mem.tail _ ?_))))) ⟨_, _, _, _, _, _, _, _, rfl, rfl, by (rw [hnil (by assumption)]; exact .nil), by assumption, ltN (by omega), fun q9 hq9 => ktn_ltOf (by tbn_find) q9 (hsub _ q9 hq9)⟩
end
section
/-- the names that a source may bear -/
def NAMES : List Str := [Str.ofString "A", Str.ofString "B", Str.ofString "C", Str.ofString "D", Str.ofString "E", Str.ofString "Out", Str.ofString "Q"]
def ALIAS : List (List Nat) := [[], [97, 108, 32, 58, 61, 32], [98, 49, 58, 61]]
def SEPS : List (List Nat) := [[44], [32, 44, 32], [44, 40, 42, 32, 120, 44, 32, 121, 32, 42, 41]]
/-- the row of imports as it is built, and what it imports -/
inductive Imp : List Nat → List Str → Prop
  | none : Imp [] []
  | one {al : List Nat} {x : Str} : al ∈ ALIAS → x ∈ NAMES → Imp (al ++ x.cps.toList) [x]
  | more {t sep al : List Nat} {nms : List Str} {x : Str} : Imp t nms → nms ≠ [] → sep ∈ SEPS → al ∈ ALIAS → x ∈ NAMES → Imp (t ++ (sep ++ (al ++ x.cps.toList))) (nms ++ [x])
theorem name_wd : ∀ x ∈ NAMES, Wd kws x.cps.toList := by
  intro x hx
  have key : ∀ x ∈ NAMES, (match x.cps.toList with | [] => false | c :: cs => isL c && ((c :: cs).all fun y => isL y || isD y) && !(kws.any (· == ⟨(c :: cs).toArray⟩))) = true := by decide +kernel
  have := key x hx
  generalize x.cps.toList = l at this ⊢
  cases l with
  | nil => cases this
  | cons c cs =>
    simp only [Bool.and_eq_true, List.all_eq_true, Bool.or_eq_true, Bool.not_eq_true'] at this
    exact ⟨c, cs, rfl, this.1.1, this.1.2, this.2⟩
theorem isL_stop {c : Nat} {l : List Nat} (h : isL c = true) : Skips (c :: l) (c :: l) := by
  unfold isL at h
  simp only [Bool.or_eq_true, Bool.and_eq_true, decide_eq_true_eq] at h
  exact .stop (by omega) (by omega) (by omega)
theorem wd_stop {wd l : List Nat} (h : Wd kws wd) : Skips (wd ++ l) (wd ++ l) := by
  obtain ⟨c, cs, rfl, hc, _⟩ := h
  exact isL_stop hc
/-- what the skipping passes -/
def Thru (ws : List Nat) : Prop := ∀ l l', Skips l l' → Skips (ws ++ l) l'
theorem thru_nil : Thru [] := fun _ _ h => h
theorem thru_blank : Thru [32] := fun _ _ h => .blank h
theorem thru_row : Thru [10] := fun _ _ h => .row h
theorem thru_remark : Thru [40, 42, 32, 120, 44, 32, 121, 32, 42, 41] := fun l _ h => by
  have := Skips.remark (b := [32, 120, 44, 32, 121, 32]) (l := l) (by decide) h
  exact this
/-- how an item of the row ends -/
def Ends (k : List Nat) (nms : List Str) : Prop := ∃ d1 r c d l, k = d1 :: r ∧ Fin1 d1 ∧ Skips k (c :: d :: l) ∧ (c = 59 ∧ nms = [] ∨ c = 44 ∧ Rows kws (d :: l) nms)
theorem rows_of {l0 : List Nat} {nm : Str} {c d : Nat} {l : List Nat} {nms : List Str} (h : Item kws l0 nm c d l) (e : c = 59 ∧ nms = [] ∨ c = 44 ∧ Rows kws (d :: l) nms) : Rows kws l0 (nm :: nms) := by
  rcases e with ⟨rfl, rfl⟩ | ⟨rfl, e⟩
  · exact .last h
  · exact .more h e
theorem str_back (x : Str) : x = ⟨x.cps.toList.toArray⟩ := by cases x; rfl
theorem item_ends {al ws k : List Nat} {x : Str} {nms : List Str} (ha : al ∈ ALIAS) (hx : x ∈ NAMES) (hk : Ends k nms) (hw : Thru ws) : Rows kws (ws ++ (al ++ (x.cps.toList ++ k))) (x :: nms) := by
  obtain ⟨d1, r, c, d, l, rfl, hf, hs, he⟩ := hk
  have hwd := name_wd x hx
  refine rows_of (c := c) (d := d) (l := l) ?_ he
  have ha : al = [] ∨ al = [97, 108, 32, 58, 61, 32] ∨ al = [98, 49, 58, 61] := by simpa [ALIAS] using ha
  rcases ha with rfl | rfl | rfl
  · exact .mk hwd hf (hw _ _ (wd_stop (wd := x.cps.toList) hwd)) (.plain (str_back x) hs)
  · refine .mk (wd := [97, 108]) (d1 := 32) (r1 := 58 :: 61 :: 32 :: (x.cps.toList ++ d1 :: r)) ⟨97, [108], rfl, by decide, by decide, by decide +kernel⟩ ⟨by decide, by decide⟩ (hw _ _ (isL_stop (by decide))) ?_
    exact .alias (r2 := 32 :: (x.cps.toList ++ d1 :: r)) (wd2 := x.cps.toList) (r3 := r) (d2 := d1) (.blank (.stop (by decide) (by decide) (by decide))) hwd (str_back x) hf (.blank (wd_stop (wd := x.cps.toList) hwd)) hs
  · refine .mk (wd := [98, 49]) (d1 := 58) (r1 := 61 :: (x.cps.toList ++ d1 :: r)) ⟨98, [49], rfl, by decide, by decide, by decide +kernel⟩ ⟨by decide, by decide⟩ (hw _ _ (isL_stop (by decide))) ?_
    exact .alias (r2 := x.cps.toList ++ d1 :: r) (wd2 := x.cps.toList) (r3 := r) (d2 := d1) (.stop (by decide) (by decide) (by decide)) hwd (str_back x) hf (wd_stop (wd := x.cps.toList) hwd) hs
theorem sep_ends {sep t : List Nat} {nms : List Str} (hs : sep ∈ SEPS) (ht : t ≠ []) (h : ∀ ws, Thru ws → Rows kws (ws ++ t) nms) : Ends (sep ++ t) nms := by
  have hs : sep = [44] ∨ sep = [32, 44, 32] ∨ sep = [44, 40, 42, 32, 120, 44, 32, 121, 32, 42, 41] := by simpa [SEPS] using hs
  rcases hs with rfl | rfl | rfl
  · cases t with
    | nil => exact absurd rfl ht
    | cons d l => exact ⟨44, _, 44, d, l, rfl, ⟨by decide, by decide⟩, .stop (by decide) (by decide) (by decide), .inr ⟨rfl, h [] thru_nil⟩⟩
  · exact ⟨32, _, 44, 32, t, rfl, ⟨by decide, by decide⟩, .blank (.stop (by decide) (by decide) (by decide)), .inr ⟨rfl, h [32] thru_blank⟩⟩
  · exact ⟨44, _, 44, 40, _, rfl, ⟨by decide, by decide⟩, .stop (by decide) (by decide) (by decide), .inr ⟨rfl, h _ thru_remark⟩⟩
theorem name_ne {x : Str} (hx : x ∈ NAMES) : x.cps.toList ≠ [] := by
  obtain ⟨c, cs, e, _⟩ := name_wd x hx
  rw [e]; exact List.cons_ne_nil _ _
theorem imp_rows {t : List Nat} {nms : List Str} (h : Imp t nms) : nms ≠ [] → ∀ k nms2, Ends k nms2 → ∀ ws, Thru ws → Rows kws (ws ++ (t ++ k)) (nms ++ nms2) := by
  induction h with
  | none => exact fun h => absurd rfl h
  | one ha hx =>
    intro _ k nms2 hk ws hw
    rw [List.append_assoc]
    exact item_ends ha hx hk hw
  | more _ hne hs ha hx ih =>
    rename_i t sep al nms x _
    intro _ k nms2 hk ws hw
    have := ih hne (sep ++ (al ++ (x.cps.toList ++ k))) (x :: nms2) (sep_ends hs (by
      intro e
      have e1 := (List.append_eq_nil_iff.mp e).2
      exact name_ne hx (List.append_eq_nil_iff.mp e1).1) fun ws hw => item_ends ha hx hk hw) ws hw
    simpa only [List.append_assoc, List.singleton_append, List.cons_append, List.nil_append] using this
def HEADS : List (List Nat) := [[77, 79, 68, 85, 76, 69, 32], [40, 42, 32, 77, 79, 68, 85, 76, 69, 32, 90, 59, 32, 73, 77, 80, 79, 82, 84, 32, 65, 59, 32, 42, 41, 32, 77, 79, 68, 85, 76, 69, 10], [77, 79, 68, 85, 76, 69, 32, 32]]
def IMPS : List (List Nat) := [[10, 32, 73, 77, 80, 79, 82, 84, 32], [73, 77, 80, 79, 82, 84, 10], [32, 73, 77, 80, 79, 82, 84, 32]]
def FOOT : List Nat := [32, 66, 69, 71, 73, 78, 32, 69, 78, 68, 32]
/-- the start of a source -/
theorem heads_of {h0 wd rest : List Nat} (hh : h0 ∈ HEADS) (hw : Wd kws wd) : ∃ d1 r1, Skips (h0 ++ (wd ++ rest)) ([77, 79, 68, 85, 76, 69] ++ d1 :: r1) ∧ Fin1 d1 ∧ Skips (d1 :: r1) (wd ++ rest) := by
  have hh : h0 = [77, 79, 68, 85, 76, 69, 32] ∨ h0 = [40, 42, 32, 77, 79, 68, 85, 76, 69, 32, 90, 59, 32, 73, 77, 80, 79, 82, 84, 32, 65, 59, 32, 42, 41, 32, 77, 79, 68, 85, 76, 69, 10] ∨ h0 = [77, 79, 68, 85, 76, 69, 32, 32] := by simpa [HEADS] using hh
  rcases hh with rfl | rfl | rfl
  · exact ⟨32, _, isL_stop (by decide), ⟨by decide, by decide⟩, .blank (wd_stop (wd := wd) hw)⟩
  · exact ⟨10, _, Skips.remark (b := [32, 77, 79, 68, 85, 76, 69, 32, 90, 59, 32, 73, 77, 80, 79, 82, 84, 32, 65, 59, 32]) (by decide) (.blank (isL_stop (by decide))), ⟨by decide, by decide⟩, .row (wd_stop (wd := wd) hw)⟩
  · exact ⟨32, _, isL_stop (by decide), ⟨by decide, by decide⟩, .blank (.blank (wd_stop (wd := wd) hw))⟩
theorem imps_of {im rest : List Nat} (hi : im ∈ IMPS) : ∃ d3 r3 d4, im ++ rest = d3 :: r3 ∧ Skips (d3 :: r3) ([73, 77, 80, 79, 82, 84] ++ d4 :: rest) ∧ Fin1 d4 ∧ Thru [d4] := by
  have hi : im = [10, 32, 73, 77, 80, 79, 82, 84, 32] ∨ im = [73, 77, 80, 79, 82, 84, 10] ∨ im = [32, 73, 77, 80, 79, 82, 84, 32] := by simpa [IMPS] using hi
  rcases hi with rfl | rfl | rfl
  · exact ⟨10, _, 32, rfl, .row (.blank (isL_stop (by decide))), ⟨by decide, by decide⟩, thru_blank⟩
  · exact ⟨73, _, 10, rfl, isL_stop (by decide), ⟨by decide, by decide⟩, thru_row⟩
  · exact ⟨32, _, 32, rfl, .blank (isL_stop (by decide)), ⟨by decide, by decide⟩, thru_blank⟩
theorem imp_ne {nms : List Str} {t : List Nat} (h : Imp t nms) (ht : t ≠ []) : nms ≠ [] := by
  cases h with
  | none => exact absurd rfl ht
  | one => exact List.cons_ne_nil _ _
  | more => exact fun e => by simp at e
theorem imp_nil {nms : List Str} (h : Imp [] nms) : nms = [] := by
  generalize e : ([] : List Nat) = t at h
  cases h with
  | none => rfl
  | one ha hx => exact absurd (List.append_eq_nil_iff.mp e.symm).2 (name_ne hx)
  | more h1 h2 h3 h4 hx => exact absurd (List.append_eq_nil_iff.mp (List.append_eq_nil_iff.mp (List.append_eq_nil_iff.mp e.symm).2).2).2 (name_ne hx)
theorem head_txt {S x : Str} {h0 t mid : List Nat} {nms : List Str} (hx : x ∈ NAMES) (hh : h0 ∈ HEADS) (ht : Imp t nms) (hm : (t = [] ∧ mid = []) ∨ (t ≠ [] ∧ ∃ im ∈ IMPS, mid = im ++ (t ++ [59])))
    (hS : S.cps.toList = h0 ++ (x.cps.toList ++ 59 :: (mid ++ (FOOT ++ (x.cps.toList ++ [46]))))) (hz : S.length ≤ 100000) (hn : nms.length ≤ 1000) : HeadTxt S nms := by
  refine ⟨?_, hn⟩
  have hwd := name_wd x hx
  obtain ⟨c, cs, hcc, hc0, hc1, hb⟩ := id hwd
  rw [hcc] at hS hwd
  obtain ⟨d1, r1, hs1, hf1, hs2⟩ := heads_of (rest := 59 :: (mid ++ (FOOT ++ (x.cps.toList ++ [46])))) hh hwd
  rw [hcc] at hs1 hs2
  have hA := (show ∀ l, S.cps.toList = l → At S 0 l from fun l e => ⟨Int.le_refl 0, by rw [Int.toNat_zero, List.drop_zero]; exact e, hz⟩) _ hS
  rcases hm with ⟨rfl, rfl⟩ | ⟨hne, im, him, rfl⟩
  · have e := imp_nil ht
    exact ⟨_, r1, _, _, 69 :: 78 :: 68 :: 32 :: ((c :: cs) ++ [46]), c, cs, d1, 59, 32, 32, 66, [69, 71, 73, 78], hA, hs1, hf1, hs2, hwd, ⟨by decide, by decide⟩, .stop (by decide) (by decide) (by decide), .blank (isL_stop (by decide)), ⟨by decide, by decide⟩, kw_begin, by decide, by decide,
      (fun h => absurd h (by decide +kernel)), fun _ => e⟩
  · obtain ⟨d3, r3, d4, e3, hs3, hf4, hth⟩ := imps_of (rest := t ++ ([59] ++ (FOOT ++ ((c :: cs) ++ [46])))) him
    have e4 : (im ++ (t ++ [59])) ++ (FOOT ++ ((c :: cs) ++ [46])) = d3 :: r3 := by rw [← e3]; simp only [List.append_assoc]
    rw [e4] at hA hs1 hs2
    refine ⟨_, r1, _, r3, t ++ ([59] ++ (FOOT ++ ((c :: cs) ++ [46]))), c, cs, d1, 59, d3, d4, 73, [77, 80, 79, 82, 84], hA, hs1, hf1, hs2, hwd, ⟨by decide, by decide⟩, .stop (by decide) (by decide) (by decide), hs3, hf4, kw_import, by decide, by decide, fun _ => ?_, fun h => absurd h (by decide +kernel)⟩
    have hE : Ends ([59] ++ (FOOT ++ ((c :: cs) ++ [46]))) [] := ⟨59, _, 59, 32, _, rfl, ⟨by decide, by decide⟩, .stop (by decide) (by decide) (by decide), .inl ⟨rfl, rfl⟩⟩
    have := imp_rows ht (imp_ne ht hne) _ _ hE [d4] hth
    rw [List.append_nil] at this
    exact this
end
section
theorem not_mem_take {l : List Str} (hn : l.Nodup) {i : Nat} {x : Str} (hx : l[i]? = some x) : x ∉ l.take i := by
  intro hm
  obtain ⟨j, hj, e⟩ := List.mem_iff_getElem.mp hm
  rw [List.length_take] at hj
  rw [List.getElem_take] at e
  have hi : i < l.length := (List.getElem?_eq_some_iff.mp hx).1
  have e2 : l[i] = x := (List.getElem?_eq_some_iff.mp hx).2
  have := (List.getElem_inj (h₀ := by omega) (h₁ := hi) hn).mp (e.trans e2.symm)
  omega
theorem new_key {kvs : List (Str × Value)} {l : List Str} (hn : l.Nodup) {i : Nat} {x : Str} (hx : l[i]? = some x) (hk : kvs.map (·.1) = l.take i) : (valueAt kvs x).isSome = false := by
  rw [valueAt_some, hk, decide_eq_false_iff_not]
  exact not_mem_take hn hx
theorem stored_eq {kvs : List (Str × Value)} {x : Str} {v : Value} (h : (valueAt kvs x).isSome = false) : stored kvs x v = kvs ++ [(x, v)] := by
  rw [valueAt_isSome_eq_any] at h
  rw [stored, if_neg (by rw [h]; decide)]
open Classical in
noncomputable def newOnes (l l' : List (Addr × Obj)) : List (Addr × Obj) := l'.filter fun q => decide (∀ p ∈ l, @LT.lt Nat _ p.1 q.1)
theorem newOnes_mem {l l' : List (Addr × Obj)} {q : Addr × Obj} : q ∈ newOnes l l' ↔ q ∈ l' ∧ ∀ p ∈ l, @LT.lt Nat _ p.1 q.1 := by
  unfold newOnes
  rw [List.mem_filter, decide_eq_true_eq]
end
section
variable {w : World} {mean : ExcName → Option Value} {mg mb : Str → Option Value}
abbrev PROG : Program := PySem.Challenge.rw_pb0352_01.row.prog
theorem alldone_con {l d : Addr} {its : Array Value} {n : Nat} {ss : List Str} {o : Obj} {kvs : List (Str × Value)} {news : List (Addr × Obj)} (hl : (l, listOf its n) ∈ news) (hS : StrsAre its.toList ss) (hdm : (d, o) ∈ news) (hD : o.IsDictOf (strKind PROG w) kvs) (lo : (d == sysModules) = false) :
    Con w mean mg mb (.ref 340) [.ref l, .ref d] 5 60 news (fun r news' => r = .bool (ss.all fun x => (valueAt kvs x).isSome) ∧ news' = news) := by
  w_top off
  unfold Con
  k_fill
  intro dp un gd cn cs a ccd cl outer A₀ base h₀ L m s Q E B F X N T hk hd hu hret
  refine wpAny_call ?_
  k_dflt (refine' code_def ?k1 ?k2 ?k3 ?k4 ?k5 ?kA ?kF ?kK ?k6 ?k7 ?k8 ?k9 ?kB ?_ ?c2 ?c3 ?c4 ?c5; (case kA => exact rfl); (case kF => exact rfl); (case kK => assumption); (case k1 => k_asm); (case k2 => k_asm); (case k3 => k_asm); (case k4 => k_asm); (case k5 => k_asm); (case k6 => k_is); (case k7 => k_is); (case k8 => ktr_room); (case k9 => first | exact BindsTo.of_eq rfl | exact binds_K (by k_in) rfl (by k_is) rfl rfl rfl); (case c5 => decide); (case kB => exact locs rfl); (case c2 => exact rfl); (case c3 => exact rfl); (case c4 => exact rfl); k_whole; intro g' L' h' FG' F' N' B' X' T'; (try dsimp only); (try refine norm_A ?_); (try refine tok_gen fun tk0 => ?_); (try k_fold))
  ((try k_fold); repeat' (first | (k_unfold; (try dsimp only)) | ((with_reducible show wpAny _ _ (pyIter (Value.ref _)) (fun it s₂ => LoopAtV _ _ _ _ _ _ _ _ _ it s₂) _ _); refine loopify ?_) | ((with_reducible show wpAny _ _ (exec (Stmt.For _ _ _ _ _) _) _ _ _); ((rename Fr _ _ _ _ => lF'); (with_unfolding_all refine' For_invVF lF' ?zzk1 ?zzk2 ?_; (case zzk1 => exact rfl); (case zzk2 => exact rfl); k_whole))) | walk1 | (dsimp only; walk1) | (leave1; (try dsimp only)) | fail "no step"))
  refine Loop.in (for_list (its := its) (n := n) (fun i m nx => And3 (nx = news) (m (Str.ofString "done") = some (.ref d)) ((ss.take i).all (fun x => (valueAt kvs x).isSome) = true)) rfl (by k_asm) (by k_asm) (by rintro _ _ _ ⟨h, -⟩; exact h ▸ hl) ⟨rfl, rfl, rfl⟩ ?turn ?done)
  case turn =>
    rintro Again i v m1 nx h tk I oI hv ⟨rfl, hdn, hall⟩ hI hI2 F1 N1 IH
    obtain ⟨x, t, hx, rfl⟩ := strs_getA hS hv
    have hl1 : (l, listOf its n) ∈ (I, oI) :: nx := .tail _ hl
    have hd1 : (d, o) ∈ (I, oI) :: nx := .tail _ hdm
    have F2 := fr_one F1 (a := Str.ofString "done") (u := .ref d) (by rw [if_neg (by decide)]; exact hdn)
    have F3 := fr_one F2 (a := Str.ofString "name") (u := .str x t) rfl
    clear F1 F2
    ((try k_fold); repeat' (first | (k_unfold; (try dsimp only)) | ((with_reducible show wpAny _ _ (compareOp CmpOp.NotIn (Value.str _ _) (Value.ref _)) _ _ _); (k_dflt (first | (refine kdg_notin (knd := PySem.strKind _ _) (by k_asm) (by k_mem) (by k_asm) (by k_asm) (strKind_is _ _ _ _) _ rfl ?_) | (refine notin_listS (by k_asm) (by k_mem) (by k_asm) ?_)))) | ((with_reducible show LPost _ _ _ _); (dsimp only [LPost])) | walk1 | (dsimp only; walk1) | (leave1; (try dsimp only)) | fail "no step"))
    all_goals first
      | (have hx9 : (valueAt kvs x).isSome = true := by assumption
         exact IH _ _ _ _ (by k_asm) (by k_asm) hI2 ⟨rfl, rfl, by rw [take_snoc hx, List.all_append, hall]; simp [hx9]⟩)
      | (have hx9 : (valueAt kvs x).isSome = false := by assumption
         exact hret _ _ _ _ (by k_asm) (news_sub (by k_asm) fun p hp => .tail _ hp) ⟨congrArg Value.bool (List.all_eq_false.mpr ⟨x, List.mem_of_getElem? hx, by simp [hx9]⟩).symm, rfl⟩)
  case done =>
    rintro m1 nx h tk ⟨rfl, hdn, hall⟩ F1 N1
    ((try k_fold); repeat' (first | (k_unfold; (try dsimp only)) | walk1 | (dsimp only; walk1) | (leave1; (try dsimp only)) | fail "no step"))
    rw [strs_size hS, List.take_length] at hall
    exact hret _ _ _ _ (by k_asm) (by k_asm) ⟨congrArg Value.bool hall.symm, rfl⟩
end
section
variable {w : World} {mean : ExcName → Option Value} {mg mb : Str → Option Value}
abbrev modD (w : World) (q1 q2 : Tok) (a1 a2 : Addr) : Obj :=
  dictOf [⟨PyData.keyHash w.params (Str.ofString "sources"), .str (Str.ofString "sources") q1, .ref a1⟩, ⟨PyData.keyHash w.params (Str.ofString "imports"), .str (Str.ofString "imports") q2, .ref a2⟩] 2
/-- the set of modules stands in the ledger: names ns, the row of each -/
structure ModIn (w : World) (news : List (Addr × Obj)) (aM dM : Addr) (q1 q2 : Tok) (a1 a2 : Addr) (oI : Obj) (kvs : List (Str × Value)) (ns : List Str) (rows : Str → List Str) : Prop where
  inst : (aM, instObj 329 dM) ∈ news
  dict : (dM, modD w q1 q2 a1 a2) ∈ news
  imp : (a2, oI) ∈ news
  isd : oI.IsDictOf (strKind PROG w) kvs
  lo : (a2 == sysModules) = false
  keys : kvs.map (·.1) = ns
  nodup : ns.Nodup
  rises : PyProof.Rows.sortedS ns = true
  few : ns.length < 64
  row : ∀ nm v, (nm, v) ∈ kvs → ∃ aI its n, v = .ref aI ∧ (aI, listOf its n) ∈ news ∧ StrsAre its.toList (rows nm) ∧ (rows nm).length < 64
theorem tl {h₀ h : Heap} {L : Addr} {q p : Addr × Obj} {l : List (Addr × Obj)} (_ : News h₀ L h (q :: l)) (hm : p ∈ l) : p ∈ q :: l := .tail _ hm
theorem tl3 {p a b : Addr × Obj} {l : List (Addr × Obj)} (hm : p ∈ l) : p ∈ a :: b :: l := .tail _ (.tail _ hm)
theorem names_con {news : List (Addr × Obj)} {aM dM : Addr} {q1 q2 : Tok} {a1 a2 : Addr} {oI : Obj} {kvs : List (Str × Value)} {ns : List Str} {rows : Str → List Str} (M : ModIn w news aM dM q1 q2 a1 a2 oI kvs ns rows) :
    Con w mean mg mb (.ref 295) [.ref aM] 5 60 news (fun r news' => Ex3 fun D its e => And4 (r = .ref D) (news' = (D, listOf its e) :: news) (StrsAre its.toList ns) (∀ p ∈ news, p.1 < D)) := by
  w_top off
  obtain ⟨hinst, hdict, himp, hisd, hlo, hkeys, hnd, hrises, hfew, hrow⟩ := M
  have hs : PyProof.Rows.sortedS (kvs.map (·.1)) = true := by rw [hkeys]; exact hrises
  have hz : kvs.length < 64 := by rw [← List.length_map (f := (·.1)), hkeys]; exact hfew
  unfold Con
  k_fill
  intro dp un gd cn cs a ccd cl outer A₀ base h₀ L m s Q E B F X N T hk hd hu hret
  refine wpAny_call ?_
  k_dflt (refine' code_def ?k1 ?k2 ?k3 ?k4 ?k5 ?kA ?kF ?kK ?k6 ?k7 ?k8 ?k9 ?kB ?_ ?c2 ?c3 ?c4 ?c5; (case kA => exact rfl); (case kF => exact rfl); (case kK => assumption); (case k1 => k_asm); (case k2 => k_asm); (case k3 => k_asm); (case k4 => k_asm); (case k5 => k_asm); (case k6 => k_is); (case k7 => k_is); (case k8 => ktr_room); (case k9 => first | exact BindsTo.of_eq rfl | exact binds_K (by k_in) rfl (by k_is) rfl rfl rfl); (case c5 => decide); (case kB => exact locs rfl); (case c2 => exact rfl); (case c3 => exact rfl); (case c4 => exact rfl); k_whole; intro g' L' h' FG' F' N' B' X' T'; (try dsimp only); (try refine norm_A ?_); (try refine tok_gen fun tk0 => ?_); (try k_fold))
  ((try k_fold); repeat' (first | (k_unfold; (try dsimp only)) | ((with_reducible show wpAny _ _ (call (Value.builtin "sorted") [Value.ref _]) _ _ _); k_dflt (refine' sorted_dictS ?zzhh ?zzF ?zzN ?zzm ?zzD ?zzlo ?zzs ?zzz ?_; (case zzhh => exact rfl); (case zzF => k_asm); (case zzN => k_asm); (case zzm => k_mem); (case zzD => k_asm); (case zzlo => k_asm); (case zzs => k_asm); (case zzz => k_asm)); intro D' its' e' h' tk' F' N' l1 hS'; (try k_lt l1); (try k_sweep)) | walk1 | (dsimp only; walk1) | (leave1; (try dsimp only)) | fail "no step"))
  rw [hkeys] at *
  exact hret _ _ _ _ (by k_asm) (by k_asm) ⟨_, _, _, rfl, rfl, by assumption, by assumption⟩
theorem needed_con {news : List (Addr × Obj)} {aM dM : Addr} {q1 q2 : Tok} {a1 a2 : Addr} {oI : Obj} {kvs : List (Str × Value)} {ns : List Str} {rows : Str → List Str} {nm : Str} {tk : Tok} (M : ModIn w news aM dM q1 q2 a1 a2 oI kvs ns rows) (hnm : nm ∈ ns) :
    Con w mean mg mb (.ref 300) [.ref aM, .str nm tk] 5 60 news (fun r news' => Ex4 fun D its e ss => And5 (r = .ref D) (news' = (D, listOf its e) :: news) (StrsAre its.toList ss) ((∀ x, x ∈ ss ↔ x ∈ rows nm ∧ x ∈ ns)) (∀ p ∈ news, p.1 < D)) := by
  obtain ⟨hinst, hdict, himp, hisd, hlo, hkeys, hnd, hrises, hfew, hrow⟩ := M
  unfold Con
  k_fill
  intro dp un gd cn cs a ccd cl outer A₀ base h₀ L m s Q E B F X N T hk hd hu hret
  refine wpAny_call ?_
  k_dflt (refine' code_defC ?k1 ?k2 ?k3 ?k4 ?k5 ?kA ?kF ?kK ?k6 ?k7 ?k8 ?k9 ?kB ?kD ?_ ?c2 ?c3 ?c4; (case kA => exact rfl); (case kF => exact rfl); (case kK => assumption); (case k1 => k_asm); (case k2 => k_asm); (case k3 => k_asm); (case k4 => k_asm); (case k5 => k_asm); (case k6 => k_is); (case k7 => k_is); (case k8 => ktr_room); (case k9 => first | exact BindsTo.of_eq rfl | exact binds_K (by k_in) rfl (by k_is) rfl rfl rfl); (case kB => exact rfl); (case kD => decide +kernel); (case c2 => exact rfl); (case c3 => exact rfl); (case c4 => exact rfl); k_whole; intro g' L' h' tk' cells' FG' F' N' Y' B' X' T' l1; (try k_lt l1); k_cells Y'; (try simp only [List.cons_append, List.nil_append] at N'); (try dsimp only); (try refine norm_A ?_); (try k_fold))
  rename Obj => oc
  have hinst1 := tl N' hinst
  have hdict1 := tl N' hdict
  have himp1 := tl N' himp
  obtain ⟨v, hv, hvm⟩ := valueAt_of_mem (hkeys.symm ▸ hnm)
  obtain ⟨aI, its, n, rfl, hil, hiS, hi64⟩ := hrow _ _ hvm
  have hil1 := tl N' hil
  ((try k_fold); repeat' (first | (k_unfold; (try dsimp only)) | ((with_reducible show wpAny _ _ (subscriptTail _ _ (Value.ref _) (Value.str _ _)) _ _ _); k_here; k_dflt (refine' kda_item (knd := PySem.strKind _ _) ?zzN ?zzm ?zzd (strKind_is _ _ _ _) ?zzv ?_ ?zzhs ?zzhg; (case zzN => k_asm); (case zzm => k_mem); (case zzd => k_asm); (case zzv => k_asm); (case zzhs => with_unfolding_all rfl); (case zzhg => intro _; with_unfolding_all rfl))) | ((with_reducible show wpAny _ _ (eval (Expr.ListComp _ _ _ _) _) _ _ _); ((with_reducible (refine' ListComp_L ?zzk1 ?zzk2 ?zzk3 ?_ ?zzk4)); (case zzk1 => with_unfolding_all rfl); (case zzk2 => rfl); (case zzk3 => decide); (case zzk4 => (intro _; with_unfolding_all rfl)))) | walk1 | (dsimp only; walk1) | (leave1; (try dsimp only)) | fail "no step"))
  refine' CompL.list (its := its) (n := n) (fun i ys nx => nx = (L' + 1, oc) :: news ∧ StrsAre ys ((((rows nm).take i).filter (fun x => decide (x ∈ ns))))) ?hh ?hcell ?hkind ?hx ?F ?N ?hJl ?h0 ?hsz ?turn ?done
  case hh => exact rfl
  case hcell => decide
  case hkind => exact rfl
  case hx => exact rfl
  case F => k_asm
  case N => k_asm
  case hJl => exact by rintro _ _ _ ⟨h, -⟩; exact h ▸ hil1
  case h0 => exact ⟨rfl, .nil⟩
  case hsz => rw [strs_size hiS]; exact Nat.le_of_lt (Nat.lt_of_lt_of_le hi64 (by decide))
  case turn =>
    rintro Take Skip i v ys nx h tk I oI C oC D m₂ E' hv' ⟨rfl, hys⟩ hI hoC hx F1 N1 off skip take
    obtain ⟨x, t, hx', rfl⟩ := strs_getA hiS hv'
    have hinst2 := tl N1 (tl3 hinst1)
    have hdict2 := tl N1 (tl3 hdict1)
    have himp2 := tl N1 (tl3 himp1)
    ((try k_fold); repeat' (first | (k_unfold; (try dsimp only)) | ((with_reducible show wpAny _ _ (compareOp CmpOp.In (Value.str _ _) (Value.ref _)) _ _ _); (k_dflt (first | (refine kda_in (knd := PySem.strKind _ _) (by k_asm) (by k_mem) (by k_asm) (by k_asm) (strKind_is _ _ _ _) _ rfl ?_) | (refine in_listS (by k_asm) (by k_mem) (by k_asm) ?_)))) | walk1 | (dsimp only; walk1) | (leave1; (try dsimp only)) | fail "no step"))
    all_goals first
      | (have hx9 : (valueAt kvs x).isSome = true := by assumption
         rw [valueAt_some, hkeys] at hx9
         exact take _ _ _ _ (by k_asm) (by k_asm) off ⟨rfl, strs_take hx' hx9 hys⟩)
      | (have hx9 : (valueAt kvs x).isSome = false := by assumption
         rw [valueAt_some, hkeys] at hx9
         exact skip _ _ _ (by k_asm) (by k_asm) off ⟨rfl, strs_skip hx' hx9 hys⟩)
  case done =>
    rintro D h tk ys nx ⟨rfl, hys⟩ hD F1 N1 off
    ((try k_fold); repeat' (first | (k_unfold; (try dsimp only)) | walk1 | (dsimp only; walk1) | (leave1; (try dsimp only)) | fail "no step"))
    rw [strs_size hiS, List.take_length] at hys
    have hlen : ys.length < 64 := by
      rw [strsLen hys]
      exact Nat.lt_of_le_of_lt (List.length_filter_le ..) hi64
    refine sorted_N_str (by k_asm) N1 (News.isList N1 (.head _)) hys hlen fun h2 vs2 ss2 e F2 N2 a1 a2 a3 => ?_
    clear F1
    ((try k_fold); repeat' (first | (k_unfold; (try dsimp only)) | walk1 | (dsimp only; walk1) | (leave1; (try dsimp only)) | fail "no step"))
    have hz : ∀ p ∈ news, p.1 < h.objs.size + 1 := fun p hp => Nat.lt_succ_of_lt (Heap.lt_size (N1 p (.tail _ (.tail _ hp))).1)
    refine hret _ ((h.objs.size + 1, listOf vs2.toArray e) :: news) _ _ (by k_asm) ?hn ⟨_, _, e, ss2, rfl, rfl, a1, ?_, hz⟩
    case hn =>
      refine news_sub (by k_asm) fun p hp => ?_
      rcases List.mem_cons.mp hp with rfl | hp
      · exact .head _
      · exact .tail _ (.tail _ (.tail _ hp))
    intro x
    rw [a2.mem_iff, List.mem_filter, decide_eq_true_eq]
end
section
variable {w : World} {mean : ExcName → Option Value} {mg mb : Str → Option Value}
theorem strs_fit2 {its : Array Value} {l : List Str} {i : Nat} {p : Str → Bool} {v : Value} (h : StrsAre its.toList ((l.take i).filter p)) (hl : l.length < 64) : (its.push v).size ≤ sizeLine := by
  have e := strsLen h
  rw [Array.length_toList] at e
  rw [Array.size_push, e, sizeLine_eq]
  have h1 := List.length_filter_le p (l.take i)
  have h2 : (l.take i).length ≤ l.length := by rw [List.length_take]; exact Nat.min_le_right ..
  omega
theorem strs_takeA {l : List Str} {i : Nat} {x : Str} {t : Tok} {ys : Array Value} {p : Str → Bool} (hx : l[i]? = some x) (hp : p x = true) (h : StrsAre ys.toList ((l.take i).filter p)) : StrsAre (ys.push (.str x t)).toList ((l.take (i + 1)).filter p) := by
  rw [Array.toList_push]
  exact strs_take hx hp h
theorem off_new {D I : Addr} {o o' : Obj} {news : List (Addr × Obj)} (h : ∀ p ∈ (D, o) :: news, p.1 ≠ I) : ∀ p ∈ (D, o') :: news, p.1 ≠ I := fun p hp => by
  rcases List.mem_cons.mp hp with rfl | hp
  · exact h (D, o) (.head _)
  · exact h p (.tail _ hp)
theorem moved_con {news : List (Addr × Obj)} {aM dM : Addr} {q1 q2 : Tok} {a1 a2 : Addr} {oI : Obj} {kvs : List (Str × Value)} {ns : List Str} {rows : Str → List Str} {nm : Str} {tk : Tok} {dA dB : Addr} {oA oB : Obj} {kA kB : List (Str × Value)} {fA fB : Str → Option Int}
    (M : ModIn w news aM dM q1 q2 a1 a2 oI kvs ns rows) (hnm : nm ∈ ns) (hA : (dA, oA) ∈ news) (hB : (dB, oB) ∈ news) (iA : oA.IsDictOf (strKind PROG w) kA) (iB : oB.IsDictOf (strKind PROG w) kB) (lA : (dA == sysModules) = false) (lB : (dB == sysModules) = false) (gA : KeyF kA fA) (gB : KeyF kB fB) :
    Con w mean mg mb (.ref 347) [.ref aM, .str nm tk, .ref dA, .ref dB] 5 60 news (fun r news' => Ex3 fun D its e => And4 (r = .ref D) (news' = (D, listOf its e) :: news) (StrsAre its.toList ((rows nm).filter fun x => fA x != fB x)) (∀ p ∈ news, p.1 < D)) := by
  w_top off
  obtain ⟨hinst, hdict, himp, hisd, hlo, hkeys, hnd, hrises, hfew, hrow⟩ := M
  obtain ⟨v, hv, hvm⟩ := valueAt_of_mem (hkeys.symm ▸ hnm)
  obtain ⟨aI, its, n, rfl, hil, hiS, hi64⟩ := hrow _ _ hvm
  unfold Con
  k_fill
  intro dp un gd cn cs a ccd cl outer A₀ base h₀ L m s Q E B F X N T hk hd hu hret
  refine wpAny_call ?_
  k_dflt (refine' code_def ?k1 ?k2 ?k3 ?k4 ?k5 ?kA ?kF ?kK ?k6 ?k7 ?k8 ?k9 ?kB ?_ ?c2 ?c3 ?c4 ?c5; (case kA => exact rfl); (case kF => exact rfl); (case kK => assumption); (case k1 => k_asm); (case k2 => k_asm); (case k3 => k_asm); (case k4 => k_asm); (case k5 => k_asm); (case k6 => k_is); (case k7 => k_is); (case k8 => ktr_room); (case k9 => first | exact BindsTo.of_eq rfl | exact binds_K (by k_in) rfl (by k_is) rfl rfl rfl); (case c5 => decide); (case kB => exact locs rfl); (case c2 => exact rfl); (case c3 => exact rfl); (case c4 => exact rfl); k_whole; intro g' L' h' FG' F' N' B' X' T'; (try dsimp only); (try refine norm_A ?_); (try refine tok_gen fun tk0 => ?_); (try k_fold))
  ((try k_fold); repeat' (first | (k_unfold; (try dsimp only)) | ((with_reducible show wpAny _ _ (subscriptTail _ _ (Value.ref _) (Value.str _ _)) _ _ _); k_here; k_dflt (refine' kda_item (knd := PySem.strKind _ _) ?zzN ?zzm ?zzd (strKind_is _ _ _ _) ?zzv ?_ ?zzhs ?zzhg; (case zzN => k_asm); (case zzm => k_mem); (case zzd => k_asm); (case zzv => k_asm); (case zzhs => with_unfolding_all rfl); (case zzhg => intro _; with_unfolding_all rfl))) | ((with_reducible show wpAny _ _ (pyIter (Value.ref _)) (fun it s₂ => LoopAtV _ _ _ _ _ _ _ _ _ it s₂) _ _); refine loopify ?_) | ((with_reducible show wpAny _ _ (exec (Stmt.For _ _ _ _ _) _) _ _ _); ((rename Fr _ _ _ _ => lF'); (with_unfolding_all refine' For_invVF lF' ?zzk1 ?zzk2 ?_; (case zzk1 => exact rfl); (case zzk2 => exact rfl); k_whole))) | walk1 | (dsimp only; walk1) | (leave1; (try dsimp only)) | fail "no step"))
  rename ∀ p ∈ news, p.1 < _ => hlt
  clear hv hvm
  refine Loop.in (for_list (its := its) (n := n) (fun i m nx => Ex3 fun D ys e => And6 (nx = (D, listOf ys e) :: news) ((∀ p ∈ news, p.1 < D)) (StrsAre ys.toList (((rows nm).take i).filter fun x => fA x != fB x)) (m (Str.ofString "found") = some (.ref D)) (m (Str.ofString "old_keys") = some (.ref dA)) (m (Str.ofString "new_keys") = some (.ref dB))) rfl (by k_asm) (by k_asm) (by rintro _ _ _ ⟨_, _, _, h, -⟩; exact h ▸ .tail _ hil) ⟨_, _, _, rfl, hlt, .nil, rfl, rfl, rfl⟩ ?turn ?done)
  case turn =>
    rintro Again i v m1 nx h tk I oI hv' ⟨D, ys, e, rfl, hlt, hys, hf, ho, hn⟩ hI hI2 F1 N1 IH
    obtain ⟨x, t, hx, rfl⟩ := strs_getA hiS hv'
    have hA1 := tl N1 (.tail (D, listOf ys e) hA)
    have hB1 := tl N1 (.tail (D, listOf ys e) hB)
    have F2 := fr_three F1 (a := Str.ofString "found") (b := Str.ofString "old_keys") (c := Str.ofString "new_keys") (by rw [if_neg (by decide)]; exact hf) (by rw [if_neg (by decide)]; exact ho) (by rw [if_neg (by decide)]; exact hn)
    have F3 := fr_one F2 (a := Str.ofString "one") (u := .str x t) rfl
    clear F1 F2
    have hfit : (ys.push (.str x t)).size ≤ sizeLine := strs_fit2 hys hi64
    have hDI : @Ne Nat D I := fun q => hI2 _ (.head _) q
    ((try k_fold); repeat' (first | (k_unfold; (try dsimp only)) | ((with_reducible show wpAny _ _ (getMethod (Value.ref _) (Str.ofString "get") _) _ _ _); k_dflt (refine' kdg_method (knd := PySem.strKind _ _) ?zzN ?zzm ?zzd ?_; (case zzN => k_asm); (case zzm => k_mem); (case zzd => k_asm))) | ((with_reducible show wpAny _ _ (compareOp CmpOp.NotEq _ _) _ _ _); (k_dflt (refine ne_opt (by assumption) (by assumption) ?_))) | ((with_reducible show wpAny _ _ (call (Value.builtin "dict.get") [Value.ref _, Value.str _ _]) _ _ _); k_dflt (refine' get_opt ?zzN ?zzm ?zzd ?zzlo ?zzf ?_; (case zzN => k_asm); (case zzm => k_mem); (case zzd => k_asm); (case zzlo => k_asm); (case zzf => k_asm)); intro u9 hu9) | ((with_reducible show LPost _ _ _ _); (dsimp only [LPost])) | walk1 | (dsimp only; walk1) | (leave1; (try dsimp only)) | fail "no step"))
    all_goals first
      | (have hx9 : (fA x != fB x) = true := by assumption
         exact IH _ _ _ _ (by k_asm) (by k_asm) (off_new hI2) ⟨_, _, _, rfl, hlt, strs_takeA hx hx9 hys, rfl, rfl, rfl⟩)
      | (have hx9 : (fA x != fB x) = false := by assumption
         exact IH _ _ _ _ (by k_asm) (by k_asm) hI2 ⟨_, _, _, rfl, hlt, strs_skip hx hx9 hys, rfl, rfl, rfl⟩)
  case done =>
    rintro m1 nx h tk ⟨D, ys, e, rfl, hlt, hys, hf, ho, hn⟩ F1 N1
    have F2 := fr_one F1 hf
    clear F1
    ((try k_fold); repeat' (first | (k_unfold; (try dsimp only)) | walk1 | (dsimp only; walk1) | (leave1; (try dsimp only)) | fail "no step"))
    rw [strs_size hiS, List.take_length] at hys
    exact hret _ _ _ _ (by k_asm) (by k_asm) ⟨_, _, _, rfl, rfl, hys, hlt⟩
end
section
variable {w : World} {mean : ExcName → Option Value} {mg mb : Str → Option Value}
theorem fr_four {h₀ h : Heap} {L : Addr} {m : Str → Option Value} (F : Fr h₀ L h m) {a b c d : Str} {u v x z : Value} (ha : m a = some u) (hb : m b = some v) (hc : m c = some x) (hd : m d = some z) :
    Fr h₀ L h (fun y => if y = a then some u else if y = b then some v else if y = c then some x else if y = d then some z else m y) := by
  have e : (fun y => if y = a then some u else if y = b then some v else if y = c then some x else if y = d then some z else m y) = m := by
    funext y
    by_cases h1 : y = a
    · rw [if_pos h1, h1, ha]
    · rw [if_neg h1]
      by_cases h2 : y = b
      · rw [if_pos h2, h2, hb]
      · rw [if_neg h2]
        by_cases h3 : y = c
        · rw [if_pos h3, h3, hc]
        · rw [if_neg h3]
          by_cases h4 : y = d
          · rw [if_pos h4, h4, hd]
          · rw [if_neg h4]
  rw [e]; exact F
theorem ModIn.mono {news news' : List (Addr × Obj)} {aM dM : Addr} {q1 q2 : Tok} {a1 a2 : Addr} {oI : Obj} {kvs : List (Str × Value)} {ns : List Str} {rows : Str → List Str} (M : ModIn w news aM dM q1 q2 a1 a2 oI kvs ns rows) (h : ∀ p ∈ news, p ∈ news') :
    ModIn w news' aM dM q1 q2 a1 a2 oI kvs ns rows :=
  ⟨h _ M.inst, h _ M.dict, h _ M.imp, M.isd, M.lo, M.keys, M.nodup, M.rises, M.few, fun nm v hm => let ⟨aI, its, n, e, hi, r⟩ := M.row nm v hm; ⟨aI, its, n, e, h _ hi, r⟩⟩
theorem strs_addA {ys : Array Value} {ss : List Str} {x : Str} {t : Tok} (h : StrsAre ys.toList ss) : StrsAre (ys.push (.str x t)).toList (ss ++ [x]) := by
  rw [Array.toList_push]
  exact strs_add h
theorem take_no {p : Str → Bool} {l : List Str} {i : Nat} {x : Str} (hx : l[i]? = some x) (h : ∀ y ∈ l.take i, p y = false) (hp : p x = false) : ∀ y ∈ l.take (i + 1), p y = false := by
  rw [take_snoc hx]
  intro y hy
  rcases List.mem_append.mp hy with hy | hy
  · exact h y hy
  · rw [List.mem_singleton.mp hy]; exact hp
theorem order_con {news : List (Addr × Obj)} {aM dM : Addr} {q1 q2 : Tok} {a1 a2 : Addr} {oI : Obj} {kvs : List (Str × Value)} {ns : List Str} {rows : Str → List Str} (M : ModIn w news aM dM q1 q2 a1 a2 oI kvs ns rows) :
    Con w mean mg mb (.ref 312) [.ref aM] 20 200 news (fun r news' => Ex4 fun D its e out => And6 (r = .ref D) (news' = (D, listOf its e) :: news) (StrsAre its.toList out) (Picks ns rows out) (pickOf ns rows out = none) (∀ p ∈ news, p.1 < D)) := by
  w_top off
  have hinst := M.inst
  have hdict := M.dict
  unfold Con
  k_fill
  intro dp un gd cn cs a ccd cl outer A₀ base h₀ L m s Q E B F X N T hk hd hu hret
  refine wpAny_call ?_
  k_dflt (refine' code_def ?k1 ?k2 ?k3 ?k4 ?k5 ?kA ?kF ?kK ?k6 ?k7 ?k8 ?k9 ?kB ?_ ?c2 ?c3 ?c4 ?c5; (case kA => exact rfl); (case kF => exact rfl); (case kK => assumption); (case k1 => k_asm); (case k2 => k_asm); (case k3 => k_asm); (case k4 => k_asm); (case k5 => k_asm); (case k6 => k_is); (case k7 => k_is); (case k8 => ktr_room); (case k9 => first | exact BindsTo.of_eq rfl | exact binds_K (by k_in) rfl (by k_is) rfl rfl rfl); (case c5 => decide); (case kB => exact locs rfl); (case c2 => exact rfl); (case c3 => exact rfl); (case c4 => exact rfl); k_whole; intro g' L' h' FG' F' N' B' X' T'; (try dsimp only); (try refine norm_A ?_); (try refine tok_gen fun tk0 => ?_); (try k_fold))
  ((try k_fold); repeat' (first | (k_unfold; (try dsimp only)) | ((with_reducible show wpAny _ _ (exec (Stmt.While _ _ _ _) _) _ _ _); (k_dflt (refine loop_start ?_))) | walk1 | (dsimp only; walk1) | (leave1; (try dsimp only)) | fail "no step"))
  rename ∀ p ∈ news, p.1 < _ => hlt
  rename _ < _ ∧ AllLt _ news => hl2
  refine loop_ind (s₀ := s) (I := fun (i : List Str × Bool) h => Ex7 fun m D its e dD oD kd => And15 (Fr g' L' h m) (m (Str.ofString "self") = some (.ref aM)) (m (Str.ofString "found") = some (.ref D)) (m (Str.ofString "done") = some (.ref dD)) (m (Str.ofString "going") = some (.bool i.2)) (News g' L' h ((dD, oD) :: (D, listOf its e) :: news)) ((∀ p ∈ news, p.1 < D)) (@LT.lt Nat _ D dD) (AllLt dD news) (StrsAre its.toList i.1) (oD.IsDictOf (strKind PROG w) kd) ((dD == sysModules) = false) (kd.map (·.1) = i.1) (Picks ns rows i.1) ((i.2 = false → pickOf ns rows i.1 = none))) (fun i => if i.2 then 65 - i.1.length else 0) ?hE ?turn ([], true) _ _
    ⟨_, _, _, _, _, _, _, by k_asm, rfl, rfl, rfl, rfl, by k_asm, hlt, hl2.1, hl2.2, .nil, by k_asm, by k_asm, rfl, .nil, fun e => by cases e⟩
  case hE => first | passes_own | with_unfolding_all passes_own
  case turn =>
    clear hlt
    rintro Again ⟨acc, b⟩ h tk ⟨m, D, its, e, dD, oD, kd, F1, hse, hfo, hdo, hgo, N1, hlt, hDd, hall, hS, hkd, hlo, hkk, hP, hend⟩ IH
    have F2 := fr_four F1 hse hfo hdo hgo
    clear F1
    dsimp only at hgo hS hkk hP hend F2
    cases b with
    | false =>
      have hP2 := hend rfl
      ((try k_fold); repeat' (first | (k_unfold; (try dsimp only)) | walk1 | (dsimp only; walk1) | (leave1; (try dsimp only)) | fail "no step"))
      refine hret _ _ _ _ (by k_asm) (news_sub (by k_asm) fun p hp => .tail _ hp) ⟨_, _, _, _, rfl, rfl, hS, hP, hP2, hlt⟩
    | true =>
      clear hend
      have hinst1 : (aM, instObj 329 dM) ∈ (dD, oD) :: (D, listOf its e) :: news := .tail _ (.tail _ hinst)
      have hdict1 : (dM, modD w q1 q2 a1 a2) ∈ (dD, oD) :: (D, listOf its e) :: news := .tail _ (.tail _ hdict)
      have M1 := M.mono (fun p (hp : p ∈ news) => List.Mem.tail (dD, oD) (.tail (D, listOf its e) hp))
      ((try k_fold); repeat' (first | (k_unfold; (try dsimp only)) | ((with_reducible show wpAny _ _ (call (Value.ref 295) _) _ _ _); k_dflt (refine' con_use (names_con ?zzM) ?zzkB ?zzkF ?zzkX ?zzkN ?zzkT ?zzkK ?zzks ?zzkd ?zzku ?_; (case zzkB => k_asm); (case zzkF => k_asm); (case zzkX => k_asm); (case zzkN => k_asm); (case zzkT => k_asm); (case zzkK => exact rfl); (case zzks => exact fun _ h => h); (case zzM => first | assumption | exact ModIn.mono (by assumption) (fun _ h => .tail _ h) | exact ModIn.mono (by assumption) (fun _ h => .tail _ (.tail _ h)) | exact ModIn.mono (by assumption) (fun _ h => .tail _ (.tail _ (.tail _ h)))); (case zzkd => ktr_room); (case zzku => ktr_units); intro r9 news9 h9 tk9 F9 N9 p9; obtain ⟨D9, its9, e9, r9', n9', hS9, l9⟩ := p9; subst r9' n9'; (try dsimp only); (try k_lt l9); (try k_sweep))) | ((with_reducible show wpAny _ _ (pyIter (Value.ref _)) (fun it s₂ => LoopAtV _ _ _ _ _ _ _ _ _ it s₂) _ _); refine loopify ?_) | ((with_reducible show wpAny _ _ (exec (Stmt.For _ _ _ _ _) _) _ _ _); ((rename Fr _ _ _ _ => lF'); (with_unfolding_all refine' For_invVF lF' ?zzk1 ?zzk2 ?_; (case zzk1 => exact rfl); (case zzk2 => exact rfl); k_whole))) | walk1 | (dsimp only; walk1) | (leave1; (try dsimp only)) | fail "no step"))
      have hz : acc.length < 64 := Nat.lt_of_le_of_lt hP.length M.few
      have hkz : kd.length ≤ sizeLine := by
        rw [← List.length_map (f := (·.1)), hkk]; exact Nat.le_of_lt (Nat.lt_of_lt_of_le hz (by decide))
      refine Loop.in (for_list (its := its9) (n := e9) (fun i m nx => And6 (nx = (D9, listOf its9 e9) :: (dD, oD) :: (D, listOf its e) :: news) (m (Str.ofString "self") = some (.ref aM)) (m (Str.ofString "found") = some (.ref D)) (m (Str.ofString "done") = some (.ref dD)) (m (Str.ofString "going") = some (.bool false)) (∀ y ∈ ns.take i, canGo ns rows acc y = false)) rfl (by k_asm) (by k_asm) (by rintro _ _ _ ⟨h, -⟩; exact h ▸ .head _) ⟨rfl, rfl, rfl, rfl, rfl, fun y hy => by cases hy⟩ ?turn2 ?done2)
      case turn2 =>
        rintro Again2 i v m1 nx h tk I oI hv' ⟨rfl, hse1, hfo1, hdo1, hgo1, hno⟩ hI hI2 F1 N1 IH2
        obtain ⟨x, t, hx, rfl⟩ := strs_getA hS9 hv'
        have hxn : x ∈ ns := List.mem_of_getElem? hx
        have hinst2 := tl N1 (.tail (D9, listOf its9 e9) hinst1)
        have hdict2 := tl N1 (.tail (D9, listOf its9 e9) hdict1)
        have M2 := M1.mono (fun p hp => tl N1 (.tail (D9, listOf its9 e9) hp))
        have hnI : @Ne Nat D9 I := fun q => hI2 _ (.head _) q
        have hdI : @Ne Nat dD I := fun q => hI2 _ (.tail _ (.head _)) q
        have hDI : @Ne Nat D I := fun q => hI2 _ (.tail _ (.tail _ (.head _))) q
        have hfit : (its.push (.str x t)).size ≤ sizeLine := by
          have e9 := strs_size hS
          rw [Array.size_push, e9, sizeLine_eq]; omega
        have F2 := fr_four F1 (a := Str.ofString "self") (b := Str.ofString "found") (c := Str.ofString "done") (d := Str.ofString "going") (by rw [if_neg (by decide)]; exact hse1) (by rw [if_neg (by decide)]; exact hfo1) (by rw [if_neg (by decide)]; exact hdo1) (by rw [if_neg (by decide)]; exact hgo1)
        have F3 := fr_one F2 (a := Str.ofString "name") (u := .str x t) rfl
        clear F1 F2
        ((try k_fold); repeat' (first | (k_unfold; (try dsimp only)) | ((with_reducible show wpAny _ _ (setItem (Value.ref _) (Value.str _ _) _) _ _ _); k_dflt (refine' kda_set (knd := PySem.strKind _ _) ?zzF ?zzN ?zzU ?zzd (strKind_is _ _ _ _) ?zzz ?_; (case zzF => k_asm); (case zzN => k_asm); (case zzU => k_updF); (case zzd => k_asm); (case zzz => k_asm)); intro h9 o9 F9 N9 hd9; (try dsimp only at N9); (try k_sweep)) | ((with_reducible show wpAny _ _ (call (Value.ref 340) _) _ _ _); k_dflt (refine' con_use (alldone_con ?zzhl ?zzhS ?zzhdm ?zzhD ?zzlo) ?zzkB ?zzkF ?zzkX ?zzkN ?zzkT ?zzkK ?zzks ?zzkd ?zzku ?_; (case zzkB => k_asm); (case zzkF => k_asm); (case zzkX => k_asm); (case zzkN => k_asm); (case zzkT => k_asm); (case zzkK => exact rfl); (case zzks => exact fun _ h => h); (case zzhl => k_mem); (case zzhS => assumption); (case zzhdm => k_mem); (case zzhD => assumption); (case zzlo => assumption); (case zzkd => ktr_room); (case zzku => ktr_units); intro r9 news9 h9 tk9 F9 N9 p9; obtain ⟨r9', n9'⟩ := p9; subst r9' n9'; (try dsimp only); (try k_sweep))) | ((with_reducible show wpAny _ _ (call (Value.ref 300) _) _ _ _); k_dflt (refine' con_use (needed_con ?zzM ?zzhn) ?zzkB ?zzkF ?zzkX ?zzkN ?zzkT ?zzkK ?zzks ?zzkd ?zzku ?_; (case zzkB => k_asm); (case zzkF => k_asm); (case zzkX => k_asm); (case zzkN => k_asm); (case zzkT => k_asm); (case zzkK => exact rfl); (case zzks => exact fun _ h => h); (case zzM => first | assumption | exact ModIn.mono (by assumption) (fun _ h => .tail _ h) | exact ModIn.mono (by assumption) (fun _ h => .tail _ (.tail _ h)) | exact ModIn.mono (by assumption) (fun _ h => .tail _ (.tail _ (.tail _ h)))); (case zzhn => assumption); (case zzkd => ktr_room); (case zzku => ktr_units); intro r9 news9 h9 tk9 F9 N9 p9; obtain ⟨D9, its9, e9, ss9, r9', n9', hS9, hm9, l9⟩ := p9; subst r9' n9'; (try dsimp only); (try k_lt l9); (try k_sweep))) | ((with_reducible show wpAny _ _ (compareOp CmpOp.NotIn (Value.str _ _) (Value.ref _)) _ _ _); (k_dflt (first | (refine kdg_notin (knd := PySem.strKind _ _) (by k_asm) (by k_mem) (by k_asm) (by k_asm) (strKind_is _ _ _ _) _ rfl ?_) | (refine notin_listS (by k_asm) (by k_mem) (by k_asm) ?_)))) | ((with_reducible show LPost _ _ _ _); (dsimp only [LPost])) | walk1 | (dsimp only; walk1) | (leave1; (try dsimp only)) | fail "no step"))
        all_goals first
          | (have hx9 : (valueAt kd x).isSome = true := by assumption
             exact IH2 _ _ _ _ (by k_asm) (by k_asm) hI2 ⟨rfl, rfl, rfl, rfl, rfl, take_no hx hno (canGo_f1 hkk hx9)⟩)
          | (rename (List.all _ fun _ => _) = true => hy9
             rename (valueAt kd x).isSome = false => hx9
             rename ∀ _, _ ↔ _ => hm9
             exact IH (acc ++ [x], true) _ _ (by dsimp only; rw [if_pos rfl, if_pos rfl, List.length_append, List.length_singleton]; omega) ⟨_, D, its.push (.str x t), e + 1, dD, _, stored kd x (.bool true), by k_asm, rfl, rfl, rfl, rfl, news_sub (by k_asm) (fun p hp => .tail _ (.tail _ (.tail _ hp))), hlt, hDd, hall, strs_addA hS, by assumption, hlo, stored_new hkk hx9, .snoc hP (find_at hx (canGo_t hkk hm9 hx9 hy9) hno), fun q => by cases q⟩)
          | (rename (List.all _ fun _ => _) = false => hy9
             rename ∀ _, _ ↔ _ => hm9
             exact IH2 _ _ _ _ (by k_asm) (news_sub (by k_asm) fun p hp => .tail _ hp) hI2 ⟨rfl, rfl, rfl, rfl, rfl, take_no hx hno (canGo_f2 hkk hm9 hy9)⟩)
      case done2 =>
        rintro m1 nx h tk ⟨rfl, hse1, hfo1, hdo1, hgo1, hno⟩ F1 N1
        rw [strs_size hS9, List.take_length] at hno
        have F2 := fr_four F1 hse1 hfo1 hdo1 hgo1
        clear F1
        ((try k_fold); repeat' (first | (k_unfold; (try dsimp only)) | ((with_reducible show LPost _ _ _ _); (dsimp only [LPost])) | walk1 | (dsimp only; walk1) | (leave1; (try dsimp only)) | fail "no step"))
        exact IH (acc, false) _ _ (by dsimp only; rw [if_neg (by decide), if_pos rfl]; omega) ⟨_, D, its, e, dD, oD, kd, by k_asm, rfl, rfl, rfl, rfl, news_sub (by k_asm) (fun p hp => .tail _ hp), hlt, hDd, hall, hS, hkd, hlo, hkk, hP, fun _ => find_none hno⟩
end
section
variable {w : World} {mean : ExcName → Option Value} {mg mb : Str → Option Value}
/-- does the plan take x? -/
def due (rows : Str → List Str) (chg : List Str) (fA fB : Str → Option Int) (x : Str) : Bool := chg.any (· == x) || decide (0 < ((rows x).filter fun y => fA y != fB y).length)
theorem fr_five {h₀ h : Heap} {L : Addr} {m : Str → Option Value} (F : Fr h₀ L h m) {a b c d f : Str} {u v x z y : Value} (ha : m a = some u) (hb : m b = some v) (hc : m c = some x) (hd : m d = some z) (hf : m f = some y) :
    Fr h₀ L h (fun q => if q = a then some u else if q = b then some v else if q = c then some x else if q = d then some z else if q = f then some y else m q) := by
  have e : (fun q => if q = f then some y else m q) = m := by
    funext q
    by_cases h1 : q = f
    · rw [if_pos h1, h1, hf]
    · rw [if_neg h1]
  have := fr_four F ha hb hc hd
  rw [← e] at this
  simpa only [e] using this
theorem due_1 {rows : Str → List Str} {chg : List Str} {fA fB : Str → Option Int} {x : Str} (h : (chg.any fun y => y == x) = true) : due rows chg fA fB x = true := by rw [due, h, Bool.true_or]
theorem due_2 {rows : Str → List Str} {chg : List Str} {fA fB : Str → Option Int} {x : Str} (h : (0 : Int) < ((rows x).filter fun y => fA y != fB y).length) : due rows chg fA fB x = true := by
  rw [due, decide_eq_true (Int.ofNat_lt.mp h), Bool.or_true]
theorem due_3 {rows : Str → List Str} {chg : List Str} {fA fB : Str → Option Int} {x : Str} (h1 : (chg.any fun y => y == x) = false) (h : ¬ (0 : Int) < ((rows x).filter fun y => fA y != fB y).length) : due rows chg fA fB x = false := by
  rw [due, h1, decide_eq_false (fun q => h (Int.ofNat_lt.mpr q)), Bool.or_false]
theorem off_new2 {D I : Addr} {q : Addr × Obj} {o o' : Obj} {news : List (Addr × Obj)} (h : ∀ p ∈ q :: (D, o) :: news, p.1 ≠ I) : ∀ p ∈ q :: (D, o') :: news, p.1 ≠ I := fun p hp => by
  rcases List.mem_cons.mp hp with rfl | hp
  · exact h _ (.head _)
  · exact off_new (fun p hp => h p (.tail _ hp)) p hp
theorem ModIn.rowlen {news : List (Addr × Obj)} {aM dM : Addr} {q1 q2 : Tok} {a1 a2 : Addr} {oI : Obj} {kvs : List (Str × Value)} {ns : List Str} {rows : Str → List Str} (M : ModIn w news aM dM q1 q2 a1 a2 oI kvs ns rows) {x : Str} (hx : x ∈ ns) : (rows x).length < 64 := by
  obtain ⟨v, hv, hvm⟩ := valueAt_of_mem (M.keys.symm ▸ hx)
  obtain ⟨aI, its, n, rfl, hil, hiS, hi64⟩ := M.row _ _ hvm
  exact hi64
theorem plan_con {news : List (Addr × Obj)} {aM dM : Addr} {q1 q2 : Tok} {a1 a2 : Addr} {oI : Obj} {kvs : List (Str × Value)} {ns : List Str} {rows : Str → List Str} {dA dB lC : Addr} {oA oB : Obj} {kA kB : List (Str × Value)} {fA fB : Str → Option Int} {itC : Array Value} {nC : Nat} {chg : List Str}
    (M : ModIn w news aM dM q1 q2 a1 a2 oI kvs ns rows) (hA : (dA, oA) ∈ news) (hB : (dB, oB) ∈ news) (iA : oA.IsDictOf (strKind PROG w) kA) (iB : oB.IsDictOf (strKind PROG w) kB) (lA : (dA == sysModules) = false) (lB : (dB == sysModules) = false) (gA : KeyF kA fA) (gB : KeyF kB fB) (hC : (lC, listOf itC nC) ∈ news) (sC : StrsAre itC.toList chg) :
    Con w mean mg mb (.ref 354) [.ref aM, .ref lC, .ref dA, .ref dB] 40 300 news (fun r news' => Ex4 fun D its e out => And6 (r = .ref D) (news' = (D, listOf its e) :: news) (StrsAre its.toList (out.filter (due rows chg fA fB))) (Picks ns rows out) (pickOf ns rows out = none) (∀ p ∈ news, p.1 < D)) := by
  w_top off
  have hinst := M.inst
  have hdict := M.dict
  unfold Con
  k_fill
  intro dp un gd cn cs a ccd cl outer A₀ base h₀ L m s Q E B F X N T hk hd hu hret
  refine wpAny_call ?_
  k_dflt (refine' code_def ?k1 ?k2 ?k3 ?k4 ?k5 ?kA ?kF ?kK ?k6 ?k7 ?k8 ?k9 ?kB ?_ ?c2 ?c3 ?c4 ?c5; (case kA => exact rfl); (case kF => exact rfl); (case kK => assumption); (case k1 => k_asm); (case k2 => k_asm); (case k3 => k_asm); (case k4 => k_asm); (case k5 => k_asm); (case k6 => k_is); (case k7 => k_is); (case k8 => ktr_room); (case k9 => first | exact BindsTo.of_eq rfl | exact binds_K (by k_in) rfl (by k_is) rfl rfl rfl); (case c5 => decide); (case kB => exact locs rfl); (case c2 => exact rfl); (case c3 => exact rfl); (case c4 => exact rfl); k_whole; intro g' L' h' FG' F' N' B' X' T'; (try dsimp only); (try refine norm_A ?_); (try refine tok_gen fun tk0 => ?_); (try k_fold))
  ((try k_fold); repeat' (first | (k_unfold; (try dsimp only)) | ((with_reducible show wpAny _ _ (call (Value.ref 312) _) _ _ _); k_dflt (refine' con_use (order_con ?zzM) ?zzkB ?zzkF ?zzkX ?zzkN ?zzkT ?zzkK ?zzks ?zzkd ?zzku ?_; (case zzkB => k_asm); (case zzkF => k_asm); (case zzkX => k_asm); (case zzkN => k_asm); (case zzkT => k_asm); (case zzkK => exact rfl); (case zzks => exact fun _ h => h); (case zzM => first | assumption | exact ModIn.mono (by assumption) (fun _ h => .tail _ h) | exact ModIn.mono (by assumption) (fun _ h => .tail _ (.tail _ h)) | exact ModIn.mono (by assumption) (fun _ h => .tail _ (.tail _ (.tail _ h)))); (case zzkd => ktr_room); (case zzku => ktr_units); intro r9 news9 h9 tk9 F9 N9 p9; obtain ⟨D9, its9, e9, ss9, r9', n9', hS9, hP9, hq9, l9⟩ := p9; subst r9' n9'; (try dsimp only); (try k_lt l9); (try k_sweep))) | ((with_reducible show wpAny _ _ (pyIter (Value.ref _)) (fun it s₂ => LoopAtV _ _ _ _ _ _ _ _ _ it s₂) _ _); refine loopify ?_) | ((with_reducible show wpAny _ _ (exec (Stmt.For _ _ _ _ _) _) _ _ _); ((rename Fr _ _ _ _ => lF'); (with_unfolding_all refine' For_invVF lF' ?zzk1 ?zzk2 ?_; (case zzk1 => exact rfl); (case zzk2 => exact rfl); k_whole))) | walk1 | (dsimp only; walk1) | (leave1; (try dsimp only)) | fail "no step"))
  rename ∀ p ∈ news, p.1 < _ => hlt
  have hz : ss9.length < 64 := Nat.lt_of_le_of_lt hP9.length M.few
  refine Loop.in (for_list (its := its9) (n := e9) (fun i m nx => Ex3 fun D ys e => And9 (nx = (D9, listOf its9 e9) :: (D, listOf ys e) :: news) ((∀ p ∈ news, p.1 < D)) (@LT.lt Nat _ D D9) (StrsAre ys.toList ((ss9.take i).filter (due rows chg fA fB))) (m (Str.ofString "modules") = some (.ref aM)) (m (Str.ofString "changed") = some (.ref lC)) (m (Str.ofString "old_keys") = some (.ref dA)) (m (Str.ofString "new_keys") = some (.ref dB)) (m (Str.ofString "found") = some (.ref D))) rfl (by k_asm) (by k_asm) (by rintro _ _ _ ⟨_, _, _, h, -⟩; exact h ▸ .head _) ⟨_, _, _, rfl, hlt, l9.1, .nil, rfl, rfl, rfl, rfl, rfl⟩ ?turn ?done)
  case turn =>
    clear hlt
    rintro Again i v m1 nx h tk I oI hv' ⟨D, ys, e, rfl, hlt, hDo, hys, hmo, hch, hok, hnk, hfo⟩ hI hI2 F1 N1 IH
    obtain ⟨x, t, hx, rfl⟩ := strs_getA hS9 hv'
    have hxn : x ∈ ns := hP9.mem x (List.mem_of_getElem? hx)
    have oI : @Ne Nat D9 I := fun q => hI2 _ (.head _) q
    have DI : @Ne Nat D I := fun q => hI2 _ (.tail _ (.head _)) q
    have up := fun p (hp : p ∈ news) => tl N1 (.tail (D9, listOf its9 e9) (.tail (D, listOf ys e) hp))
    have hA1 := up _ hA
    have hB1 := up _ hB
    have hC1 := up _ hC
    have M1 := M.mono up
    have hfit : (ys.push (.str x t)).size ≤ sizeLine := strs_fit2 hys hz
    have hfz : ((rows x).filter fun y => fA y != fB y).length < 100000 := Nat.lt_of_le_of_lt (List.length_filter_le ..) (Nat.lt_trans (M.rowlen hxn) (by decide))
    have F2 := fr_five F1 (a := Str.ofString "modules") (b := Str.ofString "changed") (c := Str.ofString "old_keys") (d := Str.ofString "new_keys") (f := Str.ofString "found") (by rw [if_neg (by decide)]; exact hmo) (by rw [if_neg (by decide)]; exact hch) (by rw [if_neg (by decide)]; exact hok) (by rw [if_neg (by decide)]; exact hnk) (by rw [if_neg (by decide)]; exact hfo)
    have F3 := fr_one F2 (a := Str.ofString "name") (u := .str x t) rfl
    clear F1 F2
    ((try k_fold); repeat' (first | (k_unfold; (try dsimp only)) | ((with_reducible show wpAny _ _ (call (Value.builtin "len") [Value.ref _]) _ _ _); k_dflt (refine' len_listS ?zzN ?zzm ?zzS ?zzz ?_; (case zzN => k_asm); (case zzm => k_mem); (case zzS => k_asm); (case zzz => k_asm)); intro t9 tk9; (try dsimp only)) | ((with_reducible show wpAny _ _ (call (Value.ref 347) _) _ _ _); k_dflt (refine' con_use (moved_con ?zzM ?zzhn ?zzhA ?zzhB ?zziA ?zziB ?zzlA ?zzlB ?zzgA ?zzgB) ?zzkB ?zzkF ?zzkX ?zzkN ?zzkT ?zzkK ?zzks ?zzkd ?zzku ?_; (case zzkB => k_asm); (case zzkF => k_asm); (case zzkX => k_asm); (case zzkN => k_asm); (case zzkT => k_asm); (case zzkK => exact rfl); (case zzks => exact fun _ h => h); (case zzM => first | assumption | exact ModIn.mono (by assumption) (fun _ h => .tail _ h) | exact ModIn.mono (by assumption) (fun _ h => .tail _ (.tail _ h)) | exact ModIn.mono (by assumption) (fun _ h => .tail _ (.tail _ (.tail _ h)))); (case zzhn => assumption); (case zzhA => k_mem); (case zzhB => k_mem); (case zziA => assumption); (case zziB => assumption); (case zzlA => assumption); (case zzlB => assumption); (case zzgA => assumption); (case zzgB => assumption); (case zzkd => ktr_room); (case zzku => ktr_units); intro r9 news9 h9 tk9 F9 N9 p9; obtain ⟨D9, its9, e9, r9', n9', hS9, l9⟩ := p9; subst r9' n9'; (try dsimp only); (try k_lt l9); (try k_sweep))) | ((with_reducible show wpAny _ _ (compareOp CmpOp.In (Value.str _ _) (Value.ref _)) _ _ _); (k_dflt (first | (refine kda_in (knd := PySem.strKind _ _) (by k_asm) (by k_mem) (by k_asm) (by k_asm) (strKind_is _ _ _ _) _ rfl ?_) | (refine in_listS (by k_asm) (by k_mem) (by k_asm) ?_)))) | ((with_reducible show LPost _ _ _ _); (dsimp only [LPost])) | walk1 | (dsimp only; walk1) | (leave1; (try dsimp only)) | fail "no step"))
    all_goals first
      | (have hx9 : (chg.any fun y => y == x) = true := by assumption
         exact IH _ _ _ _ (by k_asm) (by k_asm) (off_new2 hI2) ⟨_, _, _, rfl, hlt, hDo, strs_takeA hx (due_1 hx9) hys, rfl, rfl, rfl, rfl, rfl⟩)
      | (have hx9 : (chg.any fun y => y == x) = false := by assumption
         rename ¬ (0 : Int) < _ => hy9
         exact IH _ _ _ _ (by k_asm) (news_sub (by k_asm) fun p hp => .tail _ hp) hI2 ⟨_, _, _, rfl, hlt, hDo, strs_skip hx (due_3 hx9 hy9) hys, rfl, rfl, rfl, rfl, rfl⟩)
      | (rename (0 : Int) < _ => hy9
         exact IH _ _ _ _ (by k_asm) (news_sub (by k_asm) fun p hp => .tail _ hp) (off_new2 hI2) ⟨_, _, _, rfl, hlt, hDo, strs_takeA hx (due_2 hy9) hys, rfl, rfl, rfl, rfl, rfl⟩)
  case done =>
    rintro m1 nx h tk ⟨D, ys, e, rfl, hlt, hDo, hys, hmo, hch, hok, hnk, hfo⟩ F1 N1
    have F2 := fr_one F1 hfo
    clear F1
    rw [strs_size hS9, List.take_length] at hys
    ((try k_fold); repeat' (first | (k_unfold; (try dsimp only)) | walk1 | (dsimp only; walk1) | (leave1; (try dsimp only)) | fail "no step"))
    exact hret _ _ _ _ (by k_asm) (news_sub (by k_asm) fun p hp => .tail _ hp) ⟨_, _, _, _, rfl, rfl, hys, hP9, hq9, hlt⟩
end
section
theorem picks_at {ns : List Str} {rows : Str → List Str} {b : List Str} (h : Picks ns rows b) : ∀ i, i < b.length → pickOf ns rows (b.take i) = b[i]? := by
  induction h with
  | nil => intro i hi; exact absurd hi (Nat.not_lt_zero _)
  | @snoc acc x hP hp ih =>
    intro i hi
    rw [List.length_append, List.length_singleton] at hi
    by_cases e : i = acc.length
    · subst e
      rw [List.take_left, hp, List.getElem?_concat_length]
    · have hlt : i < acc.length := by omega
      rw [List.take_append_of_le_length (Nat.le_of_lt hlt), List.getElem?_append_left hlt]
      exact ih i hlt
theorem picks_pre {ns : List Str} {rows : Str → List Str} {a b : List Str} (ha : Picks ns rows a) (hb : Picks ns rows b) : a.length ≤ b.length → a = b.take a.length := by
  induction ha with
  | nil => intro _; rfl
  | @snoc acc x hP hp ih =>
    intro hl
    rw [List.length_append, List.length_singleton] at hl
    have e := ih (by omega)
    have h2 := picks_at hb acc.length (by omega)
    rw [← e, hp] at h2
    rw [List.length_append, List.length_singleton, take_snoc h2.symm, ← e]
theorem picks_le {ns : List Str} {rows : Str → List Str} {a b : List Str} (ha : Picks ns rows a) (ea : pickOf ns rows a = none) (hb : Picks ns rows b) : b.length ≤ a.length := by
  refine Nat.le_of_not_lt fun hl => ?_
  have h2 := picks_at hb a.length hl
  rw [← picks_pre ha hb (Nat.le_of_lt hl), ea, List.getElem?_eq_getElem hl] at h2
  cases h2
theorem picks_one {ns : List Str} {rows : Str → List Str} {a b : List Str} (ha : Picks ns rows a) (ea : pickOf ns rows a = none) (hb : Picks ns rows b) (eb : pickOf ns rows b = none) : a = b := by
  have h1 := picks_le ha ea hb
  have h2 := picks_le hb eb ha
  have e := picks_pre ha hb h2
  rwa [Nat.le_antisymm h2 h1, List.take_length] at e
/-- what the law lays into the two keys -/
structure KeysOk (all : List Str) (fA fB : Str → Option Int) : Prop where
  A : ∀ x, fA x = none ∨ fA x = some 3
  B : ∀ x, fB x = none ∨ fB x = some 3 ∨ fB x = some 4
  out : ∀ x, x ∉ all → fA x = none ∧ fB x = none
def differ (fA fB : Str → Option Int) (x : Str) : Bool := (fA x).getD 0 != (fB x).getD 0
theorem differ_eq {all : List Str} {fA fB : Str → Option Int} (h : KeysOk all fA fB) (x : Str) : differ fA fB x = (fA x != fB x) := by
  unfold differ
  rcases h.A x with e | e <;> rcases h.B x with e2 | e2 | e2 <;> rw [e, e2] <;> decide
theorem other_any {all : List Str} {fA fB : Str → Option Int} (h : KeysOk all fA fB) (x : Str) : (all.filter (differ fA fB)).any (· == x) = (fA x != fB x) := by
  rw [← differ_eq h x]
  by_cases hx : x ∈ all
  · cases e : differ fA fB x with
    | true => exact List.any_eq_true.mpr ⟨x, List.mem_filter.mpr ⟨hx, e⟩, beq_self_eq_true _⟩
    | false =>
      rw [List.any_eq_false]
      intro y hy e2
      rw [eq_of_beq e2, List.mem_filter, e] at hy
      exact Bool.false_ne_true hy.2
  · rw [differ_eq h x, (h.out x hx).1, (h.out x hx).2, List.any_eq_false.mpr]
    · rfl
    · intro y hy e2
      exact hx (eq_of_beq e2 ▸ (List.mem_filter.mp hy).1)
theorem other_fun {all : List Str} {fA fB : Str → Option Int} (h : KeysOk all fA fB) : (fun x => (all.filter (differ fA fB)).any (· == x)) = fun x => fA x != fB x := funext (other_any h)
theorem due_eq {all chg : List Str} {rows : Str → List Str} {fA fB : Str → Option Int} (h : KeysOk all fA fB) (x : Str) : due rows chg fA fB x = (chg.any (· == x) || !decide ((rows x).filter (fun y => (all.filter (differ fA fB)).any (· == y)) = [])) := by
  rw [other_fun h, due]
  congr 1
  cases (rows x).filter fun y => fA y != fB y with
  | nil => rfl
  | cons a l => simp
theorem valueAt_cons {k : Str} {u : Value} {r : List (Str × Value)} {y : Str} : valueAt ((k, u) :: r) y = if k = y then some u else valueAt r y := by
  by_cases e : k = y
  · simp [valueAt, e]
  · simp [valueAt, e]
theorem valueAt_map (x : Str) (v : Value) (y : Str) : ∀ kvs : List (Str × Value), valueAt (kvs.map fun kv => if kv.1 = x then (kv.1, v) else kv) y = if y = x then (valueAt kvs y).map fun _ => v else valueAt kvs y
  | [] => by simp [valueAt]
  | (k, u) :: r => by
    rw [List.map_cons, valueAt_cons]
    have ih := valueAt_map x v y r
    by_cases e : k = x
    · subst e
      rw [if_pos rfl, valueAt_cons, ih]
      by_cases e2 : k = y
      · subst e2; simp
      · simp [e2]
    · rw [if_neg e, valueAt_cons, ih]
      by_cases e2 : k = y
      · subst e2; simp [e]
      · simp [e2]
theorem valueAt_app (x : Str) (v : Value) (y : Str) : ∀ kvs : List (Str × Value), valueAt kvs x = none → valueAt (kvs ++ [(x, v)]) y = if y = x then some v else valueAt kvs y
  | [], _ => by
    rw [List.nil_append, valueAt_cons]
    by_cases e : x = y
    · subst e; simp
    · simp [e, Ne.symm e]
  | (k, u) :: r, h => by
    rw [valueAt_cons] at h
    rw [List.cons_append, valueAt_cons, valueAt_cons]
    by_cases e : k = x
    · subst e; simp at h
    · rw [if_neg e] at h
      rw [valueAt_app x v y r h]
      by_cases e2 : k = y
      · subst e2; simp [e]
      · simp [e2]
theorem valueAt_stored (kvs : List (Str × Value)) (x : Str) (v : Value) (y : Str) : valueAt (stored kvs x v) y = if y = x then some v else valueAt kvs y := by
  have hi := valueAt_isSome_eq_any kvs x
  unfold stored
  split
  · rename_i h
    rw [h] at hi
    rw [valueAt_map]
    by_cases e : y = x
    · subst e
      obtain ⟨u, hu⟩ := Option.isSome_iff_exists.mp hi
      rw [if_pos rfl, if_pos rfl, hu]; rfl
    · rw [if_neg e, if_neg e]
  · rename_i h
    rw [eq_false_of_ne_true h] at hi
    exact valueAt_app x v y kvs (by simpa using hi)
theorem keyF_stored {kvs : List (Str × Value)} {f : Str → Option Int} {x : Str} {n : Int} {t : Tok} (h : KeyF kvs f) : KeyF (stored kvs x (.int n t)) (fun y => if y = x then some n else f y) := by
  intro y
  show (_ ∧ (if y = x then _ else _) = _) ∨ ∃ _ _, _ ∧ (if y = x then _ else _) = _
  rw [valueAt_stored]
  by_cases e : y = x
  · subst e
    rw [if_pos rfl, if_pos rfl]
    exact .inr ⟨n, t, rfl, rfl⟩
  · rw [if_neg e, if_neg e]
    exact h y
theorem keyF_nil : KeyF [] fun _ => none := fun _ => .inl ⟨rfl, rfl⟩
theorem keysOk_nil {all : List Str} : KeysOk all (fun _ => none) (fun _ => none) := ⟨fun _ => .inl rfl, fun _ => .inl rfl, fun _ _ => ⟨rfl, rfl⟩⟩
theorem keysOk_A {all : List Str} {fA fB : Str → Option Int} {x : Str} (h : KeysOk all fA fB) (hx : x ∈ all) : KeysOk all (fun y => if y = x then some 3 else fA y) fB := by
  refine ⟨fun y => ?_, h.B, fun y hy => ⟨?_, (h.out y hy).2⟩⟩
  · show (if y = x then _ else _) = _ ∨ _
    split
    · exact .inr rfl
    · exact h.A y
  · rw [if_neg fun e : y = x => hy (e ▸ hx)]
    exact (h.out y hy).1
theorem keysOk_B {all : List Str} {fA fB : Str → Option Int} {x : Str} {n : Int} (h : KeysOk all fA fB) (hx : x ∈ all) (hn : n = 3 ∨ n = 4) : KeysOk all fA (fun y => if y = x then some n else fB y) := by
  refine ⟨h.A, fun y => ?_, fun y hy => ⟨(h.out y hy).1, ?_⟩⟩
  · show (if y = x then _ else _) = _ ∨ _ ∨ _
    split
    · rcases hn with rfl | rfl
      · exact .inr (.inl rfl)
      · exact .inr (.inr rfl)
    · exact h.B y
  · rw [if_neg fun e : y = x => hy (e ▸ hx)]
    exact (h.out y hy).2
theorem differ_t {fA fB : Str → Option Int} {x : Str} {a b : Int} (h1 : a = (fA x).getD 0) (h2 : b = (fB x).getD 0) (h : a ≠ b) : differ fA fB x = true := by
  subst h1 h2
  exact bne_iff_ne.mpr h
theorem differ_f {fA fB : Str → Option Int} {x : Str} {a b : Int} (h1 : a = (fA x).getD 0) (h2 : b = (fB x).getD 0) (h : a = b) : differ fA fB x = false := by
  subst h1 h2
  exact bne_eq_false_iff_eq.mpr h
theorem no_diff {A B : List Str} (h : A = B) (hb : (!decide (A = B)) = true) : False := by
  rw [decide_eq_true h] at hb
  cases hb
def dueL (all chg : List Str) (rows : Str → List Str) (fA fB : Str → Option Int) (x : Str) : Bool := chg.any (· == x) || !decide ((rows x).filter (fun y => (all.filter (differ fA fB)).any (· == y)) = [])
theorem due_fun {all chg : List Str} {rows : Str → List Str} {fA fB : Str → Option Int} (h : KeysOk all fA fB) : due rows chg fA fB = dueL all chg rows fA fB := funext (due_eq h)
theorem dueL_1 {all chg : List Str} {rows : Str → List Str} {fA fB : Str → Option Int} {x : Str} (h : (chg.any fun y => y == x) = true) : dueL all chg rows fA fB x = true := by
  rw [dueL, h, Bool.true_or]
theorem dueL_2 {all chg : List Str} {rows : Str → List Str} {fA fB : Str → Option Int} {x : Str} (h2 : ¬ (rows x).filter (fun y => (all.filter (differ fA fB)).any (· == y)) = []) : dueL all chg rows fA fB x = true := by
  rw [dueL, decide_eq_false h2, Bool.not_false, Bool.or_true]
theorem dueL_3 {all chg : List Str} {rows : Str → List Str} {fA fB : Str → Option Int} {x : Str} (h : (chg.any fun y => y == x) = false) (h2 : (rows x).filter (fun y => (all.filter (differ fA fB)).any (· == y)) = []) : dueL all chg rows fA fB x = false := by
  rw [dueL, h, decide_eq_true h2]; rfl
end
section
variable {w : World} {mean : ExcName → Option Value} {mg mb : Str → Option Value}
/-- the hand of the law between two draws -/
def HandIs (ns : List Int) (aC : Addr) (o : Obj) : Prop :=
  Ex7 fun i c sd t1 t2 t3 n => And4 (o = listOf #[.ref aC, .int i t1, .int c t2, .int sd t3] n) (0 ≤ i) (i ≤ (ns.length : Int)) (0 ≤ c)
theorem pick_con {aH aC : Addr} {vs : List Value} {ns : List Int} {nC : Nat} {o : Obj} {g : Obj → List (Addr × Obj)} {k : Int} {tk : Tok} (hg : Slot aH g) (hC : SlotIn (aC, listOf vs.toArray nC) g) (hI : IntsAre vs ns) (hl : ns.length ≤ 63) (hH : HandIs ns aC o) (hk1 : 0 < k) (hk6 : k ≤ 6) :
    Con w mean mg mb (.ref 361) [.ref aH, .int k tk] 3 30 (g o) (fun r news' => Ex3 fun d o' t => And5 (r = .int d t) (0 ≤ d) (d < k) (HandIs ns aC o') (news' = g o')) := by
  w_top off
  obtain ⟨i, c, sd, t1, t2, t3, n, rfl, hi0, hi1, hc⟩ := hH
  unfold Con
  k_fill
  intro dp un gd cn cs a ccd cl outer A₀ base h₀ L m s Q E B F X N T hk hd hu hret
  refine wpAny_call ?_
  k_dflt (refine' code_def ?k1 ?k2 ?k3 ?k4 ?k5 ?kA ?kF ?kK ?k6 ?k7 ?k8 ?k9 ?kB ?_ ?c2 ?c3 ?c4 ?c5; (case kA => exact rfl); (case kF => exact rfl); (case kK => assumption); (case k1 => k_asm); (case k2 => k_asm); (case k3 => k_asm); (case k4 => k_asm); (case k5 => k_asm); (case k6 => k_is); (case k7 => k_is); (case k8 => ktr_room); (case k9 => first | exact BindsTo.of_eq rfl | exact binds_K (by k_in) rfl (by k_is) rfl rfl rfl); (case c5 => decide); (case kB => exact locs rfl); (case c2 => exact rfl); (case c3 => exact rfl); (case c4 => exact rfl); k_whole; intro g' L' h' FG' F' N' B' X' T'; (try dsimp only); (try refine norm_A ?_); (try refine tok_gen fun tk0 => ?_); (try k_fold))
  ((try k_fold); repeat' (first | (k_unfold; (try dsimp only)) | walk1 | (dsimp only; walk1) | (leave1; (try dsimp only)) | fail "no step"))
  all_goals (refine hret _ _ _ _ (by k_asm) (by k_asm) ⟨_, _, _, rfl, ?_, ?_, ⟨_, _, _, _, _, _, _, rfl, ?_, ?_, ?_⟩, rfl⟩)
  all_goals first
    | exact fmod_lo _ (by omega)
    | exact fmod_hi _ (by omega)
    | omega
    | (rw [Int.fdiv_eq_ediv_of_nonneg _ (by omega)]; exact Int.ediv_nonneg (by omega) (by omega))
end
section
section
variable {prog : Program} {w : World} {A : Around} {E : Value → Shared → Prop} {s : Shared} {h₀ : Heap} {L src : Addr} {m : Str → Option Value} {news : List (Addr × Obj)} {oS : Obj} {kvs : List (Str × Value)} {Q : Value → Shared → Prop}
/-- dict(d) of a dict of the ledger -/
theorem dict_ofS (F : Fr h₀ L s.heap m) (N : News h₀ L s.heap news) (hbig : h₀.NoLimit) (hm : (src, oS) ∈ news) (hD : oS.IsDictOf (strKind prog w) kvs) (lo : (src == sysModules) = false) (hsz : kvs.length ≤ sizeLine)
    (k : ∀ d h' o, Fr h₀ L h' m → News h₀ L h' ((d, o) :: news) → (∀ p ∈ news, p.1 < d) → (d == sysModules) = false → o.IsDictOf (strKind prog w) kvs → Q (.ref d) { s with heap := h' }) :
    wpAny (model prog w) A (call (.type "dict") [.ref src]) Q E s := by
  refine kt_call_dict lo (kda_dict (knd := strKind prog w) N hm hD) hsz fun h' hmm hs => ?_
  obtain ⟨o', ho', hd'⟩ := Heap.dictOf_iff.mp hmm
  have N1 := News.push F N { cls := .type "dict", data := .dict #[] }
  exact k _ h' o' ((F.push _).change hs (N1 _ (.head _)).2.1 (N1.fresh (.head _))) (N1.setHead N.apart hs ho') (fun p hp => Heap.lt_size (N p hp).1) (F.notModules (modules_low hbig)) hd'
end
end
section
variable {w : World} {mean : ExcName → Option Value} {mg mb : Str → Option Value}
theorem sub_re {A B C I N D : Addr × Obj} {R : List (Addr × Obj)} : ∀ p ∈ I :: N :: D :: C :: R, p ∈ A :: B :: C :: I :: N :: D :: R := by
  intro p hp
  simp only [List.mem_cons] at hp ⊢
  rcases hp with h | h | h | h | h <;> simp [h]
theorem mod_con {news : List (Addr × Obj)} {dS : Addr} {oS : Obj} {kS : List (Str × Value)} {ns : List Str} {rows : Str → List Str} (hS : (dS, oS) ∈ news) (iS : oS.IsDictOf (strKind PROG w) kS) (lS : (dS == sysModules) = false) (hkeys : kS.map (·.1) = ns) (hnd : ns.Nodup) (hri : PyProof.Rows.sortedS ns = true) (hfew : ns.length < 64)
    (hv : ∀ nm v, (nm, v) ∈ kS → ∃ S t nms, v = .str S t ∧ HeadTxt S nms ∧ nms.foldl addNew [] = rows nm ∧ (rows nm).length < 64) :
    Con w mean mg mb (.ref 329) [.ref dS] 80 700 news (fun r news' => Ex9 fun aM dM q1 q2 a1 a2 oI kvs ml => And4 (r = .ref aM) (news' = news ++ ml) (ModIn w ml aM dM q1 q2 a1 a2 oI kvs ns rows) (∀ p ∈ ml, ∀ q ∈ news, @LT.lt Nat _ q.1 p.1)) := by
  w_top off
  have hzS : kS.length < 64 := by rw [← List.length_map (f := (·.1)), hkeys]; exact hfew
  have hzL : kS.length ≤ sizeLine := Nat.le_of_lt (Nat.lt_of_lt_of_le hzS (by decide))
  have hsS : PyProof.Rows.sortedS (kS.map (·.1)) = true := by rw [hkeys]; exact hri
  unfold Con
  k_fill
  intro dp un gd cn cs a ccd cl outer A₀ base h₀ L m s Q E B F X N T hk hd hu hret
  k_dflt (refine' call_cls ?k1 ?k2 ?k3 ?k4 ?k5 ?k6 ?_)
  case k1 => k_asm
  case k2 => k_asm
  case k3 => k_asm
  case k4 => k_is
  case k5 => k_is
  case k6 => k_is
  k_whole
  intro aM dM h1 F1 N1 l1 l2
  have l3 := l1
  (try k_lt l1)
  (try k_lt2 l2)
  (try k_sweep)
  k_dflt (refine' code_def ?k1 ?k2 ?k3 ?k4 ?k5 ?kA ?kF ?kK ?k6 ?k7 ?k8 ?k9 ?kB ?_ ?c2 ?c3 ?c4 ?c5; (case kA => exact rfl); (case kF => exact rfl); (case kK => assumption); (case k1 => k_asm); (case k2 => k_asm); (case k3 => k_asm); (case k4 => k_asm); (case k5 => k_asm); (case k6 => k_is); (case k7 => k_is); (case k8 => ktr_room); (case k9 => first | exact BindsTo.of_eq rfl | exact binds_K (by k_in) rfl (by k_is) rfl rfl rfl); (case c5 => decide); (case kB => exact locs rfl); (case c2 => exact rfl); (case c3 => exact rfl); (case c4 => exact rfl); k_whole; intro g' L' h' FG' F' N' B' X' T'; (try dsimp only); (try refine tok_gen fun tk0 => ?_); (try k_fold))
  ((try k_fold); repeat' (first | (k_unfold; (try dsimp only)) | ((with_reducible show wpAny _ _ (call (Value.type "dict") [Value.ref _]) _ _ _); k_dflt (refine' dict_ofS ?zzF ?zzN ?zzb ?zzm ?zzD ?zzlo ?zzz ?_; (case zzF => k_asm); (case zzN => k_asm); (case zzb => exact Top.nolimit (by k_asm)); (case zzm => k_mem); (case zzD => k_asm); (case zzlo => k_asm); (case zzz => k_asm)); intro d' h' o' F' N' l1 lo' hd'; (try k_lt l1); (try k_sweep)) | ((with_reducible show wpAny _ _ (call (Value.builtin "sorted") [Value.ref _]) _ _ _); k_dflt (refine' sorted_dictS ?zzhh ?zzF ?zzN ?zzm ?zzD ?zzlo ?zzs ?zzz ?_; (case zzhh => exact rfl); (case zzF => k_asm); (case zzN => k_asm); (case zzm => k_mem); (case zzD => k_asm); (case zzlo => k_asm); (case zzs => k_asm); (case zzz => k_asm)); intro D' its' e' h' tk' F' N' l1 hS'; (try k_lt l1); (try k_sweep)) | ((with_reducible show wpAny _ _ (pyIter (Value.ref _)) (fun it s₂ => LoopAtV _ _ _ _ _ _ _ _ _ it s₂) _ _); refine loopify ?_) | ((with_reducible show wpAny _ _ (exec (Stmt.For _ _ _ _ _) _) _ _ _); ((rename Fr _ _ _ _ => lF'); (with_unfolding_all refine' For_invVF lF' ?zzk1 ?zzk2 ?_; (case zzk1 => exact rfl); (case zzk2 => exact rfl); k_whole))) | walk1 | (dsimp only; walk1) | (leave1; (try dsimp only)) | fail "no step"))
  rename_i hh3 l11 hh4 a2 hh2 o2 lo2 hs2 fs2 hi2 fi2 l12 hh1
  rw [hkeys] at hS'
  refine Loop.in (for_list (its := its') (n := e') (fun i m nx => Ex5 fun oI kvs q1 q2 rest => And10 (nx = (D', listOf its' e') :: (a2, oI) :: rest) ((∀ p ∈ rest, p.1 ≠ a2)) ((aM, instObj 329 dM) ∈ rest) ((dM, modD w q1 q2 d' a2) ∈ rest) ((∀ p ∈ news, p ∈ rest)) (oI.IsDictOf (strKind PROG w) kvs) (kvs.map (·.1) = ns.take i) ((∀ nm v, (nm, v) ∈ kvs → ∃ aI its n, v = .ref aI ∧ (aI, listOf its n) ∈ rest ∧ StrsAre its.toList (rows nm) ∧ (rows nm).length < 64 ∧ ∀ q ∈ news, @LT.lt Nat _ q.1 aI)) (m (Str.ofString "self") = some (.ref aM)) (m (Str.ofString "sources") = some (.ref dS))) rfl (by k_asm) (by k_asm) (by rintro _ _ _ ⟨_, _, _, _, _, h, -⟩; exact h ▸ .head _)
    ⟨_, _, _, _, _, rfl, ?ne, .tail _ (.head _), .tail _ (.tail _ (.head _)), (fun p hp => .tail _ (.tail _ (.tail _ hp))), hs2, rfl, (fun _ _ h => by cases h), rfl, rfl⟩ ?turn ?done)
  case ne =>
    intro p hp
    rcases List.mem_cons.mp hp with rfl | hp
    · exact Nat.ne_of_lt l12.1
    · rcases List.mem_cons.mp hp with rfl | hp
      · exact Nat.ne_of_lt l12.2.1
      · rcases List.mem_cons.mp hp with rfl | hp
        · exact Nat.ne_of_lt l12.2.2.1
        · exact Nat.ne_of_lt (Nat.lt_trans (l3 p hp) l12.2.2.1)
  case turn =>
    rintro Again i v m1 nx h tk I oI' hv' ⟨oI, kvs, q1, q2, rest, rfl, hne, hi1, hd1, hsub, hkd, hkk, hrow, hse, hso⟩ hI hI2 F1 N1 IH
    obtain ⟨x, t, hx, rfl⟩ := strs_getA hS' hv'
    have hxn : x ∈ ns := List.mem_of_getElem? hx
    obtain ⟨v, hvx, hvm⟩ := valueAt_of_mem (hkeys.symm ▸ hxn)
    obtain ⟨S, tS, nms, rfl, hT, hfo, hle⟩ := hv _ _ hvm
    have hinst2 := tl N1 (.tail (D', listOf its' e') (.tail (a2, oI) hi1))
    have hdict2 := tl N1 (.tail (D', listOf its' e') (.tail (a2, oI) hd1))
    have hS2 := tl N1 (.tail (D', listOf its' e') (.tail (a2, oI) (hsub _ hS)))
    have hnI : @Ne Nat D' I := fun q => hI2 _ (.head _) q
    have h2I : @Ne Nat a2 I := fun q => hI2 _ (.tail _ (.head _)) q
    have hkz : kvs.length ≤ sizeLine := by
      rw [← List.length_map (f := (·.1)), hkk, List.length_take]; exact Nat.le_trans (Nat.min_le_right ..) (Nat.le_of_lt (Nat.lt_of_lt_of_le hfew (by decide)))
    have F2 := fr_two F1 (a := Str.ofString "self") (b := Str.ofString "sources") (by rw [if_neg (by decide)]; exact hse) (by rw [if_neg (by decide)]; exact hso)
    have F3 := fr_one F2 (a := Str.ofString "name") (u := .str x t) rfl
    clear F1 F2
    ((try k_fold); repeat' (first | (k_unfold; (try dsimp only)) | ((with_reducible show wpAny _ _ (call (Value.ref 274) _) _ _ _); k_dflt (refine' con_use (headof_con ?zzH) ?zzkB ?zzkF ?zzkX ?zzkN ?zzkT ?zzkK ?zzks ?zzkd ?zzku ?_; (case zzkB => k_asm); (case zzkF => k_asm); (case zzkX => k_asm); (case zzkN => k_asm); (case zzkT => k_asm); (case zzkK => first | assumption | exact rfl); (case zzks => exact fun _ h => h); (case zzH => assumption); (case zzkd => ktr_room); (case zzku => (have hcL9 := cLine_is; (try simp only [units_in1, units_deeper, units_under_make, Around.mark_units, units_caller] at *); (try dsimp only [ktrTop] at *); omega)); intro r9 news9 h9 tk9 F9 N9 p9; obtain ⟨aH9, dH9, aI9, q91, q92, nm9, its9, n9, r9', n9', hS9, l91, l92, l93⟩ := p9; subst r9' n9'; (try dsimp only); (try k_lt l93); (try k_lt2 l92); (try k_lt2 l91); (try k_sweep))) | ((with_reducible show wpAny _ _ (setItem (Value.ref _) (Value.str _ _) _) _ _ _); k_dflt (refine' kda_set (knd := PySem.strKind _ _) ?zzF ?zzN ?zzU ?zzd (strKind_is _ _ _ _) ?zzz ?_; (case zzF => k_asm); (case zzN => k_asm); (case zzU => k_updF); (case zzd => k_asm); (case zzz => k_asm)); intro h9 o9 F9 N9 hd9; (try dsimp only at N9); (try k_sweep)) | ((with_reducible show wpAny _ _ (subscriptTail _ _ (Value.ref _) (Value.str _ _)) _ _ _); k_here; k_dflt (refine' kda_item (knd := PySem.strKind _ _) ?zzN ?zzm ?zzd (strKind_is _ _ _ _) ?zzv ?_ ?zzhs ?zzhg; (case zzN => k_asm); (case zzm => k_mem); (case zzd => k_asm); (case zzv => k_asm); (case zzhs => with_unfolding_all rfl); (case zzhg => intro _; with_unfolding_all rfl))) | ((with_reducible show LPost _ _ _ _); (dsimp only [LPost])) | walk1 | (dsimp only; walk1) | (leave1; (try dsimp only)) | fail "no step"))

    rw [hfo] at hS9
    refine IH _ _ _ _ (by k_asm) (news_sub (by k_asm) sub_re) ?off ⟨_, _, q1, q2, _, rfl, ?ne2, .tail _ hi1, .tail _ hd1, (fun p hp => .tail _ (hsub p hp)), hd9, ?keys, ?row, rfl, rfl⟩
    case off =>
      intro p hp
      rcases List.mem_cons.mp hp with rfl | hp
      · exact hnI
      · rcases List.mem_cons.mp hp with rfl | hp
        · exact h2I
        · rcases List.mem_cons.mp hp with rfl | hp
          · exact fun q => Nat.lt_irrefl _ (Nat.lt_of_lt_of_eq l93.1 q)
          · exact hI2 p (.tail _ (.tail _ hp))
    case ne2 =>
      intro p hp
      rcases List.mem_cons.mp hp with rfl | hp
      · exact fun q => Nat.lt_irrefl _ (Nat.lt_of_lt_of_eq l93.2.2.1 q)
      · exact hne p hp
    case keys => rw [stored_new hkk (new_key hnd hx hkk), take_snoc hx]
    case row =>
      intro nm v hm
      rw [stored_eq (new_key hnd hx hkk)] at hm
      rcases List.mem_append.mp hm with hm | hm
      · obtain ⟨aJ, itj, nj, e1, e2, e3⟩ := hrow nm v hm
        exact ⟨aJ, itj, nj, e1, .tail _ e2, e3⟩
      · cases List.mem_singleton.mp hm
        exact ⟨_, _, _, rfl, .head _, hS9, hle, fun q hq => ktn_ltOf l93.2.2.2 q (hsub q hq)⟩
  case done =>
    rintro m1 nx h tk ⟨oI, kvs, q1, q2, rest, rfl, hne, hi1, hd1, hsub, hkd, hkk, hrow, hse, hso⟩ F1 N1
    rw [strs_size hS', List.take_length] at hkk
    have hi2 : (aM, instObj 329 dM) ∈ (D', listOf its' e') :: (a2, oI) :: rest := .tail _ (.tail _ hi1)
    have hd2 : (dM, modD w q1 q2 d' a2) ∈ (D', listOf its' e') :: (a2, oI) :: rest := .tail _ (.tail _ hd1)
    ((try k_fold); repeat' (first | (k_unfold; (try dsimp only)) | walk1 | (dsimp only; walk1) | (leave1; (try dsimp only)) | fail "no step"))
    have up : ∀ q, q ∈ (D', listOf its' e') :: (a2, oI) :: rest → (∀ p ∈ news, @LT.lt Nat _ p.1 q.1) → q ∈ newOnes news ((D', listOf its' e') :: (a2, oI) :: rest) := fun q h1 h2 => newOnes_mem.mpr ⟨h1, h2⟩
    have hdM : ∀ p ∈ news, @LT.lt Nat _ p.1 dM := l3
    have haM : ∀ p ∈ news, @LT.lt Nat _ p.1 aM := fun p hp => Nat.lt_trans (l3 p hp) l2
    have ha2 : ∀ p ∈ news, @LT.lt Nat _ p.1 a2 := fun p hp => Nat.lt_trans (l3 p hp) l12.2.2.1
    refine hret _ _ _ _ (by k_asm) (news_sub (by k_asm) ?sub) ⟨aM, dM, q1, q2, d', a2, oI, kvs, newOnes news ((D', listOf its' e') :: (a2, oI) :: rest), rfl, rfl, ⟨up _ hi2 haM, up _ hd2 hdM, up _ (.tail _ (.head _)) ha2, hkd, lo2, hkk, hnd, hri, hfew, fun nm v hm => ?row⟩, fun p hp => (newOnes_mem.mp hp).2⟩
    case row =>
      obtain ⟨aJ, itj, nj, e1, e2, e3, e4, e5⟩ := hrow nm v hm
      exact ⟨aJ, itj, nj, e1, up _ (.tail _ (.tail _ e2)) e5, e3, e4⟩
    case sub =>
      intro p hp
      rcases List.mem_append.mp hp with hp | hp
      · exact .tail _ (.tail _ (hsub p hp))
      · exact (newOnes_mem.mp hp).1
end
section
variable {w : World} {mean : ExcName → Option Value} {mg mb : Str → Option Value}
/-- needs_by in the ledger -/
structure NeedIn (w : World) (news : List (Addr × Obj)) (dN : Addr) (oN : Obj) (kvs : List (Str × Value)) (ns : List Str) (rows : Str → List Str) : Prop where
  mem : (dN, oN) ∈ news
  isd : oN.IsDictOf (strKind PROG w) kvs
  lo : (dN == sysModules) = false
  keys : kvs.map (·.1) = ns
  row : ∀ nm v, (nm, v) ∈ kvs → ∃ aI its n, v = .ref aI ∧ (aI, listOf its n) ∈ news ∧ StrsAre its.toList (rows nm) ∧ (rows nm).length < 64
/-- does the needed y not hinder? -/
def freeOf (ns acc : List Str) (y : Str) : Bool := acc.any (· == y) || !(ns.any (· == y))
theorem canGo_l1 {ns : List Str} {rows : Str → List Str} {acc : List Str} {x : Str} (h : (acc.any fun y => y == x) = true) : canGo ns rows acc x = false := by
  rw [canGo, decide_eq_false, Bool.false_and]
  intro hx
  rw [List.any_eq_true] at h
  obtain ⟨y, hy, e⟩ := h
  exact hx (eq_of_beq e ▸ hy)
theorem pick_none {ns : List Str} {rows : Str → List Str} {acc : List Str} (h : ns.filter (canGo ns rows acc) = []) : pickOf ns rows acc = none := by
  rw [pickOf, ← List.head?_filter, h]; rfl
theorem pick_some {ns : List Str} {rows : Str → List Str} {acc : List Str} (h : ¬ ns.filter (canGo ns rows acc) = []) : pickOf ns rows acc = some ((ns.filter (canGo ns rows acc)).getD (Int.toNat 0) Str.empty) := by
  rw [pickOf, ← List.head?_filter]
  cases e : ns.filter (canGo ns rows acc) with
  | nil => exact absurd e h
  | cons x r => rfl
theorem sub_drop2 {A B I D : Addr × Obj} {R : List (Addr × Obj)} : ∀ p ∈ I :: D :: R, p ∈ A :: B :: I :: D :: R := fun _ h => .tail _ (.tail _ h)
theorem canGo_l2 {ns : List Str} {rows : Str → List Str} {acc : List Str} {x : Str} (h : (acc.any fun y => y == x) = false) (h2 : (rows x).all (freeOf ns acc) = true) : canGo ns rows acc x = true := by
  rw [List.any_eq_false] at h
  rw [List.all_eq_true] at h2
  refine canGo_iff.mpr ⟨fun hx => h x hx (beq_self_eq_true _), fun y hy hn => ?_⟩
  have h3 := h2 y hy
  rw [freeOf, Bool.or_eq_true] at h3
  rcases h3 with h3 | h3
  · obtain ⟨z, hz, e⟩ := List.any_eq_true.mp h3
    exact eq_of_beq e ▸ hz
  · rw [Bool.not_eq_true', List.any_eq_false] at h3
    exact absurd (beq_self_eq_true y) (h3 y hn)
theorem canGo_l3 {ns : List Str} {rows : Str → List Str} {acc : List Str} {x : Str} (h2 : (rows x).all (freeOf ns acc) = false) : canGo ns rows acc x = false := by
  rw [← Bool.not_eq_true] at h2 ⊢
  refine fun h => h2 (List.all_eq_true.mpr fun y hy => ?_)
  rw [freeOf, Bool.or_eq_true, Bool.not_eq_true']
  by_cases hn : y ∈ ns
  · exact .inl (List.any_eq_true.mpr ⟨y, (canGo_iff.mp h).2 y hy hn, beq_self_eq_true _⟩)
  · exact .inr (List.any_eq_false.mpr fun z hz e => hn (eq_of_beq e ▸ hz))
theorem picks_full {ns : List Str} {rows : Str → List Str} {acc : List Str} (_hnd : ns.Nodup) (hP : Picks ns rows acc) (hl : acc.length = ns.length) : pickOf ns rows acc = none := by
  cases e : pickOf ns rows acc with
  | none => rfl
  | some x =>
    have := (Picks.snoc hP e).length
    rw [List.length_append, hl, List.length_singleton] at this
    omega
theorem sub_cells {A B C D : Addr × Obj} {R : List (Addr × Obj)} : ∀ p ∈ D :: R, p ∈ D :: A :: B :: C :: R := by
  intro p hp
  rcases List.mem_cons.mp hp with rfl | hp
  · exact .head _
  · exact .tail _ (.tail _ (.tail _ (.tail _ hp)))

theorem ordered_con {news : List (Addr × Obj)} {lN dN : Addr} {itN : Array Value} {nN : Nat} {oN : Obj} {kvs : List (Str × Value)} {ns : List Str} {rows : Str → List Str} (hN : (lN, listOf itN nN) ∈ news) (sN : StrsAre itN.toList ns) (M : NeedIn w news dN oN kvs ns rows) (hnd : ns.Nodup) (hfew : ns.length < 64) :
    Con w mean mg mb (.ref 373) [.ref lN, .ref dN] 20 200 news (fun r news' => Ex4 fun D its e out => And6 (r = .ref D) (news' = (D, listOf its e) :: news) (StrsAre its.toList out) (Picks ns rows out) (pickOf ns rows out = none) (∀ p ∈ news, p.1 < D)) := by
  w_top off
  obtain ⟨hdm, hisd, hlo, hkeys, hrow⟩ := M
  have hz : ns.length < 100000 := Nat.lt_trans hfew (by decide)
  unfold Con
  k_fill
  intro dp un gd cn cs a ccd cl outer A₀ base h₀ L m s Q E B F X N T hk hd hu hret
  refine wpAny_call ?_
  k_dflt (refine' code_defC ?k1 ?k2 ?k3 ?k4 ?k5 ?kA ?kF ?kK ?k6 ?k7 ?k8 ?k9 ?kB ?kD ?_ ?c2 ?c3 ?c4; (case kA => exact rfl); (case kF => exact rfl); (case kK => assumption); (case k1 => k_asm); (case k2 => k_asm); (case k3 => k_asm); (case k4 => k_asm); (case k5 => k_asm); (case k6 => k_is); (case k7 => k_is); (case k8 => ktr_room); (case k9 => first | exact BindsTo.of_eq rfl | exact binds_K (by k_in) rfl (by k_is) rfl rfl rfl); (case kB => exact rfl); (case kD => decide +kernel); (case c2 => exact rfl); (case c3 => exact rfl); (case c4 => exact rfl); k_whole; intro g' L' h' tk' cells' FG' F' N' Y' B' X' T' l1; (try k_lt l1); k_cells Y'; (try simp only [List.cons_append, List.nil_append] at N'); (try dsimp only); (try refine norm_A ?_); (try k_fold))
  rename_i o1 o2 o3 d1 d2 d3
  replace d1 : o1.data = .cell none := d1.trans rfl
  replace d2 : o2.data = .cell (some (.ref dN)) := d2.trans rfl
  replace d3 : o3.data = .cell (some (.ref lN)) := d3.trans rfl
  have n3 : ∀ p ∈ news, p.1 ≠ L' + 1 + 1 + 1 := fun p hp => Nat.ne_of_lt (Nat.lt_succ_of_lt (Nat.lt_succ_of_lt (Nat.lt_succ_of_lt (l1 p hp))))
  ((try k_fold); repeat' (first | (k_unfold; (try dsimp only)) | ((with_reducible show wpAny _ _ (call (Value.builtin "len") [Value.ref _]) _ _ _); k_dflt (refine' len_listS ?zzN ?zzm ?zzS ?zzz ?_; (case zzN => k_asm); (case zzm => k_mem); (case zzS => k_asm); (case zzz => k_asm)); intro t9 tk9; (try dsimp only)) | ((with_reducible show wpAny _ _ (pyIter (Value.ref _)) (fun it s₂ => LoopAtV _ _ _ _ _ _ _ _ _ it s₂) _ _); refine loopify ?_) | ((with_reducible show wpAny _ _ (exec (Stmt.For _ _ _ _ _) _) _ _ _); ((rename Fr _ _ _ _ => lF'); (with_unfolding_all refine' For_invVF lF' ?zzk1 ?zzk2 ?_; (case zzk1 => exact rfl); (case zzk2 => exact rfl); k_whole))) | walk1 | (dsimp only; walk1) | (leave1; (try dsimp only)) | fail "no step"))
  rename Obj => oF
  rename_i Df hx l3 h1 Fx1 Nx1 dF h2 tk2 ta tb tc hr F2 N2 hz2
  refine Loop.in (for_range (n := ns.length) (fun i m nx => Ex3 fun its e acc => And4 (nx = (Df, listOf its e) :: (L' + 1 + 1 + 1, oF) :: (L' + 1 + 1, o2) :: (L' + 1, o3) :: news) (StrsAre its.toList acc) (Picks ns rows acc) ((acc.length = i ∨ pickOf ns rows acc = none))) rfl (by k_asm) rfl (by omega) (by k_asm) (by k_asm) ⟨_, _, [], rfl, .nil, .nil, .inl rfl⟩ ?turn ?done)
  case turn =>
    rintro Again i t m1 nx h tk I oI hi ⟨its, e, acc, rfl, hS, hP, hor⟩ hI hI2 F1 N1 IH
    have up : ∀ p ∈ news, p ∈ (I, oI) :: (Df, listOf its e) :: (L' + 1 + 1 + 1, oF) :: (L' + 1 + 1, o2) :: (L' + 1, o3) :: news := fun p hp => .tail _ (.tail _ (.tail _ (.tail _ (.tail _ hp))))
    have hN1 := up _ hN
    have hdm1 := up _ hdm
    have hDI : @Ne Nat Df I := fun q => hI2 _ (.head _) q
    clear Fx1 Nx1 F2 N2
    ((try k_fold); repeat' (first | (k_unfold; (try dsimp only)) | ((with_reducible show wpAny _ _ (exec (Stmt.Assign [Expr.Name _ _] (Expr.ListComp _ _ _ _) _) _) _ _ _); ((with_reducible (refine' Assign_ListComp_L ?zzk0 ?zzk1 ?zzk2 ?zzk3 ?_ ?zzk4)); (case zzk0 => with_unfolding_all rfl); (case zzk1 => with_unfolding_all rfl); (case zzk2 => rfl); (case zzk3 => decide); (case zzk4 => (intro _; with_unfolding_all rfl)))) | walk1 | (dsimp only; walk1) | (leave1; (try dsimp only)) | fail "no step"))
    refine' CompL.listA (its := itN) (n := nN) (fun i ys nx => nx = (I, oI) :: (Df, listOf its e) :: (L' + 1 + 1 + 1, oF) :: (L' + 1 + 1, o2) :: (L' + 1, o3) :: news ∧ StrsAre ys ((ns.take i).filter (canGo ns rows acc))) ?hLe ?hy ?hp ?hh ?hcell ?hkind ?hx ?F ?N ?hJl ?h0 ?hsz ?turn2 ?done2
    case hLe => exact rfl
    case hy => exact rfl
    case hp => exact rfl
    case hh => exact rfl
    case hcell => decide
    case hkind => exact rfl
    case hx => exact rfl
    case F => k_asm
    case N => k_asm
    case hJl => exact by rintro _ _ _ ⟨h, -⟩; exact h ▸ hN1
    case h0 => exact ⟨rfl, .nil⟩
    case hsz => rw [strs_size sN, sizeLine_eq]; omega
    case turn2 =>
      rintro Take Skip i2 v ys nx h tk I2 oI2 C oC D m₂ E' hv' ⟨rfl, hys⟩ hI3 hoC hx F1 N1 off skip take
      obtain ⟨x, t, hx', rfl⟩ := strs_getA sN hv'
      have hxn : x ∈ ns := List.mem_of_getElem? hx'
      obtain ⟨v, hvx, hvm⟩ := valueAt_of_mem (hkeys.symm ▸ hxn)
      obtain ⟨aI, itr, nr, rfl, hil, hrS, hr64⟩ := hrow _ _ hvm
      have up2 : ∀ p ∈ news, p ∈ (I2, oI2) :: (C, oC) :: (D, PyProof.Rows.LCg.lst ys) :: (I, oI) :: (Df, listOf its e) :: (L' + 1 + 1 + 1, oF) :: (L' + 1 + 1, o2) :: (L' + 1, o3) :: news := fun p hp => .tail _ (.tail _ (.tail _ (up p hp)))
      have hN2 := up2 _ hN
      have hdm2 := up2 _ hdm
      have hil2 := up2 _ hil
      clear hN1 hdm1 hvm
      ((try k_fold); repeat' (first | (k_unfold; (try dsimp only)) | ((with_reducible show wpAny _ _ (subscriptTail _ _ (Value.ref _) (Value.str _ _)) _ _ _); k_here; k_dflt (refine' kda_item (knd := PySem.strKind _ _) ?zzN ?zzm ?zzd (strKind_is _ _ _ _) ?zzv ?_ ?zzhs ?zzhg; (case zzN => k_asm); (case zzm => k_mem); (case zzd => k_asm); (case zzv => k_asm); (case zzhs => with_unfolding_all rfl); (case zzhg => intro _; with_unfolding_all rfl))) | ((with_reducible show wpAny _ _ (eval (Expr.ListComp _ _ _ _) _) _ _ _); ((with_reducible (refine' ListComp_L ?zzk1 ?zzk2 ?zzk3 ?_ ?zzk4)); (case zzk1 => with_unfolding_all rfl); (case zzk2 => rfl); (case zzk3 => decide); (case zzk4 => (intro _; with_unfolding_all rfl)))) | ((with_reducible show wpAny _ _ (compareOp CmpOp.NotIn (Value.str _ _) (Value.ref _)) _ _ _); (k_dflt (first | (refine kdg_notin (knd := PySem.strKind _ _) (by k_asm) (by k_mem) (by k_asm) (by k_asm) (strKind_is _ _ _ _) _ rfl ?_) | (refine notin_listS (by k_asm) (by k_mem) (by k_asm) ?_)))) | walk1 | (dsimp only; walk1) | (leave1; (try dsimp only)) | fail "no step"))
      all_goals try (have hx9 : (acc.any fun y => y == x) = true := by assumption
                     refine Loop.in (skip _ _ _ (by k_asm) (by k_asm) off ⟨rfl, strs_skip hx' (canGo_l1 hx9) hys⟩); done)
      refine' CompL.list (its := itr) (n := nr) (fun i ys2 nx => nx = (I2, oI2) :: (C, oC) :: (D, PyProof.Rows.LCg.lst ys) :: (I, oI) :: (Df, listOf its e) :: (L' + 1 + 1 + 1, oF) :: (L' + 1 + 1, o2) :: (L' + 1, o3) :: news ∧ ys2 = ((rows x).take i).map fun y => Value.bool (freeOf ns acc y)) ?hh ?hcell ?hkind ?hx ?F ?N ?hJl ?h0 ?hsz ?turn3 ?done3
      case hh => exact rfl
      case hcell => decide
      case hkind => exact rfl
      case hx => exact rfl
      case F => k_asm
      case N => k_asm
      case hJl => exact by rintro _ _ _ ⟨h, -⟩; exact h ▸ hil2
      case h0 => exact ⟨rfl, rfl⟩
      case hsz => rw [strs_size hrS, sizeLine_eq]; omega
      case turn3 =>
        rintro Take3 Skip3 i3 v3 ys3 nx3 h3 tk3 I3 oI3 C3 oC3 D3 m3 E3 hv3 ⟨rfl, rfl⟩ hI4 hoC3 hx3 F3 N3 off3 skip3 take3
        obtain ⟨y, ty, hy', rfl⟩ := strs_getA hrS hv3
        have hN3 := tl N3 (tl3 hN2)
        clear skip
        ((try k_fold); repeat' (first | (k_unfold; (try dsimp only)) | ((with_reducible show wpAny _ _ (compareOp CmpOp.NotIn (Value.str _ _) (Value.ref _)) _ _ _); (k_dflt (first | (refine kdg_notin (knd := PySem.strKind _ _) (by k_asm) (by k_mem) (by k_asm) (by k_asm) (strKind_is _ _ _ _) _ rfl ?_) | (refine notin_listS (by k_asm) (by k_mem) (by k_asm) ?_)))) | ((with_reducible show wpAny _ _ (compareOp CmpOp.In (Value.str _ _) (Value.ref _)) _ _ _); (k_dflt (first | (refine kda_in (knd := PySem.strKind _ _) (by k_asm) (by k_mem) (by k_asm) (by k_asm) (strKind_is _ _ _ _) _ rfl ?_) | (refine in_listS (by k_asm) (by k_mem) (by k_asm) ?_)))) | walk1 | (dsimp only; walk1) | (leave1; (try dsimp only)) | fail "no step"))
        · have hx9 : (acc.any fun x => x == y) = true := by assumption
          exact take3 _ _ _ _ (by k_asm) (by k_asm) off3 ⟨rfl, by rw [take_snoc hy', List.map_append, List.map_singleton, freeOf, hx9, Bool.true_or]⟩
        · have hx9 : (acc.any fun x => x == y) = false := by assumption
          exact take3 _ _ _ _ (by k_asm) (by k_asm) off3 ⟨rfl, by rw [take_snoc hy', List.map_append, List.map_singleton, freeOf, hx9, Bool.false_or]⟩
      case done3 =>
        rintro D3 h3 tk3 ys3 nx3 ⟨rfl, rfl⟩ hD3 F3 N3 off3
        rw [strs_size hrS, List.take_length] at *
        ((try k_fold); repeat' (first | (k_unfold; (try dsimp only)) | ((with_reducible show wpAny _ _ (compareOp CmpOp.NotIn (Value.bool false) (Value.ref _)) _ _ _); k_dflt (refine' notin_bools ?zzN ?zza ?_; (case zzN => k_asm); (case zza => k_mem))) | walk1 | (dsimp only; walk1) | (leave1; (try dsimp only)) | fail "no step"))
        · have hx9 : (rows x).all (freeOf ns acc) = true := by assumption
          rename (acc.any fun y => y == x) = false => hy9
          exact take _ _ _ _ (by k_asm) (news_sub (by k_asm) fun _ h => .tail _ h) off ⟨rfl, strs_take hx' (canGo_l2 hy9 hx9) hys⟩
        · have hx9 : (rows x).all (freeOf ns acc) = false := by assumption
          exact skip _ _ _ (by k_asm) (news_sub (by k_asm) fun _ h => .tail _ h) off ⟨rfl, strs_skip hx' (canGo_l3 hx9) hys⟩
    case done2 =>
      rintro D h tk ys nx ⟨rfl, hys⟩ hD F1 N1 off
      rw [strs_size sN, List.take_length] at hys
      have hz2 : acc.length < 64 := Nat.lt_of_le_of_lt hP.length hfew
      have hDD : @Ne Nat Df D := fun q => off _ (.tail _ (.head _)) q
      have hfit : its.size + 1 ≤ sizeLine := by rw [strs_size hS, sizeLine_eq]; omega
      ((try k_fold); repeat' (first | (k_unfold; (try dsimp only)) | ((with_reducible show wpAny _ _ (compareOp CmpOp.NotEq (Value.ref _) (Value.ref _)) _ _ _); (k_dflt (refine' ne_strsL ?zzN ?zza ?zzb ?zzi ?zzj ?zzu ?_; (case zzN => k_asm); (case zza => k_mem); (case zzb => k_mem); (case zzi => first | assumption | exact .nil); (case zzj => first | assumption | exact .nil); (case zzu => ktr_units)))) | ((with_reducible show LPost _ _ _ _); (dsimp only [LPost])) | walk1 | (dsimp only; walk1) | (leave1; (try dsimp only)) | fail "no step"))
      · have hx9 : decide (ns.filter (canGo ns rows acc) = []) = true := by assumption
        exact IH _ _ _ _ (by k_asm) (news_sub (by k_asm) sub_drop2) hI2 ⟨its, e, acc, rfl, hS, hP, .inr (pick_none (of_decide_eq_true hx9))⟩
      · have hx9 : decide (ns.filter (canGo ns rows acc) = []) = false := by assumption
        have hpk := pick_some (of_decide_eq_false hx9)
        exact IH _ _ _ _ (by k_asm) (news_sub (by k_asm) sub_drop2) (off_new hI2) ⟨_, _, _, rfl, strs_addA hS, .snoc hP hpk, .inl (by rw [List.length_append, hor.resolve_right (fun q => by rw [q] at hpk; cases hpk)]; rfl)⟩
  case done =>
    rintro m1 nx h tk ⟨its, e, acc, rfl, hS, hP, hor⟩ F1 N1
    ((try k_fold); repeat' (first | (k_unfold; (try dsimp only)) | walk1 | (dsimp only; walk1) | (leave1; (try dsimp only)) | fail "no step"))
    exact hret _ _ _ _ (by k_asm) (news_sub (by k_asm) sub_cells) ⟨_, _, _, _, rfl, rfl, hS, hP, hor.elim (picks_full hnd hP) id, fun p hp => Nat.lt_trans (l1 p hp) (Nat.lt_trans (Nat.lt_succ_self _) l3.2.2.1)⟩
end
section
variable {w : World} {mean : ExcName → Option Value} {mg mb : Str → Option Value}
def FIVE : List Str := [Str.ofString "A", Str.ofString "B", Str.ofString "C", Str.ofString "D", Str.ofString "E"]
theorem sub_one {A B : Addr × Obj} {R : List (Addr × Obj)} : ∀ p ∈ A :: R, p ∈ A :: B :: R := by
  intro p hp
  rcases List.mem_cons.mp hp with rfl | hp
  · exact .head _
  · exact .tail _ (.tail _ hp)
/-- a new object: it stands in every ledger of gg, above those of g -/
def New (g gg : Obj → List (Addr × Obj)) (q : Addr × Obj) : Prop := (∀ o, q ∈ gg o) ∧ ∀ o, ∀ p ∈ g o, @LT.lt Nat _ p.1 q.1
/-- needs_by and sources, as far as they are filled: the modules ks -/
structure SrcsIn (w : World) (In : Addr × Obj → Prop) (oN oS : Obj) (kN kS : List (Str × Value)) (rows : Str → List Str) (ks : List Str) : Prop where
  isN : oN.IsDictOf (strKind PROG w) kN
  isS : oS.IsDictOf (strKind PROG w) kS
  keysN : kN.map (·.1) = ks
  keysS : kS.map (·.1) = ks
  rowN : ∀ nm v, (nm, v) ∈ kN → ∃ aI its n, v = .ref aI ∧ In (aI, listOf its n) ∧ StrsAre its.toList (rows nm) ∧ (rows nm).length < 64
  rowS : ∀ nm v, (nm, v) ∈ kS → ∃ S t imps, v = .str S t ∧ HeadTxt S imps ∧ imps.foldl addNew [] = rows nm
abbrev lk4 (aH lN dN dS : Addr) : List (Str × Value) := [(Str.ofString "hand", .ref aH), (Str.ofString "names", .ref lN), (Str.ofString "needs_by", .ref dN), (Str.ofString "sources", .ref dS)]
abbrev lk7 (aH lN dN dS aR : Addr) (i : Nat) (t : Tok) (T : Str) (tT : Tok) : List (Str × Value) := [(Str.ofString "hand", .ref aH), (Str.ofString "names", .ref lN), (Str.ofString "needs_by", .ref dN), (Str.ofString "sources", .ref dS), (Str.ofString "at", .int (i : Int) t), (Str.ofString "row", .ref aR), (Str.ofString "text_now", .str T tT)]
theorem five_facts {d : Nat} (h1 : 1 ≤ d) (h5 : d ≤ 5) : (FIVE.take d).length = d ∧ (FIVE.take d).Nodup ∧ (∀ x ∈ FIVE.take d, x ∈ NAMES) ∧ PyProof.Rows.sortedS (FIVE.take d) = true := by
  have key : ∀ d : Fin 6, 1 ≤ d.val → (FIVE.take d.val).length = d.val ∧ (FIVE.take d.val).Nodup ∧ (∀ x ∈ FIVE.take d.val, x ∈ NAMES) ∧ PyProof.Rows.sortedS (FIVE.take d.val) = true := by decide +kernel
  exact key ⟨d, by omega⟩ h1
theorem sub_three {A B C D E : Addr × Obj} {R : List (Addr × Obj)} : ∀ p ∈ D :: E :: R, p ∈ A :: B :: C :: D :: E :: R := fun _ h => .tail _ (.tail _ (.tail _ h))
theorem mem_other {nms : List Str} {x : Str} {n : Nat} (h : ∀ x ∈ nms, x ∈ NAMES) (hx : x ∈ nms.take n ++ [Str.ofString "Out", Str.ofString "Q"]) : x ∈ NAMES := by
  rcases List.mem_append.mp hx with hx | hx
  · exact h x (List.mem_of_mem_take hx)
  · have key : ∀ y ∈ [Str.ofString "Out", Str.ofString "Q"], y ∈ NAMES := by decide +kernel
    exact key x hx
theorem addNew_len : ∀ (l acc : List Str), (l.foldl addNew acc).length ≤ acc.length + l.length
  | [], acc => Nat.le_refl _
  | x :: l, acc => by
    rw [List.foldl_cons]
    refine Nat.le_trans (addNew_len l _) ?_
    unfold addNew
    split
    · rw [List.length_cons]; omega
    · simp only [List.length_append, List.length_cons, List.length_nil]; omega
theorem str_len_app (a b : Str) : (a ++ b).length = a.length + b.length := Array.size_append
theorem lit_len_e : (Str.ofString "").length = 0 := by decide +kernel
theorem name_len : ∀ x ∈ NAMES, x.length ≤ 3 := by decide +kernel
theorem alias_of : ∀ y ∈ [Str.ofString "", Str.ofString "al := ", Str.ofString "b1:="], y.cps.toList ∈ ALIAS ∧ y.length ≤ 6 := by decide +kernel
theorem sep_of : ∀ y ∈ [Str.ofString ",", Str.ofString " , ", Str.ofString ",(* x, y *)"], y.cps.toList ∈ SEPS ∧ y.length ≤ 11 := by decide +kernel
theorem cps_app (a b : Str) : (a ++ b).cps.toList = a.cps.toList ++ b.cps.toList := Array.toList_append
theorem imp_first {y x : Str} (hy : y.cps.toList ∈ ALIAS) (hx : x ∈ NAMES) : Imp (Str.ofString "" ++ ((Str.ofString "" ++ y) ++ x)).cps.toList ([] ++ [x]) := by
  simp only [cps_app, lit_e, List.nil_append]
  exact .one hy hx
theorem imp_next {T z y x : Str} {imps : List Str} (hI : Imp T.cps.toList imps) (hT : (T == Str.ofString "") = false) (hz : z.cps.toList ∈ SEPS) (hy : y.cps.toList ∈ ALIAS) (hx : x ∈ NAMES) : Imp (T ++ ((z ++ y) ++ x)).cps.toList (imps ++ [x]) := by
  simp only [cps_app, List.append_assoc]
  refine .more hI (imp_ne hI fun e => ?_) hz hy hx
  have : T = Str.ofString "" := by
    rw [str_back T, e]; decide +kernel
  rw [this] at hT
  simp at hT
theorem sub_two {A D E : Addr × Obj} {R : List (Addr × Obj)} : ∀ p ∈ D :: E :: R, p ∈ A :: D :: E :: R := fun _ h => .tail _ h
theorem sub_two2 {A B D E : Addr × Obj} {R : List (Addr × Obj)} : ∀ p ∈ D :: E :: R, p ∈ A :: B :: D :: E :: R := fun _ h => .tail _ (.tail _ h)
theorem lit_len_sc : (Str.ofString ";").length = 1 := by decide +kernel
theorem heads_in : ∀ y ∈ [Str.ofString "MODULE ", Str.ofString "(* MODULE Z; IMPORT A; *) MODULE\n", Str.ofString "MODULE  "], y.cps.toList ∈ HEADS ∧ y.length ≤ 33 := by decide +kernel
theorem imps_in : ∀ y ∈ [Str.ofString "\n IMPORT ", Str.ofString "IMPORT\n", Str.ofString " IMPORT "], y.cps.toList ∈ IMPS ∧ y.length ≤ 9 := by decide +kernel
theorem text_nil {T : Str} (h : T.cps.toList = []) : T = Str.ofString "" := by
  rw [str_back T, h]; decide +kernel
theorem lit_len_f : (Str.ofString " BEGIN END ").length = 11 := by decide +kernel
theorem lit_f : (Str.ofString " BEGIN END ").cps.toList = FOOT := by decide +kernel
theorem lit_dot : (Str.ofString ".").cps.toList = [46] := by decide +kernel
theorem lit_len_dot : (Str.ofString ".").length = 1 := by decide +kernel
theorem sub_rot {A I S N : Addr × Obj} {R : List (Addr × Obj)} : ∀ p ∈ I :: S :: N :: A :: R, p ∈ A :: I :: S :: N :: R := by
  intro p hp
  simp only [List.mem_cons] at hp ⊢
  rcases hp with h | h | h | h | h <;> simp [h]
theorem srcs_next {w : World} {In In' : Addr × Obj → Prop} {oN oS : Obj} {kN kS : List (Str × Value)} {rows : Str → List Str} {nms : List Str} {i : Nat} {x S : Str} {tS : Tok} {aR : Addr} {itR : Array Value} {nR : Nat} {imps : List Str} (hnd : nms.Nodup) (hxi : nms[i]? = some x)
    (keysN : kN.map (·.1) = nms.take i) (keysS : kS.map (·.1) = nms.take i)
    (hIn : ∀ q, In q → In' q) (hx : In' (aR, listOf itR nR)) (rowN : ∀ nm v, (nm, v) ∈ kN → ∃ aI its n, v = .ref aI ∧ In (aI, listOf its n) ∧ StrsAre its.toList (rows nm) ∧ (rows nm).length < 64)
    (rowS : ∀ nm v, (nm, v) ∈ kS → ∃ S t imps, v = .str S t ∧ HeadTxt S imps ∧ imps.foldl addNew [] = rows nm)
    (isN : oN.IsDictOf (strKind PROG w) (stored kN x (.ref aR))) (isS : oS.IsDictOf (strKind PROG w) (stored kS x (.str S tS)))
    (hSR : StrsAre itR.toList (imps.foldl addNew [])) (hrl : (imps.foldl addNew []).length < 64) (hT : HeadTxt S imps) :
    SrcsIn w In' oN oS (stored kN x (.ref aR)) (stored kS x (.str S tS)) (fun y => if y = x then imps.foldl addNew [] else rows y) (nms.take (i + 1)) := by
  have hnN := new_key hnd hxi keysN
  have hnS := new_key hnd hxi keysS
  have hne : ∀ nm v (k : List (Str × Value)), k.map (·.1) = nms.take i → (nm, v) ∈ k → nm ≠ x := by
    rintro nm v k hk hm rfl
    exact not_mem_take hnd hxi (hk ▸ List.mem_map.mpr ⟨_, hm, rfl⟩)
  refine ⟨isN, isS, by rw [stored_new keysN hnN, take_snoc hxi], by rw [stored_new keysS hnS, take_snoc hxi], fun nm v hm => ?_, fun nm v hm => ?_⟩
  · rw [stored_eq hnN] at hm
    rcases List.mem_append.mp hm with hm | hm
    · obtain ⟨aI, its, n, e1, e2, e3, e4⟩ := rowN nm v hm
      rw [if_neg (hne nm v kN keysN hm)]
      exact ⟨aI, its, n, e1, hIn _ e2, e3, e4⟩
    · cases List.mem_singleton.mp hm
      rw [if_pos rfl]
      exact ⟨_, _, _, rfl, hx, hSR, hrl⟩
  · rw [stored_eq hnS] at hm
    rcases List.mem_append.mp hm with hm | hm
    · obtain ⟨S', t', imps', e1, e2, e3⟩ := rowS nm v hm
      rw [if_neg (hne nm v kS keysS hm)]
      exact ⟨S', t', imps', e1, e2, e3⟩
    · cases List.mem_singleton.mp hm
      rw [if_pos rfl]
      exact ⟨_, _, _, rfl, hT, rfl⟩
/-- what _law_sources leaves: the new objects in rl -/
def SrcPost (w : World) (ins : List Int) (aC : Addr) (g : Obj → List (Addr × Obj)) (r : Value) (news' : List (Addr × Obj)) : Prop :=
  Ex14 fun aT lN dN dS itN nN oN oS kN kS nms rl o' rows => And19 (r = .ref aT) (news' = (aT, tupO [.ref lN, .ref dN, .ref dS] 0) :: (dS, oS) :: (dN, oN) :: (g o' ++ rl)) ((lN, listOf itN nN) ∈ rl) (HandIs ins aC o') (SrcsIn w (· ∈ rl) oN oS kN kS rows nms) (StrsAre itN.toList nms) (nms.Nodup) ((∀ x ∈ nms, x ∈ NAMES)) (PyProof.Rows.sortedS nms = true) (1 ≤ nms.length) (nms.length ≤ 5) ((dN == sysModules) = false) ((dS == sysModules) = false) (@LT.lt Nat _ dN dS) (@LT.lt Nat _ dS aT) ((∀ p ∈ rl, p.1 < aT)) ((∀ p ∈ rl, p.1 ≠ dS ∧ p.1 ≠ dN)) ((∀ p ∈ rl, ∀ o, ∀ q ∈ g o, q.1 < p.1)) ((∀ o, ∀ q ∈ g o, q.1 < dN))
theorem srcs_in {w : World} {In In' : Addr × Obj → Prop} {oN oS : Obj} {kN kS : List (Str × Value)} {rows : Str → List Str} {ks : List Str} (h : SrcsIn w In oN oS kN kS rows ks) (hI : ∀ q, In q → In' q) : SrcsIn w In' oN oS kN kS rows ks :=
  ⟨h.isN, h.isS, h.keysN, h.keysS, fun nm v hm => by obtain ⟨aI, its, n, e1, e2, e3⟩ := h.rowN nm v hm; exact ⟨aI, its, n, e1, hI _ e2, e3⟩, h.rowS⟩
theorem slot_gt {a d : Addr} {g : Obj → List (Addr × Obj)} {o : Obj} (hg : Slot d g) (h : ∀ p ∈ g o, @LT.lt Nat _ p.1 a) : ∀ o', ∀ p ∈ g o', @LT.lt Nat _ p.1 a := fun o' => slot_lt hg o' h
theorem sources_con {aH aC : Addr} {vs : List Value} {ins : List Int} {nC : Nat} {o : Obj} {g : Obj → List (Addr × Obj)} (hg : Slot aH g) (hC : SlotIn (aC, listOf vs.toArray nC) g) (hI : IntsAre vs ins) (hl : ins.length ≤ 63) (hH : HandIs ins aC o) :
    Con w mean mg mb (.ref 368) [.ref aH] 40 300 (g o) (SrcPost w ins aC g) := by
  w_top off
  unfold Con
  k_fill
  intro dp un gd cn cs a ccd cl outer A₀ base h₀ L m s Q E B F X N T hk hd hu hret
  refine wpAny_call ?_
  k_dflt (refine' code_def ?k1 ?k2 ?k3 ?k4 ?k5 ?kA ?kF ?kK ?k6 ?k7 ?k8 ?k9 ?kB ?_ ?c2 ?c3 ?c4 ?c5; (case kA => exact rfl); (case kF => exact rfl); (case kK => assumption); (case k1 => k_asm); (case k2 => k_asm); (case k3 => k_asm); (case k4 => k_asm); (case k5 => k_asm); (case k6 => k_is); (case k7 => k_is); (case k8 => ktr_room); (case k9 => first | exact BindsTo.of_eq rfl | exact binds_K (by k_in) rfl (by k_is) rfl rfl rfl); (case c5 => decide); (case kB => exact locs rfl); (case c2 => exact rfl); (case c3 => exact rfl); (case c4 => exact rfl); k_whole; intro g' L' h' FG' F' N' B' X' T'; (try dsimp only); (try refine norm_A ?_); (try refine tok_gen fun tk0 => ?_); (try k_fold))
  refine stmt_cut (fun s' => Ex7 fun h' tk' lN itN n o' d => And8 (s' = { s with heap := h', toks := tk' }) (Fr g' L' h' (fun y => if y = Str.ofString "names" then some (.ref lN) else [(Str.ofString "hand", Value.ref aH)].lookup y)) (News g' L' h' ((lN, listOf itN n) :: g o')) (StrsAre itN.toList (FIVE.take d)) (1 ≤ d) (d ≤ 5) (HandIs ins aC o') ((∀ o, ∀ q ∈ g o, q.1 < lN))) ?_ ?_
  · ((try k_fold); repeat' (first | (k_unfold; (try dsimp only)) | ((with_reducible show wpAny _ _ (call (Value.ref 361) _) _ _ _); refine loopify ?_) | walk1 | (dsimp only; walk1) | (leave1; (try dsimp only)) | fail "no step"))
    (refine Loop.in ?_; refine' con_useU ?zzU (pick_con ?zzhg ?zzhC ?zzhI ?zzhl ?zzhH ?zzk1 ?zzk6) ?zzkB ?zzkF ?zzkX ?zzkN ?zzkT ?zzkK ?zzkd ?zzku ?_; (case zzkB => k_asm); (case zzkF => k_asm); (case zzkX => k_asm); (case zzkN => k_asm); (case zzkT => k_asm); (case zzkK => exact rfl); (case zzU => first | exact slot_self (by assumption) | (refine' UpdF.tail ?ua14 ?ub14; (case ub14 => first | exact slot_self (by assumption) | (refine' UpdF.tail ?ua13 ?ub13; (case ub13 => first | exact slot_self (by assumption) | (refine' UpdF.tail ?ua12 ?ub12; (case ub12 => first | exact slot_self (by assumption) | (refine' UpdF.tail ?ua11 ?ub11; (case ub11 => first | exact slot_self (by assumption) | (refine' UpdF.tail ?ua10 ?ub10; (case ub10 => first | exact slot_self (by assumption) | (refine' UpdF.tail ?ua9 ?ub9; (case ub9 => first | exact slot_self (by assumption) | (refine' UpdF.tail ?ua8 ?ub8; (case ub8 => first | exact slot_self (by assumption) | (refine' UpdF.tail ?ua7 ?ub7; (case ub7 => first | exact slot_self (by assumption) | (refine' UpdF.tail ?ua6 ?ub6; (case ub6 => first | exact slot_self (by assumption) | (refine' UpdF.tail ?ua5 ?ub5; (case ub5 => first | exact slot_self (by assumption) | (refine' UpdF.tail ?ua4 ?ub4; (case ub4 => first | exact slot_self (by assumption) | (refine' UpdF.tail ?ua3 ?ub3; (case ub3 => first | exact slot_self (by assumption) | (refine' UpdF.tail ?ua2 ?ub2; (case ub2 => first | exact slot_self (by assumption) | (refine' UpdF.tail ?ua1 ?ub1; (case ub1 => exact slot_self (by assumption)); (case ua1 => k_ne))); (case ua2 => k_ne))); (case ua3 => k_ne))); (case ua4 => k_ne))); (case ua5 => k_ne))); (case ua6 => k_ne))); (case ua7 => k_ne))); (case ua8 => k_ne))); (case ua9 => k_ne))); (case ua10 => k_ne))); (case ua11 => k_ne))); (case ua12 => k_ne))); (case ua13 => k_ne))); (case ua14 => k_ne))); (case zzhg => ktr_unf); (case zzhI => assumption); (case zzhC => (intro o9; (try dsimp only); k_mem)); (case zzhl => assumption); (case zzhH => assumption); (case zzk1 => first | decide | omega); (case zzk6 => first | decide | omega); (case zzkd => ktr_room); (case zzku => ktr_units); intro r9 news9 h9 tk9 F9 N9 p9; obtain ⟨d9, o9, t9, e9, a9, b9, c9, n9⟩ := p9; subst e9 n9; (try dsimp only at N9); (try dsimp only); (try k_sweep))
    ((try k_fold); repeat' (first | (k_unfold; (try dsimp only)) | ((with_reducible show wpAny _ _ (subscriptTail _ (Expr.Slice none (some _) none _) (Value.ref _) (Value.ref _)) _ _ _); refine loopify ?_) | walk1 | (dsimp only; walk1) | (leave1; (try dsimp only)) | fail "no step"))
    (refine Loop.in ?_; refine' slice_strsL ?zF ?zN ?za ?zi ?zb ?zc ?_ ?zs; (case zF => k_asm); (case zN => k_asm); (case za => k_mem); (case zi => first | assumption | (repeat constructor)); (case zb => omega); (case zc => first | omega | decide); (case zs => with_unfolding_all rfl); intro D9 h9 its9 F9 N9 l9 S9; (try k_lt l9); (try k_sweep))
    ((try k_fold); repeat' (first | (k_unfold; (try dsimp only)) | walk1 | (dsimp only; walk1) | (leave1; (try dsimp only)) | fail "no step"))
    exact Loop.in ⟨by trivial, _, _, _, _, _, _, (1 + d9).toNat, rfl, by k_asm, news_sub (by k_asm) sub_one, S9, by omega, by omega, c9, fun o => slot_lt hg o (ktn_ltOf l9.2)⟩
  rintro s' ⟨h1, tk1, lN, itN, nN, o1, d, rfl, F1, N1, hSN, hd1, hd5, hH1, hltN⟩
  clear hH
  have hNa := slot_neC hg hltN
  obtain ⟨hlen, hnd, hsubN, hrises⟩ := five_facts hd1 hd5
  generalize FIVE.take d = nms at hSN hlen hnd hsubN hrises
  have hz5 : nms.length < 100000 := by omega
  have hb5 : Loop (1 ≤ nms.length ∧ nms.length ≤ 5) := ⟨by omega, by omega⟩
  clear hd1 hd5 hlen
  ((try k_fold); repeat' (first | (k_unfold; (try dsimp only)) | ((with_reducible show wpAny _ _ (exec (Stmt.For _ _ _ _ _) _) _ _ _); (refine loopify ?_)) | walk1 | (dsimp only; walk1) | (leave1; (try dsimp only)) | fail "no step"))
  (refine Loop.in ?_; (rename Fr _ _ _ _ => lF'); (with_unfolding_all refine' For_invVF lF' ?k1 ?k2 ?_; (case k1 => exact rfl); (case k2 => exact rfl); k_whole))
  ((try k_fold); repeat' (first | (k_unfold; (try dsimp only)) | ((with_reducible show wpAny _ _ (call (Value.builtin "len") [Value.ref _]) _ _ _); k_dflt (refine' len_listS ?zzN ?zzm ?zzS ?zzz ?_; (case zzN => k_asm); (case zzm => k_mem); (case zzS => k_asm); (case zzz => k_asm)); intro t9 tk9; (try dsimp only)) | ((with_reducible show wpAny _ _ (pyIter (Value.ref _)) (fun it s₂ => LoopAtV _ _ _ _ _ _ _ _ _ it s₂) _ _); refine loopify ?_) | walk1 | (dsimp only; walk1) | (leave1; (try dsimp only)) | fail "no step"))
  rename_i dN hh1 oN loN sN fN iN fiN lN1 hh2 dS hh3 oS loS sS fS iS fiS lS1 hh4 F2 N2 hh5 tk5 ta tb tc hr F3 N3 hz
  have hNL : ∀ o, ∀ q ∈ g o, q.1 < dN := fun o q hq => Nat.lt_trans (hltN o q hq) lN1.1
  refine Loop.in (for_range (n := nms.length) (fun i m nx => Ex7 fun oS oN kS kN gg o rows => And9 (nx = (dS, oS) :: (dN, oN) :: gg o) (Slot aH gg) (SlotIn (aC, listOf vs.toArray nC) gg) (SlotIn (lN, listOf itN nN) gg) ((∀ o, ∀ q ∈ gg o, q.1 ≠ dS ∧ q.1 ≠ dN)) ((∀ o, ∀ q ∈ g o, q ∈ gg o)) (HandIs ins aC o) (SrcsIn w (New g gg) oN oS kN kS rows (nms.take i)) (Looks m (lk4 aH lN dN dS))) rfl (by k_asm) rfl (by have := hb5.2; omega) (by k_asm) (by k_asm)
    ⟨oS, oN, [], [], fun o => (lN, listOf itN nN) :: g o, o1, fun _ => [], rfl, slot_cons hNa hg, (fun o => .tail _ (hC o)), (fun o => .head _), ?ne, (fun o q h => .tail _ h), hH1, ⟨sN, sS, rfl, rfl, (fun _ _ h => by cases h), (fun _ _ h => by cases h)⟩, by (repeat (first | exact looks_nil | refine looks_cons rfl ?_))⟩ ?turn ?done)
  case ne =>
    intro o q hq
    rcases List.mem_cons.mp hq with rfl | hq
    · exact ⟨Nat.ne_of_lt lS1.2.1, Nat.ne_of_lt lN1.1⟩
    · exact ⟨Nat.ne_of_lt (Nat.lt_trans (hNL o q hq) lS1.1), Nat.ne_of_lt (hNL o q hq)⟩
  case turn =>
    rintro Again i t m1 nx h tk I oI hi ⟨oS, oN, kS, kN, gg, o2, rows, rfl, hgg, hCg, hNg, hneg, hsg, hH2, hSI, hlk⟩ hI hI2 F1 N1 IH
    have F4 := fr_at F1 hlk (by kernel_rfl)
    simp only [ovr] at F4
    clear F1 F2 F3 N2 N3
    ((try k_fold); repeat' (first | (k_unfold; (try dsimp only)) | ((with_reducible show wpAny _ _ (exec (Stmt.For _ _ _ _ _) _) _ _ _); (refine loopify ?_)) | walk1 | (dsimp only; walk1) | (leave1; (try dsimp only)) | fail "no step"))
    rename_i aR hh6 F6 N6 l6 hh7 hh8 F7 N7
    have hRa : @Ne Nat aR aH := slot_neA hgg l6.2.2.2
    have hIa : @Ne Nat I aH := fun e => hI2 _ (.tail _ (.tail _ (slot_mem hgg o2))) e.symm
    have hSa : @Ne Nat dS aH := fun e => (hneg o2 _ (slot_mem hgg o2)).1 e.symm
    have hDa : @Ne Nat dN aH := fun e => (hneg o2 _ (slot_mem hgg o2)).2 e.symm
    have hBs : ∀ o, ∀ q ∈ gg o, q.1 < aR := fun o => slot_lt hgg o (ktn_ltOf l6.2.2.2)
    generalize hB : (fun o => (I, oI) :: (dS, oS) :: (dN, oN) :: gg o) = BB
    have hBB : Slot aH BB := hB ▸ slot_cons hIa (slot_cons hSa (slot_cons hDa hgg))
    have hCB : SlotIn (aC, listOf vs.toArray nC) BB := hB ▸ fun o => .tail _ (.tail _ (.tail _ (hCg o)))
    have hNB : SlotIn (lN, listOf itN nN) BB := hB ▸ fun o => .tail _ (.tail _ (.tail _ (hNg o)))
    have hlB : ∀ o, ∀ q ∈ BB o, q.1 < aR := by
      subst hB
      intro o q hq
      rcases List.mem_cons.mp hq with rfl | hq
      · exact l6.1
      · rcases List.mem_cons.mp hq with rfl | hq
        · exact l6.2.1
        · rcases List.mem_cons.mp hq with rfl | hq
          · exact l6.2.2.1
          · exact hBs o q hq
    have N8 : News g' L' hh8 ((aR, listOf #[] 0) :: BB o2) := hB ▸ N7
    clear N7 N6 F6
    refine Loop.in (flow_cut (fun s' => Ex9 fun h' tk' itR nR imps T tT o' mm => And9 (s' = { s with heap := h', toks := tk' }) (Fr g' L' h' mm) (News g' L' h' ((aR, listOf itR nR) :: BB o')) (HandIs ins aC o') (StrsAre itR.toList (imps.foldl addNew [])) (Imp T.cps.toList imps) (imps.length ≤ 4) (T.length ≤ 200) (Looks mm (lk7 aH lN dN dS aR i t T tT))) ?_ ?_)
    · 
      clear hB hIa hSa hDa hI hI2 hneg l6 hSI IH hgg hCg hNg hsg
      ((rename Fr _ _ _ _ => lF'); (with_unfolding_all refine' For_invVF lF' ?k1 ?k2 ?_; (case k1 => exact rfl); (case k2 => exact rfl); k_whole))
      ((try k_fold); repeat' (first | (k_unfold; (try dsimp only)) | ((with_reducible show wpAny _ _ (call (Value.ref 361) _) _ _ _); refine loopify ?_) | walk1 | (dsimp only; walk1) | (leave1; (try dsimp only)) | fail "no step"))
      (refine Loop.in ?_; refine' con_useU ?zzU (pick_con ?zzhg ?zzhC ?zzhI ?zzhl ?zzhH ?zzk1 ?zzk6) ?zzkB ?zzkF ?zzkX ?zzkN ?zzkT ?zzkK ?zzkd ?zzku ?_; (case zzkB => k_asm); (case zzkF => k_asm); (case zzkX => k_asm); (case zzkN => k_asm); (case zzkT => k_asm); (case zzkK => exact rfl); (case zzU => first | exact slot_self (by assumption) | (refine' UpdF.tail ?ua14 ?ub14; (case ub14 => first | exact slot_self (by assumption) | (refine' UpdF.tail ?ua13 ?ub13; (case ub13 => first | exact slot_self (by assumption) | (refine' UpdF.tail ?ua12 ?ub12; (case ub12 => first | exact slot_self (by assumption) | (refine' UpdF.tail ?ua11 ?ub11; (case ub11 => first | exact slot_self (by assumption) | (refine' UpdF.tail ?ua10 ?ub10; (case ub10 => first | exact slot_self (by assumption) | (refine' UpdF.tail ?ua9 ?ub9; (case ub9 => first | exact slot_self (by assumption) | (refine' UpdF.tail ?ua8 ?ub8; (case ub8 => first | exact slot_self (by assumption) | (refine' UpdF.tail ?ua7 ?ub7; (case ub7 => first | exact slot_self (by assumption) | (refine' UpdF.tail ?ua6 ?ub6; (case ub6 => first | exact slot_self (by assumption) | (refine' UpdF.tail ?ua5 ?ub5; (case ub5 => first | exact slot_self (by assumption) | (refine' UpdF.tail ?ua4 ?ub4; (case ub4 => first | exact slot_self (by assumption) | (refine' UpdF.tail ?ua3 ?ub3; (case ub3 => first | exact slot_self (by assumption) | (refine' UpdF.tail ?ua2 ?ub2; (case ub2 => first | exact slot_self (by assumption) | (refine' UpdF.tail ?ua1 ?ub1; (case ub1 => exact slot_self (by assumption)); (case ua1 => k_ne))); (case ua2 => k_ne))); (case ua3 => k_ne))); (case ua4 => k_ne))); (case ua5 => k_ne))); (case ua6 => k_ne))); (case ua7 => k_ne))); (case ua8 => k_ne))); (case ua9 => k_ne))); (case ua10 => k_ne))); (case ua11 => k_ne))); (case ua12 => k_ne))); (case ua13 => k_ne))); (case ua14 => k_ne))); (case zzhg => ktr_unf); (case zzhI => assumption); (case zzhC => (intro o9; (try dsimp only); k_mem)); (case zzhl => assumption); (case zzhH => assumption); (case zzk1 => first | decide | omega); (case zzk6 => first | decide | omega); (case zzkd => ktr_room); (case zzku => ktr_units); intro r9 news9 h9 tk9 F9 N9 p9; obtain ⟨d9, o9, t9, e9, a9, b9, c9, n9⟩ := p9; subst e9 n9; (try dsimp only at N9); (try dsimp only); (try k_sweep))
      have hb9 : Loop (0 ≤ d9 ∧ d9 < 4) := ⟨a9, b9⟩
      have hd9 : d9 = (d9.toNat : Int) := by omega
      clear a9 b9
      ((try k_fold); repeat' (first | (k_unfold; (try dsimp only)) | ((with_reducible show wpAny _ _ (pyIter (Value.ref _)) (fun it s₂ => LoopAtV _ _ _ _ _ _ _ _ _ it s₂) _ _); refine loopify ?_) | walk1 | (dsimp only; walk1) | (leave1; (try dsimp only)) | fail "no step"))
      rename IsRange _ _ 0 d9 _ _ _ _ => hr9
      refine Loop.in (for_range (n := d9.toNat) (fun i2 m nx => Ex6 fun itR nR imps T tT o' => And7 (nx = (aR, listOf itR nR) :: BB o') (HandIs ins aC o') (StrsAre itR.toList (imps.foldl addNew [])) (Imp T.cps.toList imps) (imps.length = i2) (T.length ≤ i2 * 40) (Looks m (lk7 aH lN dN dS aR i t T tT))) rfl (by k_asm) hd9 (by have := hb9.2; omega) (by k_asm) (by k_asm)
        ⟨_, _, [], _, _, _, rfl, c9, .nil, by rw [lit_e]; exact .none, rfl, by decide +kernel, by (repeat (first | exact looks_nil | refine looks_cons rfl ?_))⟩ ?turn2 ?done2)
      case turn2 =>
        rintro Again2 i2 t2 m2 nx h tk J oJ hi2 ⟨itR, nR, imps, T, tT, o3, rfl, hH3, hSR, hIm, hil, hT, hlk2⟩ hJ hJ2 F8 N8 IH2
        have F9 := fr_at F8 hlk2 (by kernel_rfl)
        simp only [ovr] at F9
        clear F8 hlk
        have hJa : @Ne Nat J aH := fun e => hJ2 _ (.tail _ (slot_mem hBB o3)) e.symm
        have hJ2B : ∀ o, ∀ q ∈ BB o, q.1 ≠ J := slot_other hBB fun q hq => hJ2 q (.tail _ hq)
        have hJR : @Ne Nat aR J := fun e => hJ2 _ (.head _) e
        refine stmt_cut (fun s' => Ex6 fun h' tk' x tx o' mm => And6 (s' = { s with heap := h', toks := tk' }) (Fr g' L' h' mm) (News g' L' h' ((J, oJ) :: (aR, listOf itR nR) :: BB o')) (HandIs ins aC o') (x ∈ NAMES) (Looks mm ((Str.ofString "other", .str x tx) :: lk7 aH lN dN dS aR i t T tT))) ?_ ?_
        · obtain ⟨hb51, hb52⟩ := (show 1 ≤ nms.length ∧ nms.length ≤ 5 from hb5)
          ((try k_fold); repeat' (first | (k_unfold; (try dsimp only)) | ((with_reducible show wpAny _ _ (call (Value.ref 361) _) _ _ _); refine loopify ?_) | walk1 | (dsimp only; walk1) | (leave1; (try dsimp only)) | fail "no step"))
          (refine Loop.in ?_; refine' con_useU ?zzU (pick_con ?zzhg ?zzhC ?zzhI ?zzhl ?zzhH ?zzk1 ?zzk6) ?zzkB ?zzkF ?zzkX ?zzkN ?zzkT ?zzkK ?zzkd ?zzku ?_; (case zzkB => k_asm); (case zzkF => k_asm); (case zzkX => k_asm); (case zzkN => k_asm); (case zzkT => k_asm); (case zzkK => exact rfl); (case zzU => first | exact slot_self (by assumption) | (refine' UpdF.tail ?ua14 ?ub14; (case ub14 => first | exact slot_self (by assumption) | (refine' UpdF.tail ?ua13 ?ub13; (case ub13 => first | exact slot_self (by assumption) | (refine' UpdF.tail ?ua12 ?ub12; (case ub12 => first | exact slot_self (by assumption) | (refine' UpdF.tail ?ua11 ?ub11; (case ub11 => first | exact slot_self (by assumption) | (refine' UpdF.tail ?ua10 ?ub10; (case ub10 => first | exact slot_self (by assumption) | (refine' UpdF.tail ?ua9 ?ub9; (case ub9 => first | exact slot_self (by assumption) | (refine' UpdF.tail ?ua8 ?ub8; (case ub8 => first | exact slot_self (by assumption) | (refine' UpdF.tail ?ua7 ?ub7; (case ub7 => first | exact slot_self (by assumption) | (refine' UpdF.tail ?ua6 ?ub6; (case ub6 => first | exact slot_self (by assumption) | (refine' UpdF.tail ?ua5 ?ub5; (case ub5 => first | exact slot_self (by assumption) | (refine' UpdF.tail ?ua4 ?ub4; (case ub4 => first | exact slot_self (by assumption) | (refine' UpdF.tail ?ua3 ?ub3; (case ub3 => first | exact slot_self (by assumption) | (refine' UpdF.tail ?ua2 ?ub2; (case ub2 => first | exact slot_self (by assumption) | (refine' UpdF.tail ?ua1 ?ub1; (case ub1 => exact slot_self (by assumption)); (case ua1 => k_ne))); (case ua2 => k_ne))); (case ua3 => k_ne))); (case ua4 => k_ne))); (case ua5 => k_ne))); (case ua6 => k_ne))); (case ua7 => k_ne))); (case ua8 => k_ne))); (case ua9 => k_ne))); (case ua10 => k_ne))); (case ua11 => k_ne))); (case ua12 => k_ne))); (case ua13 => k_ne))); (case ua14 => k_ne))); (case zzhg => ktr_unf); (case zzhI => assumption); (case zzhC => (intro o9; (try dsimp only); k_mem)); (case zzhl => assumption); (case zzhH => assumption); (case zzk1 => first | decide | omega); (case zzk6 => first | decide | omega); (case zzkd => ktr_room); (case zzku => ktr_units); intro r9 news9 h9 tk9 F9 N9 p9; obtain ⟨d9, o9, t9, e9, a9, b9, c9, n9⟩ := p9; subst e9 n9; (try dsimp only at N9); (try dsimp only); (try k_sweep))
          ((try k_fold); repeat' (first | (k_unfold; (try dsimp only)) | ((with_reducible show wpAny _ _ (call (Value.ref 361) _) _ _ _); refine loopify ?_) | ((with_reducible show wpAny _ _ (subscriptTail _ (Expr.Slice none (some _) none _) (Value.ref _) (Value.ref _)) _ _ _); refine loopify ?_) | ((with_reducible show wpAny _ _ (call (Value.builtin "len") [Value.ref _]) _ _ _); k_dflt (refine' len_listS ?zzN ?zzm ?zzS ?zzz ?_; (case zzN => k_asm); (case zzm => k_mem); (case zzS => k_asm); (case zzz => k_asm)); intro t9 tk9; (try dsimp only)) | walk1 | (dsimp only; walk1) | (leave1; (try dsimp only)) | fail "no step"))
          · clear a9 b9
            (refine Loop.in ?_; refine' slice_strsL ?zF ?zN ?za ?zi ?zb ?zc ?_ ?zs; (case zF => k_asm); (case zN => k_asm); (case za => k_mem); (case zi => first | assumption | (repeat constructor)); (case zb => omega); (case zc => first | omega | decide); (case zs => with_unfolding_all rfl); intro D9 h9 its9 F9 N9 l9 S9; (try k_lt l9); (try k_sweep))
            ((try k_fold); repeat' (first | (k_unfold; (try dsimp only)) | ((with_reducible show wpAny _ _ (call (Value.ref 361) _) _ _ _); refine loopify ?_) | ((with_reducible show wpAny _ _ (binaryOp Operator.Add (Value.ref _) (Value.ref _)) _ _ _); (k_dflt (refine' add_strsL ?zzF ?zzN ?zza ?zzb ?zzi ?zzj ?zzc ?zzd ?_; (case zzF => k_asm); (case zzN => k_asm); (case zza => k_mem); (case zzb => k_mem); (case zzi => first | assumption | (repeat constructor)); (case zzj => first | assumption | (repeat constructor)); (case zzc => first | assumption | decide | omega | (simp only [List.length_take]; omega)); (case zzd => first | assumption | decide)); intro D9 h9 its9 F9 N9 l9 S9; (try k_lt l9); (try k_sweep))) | ((with_reducible show wpAny _ _ (call (Value.builtin "len") [Value.ref _]) _ _ _); k_dflt (refine' len_listS ?zzN ?zzm ?zzS ?zzz ?_; (case zzN => k_asm); (case zzm => k_mem); (case zzS => k_asm); (case zzz => k_asm)); intro t9 tk9; (try dsimp only)) | walk1 | (dsimp only; walk1) | (leave1; (try dsimp only)) | fail "no step"))
            (refine Loop.in ?_; refine' con_useU ?zzU (pick_con ?zzhg ?zzhC ?zzhI ?zzhl ?zzhH ?zzk1 ?zzk6) ?zzkB ?zzkF ?zzkX ?zzkN ?zzkT ?zzkK ?zzkd ?zzku ?_; (case zzkB => k_asm); (case zzkF => k_asm); (case zzkX => k_asm); (case zzkN => k_asm); (case zzkT => k_asm); (case zzkK => exact rfl); (case zzU => first | exact slot_self (by assumption) | (refine' UpdF.tail ?ua14 ?ub14; (case ub14 => first | exact slot_self (by assumption) | (refine' UpdF.tail ?ua13 ?ub13; (case ub13 => first | exact slot_self (by assumption) | (refine' UpdF.tail ?ua12 ?ub12; (case ub12 => first | exact slot_self (by assumption) | (refine' UpdF.tail ?ua11 ?ub11; (case ub11 => first | exact slot_self (by assumption) | (refine' UpdF.tail ?ua10 ?ub10; (case ub10 => first | exact slot_self (by assumption) | (refine' UpdF.tail ?ua9 ?ub9; (case ub9 => first | exact slot_self (by assumption) | (refine' UpdF.tail ?ua8 ?ub8; (case ub8 => first | exact slot_self (by assumption) | (refine' UpdF.tail ?ua7 ?ub7; (case ub7 => first | exact slot_self (by assumption) | (refine' UpdF.tail ?ua6 ?ub6; (case ub6 => first | exact slot_self (by assumption) | (refine' UpdF.tail ?ua5 ?ub5; (case ub5 => first | exact slot_self (by assumption) | (refine' UpdF.tail ?ua4 ?ub4; (case ub4 => first | exact slot_self (by assumption) | (refine' UpdF.tail ?ua3 ?ub3; (case ub3 => first | exact slot_self (by assumption) | (refine' UpdF.tail ?ua2 ?ub2; (case ub2 => first | exact slot_self (by assumption) | (refine' UpdF.tail ?ua1 ?ub1; (case ub1 => exact slot_self (by assumption)); (case ua1 => k_ne))); (case ua2 => k_ne))); (case ua3 => k_ne))); (case ua4 => k_ne))); (case ua5 => k_ne))); (case ua6 => k_ne))); (case ua7 => k_ne))); (case ua8 => k_ne))); (case ua9 => k_ne))); (case ua10 => k_ne))); (case ua11 => k_ne))); (case ua12 => k_ne))); (case ua13 => k_ne))); (case ua14 => k_ne))); (case zzhg => ktr_unf); (case zzhI => assumption); (case zzhC => (intro o9; (try dsimp only); k_mem)); (case zzhl => assumption); (case zzhH => assumption); (case zzk1 => first | decide | omega); (case zzk6 => first | decide | omega); (case zzkd => ktr_room); (case zzku => ktr_units); intro r9 news9 h9 tk9 F9 N9 p9; obtain ⟨d9, o9, t9, e9, a9, b9, c9, n9⟩ := p9; subst e9 n9; (try dsimp only at N9); (try dsimp only); (try k_sweep))
            ((try k_fold); repeat' (first | (k_unfold; (try dsimp only)) | ((with_reducible show wpAny _ _ (subscriptTail _ _ (Value.ref _) (Value.int _ _)) _ _ _); k_dflt (refine' item_strsL ?zzN ?zza ?zzi ?zzb ?zzc ?zzd ?_ ?zzhs; (case zzN => k_asm); (case zza => k_mem); (case zzi => first | assumption | (repeat constructor)); (case zzb => omega); (case zzc => first | omega | (simp only [List.length_append, List.length_take, List.length_cons, List.length_nil]; omega)); (case zzd => first | omega | decide | (simp only [List.length_append, List.length_take, List.length_cons, List.length_nil]; omega)); (case zzhs => with_unfolding_all rfl)); intro x9 t9 hx9) | walk1 | (dsimp only; walk1) | (leave1; (try dsimp only)) | fail "no step"))
            rename (_ ++ _)[_]? = some _ => hx9
            exact Loop.in ⟨by trivial, _, _, _, _, _, _, rfl, by k_asm, news_sub (by k_asm) sub_three, c9, mem_other hsubN (List.mem_of_getElem? hx9), by (repeat (first | exact looks_nil | refine looks_cons rfl ?_))⟩
          · clear a9 b9
            (refine Loop.in ?_; refine' con_useU ?zzU (pick_con ?zzhg ?zzhC ?zzhI ?zzhl ?zzhH ?zzk1 ?zzk6) ?zzkB ?zzkF ?zzkX ?zzkN ?zzkT ?zzkK ?zzkd ?zzku ?_; (case zzkB => k_asm); (case zzkF => k_asm); (case zzkX => k_asm); (case zzkN => k_asm); (case zzkT => k_asm); (case zzkK => exact rfl); (case zzU => first | exact slot_self (by assumption) | (refine' UpdF.tail ?ua14 ?ub14; (case ub14 => first | exact slot_self (by assumption) | (refine' UpdF.tail ?ua13 ?ub13; (case ub13 => first | exact slot_self (by assumption) | (refine' UpdF.tail ?ua12 ?ub12; (case ub12 => first | exact slot_self (by assumption) | (refine' UpdF.tail ?ua11 ?ub11; (case ub11 => first | exact slot_self (by assumption) | (refine' UpdF.tail ?ua10 ?ub10; (case ub10 => first | exact slot_self (by assumption) | (refine' UpdF.tail ?ua9 ?ub9; (case ub9 => first | exact slot_self (by assumption) | (refine' UpdF.tail ?ua8 ?ub8; (case ub8 => first | exact slot_self (by assumption) | (refine' UpdF.tail ?ua7 ?ub7; (case ub7 => first | exact slot_self (by assumption) | (refine' UpdF.tail ?ua6 ?ub6; (case ub6 => first | exact slot_self (by assumption) | (refine' UpdF.tail ?ua5 ?ub5; (case ub5 => first | exact slot_self (by assumption) | (refine' UpdF.tail ?ua4 ?ub4; (case ub4 => first | exact slot_self (by assumption) | (refine' UpdF.tail ?ua3 ?ub3; (case ub3 => first | exact slot_self (by assumption) | (refine' UpdF.tail ?ua2 ?ub2; (case ub2 => first | exact slot_self (by assumption) | (refine' UpdF.tail ?ua1 ?ub1; (case ub1 => exact slot_self (by assumption)); (case ua1 => k_ne))); (case ua2 => k_ne))); (case ua3 => k_ne))); (case ua4 => k_ne))); (case ua5 => k_ne))); (case ua6 => k_ne))); (case ua7 => k_ne))); (case ua8 => k_ne))); (case ua9 => k_ne))); (case ua10 => k_ne))); (case ua11 => k_ne))); (case ua12 => k_ne))); (case ua13 => k_ne))); (case ua14 => k_ne))); (case zzhg => ktr_unf); (case zzhI => assumption); (case zzhC => (intro o9; (try dsimp only); k_mem)); (case zzhl => assumption); (case zzhH => assumption); (case zzk1 => first | decide | omega); (case zzk6 => first | decide | omega); (case zzkd => ktr_room); (case zzku => ktr_units); intro r9 news9 h9 tk9 F9 N9 p9; obtain ⟨d9, o9, t9, e9, a9, b9, c9, n9⟩ := p9; subst e9 n9; (try dsimp only at N9); (try dsimp only); (try k_sweep))
            ((try k_fold); repeat' (first | (k_unfold; (try dsimp only)) | ((with_reducible show wpAny _ _ (subscriptTail _ _ (Value.ref _) (Value.int _ _)) _ _ _); k_dflt (refine' item_strsL ?zzN ?zza ?zzi ?zzb ?zzc ?zzd ?_ ?zzhs; (case zzN => k_asm); (case zza => k_mem); (case zzi => first | assumption | (repeat constructor)); (case zzb => omega); (case zzc => first | omega | (simp only [List.length_append, List.length_take, List.length_cons, List.length_nil]; omega)); (case zzd => first | omega | decide | (simp only [List.length_append, List.length_take, List.length_cons, List.length_nil]; omega)); (case zzhs => with_unfolding_all rfl)); intro x9 t9 hx9) | walk1 | (dsimp only; walk1) | (leave1; (try dsimp only)) | fail "no step"))
            rename nms[_]? = some _ => hx9
            exact Loop.in ⟨by trivial, _, _, _, _, _, _, rfl, by k_asm, by k_asm, c9, hsubN _ (List.mem_of_getElem? hx9), by (repeat (first | exact looks_nil | refine looks_cons rfl ?_))⟩
        · rintro s' ⟨h1, tk1, x, tx, o4, mm, rfl, F10, N10, hH4, hxN, hlk3⟩
          clear F9 hlk2 hH3
          have F11 := fr_looks F10 hlk3
          simp only [ovr] at F11
          clear F10
          have hrl : (imps.foldl addNew []).length ≤ 4 := Nat.le_trans (addNew_len imps []) (by rw [List.length_nil, hil]; have := hb9.2; omega)
          have hfit : itR.size + 1 ≤ sizeLine := by rw [strs_size hSR, sizeLine_eq]; omega
          refine stmt_cut (fun s' => Ex5 fun h' tk' itR' nR' mm => And5 (s' = { s with heap := h', toks := tk' }) (Fr g' L' h' mm) (News g' L' h' ((J, oJ) :: (aR, listOf itR' nR') :: BB o4)) (StrsAre itR'.toList (addNew (imps.foldl addNew []) x)) (Looks mm ((Str.ofString "other", .str x tx) :: lk7 aH lN dN dS aR i t T tT))) ?_ ?_
          · ((try k_fold); repeat' (first | (k_unfold; (try dsimp only)) | ((with_reducible show wpAny _ _ (compareOp CmpOp.NotIn (Value.str _ _) (Value.ref _)) _ _ _); (k_dflt (first | (refine kdg_notin (knd := PySem.strKind _ _) (by k_asm) (by k_mem) (by k_asm) (by k_asm) (strKind_is _ _ _ _) _ rfl ?_) | (refine notin_listS (by k_asm) (by k_mem) (by k_asm) ?_)))) | walk1 | (dsimp only; walk1) | (leave1; (try dsimp only)) | fail "no step"))
            · exact Loop.in ⟨by trivial, _, _, _, _, _, rfl, by k_asm, by k_asm, by rw [addNew_t (by assumption)]; exact hSR, by (repeat (first | exact looks_nil | refine looks_cons rfl ?_))⟩
            · exact Loop.in ⟨by trivial, _, _, _, _, _, rfl, by k_asm, by k_asm, by rw [addNew_f (by assumption)]; exact strs_addA hSR, by (repeat (first | exact looks_nil | refine looks_cons rfl ?_))⟩
          · rintro s' ⟨h1, tk1, itR', nR', mm, rfl, F12, N12, hSR2, hlk4⟩
            clear F11 N10 hSR hfit hlk3
            have F13 := fr_looks F12 hlk4
            simp only [ovr] at F13
            clear F12
            refine stmt_cut (fun s' => Ex6 fun h' tk' T' tT' o' mm => And7 (s' = { s with heap := h', toks := tk' }) (Fr g' L' h' mm) (News g' L' h' ((J, oJ) :: (aR, listOf itR' nR') :: BB o')) (HandIs ins aC o') (Imp T'.cps.toList (imps ++ [x])) (T'.length ≤ (i2 + 1) * 40) (Looks mm (lk7 aH lN dN dS aR i t T' tT'))) ?_ ?_
            · have hx3 := name_len x hxN
              have hi4 : i2 < 4 := by have := hb9.2; omega
              ((try k_fold); repeat' (first | (k_unfold; (try dsimp only)) | ((with_reducible show wpAny _ _ (call (Value.ref 361) _) _ _ _); refine loopify ?_) | walk1 | (dsimp only; walk1) | (leave1; (try dsimp only)) | fail "no step"))
              · rename (T == _) = true => hT0
                obtain rfl := eq_of_beq hT0
                have hn := imp_nil (by rw [← lit_e]; exact hIm)
                subst hn
                (refine Loop.in ?_; refine' con_useU ?zzU (pick_con ?zzhg ?zzhC ?zzhI ?zzhl ?zzhH ?zzk1 ?zzk6) ?zzkB ?zzkF ?zzkX ?zzkN ?zzkT ?zzkK ?zzkd ?zzku ?_; (case zzkB => k_asm); (case zzkF => k_asm); (case zzkX => k_asm); (case zzkN => k_asm); (case zzkT => k_asm); (case zzkK => exact rfl); (case zzU => first | exact slot_self (by assumption) | (refine' UpdF.tail ?ua14 ?ub14; (case ub14 => first | exact slot_self (by assumption) | (refine' UpdF.tail ?ua13 ?ub13; (case ub13 => first | exact slot_self (by assumption) | (refine' UpdF.tail ?ua12 ?ub12; (case ub12 => first | exact slot_self (by assumption) | (refine' UpdF.tail ?ua11 ?ub11; (case ub11 => first | exact slot_self (by assumption) | (refine' UpdF.tail ?ua10 ?ub10; (case ub10 => first | exact slot_self (by assumption) | (refine' UpdF.tail ?ua9 ?ub9; (case ub9 => first | exact slot_self (by assumption) | (refine' UpdF.tail ?ua8 ?ub8; (case ub8 => first | exact slot_self (by assumption) | (refine' UpdF.tail ?ua7 ?ub7; (case ub7 => first | exact slot_self (by assumption) | (refine' UpdF.tail ?ua6 ?ub6; (case ub6 => first | exact slot_self (by assumption) | (refine' UpdF.tail ?ua5 ?ub5; (case ub5 => first | exact slot_self (by assumption) | (refine' UpdF.tail ?ua4 ?ub4; (case ub4 => first | exact slot_self (by assumption) | (refine' UpdF.tail ?ua3 ?ub3; (case ub3 => first | exact slot_self (by assumption) | (refine' UpdF.tail ?ua2 ?ub2; (case ub2 => first | exact slot_self (by assumption) | (refine' UpdF.tail ?ua1 ?ub1; (case ub1 => exact slot_self (by assumption)); (case ua1 => k_ne))); (case ua2 => k_ne))); (case ua3 => k_ne))); (case ua4 => k_ne))); (case ua5 => k_ne))); (case ua6 => k_ne))); (case ua7 => k_ne))); (case ua8 => k_ne))); (case ua9 => k_ne))); (case ua10 => k_ne))); (case ua11 => k_ne))); (case ua12 => k_ne))); (case ua13 => k_ne))); (case ua14 => k_ne))); (case zzhg => ktr_unf); (case zzhI => assumption); (case zzhC => (intro o9; (try dsimp only); k_mem)); (case zzhl => assumption); (case zzhH => assumption); (case zzk1 => first | decide | omega); (case zzk6 => first | decide | omega); (case zzkd => ktr_room); (case zzku => ktr_units); intro r9 news9 h9 tk9 F9 N9 p9; obtain ⟨d9, o9, t9, e9, a9, b9, c9, n9⟩ := p9; subst e9 n9; (try dsimp only at N9); (try dsimp only); (try k_sweep))
                ((try k_fold); repeat' (first | (k_unfold; (try dsimp only)) | ((with_reducible show wpAny _ _ (subscriptTail _ _ (Value.ref _) (Value.int _ _)) _ _ _); k_dflt (refine' item_strsL ?zzN ?zza ?zzi ?zzb ?zzc ?zzd ?_ ?zzhs; (case zzN => k_asm); (case zza => k_mem); (case zzi => first | assumption | (repeat constructor)); (case zzb => omega); (case zzc => first | omega | (simp only [List.length_append, List.length_take, List.length_cons, List.length_nil]; omega)); (case zzd => first | omega | decide | (simp only [List.length_append, List.length_take, List.length_cons, List.length_nil]; omega)); (case zzhs => with_unfolding_all rfl)); intro x9 t9 hx9) | walk1 | (dsimp only; walk1) | (leave1; (try dsimp only)) | fail "no step"))
                rename _ = some _ => hy9
                rename Str => y9
                obtain ⟨hya, hyl⟩ := alias_of y9 (List.mem_of_getElem? hy9)
                (refine PyProof.Rows.add_str (fun t8 tk8 => ?_) (by (simp only [str_len_app, sizeLine_eq, lit_len_e]); omega))
                ((try k_fold); repeat' (first | (k_unfold; (try dsimp only)) | walk1 | (dsimp only; walk1) | (leave1; (try dsimp only)) | fail "no step"))
                exact Loop.in ⟨by trivial, _, _, _, _, _, _, rfl, by k_asm, news_sub (by k_asm) sub_two, c9, imp_first hya hxN, by (simp only [str_len_app, lit_len_e]; omega), by (repeat (first | exact looks_nil | refine looks_cons rfl ?_))⟩
              · rename (T == _) = false => hT0
                (refine Loop.in ?_; refine' con_useU ?zzU (pick_con ?zzhg ?zzhC ?zzhI ?zzhl ?zzhH ?zzk1 ?zzk6) ?zzkB ?zzkF ?zzkX ?zzkN ?zzkT ?zzkK ?zzkd ?zzku ?_; (case zzkB => k_asm); (case zzkF => k_asm); (case zzkX => k_asm); (case zzkN => k_asm); (case zzkT => k_asm); (case zzkK => exact rfl); (case zzU => first | exact slot_self (by assumption) | (refine' UpdF.tail ?ua14 ?ub14; (case ub14 => first | exact slot_self (by assumption) | (refine' UpdF.tail ?ua13 ?ub13; (case ub13 => first | exact slot_self (by assumption) | (refine' UpdF.tail ?ua12 ?ub12; (case ub12 => first | exact slot_self (by assumption) | (refine' UpdF.tail ?ua11 ?ub11; (case ub11 => first | exact slot_self (by assumption) | (refine' UpdF.tail ?ua10 ?ub10; (case ub10 => first | exact slot_self (by assumption) | (refine' UpdF.tail ?ua9 ?ub9; (case ub9 => first | exact slot_self (by assumption) | (refine' UpdF.tail ?ua8 ?ub8; (case ub8 => first | exact slot_self (by assumption) | (refine' UpdF.tail ?ua7 ?ub7; (case ub7 => first | exact slot_self (by assumption) | (refine' UpdF.tail ?ua6 ?ub6; (case ub6 => first | exact slot_self (by assumption) | (refine' UpdF.tail ?ua5 ?ub5; (case ub5 => first | exact slot_self (by assumption) | (refine' UpdF.tail ?ua4 ?ub4; (case ub4 => first | exact slot_self (by assumption) | (refine' UpdF.tail ?ua3 ?ub3; (case ub3 => first | exact slot_self (by assumption) | (refine' UpdF.tail ?ua2 ?ub2; (case ub2 => first | exact slot_self (by assumption) | (refine' UpdF.tail ?ua1 ?ub1; (case ub1 => exact slot_self (by assumption)); (case ua1 => k_ne))); (case ua2 => k_ne))); (case ua3 => k_ne))); (case ua4 => k_ne))); (case ua5 => k_ne))); (case ua6 => k_ne))); (case ua7 => k_ne))); (case ua8 => k_ne))); (case ua9 => k_ne))); (case ua10 => k_ne))); (case ua11 => k_ne))); (case ua12 => k_ne))); (case ua13 => k_ne))); (case ua14 => k_ne))); (case zzhg => ktr_unf); (case zzhI => assumption); (case zzhC => (intro o9; (try dsimp only); k_mem)); (case zzhl => assumption); (case zzhH => assumption); (case zzk1 => first | decide | omega); (case zzk6 => first | decide | omega); (case zzkd => ktr_room); (case zzku => ktr_units); intro r9 news9 h9 tk9 F9 N9 p9; obtain ⟨d9, o9, t9, e9, a9, b9, c9, n9⟩ := p9; subst e9 n9; (try dsimp only at N9); (try dsimp only); (try k_sweep))
                ((try k_fold); repeat' (first | (k_unfold; (try dsimp only)) | ((with_reducible show wpAny _ _ (call (Value.ref 361) _) _ _ _); refine loopify ?_) | ((with_reducible show wpAny _ _ (subscriptTail _ _ (Value.ref _) (Value.int _ _)) _ _ _); k_dflt (refine' item_strsL ?zzN ?zza ?zzi ?zzb ?zzc ?zzd ?_ ?zzhs; (case zzN => k_asm); (case zza => k_mem); (case zzi => first | assumption | (repeat constructor)); (case zzb => omega); (case zzc => first | omega | (simp only [List.length_append, List.length_take, List.length_cons, List.length_nil]; omega)); (case zzd => first | omega | decide | (simp only [List.length_append, List.length_take, List.length_cons, List.length_nil]; omega)); (case zzhs => with_unfolding_all rfl)); intro x9 t9 hx9) | walk1 | (dsimp only; walk1) | (leave1; (try dsimp only)) | fail "no step"))
                clear a9 b9
                rename _ = some _ => hs9
                rename Str => s9
                obtain ⟨hsa, hsl⟩ := sep_of s9 (List.mem_of_getElem? hs9)
                clear hs9
                (refine Loop.in ?_; refine' con_useU ?zzU (pick_con ?zzhg ?zzhC ?zzhI ?zzhl ?zzhH ?zzk1 ?zzk6) ?zzkB ?zzkF ?zzkX ?zzkN ?zzkT ?zzkK ?zzkd ?zzku ?_; (case zzkB => k_asm); (case zzkF => k_asm); (case zzkX => k_asm); (case zzkN => k_asm); (case zzkT => k_asm); (case zzkK => exact rfl); (case zzU => first | exact slot_self (by assumption) | (refine' UpdF.tail ?ua14 ?ub14; (case ub14 => first | exact slot_self (by assumption) | (refine' UpdF.tail ?ua13 ?ub13; (case ub13 => first | exact slot_self (by assumption) | (refine' UpdF.tail ?ua12 ?ub12; (case ub12 => first | exact slot_self (by assumption) | (refine' UpdF.tail ?ua11 ?ub11; (case ub11 => first | exact slot_self (by assumption) | (refine' UpdF.tail ?ua10 ?ub10; (case ub10 => first | exact slot_self (by assumption) | (refine' UpdF.tail ?ua9 ?ub9; (case ub9 => first | exact slot_self (by assumption) | (refine' UpdF.tail ?ua8 ?ub8; (case ub8 => first | exact slot_self (by assumption) | (refine' UpdF.tail ?ua7 ?ub7; (case ub7 => first | exact slot_self (by assumption) | (refine' UpdF.tail ?ua6 ?ub6; (case ub6 => first | exact slot_self (by assumption) | (refine' UpdF.tail ?ua5 ?ub5; (case ub5 => first | exact slot_self (by assumption) | (refine' UpdF.tail ?ua4 ?ub4; (case ub4 => first | exact slot_self (by assumption) | (refine' UpdF.tail ?ua3 ?ub3; (case ub3 => first | exact slot_self (by assumption) | (refine' UpdF.tail ?ua2 ?ub2; (case ub2 => first | exact slot_self (by assumption) | (refine' UpdF.tail ?ua1 ?ub1; (case ub1 => exact slot_self (by assumption)); (case ua1 => k_ne))); (case ua2 => k_ne))); (case ua3 => k_ne))); (case ua4 => k_ne))); (case ua5 => k_ne))); (case ua6 => k_ne))); (case ua7 => k_ne))); (case ua8 => k_ne))); (case ua9 => k_ne))); (case ua10 => k_ne))); (case ua11 => k_ne))); (case ua12 => k_ne))); (case ua13 => k_ne))); (case ua14 => k_ne))); (case zzhg => ktr_unf); (case zzhI => assumption); (case zzhC => (intro o9; (try dsimp only); k_mem)); (case zzhl => assumption); (case zzhH => assumption); (case zzk1 => first | decide | omega); (case zzk6 => first | decide | omega); (case zzkd => ktr_room); (case zzku => ktr_units); intro r9 news9 h9 tk9 F9 N9 p9; obtain ⟨d9, o9, t9, e9, a9, b9, c9, n9⟩ := p9; subst e9 n9; (try dsimp only at N9); (try dsimp only); (try k_sweep))
                ((try k_fold); repeat' (first | (k_unfold; (try dsimp only)) | ((with_reducible show wpAny _ _ (subscriptTail _ _ (Value.ref _) (Value.int _ _)) _ _ _); k_dflt (refine' item_strsL ?zzN ?zza ?zzi ?zzb ?zzc ?zzd ?_ ?zzhs; (case zzN => k_asm); (case zza => k_mem); (case zzi => first | assumption | (repeat constructor)); (case zzb => omega); (case zzc => first | omega | (simp only [List.length_append, List.length_take, List.length_cons, List.length_nil]; omega)); (case zzd => first | omega | decide | (simp only [List.length_append, List.length_take, List.length_cons, List.length_nil]; omega)); (case zzhs => with_unfolding_all rfl)); intro x9 t9 hx9) | walk1 | (dsimp only; walk1) | (leave1; (try dsimp only)) | fail "no step"))
                rename _ = some _ => hy9
                rename Str => y9
                obtain ⟨hya, hyl⟩ := alias_of y9 (List.mem_of_getElem? hy9)
                (refine PyProof.Rows.add_str (fun t8 tk8 => ?_) (by (simp only [str_len_app, sizeLine_eq, lit_len_e]); omega))
                ((try k_fold); repeat' (first | (k_unfold; (try dsimp only)) | walk1 | (dsimp only; walk1) | (leave1; (try dsimp only)) | fail "no step"))
                exact Loop.in ⟨by trivial, _, _, _, _, _, _, rfl, by k_asm, news_sub (by k_asm) sub_two2, c9, imp_next hIm hT0 hsa hya hxN, by (simp only [str_len_app]; omega), by (repeat (first | exact looks_nil | refine looks_cons rfl ?_))⟩
            · rintro s' ⟨h1, tk1, T', tT', o5, mm, rfl, F14, N14, hH5, hIm2, hT2, hlk5⟩
              ((try k_fold); repeat' (first | (k_unfold; (try dsimp only)) | ((with_reducible show LPost _ _ _ _); (dsimp only [LPost])) | walk1 | (dsimp only; walk1) | (leave1; (try dsimp only)) | fail "no step"))
              exact IH2 _ _ _ _ (by k_asm) (by k_asm) (off_cons hJR (hJ2B o5)) ⟨itR', nR', imps ++ [x], T', tT', o5, rfl, hH5, by rw [List.foldl_append]; exact hSR2, hIm2, by rw [List.length_append, hil]; rfl, hT2, hlk5⟩
      case done2 =>
        rintro m2 nx h tk ⟨itR, nR, imps, T, tT, o3, rfl, hH3, hSR, hIm, hil, hT, hlk2⟩ F8 N8
        have := hb9.2
        exact Loop.in ⟨by trivial, _, _, itR, nR, imps, T, tT, o3, _, rfl, F8, N8, hH3, hSR, hIm, by omega, by omega, hlk2⟩
      
    · rintro s' ⟨h1, tk1, itR, nR, imps, T, tT, o3, mm, rfl, F8, N8, hH3, hSR, hIm, hi4, hT2, hlk7⟩
      clear hlB hBB hCB hNB F7 hlk
      subst hB
      dsimp only at N8 ⊢
      have F9 := fr_looks F8 hlk7
      simp only [ovr] at F9
      clear F8
      refine stmt_cut (fun s' => Ex8 fun h' tk' Hd tH h0 x o' mm => And9 (s' = { s with heap := h', toks := tk' }) (Fr g' L' h' mm) (Looks mm ((Str.ofString "head", .str Hd tH) :: lk7 aH lN dN dS aR i t T tT)) (News g' L' h' ((aR, listOf itR nR) :: (I, oI) :: (dS, oS) :: (dN, oN) :: gg o')) (HandIs ins aC o') (nms[i]? = some x) (h0 ∈ HEADS) (Hd.cps.toList = h0 ++ (x.cps.toList ++ [59])) (Hd.length ≤ 40)) ?_ ?_
      · ((try k_fold); repeat' (first | (k_unfold; (try dsimp only)) | ((with_reducible show wpAny _ _ (call (Value.ref 361) _) _ _ _); refine loopify ?_) | walk1 | (dsimp only; walk1) | (leave1; (try dsimp only)) | fail "no step"))
        (refine Loop.in ?_; refine' con_useU ?zzU (pick_con ?zzhg ?zzhC ?zzhI ?zzhl ?zzhH ?zzk1 ?zzk6) ?zzkB ?zzkF ?zzkX ?zzkN ?zzkT ?zzkK ?zzkd ?zzku ?_; (case zzkB => k_asm); (case zzkF => k_asm); (case zzkX => k_asm); (case zzkN => k_asm); (case zzkT => k_asm); (case zzkK => exact rfl); (case zzU => first | exact slot_self (by assumption) | (refine' UpdF.tail ?ua14 ?ub14; (case ub14 => first | exact slot_self (by assumption) | (refine' UpdF.tail ?ua13 ?ub13; (case ub13 => first | exact slot_self (by assumption) | (refine' UpdF.tail ?ua12 ?ub12; (case ub12 => first | exact slot_self (by assumption) | (refine' UpdF.tail ?ua11 ?ub11; (case ub11 => first | exact slot_self (by assumption) | (refine' UpdF.tail ?ua10 ?ub10; (case ub10 => first | exact slot_self (by assumption) | (refine' UpdF.tail ?ua9 ?ub9; (case ub9 => first | exact slot_self (by assumption) | (refine' UpdF.tail ?ua8 ?ub8; (case ub8 => first | exact slot_self (by assumption) | (refine' UpdF.tail ?ua7 ?ub7; (case ub7 => first | exact slot_self (by assumption) | (refine' UpdF.tail ?ua6 ?ub6; (case ub6 => first | exact slot_self (by assumption) | (refine' UpdF.tail ?ua5 ?ub5; (case ub5 => first | exact slot_self (by assumption) | (refine' UpdF.tail ?ua4 ?ub4; (case ub4 => first | exact slot_self (by assumption) | (refine' UpdF.tail ?ua3 ?ub3; (case ub3 => first | exact slot_self (by assumption) | (refine' UpdF.tail ?ua2 ?ub2; (case ub2 => first | exact slot_self (by assumption) | (refine' UpdF.tail ?ua1 ?ub1; (case ub1 => exact slot_self (by assumption)); (case ua1 => k_ne))); (case ua2 => k_ne))); (case ua3 => k_ne))); (case ua4 => k_ne))); (case ua5 => k_ne))); (case ua6 => k_ne))); (case ua7 => k_ne))); (case ua8 => k_ne))); (case ua9 => k_ne))); (case ua10 => k_ne))); (case ua11 => k_ne))); (case ua12 => k_ne))); (case ua13 => k_ne))); (case ua14 => k_ne))); (case zzhg => ktr_unf); (case zzhI => assumption); (case zzhC => (intro o9; (try dsimp only); k_mem)); (case zzhl => assumption); (case zzhH => assumption); (case zzk1 => first | decide | omega); (case zzk6 => first | decide | omega); (case zzkd => ktr_room); (case zzku => ktr_units); intro r9 news9 h9 tk9 F9 N9 p9; obtain ⟨d9, o9, t9, e9, a9, b9, c9, n9⟩ := p9; subst e9 n9; (try dsimp only at N9); (try dsimp only); (try k_sweep))
        ((try k_fold); repeat' (first | (k_unfold; (try dsimp only)) | ((with_reducible show wpAny _ _ (subscriptTail _ _ (Value.ref _) (Value.int _ _)) _ _ _); k_dflt (refine' item_strsL ?zzN ?zza ?zzi ?zzb ?zzc ?zzd ?_ ?zzhs; (case zzN => k_asm); (case zza => k_mem); (case zzi => first | assumption | (repeat constructor)); (case zzb => omega); (case zzc => first | omega | (simp only [List.length_append, List.length_take, List.length_cons, List.length_nil]; omega)); (case zzd => first | omega | decide | (simp only [List.length_append, List.length_take, List.length_cons, List.length_nil]; omega)); (case zzhs => with_unfolding_all rfl)); intro x9 t9 hx9) | walk1 | (dsimp only; walk1) | (leave1; (try dsimp only)) | fail "no step"))
        rename nms[_]? = some _ => hx9
        rename (_ :: _)[_]? = some _ => hh9
        obtain ⟨hha, hhl⟩ := heads_in _ (List.mem_of_getElem? hh9)
        have hx3 := name_len _ (hsubN _ (List.mem_of_getElem? hx9))
        (refine PyProof.Rows.add_str (fun t8 tk8 => ?_) (by (simp only [str_len_app, sizeLine_eq, lit_len_e]); omega))
        ((try k_fold); repeat' (first | (k_unfold; (try dsimp only)) | walk1 | (dsimp only; walk1) | (leave1; (try dsimp only)) | fail "no step"))
        exact Loop.in ⟨by trivial, _, _, _, _, _, _, _, _, rfl, by k_asm, by (repeat (first | exact looks_nil | refine looks_cons rfl ?_)), news_sub (by k_asm) sub_two, c9, hx9, hha, (by simp only [cps_app, lit_sc, List.append_assoc]), (by (simp only [str_len_app, lit_len_sc]; omega))⟩
      · rintro s' ⟨h1, tk1, Hd, tH, h0, x, o4, mm, rfl, F10, hlk8, N10, hH4, hxi, hh0, hHd, hHl⟩
        clear F9 N8 hH3 hlk7
        have F11 := fr_looks F10 hlk8
        simp only [ovr] at F11
        clear F10
        refine stmt_cut (fun s' => Ex7 fun h' tk' Hd tH mid o' mm => And8 (s' = { s with heap := h', toks := tk' }) (Fr g' L' h' mm) (Looks mm ((Str.ofString "head", .str Hd tH) :: lk7 aH lN dN dS aR i t T tT)) (News g' L' h' ((aR, listOf itR nR) :: (I, oI) :: (dS, oS) :: (dN, oN) :: gg o')) (HandIs ins aC o') (((T.cps.toList = [] ∧ mid = []) ∨ (T.cps.toList ≠ [] ∧ ∃ im ∈ IMPS, mid = im ++ (T.cps.toList ++ [59])))) (Hd.cps.toList = h0 ++ (x.cps.toList ++ 59 :: mid)) (Hd.length ≤ 260)) ?_ ?_
        · ((try k_fold); repeat' (first | (k_unfold; (try dsimp only)) | ((with_reducible show wpAny _ _ (call (Value.ref 361) _) _ _ _); refine loopify ?_) | walk1 | (dsimp only; walk1) | (leave1; (try dsimp only)) | fail "no step"))
          · rename (T != _) = true => hT0
            (refine Loop.in ?_; refine' con_useU ?zzU (pick_con ?zzhg ?zzhC ?zzhI ?zzhl ?zzhH ?zzk1 ?zzk6) ?zzkB ?zzkF ?zzkX ?zzkN ?zzkT ?zzkK ?zzkd ?zzku ?_; (case zzkB => k_asm); (case zzkF => k_asm); (case zzkX => k_asm); (case zzkN => k_asm); (case zzkT => k_asm); (case zzkK => exact rfl); (case zzU => first | exact slot_self (by assumption) | (refine' UpdF.tail ?ua14 ?ub14; (case ub14 => first | exact slot_self (by assumption) | (refine' UpdF.tail ?ua13 ?ub13; (case ub13 => first | exact slot_self (by assumption) | (refine' UpdF.tail ?ua12 ?ub12; (case ub12 => first | exact slot_self (by assumption) | (refine' UpdF.tail ?ua11 ?ub11; (case ub11 => first | exact slot_self (by assumption) | (refine' UpdF.tail ?ua10 ?ub10; (case ub10 => first | exact slot_self (by assumption) | (refine' UpdF.tail ?ua9 ?ub9; (case ub9 => first | exact slot_self (by assumption) | (refine' UpdF.tail ?ua8 ?ub8; (case ub8 => first | exact slot_self (by assumption) | (refine' UpdF.tail ?ua7 ?ub7; (case ub7 => first | exact slot_self (by assumption) | (refine' UpdF.tail ?ua6 ?ub6; (case ub6 => first | exact slot_self (by assumption) | (refine' UpdF.tail ?ua5 ?ub5; (case ub5 => first | exact slot_self (by assumption) | (refine' UpdF.tail ?ua4 ?ub4; (case ub4 => first | exact slot_self (by assumption) | (refine' UpdF.tail ?ua3 ?ub3; (case ub3 => first | exact slot_self (by assumption) | (refine' UpdF.tail ?ua2 ?ub2; (case ub2 => first | exact slot_self (by assumption) | (refine' UpdF.tail ?ua1 ?ub1; (case ub1 => exact slot_self (by assumption)); (case ua1 => k_ne))); (case ua2 => k_ne))); (case ua3 => k_ne))); (case ua4 => k_ne))); (case ua5 => k_ne))); (case ua6 => k_ne))); (case ua7 => k_ne))); (case ua8 => k_ne))); (case ua9 => k_ne))); (case ua10 => k_ne))); (case ua11 => k_ne))); (case ua12 => k_ne))); (case ua13 => k_ne))); (case ua14 => k_ne))); (case zzhg => ktr_unf); (case zzhI => assumption); (case zzhC => (intro o9; (try dsimp only); k_mem)); (case zzhl => assumption); (case zzhH => assumption); (case zzk1 => first | decide | omega); (case zzk6 => first | decide | omega); (case zzkd => ktr_room); (case zzku => ktr_units); intro r9 news9 h9 tk9 F9 N9 p9; obtain ⟨d9, o9, t9, e9, a9, b9, c9, n9⟩ := p9; subst e9 n9; (try dsimp only at N9); (try dsimp only); (try k_sweep))
            ((try k_fold); repeat' (first | (k_unfold; (try dsimp only)) | ((with_reducible show wpAny _ _ (subscriptTail _ _ (Value.ref _) (Value.int _ _)) _ _ _); k_dflt (refine' item_strsL ?zzN ?zza ?zzi ?zzb ?zzc ?zzd ?_ ?zzhs; (case zzN => k_asm); (case zza => k_mem); (case zzi => first | assumption | (repeat constructor)); (case zzb => omega); (case zzc => first | omega | (simp only [List.length_append, List.length_take, List.length_cons, List.length_nil]; omega)); (case zzd => first | omega | decide | (simp only [List.length_append, List.length_take, List.length_cons, List.length_nil]; omega)); (case zzhs => with_unfolding_all rfl)); intro x9 t9 hx9) | walk1 | (dsimp only; walk1) | (leave1; (try dsimp only)) | fail "no step"))
            rename (_ :: _)[_]? = some _ => hm9
            obtain ⟨hma, hml⟩ := imps_in _ (List.mem_of_getElem? hm9)
            (refine PyProof.Rows.add_str (fun t8 tk8 => ?_) (by (simp only [str_len_app, sizeLine_eq, lit_len_e]); omega))
            ((try k_fold); repeat' (first | (k_unfold; (try dsimp only)) | walk1 | (dsimp only; walk1) | (leave1; (try dsimp only)) | fail "no step"))
            exact Loop.in ⟨by trivial, _, _, _, _, _, _, _, rfl, by k_asm, by (repeat (first | exact looks_nil | refine looks_cons rfl ?_)), news_sub (by k_asm) sub_two, c9, .inr ⟨fun e => absurd (text_nil e) (bne_iff_ne.mp hT0), _, hma, rfl⟩, (by simp only [cps_app, lit_sc, hHd, List.append_assoc, List.cons_append, List.nil_append]), (by (simp only [str_len_app, lit_len_sc]; omega))⟩
          · rename (T != _) = false => hT0
            exact Loop.in ⟨by trivial, _, _, _, _, [], _, _, rfl, by k_asm, by (repeat (first | exact looks_nil | refine looks_cons rfl ?_)), by k_asm, hH4, .inl ⟨by rw [show T = Str.ofString "" from by simpa using hT0]; exact lit_e, rfl⟩, hHd, (by omega)⟩
        · rintro s' ⟨h1, tk1, Hd', tH', mid, o5, mm, rfl, F12, hlk9, N12, hH5, hmid, hHd', hHl'⟩
          clear F11 N10 hH4 hlk8
          have F13 := fr_looks F12 hlk9
          simp only [ovr] at F13
          clear F12
          obtain ⟨isN, isS, keysN, keysS, rowN, rowS⟩ := hSI
          have hkz : kN.length ≤ sizeLine := by rw [← List.length_map (f := (·.1)), keysN, List.length_take, sizeLine_eq]; omega
          have hkz2 : kS.length ≤ sizeLine := by rw [← List.length_map (f := (·.1)), keysS, List.length_take, sizeLine_eq]; omega
          have hgD : ∀ q ∈ gg o5, q.1 ≠ dN := fun q hq => (hneg o5 q hq).2
          have hgS : ∀ q ∈ gg o5, q.1 ≠ dS := fun q hq => (hneg o5 q hq).1
          have hRD : @Ne Nat aR dN := fun e => Nat.lt_irrefl _ (Nat.lt_of_lt_of_eq l6.2.2.1 e)
          have hRS : @Ne Nat aR dS := fun e => Nat.lt_irrefl _ (Nat.lt_of_lt_of_eq l6.2.1 e)
          have hRI : @Ne Nat aR I := fun e => Nat.lt_irrefl _ (Nat.lt_of_lt_of_eq l6.1 e)
          have hID : @Ne Nat I dN := fun e => hI2 _ (.tail _ (.head _)) e.symm
          have hIS : @Ne Nat I dS := fun e => hI2 _ (.head _) e.symm
          have hSD : @Ne Nat dS dN := fun e => Nat.lt_irrefl _ (Nat.lt_of_lt_of_eq lS1.1 e)
          have hDS := hSD.symm
          have hf := lit_len_f
          have hxN := hsubN _ (List.mem_of_getElem? hxi)
          have hx3 := name_len _ hxN
          ((try k_fold); repeat' (first | (k_unfold; (try dsimp only)) | ((with_reducible show wpAny _ _ (subscriptTail _ _ (Value.ref _) (Value.int _ _)) _ _ _); k_dflt (refine' item_strsL ?zzN ?zza ?zzi ?zzb ?zzc ?zzd ?_ ?zzhs; (case zzN => k_asm); (case zza => k_mem); (case zzi => first | assumption | (repeat constructor)); (case zzb => omega); (case zzc => first | omega | (simp only [List.length_append, List.length_take, List.length_cons, List.length_nil]; omega)); (case zzd => first | omega | decide | (simp only [List.length_append, List.length_take, List.length_cons, List.length_nil]; omega)); (case zzhs => with_unfolding_all rfl)); intro x9 t9 hx9) | ((with_reducible show wpAny _ _ (setItem (Value.ref _) (Value.str _ _) _) _ _ _); k_dflt (refine' kda_set (knd := PySem.strKind _ _) ?zzF ?zzN ?zzU ?zzd (strKind_is _ _ _ _) ?zzz ?_; (case zzF => k_asm); (case zzN => k_asm); (case zzU => k_updF); (case zzd => k_asm); (case zzz => k_asm)); intro h9 o9 F9 N9 hd9; (try dsimp only at N9); (try k_sweep)) | walk1 | (dsimp only; walk1) | (leave1; (try dsimp only)) | fail "no step"))
          rename nms[_]? = some _ => hx9
          obtain rfl := Option.some.inj (hxi.symm.trans hx9)
          clear hx9
          rename nms[_]? = some _ => hx9
          obtain rfl := Option.some.inj (hxi.symm.trans hx9)
          clear hx9
          (refine PyProof.Rows.add_str (fun t8 tk8 => ?_) (by (simp only [str_len_app, sizeLine_eq, lit_len_e]); omega))
          ((try k_fold); repeat' (first | (k_unfold; (try dsimp only)) | ((with_reducible show wpAny _ _ (subscriptTail _ _ (Value.ref _) (Value.int _ _)) _ _ _); k_dflt (refine' item_strsL ?zzN ?zza ?zzi ?zzb ?zzc ?zzd ?_ ?zzhs; (case zzN => k_asm); (case zza => k_mem); (case zzi => first | assumption | (repeat constructor)); (case zzb => omega); (case zzc => first | omega | (simp only [List.length_append, List.length_take, List.length_cons, List.length_nil]; omega)); (case zzd => first | omega | decide | (simp only [List.length_append, List.length_take, List.length_cons, List.length_nil]; omega)); (case zzhs => with_unfolding_all rfl)); intro x9 t9 hx9) | ((with_reducible show wpAny _ _ (setItem (Value.ref _) (Value.str _ _) _) _ _ _); k_dflt (refine' kda_set (knd := PySem.strKind _ _) ?zzF ?zzN ?zzU ?zzd (strKind_is _ _ _ _) ?zzz ?_; (case zzF => k_asm); (case zzN => k_asm); (case zzU => k_updF); (case zzd => k_asm); (case zzz => k_asm)); intro h9 o9 F9 N9 hd9; (try dsimp only at N9); (try k_sweep)) | ((with_reducible show LPost _ _ _ _); (dsimp only [LPost])) | walk1 | (dsimp only; walk1) | (leave1; (try dsimp only)) | fail "no step"))
          rename nms[_]? = some _ => hx9
          obtain rfl := Option.some.inj (hxi.symm.trans hx9)
          rename Obj.IsDictOf _ _ (stored kN _ _) => iN9
          rename Obj.IsDictOf _ _ (stored kS _ _) => iS9
          have hrl : (imps.foldl addNew []).length < 64 := Nat.lt_of_le_of_lt (addNew_len imps []) (by rw [List.length_nil]; omega)
          refine IH _ _ _ _ (by k_asm) (news_sub (by k_asm) sub_rot) (off_cons hIS.symm (off_cons hID.symm (off_cons hRI (slot_other hgg (fun q hq => hI2 q (.tail _ (.tail _ hq))) o5)))) ⟨_, _, _, _, fun o => (aR, listOf itR nR) :: gg o, o5, fun y => if y = x then imps.foldl addNew [] else rows y, rfl, slot_cons hRa hgg, (fun o => .tail _ (hCg o)), (fun o => .tail _ (hNg o)), ?ne2, (fun o q h => .tail _ (hsg o q h)), hH5, srcs_next hnd hxi keysN keysS (fun q hq => ⟨fun o => .tail _ (hq.1 o), hq.2⟩) ⟨fun _ => .head _, fun o p hp => hBs o p (hsg o p hp)⟩ rowN rowS iN9 iS9 hSR hrl (head_txt hxN hh0 hIm hmid (by simp only [cps_app, hHd', lit_f, lit_dot, List.append_assoc, List.cons_append]) (by (simp only [str_len_app, lit_len_dot]; omega)) (by omega)), by (repeat (first | exact looks_nil | refine looks_cons rfl ?_))⟩
          intro o q hq
          rcases List.mem_cons.mp hq with rfl | hq
          · exact ⟨hRS, hRD⟩
          · exact hneg o q hq
  case done =>
    rintro m1 nx h tk ⟨oS, oN, kS, kN, gg, o2, rows, rfl, hgg, hCg, hNg, hneg, hsg, hH2, hSI, hlk⟩ F1 N1
    have F4 := fr_looks F1 hlk
    simp only [ovr] at F4
    have hsz := fun p hp => Heap.lt_size (N1 p hp).1
    clear F1 F2 F3 N2 N3
    rw [List.take_length] at hSI
    ((try k_fold); repeat' (first | (k_unfold; (try dsimp only)) | walk1 | (dsimp only; walk1) | (leave1; (try dsimp only)) | fail "no step"))
    refine hret _ _ _ _ (by k_asm) (news_sub (by k_asm) ?sub) ⟨_, lN, dN, dS, itN, nN, oN, oS, kN, kS, nms, newOnes (g o2) (gg o2), o2, rows, rfl, rfl, newOnes_mem.mpr ⟨hNg o2, hltN o2⟩, hH2, srcs_in hSI fun q hq => newOnes_mem.mpr ⟨hq.1 o2, hq.2 o2⟩, hSN, hnd, hsubN, hrises, hb5.1, hb5.2, loN, loS, lS1.1, hsz _ (.head _), fun p hp => hsz p (.tail _ (.tail _ (newOnes_mem.mp hp).1)), fun p hp => hneg o2 p (newOnes_mem.mp hp).1, fun p hp => slot_gt hg (newOnes_mem.mp hp).2, hNL⟩
    intro p hp
    rcases List.mem_cons.mp hp with rfl | hp
    · exact .head _
    · rcases List.mem_cons.mp hp with rfl | hp
      · exact .tail _ (.head _)
      · rcases List.mem_cons.mp hp with rfl | hp
        · exact .tail _ (.tail _ (.head _))
        · rcases List.mem_append.mp hp with hp | hp
          · exact .tail _ (.tail _ (.tail _ (hsg o2 p hp)))
          · exact .tail _ (.tail _ (.tail _ (newOnes_mem.mp hp).1))
end
section
theorem law_end {w : World} {mean : ExcName → Option Value} {mg mb : Str → Option Value} {d : DefRec} {kwd : List (Str × Expr)} (e : defOf vq (OpenRow.toRowW (OpenLaw.row PySem.Challenge.rw_pb0352_01)).name = some (d, kwd))
    {A₀ : Around} {base h₀ : Heap} {L fa : Addr} {gd : Option (List Code)} {cd : Value} {h : Heap} {gn : Array GenState} {dr : Drawn} {tk : Nat} {os : OsState} {o2 o3 o4 o5 : Obj} {E : Value → Shared → Prop} {Q : Flow → Shared → Prop}
    {aM dM a1 a2 dN lN lD aK k0 k1 : Addr} {q1 q2 : Tok} {oI oN oA oB : Obj} {kvs kN kA kB : List (Str × Value)} {fA fB : Str → Option Int} {nms chg : List Str} {rows : Str → List Str} {itN itD : Array Value} {nN nD nK : Nat} {tl : List (Addr × Obj)} {mm : Str → Option Value}
    (B : Below A₀ base [] h₀) (X : (frag.heap_1 w.params).In h₀) (T : Top vq (looseW vq []) mean mg mb h₀)
    (F : Fr h₀ L h mm) (hlk : Looks mm [(Str.ofString "names", .ref lN), (Str.ofString "modules", .ref aM)])
    (N : News h₀ L h ((L + 1 + 1 + 1 + 1 + 1, o5) :: (L + 1 + 1 + 1 + 1, o4) :: (L + 1 + 1 + 1, o3) :: (L + 1 + 1, o2) :: (aK, listOf #[.ref k0, .ref k1] nK) :: (k1, oB) :: (k0, oA) :: (lD, listOf itD nD) :: (dN, oN) :: (lN, listOf itN nN) :: tl))
    (d2 : o2.data = .cell (some (.ref dN))) (d3 : o3.data = .cell (some (.ref lD))) (d4 : o4.data = .cell (some (.ref aK))) (d5 : o5.data = .cell none)
    (iA : oA.IsDictOf (strKind PROG w) kA) (iB : oB.IsDictOf (strKind PROG w) kB) (lA : (k0 == sysModules) = false) (lB : (k1 == sysModules) = false) (gA : KeyF kA fA) (gB : KeyF kB fB) (hK : KeysOk (nms ++ [Str.ofString "Out", Str.ofString "Q"]) fA fB)
    (MT : ModIn w tl aM dM q1 q2 a1 a2 oI kvs nms rows) (NT : NeedIn w tl dN oN kN nms rows) (hSN : StrsAre itN.toList nms) (hSD : StrsAre itD.toList chg) (hn5 : nms.length ≤ 5)
    (t5 : ∀ p ∈ tl, p.1 ≠ L + 1 + 1 + 1 + 1 + 1) (e1 : @Ne Nat aK (L + 1 + 1 + 1 + 1 + 1)) (e2 : @Ne Nat k1 (L + 1 + 1 + 1 + 1 + 1)) (e3 : @Ne Nat k0 (L + 1 + 1 + 1 + 1 + 1)) (e4 : @Ne Nat lD (L + 1 + 1 + 1 + 1 + 1)) (e5 : @Ne Nat dN (L + 1 + 1 + 1 + 1 + 1)) (e6 : @Ne Nat lN (L + 1 + 1 + 1 + 1 + 1))
    (hE : PassesOwn (model PySem.Challenge.rw_pb0352_01.row.prog w) (ktrTop 302 7 gd d.name d.scope L fa cd (cellsFrom (L + 1) d.scope.names []) []) (envX d.name d.scope L fa cd (cellsFrom (L + 1) d.scope.names [])) E)
    (hQ : ∀ h' tk' mm, Fr h₀ L h' mm → Q (.ret (.bool true)) ⟨h', gn, dr, tk', os⟩) :
    wpAny (model PySem.Challenge.rw_pb0352_01.row.prog w) (ktrTop 302 7 gd d.name d.scope L fa cd (cellsFrom (L + 1) d.scope.names []) []) (execs (d.body.drop 7) (envX d.name d.scope L fa cd (cellsFrom (L + 1) d.scope.names []))) Q E ⟨h, gn, dr, tk, os⟩ := by
  w_top off
  refine (fun (e0 : defOf vq (OpenRow.toRowW (OpenLaw.row PySem.Challenge.rw_pb0352_01)).name = some (_, _)) => ?_) (by rfl)
  obtain ⟨rfl, rfl⟩ := Prod.mk.inj (Option.some.inj (e.symm.trans e0))
  clear e e0
  revert X
  k_fill
  intro X
  have hd : 302 + 200 < recursionLimit := by decide
  have hu : 7 + 2000 < cLine := by decide
  dsimp only [List.drop] at hE ⊢
  have F2 := fr_looks F hlk
  simp only [ovr] at F2
  clear F
  ((try k_fold); repeat' (first | (k_unfold; (try dsimp only)) | ((with_reducible show wpAny _ _ (binaryOp Operator.Add (Value.ref _) (Value.ref _)) _ _ _); (k_dflt (refine' add_strsL ?zzF ?zzN ?zza ?zzb ?zzi ?zzj ?zzc ?zzd ?_; (case zzF => k_asm); (case zzN => k_asm); (case zza => k_mem); (case zzb => k_mem); (case zzi => first | assumption | (repeat constructor)); (case zzj => first | assumption | (repeat constructor)); (case zzc => first | assumption | decide | omega | (simp only [List.length_take]; omega)); (case zzd => first | assumption | decide)); intro D9 h9 its9 F9 N9 l9 S9; (try k_lt l9); (try k_sweep))) | ((with_reducible show wpAny _ _ (eval (Expr.ListComp _ _ _ _) _) _ _ _); ((with_reducible (refine' ListComp_L ?zzk1 ?zzk2 ?zzk3 ?_ ?zzk4)); (case zzk1 => with_unfolding_all rfl); (case zzk2 => rfl); (case zzk3 => decide); (case zzk4 => (intro _; with_unfolding_all rfl)))) | walk1 | (dsimp only; walk1) | (leave1; (try dsimp only)) | fail "no step"))
  refine' CompL.list (its := its9) (n := 0) (fun i ys nx => nx = (D9, listOf its9 0) :: (L + 1 + 1 + 1 + 1 + 1, o5) :: (L + 1 + 1 + 1 + 1, o4) :: (L + 1 + 1 + 1, o3) :: (L + 1 + 1, o2) :: (aK, listOf #[.ref k0, .ref k1] nK) :: (k1, oB) :: (k0, oA) :: (lD, listOf itD nD) :: (dN, oN) :: (lN, listOf itN nN) :: tl ∧ StrsAre ys (((nms ++ [Str.ofString "Out", Str.ofString "Q"]).take i).filter (differ fA fB))) ?hh ?hcell ?hkind ?hx ?hF ?hN ?hJl ?h0 ?hsz ?turn ?done
  case hh => exact rfl
  case hcell => decide
  case hkind => exact rfl
  case hx => exact rfl
  case hF => k_asm
  case hN => exact news_sub (by k_asm) sub_one
  case hJl => exact fun _ _ _ h => h.1 ▸ .head _
  case h0 => exact ⟨rfl, .nil⟩
  case hsz => rw [strs_size S9, List.length_append, sizeLine_eq]; show nms.length + 2 ≤ _; omega
  case turn =>
    rintro Take Skip i v ys nx h tk I oI C oC D m₂ E' hv' ⟨rfl, hys⟩ hI2 hoC hx F1 N1 off skip take
    obtain ⟨x, t, hx', rfl⟩ := strs_getA S9 hv'
    ((try k_fold); repeat' (first | (k_unfold; (try dsimp only)) | ((with_reducible show wpAny _ _ (getMethod (Value.ref _) (Str.ofString "get") _) _ _ _); k_dflt (refine' kdg_method (knd := PySem.strKind _ _) ?zzN ?zzm ?zzd ?_; (case zzN => k_asm); (case zzm => k_mem); (case zzd => k_asm))) | ((with_reducible show wpAny _ _ (call (Value.builtin "dict.get") [Value.ref _, Value.str _ _, Value.int _ _]) _ _ _); k_dflt (refine' get_int ?zzN ?zzm ?zzd ?zzlo ?zzf ?_; (case zzN => k_asm); (case zzm => k_mem); (case zzd => k_asm); (case zzlo => k_asm); (case zzf => k_asm)); intro n9 u9 hu9) | walk1 | (dsimp only; walk1) | (leave1; (try dsimp only)) | fail "no step"))
    · rename _ = (fA x).getD 0 => h1
      rename _ = (fB x).getD 0 => h2
      rename (_ : Int) ≠ _ => h3
      exact Loop.in (take _ _ _ _ (by k_asm) (by k_asm) off ⟨rfl, strs_take hx' (differ_t h1 h2 h3) hys⟩)
    · rename _ = (fA x).getD 0 => h1
      rename _ = (fB x).getD 0 => h2
      rename (_ : Int) = _ => h3
      exact Loop.in (skip _ _ _ (by k_asm) (by k_asm) off ⟨rfl, strs_skip hx' (differ_f h1 h2 h3) hys⟩)
  case done =>
    rintro D h tk ys nx ⟨rfl, hys⟩ hD F1 N1 off
    have nD5 : @Ne Nat D (L + 1 + 1 + 1 + 1 + 1) := fun e => off _ (.tail _ (.head _)) e.symm
    rw [strs_size S9, List.take_length] at hys
    ((try k_fold); repeat' (first | (k_unfold; (try dsimp only)) | ((with_reducible show wpAny _ _ (exec (Stmt.For _ _ _ _ _) _) _ _ _); (refine loopify ?_)) | walk1 | (dsimp only; walk1) | (leave1; (try dsimp only)) | fail "no step"))
    rename Obj => oo5
    rename oo5.data = _ => dd5
    (refine Loop.in ?_; (rename Fr _ _ _ _ => lF'); (with_unfolding_all refine' For_invVF lF' ?k1 ?k2 ?_; (case k1 => exact rfl); (case k2 => exact rfl); k_whole))
    ((try k_fold); repeat' (first | (k_unfold; (try dsimp only)) | ((with_reducible show wpAny _ _ (pyIter (Value.ref _)) (fun it s₂ => LoopAtV _ _ _ _ _ _ _ _ _ it s₂) _ _); refine loopify ?_) | walk1 | (dsimp only; walk1) | (leave1; (try dsimp only)) | fail "no step"))
    rename News _ _ _ _ => N7
    have N8 := news_sub N7 (news' := (D, listOf ys.toArray ys.length) :: (L + 1 + 1 + 1 + 1 + 1, oo5) :: (L + 1 + 1 + 1 + 1, o4) :: (L + 1 + 1 + 1, o3) :: (L + 1 + 1, o2) :: (aK, listOf #[.ref k0, .ref k1] nK) :: (k1, oB) :: (k0, oA) :: (lD, listOf itD nD) :: (dN, oN) :: (lN, listOf itN nN) :: tl) sub_one
    clear N7
    rename Fr _ _ _ _ => F7
    refine Loop.in (for_list (its := itN) (n := nN) (fun i m nx => nx = (D, listOf ys.toArray ys.length) :: (L + 1 + 1 + 1 + 1 + 1, oo5) :: (L + 1 + 1 + 1 + 1, o4) :: (L + 1 + 1 + 1, o3) :: (L + 1 + 1, o2) :: (aK, listOf #[.ref k0, .ref k1] nK) :: (k1, oB) :: (k0, oA) :: (lD, listOf itD nD) :: (dN, oN) :: (lN, listOf itN nN) :: tl ∧ Looks m [(Str.ofString "names", .ref lN), (Str.ofString "modules", .ref aM)]) rfl F7 N8 (by intro _ _ _ h; exact h.1 ▸ .tail _ (.tail _ (.tail _ (.tail _ (.tail _ (.tail _ (.tail _ (.tail _ (.tail _ (.tail _ (.head _))))))))))) ⟨rfl, by (repeat (first | exact looks_nil | refine looks_cons rfl ?_))⟩ ?turn2 ?done2)
    case turn2 =>
      rintro Again i v m1 nx h tk I oI hv ⟨rfl, hlk2⟩ hI hI2 F3 N3 IH
      obtain ⟨x, t, hx, rfl⟩ := strs_getA hSN hv
      have hxn : x ∈ nms := List.mem_of_getElem? hx
      obtain ⟨v, hvx, hvm⟩ := valueAt_of_mem (NT.keys.symm ▸ hxn)
      obtain ⟨aI, itr, nr, rfl, hil, hrS, hr64⟩ := NT.row _ _ hvm
      have hisd := NT.isd
      have M1 := MT.mono (news' := (I, oI) :: (D, listOf ys.toArray ys.length) :: (L + 1 + 1 + 1 + 1 + 1, oo5) :: (L + 1 + 1 + 1 + 1, o4) :: (L + 1 + 1 + 1, o3) :: (L + 1 + 1, o2) :: (aK, listOf #[.ref k0, .ref k1] nK) :: (k1, oB) :: (k0, oA) :: (lD, listOf itD nD) :: (dN, oN) :: (lN, listOf itN nN) :: tl) (by intro p hp; repeat (first | exact hp | refine List.Mem.tail _ ?_))
      have F4 := fr_at F3 hlk2 rfl
      simp only [ovr] at F4
      clear F3 F7 N8 hvm
      have hfit : (rows x).length ≤ sizeLine := by rw [sizeLine_eq]; omega
      ((try k_fold); repeat' (first | (k_unfold; (try dsimp only)) | ((with_reducible show wpAny _ _ (call (Value.ref 347) _) _ _ _); k_dflt (refine' con_use (moved_con ?zzM ?zzhn ?zzhA ?zzhB ?zziA ?zziB ?zzlA ?zzlB ?zzgA ?zzgB) ?zzkB ?zzkF ?zzkX ?zzkN ?zzkT ?zzkK ?zzks ?zzkd ?zzku ?_; (case zzkB => k_asm); (case zzkF => k_asm); (case zzkX => k_asm); (case zzkN => k_asm); (case zzkT => k_asm); (case zzkK => exact rfl); (case zzks => exact fun _ h => h); (case zzM => first | assumption | exact ModIn.mono (by assumption) (fun _ h => .tail _ h) | exact ModIn.mono (by assumption) (fun _ h => .tail _ (.tail _ h)) | exact ModIn.mono (by assumption) (fun _ h => .tail _ (.tail _ (.tail _ h)))); (case zzhn => assumption); (case zzhA => k_mem); (case zzhB => k_mem); (case zziA => assumption); (case zziB => assumption); (case zzlA => assumption); (case zzlB => assumption); (case zzgA => assumption); (case zzgB => assumption); (case zzkd => ktr_room); (case zzku => ktr_units); intro r9 news9 h9 tk9 F9 N9 p9; obtain ⟨D9, its9, e9, r9', n9', hS9, l9⟩ := p9; subst r9' n9'; (try dsimp only); (try k_lt l9); (try k_sweep))) | ((with_reducible show wpAny _ _ (subscriptTail _ _ (Value.ref _) (Value.str _ _)) _ _ _); k_here; k_dflt (refine' kda_item (knd := PySem.strKind _ _) ?zzN ?zzm ?zzd (strKind_is _ _ _ _) ?zzv ?_ ?zzhs ?zzhg; (case zzN => k_asm); (case zzm => k_mem); (case zzd => k_asm); (case zzv => k_asm); (case zzhs => with_unfolding_all rfl); (case zzhg => intro _; with_unfolding_all rfl))) | ((with_reducible show wpAny _ _ (eval (Expr.ListComp _ _ _ _) _) _ _ _); ((with_reducible (refine' ListComp_L ?zzk1 ?zzk2 ?zzk3 ?_ ?zzk4)); (case zzk1 => with_unfolding_all rfl); (case zzk2 => rfl); (case zzk3 => decide); (case zzk4 => (intro _; with_unfolding_all rfl)))) | walk1 | (dsimp only; walk1) | (leave1; (try dsimp only)) | fail "no step"))
      rename_i D8 c8 h8 Fx8 Nx8 l8
      refine' CompL.list (its := itr) (n := nr) (fun i ys2 nx => nx = (D8, listOf its9 c8) :: (I, oI) :: (D, listOf ys.toArray ys.length) :: (L + 1 + 1 + 1 + 1 + 1, oo5) :: (L + 1 + 1 + 1 + 1, o4) :: (L + 1 + 1 + 1, o3) :: (L + 1 + 1, o2) :: (aK, listOf #[.ref k0, .ref k1] nK) :: (k1, oB) :: (k0, oA) :: (lD, listOf itD nD) :: (dN, oN) :: (lN, listOf itN nN) :: tl ∧ StrsAre ys2 (((rows x).take i).filter fun y => ((nms ++ [Str.ofString "Out", Str.ofString "Q"]).filter (differ fA fB)).any (· == y))) ?hh ?hcell ?hkind ?hx ?hF ?hN ?hJl ?h0 ?hsz ?turn3 ?done3
      case hh => exact rfl
      case hcell => decide
      case hkind => exact rfl
      case hx => exact rfl
      case hF => k_asm
      case hN => exact news_sub (by k_asm) sub_one
      case hJl => exact fun _ _ _ h => h.1 ▸ .tail _ (.tail _ (.tail _ (.tail _ (.tail _ (.tail _ (.tail _ (.tail _ (.tail _ (.tail _ (.tail _ (.tail _ (.tail _ (hil)))))))))))))
      case h0 => exact ⟨rfl, .nil⟩
      case hsz => rw [strs_size hrS, sizeLine_eq]; omega
      case turn3 =>
        rintro Take3 Skip3 i3 v3 ys3 nx3 h3 tk3 I3 oI3 C3 oC3 D3 m3 E3 hv3 ⟨rfl, hys3⟩ hI4 hoC3 hx3 F5 N5 off3 skip3 take3
        obtain ⟨y, ty, hy', rfl⟩ := strs_getA hrS hv3
        ((try k_fold); repeat' (first | (k_unfold; (try dsimp only)) | ((with_reducible show wpAny _ _ (compareOp CmpOp.In (Value.str _ _) (Value.ref _)) _ _ _); (k_dflt (first | (refine kda_in (knd := PySem.strKind _ _) (by k_asm) (by k_mem) (by k_asm) (by k_asm) (strKind_is _ _ _ _) _ rfl ?_) | (refine in_listS (by k_asm) (by k_mem) (by k_asm) ?_)))) | walk1 | (dsimp only; walk1) | (leave1; (try dsimp only)) | fail "no step"))
        · have hx9 : (((nms ++ [Str.ofString "Out", Str.ofString "Q"]).filter (differ fA fB)).any fun x => x == y) = true := by assumption
          first | refine Loop.in ?_ | skip
          exact take3 _ _ _ _ (by k_asm) (by k_asm) off3 ⟨rfl, strs_take hy' hx9 hys3⟩
        · have hx9 : (((nms ++ [Str.ofString "Out", Str.ofString "Q"]).filter (differ fA fB)).any fun x => x == y) = false := by assumption
          first | refine Loop.in ?_ | skip
          exact skip3 _ _ _ (by k_asm) (by k_asm) off3 ⟨rfl, strs_skip hy' hx9 hys3⟩
      case done3 =>
        rintro D3 h3 tk3 ys3 nx3 ⟨rfl, hys3⟩ hD3 F5 N5 off3
        rw [strs_size hrS, List.take_length] at hys3
        ((try k_fold); repeat' (first | (k_unfold; (try dsimp only)) | ((with_reducible show wpAny _ _ (compareOp CmpOp.NotEq (Value.ref _) (Value.ref _)) _ _ _); (k_dflt (refine' ne_strsL ?zzN ?zza ?zzb ?zzi ?zzj ?zzu ?_; (case zzN => k_asm); (case zza => k_mem); (case zzb => k_mem); (case zzi => first | assumption | exact .nil); (case zzj => first | assumption | exact .nil); (case zzu => ktr_units)))) | ((with_reducible show LPost _ _ _ _); (dsimp only [LPost])) | walk1 | (dsimp only; walk1) | (leave1; (try dsimp only)) | fail "no step"))
        · exact Loop.in (IH _ _ _ _ (by k_asm) (news_sub (by k_asm) sub_drop2) hI2 ⟨rfl, by (repeat (first | exact looks_nil | refine looks_cons rfl ?_))⟩)
        · rename ¬ _ = _ => hne
          exact absurd (congrArg (fun f => (rows x).filter f) (other_fun hK).symm) hne
    case done2 =>
      rintro m1 nx h tk ⟨rfl, hlk2⟩ F3 N3
      have F4 := fr_looks F3 hlk2
      simp only [ovr] at F4
      clear F3 F7 N8
      have NT2 : NeedIn w ((D, listOf ys.toArray ys.length) :: (L + 1 + 1 + 1 + 1 + 1, oo5) :: (L + 1 + 1 + 1 + 1, o4) :: (L + 1 + 1 + 1, o3) :: (L + 1 + 1, o2) :: (aK, listOf #[.ref k0, .ref k1] nK) :: (k1, oB) :: (k0, oA) :: (lD, listOf itD nD) :: (dN, oN) :: (lN, listOf itN nN) :: tl) dN oN kN nms rows := ⟨.tail _ (.tail _ (.tail _ (.tail _ (.tail _ (.tail _ (.tail _ (.tail _ (.tail _ (.head _))))))))), NT.isd, NT.lo, NT.keys, fun nm v hm => by
        obtain ⟨aI, itr, nr, q1, q2, q3⟩ := NT.row _ _ hm
        exact ⟨aI, itr, nr, q1, .tail _ (.tail _ (.tail _ (.tail _ (.tail _ (.tail _ (.tail _ (.tail _ (.tail _ (.tail _ (.tail _ (q2))))))))))), q3⟩⟩
      ((try k_fold); repeat' (first | (k_unfold; (try dsimp only)) | ((with_reducible show wpAny _ _ (call (Value.ref 373) _) _ _ _); refine loopify ?_) | ((with_reducible show wpAny _ _ (exec (Stmt.Assign [Expr.Name _ _] (Expr.ListComp _ _ _ _) _) _) _ _ _); ((with_reducible (refine' Assign_ListComp_L ?zzk0 ?zzk1 ?zzk2 ?zzk3 ?_ ?zzk4)); (case zzk0 => with_unfolding_all rfl); (case zzk1 => with_unfolding_all rfl); (case zzk2 => rfl); (case zzk3 => decide); (case zzk4 => (intro _; with_unfolding_all rfl)))) | walk1 | (dsimp only; walk1) | (leave1; (try dsimp only)) | fail "no step"))
      refine Loop.in ?_
      refine' con_use (ordered_con ?hN hSN NT2 MT.nodup MT.few) ?kB ?kF ?kX ?kN ?kT ?kK ?ks ?kd ?ku ?_
      case kB => k_asm
      case kF => k_asm
      case kX => k_asm
      case kN => k_asm
      case kT => k_asm
      case kK => exact rfl
      case ks => exact fun _ h => h
      case hN => exact .tail _ (.tail _ (.tail _ (.tail _ (.tail _ (.tail _ (.tail _ (.tail _ (.tail _ (.tail _ (.head _))))))))))
      case kd => ktr_room
      case ku => ktr_units
      clear NT2
      intro r9 news9 h9 tk9 F9 N9 p9
      obtain ⟨D9, its9, e9, out, r9', n9', hSo, hP, hpo, l9⟩ := p9
      subst r9' n9'
      (try dsimp only)
      (try k_sweep)
      ((try k_fold); repeat' (first | (k_unfold; (try dsimp only)) | walk1 | (dsimp only; walk1) | (leave1; (try dsimp only)) | fail "no step"))
      have hol := hP.length
      refine' CompL.listA (its := its9) (n := e9) (fun i ys2 nx => nx = (D9, listOf its9 e9) :: (D, listOf ys.toArray ys.length) :: (L + 1 + 1 + 1 + 1 + 1, oo5) :: (L + 1 + 1 + 1 + 1, o4) :: (L + 1 + 1 + 1, o3) :: (L + 1 + 1, o2) :: (aK, listOf #[.ref k0, .ref k1] nK) :: (k1, oB) :: (k0, oA) :: (lD, listOf itD nD) :: (dN, oN) :: (lN, listOf itN nN) :: tl ∧ StrsAre ys2 ((out.take i).filter (dueL (nms ++ [Str.ofString "Out", Str.ofString "Q"]) chg rows fA fB))) ?hLe ?hy ?hp ?hh ?hcell ?hkind ?hx ?hF ?hN ?hJl ?h0 ?hsz ?turn4 ?done4
      case hLe => exact rfl
      case hy => exact rfl
      case hp => exact rfl
      case hh => exact rfl
      case hcell => decide
      case hkind => exact rfl
      case hx => exact rfl
      case hF => k_asm
      case hN => k_asm
      case hJl => exact fun _ _ _ h => h.1 ▸ .head _
      case h0 => exact ⟨rfl, .nil⟩
      case hsz => rw [strs_size hSo, sizeLine_eq]; omega
      case turn4 =>
        rintro Take4 Skip4 i4 v4 ys4 nx4 h4 tk4 I4 oI4 C4 oC4 D4 m4 E4 hv4 ⟨rfl, hys4⟩ hI4 hoC4 hx4 F5 N5 off4 skip4 take4
        obtain ⟨x, t, hx', rfl⟩ := strs_getA hSo hv4
        obtain ⟨v, hvx, hvm⟩ := valueAt_of_mem (NT.keys.symm ▸ hP.mem x (List.mem_of_getElem? hx'))
        obtain ⟨aI, itr, nr, rfl, hil, hrS, hr64⟩ := NT.row _ _ hvm
        have hisd := NT.isd
        clear hvm
        ((try k_fold); repeat' (first | (k_unfold; (try dsimp only)) | ((with_reducible show wpAny _ _ (subscriptTail _ _ (Value.ref _) (Value.str _ _)) _ _ _); k_here; k_dflt (refine' kda_item (knd := PySem.strKind _ _) ?zzN ?zzm ?zzd (strKind_is _ _ _ _) ?zzv ?_ ?zzhs ?zzhg; (case zzN => k_asm); (case zzm => k_mem); (case zzd => k_asm); (case zzv => k_asm); (case zzhs => with_unfolding_all rfl); (case zzhg => intro _; with_unfolding_all rfl))) | ((with_reducible show wpAny _ _ (eval (Expr.ListComp _ _ _ _) _) _ _ _); ((with_reducible (refine' ListComp_L ?zzk1 ?zzk2 ?zzk3 ?_ ?zzk4)); (case zzk1 => with_unfolding_all rfl); (case zzk2 => rfl); (case zzk3 => decide); (case zzk4 => (intro _; with_unfolding_all rfl)))) | ((with_reducible show wpAny _ _ (compareOp CmpOp.In (Value.str _ _) (Value.ref _)) _ _ _); (k_dflt (first | (refine kda_in (knd := PySem.strKind _ _) (by k_asm) (by k_mem) (by k_asm) (by k_asm) (strKind_is _ _ _ _) _ rfl ?_) | (refine in_listS (by k_asm) (by k_mem) (by k_asm) ?_)))) | walk1 | (dsimp only; walk1) | (leave1; (try dsimp only)) | fail "no step"))
        · have hx9 : (chg.any fun y => y == x) = true := by assumption
          exact Loop.in (take4 _ _ _ _ (by k_asm) (by k_asm) off4 ⟨rfl, strs_take hx' (dueL_1 hx9) hys4⟩)
        refine' CompL.list (its := itr) (n := nr) (fun i ys2 nx => nx = (I4, oI4) :: (C4, oC4) :: (D4, PyProof.Rows.LCg.lst ys4) :: (D9, listOf its9 e9) :: (D, listOf ys.toArray ys.length) :: (L + 1 + 1 + 1 + 1 + 1, oo5) :: (L + 1 + 1 + 1 + 1, o4) :: (L + 1 + 1 + 1, o3) :: (L + 1 + 1, o2) :: (aK, listOf #[.ref k0, .ref k1] nK) :: (k1, oB) :: (k0, oA) :: (lD, listOf itD nD) :: (dN, oN) :: (lN, listOf itN nN) :: tl ∧ StrsAre ys2 (((rows x).take i).filter fun y => ((nms ++ [Str.ofString "Out", Str.ofString "Q"]).filter (differ fA fB)).any (· == y))) ?hh ?hcell ?hkind ?hx ?hF ?hN ?hJl ?h0 ?hsz ?turn5 ?done5
        case hh => exact rfl
        case hcell => decide
        case hkind => exact rfl
        case hx => exact rfl
        case hF => k_asm
        case hN => k_asm
        case hJl => exact fun _ _ _ h => h.1 ▸ .tail _ (.tail _ (.tail _ (.tail _ (.tail _ (.tail _ (.tail _ (.tail _ (.tail _ (.tail _ (.tail _ (.tail _ (.tail _ (.tail _ (.tail _ (hil)))))))))))))))
        case h0 => exact ⟨rfl, .nil⟩
        case hsz => rw [strs_size hrS, sizeLine_eq]; omega
        case turn5 =>
          rintro Take3 Skip3 i3 v3 ys3 nx3 h3 tk3 I3 oI3 C3 oC3 D3 m3 E3 hv3 ⟨rfl, hys3⟩ hI5 hoC3 hx3 F6 N6 off3 skip3 take3
          obtain ⟨y, ty, hy', rfl⟩ := strs_getA hrS hv3
          clear skip4 take4
          ((try k_fold); repeat' (first | (k_unfold; (try dsimp only)) | ((with_reducible show wpAny _ _ (compareOp CmpOp.In (Value.str _ _) (Value.ref _)) _ _ _); (k_dflt (first | (refine kda_in (knd := PySem.strKind _ _) (by k_asm) (by k_mem) (by k_asm) (by k_asm) (strKind_is _ _ _ _) _ rfl ?_) | (refine in_listS (by k_asm) (by k_mem) (by k_asm) ?_)))) | walk1 | (dsimp only; walk1) | (leave1; (try dsimp only)) | fail "no step"))
          · have hx9 : (((nms ++ [Str.ofString "Out", Str.ofString "Q"]).filter (differ fA fB)).any fun x => x == y) = true := by assumption
            first | refine Loop.in ?_ | skip
            exact take3 _ _ _ _ (by k_asm) (by k_asm) off3 ⟨rfl, strs_take hy' hx9 hys3⟩
          · have hx9 : (((nms ++ [Str.ofString "Out", Str.ofString "Q"]).filter (differ fA fB)).any fun x => x == y) = false := by assumption
            first | refine Loop.in ?_ | skip
            exact skip3 _ _ _ (by k_asm) (by k_asm) off3 ⟨rfl, strs_skip hy' hx9 hys3⟩
        case done5 =>
          rintro D3 h3 tk3 ys3 nx3 ⟨rfl, hys3⟩ hD3 F6 N6 off3
          rw [strs_size hrS, List.take_length] at hys3
          ((try k_fold); repeat' (first | (k_unfold; (try dsimp only)) | ((with_reducible show wpAny _ _ (compareOp CmpOp.NotEq (Value.ref _) (Value.ref _)) _ _ _); (k_dflt (refine' ne_strsL ?zzN ?zza ?zzb ?zzi ?zzj ?zzu ?_; (case zzN => k_asm); (case zza => k_mem); (case zzb => k_mem); (case zzi => first | assumption | exact .nil); (case zzj => first | assumption | exact .nil); (case zzu => ktr_units)))) | walk1 | (dsimp only; walk1) | (leave1; (try dsimp only)) | fail "no step"))
          · have hy9 : (chg.any fun y => y == x) = false := by assumption
            rename decide _ = true => hx9
            exact Loop.in (skip4 _ _ _ (by k_asm) (news_sub (by k_asm) sub_drop2) off4 ⟨rfl, strs_skip hx' (dueL_3 hy9 (of_decide_eq_true hx9)) hys4⟩)
          · rename decide _ = false => hx9
            exact Loop.in (take4 _ _ _ _ (by k_asm) (news_sub (by k_asm) sub_drop2) off4 ⟨rfl, strs_take hx' (dueL_2 (of_decide_eq_false hx9)) hys4⟩)
      case done4 =>
        rintro D4 h4 tk4 ys4 nx4 ⟨rfl, hys4⟩ hD4 F5 N5 off4
        rw [strs_size hSo, List.take_length] at hys4
        ((try k_fold); repeat' (first | (k_unfold; (try dsimp only)) | ((with_reducible show wpAny _ _ (call (Value.ref 354) _) _ _ _); refine loopify ?_) | walk1 | (dsimp only; walk1) | (leave1; (try dsimp only)) | fail "no step"))
        have M1 := MT.mono (news' := (D4, PyProof.Rows.LCg.lst ys4) :: (D9, listOf its9 e9) :: (D, listOf ys.toArray ys.length) :: (L + 1 + 1 + 1 + 1 + 1, oo5) :: (L + 1 + 1 + 1 + 1, o4) :: (L + 1 + 1 + 1, o3) :: (L + 1 + 1, o2) :: (aK, listOf #[.ref k0, .ref k1] nK) :: (k1, oB) :: (k0, oA) :: (lD, listOf itD nD) :: (dN, oN) :: (lN, listOf itN nN) :: tl) (fun p hp => .tail _ (.tail _ (.tail _ (.tail _ (.tail _ (.tail _ (.tail _ (.tail _ (.tail _ (.tail _ (.tail _ (.tail _ (.tail _ (hp))))))))))))))
        refine Loop.in ?_
        refine' con_use (plan_con M1 ?hA ?hB iA iB lA lB gA gB ?hC hSD) ?kB ?kF ?kX ?kN ?kT ?kK ?ks ?kd ?ku ?_
        case kB => k_asm
        case kF => k_asm
        case kX => k_asm
        case kN => k_asm
        case kT => k_asm
        case kK => exact rfl
        case ks => exact fun _ h => h
        case hA => exact .tail _ (.tail _ (.tail _ (.tail _ (.tail _ (.tail _ (.tail _ (.tail _ (.tail _ (.head _)))))))))
        case hB => exact .tail _ (.tail _ (.tail _ (.tail _ (.tail _ (.tail _ (.tail _ (.tail _ (.head _))))))))
        case hC => exact .tail _ (.tail _ (.tail _ (.tail _ (.tail _ (.tail _ (.tail _ (.tail _ (.tail _ (.tail _ (.head _))))))))))
        case kd => ktr_room
        case ku => ktr_units
        clear M1
        intro r9 news9 h9 tk9 F9 N9 p9
        obtain ⟨D6, its6, e6, out2, r9', n9', hS6, hP2, hpo2, l6⟩ := p9
        subst r9' n9'
        (try dsimp only)
        (try k_sweep)
        rw [picks_one hP2 hpo2 hP hpo, due_fun hK] at hS6
        ((try k_fold); repeat' (first | (k_unfold; (try dsimp only)) | ((with_reducible show wpAny _ _ (compareOp CmpOp.Eq (Value.ref _) (Value.ref _)) _ _ _); k_dflt (refine' eq_strsL ?zzN ?zza ?zzb ?zzi ?zzj ?zzu ?_; (case zzN => k_asm); (case zza => k_mem); (case zzb => k_mem); (case zzi => assumption); (case zzj => assumption); (case zzu => ktr_units))) | walk1 | (dsimp only; walk1) | (leave1; (try dsimp only)) | fail "no step"))
        rw [decide_eq_true rfl]
        exact hQ _ _ _ (by k_asm)
end
section
theorem sub_end {A B C D5 D4 D3 D2 D1 H I X Y Z : Addr × Obj} {l : List (Addr × Obj)} (hX : X ∈ l) (hY : Y ∈ l) (hZ : Z ∈ l) : ∀ p ∈ D5 :: D4 :: D3 :: D2 :: A :: B :: C :: X :: Y :: Z :: l, p ∈ I :: A :: B :: C :: H :: D5 :: D4 :: D3 :: D2 :: D1 :: l := by
  intro p hp
  simp only [List.mem_cons] at hp ⊢
  rcases hp with h | h | h | h | h | h | h | h | h | h | h
  all_goals first | (subst h; simp only [hX, hY, hZ, true_or, or_true]) | simp only [h, true_or, or_true]
theorem off_keys {I : Addr} {l l' : List (Addr × Obj)} (h : ∀ p ∈ l, p.1 ≠ I) (e : l.map (·.1) = l'.map (·.1)) : ∀ p ∈ l', p.1 ≠ I := fun p hp he => by
  have hm : p.1 ∈ l.map (·.1) := e ▸ List.mem_map.mpr ⟨p, hp, rfl⟩
  obtain ⟨q, hq, e2⟩ := List.mem_map.mp hm
  exact h q hq (e2.trans he)
theorem stored_le {kvs : List (Str × Value)} {x : Str} {v : Value} {i : Nat} (h : kvs.length ≤ i) : (stored kvs x v).length ≤ i + 1 := Nat.le_trans (stored_length_le kvs x v) (Nat.succ_le_succ h)
theorem law_keys {w : World} {mean : ExcName → Option Value} {mg mb : Str → Option Value} {d : DefRec} {kwd : List (Str × Expr)} (e : defOf vq (OpenRow.toRowW (OpenLaw.row PySem.Challenge.rw_pb0352_01)).name = some (d, kwd))
    {A₀ : Around} {base h₀ : Heap} {L fa : Addr} {gd : Option (List Code)} {cd : Value} {h : Heap} {gn : Array GenState} {dr : Drawn} {tk : Nat} {os : OsState} {o1 o2 o3 o4 o5 oH : Obj} {E : Value → Shared → Prop} {Q : Flow → Shared → Prop}
    {aM dM a1 a2 dN lN lD aH aC : Addr} {q1 q2 : Tok} {oI oN : Obj} {kvs kN : List (Str × Value)} {nms chg : List Str} {rows : Str → List Str} {itN itD : Array Value} {nN nD : Nat} {tl : List (Addr × Obj)} {mm : Str → Option Value} {vs : List Value} {ins : List Int}
    (B : Below A₀ base [] h₀) (X : (frag.heap_1 w.params).In h₀) (T : Top vq (looseW vq []) mean mg mb h₀)
    (F : Fr h₀ L h mm) (hlk : Looks mm [(Str.ofString "names", .ref lN), (Str.ofString "modules", .ref aM)])
    (N : News h₀ L h ((aH, oH) :: (L + 1 + 1 + 1 + 1 + 1, o5) :: (L + 1 + 1 + 1 + 1, o4) :: (L + 1 + 1 + 1, o3) :: (L + 1 + 1, o2) :: (L + 1, o1) :: tl))
    (d1 : o1.data = .cell (some (.ref aH))) (d2 : o2.data = .cell (some (.ref dN))) (d3 : o3.data = .cell (some (.ref lD))) (d4 : o4.data = .cell none) (d5 : o5.data = .cell none)
    (hI : IntsAre vs ins) (hl : ins.length ≤ 63) (hH : HandIs ins aC oH) (tC : (aC, listOf vs.toArray 0) ∈ tl) (tA : ∀ p ∈ tl, p.1 ≠ aH)
    (MT : ModIn w tl aM dM q1 q2 a1 a2 oI kvs nms rows) (NT : NeedIn w tl dN oN kN nms rows) (hSN : StrsAre itN.toList nms) (hSD : StrsAre itD.toList chg) (hn5 : nms.length ≤ 5)
    (tL : (lN, listOf itN nN) ∈ tl) (tD : (lD, listOf itD nD) ∈ tl)
    (t55 : ∀ p ∈ tl, p.1 ≠ L + 1 + 1 + 1 + 1 + 1) (t54 : ∀ p ∈ tl, p.1 ≠ L + 1 + 1 + 1 + 1) (lA5 : @LT.lt Nat _ (L + 1 + 1 + 1 + 1 + 1) aH) (lA4 : @LT.lt Nat _ (L + 1 + 1 + 1 + 1) aH)
    (hE : PassesOwn (model PySem.Challenge.rw_pb0352_01.row.prog w) (ktrTop 302 7 gd d.name d.scope L fa cd (cellsFrom (L + 1) d.scope.names []) []) (envX d.name d.scope L fa cd (cellsFrom (L + 1) d.scope.names [])) E)
    (hQ : ∀ h' tk' mm, Fr h₀ L h' mm → Q (.ret (.bool true)) ⟨h', gn, dr, tk', os⟩) :
    wpAny (model PySem.Challenge.rw_pb0352_01.row.prog w) (ktrTop 302 7 gd d.name d.scope L fa cd (cellsFrom (L + 1) d.scope.names []) []) (execs (d.body.drop 5) (envX d.name d.scope L fa cd (cellsFrom (L + 1) d.scope.names []))) Q E ⟨h, gn, dr, tk, os⟩ := by
  w_top off
  refine (fun (e0 : defOf vq (OpenRow.toRowW (OpenLaw.row PySem.Challenge.rw_pb0352_01)).name = some (_, _)) => ?_) (by rfl)
  obtain ⟨rfl, rfl⟩ := Prod.mk.inj (Option.some.inj (e.symm.trans e0))
  clear e0
  have X0 := X
  revert X
  k_fill
  intro X
  have hd : 302 + 200 < recursionLimit := by decide
  have hu : 7 + 2000 < cLine := by decide
  have hE0 := hE
  dsimp only [List.drop] at hE ⊢
  refine stmt_cut (fun s' => Ex10 fun h' tk' k0 k1 aK oA oB o4 nK mm => And12 (s' = ⟨h', gn, dr, tk', os⟩) (Fr h₀ L h' mm) (Looks mm [(Str.ofString "names", .ref lN), (Str.ofString "modules", .ref aM)]) (News h₀ L h' ((aK, listOf #[.ref k0, .ref k1] nK) :: (k1, oB) :: (k0, oA) :: (aH, oH) :: (L + 1 + 1 + 1 + 1 + 1, o5) :: (L + 1 + 1 + 1 + 1, o4) :: (L + 1 + 1 + 1, o3) :: (L + 1 + 1, o2) :: (L + 1, o1) :: tl)) (o4.data = .cell (some (.ref aK))) (oA.IsDictOf (strKind PROG w) []) (oB.IsDictOf (strKind PROG w) []) ((k0 == sysModules) = false) ((k1 == sysModules) = false) ((@LT.lt Nat _ aH k0 ∧ @LT.lt Nat _ (L + 1 + 1 + 1 + 1 + 1) k0 ∧ @LT.lt Nat _ (L + 1 + 1 + 1 + 1) k0 ∧ @LT.lt Nat _ (L + 1 + 1 + 1) k0 ∧ @LT.lt Nat _ (L + 1 + 1) k0 ∧ @LT.lt Nat _ (L + 1) k0 ∧ AllLt k0 tl)) ((@LT.lt Nat _ k0 k1 ∧ @LT.lt Nat _ aH k1 ∧ @LT.lt Nat _ (L + 1 + 1 + 1 + 1 + 1) k1 ∧ @LT.lt Nat _ (L + 1 + 1 + 1 + 1) k1 ∧ @LT.lt Nat _ (L + 1 + 1 + 1) k1 ∧ @LT.lt Nat _ (L + 1 + 1) k1 ∧ @LT.lt Nat _ (L + 1) k1 ∧ AllLt k1 tl)) ((@LT.lt Nat _ k1 aK ∧ @LT.lt Nat _ k0 aK ∧ @LT.lt Nat _ aH aK ∧ @LT.lt Nat _ (L + 1 + 1 + 1 + 1 + 1) aK ∧ @LT.lt Nat _ (L + 1 + 1 + 1 + 1) aK ∧ @LT.lt Nat _ (L + 1 + 1 + 1) aK ∧ @LT.lt Nat _ (L + 1 + 1) aK ∧ @LT.lt Nat _ (L + 1) aK ∧ AllLt aK tl))) ?_ ?_
  · have F2 := fr_looks F hlk
    simp only [ovr] at F2
    clear F
    ((try k_fold); repeat' (first | (k_unfold; (try dsimp only)) | walk1 | (dsimp only; walk1) | (leave1; (try dsimp only)) | fail "no step"))
    exact Loop.in ⟨by trivial, _, _, _, _, _, _, _, _, _, _, rfl, by k_asm, by (repeat (first | exact looks_nil | refine looks_cons rfl ?_)), by k_asm, by assumption, by assumption, by assumption, by assumption, by assumption, by assumption, by assumption, by assumption⟩
  rintro s' ⟨h1, tk1, k0, k1, aK, oA, oB, o4, nK, mm, rfl, F1, hlk1, N1, d4, iA, iB, lA, lB, l0, l01, l1K⟩
  have F2 := fr_looks F1 hlk1
  simp only [ovr] at F2
  clear F1 F N
  ((try k_fold); repeat' (first | (k_unfold; (try dsimp only)) | ((with_reducible show wpAny _ _ (exec (Stmt.For _ _ _ _ _) _) _ _ _); (refine loopify ?_)) | walk1 | (dsimp only; walk1) | (leave1; (try dsimp only)) | fail "no step"))
  (refine Loop.in ?_; (rename Fr _ _ _ _ => lF'); (with_unfolding_all refine' For_invVF lF' ?k1 ?k2 ?_; (case k1 => exact rfl); (case k2 => exact rfl); k_whole))
  ((try k_fold); repeat' (first | (k_unfold; (try dsimp only)) | ((with_reducible show wpAny _ _ (binaryOp Operator.Add (Value.ref _) (Value.ref _)) _ _ _); (k_dflt (refine' add_strsL ?zzF ?zzN ?zza ?zzb ?zzi ?zzj ?zzc ?zzd ?_; (case zzF => k_asm); (case zzN => k_asm); (case zza => k_mem); (case zzb => k_mem); (case zzi => first | assumption | (repeat constructor)); (case zzj => first | assumption | (repeat constructor)); (case zzc => first | assumption | decide | omega | (simp only [List.length_take]; omega)); (case zzd => first | assumption | decide)); intro D9 h9 its9 F9 N9 l9 S9; (try k_lt l9); (try k_sweep))) | ((with_reducible show wpAny _ _ (pyIter (Value.ref _)) (fun it s₂ => LoopAtV _ _ _ _ _ _ _ _ _ it s₂) _ _); refine loopify ?_) | walk1 | (dsimp only; walk1) | (leave1; (try dsimp only)) | fail "no step"))
  rename News _ _ _ _ => N7
  rename Fr _ _ _ _ => F7
  have N8 := news_sub N7 (news' := (D9, listOf its9 0) :: (aK, listOf #[.ref k0, .ref k1] nK) :: (k1, oB) :: (k0, oA) :: (aH, oH) :: (L + 1 + 1 + 1 + 1 + 1, o5) :: (L + 1 + 1 + 1 + 1, o4) :: (L + 1 + 1 + 1, o3) :: (L + 1 + 1, o2) :: (L + 1, o1) :: tl) sub_one
  clear N7
  refine Loop.in (for_list (its := its9) (n := 0) (fun i m nx => Ex7 fun oH oA oB kA kB fA fB => And10 (nx = (D9, listOf its9 0) :: (aK, listOf #[.ref k0, .ref k1] nK) :: (k1, oB) :: (k0, oA) :: (aH, oH) :: (L + 1 + 1 + 1 + 1 + 1, o5) :: (L + 1 + 1 + 1 + 1, o4) :: (L + 1 + 1 + 1, o3) :: (L + 1 + 1, o2) :: (L + 1, o1) :: tl) (HandIs ins aC oH) (oA.IsDictOf (strKind PROG w) kA) (oB.IsDictOf (strKind PROG w) kB) (KeyF kA fA) (KeyF kB fB) (KeysOk (nms ++ [Str.ofString "Out", Str.ofString "Q"]) fA fB) (kA.length ≤ i) (kB.length ≤ i) (Looks m [(Str.ofString "names", .ref lN), (Str.ofString "modules", .ref aM)])) rfl F7 N8 (by rintro _ _ _ ⟨_, _, _, _, _, _, _, h, -⟩; exact h ▸ .head _) ⟨_, _, _, _, _, _, _, rfl, hH, iA, iB, keyF_nil, keyF_nil, keysOk_nil, Nat.le_refl _, Nat.le_refl _, by (repeat (first | exact looks_nil | refine looks_cons rfl ?_))⟩ ?turn ?done)
  case turn =>
    rintro Again i v m1 nx h tk I oI hv ⟨oH2, oA2, oB2, kA, kB, fA, fB, rfl, hH2, iA2, iB2, gA, gB, hK, zA, zB, hlk2⟩ hI2 hI3 F3 N3 IH
    obtain ⟨x, t, hx, rfl⟩ := strs_getA S9 hv
    have hxm := List.mem_of_getElem? hx
    have hi : i < its9.size := by
      rcases Nat.lt_or_ge i its9.size with h | h
      · exact h
      · rw [Array.getElem?_eq_none h] at hv; cases hv
    rw [strs_size S9, List.length_append] at hi
    have F4 := fr_at F3 hlk2 rfl
    simp only [ovr] at F4
    clear F3 F7 N8
    have nIA : @Ne Nat I aH := (hI3 _ (.tail _ (.tail _ (.tail _ (.tail _ (.head _)))))).symm
    have nI0 : @Ne Nat I k0 := (hI3 _ (.tail _ (.tail _ (.tail _ (.head _))))).symm
    have nI1 : @Ne Nat I k1 := (hI3 _ (.tail _ (.tail _ (.head _)))).symm
    have nDA : @Ne Nat D9 aH := Nat.ne_of_gt l9.2.2.2.2.1
    have nD0 : @Ne Nat D9 k0 := Nat.ne_of_gt l9.2.2.2.1
    have nD1 : @Ne Nat D9 k1 := Nat.ne_of_gt l9.2.2.1
    have nKA : @Ne Nat aK aH := Nat.ne_of_gt l1K.2.2.1
    have nK0 : @Ne Nat aK k0 := Nat.ne_of_gt l1K.2.1
    have nK1 : @Ne Nat aK k1 := Nat.ne_of_gt l1K.1
    have n1A : @Ne Nat k1 aH := Nat.ne_of_gt l01.2.1
    have n10 : @Ne Nat k1 k0 := Nat.ne_of_gt l01.1
    have n0A : @Ne Nat k0 aH := Nat.ne_of_gt l0.1
    have zA2 : kA.length ≤ sizeLine := by rw [sizeLine_eq]; have : [Str.ofString "Out", Str.ofString "Q"].length = 2 := rfl; omega
    have zB2 : kB.length ≤ sizeLine := by rw [sizeLine_eq]; have : [Str.ofString "Out", Str.ofString "Q"].length = 2 := rfl; omega
    refine stmt_cut (fun s' => Ex6 fun h' tk' d9 t9 oH2 mm => And5 (s' = ⟨h', gn, dr, tk', os⟩) (Fr h₀ L h' mm) (Looks mm [(Str.ofString "form", .int d9 t9), (Str.ofString "name", .str x t), (Str.ofString "names", .ref lN), (Str.ofString "modules", .ref aM)]) (News h₀ L h' ((I, oI) :: (D9, listOf its9 0) :: (aK, listOf #[.ref k0, .ref k1] nK) :: (k1, oB2) :: (k0, oA2) :: (aH, oH2) :: (L + 1 + 1 + 1 + 1 + 1, o5) :: (L + 1 + 1 + 1 + 1, o4) :: (L + 1 + 1 + 1, o3) :: (L + 1 + 1, o2) :: (L + 1, o1) :: tl)) (HandIs ins aC oH2)) ?_ ?_
    · ((try k_fold); repeat' (first | (k_unfold; (try dsimp only)) | ((with_reducible show wpAny _ _ (call (Value.ref 361) _) _ _ _); refine loopify ?_) | walk1 | (dsimp only; walk1) | (leave1; (try dsimp only)) | fail "no step"))
      (refine Loop.in ?_; refine' con_useU (d := aH) ?zzU (pick_con ?zzhg ?zzhC ?zzhI ?zzhl ?zzhH ?zzk1 ?zzk6) ?zzkB ?zzkF ?zzkX ?zzkN ?zzkT ?zzkK ?zzkd ?zzku ?_; (case zzkB => k_asm); (case zzkF => k_asm); (case zzkX => k_asm); (case zzkN => k_asm); (case zzkT => k_asm); (case zzkK => exact rfl); (case zzU => k_updF); (case zzhg => ktr_unf); (case zzhI => assumption); (case zzhC => (intro o9; (try dsimp only); k_mem)); (case zzhl => assumption); (case zzhH => assumption); (case zzk1 => first | decide | omega); (case zzk6 => first | decide | omega); (case zzkd => ktr_room); (case zzku => ktr_units); intro r9 news9 h9 tk9 F9 N9 p9; obtain ⟨d9, o9, t9, e9, a9, b9, c9, n9⟩ := p9; subst e9 n9; (try dsimp only at N9); (try dsimp only); (try k_sweep))
      ((try k_fold); repeat' (first | (k_unfold; (try dsimp only)) | walk1 | (dsimp only; walk1) | (leave1; (try dsimp only)) | fail "no step"))
      exact Loop.in ⟨by trivial, _, _, _, _, _, _, rfl, by k_asm, by (repeat (first | exact looks_nil | refine looks_cons rfl ?_)), by k_asm, c9⟩
    rintro s' ⟨h2, tk2, d9, t9, oH3, mm2, rfl, F5, hlk3, N5, hH3⟩
    clear F4 N3 hH2
    have F6 := fr_looks F5 hlk3
    simp only [ovr] at F6
    clear F5
    refine stmt_cut (fun s' => Ex6 fun h' tk' oA2 kA2 fA2 mm => And8 (s' = ⟨h', gn, dr, tk', os⟩) (Fr h₀ L h' mm) (Looks mm [(Str.ofString "form", .int d9 t9), (Str.ofString "name", .str x t), (Str.ofString "names", .ref lN), (Str.ofString "modules", .ref aM)]) (News h₀ L h' ((I, oI) :: (D9, listOf its9 0) :: (aK, listOf #[.ref k0, .ref k1] nK) :: (k1, oB2) :: (k0, oA2) :: (aH, oH3) :: (L + 1 + 1 + 1 + 1 + 1, o5) :: (L + 1 + 1 + 1 + 1, o4) :: (L + 1 + 1 + 1, o3) :: (L + 1 + 1, o2) :: (L + 1, o1) :: tl)) (oA2.IsDictOf (strKind PROG w) kA2) (KeyF kA2 fA2) (KeysOk (nms ++ [Str.ofString "Out", Str.ofString "Q"]) fA2 fB) (kA2.length ≤ i + 1)) ?_ ?_
    · ((try k_fold); repeat' (first | (k_unfold; (try dsimp only)) | ((with_reducible show wpAny _ _ (setItem (Value.ref _) (Value.str _ _) _) _ _ _); k_dflt (refine' kda_set (knd := PySem.strKind _ _) ?zzF ?zzN ?zzU ?zzd (strKind_is _ _ _ _) ?zzz ?_; (case zzF => k_asm); (case zzN => k_asm); (case zzU => k_updF); (case zzd => k_asm); (case zzz => k_asm)); intro h9 o9 F9 N9 hd9; (try dsimp only at N9); (try k_sweep)) | walk1 | (dsimp only; walk1) | (leave1; (try dsimp only)) | fail "no step"))
      · exact Loop.in ⟨by trivial, _, _, _, _, _, _, rfl, by k_asm, by (repeat (first | exact looks_nil | refine looks_cons rfl ?_)), by k_asm, hd9, keyF_stored gA, keysOk_A hK hxm, stored_le zA⟩
      · exact Loop.in ⟨by trivial, _, _, _, _, _, _, rfl, by k_asm, by (repeat (first | exact looks_nil | refine looks_cons rfl ?_)), by k_asm, iA2, gA, hK, Nat.le_succ_of_le zA⟩
    rintro s' ⟨h3, tk3, oA3, kA3, fA3, mm3, rfl, F7, hlk4, N7, iA3, gA3, hK3, zA3⟩
    clear F6 N5 iA2 gA hK zA
    have F8 := fr_looks F7 hlk4
    simp only [ovr] at F8
    clear F7
    ((try k_fold); repeat' (first | (k_unfold; (try dsimp only)) | ((with_reducible show wpAny _ _ (setItem (Value.ref _) (Value.str _ _) _) _ _ _); k_dflt (refine' kda_set (knd := PySem.strKind _ _) ?zzF ?zzN ?zzU ?zzd (strKind_is _ _ _ _) ?zzz ?_; (case zzF => k_asm); (case zzN => k_asm); (case zzU => k_updF); (case zzd => k_asm); (case zzz => k_asm)); intro h9 o9 F9 N9 hd9; (try dsimp only at N9); (try k_sweep)) | ((with_reducible show LPost _ _ _ _); (dsimp only [LPost])) | walk1 | (dsimp only; walk1) | (leave1; (try dsimp only)) | fail "no step"))
    · exact Loop.in (IH _ _ _ _ (by k_asm) (by k_asm) (by exact off_keys hI3 rfl) ⟨_, _, _, _, _, _, _, rfl, hH3, iA3, hd9, gA3, keyF_stored gB, keysOk_B hK3 hxm (.inr rfl), zA3, stored_le zB, by (repeat (first | exact looks_nil | refine looks_cons rfl ?_))⟩)
    · exact Loop.in (IH _ _ _ _ (by k_asm) (by k_asm) (by exact off_keys hI3 rfl) ⟨_, _, _, _, _, _, _, rfl, hH3, iA3, hd9, gA3, keyF_stored gB, keysOk_B hK3 hxm (.inl rfl), zA3, stored_le zB, by (repeat (first | exact looks_nil | refine looks_cons rfl ?_))⟩)
    · exact Loop.in (IH _ _ _ _ (by k_asm) (by k_asm) (by exact off_keys hI3 rfl) ⟨_, _, _, _, _, _, _, rfl, hH3, iA3, iB2, gA3, gB, hK3, zA3, Nat.le_succ_of_le zB, by (repeat (first | exact looks_nil | refine looks_cons rfl ?_))⟩)
  case done =>
    rintro m1 nx h tk ⟨oH2, oA2, oB2, kA, kB, fA, fB, rfl, hH2, iA2, iB2, gA, gB, hK, zA, zB, hlk2⟩ F3 N3
    exact law_end e B X0 T F3 hlk2 (news_sub N3 (sub_end tD NT.mem tL)) d2 d3 d4 d5 iA2 iB2 lA lB gA gB hK MT NT hSN hSD hn5 t55 (Nat.ne_of_gt l1K.2.2.2.1) (Nat.ne_of_gt l01.2.2.1) (Nat.ne_of_gt l0.2.1) (t55 _ tD) (t55 _ NT.mem) (t55 _ tL) hE0 hQ
end
section
theorem srcs_hv {w : World} {In : Addr × Obj → Prop} {oN oS : Obj} {kN kS : List (Str × Value)} {rows : Str → List Str} {ks : List Str} (h : SrcsIn w In oN oS kN kS rows ks) : ∀ nm v, (nm, v) ∈ kS → ∃ S t nms, v = .str S t ∧ HeadTxt S nms ∧ nms.foldl addNew [] = rows nm ∧ (rows nm).length < 64 := by
  intro nm v hm
  obtain ⟨S, t, imps, e1, e2, e3⟩ := h.rowS nm v hm
  have hk : nm ∈ kN.map (·.1) := by rw [h.keysN, ← h.keysS]; exact List.mem_map.mpr ⟨_, hm, rfl⟩
  obtain ⟨⟨nm', v'⟩, hm', e⟩ := List.mem_map.mp hk
  dsimp only at e
  subst e
  obtain ⟨aI, its, n, _, _, _, e4⟩ := h.rowN _ _ hm'
  exact ⟨S, t, imps, e1, e2, e3, e4⟩
theorem sub_move {A B C D E F X : Addr × Obj} {l : List (Addr × Obj)} : ∀ p ∈ A :: B :: C :: D :: E :: F :: X :: l, p ∈ X :: A :: B :: C :: D :: E :: F :: l := by
  intro p hp
  simp only [List.mem_cons] at hp ⊢
  rcases hp with h | h | h | h | h | h | h | h
  all_goals simp only [h, true_or, or_true]
theorem off3_head {I C D a : Addr} {o o' : Obj} {l : List (Addr × Obj)} (h : PyProof.Rows.LCg.Off3 I C D ((a, o) :: l)) : PyProof.Rows.LCg.Off3 I C D ((a, o') :: l) := h
theorem law_body {w : World} {mean : ExcName → Option Value} {mg mb : Str → Option Value} {d : DefRec} {kwd : List (Str × Expr)} (e : defOf vq (OpenRow.toRowW (OpenLaw.row PySem.Challenge.rw_pb0352_01)).name = some (d, kwd))
    {A₀ : Around} {base h₀ : Heap} {L aS fa : Addr} {gd : Option (List Code)} {cd : Value} {vs : List Value} {ins : List Int} {h : Heap} {gn : Array GenState} {dr : Drawn} {tk : Nat} {os : OsState} {o1 o2 o3 o4 o5 : Obj} {E : Value → Shared → Prop} {Q : Flow → Shared → Prop}
    (B : Below A₀ base [] h₀) (X : (frag.heap_1 w.params).In h₀) (T : Top vq (looseW vq []) mean mg mb h₀) (hlist : h₀.IsList aS vs.toArray) (hI : IntsAre vs ins) (hl : ¬ (63 : Int) < ins.length)
    (F : Fr h₀ L h (ovr [(Str.ofString "script", .ref aS)] fun _ => none)) (N : News h₀ L h [(L + 1 + 1 + 1 + 1 + 1, o5), (L + 1 + 1 + 1 + 1, o4), (L + 1 + 1 + 1, o3), (L + 1 + 1, o2), (L + 1, o1)])
    (d1 : o1.data = .cell none) (d2 : o2.data = .cell none) (d3 : o3.data = .cell none) (d4 : o4.data = .cell none) (d5 : o5.data = .cell none)
    (hE : PassesOwn (model PySem.Challenge.rw_pb0352_01.row.prog w) (ktrTop 302 7 gd d.name d.scope L fa cd (cellsFrom (L + 1) d.scope.names []) []) (envX d.name d.scope L fa cd (cellsFrom (L + 1) d.scope.names [])) E)
    (hQ : ∀ h' tk' mm, Fr h₀ L h' mm → Q (.ret (.bool true)) ⟨h', gn, dr, tk', os⟩) :
    wpAny (model PySem.Challenge.rw_pb0352_01.row.prog w) (ktrTop 302 7 gd d.name d.scope L fa cd (cellsFrom (L + 1) d.scope.names []) []) (execs d.body (envX d.name d.scope L fa cd (cellsFrom (L + 1) d.scope.names []))) Q E ⟨h, gn, dr, tk, os⟩ := by
  w_top off
  refine (fun (e2 : defOf vq (OpenRow.toRowW (OpenLaw.row PySem.Challenge.rw_pb0352_01)).name = some (_, _)) => ?_) (by rfl)
  obtain ⟨rfl, rfl⟩ := Prod.mk.inj (Option.some.inj (e.symm.trans e2))
  clear e2
  have X0 := X
  revert X
  k_fill
  intro X
  have hE0 := hE
  have hd : 302 + 200 < recursionLimit := by decide
  have hu : 7 + 2000 < cLine := by decide
  dsimp only at hE ⊢
  simp only [ovr] at F
  refine stmt_cut (fun s' => Ex6 fun h' tk' aC vsC ins' mm => And7 (s' = ⟨h', gn, dr, tk', os⟩) (Fr h₀ L h' mm) (News h₀ L h' ((aC, listOf (List.toArray vsC) 0) :: (L + 1 + 1 + 1 + 1 + 1, o5) :: (L + 1 + 1 + 1 + 1, o4) :: (L + 1 + 1 + 1, o3) :: (L + 1 + 1, o2) :: (L + 1, o1) :: [])) (IntsAre vsC ins') (ins'.length ≤ 63) (@LT.lt Nat _ (L + 1 + 1 + 1 + 1 + 1) aC) (Looks mm [(Str.ofString "cells", .ref aC)])) ?_ ?_
  · ((try k_fold); repeat' (first | (k_unfold; (try dsimp only)) | ((with_reducible show wpAny _ _ (subscriptTail _ (Expr.Slice none (some _) none _) (Value.ref _) (Value.ref _)) _ _ _); refine loopify ?_) | walk1 | (dsimp only; walk1) | (leave1; (try dsimp only)) | fail "no step"))
    refine Loop.in ?_
    refine' kmk_slice_ints ?zF ?zN ?zl .none (.int _ _) hI (kmk_upto hI (by decide)) rfl ?_ ?zs ?zt ?zz
    case zF => k_asm
    case zN => k_asm
    case zl => exact hlist.at fun o e => Fr.keep (by k_asm) _ _ e
    case zs => with_unfolding_all rfl
    case zt => intro _; with_unfolding_all rfl
    case zz => rw [kmk_size_eq hI, sizeLine_eq]; omega
    intro aC vsC h1 F1 N1 lC hIC hlC hLC
    (try k_sweep)
    ((try k_fold); repeat' (first | (k_unfold; (try dsimp only)) | walk1 | (dsimp only; walk1) | (leave1; (try dsimp only)) | fail "no step"))
    exact Loop.in ⟨by trivial, _, _, _, _, _, _, rfl, by k_asm, by k_asm, hIC, by omega, lC _ (.head _), by (repeat (first | exact looks_nil | refine looks_cons rfl ?_))⟩
  rintro s' ⟨h1, tk1, aC, vsC, ins', mm, rfl, F1, N1, hIC, hlC, lC, hlk⟩
  clear F N hI hlist hl
  have F2 := fr_looks F1 hlk
  simp only [ovr] at F2
  clear F1
  have lC4 : @LT.lt Nat _ (L + 1 + 1 + 1 + 1) aC := Nat.lt_of_succ_lt lC
  have lC3 : @LT.lt Nat _ (L + 1 + 1 + 1) aC := Nat.lt_of_succ_lt lC4
  have lC2 : @LT.lt Nat _ (L + 1 + 1) aC := Nat.lt_of_succ_lt lC3
  have lC1 : @LT.lt Nat _ (L + 1) aC := Nat.lt_of_succ_lt lC2
  refine stmt_cut (fun s' => Ex6 fun h' tk' aH oH o1 mm => And6 (s' = ⟨h', gn, dr, tk', os⟩) (Fr h₀ L h' mm) (News h₀ L h' ((aH, oH) :: (aC, listOf (List.toArray vsC) 0) :: (L + 1 + 1 + 1 + 1 + 1, o5) :: (L + 1 + 1 + 1 + 1, o4) :: (L + 1 + 1 + 1, o3) :: (L + 1 + 1, o2) :: (L + 1, o1) :: [])) (o1.data = .cell (some (.ref aH))) (HandIs ins' aC oH) (@LT.lt Nat _ aC aH)) ?_ ?_
  · ((try k_fold); repeat' (first | (k_unfold; (try dsimp only)) | walk1 | (dsimp only; walk1) | (leave1; (try dsimp only)) | fail "no step"))
    rename aC < _ ∧ _ => l9
    exact Loop.in ⟨by trivial, _, _, _, _, _, _, rfl, by k_asm, by k_asm, by assumption, ⟨0, 0, _, _, _, _, _, rfl, Int.le_refl _, Int.natCast_nonneg _, Int.le_refl _⟩, l9.1⟩
  rintro s' ⟨h2, tk2, aH, oH, o1, mm, rfl, F1, N3, d1, hH, lH⟩
  clear F2 N1 hlk
  have F2 := fr_looks F1 looks_nil
  simp only [ovr] at F2
  clear F1
  ((try k_fold); repeat' (first | (k_unfold; (try dsimp only)) | ((with_reducible show wpAny _ _ (call (Value.ref 368) _) _ _ _); refine loopify ?_) | walk1 | (dsimp only; walk1) | (leave1; (try dsimp only)) | fail "no step"))
  (refine Loop.in ?_; refine' con_useU (d := aH) ?zzU (sources_con ?zzhg ?zzhC ?zzhI ?zzhl ?zzhH) ?zzkB ?zzkF ?zzkX ?zzkN ?zzkT ?zzkK ?zzkd ?zzku ?_; (case zzkB => k_asm); (case zzkF => k_asm); (case zzkX => k_asm); (case zzkN => k_asm); (case zzkT => k_asm); (case zzkK => exact rfl); (case zzU => k_updF); (case zzhg => ktr_unf); (case zzhI => assumption); (case zzhC => (intro o9; (try dsimp only); k_mem)); (case zzhl => assumption); (case zzhH => assumption); (case zzkd => ktr_room); (case zzku => ktr_units); intro r9 news9 h9 tk9 F9 N9 p9)
  obtain ⟨aT, lN, dN, dS, itN, nN, oN, oS, kN, kS, nms, rl, oH2, rows, rT, nT, hlN, hH2, hSI, hSN, hnd, hsubN, hrises, hn1, hn5, loN, loS, lNS, lST, lrT, hrD, hrg, hgD⟩ := p9
  subst rT nT
  simp only [List.cons_append, List.nil_append] at N9
  have lA5 : @LT.lt Nat _ (L + 1 + 1 + 1 + 1 + 1) aH := Nat.lt_trans lC lH
  have lA4 : @LT.lt Nat _ (L + 1 + 1 + 1 + 1) aH := Nat.lt_trans lC4 lH
  have lA3 : @LT.lt Nat _ (L + 1 + 1 + 1) aH := Nat.lt_trans lC3 lH
  have lA2 : @LT.lt Nat _ (L + 1 + 1) aH := Nat.lt_trans lC2 lH
  have lAD : @LT.lt Nat _ aH dN := hgD default (aH, default) (.head _)
  have lD2 : @LT.lt Nat _ (L + 1 + 1) dN := Nat.lt_trans lA2 lAD
  have lS2 : @LT.lt Nat _ (L + 1 + 1) dS := Nat.lt_trans lD2 lNS
  have lT2 : @LT.lt Nat _ (L + 1 + 1) aT := Nat.lt_trans lS2 lST
  have gr : ∀ p ∈ rl, @LT.lt Nat _ aH p.1 := fun p hp => hrg p hp default (aH, default) (.head _)
  have gr2 : ∀ p ∈ rl, p.1 ≠ L + 1 + 1 := fun p hp => Nat.ne_of_gt (Nat.lt_trans lA2 (gr p hp))
  clear hrg hgD
  ((try k_fold); repeat' (first | (k_unfold; (try dsimp only)) | ((with_reducible show wpAny _ _ (call (Value.ref 329) _) _ _ _); refine loopify ?_) | walk1 | (dsimp only; walk1) | (leave1; (try dsimp only)) | fail "no step"))
  rename Obj => oc2
  rename oc2.data = _ => dc2
  (refine Loop.in ?_; refine' con_use (mod_con ?zzhS ?zziS ?zzlS ?zzhk ?zzhn ?zzhr ?zzhf ?zzhv) ?zzkB ?zzkF ?zzkX ?zzkN ?zzkT ?zzkK ?zzks ?zzkd ?zzku ?_; (case zzkB => k_asm); (case zzkF => k_asm); (case zzkX => k_asm); (case zzkN => k_asm); (case zzkT => k_asm); (case zzkK => exact rfl); (case zzks => exact fun _ h => h); (case zzhS => k_mem); (case zziS => exact hSI.isS); (case zzlS => assumption); (case zzhk => exact hSI.keysS); (case zzhn => assumption); (case zzhr => assumption); (case zzhf => omega); (case zzhv => exact srcs_hv hSI); (case zzkd => ktr_room); (case zzku => ktr_units); intro r9 news9 h9 tk9 F9 N9 p9)
  obtain ⟨aM, dM, q1, q2, a1, a2, oI, kvs, ml, rM, nM, hM, hml⟩ := p9
  subst rM nM
  simp only [List.cons_append] at N9
  have gm : ∀ p ∈ ml, @LT.lt Nat _ aH p.1 := fun p hp => hml p hp (aH, oH2) (by k_mem)
  have N8 := news_sub N9 (news' := (aH, oH2) :: (L + 1 + 1 + 1 + 1 + 1, o5) :: (L + 1 + 1 + 1 + 1, o4) :: (L + 1 + 1 + 1, o3) :: (L + 1 + 1, oc2) :: (L + 1, o1) :: ((dN, oN) :: (aC, listOf vsC.toArray 0) :: (rl ++ ml))) (by
    intro p hp
    simp only [List.mem_cons] at hp ⊢
    rcases hp with h | h | h | h | h | h | h | h | h <;> simp [h])
  have tA : ∀ p ∈ (dN, oN) :: (aC, listOf vsC.toArray 0) :: (rl ++ ml), p.1 ≠ aH := by
    intro p hp
    rcases List.mem_cons.mp hp with rfl | hp
    · exact Nat.ne_of_gt lAD
    · rcases List.mem_cons.mp hp with rfl | hp
      · exact Nat.ne_of_lt lH
      · rcases List.mem_append.mp hp with hp | hp
        · exact Nat.ne_of_gt (gr p hp)
        · exact Nat.ne_of_gt (gm p hp)
  have t5 : ∀ p ∈ (dN, oN) :: (aC, listOf vsC.toArray 0) :: (rl ++ ml), @LT.lt Nat _ (L + 1 + 1 + 1 + 1 + 1) p.1 := by
    intro p hp
    rcases List.mem_cons.mp hp with rfl | hp
    · exact Nat.lt_trans lA5 lAD
    · rcases List.mem_cons.mp hp with rfl | hp
      · exact lC
      · rcases List.mem_append.mp hp with hp | hp
        · exact Nat.lt_trans lA5 (gr p hp)
        · exact Nat.lt_trans lA5 (gm p hp)
  have tC : (aC, listOf vsC.toArray 0) ∈ (dN, oN) :: (aC, listOf vsC.toArray 0) :: (rl ++ ml) := .tail _ (.head _)
  have tL : (lN, listOf itN nN) ∈ (dN, oN) :: (aC, listOf vsC.toArray 0) :: (rl ++ ml) := .tail _ (.tail _ (List.mem_append_left _ hlN))
  have MT := hM.mono (news' := (dN, oN) :: (aC, listOf vsC.toArray 0) :: (rl ++ ml)) (fun p hp => .tail _ (.tail _ (List.mem_append_right _ hp)))
  have NT : NeedIn w ((dN, oN) :: (aC, listOf vsC.toArray 0) :: (rl ++ ml)) dN oN kN nms rows := ⟨.head _, hSI.isN, loN, hSI.keysN, fun nm v hm => by
    obtain ⟨aI, its, n, e1, e2, e3⟩ := hSI.rowN nm v hm
    exact ⟨aI, its, n, e1, .tail _ (.tail _ (List.mem_append_left _ e2)), e3⟩⟩
  generalize (dN, oN) :: (aC, listOf vsC.toArray 0) :: (rl ++ ml) = tl at N8 tA t5 tC tL MT NT
  clear N9 hSI hM hml gm gr gr2 hrD lrT lS2 lT2 lD2 lAD lNS lST hlN loS
  (try k_sweep)
  ((try k_fold); repeat' (first | ((with_reducible show wpAny _ _ (execs (List.cons _ _) _) _ _ _); refine loopify ?_) | (k_unfold; (try dsimp only)) | walk1 | (dsimp only; walk1) | (leave1; (try dsimp only)) | fail "no step"))
  refine Loop.in ?_
  have t55 : ∀ p ∈ tl, p.1 ≠ L + 1 + 1 + 1 + 1 + 1 := fun p hp => Nat.ne_of_gt (t5 p hp)
  have t54 : ∀ p ∈ tl, p.1 ≠ L + 1 + 1 + 1 + 1 := fun p hp => Nat.ne_of_gt (Nat.lt_of_succ_lt (t5 p hp))
  have t53 : ∀ p ∈ tl, p.1 ≠ L + 1 + 1 + 1 := fun p hp => Nat.ne_of_gt (Nat.lt_of_succ_lt (Nat.lt_of_succ_lt (t5 p hp)))
  refine stmt_cut (fun s' => Ex8 fun h' tk' D ys chg oH o3 mm => And10 (s' = ⟨h', gn, dr, tk', os⟩) (Fr h₀ L h' mm) (Looks mm [(Str.ofString "names", .ref lN), (Str.ofString "modules", .ref aM)]) (News h₀ L h' ((aH, oH) :: (L + 1 + 1 + 1 + 1 + 1, o5) :: (L + 1 + 1 + 1 + 1, o4) :: (L + 1 + 1 + 1, o3) :: (L + 1 + 1, oc2) :: (L + 1, o1) :: (D, listOf (List.toArray ys) ys.length) :: tl)) (o3.data = .cell (some (.ref D))) (HandIs ins' aC oH) (StrsAre ys chg) (@Ne Nat D aH) (@Ne Nat D (L + 1 + 1 + 1 + 1 + 1)) (@Ne Nat D (L + 1 + 1 + 1 + 1))) ?_ ?_
  · ((try k_fold); repeat' (first | (k_unfold; (try dsimp only)) | ((with_reducible show wpAny _ _ (eval (Expr.ListComp _ _ _ _) _) _ _ _); ((with_reducible (refine' ListComp_L ?zzk1 ?zzk2 ?zzk3 ?_ ?zzk4)); (case zzk1 => with_unfolding_all rfl); (case zzk2 => rfl); (case zzk3 => decide); (case zzk4 => (intro _; with_unfolding_all rfl)))) | walk1 | (dsimp only; walk1) | (leave1; (try dsimp only)) | fail "no step"))
    refine' CompL.list (its := itN) (n := nN) (fun i ys nx => Ex2 fun oH chg => And3 (nx = (aH, oH) :: (L + 1 + 1 + 1 + 1 + 1, o5) :: (L + 1 + 1 + 1 + 1, o4) :: (L + 1 + 1 + 1, o3) :: (L + 1 + 1, oc2) :: (L + 1, o1) :: tl) (HandIs ins' aC oH) (StrsAre ys chg)) ?hh ?hcell ?hkind ?hx ?hF ?hN ?hJl ?h0 ?hsz ?turn ?done
    case hh => exact rfl
    case hcell => decide
    case hkind => exact rfl
    case hx => exact rfl
    case hF => k_asm
    case hN => k_asm
    case hJl =>
      rintro _ _ _ ⟨_, _, h, -⟩
      exact h ▸ .tail _ (.tail _ (.tail _ (.tail _ (.tail _ (.tail _ tL)))))
    case h0 => exact ⟨_, [], rfl, hH2, .nil⟩
    case hsz => rw [strs_size hSN, sizeLine_eq]; omega
    case turn =>
      rintro Take Skip i v ys nx h tk I oI C oC D m₂ E' hv' ⟨oH, chg, rfl, hH3, hys⟩ hI2 hoC hx F1 N1 off skip take
      obtain ⟨x, t, hx', rfl⟩ := strs_getA hSN hv'
      have offA := off.mem _ (.head _)
      have nIA : @Ne Nat I aH := offA.1.symm
      have nCA : @Ne Nat C aH := offA.2.1.symm
      have nDA : @Ne Nat D aH := offA.2.2.symm
      ((try k_fold); repeat' (first | (k_unfold; (try dsimp only)) | ((with_reducible show wpAny _ _ (call (Value.ref 361) _) _ _ _); refine loopify ?_) | walk1 | (dsimp only; walk1) | (leave1; (try dsimp only)) | fail "no step"))
      (refine Loop.in ?_; refine' con_useU (d := aH) ?zzU (pick_con ?zzhg ?zzhC ?zzhI ?zzhl ?zzhH ?zzk1 ?zzk6) ?zzkB ?zzkF ?zzkX ?zzkN ?zzkT ?zzkK ?zzkd ?zzku ?_; (case zzkB => k_asm); (case zzkF => k_asm); (case zzkX => k_asm); (case zzkN => k_asm); (case zzkT => k_asm); (case zzkK => exact rfl); (case zzU => k_updF); (case zzhg => ktr_unf); (case zzhI => assumption); (case zzhC => (intro o9; (try dsimp only); k_mem)); (case zzhl => assumption); (case zzhH => assumption); (case zzk1 => first | decide | omega); (case zzk6 => first | decide | omega); (case zzkd => ktr_room); (case zzku => ktr_units); intro r9 news9 h9 tk9 F9 N9 p9; obtain ⟨d9, o9, t9, e9, a9, b9, c9, n9⟩ := p9; subst e9 n9; (try dsimp only at N9); (try dsimp only); (try k_sweep))
      ((try k_fold); repeat' (first | (k_unfold; (try dsimp only)) | walk1 | (dsimp only; walk1) | (leave1; (try dsimp only)) | fail "no step"))
      · exact Loop.in (take _ _ _ _ (by k_asm) (by k_asm) (off3_head off) ⟨_, chg ++ [x], rfl, c9, strs_add hys⟩)
      · exact Loop.in (skip _ _ _ (by k_asm) (by k_asm) (off3_head off) ⟨_, chg, rfl, c9, hys⟩)
    case done =>
      rintro D h tk ys nx ⟨oH, chg, rfl, hH3, hys⟩ hD F1 N1 off
      have nD3 : @Ne Nat D (L + 1 + 1 + 1) := fun e => off _ (.tail _ (.tail _ (.tail _ (.head _)))) e.symm
      have nD4 : @Ne Nat D (L + 1 + 1 + 1 + 1) := fun e => off _ (.tail _ (.tail _ (.head _))) e.symm
      have nD5 : @Ne Nat D (L + 1 + 1 + 1 + 1 + 1) := fun e => off _ (.tail _ (.head _)) e.symm
      have nDA : @Ne Nat D aH := fun e => off _ (.head _) e.symm
      ((try k_fold); repeat' (first | (k_unfold; (try dsimp only)) | walk1 | (dsimp only; walk1) | (leave1; (try dsimp only)) | fail "no step"))
      exact Loop.in ⟨by trivial, _, _, _, _, _, _, _, _, rfl, by k_asm, by (repeat (first | exact looks_nil | refine looks_cons rfl ?_)), news_sub (by k_asm) sub_move, by assumption, hH3, hys, nDA, nD5, nD4⟩
  rintro s' ⟨h3, tk3, D, ys, chg, oH3, oc3, mm3, rfl, F3, hlk3, N4, dc3, hH3, hys, nDA, nD5, nD4⟩
  have tl2 : ∀ p ∈ tl, p ∈ (D, listOf (List.toArray ys) ys.length) :: tl := fun _ h => .tail _ h
  have NT2 : NeedIn w ((D, listOf (List.toArray ys) ys.length) :: tl) dN oN kN nms rows := ⟨.tail _ NT.mem, NT.isd, NT.lo, NT.keys, fun nm v hm => by
    obtain ⟨aI, its, n, e1, e2, e3⟩ := NT.row nm v hm
    exact ⟨aI, its, n, e1, .tail _ e2, e3⟩⟩
  exact law_keys e B X0 T F3 hlk3 N4 d1 dc2 dc3 d4 d5 hIC hlC hH3 (.tail _ tC) (off_cons nDA tA) (MT.mono tl2) NT2 hSN hys hn5 (.tail _ tL) (.head _) (off_cons nD5 t55) (off_cons nD4 t54) lA5 lA4 hE0 hQ
end
section
theorem main : PySem.Challenge.rw_pb0352_01.Holds := by
  w_top off
  refine hd fun d kwd e => ?_
  have e0 := e
  refine (fun (e2 : defOf vq (OpenRow.toRowW (OpenLaw.row PySem.Challenge.rw_pb0352_01)).name = some (_, _)) => ?_) (by rfl)
  obtain ⟨rfl, rfl⟩ := Prod.mk.inj (Option.some.inj (e.symm.trans e2))
  clear e e2
  k_go0
  rename Below _ _ _ _ => B0
  rename Frag.In _ _ => KX
  rename Top _ _ _ _ _ _ => T0
  rename Heap.IsList _ _ _ => hL
  rename IntsAre _ _ => hI
  rename ¬ (_ : Int) < _ => hl
  rename Fr _ _ _ _ => F0
  rename_i l5 l4 l3 l2 l1 N0 X0
  refine law_body e0 (A₀ := callerA) B0 KX T0 hL hI hl ?hF N0 ?d1 ?d2 ?d3 ?d4 ?d5 ?hE ?hQ
  case hF => exact F0
  case d1 => exact l1
  case d2 => exact l2
  case d3 => exact l3
  case d4 => exact l4
  case d5 => exact l5
  case hE => first | passes_own | with_unfolding_all passes_own
  case hQ =>
    intro h' tk' mm F
    exact ⟨.inl ⟨.bool true, .bool true, [], rfl, fun _ => rfl, .bool true, postW_of (by wrow_shape) (by wtm_val) (by first | rfl | (str_meet; first | done | w_fin)), fun _ => ⟨.nil, fun _ h => nomatch h⟩⟩, fun b o e => Fr.keep F b o e, rfl, by assumption⟩
end
end Mine
theorem PySem.Challenge.cw_pb0352_01_holds : PySem.Challenge.rw_pb0352_01.Holds :=
  Mine.main
