import PyProof.Rows.All
import Wide.All
import OpenK.AllK
import KE.KDictList
import Wide.FinOn
import Lean
import PySem.Challenge.RW_sa0161_01
open PySem PySem.W PySem.Calls PyProof.Rows
set_option Elab.async false
set_option maxRecDepth 100000
set_option maxHeartbeats 4000000
set_option compiler.extract_closed false
set_option linter.all false
namespace Mine
theorem el0_2 {A B : Prop} {GG : Prop} (h : A ∧ B) (k : A → B → GG) : GG := k h.1 h.2
theorem el0_3 {A B C : Prop} {GG : Prop} (h : A ∧ B ∧ C) (k : A → B → C → GG) : GG := k h.1 h.2.1 h.2.2
theorem el0_4 {A B C D : Prop} {GG : Prop} (h : A ∧ B ∧ C ∧ D) (k : A → B → C → D → GG) : GG := el0_3 h fun x y h => el0_2 h (k x y)
theorem el0_5 {A B C D E : Prop} {GG : Prop} (h : A ∧ B ∧ C ∧ D ∧ E) (k : A → B → C → D → E → GG) : GG := el0_3 h fun x y h => el0_3 h (k x y)
theorem el0_6 {A B C D E F : Prop} {GG : Prop} (h : A ∧ B ∧ C ∧ D ∧ E ∧ F) (k : A → B → C → D → E → F → GG) : GG := el0_3 h fun x y h => el0_4 h (k x y)
theorem el0_7 {A B C D E F G : Prop} {GG : Prop} (h : A ∧ B ∧ C ∧ D ∧ E ∧ F ∧ G) (k : A → B → C → D → E → F → G → GG) : GG := el0_3 h fun x y h => el0_5 h (k x y)
theorem el0_8 {A B C D E F G H : Prop} {GG : Prop} (h : A ∧ B ∧ C ∧ D ∧ E ∧ F ∧ G ∧ H) (k : A → B → C → D → E → F → G → H → GG) : GG := el0_3 h fun x y h => el0_6 h (k x y)
theorem el0_9 {A B C D E F G H I : Prop} {GG : Prop} (h : A ∧ B ∧ C ∧ D ∧ E ∧ F ∧ G ∧ H ∧ I) (k : A → B → C → D → E → F → G → H → I → GG) : GG := el0_3 h fun x y h => el0_7 h (k x y)
theorem el0_10 {A B C D E F G H I J : Prop} {GG : Prop} (h : A ∧ B ∧ C ∧ D ∧ E ∧ F ∧ G ∧ H ∧ I ∧ J) (k : A → B → C → D → E → F → G → H → I → J → GG) : GG := el0_3 h fun x y h => el0_8 h (k x y)
theorem el1_1 {T0 : Type} {A : T0 → Prop} {GG : Prop} (h : ∃ a, A a) (k : ∀ a, A a → GG) : GG := by
  obtain ⟨a, x⟩ := h
  exact k a x
theorem el2_1 {T0 T1 : Type} {A : T0 → T1 → Prop} {GG : Prop} (h : ∃ a b, A a b) (k : ∀ a b, A a b → GG) : GG := by
  obtain ⟨a, b, x⟩ := h
  exact k a b x
theorem el3_1 {T0 T1 T2 : Type} {A : T0 → T1 → T2 → Prop} {GG : Prop} (h : ∃ a b c, A a b c) (k : ∀ a b c, A a b c → GG) : GG := by
  obtain ⟨a, b, c, x⟩ := h
  exact k a b c x
theorem el4_1 {T0 T1 T2 T3 : Type} {A : T0 → T1 → T2 → T3 → Prop} {GG : Prop} (h : ∃ a b c d, A a b c d) (k : ∀ a b c d, A a b c d → GG) : GG := by
  obtain ⟨a, b, c, d, x⟩ := h
  exact k a b c d x
theorem el5_1 {T0 T1 T2 T3 T4 : Type} {A : T0 → T1 → T2 → T3 → T4 → Prop} {GG : Prop} (h : ∃ a b c d e, A a b c d e) (k : ∀ a b c d e, A a b c d e → GG) : GG := by
  obtain ⟨a, b, c, d, e, x⟩ := h
  exact k a b c d e x
theorem el1_2 {T0 : Type} {A B : T0 → Prop} {GG : Prop} (h : ∃ a, A a ∧ B a) (k : ∀ a, A a → B a → GG) : GG := el1_1 h fun a h => el0_2 h (k a)
theorem el1_3 {T0 : Type} {A B C : T0 → Prop} {GG : Prop} (h : ∃ a, A a ∧ B a ∧ C a) (k : ∀ a, A a → B a → C a → GG) : GG := el1_1 h fun a h => el0_3 h (k a)
theorem el1_4 {T0 : Type} {A B C D : T0 → Prop} {GG : Prop} (h : ∃ a, A a ∧ B a ∧ C a ∧ D a) (k : ∀ a, A a → B a → C a → D a → GG) : GG := el1_1 h fun a h => el0_4 h (k a)
theorem el1_5 {T0 : Type} {A B C D E : T0 → Prop} {GG : Prop} (h : ∃ a, A a ∧ B a ∧ C a ∧ D a ∧ E a) (k : ∀ a, A a → B a → C a → D a → E a → GG) : GG := el1_1 h fun a h => el0_5 h (k a)
theorem el2_2 {T0 T1 : Type} {A B : T0 → T1 → Prop} {GG : Prop} (h : ∃ a b, A a b ∧ B a b) (k : ∀ a b, A a b → B a b → GG) : GG := el2_1 h fun a b h => el0_2 h (k a b)
theorem el2_3 {T0 T1 : Type} {A B C : T0 → T1 → Prop} {GG : Prop} (h : ∃ a b, A a b ∧ B a b ∧ C a b) (k : ∀ a b, A a b → B a b → C a b → GG) : GG := el2_1 h fun a b h => el0_3 h (k a b)
theorem el2_4 {T0 T1 : Type} {A B C D : T0 → T1 → Prop} {GG : Prop} (h : ∃ a b, A a b ∧ B a b ∧ C a b ∧ D a b) (k : ∀ a b, A a b → B a b → C a b → D a b → GG) : GG := el2_1 h fun a b h => el0_4 h (k a b)
theorem el2_5 {T0 T1 : Type} {A B C D E : T0 → T1 → Prop} {GG : Prop} (h : ∃ a b, A a b ∧ B a b ∧ C a b ∧ D a b ∧ E a b) (k : ∀ a b, A a b → B a b → C a b → D a b → E a b → GG) : GG := el2_1 h fun a b h => el0_5 h (k a b)
theorem el3_2 {T0 T1 T2 : Type} {A B : T0 → T1 → T2 → Prop} {GG : Prop} (h : ∃ a b c, A a b c ∧ B a b c) (k : ∀ a b c, A a b c → B a b c → GG) : GG := el3_1 h fun a b c h => el0_2 h (k a b c)
theorem el3_3 {T0 T1 T2 : Type} {A B C : T0 → T1 → T2 → Prop} {GG : Prop} (h : ∃ a b c, A a b c ∧ B a b c ∧ C a b c) (k : ∀ a b c, A a b c → B a b c → C a b c → GG) : GG := el3_1 h fun a b c h => el0_3 h (k a b c)
theorem el3_4 {T0 T1 T2 : Type} {A B C D : T0 → T1 → T2 → Prop} {GG : Prop} (h : ∃ a b c, A a b c ∧ B a b c ∧ C a b c ∧ D a b c) (k : ∀ a b c, A a b c → B a b c → C a b c → D a b c → GG) : GG := el3_1 h fun a b c h => el0_4 h (k a b c)
theorem el3_6 {T0 T1 T2 : Type} {A B C D E F : T0 → T1 → T2 → Prop} {GG : Prop} (h : ∃ a b c, A a b c ∧ B a b c ∧ C a b c ∧ D a b c ∧ E a b c ∧ F a b c) (k : ∀ a b c, A a b c → B a b c → C a b c → D a b c → E a b c → F a b c → GG) : GG := el3_1 h fun a b c h => el0_6 h (k a b c)
theorem el3_7 {T0 T1 T2 : Type} {A B C D E F G : T0 → T1 → T2 → Prop} {GG : Prop} (h : ∃ a b c, A a b c ∧ B a b c ∧ C a b c ∧ D a b c ∧ E a b c ∧ F a b c ∧ G a b c) (k : ∀ a b c, A a b c → B a b c → C a b c → D a b c → E a b c → F a b c → G a b c → GG) : GG := el3_1 h fun a b c h => el0_7 h (k a b c)
theorem el3_9 {T0 T1 T2 : Type} {A B C D E F G H I : T0 → T1 → T2 → Prop} {GG : Prop} (h : ∃ a b c, A a b c ∧ B a b c ∧ C a b c ∧ D a b c ∧ E a b c ∧ F a b c ∧ G a b c ∧ H a b c ∧ I a b c) (k : ∀ a b c, A a b c → B a b c → C a b c → D a b c → E a b c → F a b c → G a b c → H a b c → I a b c → GG) : GG := el3_1 h fun a b c h => el0_9 h (k a b c)
theorem el4_2 {T0 T1 T2 T3 : Type} {A B : T0 → T1 → T2 → T3 → Prop} {GG : Prop} (h : ∃ a b c d, A a b c d ∧ B a b c d) (k : ∀ a b c d, A a b c d → B a b c d → GG) : GG := el4_1 h fun a b c d h => el0_2 h (k a b c d)
theorem el4_3 {T0 T1 T2 T3 : Type} {A B C : T0 → T1 → T2 → T3 → Prop} {GG : Prop} (h : ∃ a b c d, A a b c d ∧ B a b c d ∧ C a b c d) (k : ∀ a b c d, A a b c d → B a b c d → C a b c d → GG) : GG := el4_1 h fun a b c d h => el0_3 h (k a b c d)
theorem el4_4 {T0 T1 T2 T3 : Type} {A B C D : T0 → T1 → T2 → T3 → Prop} {GG : Prop} (h : ∃ a b c d, A a b c d ∧ B a b c d ∧ C a b c d ∧ D a b c d) (k : ∀ a b c d, A a b c d → B a b c d → C a b c d → D a b c d → GG) : GG := el4_1 h fun a b c d h => el0_4 h (k a b c d)
theorem el4_5 {T0 T1 T2 T3 : Type} {A B C D E : T0 → T1 → T2 → T3 → Prop} {GG : Prop} (h : ∃ a b c d, A a b c d ∧ B a b c d ∧ C a b c d ∧ D a b c d ∧ E a b c d) (k : ∀ a b c d, A a b c d → B a b c d → C a b c d → D a b c d → E a b c d → GG) : GG := el4_1 h fun a b c d h => el0_5 h (k a b c d)
theorem el5_4 {T0 T1 T2 T3 T4 : Type} {A B C D : T0 → T1 → T2 → T3 → T4 → Prop} {GG : Prop} (h : ∃ a b c d e, A a b c d e ∧ B a b c d e ∧ C a b c d e ∧ D a b c d e) (k : ∀ a b c d e, A a b c d e → B a b c d e → C a b c d e → D a b c d e → GG) : GG := el5_1 h fun a b c d e h => el0_4 h (k a b c d e)
theorem el5_5 {T0 T1 T2 T3 T4 : Type} {A B C D E : T0 → T1 → T2 → T3 → T4 → Prop} {GG : Prop} (h : ∃ a b c d e, A a b c d e ∧ B a b c d e ∧ C a b c d e ∧ D a b c d e ∧ E a b c d e) (k : ∀ a b c d e, A a b c d e → B a b c d e → C a b c d e → D a b c d e → E a b c d e → GG) : GG := el5_1 h fun a b c d e h => el0_5 h (k a b c d e)
theorem el5_8 {T0 T1 T2 T3 T4 : Type} {A B C D E F G H : T0 → T1 → T2 → T3 → T4 → Prop} {GG : Prop} (h : ∃ a b c d e, A a b c d e ∧ B a b c d e ∧ C a b c d e ∧ D a b c d e ∧ E a b c d e ∧ F a b c d e ∧ G a b c d e ∧ H a b c d e) (k : ∀ a b c d e, A a b c d e → B a b c d e → C a b c d e → D a b c d e → E a b c d e → F a b c d e → G a b c d e → H a b c d e → GG) : GG := el5_1 h fun a b c d e h => el0_8 h (k a b c d e)
theorem el5_10 {T0 T1 T2 T3 T4 : Type} {A B C D E F G H I J : T0 → T1 → T2 → T3 → T4 → Prop} {GG : Prop} (h : ∃ a b c d e, A a b c d e ∧ B a b c d e ∧ C a b c d e ∧ D a b c d e ∧ E a b c d e ∧ F a b c d e ∧ G a b c d e ∧ H a b c d e ∧ I a b c d e ∧ J a b c d e) (k : ∀ a b c d e, A a b c d e → B a b c d e → C a b c d e → D a b c d e → E a b c d e → F a b c d e → G a b c d e → H a b c d e → I a b c d e → J a b c d e → GG) : GG := el5_1 h fun a b c d e h => el0_10 h (k a b c d e)
theorem mk0_2 {A B : Prop} (x0 : A) (x1 : B) : A ∧ B := ⟨x0, x1⟩
theorem mk0_3 {A B C : Prop} (x0 : A) (x1 : B) (x2 : C) : A ∧ B ∧ C := ⟨x0, x1, x2⟩
theorem mk0_4 {A B C D : Prop} (x0 : A) (x1 : B) (x2 : C) (x3 : D) : A ∧ B ∧ C ∧ D := mk0_3 x0 x1 (mk0_2 x2 x3)
theorem mk0_5 {A B C D E : Prop} (x0 : A) (x1 : B) (x2 : C) (x3 : D) (x4 : E) : A ∧ B ∧ C ∧ D ∧ E := mk0_3 x0 x1 (mk0_3 x2 x3 x4)
theorem mk0_6 {A B C D E F : Prop} (x0 : A) (x1 : B) (x2 : C) (x3 : D) (x4 : E) (x5 : F) : A ∧ B ∧ C ∧ D ∧ E ∧ F := mk0_3 x0 x1 (mk0_4 x2 x3 x4 x5)
theorem mk0_7 {A B C D E F G : Prop} (x0 : A) (x1 : B) (x2 : C) (x3 : D) (x4 : E) (x5 : F) (x6 : G) : A ∧ B ∧ C ∧ D ∧ E ∧ F ∧ G := mk0_3 x0 x1 (mk0_5 x2 x3 x4 x5 x6)
theorem mk0_8 {A B C D E F G H : Prop} (x0 : A) (x1 : B) (x2 : C) (x3 : D) (x4 : E) (x5 : F) (x6 : G) (x7 : H) : A ∧ B ∧ C ∧ D ∧ E ∧ F ∧ G ∧ H := mk0_3 x0 x1 (mk0_6 x2 x3 x4 x5 x6 x7)
theorem mk0_9 {A B C D E F G H I : Prop} (x0 : A) (x1 : B) (x2 : C) (x3 : D) (x4 : E) (x5 : F) (x6 : G) (x7 : H) (x8 : I) : A ∧ B ∧ C ∧ D ∧ E ∧ F ∧ G ∧ H ∧ I := mk0_3 x0 x1 (mk0_7 x2 x3 x4 x5 x6 x7 x8)
theorem mk0_10 {A B C D E F G H I J : Prop} (x0 : A) (x1 : B) (x2 : C) (x3 : D) (x4 : E) (x5 : F) (x6 : G) (x7 : H) (x8 : I) (x9 : J) : A ∧ B ∧ C ∧ D ∧ E ∧ F ∧ G ∧ H ∧ I ∧ J := mk0_3 x0 x1 (mk0_8 x2 x3 x4 x5 x6 x7 x8 x9)
theorem mk0_12 {A B C D E F G H I J K L : Prop} (x0 : A) (x1 : B) (x2 : C) (x3 : D) (x4 : E) (x5 : F) (x6 : G) (x7 : H) (x8 : I) (x9 : J) (x10 : K) (x11 : L) : A ∧ B ∧ C ∧ D ∧ E ∧ F ∧ G ∧ H ∧ I ∧ J ∧ K ∧ L := mk0_3 x0 x1 (mk0_10 x2 x3 x4 x5 x6 x7 x8 x9 x10 x11)
theorem mk1_1 {T0 : Type} {A : T0 → Prop} (a : T0) (x0 : A a) : ∃ a, A a := ⟨a, x0⟩
theorem mk2_1 {T0 T1 : Type} {A : T0 → T1 → Prop} (a : T0) (b : T1) (x0 : A a b) : ∃ a b, A a b := ⟨a, b, x0⟩
theorem mk3_1 {T0 T1 T2 : Type} {A : T0 → T1 → T2 → Prop} (a : T0) (b : T1) (c : T2) (x0 : A a b c) : ∃ a b c, A a b c := ⟨a, b, c, x0⟩
theorem mk4_1 {T0 T1 T2 T3 : Type} {A : T0 → T1 → T2 → T3 → Prop} (a : T0) (b : T1) (c : T2) (d : T3) (x0 : A a b c d) : ∃ a b c d, A a b c d := ⟨a, b, c, d, x0⟩
theorem mk5_1 {T0 T1 T2 T3 T4 : Type} {A : T0 → T1 → T2 → T3 → T4 → Prop} (a : T0) (b : T1) (c : T2) (d : T3) (e : T4) (x0 : A a b c d e) : ∃ a b c d e, A a b c d e := ⟨a, b, c, d, e, x0⟩
theorem mk1_2 {T0 : Type} {A B : T0 → Prop} (a : T0) (x0 : A a) (x1 : B a) : ∃ a, A a ∧ B a := mk1_1 (A := fun a => A a ∧ B a) a (mk0_2 x0 x1)
theorem mk1_3 {T0 : Type} {A B C : T0 → Prop} (a : T0) (x0 : A a) (x1 : B a) (x2 : C a) : ∃ a, A a ∧ B a ∧ C a := mk1_1 (A := fun a => A a ∧ B a ∧ C a) a (mk0_3 x0 x1 x2)
theorem mk1_4 {T0 : Type} {A B C D : T0 → Prop} (a : T0) (x0 : A a) (x1 : B a) (x2 : C a) (x3 : D a) : ∃ a, A a ∧ B a ∧ C a ∧ D a := mk1_1 (A := fun a => A a ∧ B a ∧ C a ∧ D a) a (mk0_4 x0 x1 x2 x3)
theorem mk1_5 {T0 : Type} {A B C D E : T0 → Prop} (a : T0) (x0 : A a) (x1 : B a) (x2 : C a) (x3 : D a) (x4 : E a) : ∃ a, A a ∧ B a ∧ C a ∧ D a ∧ E a := mk1_1 (A := fun a => A a ∧ B a ∧ C a ∧ D a ∧ E a) a (mk0_5 x0 x1 x2 x3 x4)
theorem mk1_8 {T0 : Type} {A B C D E F G H : T0 → Prop} (a : T0) (x0 : A a) (x1 : B a) (x2 : C a) (x3 : D a) (x4 : E a) (x5 : F a) (x6 : G a) (x7 : H a) : ∃ a, A a ∧ B a ∧ C a ∧ D a ∧ E a ∧ F a ∧ G a ∧ H a := mk1_1 (A := fun a => A a ∧ B a ∧ C a ∧ D a ∧ E a ∧ F a ∧ G a ∧ H a) a (mk0_8 x0 x1 x2 x3 x4 x5 x6 x7)
theorem mk2_2 {T0 T1 : Type} {A B : T0 → T1 → Prop} (a : T0) (b : T1) (x0 : A a b) (x1 : B a b) : ∃ a b, A a b ∧ B a b := mk2_1 (A := fun a b => A a b ∧ B a b) a b (mk0_2 x0 x1)
theorem mk2_3 {T0 T1 : Type} {A B C : T0 → T1 → Prop} (a : T0) (b : T1) (x0 : A a b) (x1 : B a b) (x2 : C a b) : ∃ a b, A a b ∧ B a b ∧ C a b := mk2_1 (A := fun a b => A a b ∧ B a b ∧ C a b) a b (mk0_3 x0 x1 x2)
theorem mk2_4 {T0 T1 : Type} {A B C D : T0 → T1 → Prop} (a : T0) (b : T1) (x0 : A a b) (x1 : B a b) (x2 : C a b) (x3 : D a b) : ∃ a b, A a b ∧ B a b ∧ C a b ∧ D a b := mk2_1 (A := fun a b => A a b ∧ B a b ∧ C a b ∧ D a b) a b (mk0_4 x0 x1 x2 x3)
theorem mk2_5 {T0 T1 : Type} {A B C D E : T0 → T1 → Prop} (a : T0) (b : T1) (x0 : A a b) (x1 : B a b) (x2 : C a b) (x3 : D a b) (x4 : E a b) : ∃ a b, A a b ∧ B a b ∧ C a b ∧ D a b ∧ E a b := mk2_1 (A := fun a b => A a b ∧ B a b ∧ C a b ∧ D a b ∧ E a b) a b (mk0_5 x0 x1 x2 x3 x4)
theorem mk2_6 {T0 T1 : Type} {A B C D E F : T0 → T1 → Prop} (a : T0) (b : T1) (x0 : A a b) (x1 : B a b) (x2 : C a b) (x3 : D a b) (x4 : E a b) (x5 : F a b) : ∃ a b, A a b ∧ B a b ∧ C a b ∧ D a b ∧ E a b ∧ F a b := mk2_1 (A := fun a b => A a b ∧ B a b ∧ C a b ∧ D a b ∧ E a b ∧ F a b) a b (mk0_6 x0 x1 x2 x3 x4 x5)
theorem mk3_2 {T0 T1 T2 : Type} {A B : T0 → T1 → T2 → Prop} (a : T0) (b : T1) (c : T2) (x0 : A a b c) (x1 : B a b c) : ∃ a b c, A a b c ∧ B a b c := mk3_1 (A := fun a b c => A a b c ∧ B a b c) a b c (mk0_2 x0 x1)
theorem mk3_3 {T0 T1 T2 : Type} {A B C : T0 → T1 → T2 → Prop} (a : T0) (b : T1) (c : T2) (x0 : A a b c) (x1 : B a b c) (x2 : C a b c) : ∃ a b c, A a b c ∧ B a b c ∧ C a b c := mk3_1 (A := fun a b c => A a b c ∧ B a b c ∧ C a b c) a b c (mk0_3 x0 x1 x2)
theorem mk3_4 {T0 T1 T2 : Type} {A B C D : T0 → T1 → T2 → Prop} (a : T0) (b : T1) (c : T2) (x0 : A a b c) (x1 : B a b c) (x2 : C a b c) (x3 : D a b c) : ∃ a b c, A a b c ∧ B a b c ∧ C a b c ∧ D a b c := mk3_1 (A := fun a b c => A a b c ∧ B a b c ∧ C a b c ∧ D a b c) a b c (mk0_4 x0 x1 x2 x3)
theorem mk3_6 {T0 T1 T2 : Type} {A B C D E F : T0 → T1 → T2 → Prop} (a : T0) (b : T1) (c : T2) (x0 : A a b c) (x1 : B a b c) (x2 : C a b c) (x3 : D a b c) (x4 : E a b c) (x5 : F a b c) : ∃ a b c, A a b c ∧ B a b c ∧ C a b c ∧ D a b c ∧ E a b c ∧ F a b c := mk3_1 (A := fun a b c => A a b c ∧ B a b c ∧ C a b c ∧ D a b c ∧ E a b c ∧ F a b c) a b c (mk0_6 x0 x1 x2 x3 x4 x5)
theorem mk3_7 {T0 T1 T2 : Type} {A B C D E F G : T0 → T1 → T2 → Prop} (a : T0) (b : T1) (c : T2) (x0 : A a b c) (x1 : B a b c) (x2 : C a b c) (x3 : D a b c) (x4 : E a b c) (x5 : F a b c) (x6 : G a b c) : ∃ a b c, A a b c ∧ B a b c ∧ C a b c ∧ D a b c ∧ E a b c ∧ F a b c ∧ G a b c := mk3_1 (A := fun a b c => A a b c ∧ B a b c ∧ C a b c ∧ D a b c ∧ E a b c ∧ F a b c ∧ G a b c) a b c (mk0_7 x0 x1 x2 x3 x4 x5 x6)
theorem mk3_9 {T0 T1 T2 : Type} {A B C D E F G H I : T0 → T1 → T2 → Prop} (a : T0) (b : T1) (c : T2) (x0 : A a b c) (x1 : B a b c) (x2 : C a b c) (x3 : D a b c) (x4 : E a b c) (x5 : F a b c) (x6 : G a b c) (x7 : H a b c) (x8 : I a b c) : ∃ a b c, A a b c ∧ B a b c ∧ C a b c ∧ D a b c ∧ E a b c ∧ F a b c ∧ G a b c ∧ H a b c ∧ I a b c := mk3_1 (A := fun a b c => A a b c ∧ B a b c ∧ C a b c ∧ D a b c ∧ E a b c ∧ F a b c ∧ G a b c ∧ H a b c ∧ I a b c) a b c (mk0_9 x0 x1 x2 x3 x4 x5 x6 x7 x8)
theorem mk3_12 {T0 T1 T2 : Type} {A B C D E F G H I J K L : T0 → T1 → T2 → Prop} (a : T0) (b : T1) (c : T2) (x0 : A a b c) (x1 : B a b c) (x2 : C a b c) (x3 : D a b c) (x4 : E a b c) (x5 : F a b c) (x6 : G a b c) (x7 : H a b c) (x8 : I a b c) (x9 : J a b c) (x10 : K a b c) (x11 : L a b c) : ∃ a b c, A a b c ∧ B a b c ∧ C a b c ∧ D a b c ∧ E a b c ∧ F a b c ∧ G a b c ∧ H a b c ∧ I a b c ∧ J a b c ∧ K a b c ∧ L a b c := mk3_1 (A := fun a b c => A a b c ∧ B a b c ∧ C a b c ∧ D a b c ∧ E a b c ∧ F a b c ∧ G a b c ∧ H a b c ∧ I a b c ∧ J a b c ∧ K a b c ∧ L a b c) a b c (mk0_12 x0 x1 x2 x3 x4 x5 x6 x7 x8 x9 x10 x11)
theorem mk4_2 {T0 T1 T2 T3 : Type} {A B : T0 → T1 → T2 → T3 → Prop} (a : T0) (b : T1) (c : T2) (d : T3) (x0 : A a b c d) (x1 : B a b c d) : ∃ a b c d, A a b c d ∧ B a b c d := mk4_1 (A := fun a b c d => A a b c d ∧ B a b c d) a b c d (mk0_2 x0 x1)
theorem mk4_4 {T0 T1 T2 T3 : Type} {A B C D : T0 → T1 → T2 → T3 → Prop} (a : T0) (b : T1) (c : T2) (d : T3) (x0 : A a b c d) (x1 : B a b c d) (x2 : C a b c d) (x3 : D a b c d) : ∃ a b c d, A a b c d ∧ B a b c d ∧ C a b c d ∧ D a b c d := mk4_1 (A := fun a b c d => A a b c d ∧ B a b c d ∧ C a b c d ∧ D a b c d) a b c d (mk0_4 x0 x1 x2 x3)
theorem mk4_5 {T0 T1 T2 T3 : Type} {A B C D E : T0 → T1 → T2 → T3 → Prop} (a : T0) (b : T1) (c : T2) (d : T3) (x0 : A a b c d) (x1 : B a b c d) (x2 : C a b c d) (x3 : D a b c d) (x4 : E a b c d) : ∃ a b c d, A a b c d ∧ B a b c d ∧ C a b c d ∧ D a b c d ∧ E a b c d := mk4_1 (A := fun a b c d => A a b c d ∧ B a b c d ∧ C a b c d ∧ D a b c d ∧ E a b c d) a b c d (mk0_5 x0 x1 x2 x3 x4)
theorem mk4_6 {T0 T1 T2 T3 : Type} {A B C D E F : T0 → T1 → T2 → T3 → Prop} (a : T0) (b : T1) (c : T2) (d : T3) (x0 : A a b c d) (x1 : B a b c d) (x2 : C a b c d) (x3 : D a b c d) (x4 : E a b c d) (x5 : F a b c d) : ∃ a b c d, A a b c d ∧ B a b c d ∧ C a b c d ∧ D a b c d ∧ E a b c d ∧ F a b c d := mk4_1 (A := fun a b c d => A a b c d ∧ B a b c d ∧ C a b c d ∧ D a b c d ∧ E a b c d ∧ F a b c d) a b c d (mk0_6 x0 x1 x2 x3 x4 x5)
theorem mk4_8 {T0 T1 T2 T3 : Type} {A B C D E F G H : T0 → T1 → T2 → T3 → Prop} (a : T0) (b : T1) (c : T2) (d : T3) (x0 : A a b c d) (x1 : B a b c d) (x2 : C a b c d) (x3 : D a b c d) (x4 : E a b c d) (x5 : F a b c d) (x6 : G a b c d) (x7 : H a b c d) : ∃ a b c d, A a b c d ∧ B a b c d ∧ C a b c d ∧ D a b c d ∧ E a b c d ∧ F a b c d ∧ G a b c d ∧ H a b c d := mk4_1 (A := fun a b c d => A a b c d ∧ B a b c d ∧ C a b c d ∧ D a b c d ∧ E a b c d ∧ F a b c d ∧ G a b c d ∧ H a b c d) a b c d (mk0_8 x0 x1 x2 x3 x4 x5 x6 x7)
theorem mk5_5 {T0 T1 T2 T3 T4 : Type} {A B C D E : T0 → T1 → T2 → T3 → T4 → Prop} (a : T0) (b : T1) (c : T2) (d : T3) (e : T4) (x0 : A a b c d e) (x1 : B a b c d e) (x2 : C a b c d e) (x3 : D a b c d e) (x4 : E a b c d e) : ∃ a b c d e, A a b c d e ∧ B a b c d e ∧ C a b c d e ∧ D a b c d e ∧ E a b c d e := mk5_1 (A := fun a b c d e => A a b c d e ∧ B a b c d e ∧ C a b c d e ∧ D a b c d e ∧ E a b c d e) a b c d e (mk0_5 x0 x1 x2 x3 x4)
theorem mk5_8 {T0 T1 T2 T3 T4 : Type} {A B C D E F G H : T0 → T1 → T2 → T3 → T4 → Prop} (a : T0) (b : T1) (c : T2) (d : T3) (e : T4) (x0 : A a b c d e) (x1 : B a b c d e) (x2 : C a b c d e) (x3 : D a b c d e) (x4 : E a b c d e) (x5 : F a b c d e) (x6 : G a b c d e) (x7 : H a b c d e) : ∃ a b c d e, A a b c d e ∧ B a b c d e ∧ C a b c d e ∧ D a b c d e ∧ E a b c d e ∧ F a b c d e ∧ G a b c d e ∧ H a b c d e := mk5_1 (A := fun a b c d e => A a b c d e ∧ B a b c d e ∧ C a b c d e ∧ D a b c d e ∧ E a b c d e ∧ F a b c d e ∧ G a b c d e ∧ H a b c d e) a b c d e (mk0_8 x0 x1 x2 x3 x4 x5 x6 x7)
theorem mk5_10 {T0 T1 T2 T3 T4 : Type} {A B C D E F G H I J : T0 → T1 → T2 → T3 → T4 → Prop} (a : T0) (b : T1) (c : T2) (d : T3) (e : T4) (x0 : A a b c d e) (x1 : B a b c d e) (x2 : C a b c d e) (x3 : D a b c d e) (x4 : E a b c d e) (x5 : F a b c d e) (x6 : G a b c d e) (x7 : H a b c d e) (x8 : I a b c d e) (x9 : J a b c d e) : ∃ a b c d e, A a b c d e ∧ B a b c d e ∧ C a b c d e ∧ D a b c d e ∧ E a b c d e ∧ F a b c d e ∧ G a b c d e ∧ H a b c d e ∧ I a b c d e ∧ J a b c d e := mk5_1 (A := fun a b c d e => A a b c d e ∧ B a b c d e ∧ C a b c d e ∧ D a b c d e ∧ E a b c d e ∧ F a b c d e ∧ G a b c d e ∧ H a b c d e ∧ I a b c d e ∧ J a b c d e) a b c d e (mk0_10 x0 x1 x2 x3 x4 x5 x6 x7 x8 x9)
noncomputable abbrev pw : Program := PySem.Challenge.pw_sa0161_01
noncomputable def nthS : List Stmt → Nat → Stmt
  | [], _ => .Pass ⟨0, 0, 0, 0⟩
  | s :: _, 0 => s
  | _ :: r, n + 1 => nthS r n
noncomputable def cbody : Stmt → List Stmt
  | .ClassDef _ _ _ b _ _ _ _ _ _ _ => b
  | _ => []
noncomputable def topS (i : Nat) : Stmt := nthS pw.main.body i
noncomputable def methS (i j : Nat) : Stmt := nthS (cbody (topS i)) j
noncomputable def fnArgs : Stmt → Arguments
  | .FunctionDef _ a _ _ _ _ _ _ _ _ => a
  | _ => ⟨[], [], none, [], [], none, []⟩
noncomputable def fnBody : Stmt → List Stmt
  | .FunctionDef _ _ b _ _ _ _ _ _ _ => b
  | _ => []
noncomputable def fnScope : Stmt → Scope
  | .FunctionDef _ _ _ _ _ _ s _ _ _ => s
  | _ => { kind := .function, names := [], isGenerator := false, isCoroutine := false, more := [] }
noncomputable def ent (P : Params) (x : Str) (t : Tok) (v : Value) : DictEntry := ⟨PyData.keyHash P x, .str x t, v⟩
noncomputable def dictO (n : Nat) (es : List DictEntry) : Obj := { cls := .type "dict", data := .dict es.toArray n }
noncomputable def tupO (vs : List Value) (n : Nat) : Obj := { cls := .type "tuple", data := .seq vs.toArray n }
noncomputable def fnData (name qual : Str) (st : Stmt) (dV md cd : Value) : FuncData :=
  { name := name, qualname := qual, params := fnArgs st, body := .stmts (fnBody st), scope := fnScope st, globals := 3, closure := [], defaults := dV, kwdefaults := .none, doc := .none, pyModule := md, annotations := none, code := cd, closureTuple := .none, builtins := 0 }
noncomputable def fnO (name qual : Str) (st : Stmt) (dV md cd : Value) : Obj := { cls := .type "function", data := .func (fnData name qual st dV md cd) }
noncomputable def clsO (sl : List (Option Value)) (name : Str) (bases mro : List Value) (ns : Addr) (subs : List Value) : Obj :=
  { cls := .type "type", data := .cls { name := name, bases := bases, mro := mro, ns := ns, qualname := name, hasDict := true, slotNames := [], subclasses := subs, abstract := false, collection := none, hasDel := false }, slots := sl.toArray }

noncomputable def KT (P : Params) : Frag := [
  (3, dictO 53 [ent P "__name__" 165 (.str "law_sa0161_01" 1016), ent P "__doc__" 166 .none, ent P "__package__" 167 .none, ent P "__loader__" 168 (.builtin "__main__.__loader__#opaque"), ent P "__spec__" 169 .none, ent P "__annotations__" 170 (.ref 6), ent P "__builtins__" 171 (.ref 4), ent P "__file__" 173 (.str "/claim/cut.py" 172), ent P "__cached__" 174 .none, ent P "_wall" 193 (.ref 21), ent P "ClausemillError" 215 (.ref 31), ent P "PrologError" 240 (.ref 51), ent P "A_NIL" 242 (.int 0 241), ent P "A_SYSTEM" 244 (.int 25 243), ent P "F_DOT" 246 (.int 0 245), ent P "F_ERROR" 248 (.int 16 247), ent P "fixed_atoms" 254 (.ref 60), ent P "fixed_functors" 260 (.ref 67), ent P "Symbols" 380 (.ref 154), ent P "system_error" 389 (.ref 165), ent P "formal_of" 400 (.ref 172), ent P "instantiation_error" 407 (.ref 179), ent P "type_error" 416 (.ref 186), ent P "representation_error" 424 (.ref 193), ent P "resource_error" 432 (.ref 200), ent P "MAX_CODE" 434 (.int 1114111 433), ent P "REF" 438 (.int 0 437), ent P "SRF" 440 (.int 1 439), ent P "STR" 442 (.int 2 441), ent P "LIS" 444 (.int 3 443), ent P "CON" 446 (.int 4 445), ent P "INT" 448 (.int 5 447), ent P "FUN" 450 (.int 6 449), ent P "VOID" 452 (.ref 201), ent P "VISIT" 454 (.int 0 453), ent P "BUILD" 456 (.int 1 455), ent P "Cells" 650 (.ref 345), ent P "Store" 751 (.ref 402), ent P "is_free" 760 (.ref 411), ent P "text_of" 768 (.ref 418), ent P "spelled_cell" 779 (.ref 425), ent P "element_text" 788 (.ref 432), ent P "spelled_text" 803 (.ref 439), ent P "READ" 807 (.str "read" 806), ent P "Areas" 1015 (.ref 597), ent P "_law_digit" 1028 (.ref 608), ent P "_law_element" 1039 (.ref 615), ent P "_law_sign" 1048 (.ref 622), ent P "_law_fault" 1056 (.ref 629), ent P "_law_ball" 1062 (.ref 634), ent P "_law_due" 1068 (.ref 639), ent P "_law_read" 1079 (.ref 646), ent P "law" 1085 (.ref 651)]),
  (30, dictO 3 [ent P "__module__" 203 (.str "clausemill.symbols" 194), ent P "__firstlineno__" 207 (.int 5 206), ent P "__static_attributes__" 208 (.ref 29), ent P "__weakref__" 210 (.ref 32), ent P "__doc__" 211 .none]),
  (50, dictO 2 [ent P "__module__" 223 (.str "clausemill.symbols" 194), ent P "__firstlineno__" 227 (.int 7 226), ent P "__init__" 235 (.ref 48), ent P "__static_attributes__" 237 (.ref 49), ent P "__doc__" 238 .none]),
  (153, dictO 4 [ent P "__module__" 268 (.str "clausemill.symbols" 194), ent P "__firstlineno__" 272 (.int 19 271), ent P "__init__" 281 (.ref 81), ent P "atom" 291 (.ref 88), ent P "text" 299 (.ref 95), ent P "functor" 311 (.ref 102), ent P "func" 320 (.ref 109), ent P "name" 328 (.ref 116), ent P "arity" 336 (.ref 123), ent P "label" 344 (.ref 130), ent P "count" 351 (.ref 137), ent P "functor_count" 358 (.ref 144), ent P "known" 368 (.ref 151), ent P "__static_attributes__" 373 (.ref 152), ent P "__dict__" 375 (.ref 155), ent P "__weakref__" 377 (.ref 156), ent P "__doc__" 378 .none]),
  (344, dictO 4 [ent P "__module__" 464 (.str "clausemill.store" 435), ent P "__firstlineno__" 468 (.int 104 467), ent P "__init__" 478 (.ref 216), ent P "push" 487 (.ref 223), ent P "new_var" 495 (.ref 230), ent P "reserve" 505 (.ref 237), ent P "trim" 513 (.ref 244), ent P "deref" 523 (.ref 251), ent P "is_unbound" 531 (.ref 258), ent P "bind" 541 (.ref 265), ent P "bind_pair" 550 (.ref 272), ent P "globalise" 559 (.ref 279), ent P "mark" 566 (.ref 286), ent P "undo_to" 574 (.ref 293), ent P "stack_put" 583 (.ref 300), ent P "is_compound" 591 (.ref 307), ent P "functor_of" 600 (.ref 314), ent P "width" 609 (.ref 321), ent P "base" 617 (.ref 328), ent P "arg" 626 (.ref 335), ent P "new_block" 635 (.ref 342), ent P "__static_attributes__" 643 (.ref 343), ent P "__dict__" 645 (.ref 346), ent P "__weakref__" 647 (.ref 347), ent P "__doc__" 648 .none]),
  (401, dictO 2 [ent P "__module__" 658 (.str "clausemill.store" 435), ent P "__firstlineno__" 662 (.int 220 661), ent P "new_struct" 671 (.ref 363), ent P "build_list" 686 (.ref 371), ent P "list_cells" 696 (.ref 378), ent P "put_term" 714 (.ref 385), ent P "whole_size" 727 (.ref 392), ent P "take_term" 747 (.ref 399), ent P "__static_attributes__" 748 (.ref 400), ent P "__doc__" 749 .none]),
  (596, dictO 4 [ent P "__module__" 815 (.str "clausemill.areas" 804), ent P "__firstlineno__" 819 (.int 384 818), ent P "__init__" 833 (.ref 454), ent P "reset" 840 (.ref 461), ent P "set_x" 849 (.ref 468), ent P "set_arguments" 857 (.ref 475), ent P "arg" 865 (.ref 482), ent P "unify" 874 (.ref 489), ent P "take" 882 (.ref 496), ent P "put" 890 (.ref 503), ent P "top" 897 (.ref 510), ent P "push_environment" 905 (.ref 517), ent P "pop_environment" 912 (.ref 524), ent P "in_chain" 920 (.ref 531), ent P "set_choice" 928 (.ref 538), ent P "push_choice" 937 (.ref 545), ent P "set_alternative" 945 (.ref 552), ent P "choice_part" 953 (.ref 559), ent P "restore_choice" 960 (.ref 566), ent P "pop_choice" 967 (.ref 573), ent P "cut_back" 975 (.ref 580), ent P "choices" 982 (.ref 587), ent P "environments" 989 (.ref 594), ent P "__static_attributes__" 1008 (.ref 595), ent P "__dict__" 1010 (.ref 598), ent P "__weakref__" 1012 (.ref 599), ent P "__doc__" 1013 .none]),
  (31, clsO [some (.ref 22), none, some (.str "ClausemillError" 196), some (.str "ClausemillError" 204), some (.builtin "Exception.__new__"), some (.bool true)] "ClausemillError" [(.type "Exception")] [(.ref 31), (.type "Exception"), (.type "BaseException"), (.type "object")] 30 [(.ref 51)]),
  (51, clsO [some (.ref 35), none, some (.str "PrologError" 216), some (.str "PrologError" 224), some (.builtin "Exception.__new__"), some (.bool true)] "PrologError" [(.ref 31)] [(.ref 51), (.ref 31), (.type "Exception"), (.type "BaseException"), (.type "object")] 50 []),
  (154, clsO [none, none, some (.str "Symbols" 261), some (.str "Symbols" 269), some (.builtin "object.__new__"), some (.bool true)] "Symbols" [(.type "object")] [(.ref 154), (.type "object")] 153 []),
  (345, clsO [none, none, some (.str "Cells" 457), some (.str "Cells" 465), some (.builtin "object.__new__"), some (.bool true)] "Cells" [(.type "object")] [(.ref 345), (.type "object")] 344 [(.ref 402)]),
  (402, clsO [some (.ref 350), none, some (.str "Store" 651), some (.str "Store" 659), some (.builtin "object.__new__"), some (.bool true)] "Store" [(.ref 345)] [(.ref 402), (.ref 345), (.type "object")] 401 []),
  (597, clsO [none, none, some (.str "Areas" 808), some (.str "Areas" 816), some (.builtin "object.__new__"), some (.bool true)] "Areas" [(.type "object")] [(.ref 597), (.type "object")] 596 []),
  (201, tupO [(.int 5 447), (.int 0 451)] 0),
  (209, tupO [(.int 100000 469)] 0),
  (364, tupO [.none] 0),
  (447, tupO [(.int 100000 820), (.bool true), (.int 4096 821)] 0),
  (48, fnO "__init__" "PrologError.__init__" (methS 3 0) .none (.str "clausemill.symbols" 194) (.ref 47)),
  (60, fnO "fixed_atoms" "fixed_atoms" (topS 8) .none (.str "clausemill.symbols" 194) (.ref 59)),
  (67, fnO "fixed_functors" "fixed_functors" (topS 9) .none (.str "clausemill.symbols" 194) (.ref 66)),
  (81, fnO "__init__" "Symbols.__init__" (methS 10 0) .none (.str "clausemill.symbols" 194) (.ref 80)),
  (88, fnO "atom" "Symbols.atom" (methS 10 1) .none (.str "clausemill.symbols" 194) (.ref 87)),
  (95, fnO "text" "Symbols.text" (methS 10 2) .none (.str "clausemill.symbols" 194) (.ref 94)),
  (102, fnO "functor" "Symbols.functor" (methS 10 3) .none (.str "clausemill.symbols" 194) (.ref 101)),
  (109, fnO "func" "Symbols.func" (methS 10 4) .none (.str "clausemill.symbols" 194) (.ref 108)),
  (165, fnO "system_error" "system_error" (topS 12) .none (.str "clausemill.terms" 381) (.ref 164)),
  (172, fnO "formal_of" "formal_of" (topS 13) .none (.str "clausemill.terms" 381) (.ref 171)),
  (179, fnO "instantiation_error" "instantiation_error" (topS 14) .none (.str "clausemill.terms" 381) (.ref 178)),
  (186, fnO "type_error" "type_error" (topS 15) .none (.str "clausemill.terms" 381) (.ref 185)),
  (193, fnO "representation_error" "representation_error" (topS 16) .none (.str "clausemill.terms" 381) (.ref 192)),
  (216, fnO "__init__" "Cells.__init__" (methS 30 0) (.ref 209) (.str "clausemill.store" 435) (.ref 215)),
  (223, fnO "push" "Cells.push" (methS 30 1) .none (.str "clausemill.store" 435) (.ref 222)),
  (230, fnO "new_var" "Cells.new_var" (methS 30 2) .none (.str "clausemill.store" 435) (.ref 229)),
  (237, fnO "reserve" "Cells.reserve" (methS 30 3) .none (.str "clausemill.store" 435) (.ref 236)),
  (251, fnO "deref" "Cells.deref" (methS 30 5) .none (.str "clausemill.store" 435) (.ref 250)),
  (279, fnO "globalise" "Cells.globalise" (methS 30 9) .none (.str "clausemill.store" 435) (.ref 278)),
  (307, fnO "is_compound" "Cells.is_compound" (methS 30 13) .none (.str "clausemill.store" 435) (.ref 306)),
  (314, fnO "functor_of" "Cells.functor_of" (methS 30 14) .none (.str "clausemill.store" 435) (.ref 313)),
  (321, fnO "width" "Cells.width" (methS 30 15) .none (.str "clausemill.store" 435) (.ref 320)),
  (328, fnO "base" "Cells.base" (methS 30 16) .none (.str "clausemill.store" 435) (.ref 327)),
  (342, fnO "new_block" "Cells.new_block" (methS 30 18) .none (.str "clausemill.store" 435) (.ref 341)),
  (371, fnO "build_list" "Store.build_list" (methS 31 1) (.ref 364) (.str "clausemill.store" 435) (.ref 370)),
  (378, fnO "list_cells" "Store.list_cells" (methS 31 2) .none (.str "clausemill.store" 435) (.ref 377)),
  (385, fnO "put_term" "Store.put_term" (methS 31 3) .none (.str "clausemill.store" 435) (.ref 384)),
  (392, fnO "whole_size" "Store.whole_size" (methS 31 4) .none (.str "clausemill.store" 435) (.ref 391)),
  (399, fnO "take_term" "Store.take_term" (methS 31 5) .none (.str "clausemill.store" 435) (.ref 398)),
  (411, fnO "is_free" "is_free" (topS 33) .none (.str "clausemill.preds_atoms" 752) (.ref 410)),
  (418, fnO "text_of" "text_of" (topS 34) .none (.str "clausemill.preds_atoms" 752) (.ref 417)),
  (425, fnO "spelled_cell" "spelled_cell" (topS 35) .none (.str "clausemill.preds_atoms" 752) (.ref 424)),
  (432, fnO "element_text" "element_text" (topS 36) .none (.str "clausemill.preds_atoms" 752) (.ref 431)),
  (439, fnO "spelled_text" "spelled_text" (topS 37) .none (.str "clausemill.preds_atoms" 752) (.ref 438)),
  (454, fnO "__init__" "Areas.__init__" (methS 40 0) (.ref 447) (.str "clausemill.areas" 804) (.ref 453)),
  (461, fnO "reset" "Areas.reset" (methS 40 1) .none (.str "clausemill.areas" 804) (.ref 460)),
  (496, fnO "take" "Areas.take" (methS 40 6) .none (.str "clausemill.areas" 804) (.ref 495)),
  (503, fnO "put" "Areas.put" (methS 40 7) .none (.str "clausemill.areas" 804) (.ref 502)),
  (608, fnO "_law_digit" "_law_digit" (topS 42) .none (.str "law_sa0161_01" 1016) (.ref 607)),
  (615, fnO "_law_element" "_law_element" (topS 43) .none (.str "law_sa0161_01" 1016) (.ref 614)),
  (622, fnO "_law_sign" "_law_sign" (topS 44) .none (.str "law_sa0161_01" 1016) (.ref 621)),
  (629, fnO "_law_fault" "_law_fault" (topS 45) .none (.str "law_sa0161_01" 1016) (.ref 628)),
  (634, fnO "_law_ball" "_law_ball" (topS 46) .none (.str "law_sa0161_01" 1016) (.ref 633)),
  (639, fnO "_law_due" "_law_due" (topS 47) .none (.str "law_sa0161_01" 1016) (.ref 638)),
  (646, fnO "_law_read" "_law_read" (topS 48) .none (.str "law_sa0161_01" 1016) (.ref 645)),
  (651, fnO "law" "law" (topS 49) .none (.str "law_sa0161_01" 1016) (.ref 650))]
noncomputable def kAddrs : List Addr := [3, 30, 50, 153, 344, 401, 596, 31, 51, 154, 345, 402, 597, 201, 209, 364, 447, 48, 60, 67, 81, 88, 95, 102, 109, 165, 172, 179, 186, 193, 216, 223, 230, 237, 251, 279, 307, 314, 321, 328, 342, 371, 378, 385, 392, 399, 411, 418, 425, 432, 439, 454, 461, 496, 503, 608, 615, 622, 629, 634, 639, 646, 651]
noncomputable def kCodes : List (Addr × Str × Tok) := [(47, ("PrologError.__init__" : Str), 229), (59, ("fixed_atoms" : Str), 250), (66, ("fixed_functors" : Str), 256), (80, ("Symbols.__init__" : Str), 274), (87, ("Symbols.atom" : Str), 283), (94, ("Symbols.text" : Str), 293), (101, ("Symbols.functor" : Str), 301), (108, ("Symbols.func" : Str), 313), (164, ("system_error" : Str), 384), (171, ("formal_of" : Str), 391), (178, ("instantiation_error" : Str), 402), (185, ("type_error" : Str), 409), (192, ("representation_error" : Str), 418), (215, ("Cells.__init__" : Str), 471), (222, ("Cells.push" : Str), 480), (229, ("Cells.new_var" : Str), 489), (236, ("Cells.reserve" : Str), 497), (250, ("Cells.deref" : Str), 515), (278, ("Cells.globalise" : Str), 552), (306, ("Cells.is_compound" : Str), 585), (313, ("Cells.functor_of" : Str), 593), (320, ("Cells.width" : Str), 602), (327, ("Cells.base" : Str), 611), (341, ("Cells.new_block" : Str), 628), (370, ("Store.build_list" : Str), 673), (377, ("Store.list_cells" : Str), 688), (384, ("Store.put_term" : Str), 698), (391, ("Store.whole_size" : Str), 716), (398, ("Store.take_term" : Str), 729), (410, ("is_free" : Str), 755), (417, ("text_of" : Str), 762), (424, ("spelled_cell" : Str), 770), (431, ("element_text" : Str), 781), (438, ("spelled_text" : Str), 790), (453, ("Areas.__init__" : Str), 823), (460, ("Areas.reset" : Str), 835), (495, ("Areas.take" : Str), 876), (502, ("Areas.put" : Str), 884), (607, ("_law_digit" : Str), 1019), (614, ("_law_element" : Str), 1030), (621, ("_law_sign" : Str), 1041), (628, ("_law_fault" : Str), 1050), (633, ("_law_ball" : Str), 1058), (638, ("_law_due" : Str), 1064), (645, ("_law_read" : Str), 1070), (650, ("law" : Str), 1081)]
noncomputable def qLoose : List Str := [("_wall" : Str), ("__name__" : Str), ("ClausemillError" : Str), ("PrologError" : Str), ("A_NIL" : Str), ("A_SYSTEM" : Str), ("F_DOT" : Str), ("F_ERROR" : Str), ("fixed_atoms" : Str), ("fixed_functors" : Str), ("Symbols" : Str), ("system_error" : Str), ("formal_of" : Str), ("instantiation_error" : Str), ("type_error" : Str), ("representation_error" : Str), ("resource_error" : Str), ("MAX_CODE" : Str), ("REF" : Str), ("SRF" : Str), ("STR" : Str), ("LIS" : Str), ("CON" : Str), ("INT" : Str), ("FUN" : Str), ("VOID" : Str), ("VISIT" : Str), ("BUILD" : Str), ("Cells" : Str), ("Store" : Str), ("is_free" : Str), ("text_of" : Str), ("spelled_cell" : Str), ("element_text" : Str), ("spelled_text" : Str), ("READ" : Str), ("Areas" : Str), ("_law_digit" : Str), ("_law_element" : Str), ("_law_sign" : Str), ("_law_fault" : Str), ("_law_ball" : Str), ("_law_due" : Str), ("_law_read" : Str)]
noncomputable def codeOf : Option Obj → Option Value
  | some ⟨_, _, .fields vs, _⟩ => vs[1]?
  | _ => none
noncomputable def codeAt (h : Heap) (c : Addr) : Option Value := codeOf (h.get? c)
noncomputable def qv : Program := view pw [49]
noncomputable def seenY (s : Shared) : List (Option Obj) × List (Option Value) := (kAddrs.map s.heap.get?, kCodes.map fun c => codeAt s.heap c.1)
noncomputable def goodY (w : World) : List (Option Obj) × List (Option Value) := ((KT w.params).map fun p => some p.2, kCodes.map fun c => some (.str c.2.1 c.2.2))
noncomputable def tEnv : Env := { scope := pw.main.scope, locals := mainNs, globals := mainNs, cells := [], code := .ref 13, frame := some 14 }
noncomputable def tBody : List Stmt := behindTheImports pw
noncomputable def tCode : Code := .body tBody tEnv
noncomputable def o11 : Obj := { cls := .type "tuple", data := .seq #[] }
noncomputable def o12 : Obj := { cls := .none, data := .fields #[] }
noncomputable def o13 : Obj := { cls := .type "code", data := .fields #[.str "<module>" 182, .str "<module>" 183, .str "/claim/cut.py" 184, .int 1 0, .int 0 0, .int 0 0, .int 0 0, .int 0 0, .ref 11, .bool false, .int 181 0, .ref 12, .none, .none, .none, .none, .int 185 0, .int 1 0, .str "/claim/cut.py" 186] }
noncomputable def o14 : Obj := { cls := .type "frame", slots := #[some (.ref 13), some (.ref 3), some (.ref 3), none, some (.str "__main__" 164), none, some (.ref 0)] }
noncomputable def tHeap (P : Params) : Heap := ⟨⟨[boot_o_0 P, boot_o_1 P, boot_o_2 P, boot_o_3 P, boot_o_4 P, boot_o_5 P, boot_o_6 P, boot_o_7 P, boot_o_8 P, boot_o_9 P, boot_o_10 P, o11, o12, o13, o14]⟩, {}⟩
noncomputable def tTree (P : Params) : BT :=
  .node (boot_o_0 P)
    (.node (boot_o_1 P) (.node (boot_o_3 P) (.node (boot_o_7 P) .nil .nil) (.node o11 .nil .nil)) (.node (boot_o_5 P) (.node (boot_o_9 P) .nil .nil) (.node o13 .nil .nil)))
    (.node (boot_o_2 P) (.node (boot_o_4 P) (.node (boot_o_8 P) .nil .nil) (.node o12 .nil .nil)) (.node (boot_o_6 P) (.node (boot_o_10 P) .nil .nil) (.node o14 .nil .nil)))
noncomputable def p0 : Pos := ⟨0, 0, 0, 0⟩
noncomputable def tFrames : List Frame := [topFrame p0]
noncomputable def seenX (w : World) (s : Shared) := ((staticsOk (importedModules pw.main.body) (boot_heap w.params) s.heap && namesBound pw s.heap && gensDone s && laidKept (boot_heap w.params) s.heap),
  openSeen qv qLoose (importedModules pw.main.body) (fun s => xlAt qv [] s && recOk [] s) true s, seenY s)

noncomputable def getT (s : SharedT) (a : Addr) : Option Obj := if a < s.n then alive ((s.tree.get a).getD default) else none
theorem getT_eq (s : SharedT) (a : Addr) : getT s a = s.abs.heap.get? a := by
  show _ = (absHeap s.tree s.n s.life).get? a
  unfold getT Heap.get?
  rw [absHeap_at]
  by_cases h : a < s.n
  · rw [if_pos h, if_pos h]
    show alive _ = (match some ((s.tree.get a).getD default) with | some ⟨_, _, .freed, _⟩ => none | o => o)
    generalize (s.tree.get a).getD default = o
    obtain ⟨c, d, dt, sl⟩ := o
    cases dt <;> rfl
  · rw [if_neg h, if_neg h]
noncomputable def seenXT (w : World) (s : SharedT) := ((staticsOk (importedModules pw.main.body) (boot_heap w.params) s.abs.heap && namesBound pw s.abs.heap && gensDone s.abs && laidKept (boot_heap w.params) s.abs.heap),
  openSeen qv qLoose (importedModules pw.main.body) (fun s => xlAt qv [] s && recOk [] s) true s.abs, (kAddrs.map (getT s), kCodes.map fun c => codeOf (getT s c.1)))
theorem seenXT_eq (w : World) (s : SharedT) : seenXT w s = seenX w s.abs := by
  unfold seenXT seenX seenY codeAt
  rw [funext (getT_eq s)]
theorem top_run : ∀ w : World, (fun os : OsState => (PySem.W.Fast.tw10110043849684766642 PySem.W.Fast.tw14364793385576792824 pw w 11 (some (.ref 6)) 1 4007 ⟨tTree w.params, 15, {}, #[], {}, 187, os⟩ (piecesOf tBody tEnv tCode p0 tFrames)).map (fun r => (r.1, r.2.2.1, seenXT w r.2.1)))
    = fun os => some (.next, tCode, (true, openGood qv qLoose, goodY w)) := fun w => by kernel_rfl
theorem top_run' (w : World) (os : OsState) : ∃ s' p', segRunT treeTable pw w 11 (some (.ref 6)) 1 4007 ⟨tTree w.params, 15, {}, #[], {}, 187, os⟩ (piecesOf tBody tEnv tCode p0 tFrames) = some (.next, s', tCode, p') ∧
    seenX w s'.abs = (true, openGood qv qLoose, goodY w) := by
  have h := congrFun (top_run w) os
  rw [← PySem.W.Fast.te10110043849684766642, ← PySem.W.Fast.te14364793385576792824] at h
  refine el1_2 (Option.map_eq_some_iff.mp h) fun z4 e1 e2 => ?_; obtain ⟨f, s', c', p'⟩ := z4
  refine el0_2 (Prod.mk.inj e2) fun e3 e4 => ?_
  refine el0_2 (Prod.mk.inj e4) fun e6 e5 => ?_
  dsimp only at e3 e6 e5
  subst e3 e6
  exact (mk2_2 s' p' e1 ((seenXT_eq w s').symm.trans e5))
theorem pre_run : ∀ w : World, (fun os : OsState => PySem.W.Fast.tw15667345088766844465 PySem.W.Fast.tw14364793385576792824 pw w 11 (some (.ref 6)) 12 ⟨boot_heap w.params, #[], boot_drawn, boot_toks, os⟩ (topStub pw)) =
    fun os => some (⟨tHeap w.params, #[], {}, 187, os⟩, ⟨PySem.W.Fast.tw11892475500146522536 PySem.W.Fast.tw14364793385576792824 tCode, tCode, p0, tFrames⟩) := fun w => by kernel_rfl
theorem block_run : ∀ w : World, (fun os : OsState => segRun treeTable pw w 11 (some (.ref 6)) 1 1 ⟨tHeap w.params, #[], {}, 187, os⟩ (blockOf tBody tEnv tCode p0 tFrames)) =
    fun os => some (.next, ⟨tHeap w.params, #[], {}, 187, os⟩, tCode, p0) := fun w => by kernel_rfl
theorem abs_tree (P : Params) : absHeap (tTree P) 15 {} = tHeap P := by kernel_rfl
theorem fin_run (w : World) (s : Shared) (p : Pos) : topRun treeTable pw w 11 (some (.ref 6)) 2 s ⟨doneF .next, tCode, p, tFrames⟩ = some s := by
  obtain ⟨a, b, c, d, e⟩ := s
  rfl
theorem run_all (w : World) (os : OsState) : ∃ s', topRun treeTable pw w 11 (some (.ref 6)) (12 + (1 + (4007 + 2))) ⟨boot_heap w.params, #[], boot_drawn, boot_toks, os⟩ (topStub pw) = some s' ∧ seenX w s' = (true, openGood qv qLoose, goodY w) := by
  refine el2_2 (top_run' w os) fun s' p' h1 h2 => ?_
  refine (mk1_2 s'.abs ?_ h2)
  have h0 := congrFun (pre_run w) os
  rw [← PySem.W.Fast.te15667345088766844465, ← PySem.W.Fast.te11892475500146522536, ← PySem.W.Fast.te14364793385576792824] at h0
  refine go_top h0 ?_
  refine piece_block (q := p0) (congrFun (block_run w) os) ?_
  have h3 := segRun_of h1
  have e : (⟨tTree w.params, 15, {}, #[], {}, 187, os⟩ : SharedT).abs = ⟨tHeap w.params, #[], {}, 187, os⟩ := by
    unfold SharedT.abs
    dsimp only
    rw [abs_tree]
  rw [e] at h3
  have h4 := piece_app (q := p0) (rest := []) h3 (piece_nil (fin_run w s'.abs p'))
  rw [List.append_nil] at h4
  exact h4
theorem open_eq : opening pw = plainProg pw.main.scope.names := by kernel_rfl
theorem fence_eq (s : Shared) : fenceModules? pw s = some s := by kernel_rfl
theorem size_eq (w : World) : ((boot_heap w.params).isNs mainGlobals && (#[] : Array GenState).size == 0, (boot_heap w.params).objs.size, (boot_heap w.params).nsMap mainGlobals "__annotations__") = (true, 11, some (.ref 6)) := by kernel_rfl
theorem left_of {p q : Program} {loose : List Str} {Xt : Shared → Bool} {α : Type} {Yf : Shared → α} {Ya : World → α} {N : Nat} {g0 : Bool} {H₀ : Params → Heap} {gs₀ : Array GenState} {d₀ : Drawn} {k₀ : Nat} {m₀ : Nat} {ann : Option Value} {M : Nat}
    (open_ : ∀ w : World, (fencedOpening treeTable p w N).map (fun s => (s.heap, s.gens, s.drawn, s.toks)) = some (H₀ w.params, gs₀, d₀, k₀))
    (size : ∀ w : World, ((H₀ w.params).isNs mainGlobals && gs₀.size == 0, (H₀ w.params).objs.size, (H₀ w.params).nsMap mainGlobals "__annotations__") = (true, m₀, ann))
    (run : ∀ (w : World) (os : OsState), ∃ s', topRun treeTable p w m₀ ann M ⟨H₀ w.params, gs₀, d₀, k₀, os⟩ (topStub p) = some s' ∧
      ((staticsOk (importedModules p.main.body) (H₀ w.params) s'.heap && namesBound p s'.heap && gensDone s' && laidKept (H₀ w.params) s'.heap), openSeen q loose (importedModules p.main.body) Xt g0 s', Yf s') = (true, openGood q loose, Ya w))
    (le : Nat.ble M N = true) : LeftO p q loose Xt Yf Ya N g0 := fun w => by
  refine el1_2 (Option.map_eq_some_iff.mp (open_ w)) fun z5 e e' => ?_; obtain ⟨h, gs, d, k, os⟩ := z5
  obtain ⟨rfl, rfl, rfl, rfl⟩ : h = H₀ w.params ∧ gs = gs₀ ∧ d = d₀ ∧ k = k₀ := by simpa using e'
  obtain ⟨z1, z2, z3⟩ : _ ∧ _ ∧ _ := by simpa only [Prod.mk.injEq] using size w
  refine el1_2 (run w os) fun s' h1 h2 => ?_
  refine el0_2 (Prod.mk.inj h2) fun l1 l2 => ?_
  have r := topRun_mono (N - M) _ _ _ _ h1
  rw [show M + (N - M) = N by have := Nat.le_of_ble_eq_true le; (first | lia | omega)] at r
  have t : topFrom treeTable p w N ⟨H₀ w.params, gs, d, k, os⟩ = some s' := by
    unfold topFrom
    dsimp only
    rw [z1, z2, z3, r]
    show (match staticsOk (importedModules p.main.body) (H₀ w.params) s'.heap && namesBound p s'.heap && gensDone s' && laidKept (H₀ w.params) s'.heap with | true => _ | false => _) = _
    rw [l1]
  unfold openEnds
  rw [e]
  show (topFrom treeTable p w N _).map _ = _
  rw [t]
  exact congrArg some l2
noncomputable abbrev xT (s : Shared) : Bool := xlAt qv [] s && recOk [] s
theorem left_mine : LeftO pw qv qLoose xT seenY goodY 8136 true := left_of (boot_open open_eq rfl fence_eq) size_eq run_all rfl
theorem both {a b : Bool} (x : a = true) (y : b = true) : (a && b) = true := by rw [x, y]; rfl
theorem said_part : PySem.W.Fast.tw2436336058641802641 (PySem.W.Fast.tw2368527892694137696 PySem.Challenge.rw_sa0161_01) = true := by
  delta PySem.W.Fast.tw2436336058641802641
  exact both (both (both (both (both (both (both (both (both (both (both (both (both (by decide +kernel) (by decide +kernel)) (by decide +kernel)) (by decide +kernel)) (by decide +kernel)) (by decide +kernel)) (by decide +kernel)) (by decide +kernel)) (by decide +kernel)) (by decide +kernel)) (by decide +kernel)) (by decide +kernel)) (by decide +kernel)) (by decide +kernel)
theorem said_row : PySem.W.Fast.tw17960256430627541270 (PySem.W.Fast.tw2368527892694137696 PySem.Challenge.rw_sa0161_01) = true := by
  delta PySem.W.Fast.tw17960256430627541270
  exact both (both said_part (by decide +kernel)) (by decide +kernel)
theorem said : PySem.Challenge.rw_sa0161_01.wellSaid = true :=
  (congrFun PySem.W.Fast.te9446332074065402090 PySem.Challenge.rw_sa0161_01).trans (by
    delta PySem.W.Fast.tw9446332074065402090
    exact both (both (both (both (both (both (both (both (both (both (both (both (both (both (both (both (both (both said_row (by decide +kernel)) (by decide +kernel)) (by decide +kernel)) (by decide +kernel)) (by decide +kernel)) (by decide +kernel)) (by decide +kernel)) (by decide +kernel)) (by decide +kernel)) (by decide +kernel)) (by decide +kernel)) (by decide +kernel)) (by decide +kernel)) (by decide +kernel)) (by decide +kernel)) (by decide +kernel)) (by decide +kernel)) (by decide +kernel))
noncomputable def YP (w : World) (h : Heap) : Prop := (KT w.params).In h ∧ ∀ c ∈ kCodes, codeAt h c.1 = some (.str c.2.1 c.2.2)
theorem kaddrs_eq (P : Params) : kAddrs = (KT P).map (·.1) := by kernel_rfl
theorem yp_of (w : World) (s : Shared) (e : seenY s = goodY w) : YP w s.heap := by
  refine el0_2 (Prod.mk.inj e) fun e1 e2 => ?_
  refine ⟨Frag.in_of (kaddrs_eq w.params) e1, fun c hc => ?_⟩
  have := List.map_inj_left.mp e2 c hc
  exact this
theorem codeAt_keeps {h h' : Heap} (k : ∀ b o, h.get? b = some o → h'.get? b = some o) {c : Addr} {v : Value} (e : codeAt h c = some v) : codeAt h' c = some v := by
  unfold codeAt codeOf at *
  split at e
  · rename_i q; rw [k _ _ q]; exact e
  · cases e
theorem yp_keeps (w : World) (h h' : Heap) (x : YP w h) (k : ∀ b o, h.get? b = some o → h'.get? b = some o) : YP w h' :=
  ⟨x.1.keeps k, fun c hc => codeAt_keeps k (x.2 c hc)⟩
noncomputable abbrev lawRec : DefRec := ⟨"law", fnArgs (topS 49), fnBody (topS 49), fnScope (topS 49), ⟨519, 0, 564, 15⟩⟩
theorem def_eq : defOf qv PySem.Challenge.rw_sa0161_01.row.name = some (lawRec, []) := by kernel_rfl
theorem def_eq2 : pw.theDef PySem.Challenge.rw_sa0161_01.row.name = some (lawRec.params, lawRec.body, lawRec.scope) := by kernel_rfl
theorem kw_eq : kwWritten? lawRec.params.kwonlyargs lawRec.params.kw_defaults = some [] := by kernel_rfl
theorem chains_eq : (chainsOk qv && opensWell pw && (frees PySem.Challenge.rw_sa0161_01.row.toRowW && PySem.Challenge.rw_sa0161_01.row.within.isEmpty)) = true := by kernel_rfl
theorem bare_eq : pw.bare := ⟨rfl, rfl, rfl, rfl, rfl, by decide +kernel⟩
theorem promised_eq : PySem.Challenge.rw_sa0161_01.row.toRowW.promised := by w_witness2
theorem head0 (call : WalkO qv qLoose (XL qv []) YP PySem.Challenge.rw_sa0161_01.row.toRowW lawRec [] fun f vs => PySem.call f vs) : PySem.Challenge.rw_sa0161_01.Holds :=
  holds_law said fun k1 => PySem.W.holds_open (r := PySem.Challenge.rw_sa0161_01.row) (q := qv) (loose := qLoose) (Xt := xT) (XP := XL qv []) (Yf := seenY) (Ya := goodY) (YP := YP) (N := 8136) left_mine yp_of yp_keeps
    (fun s e => xl_of s (Bool.and_eq_true_iff.mp e).1) XL.keeps def_eq def_eq2 kw_eq (fun s e => recFacts_of (Bool.and_eq_true_iff.mp e).2) rfl k1 chains_eq bare_eq promised_eq call
structure HB (w : World) (h : Heap) : Prop where
  k : (KT w.params).In h
  codes : ∀ c ∈ kCodes, codeAt h c.1 = some (.str c.2.1 c.2.2)
  nolimit : h.NoLimit
  bi : ∃ mb, h.Ns builtinsNs mb ∧ ∀ x : Str, x ≠ "__name__" → mb x = bootBuiltins x
  top : ∃ mg mb mean, Top qv (looseW qv qLoose) mean mg mb h
theorem HB.keeps {w : World} {h h' : Heap} (x : HB w h) (k : ∀ b o, h.get? b = some o → h'.get? b = some o) : HB w h' :=
  ⟨x.k.keeps k, fun c hc => codeAt_keeps k (x.codes c hc), x.nolimit.keeps k, let ⟨mb, a, b⟩ := x.bi; ⟨mb, a.keeps k, b⟩, let ⟨mg, mb, mean, T⟩ := x.top; ⟨mg, mb, mean, T.keeps k⟩⟩
theorem head (call : ∀ (w : World) (s : Shared) (l : Addr) (vs : List Value) (ns : List Int), HB w s.heap → s.gens = #[] → s.heap.IsList l vs.toArray → IntsAre vs ns → ns.length ≤ 63 →
    wpAny (model pw w) callerA (PySem.call (.ref 651) [.ref l]) (fun v s' => v = .bool true ∧ (∀ b o, s.heap.get? b = some o → s'.heap.get? b = some o) ∧ s'.os = s.os ∧ s'.gens = #[]) (fun _ _ => False) s) : PySem.Challenge.rw_sa0161_01.Holds := by
  refine head0 ?_
  intro w s₀ s₁ mg mb G Y fa o pm cd doc dV kV ho hd hcd hD hmg hg args vals as hpre hlay hrd hwl hlo
  refine Ground.open G ?_
  intro T B D TE TW
  have hB : HB w s₁.heap := ⟨Y.1, Y.2, T.nolimit, ⟨mb, T.b, T.builtins⟩, ⟨mg, mb, _, T⟩⟩
  have hfa : mg lawRec.name = some (.ref 651) := by
    exact mg_of Y.1 T.g (by kernel_rfl : nsIn (KT w.params) mainGlobals "law" = some (some (.ref 651)))
  wrow_args hpre hlay hrd hwl hlo
  rename_i ns _ _ _ _ _ _ _ l vs _ hL _ _ _ hI _ hlen _
  obtain rfl : fa = 651 := by rw [hmg] at hfa; exact Value.ref.inj (Option.some.inj hfa)
  refine wpAny_mono (call w s₁ l vs ns hB hg hL hI (by (first | lia | omega))) (fun v s' hv => ?_) fun _ _ x => x.elim
  refine el0_4 hv fun z1 k o1 o2 => ?_; try clear hv; subst z1
  refine GoodW.toG ⟨.inl ⟨.bool true, .bool true, [], rfl, fun cls => rfl, .bool true, ?_, fun _ => ⟨.nil, fun _ ha => nomatch ha⟩⟩, k, o1, o2⟩
  exact postW_of (X := (true == true)) (by decide +kernel) (w_eq_bool (k := true) (l := true) (w_res rfl) w_lit) rfl
inductive V where
  | none
  | bool (b : Bool)
  | int (i : Int)
  | str (x : Str)
  | tup (vs : List V)
  | ref (a : Addr)
  | ty (n : String)

mutual
inductive VR (h : Heap) : Value → V → Prop
  | none : VR h .none .none
  | bool (b : Bool) : VR h (.bool b) (.bool b)
  | int (i : Int) (t : Tok) : VR h (.int i t) (.int i)
  | str (x : Str) (t : Tok) : VR h (.str x t) (.str x)
  | ref (a : Addr) : VR h (.ref a) (.ref a)
  | ty (n : String) : VR h (.type n) (.ty n)
  | tup {a : Addr} {o : Obj} {vs : List Value} {n : Nat} {ds : List V} : h.get? a = some o → o.cls = .type "tuple" → o.data = .seq vs.toArray n → VRs h vs ds → VR h (.ref a) (.tup ds)
inductive VRs (h : Heap) : List Value → List V → Prop
  | nil : VRs h [] []
  | cons {v : Value} {vs : List Value} {d : V} {ds : List V} : VR h v d → VRs h vs ds → VRs h (v :: vs) (d :: ds)
end

noncomputable def Same (o o' : Obj) : Prop := (o'.cls = o.cls ∧ o'.dict = o.dict ∧ o'.data = o.data) ∧ ((∃ es n, o.data = .dict es n) ∨ o' = o)
theorem Same.refl (o : Obj) : Same o o := ⟨⟨rfl, rfl, rfl⟩, .inr rfl⟩
theorem Same.trans {a b c : Obj} (x : Same a b) (y : Same b c) : Same a c := ⟨⟨y.1.1.trans x.1.1, y.1.2.1.trans x.1.2.1, y.1.2.2.trans x.1.2.2⟩, x.2.elim .inl fun e => y.2.elim (fun d => .inl (by rw [e] at d; exact d)) fun e' => .inr (e'.trans e)⟩
theorem Same.data {o o' : Obj} (x : Same o o') : o'.data = o.data := x.1.2.2
theorem Same.eq {o o' : Obj} (x : Same o o') (h : ∀ es n, o.data ≠ .dict es n) : o' = o := x.2.elim (fun z1 => el2_1 z1 fun es n e => absurd e (h es n)) id

noncomputable def Tups (h h' : Heap) : Prop := ∀ b o vs n, h.get? b = some o → o.cls = .type "tuple" → o.data = .seq vs n → h'.get? b = some o
theorem Tups.refl (h : Heap) : Tups h h := fun _ _ _ _ e _ _ => e
theorem Tups.trans {a b c : Heap} (x : Tups a b) (y : Tups b c) : Tups a c := fun p o vs n e hc hd => y p o vs n (x p o vs n e hc hd) hc hd
theorem Tups.of_keeps {h h' : Heap} (k : ∀ b o, h.get? b = some o → h'.get? b = some o) : Tups h h' := fun b o _ _ e _ _ => k b o e
theorem VR.mono {h h' : Heap} (T : Tups h h') {v : Value} {d : V} (r : VR h v d) : VR h' v d :=
  VR.rec (motive_1 := fun v d _ => VR h' v d) (motive_2 := fun vs ds _ => VRs h' vs ds) .none .bool .int .str .ref .ty (fun e hc hd _ ih => .tup (T _ _ _ _ e hc hd) hc hd ih) .nil (fun _ _ a b => .cons a b) r
theorem VRs.mono {h h' : Heap} (T : Tups h h') {vs : List Value} {ds : List V} (r : VRs h vs ds) : VRs h' vs ds :=
  VRs.rec (motive_1 := fun v d _ => VR h' v d) (motive_2 := fun vs ds _ => VRs h' vs ds) .none .bool .int .str .ref .ty (fun e hc hd _ ih => .tup (T _ _ _ _ e hc hd) hc hd ih) .nil (fun _ _ a b => .cons a b) r
theorem VRs.length {h : Heap} {vs : List Value} {ds : List V} (r : VRs h vs ds) : vs.length = ds.length := by
  induction vs generalizing ds with
  | nil => cases r; rfl
  | cons v vs ih => cases r with | cons _ r => rw [List.length_cons, List.length_cons, ih r]
theorem VRs.append {h : Heap} {vs ws : List Value} {ds es : List V} (r : VRs h vs ds) (q : VRs h ws es) : VRs h (vs ++ ws) (ds ++ es) := by
  induction vs generalizing ds with
  | nil => cases r; exact q
  | cons v vs ih => cases r with | cons a r => exact .cons a (ih r)
theorem VRs.get {h : Heap} {vs : List Value} {ds : List V} (r : VRs h vs ds) {k : Nat} {d : V} (e : ds[k]? = some d) : ∃ v, vs[k]? = some v ∧ VR h v d := by
  induction vs generalizing ds k with
  | nil => cases r; simp at e
  | cons v vs ih =>
    cases r with
    | cons a r =>
      cases k with
      | zero => simp at e; subst e; exact (mk1_2 v rfl a)
      | succ k => simp at e; simpa using ih r e
theorem VRs.set {h : Heap} {vs : List Value} {ds : List V} (r : VRs h vs ds) {k : Nat} {v : Value} {d : V} (a : VR h v d) : VRs h (vs.set k v) (ds.set k d) := by
  induction vs generalizing ds k with
  | nil => cases r; exact .nil
  | cons v' vs ih =>
    cases r with
    | cons b r =>
      cases k with
      | zero => exact .cons a r
      | succ k => exact .cons b (ih r)

inductive O where
  | list (xs : List V)
  | dictS (kvs : List (Str × V))
  | dictI (kvs : List (Int × V))
  | dictT (kvs : List (List Int × V))
  | iset (f : Int → Bool) (n : Nat)
  | inst (C d : Addr) (fs : List (Str × V))
  | aux (a : Addr)
  | exc (C : Addr) (d : Option Addr) (fs : List (Str × V)) (tb : Option Addr)
  | tb (fl : Value)

noncomputable def O.dct : O → Option Addr
  | .inst _ d _ => some d
  | .exc _ d _ _ => d
  | _ => Option.none
noncomputable def O.plain : O → Bool
  | .inst .. => false
  | .aux .. => false
  | .exc .. => false
  | _ => true

noncomputable abbrev AH := Addr → Option O
noncomputable def AH.set (H : AH) (a : Addr) (o : O) : AH := fun b => if b = a then some o else H b
theorem AH.set_self (H : AH) (a : Addr) (o : O) : H.set a o a = some o := by simp [AH.set]
theorem AH.set_other (H : AH) {a b : Addr} (o : O) (h : b ≠ a) : H.set a o b = H b := by simp [AH.set, h]
theorem AH.set_none (H : AH) {a b : Addr} {o : O} (h : H.set a o b = none) : H b = none := by
  by_cases e : b = a
  · subst e; rw [AH.set_self] at h; cases h
  · rwa [AH.set_other H o e] at h

noncomputable def FldR (h : Heap) (es : List DictEntry) (fs : List (Str × V)) : Prop :=
  (∀ x d, fs.lookup x = some d → ∃ v, getL x es = some (some v) ∧ VR h v d) ∧ (∀ x, fs.lookup x = none → getL x es = some none) ∧ es.length ≤ fs.length
noncomputable def RowsR {K : Type} (h : Heap) (rows : List (K × Value)) (kvs : List (K × V)) : Prop := rows.map (·.1) = kvs.map (·.1) ∧ VRs h (rows.map (·.2)) (kvs.map (·.2))

noncomputable def OR (w : World) (h : Heap) (H : AH) (a : Addr) : O → Prop
  | .list xs => ∃ vs n, h.get? a = some (listOf vs.toArray n) ∧ VRs h vs xs
  | .dictS kvs => ∃ rows, h.DictOf (strKind pw w) a rows ∧ RowsR h rows kvs
  | .dictI kvs => ∃ rows, h.DictOf (intKind pw w) a rows ∧ RowsR h rows kvs
  | .dictT kvs => ∃ rows : List (List Int × Addr × Value), h.DictOfH (tupleKind (intKind pw w)) a rows ∧ rows.map (·.1) = kvs.map (·.1) ∧ VRs h (rows.map (·.2.2)) (kvs.map (·.2))
  | .iset S n => h.SetOf (intKind pw w) a S n
  | .inst C d fs => ∃ ox es n, h.get? a = some ox ∧ ox.cls = .ref C ∧ ox.dict = some d ∧ ox.data = .plain ∧ h.get? d = some (dictOf es n) ∧ H d = some (.aux a) ∧ FldR h es fs
  | .aux _ => ∃ es n, h.get? a = some (dictOf es n)
  | .exc C d fs tb => (∃ ox vs, h.get? a = some ox ∧ ox.cls = .ref C ∧ ox.dict = d ∧ ox.data = .fields vs ∧ vs[1]? = some (tb.elim Value.none .ref)) ∧
      ∀ d', d = some d' → H d' = some (.aux a) ∧ ∃ es n, h.get? d' = some (dictOf es n) ∧ FldR h es fs
  | .tb fl => ∃ o ts, h.get? a = some o ∧ o.cls = .type "traceback" ∧ o.data = .fields ts ∧ ts[3]? = some fl

theorem OR.there {w : World} {h : Heap} {H : AH} {a : Addr} {o : O} (r : OR w h H a o) : ∃ ob, h.get? a = some ob ∧ ob.cls ≠ .type "tuple" := by
  cases o with
  | list xs => refine el2_2 r fun vs n e _ => ?_; try clear r; exact (mk1_2 _ e (by show Value.type "list" ≠ _; decide))
  | dictS kvs => refine el1_2 r fun rows z2 _ => ?_; try clear r; obtain ⟨o, _, _, e, c, _⟩ := z2; exact (mk1_2 o e (by rw [c.1]; decide))
  | dictI kvs => refine el1_2 r fun rows z3 _ => ?_; try clear r; obtain ⟨o, _, _, e, c, _⟩ := z3; exact (mk1_2 o e (by rw [c.1]; decide))
  | dictT kvs => refine el1_2 r fun rows z4 _ => ?_; try clear r; obtain ⟨o, _, _, e, c, _⟩ := z4; exact (mk1_2 o e (by rw [c.1]; decide))
  | iset S n => refine el4_3 r fun o _ _ _ e c _ => ?_; try clear r; exact (mk1_2 o e (by rw [c.1]; decide))
  | inst C d fs => refine el3_3 r fun o _ _ e c _ => ?_; try clear r; exact (mk1_2 o e (by rw [c]; intro x; cases x))
  | aux a => refine el2_1 r fun es n e => ?_; try clear r; exact (mk1_2 _ e (by show Value.type "dict" ≠ _; decide))
  | exc C d fs tb => refine el0_2 r fun z5 _ => ?_; try clear r; refine el2_3 z5 fun ox _ e c _ => ?_; exact (mk1_2 ox e (by rw [c]; intro x; cases x))
  | tb fl => refine el2_3 r fun o _ e c _ => ?_; try clear r; exact (mk1_2 o e (by rw [c]; decide))

theorem OR.dct {w : World} {h : Heap} {H : AH} {a d : Addr} {o : O} (r : OR w h H a o) (q : o.dct = some d) : (∃ es n, h.get? d = some (dictOf es n)) ∧ H d = some (.aux a) := by
  cases o with
  | inst C d' fs => cases q; refine el3_7 r fun _ es n _ _ _ _ e5 e6 _ => ?_; try clear r; exact ⟨⟨es, n, e5⟩, e6⟩
  | exc C d' fs tb => refine el0_2 r fun _ k => ?_; try clear r; refine el0_2 (k d q) fun e6 z6 => ?_; refine el2_2 z6 fun es n e5 _ => ?_; exact ⟨⟨es, n, e5⟩, e6⟩
  | _ => cases q
theorem O.dct_plain {o : O} (h : o.plain = true) : o.dct = none := by cases o <;> first | rfl | cases h

theorem dictOf_at {K : Type} [DecidableEq K] {w : World} {knd : KeyKind pw w K} {h h' : Heap} {a : Addr} {rows : List (K × Value)} (x : h.DictOf knd a rows) (e : h'.get? a = h.get? a) : h'.DictOf knd a rows := by
  refine el3_2 x fun o es ep ho r => ?_; try clear x
  exact (mk3_2 o es ep (e.trans ho) r)

theorem OR.mono {w : World} {h h' : Heap} {H H' : AH} {a : Addr} {o : O} (r : OR w h H a o) (e : h'.get? a = h.get? a) (T : Tups h h')
    (ed : ∀ d, o.dct = some d → h'.get? d = h.get? d ∧ H' d = H d) : OR w h' H' a o := by
  cases o with
  | list xs => refine el2_2 r fun vs n e1 e2 => ?_; try clear r; exact (mk2_2 vs n (e.trans e1) (e2.mono T))
  | dictS kvs => refine el1_2 r fun rows e1 z7 => ?_; try clear r; obtain ⟨e2, e3⟩ := z7; exact (mk1_2 rows (dictOf_at e1 e)  ⟨e2, e3.mono T⟩)
  | dictI kvs => refine el1_2 r fun rows e1 z8 => ?_; try clear r; obtain ⟨e2, e3⟩ := z8; exact (mk1_2 rows (dictOf_at e1 e)  ⟨e2, e3.mono T⟩)
  | dictT kvs =>
    refine el1_3 r fun rows z9 e7 e8 => ?_; try clear r; obtain ⟨o, es, ep, e1, e2, e3, e4, e5, e6⟩ := z9
    refine (mk1_3 rows ⟨o, es, ep, e.trans e1, e2, e3, e4, fun x hx => ?_, e6⟩ e7 (e8.mono T))
    refine el3_4 (e5 x hx) fun o' items n f1 f2 f3 f4 => ?_
    exact (mk3_4 o' items n (T _ _ _ _ f1 f2 f3) f2 f3 f4)
  | iset S n =>
    refine el4_2 r fun o es ep t e1 r => ?_
    exact (mk4_2 o es ep t (e.trans e1) r)
  | inst C d fs =>
    refine el3_7 r fun ox es n e1 e2 e3 e4 e5 e6 z10 => ?_; try clear r; obtain ⟨e7, e8⟩ := z10
    refine el0_2 (ed d rfl) fun x1 x2 => ?_
    exact (mk3_7 ox es n (e.trans e1) e2 e3 e4 (x1.trans e5) (x2.trans e6)  ⟨fun x y z => by refine el1_2 (e7 x y z) fun v p q => ?_; exact (mk1_2 v p (q.mono T)), e8⟩)
  | aux b => refine el2_1 r fun es n e1 => ?_; try clear r; exact (mk2_1 es n (e.trans e1))
  | exc C d fs tb =>
    refine el0_2 r fun z11 k => ?_; try clear r; refine el2_2 z11 fun ox vs e1 e2 => ?_
    refine ⟨⟨ox, vs, e.trans e1, e2⟩, fun d' q => ?_⟩
    refine el0_2 (ed d' q) fun x1 x2 => ?_
    refine el0_2 (k d' q) fun k1 z12 => ?_; refine el2_2 z12 fun es n k2 z13 => ?_; obtain ⟨k3, k4, k5⟩ := z13
    exact (mk0_2 (x2.trans k1)  (mk2_2 es n (x1.trans k2)  ⟨fun x y z => by refine el1_2 (k3 x y z) fun v p q => ?_; exact (mk1_2 v p (q.mono T)), k4, k5⟩))
  | tb fl => refine el2_2 r fun o ts e1 e2 => ?_; try clear r; exact (mk2_2 o ts (e.trans e1) e2)

noncomputable def Moves (H : AH) (h h' : Heap) : Prop := ∀ b o, h.get? b = some o → H b = none → ∃ o', h'.get? b = some o' ∧ Same o o'
noncomputable def Grow (H H' : AH) (h : Heap) : Prop := (∀ a o, h.get? a = some o → H a = none → H' a = none) ∧ ∀ a o, H a = some o → ∃ o', H' a = some o'
theorem Moves.refl (H : AH) (h : Heap) : Moves H h h := fun _ o e _ => (mk1_2 o e (.refl o))
theorem Moves.trans {H H' : AH} {a b c : Heap} (x : Moves H a b) (g : Grow H H' a) (y : Moves H' b c) : Moves H a c := fun p o e hp => by
  refine el1_2 (x p o e hp) fun o' e' s => ?_
  refine el1_2 (y p o' e' (g.1 p o e hp)) fun o'' e'' s' => ?_
  exact (mk1_2 o'' e'' (s.trans s'))
theorem Grow.refl (H : AH) (h : Heap) : Grow H H h := ⟨fun _ _ _ x => x, fun _ o e => ⟨o, e⟩⟩
theorem Grow.trans {H H' H'' : AH} {h h' : Heap} (x : Grow H H' h) (m : Moves H h h') (y : Grow H' H'' h') : Grow H H'' h := ⟨fun a o e n => by
  refine el1_2 (m a o e n) fun o' e' _ => ?_
  exact y.1 a o' e' (x.1 a o e n), fun a o e => by refine el1_1 (x.2 a o e) fun o' e' => ?_; exact y.2 a o' e'⟩
theorem Moves.of_keeps {H : AH} {h h' : Heap} (k : ∀ b o, h.get? b = some o → h'.get? b = some o) : Moves H h h' := fun b o e _ => (mk1_2 o (k b o e) (.refl o))

structure Cx where
  w : World
  A : Around
  env : Env
  B : Heap
  Fs : List Env
  h₀ : Heap
  H₀ : AH
  g₀ : Array GenState
  o₀ : OsState

structure RelH (c : Cx) (H : AH) (s : Shared) : Prop where
  gens : s.gens = c.g₀
  os : s.os = c.o₀
  hb : HB c.w c.B
  base : c.B.StaysIn s.heap
  since : Moves c.H₀ c.h₀ s.heap
  grow : Grow c.H₀ H c.h₀
  objs : ∀ a o, H a = some o → OR c.w s.heap H a o
  offB : ∀ a o, H a = some o → c.B.get? a = none
  frames : s.heap.FunFrames c.B c.Fs
  dfr : ∀ L ∈ c.Fs.filterMap (·.frame), ∃ o es n, s.heap.get? L = some o ∧ o.data = .dict es n
  offF : ∀ L ∈ c.Fs.filterMap (·.frame), H L = none

structure Rel (c : Cx) (m : Str → Option V) (H : AH) (s : Shared) : Prop extends RelH c H s where
  locs : ∃ mc, s.heap.Ns c.env.locals mc ∧ ∀ x d, m x = some d → c.env.kindOf x = some .local → ∃ v, mc x = some v ∧ VR s.heap v d
  offL : H c.env.locals = none
  newL : c.h₀.get? c.env.locals = none
  baseL : c.B.get? c.env.locals = none
  cells : ∀ x a, c.env.cells.lookup x = some a → H a = none ∧ c.h₀.get? a = none ∧ c.B.get? a = none ∧ a ≠ c.env.locals ∧ ∃ v o, s.heap.get? a = some o ∧ o.data = .cell v ∧
    ∀ d, m x = some d → (c.env.kindOf x = some .cell ∨ c.env.kindOf x = some .free) → ∃ v', v = some v' ∧ VR s.heap v' d

theorem RelH.none_of_tup {c : Cx} {H : AH} {s : Shared} (R : RelH c H s) {b : Addr} {o : Obj} (e : s.heap.get? b = some o) (hc : o.cls = .type "tuple") : H b = none := by
  cases q : H b with
  | none => rfl
  | some ob =>
    refine el1_2 ((R.objs b ob q).there) fun o' e' hn => ?_
    rw [e] at e'; cases e'
    exact absurd hc hn
theorem RelH.tups {c : Cx} {H : AH} {s : Shared} (R : RelH c H s) {h' : Heap} (m : Moves H s.heap h') : Tups s.heap h' := fun b o vs n e hc hd => by
  refine el1_2 (m b o e (R.none_of_tup e hc)) fun o' e' sm => ?_
  rw [e', sm.eq fun es k q => by rw [hd] at q; cases q]

theorem Ns_same {h h' : Heap} {a : Addr} {mc : Str → Option Value} (hn : h.Ns a mc) (m : ∀ o, h.get? a = some o → ∃ o', h'.get? a = some o' ∧ Same o o') : h'.Ns a mc := by
  refine el3_3 hn fun o es ep e d r => ?_; try clear hn
  refine el1_2 (m o e) fun o' e' s => ?_
  exact (mk3_3 o' es ep e' (s.data.trans d) r)

theorem frames_next {h h' B : Heap} : ∀ {Fs : List Env}, h.FunFrames B Fs → (∀ L ∈ Fs.filterMap (·.frame), ∀ o, h.get? L = some o → ∃ o', h'.get? L = some o' ∧ o'.data = o.data) → h'.FunFrames B Fs
  | [], _, _ => trivial
  | env :: rest, ⟨hk, ⟨L, o, hf, hn, ho, hd⟩, hr⟩, k => by
    obtain ⟨o', ho', hd'⟩ := k L (by rw [List.filterMap_cons, hf]; exact .head _) o ho
    refine ⟨hk, ⟨L, o', hf, hn, ho', fun vs => hd' ▸ hd vs⟩, frames_next hr fun L' hL' => k L' ?_⟩
    rw [List.filterMap_cons, hf]; exact .tail _ hL'

theorem RelH.next {c : Cx} {H H' : AH} {s : Shared} (R : RelH c H s) {h' : Heap} {tk : Nat} (m : Moves H s.heap h') (g : Grow H H' s.heap) (base : c.B.StaysIn h')
    (objs : ∀ a o, H' a = some o → OR c.w h' H' a o) (offB : ∀ a o, H' a = some o → c.B.get? a = none) : RelH c H' { s with heap := h', toks := tk } where
  gens := R.gens
  os := R.os
  hb := R.hb
  base := base
  since := R.since.trans R.grow m
  grow := R.grow.trans R.since g
  objs := objs
  offB := offB
  frames := frames_next R.frames fun L hL o e => by refine el1_2 (m L o e (R.offF L hL)) fun o' e' s => ?_; exact (mk1_2 o' e' s.data)
  offF := fun L hL => by
    refine el0_2 (R.frames.mem hL) fun _ z14 => ?_; refine el1_2 z14 fun o e _ => ?_
    exact g.1 L o e (R.offF L hL)
  dfr := fun L hL => by
    refine el3_2 (R.dfr L hL) fun o es n e hd => ?_
    refine el1_2 (m L o e (R.offF L hL)) fun o' e' s => ?_
    exact (mk3_2 o' es n e' (s.data.trans hd))

theorem Rel.next {c : Cx} {mm : Str → Option V} {H H' : AH} {s : Shared} (R : Rel c mm H s) {s' : Shared} (R' : RelH c H' s') (m : Moves H s.heap s'.heap) (g : Grow H H' s.heap) : Rel c mm H' s' where
  toRelH := R'
  locs := by
    refine el1_2 R.locs fun mc hn k => ?_
    refine (mk1_2 mc (Ns_same hn fun o e => m _ o e R.offL) (fun x d e hk => ?_))
    refine el1_2 (k x d e hk) fun v e' r => ?_
    exact (mk1_2 v e' (r.mono (R.tups m)))
  offL := by
    refine el1_2 R.locs fun mc z15 _ => ?_; obtain ⟨o, _, _, e, _⟩ := z15
    exact g.1 _ o e R.offL
  newL := R.newL
  baseL := R.baseL
  cells := fun x a e => by
    refine el0_5 (R.cells x a e) fun h1 h2 h3 h4 z16 => ?_; refine el2_3 z16 fun v o h5 h6 h7 => ?_
    refine el1_2 (m a o h5 h1) fun o' e' sm => ?_
    refine (mk0_5 (g.1 a o h5 h1) h2 h3 h4  (mk2_3 v o' e' (sm.data.trans h6) (fun d hd hk => ?_)))
    refine el1_2 (h7 d hd hk) fun v' e1 r => ?_
    exact (mk1_2 v' e1 (r.mono (R.tups m)))

theorem RelH.tick {c : Cx} {H : AH} {s : Shared} (R : RelH c H s) (tk : Nat) : RelH c H { s with toks := tk } := ⟨R.gens, R.os, R.hb, R.base, R.since, R.grow, R.objs, R.offB, R.frames, R.dfr, R.offF⟩
theorem Rel.tick {c : Cx} {mm : Str → Option V} {H : AH} {s : Shared} (R : Rel c mm H s) (tk : Nat) : Rel c mm H { s with toks := tk } := ⟨R.toRelH.tick tk, R.locs, R.offL, R.newL, R.baseL, R.cells⟩

theorem RelH.ext {c : Cx} {H : AH} {s : Shared} (R : RelH c H s) {h' : Heap} {tk : Nat} (k : ∀ b o, s.heap.get? b = some o → h'.get? b = some o) : RelH c H { s with heap := h', toks := tk } :=
  R.next (.of_keeps k) (.refl ..) (fun b o e => k b o (R.base b o e)) (fun a o e => by
    have r := R.objs a o e
    refine el1_2 r.there fun ob e1 _ => ?_
    refine r.mono ((k a ob e1).trans e1.symm) (.of_keeps k) fun d q => ?_
    refine el0_2 (r.dct q) fun z17 _ => ?_; refine el2_1 z17 fun _ _ e5 => ?_
    exact ⟨(k _ _ e5).trans e5.symm, rfl⟩) R.offB
theorem Rel.ext {c : Cx} {mm : Str → Option V} {H : AH} {s : Shared} (R : Rel c mm H s) {h' : Heap} {tk : Nat} (k : ∀ b o, s.heap.get? b = some o → h'.get? b = some o) : Rel c mm H { s with heap := h', toks := tk } :=
  R.next (R.toRelH.ext k) (.of_keeps k) (.refl ..)

theorem RelH.new {c : Cx} {H : AH} {s : Shared} (R : RelH c H s) {h' : Heap} {tk : Nat} {a : Addr} {o : O} (k : ∀ b o, s.heap.get? b = some o → h'.get? b = some o) (hn : s.heap.get? a = none)
    (ho : OR c.w h' (H.set a o) a o) (hp : ∀ a' o', H a' = some o' → o'.dct ≠ some a) : RelH c (H.set a o) { s with heap := h', toks := tk } ∧ Moves H s.heap h' ∧ Grow H (H.set a o) s.heap := by
  have g : Grow H (H.set a o) s.heap := ⟨fun b ob e n => by
    rw [AH.set_other H o (by rintro rfl; rw [hn] at e; cases e)]; exact n, fun b ob e => by
    by_cases q : b = a
    · subst q; exact ⟨o, AH.set_self ..⟩
    · exact ⟨ob, by rw [AH.set_other H o q]; exact e⟩⟩
  refine ⟨R.next (.of_keeps k) g (fun b o e => k b o (R.base b o e)) (fun b ob e => ?_) (fun b ob e => ?_), .of_keeps k, g⟩
  · by_cases q : b = a
    · subst q; rw [AH.set_self] at e; cases e; exact ho
    · rw [AH.set_other H o q] at e
      have r := R.objs b ob e
      refine el1_2 r.there fun ob' e1 _ => ?_
      refine r.mono ((k b ob' e1).trans e1.symm) (.of_keeps k) fun d q' => ?_
      refine el0_2 (r.dct q') fun z18 _ => ?_; refine el2_1 z18 fun _ _ e5 => ?_
      refine ⟨(k _ _ e5).trans e5.symm, AH.set_other H o ?_⟩
      rintro rfl
      exact hp b ob e q'
  · by_cases q : b = a
    · subst q
      cases z : c.B.get? b with
      | none => rfl
      | some x => rw [R.base b x z] at hn; cases hn
    · rw [AH.set_other H o q] at e; exact R.offB b ob e

theorem RelH.upd {c : Cx} {H : AH} {s : Shared} (R : RelH c H s) {h' : Heap} {tk : Nat} {a : Addr} {o o' : O} (ha : H a = some o) (hp : o.plain = true) (hs : Heap.SameBut a s.heap h')
    (ho : ∀ T : Tups s.heap h', OR c.w h' (H.set a o') a o') : RelH c (H.set a o') { s with heap := h', toks := tk } ∧ Moves H s.heap h' ∧ Grow H (H.set a o') s.heap := by
  have m : Moves H s.heap h' := fun b ob e n => (mk1_2 ob ((hs.2 b (by rintro rfl; rw [ha] at n; cases n)).trans e) (.refl _))
  have g : Grow H (H.set a o') s.heap := ⟨fun b ob e n => by
    rw [AH.set_other H o' (by rintro rfl; rw [ha] at n; cases n)]; exact n, fun b ob e => by
    by_cases q : b = a
    · subst q; exact ⟨o', AH.set_self ..⟩
    · exact ⟨ob, by rw [AH.set_other H o' q]; exact e⟩⟩
  have T := R.tups m
  refine ⟨R.next m g (fun b ob e => (hs.2 b (by rintro rfl; have := R.offB b o ha; rw [this] at e; cases e)).trans (R.base b ob e)) (fun b ob e => ?_) (fun b ob e => ?_), m, g⟩
  · by_cases q : b = a
    · subst q; rw [AH.set_self] at e; cases e; exact ho T
    · rw [AH.set_other H o' q] at e
      have r := R.objs b ob e
      refine r.mono (hs.2 b q) T fun d q' => ?_
      refine el0_2 (r.dct q') fun _ e6 => ?_
      have hda : d ≠ a := by rintro rfl; rw [ha] at e6; cases e6; cases hp
      exact ⟨hs.2 d hda, AH.set_other H o' hda⟩
  · by_cases q : b = a
    · subst q; exact R.offB b o ha
    · rw [AH.set_other H o' q] at e; exact R.offB b ob e
section
variable {h : Heap} {a b c d e f : V} {vs : List Value}
theorem VRs.un {ds : List V} {P : List Value → Prop} (r : VRs h vs (d :: ds)) (k : ∀ v vs', VR h v d → VRs h vs' ds → P (v :: vs')) : P vs := by
  cases r with | cons a b => exact k _ _ a b
theorem VRs.no {P : List Value → Prop} (r : VRs h vs []) (k : P []) : P vs := by
  cases r; exact k
theorem VRs.of1 {P : List Value → Prop} (r : VRs h vs [a]) (k : ∀ u, VR h u a → P [u]) : P vs :=
  r.un fun u _ x r => r.no (P := fun l => P (u :: l)) (k u x)
theorem VRs.of2 {P : List Value → Prop} (r : VRs h vs [a, b]) (k : ∀ u v, VR h u a → VR h v b → P [u, v]) : P vs :=
  r.un fun u _ x r => r.of1 (P := fun l => P (u :: l)) fun v y => k u v x y
theorem VRs.of3 {P : List Value → Prop} (r : VRs h vs [a, b, c]) (k : ∀ u v w, VR h u a → VR h v b → VR h w c → P [u, v, w]) : P vs :=
  r.un fun u _ x r => r.of2 (P := fun l => P (u :: l)) fun v w y z => k u v w x y z
theorem VRs.of4 {P : List Value → Prop} (r : VRs h vs [a, b, c, d]) (k : ∀ u v w t, VR h u a → VR h v b → VR h w c → VR h t d → P [u, v, w, t]) : P vs :=
  r.un fun u _ x r => r.of3 (P := fun l => P (u :: l)) fun v w t y z q => k u v w t x y z q
theorem VRs.of5 {P : List Value → Prop} (r : VRs h vs [a, b, c, d, e]) (k : ∀ u v w t s, VR h u a → VR h v b → VR h w c → VR h t d → VR h s e → P [u, v, w, t, s]) : P vs :=
  r.un fun u _ x r => r.of4 (P := fun l => P (u :: l)) fun v w t s y z q o => k u v w t s x y z q o
theorem VRs.of6 {P : List Value → Prop} (r : VRs h vs [a, b, c, d, e, f]) (k : ∀ u v w t s i, VR h u a → VR h v b → VR h w c → VR h t d → VR h s e → VR h i f → P [u, v, w, t, s, i]) : P vs :=
  r.un fun u _ x r => r.of5 (P := fun l => P (u :: l)) fun v w t s i y z q o j => k u v w t s i x y z q o j
theorem VR.ref_inv {v : Value} {p : Addr} (r : VR h v (.ref p)) : v = .ref p := by cases r; rfl
theorem VR.none_inv {v : Value} (r : VR h v .none) : v = .none := by cases r; rfl
theorem VR.bool_inv {v : Value} {x : Bool} (r : VR h v (.bool x)) : v = .bool x := by cases r; rfl
theorem VR.intE {v : Value} {i : Int} {P : Value → Prop} (r : VR h v (.int i)) (k : ∀ t, P (.int i t)) : P v := by cases r; exact k _
theorem VR.strE {v : Value} {x : Str} {P : Value → Prop} (r : VR h v (.str x)) (k : ∀ t, P (.str x t)) : P v := by cases r; exact k _
theorem VR.refE {v : Value} {p : Addr} {P : Value → Prop} (r : VR h v (.ref p)) (k : P (.ref p)) : P v := by cases r; exact k
theorem VR.boolE {v : Value} {b : Bool} {P : Value → Prop} (r : VR h v (.bool b)) (k : P (.bool b)) : P v := by cases r; exact k
theorem VR.noneE {v : Value} {P : Value → Prop} (r : VR h v .none) (k : P .none) : P v := by cases r; exact k
theorem VR.tyE {v : Value} {n : String} {P : Value → Prop} (r : VR h v (.ty n)) (k : P (.type n)) : P v := by cases r; exact k
theorem VR.refQ {v : Value} {a : V} {p : Addr} {P : Value → Prop} (r : VR h v a) (e : a = .ref p) (k : P (.ref p)) : P v := by subst e; cases r; exact k
theorem VR.int_inv {v : Value} {i : Int} (r : VR h v (.int i)) : ∃ t, v = .int i t := by cases r; exact ⟨_, rfl⟩
theorem VR.str_inv {v : Value} {x : Str} (r : VR h v (.str x)) : ∃ t, v = .str x t := by cases r; exact ⟨_, rfl⟩
end
theorem lenC {α : Type} {l : List α} {n : Nat} {P : List α → Prop} (h : l.length = n + 1) (k : ∀ a t, t.length = n → P (a :: t)) : P l := by
  cases l with
  | nil => cases h
  | cons a t => exact k a t (Nat.succ.inj h)
theorem len0 {α : Type} {l : List α} {P : List α → Prop} (h : l.length = 0) (k : P []) : P l := by
  cases l with
  | nil => exact k
  | cons a t => cases h
theorem clash {α β : Type} {f : α → Option β} {a b : α} {o : β} {g : Prop} (h1 : f a = none) (h2 : f b = some o) (z : a = b) : g := by subst z; rw [h1] at h2; cases h2
theorem noSome {α : Type} {x : α} {g : Prop} (h : none = some x) : g := by cases h
theorem notIn {α : Type} {x : α} {g : Prop} (h : x ∈ ([] : List α)) : g := by cases h
theorem hide {g : Prop} (h : ∀ G : Prop, (g → G) → G) : g := h g id
noncomputable abbrev M (w : World) : Model := model pw w
noncomputable abbrev Loc := Str → Option V
noncomputable abbrev ER := Value → Shared → Prop
noncomputable def Loc.set (m : Loc) (x : Str) (d : V) : Loc := fun y => if y = x then some d else m y

structure CxOk (lv : Nat) (c : Cx) : Prop where
  kind : c.env.scope.kind = .function
  globals : c.env.globals = mainGlobals
  builtins : c.env.builtins = builtinsNs
  handled : c.A.handled = none
  depth : c.A.depth + 5 * lv + 100 < recursionLimit
  units : c.A.units + 20 * lv + 500 < cLine
  frames : c.A.frames = some c.Fs
  top : ∃ e l, c.Fs = e :: l ∧ e.scope.isGenerator = false ∧ e.scope.isCoroutine = false ∧ e.globals = mainGlobals ∧ e.builtins = builtinsNs

noncomputable def EvP (c : Cx) (m : Loc) (H : AH) (Q : V → AH → Prop) (s : Shared) (v : Value) (s' : Shared) : Prop :=
  ∃ d H', Q d H' ∧ VR s'.heap v d ∧ Rel c m H' s' ∧ Moves H s.heap s'.heap ∧ Grow H H' s.heap
noncomputable def Ev (c : Cx) (E : ER) (e : Expr) (m : Loc) (H : AH) (Q : V → AH → Prop) : Prop :=
  ∀ s, Rel c m H s → wpAny (M c.w) c.A (eval e c.env) (EvP c m H Q s) E s
noncomputable def TrP (c : Cx) (m : Loc) (H : AH) (Q : Bool → AH → Prop) (s : Shared) (b : Bool) (s' : Shared) : Prop :=
  ∃ H', Q b H' ∧ Rel c m H' s' ∧ Moves H s.heap s'.heap ∧ Grow H H' s.heap
noncomputable def Tr (c : Cx) (E : ER) (e : Expr) (m : Loc) (H : AH) (Q : Bool → AH → Prop) : Prop :=
  ∀ s, Rel c m H s → wpAny (M c.w) c.A (PySem.isTrue e c.env (eval e c.env)) (TrP c m H Q s) E s
noncomputable def EsP (c : Cx) (m : Loc) (H : AH) (Q : List V → AH → Prop) (s : Shared) (vs : List Value) (s' : Shared) : Prop :=
  ∃ ds H', Q ds H' ∧ VRs s'.heap vs ds ∧ Rel c m H' s' ∧ Moves H s.heap s'.heap ∧ Grow H H' s.heap
noncomputable def Evs (c : Cx) (E : ER) (es : List Expr) (m : Loc) (H : AH) (Q : List V → AH → Prop) : Prop :=
  ∀ pos s, Rel c m H s → wpAny (M c.w) c.A (spliced (backTo pos (starEach es c.env))) (EsP c m H Q s) E s
noncomputable def Op1 (c : Cx) (E : ER) (t : Value → Sem Value) (a : V) (m : Loc) (H : AH) (Q : V → AH → Prop) : Prop :=
  ∀ va s, VR s.heap va a → Rel c m H s → wpAny (M c.w) c.A (t va) (EvP c m H Q s) E s
noncomputable def Op2 (c : Cx) (E : ER) (t : Value → Value → Sem Value) (a b : V) (m : Loc) (H : AH) (Q : V → AH → Prop) : Prop :=
  ∀ va vb s, VR s.heap va a → VR s.heap vb b → Rel c m H s → wpAny (M c.w) c.A (t va vb) (EvP c m H Q s) E s
noncomputable def OpN (c : Cx) (E : ER) (t : List Value → Sem Value) (as : List V) (m : Loc) (H : AH) (Q : V → AH → Prop) : Prop :=
  ∀ vs s, VRs s.heap vs as → Rel c m H s → wpAny (M c.w) c.A (t vs) (EvP c m H Q s) E s

section
variable {lv : Nat} {c : Cx} {E : ER} {m : Loc} {H : AH} {s : Shared}

theorem Rel.here (R : Rel c m H s) {Q : V → AH → Prop} {v : Value} {d : V} {tk : Nat} (q : Q d H) (r : VR s.heap v d) : EvP c m H Q s v { s with toks := tk } :=
  ⟨d, H, q, r, R.tick tk, .refl _ _, .refl _ _⟩

theorem EvP.trans {H₁ : AH} {s₁ s₂ : Shared} {Q : V → AH → Prop} {v : Value} (mv : Moves H s.heap s₁.heap) (g : Grow H H₁ s.heap) (h : EvP c m H₁ Q s₁ v s₂) : EvP c m H Q s v s₂ := by
  refine el2_5 h fun d H' q r R mv' g' => ?_; try clear h
  exact (mk2_5 d H' q r R (mv.trans g mv') (g.trans mv g'))
theorem TrP.trans {H₁ : AH} {s₁ s₂ : Shared} {Q : Bool → AH → Prop} {b : Bool} (mv : Moves H s.heap s₁.heap) (g : Grow H H₁ s.heap) (h : TrP c m H₁ Q s₁ b s₂) : TrP c m H Q s b s₂ := by
  refine el1_4 h fun H' q R mv' g' => ?_; try clear h
  exact (mk1_4 H' q R (mv.trans g mv') (g.trans mv g'))
theorem EsP.trans {H₁ : AH} {s₁ s₂ : Shared} {Q : List V → AH → Prop} {v : List Value} (mv : Moves H s.heap s₁.heap) (g : Grow H H₁ s.heap) (h : EsP c m H₁ Q s₁ v s₂) : EsP c m H Q s v s₂ := by
  refine el2_5 h fun d H' q r R mv' g' => ?_; try clear h
  exact (mk2_5 d H' q r R (mv.trans g mv') (g.trans mv g'))

theorem Ev.mono {e : Expr} {Q Q' : V → AH → Prop} (h : Ev c E e m H Q) (k : ∀ d H', Q d H' → Q' d H') : Ev c E e m H Q' := fun s R =>
  wpAny_mono (h s R) (fun _ _ z1 => el2_2 z1 fun d H' q r => (mk2_2 d H' (k d H' q) r)) fun _ _ x => x

theorem Ev.int {i : Int} {k : Nat} {pos : Pos} {Q : V → AH → Prop} (q : Q (.int i) H) : Ev c E (.Constant (.int i) k pos) m H Q := fun _ R => wpAny_Constant_int (R.here q (.int ..))
theorem Ev.str {x : Str} {k : Nat} {pos : Pos} {Q : V → AH → Prop} (q : Q (.str x) H) : Ev c E (.Constant (.str x) k pos) m H Q := fun _ R => Calls.Constant_str (R.here q (.str ..))
theorem Ev.bool {x : Bool} {k : Nat} {pos : Pos} {Q : V → AH → Prop} (q : Q (.bool x) H) : Ev c E (.Constant (.bool x) k pos) m H Q := fun s R => Constant_bool (R.here (tk := s.toks) q (.bool ..))
theorem Ev.none {k : Nat} {pos : Pos} {Q : V → AH → Prop} (q : Q .none H) : Ev c E (.Constant .none k pos) m H Q := fun s R => wpAny_Constant_none (R.here (tk := s.toks) q .none)

theorem Ev.name {x : Str} {pos : Pos} {d : V} {Q : V → AH → Prop} (hc : CxOk lv c) (hx : m x = some d) (hk : c.env.kindOf x = some .local) (q : Q d H) (hd : (x == ("__debug__" : Str)) = false := by decide) : Ev c E (.Name x pos) m H Q := fun s R => by
  refine el1_2 R.locs fun mc hn k => ?_
  refine el1_2 (k x d hx hk) fun v e r => ?_
  exact wpAny_Name (wpAny_loadName_local hc.kind hk hn e (R.here (tk := s.toks) q r)) hd
theorem Ev.cell {x : Str} {pos : Pos} {d : V} {a : Addr} {Q : V → AH → Prop} (hc : CxOk lv c) (hx : m x = some d) (hk : c.env.kindOf x = some .cell) (ha : c.env.cells.lookup x = some a) (q : Q d H) (hd : (x == ("__debug__" : Str)) = false := by decide) : Ev c E (.Name x pos) m H Q := fun s R => by
  refine el0_5 (R.cells x a ha) fun _ _ _ _ z2 => ?_; refine el2_3 z2 fun v o h5 h6 h7 => ?_
  refine el1_2 (h7 d hx (.inl hk)) fun v' z3 r => ?_; subst z3
  exact wpAny_Name (wpAny_loadName_cell hc.kind hk ha ⟨o, h5, h6⟩ (R.here (tk := s.toks) q r)) hd
theorem Ev.free {x : Str} {pos : Pos} {d : V} {a : Addr} {Q : V → AH → Prop} (hc : CxOk lv c) (hx : m x = some d) (hk : c.env.kindOf x = some .free) (ha : c.env.cells.lookup x = some a) (q : Q d H) (hd : (x == ("__debug__" : Str)) = false := by decide) (hn : (x == ("__classdict__" : Str)) = false := by decide) : Ev c E (.Name x pos) m H Q := fun s R => by
  refine el0_5 (R.cells x a ha) fun _ _ _ _ z4 => ?_; refine el2_3 z4 fun v o h5 h6 h7 => ?_
  refine el1_2 (h7 d hx (.inr hk)) fun v' z5 r => ?_; subst z5
  exact wpAny_Name (wpAny_loadName_free hc.kind hk ha ⟨o, h5, h6⟩ (R.here (tk := s.toks) q r) hn) hd

theorem Ev.bin {l r : Expr} {op : Operator} {pos : Pos} {Q : V → AH → Prop} (h : Ev c E l m H fun a H₁ => Ev c E r m H₁ fun b H₂ => Op2 c E (binaryOp op) a b m H₂ Q) : Ev c E (.BinOp l op r pos) m H Q := fun s R => by
  refine wpAny_BinOp (wpAny_mono (h s R) (fun va s₁ z6 => el2_5 z6 fun a H₁ h₁ r₁ R₁ m₁ g₁ => ?_) fun _ _ x => x)
  refine wpAny_mono (h₁ s₁ R₁) (fun vb s₂ z7 => el2_5 z7 fun b H₂ h₂ r₂ R₂ m₂ g₂ => ?_) fun _ _ x => x
  exact wpAny_mono (h₂ va vb s₂ (r₁.mono (R₁.tups m₂)) r₂ R₂) (fun v s₃ h₃ => (h₃.trans m₂ g₂).trans m₁ g₁) fun _ _ x => x
theorem Ev.cmp {l r : Expr} {op : CmpOp} {pos : Pos} {Q : V → AH → Prop} (h : Ev c E l m H fun a H₁ => Ev c E r m H₁ fun b H₂ => Op2 c E (compareOp op) a b m H₂ Q) (hb : behindInMarks op r = false := by rfl) : Ev c E (.Compare l [op] [r] pos) m H Q := fun s R => by
  refine wpAny_Compare1 (wpAny_mono (h s R) (fun va s₁ z8 => el2_5 z8 fun a H₁ h₁ r₁ R₁ m₁ g₁ => ?_) fun _ _ x => x) hb
  refine wpAny_mono (h₁ s₁ R₁) (fun vb s₂ z9 => el2_5 z9 fun b H₂ h₂ r₂ R₂ m₂ g₂ => ?_) fun _ _ x => x
  exact wpAny_mono (h₂ va vb s₂ (r₁.mono (R₁.tups m₂)) r₂ R₂) (fun v s₃ h₃ => (h₃.trans m₂ g₂).trans m₁ g₁) fun _ _ x => x
theorem Tr.cmp {l r : Expr} {op : CmpOp} {pos : Pos} {Q : Bool → AH → Prop} (h : Ev c E l m H fun a H₁ => Ev c E r m H₁ fun b H₂ => Op2 c E (compareOp op) a b m H₂ fun v H₃ => ∃ t, v = .bool t ∧ Q t H₃) (hb : behindInMarks op r = false := by rfl) : Tr c E (.Compare l [op] [r] pos) m H Q := fun s R => by
  refine wpAny_isTrue_Compare1 (wpAny_mono (h s R) (fun va s₁ z10 => el2_5 z10 fun a H₁ h₁ r₁ R₁ m₁ g₁ => ?_) fun _ _ x => x) hb
  refine wpAny_mono (h₁ s₁ R₁) (fun vb s₂ z11 => el2_5 z11 fun b H₂ h₂ r₂ R₂ m₂ g₂ => ?_) fun _ _ x => x
  refine wpAny_mono (h₂ va vb s₂ (r₁.mono (R₁.tups m₂)) r₂ R₂) (fun v s₃ z12 => el2_5 z12 fun d H₃ z13 r₃ R₃ m₃ g₃ => el1_2 z13 fun t e q => ?_) fun _ _ x => x
  subst e
  cases r₃
  exact wpAny_truthy_bool ((TrP.trans m₂ g₂ ⟨H₃, q, R₃, m₃, g₃⟩).trans m₁ g₁)
theorem Tr.not {x : Expr} {pos : Pos} {Q : Bool → AH → Prop} (h : Tr c E x m H fun b H' => Q (!b) H') : Tr c E (.UnaryOp .Not x pos) m H Q := fun s R =>
  isTrue_not (wpAny_mono (h s R) (fun _ _ z14 => el1_2 z14 fun H' q r => (mk1_2 H' q r)) fun _ _ x => x)
theorem Tr.ev {e : Expr} {Q : Bool → AH → Prop} (h : Ev c E e m H fun v H' => ∃ t, v = .bool t ∧ Q t H') (hp : ∀ whole, PySem.isTrue e c.env whole = (do let v ← whole; standAt e.pos; holding [v] (truthy v)) := by intro _; rfl) : Tr c E e m H Q := fun s R => by
  refine isTrue_plain (wpAny_mono (h s R) (fun v s₁ z15 => el2_5 z15 fun d H₁ z16 r₁ R₁ m₁ g₁ => el1_2 z16 fun t e q => ?_) fun _ _ x => x) (hp _)
  subst e
  cases r₁
  exact wpAny_truthy_bool ⟨H₁, q, R₁, m₁, g₁⟩

noncomputable def TrL (c : Cx) (E : ER) (op : BoolOp) (es : List Expr) (m : Loc) (H : AH) (Q : Bool → AH → Prop) : Prop :=
  ∀ pos whole s, Rel c m H s → wpAny (M c.w) c.A (PySem.isTrue (.BoolOp op es pos) c.env whole) (TrP c m H Q s) E s
theorem TrL.and_nil {Q : Bool → AH → Prop} (q : Q true H) : TrL c E .And [] m H Q := fun _ _ s R => isTrue_and_nil ⟨H, q, R, .refl _ _, .refl _ _⟩
theorem TrL.or_nil {Q : Bool → AH → Prop} (q : Q false H) : TrL c E .Or [] m H Q := fun _ _ s R => isTrue_or_nil ⟨H, q, R, .refl _ _, .refl _ _⟩
theorem TrL.and {x : Expr} {rest : List Expr} {Q : Bool → AH → Prop} (h : Tr c E x m H fun b H₁ => if b = true then TrL c E .And rest m H₁ Q else Q false H₁) : TrL c E .And (x :: rest) m H Q := fun pos whole s R => by
  refine isTrue_and (wpAny_mono (h s R) (fun b s₁ z17 => el1_4 z17 fun H₁ q R₁ m₁ g₁ => ?_) fun _ _ x => x)
  cases b with
  | true => exact wpAny_mono (q pos whole s₁ R₁) (fun _ _ h => h.trans m₁ g₁) fun _ _ x => x
  | false => exact (mk1_4 H₁ q R₁ m₁ g₁)
theorem TrL.or {x : Expr} {rest : List Expr} {Q : Bool → AH → Prop} (h : Tr c E x m H fun b H₁ => if b = true then Q true H₁ else TrL c E .Or rest m H₁ Q) : TrL c E .Or (x :: rest) m H Q := fun pos whole s R => by
  refine isTrue_or (wpAny_mono (h s R) (fun b s₁ z18 => el1_4 z18 fun H₁ q R₁ m₁ g₁ => ?_) fun _ _ x => x)
  cases b with
  | false => exact wpAny_mono (q pos whole s₁ R₁) (fun _ _ h => h.trans m₁ g₁) fun _ _ x => x
  | true => exact (mk1_4 H₁ q R₁ m₁ g₁)
theorem Tr.boolOp {op : BoolOp} {es : List Expr} {pos : Pos} {Q : Bool → AH → Prop} (h : TrL c E op es m H Q) : Tr c E (.BoolOp op es pos) m H Q := fun s R => h pos _ s R
theorem Ev.ifExp {t b o : Expr} {pos : Pos} {Q : V → AH → Prop} (h : Tr c E t m H fun x H₁ => if x = true then Ev c E b m H₁ Q else Ev c E o m H₁ Q) : Ev c E (.IfExp t b o pos) m H Q := fun s R => by
  refine IfExp_ (wpAny_mono (h s R) (fun b s₁ z19 => el1_4 z19 fun H₁ q R₁ m₁ g₁ => ?_) fun _ _ x => x)
  cases b with
  | true => rw [if_pos rfl] at q ⊢; exact wpAny_mono (q s₁ R₁) (fun _ _ h => h.trans m₁ g₁) fun _ _ x => x
  | false => rw [if_neg Bool.false_ne_true] at q ⊢; exact wpAny_mono (q s₁ R₁) (fun _ _ h => h.trans m₁ g₁) fun _ _ x => x

theorem Evs.nil {Q : List V → AH → Prop} (q : Q [] H) : Evs c E [] m H Q := fun _ s R => spliced_none ⟨[], H, q, .nil, R, .refl _ _, .refl _ _⟩
theorem Evs.cons {e : Expr} {es : List Expr} {Q : List V → AH → Prop} (h : Ev c E e m H fun d H₁ => Evs c E es m H₁ fun ds H₂ => Q (d :: ds) H₂) (hs : starEach (e :: es) c.env = (false, eval e c.env) :: starEach es c.env := by rfl) : Evs c E (e :: es) m H Q := fun pos s R => by
  refine spliced_more (wpAny_mono (h s R) (fun v s₁ z20 => el2_5 z20 fun d H₁ h₁ r₁ R₁ m₁ g₁ => ?_) fun _ _ x => x) hs
  refine wpAny_mono (h₁ pos s₁ R₁) (fun vs s₂ z21 => el2_5 z21 fun ds H₂ q r₂ R₂ m₂ g₂ => ?_) fun _ _ x => x
  exact EsP.trans m₁ g₁ ⟨d :: ds, H₂, q, .cons (r₁.mono (R₁.tups m₂)) r₂, R₂, m₂, g₂⟩

theorem Ev.tuple {es : List Expr} {k : Nat} {pos : Pos} {Q : V → AH → Prop} (h : Evs c E es m H fun ds H' => Q (.tup ds) H' ∧ ds.length ≤ 1000) : Ev c E (.Tuple es k pos) m H Q := fun s R => by
  refine Tuple_ (wpAny_mono (h pos s R) (fun vs s₁ z22 => el2_5 z22 fun ds H₁ z23 r₁ R₁ m₁ g₁ => el0_2 z23 fun q hl => ?_) fun _ _ x => x)
  have k : ∀ b o, s₁.heap.get? b = some o → (s₁.heap.push { cls := .type "tuple", data := .seq vs.toArray }).get? b = some o := fun b o e => Heap.get?_push_of_some _ e
  refine wpAny_newObj_type (EvP.trans m₁ g₁ ⟨.tup ds, H₁, q, .tup (Heap.get?_push_size _ rfl) rfl rfl (r₁.mono (.of_keeps k)), R₁.ext k, .of_keeps k, .refl _ _⟩) ?_
  show vs.toArray.size ≤ sizeLine
  rw [List.size_toArray, r₁.length, sizeLine_eq]; (first | lia | omega)
theorem noInst {a : Addr} (R : Rel c m H s) (hn : s.heap.get? a = .none) : ∀ a' o', H a' = some o' → o'.dct ≠ some a := fun a' o' e q => by
  refine el0_2 ((R.objs a' _ e).dct q) fun z24 _ => ?_; refine el2_1 z24 fun _ _ e5 => ?_
  rw [hn] at e5; cases e5
theorem none_of_new {a : Addr} (R : Rel c m H s) (hn : s.heap.get? a = .none) : H a = .none := by
  cases q : H a with
  | none => rfl
  | some o => refine el1_2 ((R.objs a o q).there) fun ob e _ => ?_; rw [hn] at e; cases e
theorem size_none (h : Heap) : h.get? h.objs.size = .none := by
  cases q : h.get? h.objs.size with
  | none => rfl
  | some o => exact absurd (Heap.lt_size q) (Nat.lt_irrefl _)
theorem Ev.list {es : List Expr} {pos : Pos} {Q : V → AH → Prop} (h : Evs c E es m H fun ds H' => (∀ a, H' a = .none → Q (.ref a) (H'.set a (.list ds))) ∧ ds.length ≤ 1000) : Ev c E (.List es pos) m H Q := fun s R => by
  refine List_ (wpAny_mono (h pos s R) (fun vs s₁ z25 => el2_5 z25 fun ds H₁ z26 r₁ R₁ m₁ g₁ => el0_2 z26 fun q hl => ?_) fun _ _ x => x)
  have k : ∀ b o, s₁.heap.get? b = some o → (s₁.heap.push { cls := .type "list", data := .seq vs.toArray }).get? b = some o := fun b o e => Heap.get?_push_of_some _ e
  have hn := size_none s₁.heap
  refine el0_3 (R₁.toRelH.new (tk := s₁.toks) (o := .list ds) k hn ⟨vs, 0, Heap.get?_push_size _ rfl, r₁.mono (.of_keeps k)⟩ (noInst R₁ hn)) fun R₂ m₂ g₂ => ?_
  refine wpAny_newObj_type (EvP.trans m₁ g₁ ⟨_, _, q _ (none_of_new R₁ hn), .ref _, R₁.next R₂ m₂ g₂, m₂, g₂⟩) ?_
  show vs.toArray.size ≤ sizeLine
  rw [List.size_toArray, r₁.length, sizeLine_eq]; (first | lia | omega)
end
mutual
noncomputable def toP : V → PyData
  | .none => .none
  | .bool b => .bool b
  | .int i => .int i
  | .str x => .str x
  | .tup vs => .tuple (toPs vs)
  | .ref _ => .none
  | .ty _ => .none
noncomputable def toPs : List V → List PyData
  | [] => []
  | v :: vs => toP v :: toPs vs
end
noncomputable def vOk : Nat → V → Bool
  | _, .none => true
  | _, .int _ => true
  | _, .str x => PyData.strOk x
  | n + 1, .tup vs => vs.all (vOk n)
  | _, _ => false
theorem vOk_no {d : V} {P : Prop} (h0 : vOk 0 d = false) (h1 : ∀ n, vOk (n + 1) d = false) {n : Nat} (h : vOk n d = true) : P := by
  cases n with
  | zero => exact absurd (h0.symm.trans h) nofun
  | succ n => exact absurd ((h1 n).symm.trans h) nofun
theorem reads_all {h : Heap} : (∀ {v d}, VR h v d → ∀ n, vOk n d = true → ∃ as, Reads h v (toP d) as) ∧ ∀ {vs ds}, VRs h vs ds → ∀ n, (∀ d ∈ ds, vOk n d = true) → ∃ as, ReadsAll h vs (toPs ds) as := by
  have t : ∀ {a o vs n ds}, h.get? a = some o → o.cls = .type "tuple" → o.data = .seq vs.toArray n → VRs h vs ds → (∀ n, (∀ d ∈ ds, vOk n d = true) → ∃ as, ReadsAll h vs (toPs ds) as) → ∀ n, vOk n (.tup ds) = true → ∃ as, Reads h (.ref a) (toP (.tup ds)) as := by
    intro a o vs m ds e hc hd _ ih n hk
    cases n with
    | zero => simp [vOk] at hk
    | succ n =>
      refine el1_1 (ih n (by simpa [vOk] using hk)) fun as q => ?_
      rw [toP]
      exact (mk1_1 _ (reads_tuple_at e hc hd (by simpa using q)))
  have c : ∀ {v vs d ds}, VR h v d → VRs h vs ds → (∀ n, vOk n d = true → ∃ as, Reads h v (toP d) as) → (∀ n, (∀ d ∈ ds, vOk n d = true) → ∃ as, ReadsAll h vs (toPs ds) as) → ∀ n, (∀ e ∈ d :: ds, vOk n e = true) → ∃ as, ReadsAll h (v :: vs) (toPs (d :: ds)) as := by
    intro v vs d ds _ _ i j n hk
    refine el1_1 (i n (hk _ (.head _))) fun as q => ?_
    refine el1_1 (j n fun d hm => hk d (.tail _ hm)) fun bs p => ?_
    rw [toPs]
    exact (mk1_1 _ (ReadsAll.cons q p))
  constructor
  · intro v d r
    exact VR.rec (motive_1 := fun v d _ => ∀ n, vOk n d = true → ∃ as, Reads h v (toP d) as) (motive_2 := fun vs ds _ => ∀ n, (∀ d ∈ ds, vOk n d = true) → ∃ as, ReadsAll h vs (toPs ds) as)
      (fun _ _ => (mk1_1 _ Reads.none)) (fun b _ _ => (mk1_1 _ (Reads.bool b))) (fun i t _ _ => (mk1_1 _ (Reads.int i t))) (fun x t _ _ => (mk1_1 _ (Reads.str x t))) (fun _ _ hk => vOk_no rfl (fun _ => rfl) hk) (fun _ _ hk => vOk_no rfl (fun _ => rfl) hk) t (fun _ _ => (mk1_1 _ ReadsAll.nil)) c r
  · intro vs ds r
    exact VRs.rec (motive_1 := fun v d _ => ∀ n, vOk n d = true → ∃ as, Reads h v (toP d) as) (motive_2 := fun vs ds _ => ∀ n, (∀ d ∈ ds, vOk n d = true) → ∃ as, ReadsAll h vs (toPs ds) as)
      (fun _ _ => (mk1_1 _ Reads.none)) (fun b _ _ => (mk1_1 _ (Reads.bool b))) (fun i t _ _ => (mk1_1 _ (Reads.int i t))) (fun x t _ _ => (mk1_1 _ (Reads.str x t))) (fun _ _ hk => vOk_no rfl (fun _ => rfl) hk) (fun _ _ hk => vOk_no rfl (fun _ => rfl) hk) t (fun _ _ => (mk1_1 _ ReadsAll.nil)) c r
theorem VR.reads {h : Heap} {v : Value} {d : V} (n : Nat) (r : VR h v d) (k : vOk n d = true) : ∃ as, Reads h v (toP d) as := reads_all.1 r n k
theorem VRs.reads {h : Heap} {vs : List Value} {ds : List V} (n : Nat) (r : VRs h vs ds) (k : ∀ d ∈ ds, vOk n d = true) : ∃ as, ReadsAll h vs (toPs ds) as := reads_all.2 r n k
theorem toPs_lay (n : Nat) (ih : ∀ d, vOk n d = true → (toP d).canLay0 = true ∧ (toP d).depth ≤ n) : ∀ ds : List V, (∀ d ∈ ds, vOk n d = true) → PyData.canLayAll0 (toPs ds) = true ∧ PyData.depthAll (toPs ds) ≤ n := by
  intro ds
  induction ds with
  | nil => intro _; simp [toPs, PyData.canLayAll0, PyData.depthAll]
  | cons d ds hi =>
    intro h
    have h1 := ih d (h d (.head _))
    have h2 := hi fun e he => h e (.tail _ he)
    simp only [toPs, PyData.canLayAll0, PyData.depthAll, h1.1, h2.1, Bool.and_self, true_and]
    have a1 := h1.2
    have a2 := h2.2
    (first | lia | omega)
theorem toP_lay : ∀ (n : Nat) (d : V), vOk n d = true → (toP d).canLay0 = true ∧ (toP d).depth ≤ n := by
  intro n
  induction n with
  | zero => intro d h; cases d <;> simp_all [vOk, toP, PyData.canLay0, PyData.depth]
  | succ n ih =>
    intro d h
    cases d with
    | tup ds =>
      have q := toPs_lay n ih ds (by simpa [vOk] using h)
      have q2 := q.2
      simp only [toP, PyData.canLay0, PyData.depth, q.1, true_and]
      (first | lia | omega)
    | _ => simp_all [vOk, toP, PyData.canLay0, PyData.depth]
theorem toPs_eqv (n : Nat) (ih : ∀ d e k, vOk n d = true → vOk k e = true → (PyData.eqv (toP d) (toP e) = true ↔ d = e)) : ∀ (k : Nat) (ds es : List V), (∀ d ∈ ds, vOk n d = true) → (∀ d ∈ es, vOk k d = true) → (PyData.eqvAll (toPs ds) (toPs es) = true ↔ ds = es) := by
  intro k ds
  induction ds with
  | nil => intro es _ _; cases es <;> simp [toPs, PyData.eqvAll]
  | cons d ds hi =>
    intro es h1 h2
    cases es with
    | nil => simp [toPs, PyData.eqvAll]
    | cons e es =>
      have q1 := ih d e k (h1 d (.head _)) (h2 e (.head _))
      have q2 := hi es (fun x hx => h1 x (.tail _ hx)) fun x hx => h2 x (.tail _ hx)
      simp only [toPs, PyData.eqvAll, Bool.and_eq_true, q1, q2, List.cons.injEq]
theorem toP_eqv : ∀ (n : Nat) (d e : V) (k : Nat), vOk n d = true → vOk k e = true → (PyData.eqv (toP d) (toP e) = true ↔ d = e) := by
  intro n
  induction n with
  | zero => intro d e k h1 h2; cases d <;> cases e <;> cases k <;> simp_all [vOk, toP, PyData.eqv]
  | succ n ih =>
    intro d e k h1 h2
    cases d with
    | tup ds =>
      cases e with
      | tup es =>
        cases k with
        | zero => simp [vOk] at h2
        | succ k =>
          simp only [toP, PyData.eqv, V.tup.injEq]
          exact toPs_eqv n ih k ds es (by simpa [vOk] using h1) (by simpa [vOk] using h2)
      | _ => cases k <;> simp_all [vOk, toP, PyData.eqv]
    | _ => cases e <;> cases k <;> simp_all [vOk, toP, PyData.eqv]
theorem shaped_of {n : Nat} {d : V} (h : vOk n d = true) (hn : n ≤ 60) : SeqAt.shaped (toP d) = true := by
  have l := toP_lay n d h
  unfold SeqAt.shaped; rw [l.1, Bool.true_and]; exact decide_eq_true (Nat.le_trans l.2 (by (first | lia | omega)))
theorem shaped_list {n : Nat} {ds : List V} (h : ∀ d ∈ ds, vOk n d = true) (hn : n ≤ 60) : SeqAt.shaped (.list (toPs ds)) = true := by
  have l := toPs_lay n (toP_lay n) ds h
  have l2 := l.2
  unfold SeqAt.shaped
  simp only [PyData.canLay0, PyData.depth, l.1, Bool.true_and]
  exact decide_eq_true (by (first | lia | omega))

section
variable {lv : Nat} {c : Cx} {E : ER} {m : Loc} {H : AH} {s : Shared}

theorem Rel.nolimit (R : Rel c m H s) : s.heap.NoLimit := R.hb.nolimit.keeps R.base
theorem Rel.noseer (R : Rel c m H s) : s.heap.NoSeer := by
  refine el3_1 R.hb.top fun mg mb mean T => ?_
  exact (T.seer (by decide +kernel)).keeps R.base
theorem Rel.hereK (R : Rel c m H s) {Q : V → AH → Prop} {v : Value} {d : V} {h' : Heap} {tk : Nat} (k : ∀ b o, s.heap.get? b = some o → h'.get? b = some o) (q : Q d H) (r : VR h' v d) : EvP c m H Q s v { s with heap := h', toks := tk } :=
  ⟨d, H, q, r, R.ext k, .of_keeps k, .refl _ _⟩
theorem Rel.hereN (R : Rel c m H s) {Q : V → AH → Prop} {h' : Heap} {tk : Nat} {a : Addr} {o : O} (k : ∀ b o, s.heap.get? b = some o → h'.get? b = some o) (hn : s.heap.get? a = none)
    (ho : OR c.w h' (H.set a o) a o) (q : ∀ a, H a = .none → Q (.ref a) (H.set a o)) : EvP c m H Q s (.ref a) { s with heap := h', toks := tk } := by
  refine el0_3 (R.toRelH.new (tk := tk) k hn ho (noInst R hn)) fun R₂ m₂ g₂ => ?_
  exact (mk2_5 _ _ (q _ (none_of_new R hn)) (.ref _) (R.next R₂ m₂ g₂) m₂ g₂)
theorem Rel.hereU (R : Rel c m H s) {Q : V → AH → Prop} {h' : Heap} {tk : Nat} {a : Addr} {o o' : O} {v : Value} {d : V} (ha : H a = some o) (hp : o.plain = true) (hs : Heap.SameBut a s.heap h')
    (ho : ∀ _ : Tups s.heap h', OR c.w h' (H.set a o') a o') (hv : Tups s.heap h' → VR h' v d) (q : Q d (H.set a o')) : EvP c m H Q s v { s with heap := h', toks := tk } := by
  refine el0_3 (R.toRelH.upd (tk := tk) ha hp hs ho) fun R₂ m₂ g₂ => ?_
  exact (mk2_5 _ _ q (hv (R.tups m₂)) (R.next R₂ m₂ g₂) m₂ g₂)

-- ints
section
variable {i j : Int} {Q : V → AH → Prop}
theorem Op2.int_add (q : Q (.int (i + j)) H) : Op2 c E (binaryOp .Add) (.int i) (.int j) m H Q := fun va vb s ra rb R => by apply ra.intE; intro _; apply rb.intE; intro _; exact PyProof.Rows.add_int (R.here q (.int ..))
theorem Op2.int_sub (q : Q (.int (i - j)) H) : Op2 c E (binaryOp .Sub) (.int i) (.int j) m H Q := fun va vb s ra rb R => by apply ra.intE; intro _; apply rb.intE; intro _; exact PyProof.Rows.sub_int (R.here q (.int ..))
theorem Op2.int_mul (hb : IntMulOk i j) (q : Q (.int (i * j)) H) : Op2 c E (binaryOp .Mult) (.int i) (.int j) m H Q := fun va vb s ra rb R => by apply ra.intE; intro _; apply rb.intE; intro _; exact PyProof.Rows.mul_int (R.here q (.int ..)) hb
theorem Op2.int_mod (hj : j ≠ 0) (q : Q (.int (i.fmod j)) H) : Op2 c E (binaryOp .Mod) (.int i) (.int j) m H Q := fun va vb s ra rb R => by apply ra.intE; intro _; apply rb.intE; intro _; exact PyProof.Rows.mod_int' hj (R.here q (.int ..))
theorem Op2.int_floordiv (hc : CxOk lv c) (hj : j ≠ 0) (q : Q (.int (i.fdiv j)) H) : Op2 c E (binaryOp .FloorDiv) (.int i) (.int j) m H Q := fun va vb s ra rb R => by
  apply ra.intE; intro _; apply rb.intE; intro _
  refine el2_5 hc.top fun e l hf h1 h2 h3 h4 => ?_
  refine PyProof.Rows.floordiv_int hj (R.here q (.int ..)) (.inr (PylongRoom.of R.nolimit ?_ (SeerAt.of R.noseer rfl (hc.frames.trans (congrArg some hf)) h1 h2 h4 h3)))
  have h5 := hc.depth
  have h6 : Builtin.pylongFrames ≤ 100 := by decide
  (first | lia | omega)
theorem Op2.int_iadd (q : Q (.int (i + j)) H) : Op2 c E (inplaceOp .Add) (.int i) (.int j) m H Q := fun va vb s ra rb R => by apply ra.intE; intro _; apply rb.intE; intro _; exact PyProof.Rows.iadd_int (R.here q (.int ..))
theorem Op2.int_lt (q : Q (.bool (decide (i < j))) H) : Op2 c E (compareOp .Lt) (.int i) (.int j) m H Q := fun va vb s ra rb R => by apply ra.intE; intro _; apply rb.intE; intro _; exact PyProof.Rows.lt_int (R.here (tk := s.toks) q (.bool ..))
theorem Op2.int_gt (q : Q (.bool (decide (j < i))) H) : Op2 c E (compareOp .Gt) (.int i) (.int j) m H Q := fun va vb s ra rb R => by apply ra.intE; intro _; apply rb.intE; intro _; exact PyProof.Rows.gt_int (R.here (tk := s.toks) q (.bool ..))
theorem Op2.int_ge (q : Q (.bool (decide (j ≤ i))) H) : Op2 c E (compareOp .GtE) (.int i) (.int j) m H Q := fun va vb s ra rb R => by apply ra.intE; intro _; apply rb.intE; intro _; exact PyProof.Rows.ge_int (R.here (tk := s.toks) q (.bool ..))
theorem Op2.int_le (q : Q (.bool (decide (i ≤ j))) H) : Op2 c E (compareOp .LtE) (.int i) (.int j) m H Q := fun va vb s ra rb R => by apply ra.intE; intro _; apply rb.intE; intro _; exact PyProof.Rows.le_int (R.here (tk := s.toks) q (.bool ..))
theorem Op1.int_neg (q : Q (.int (-i)) H) : Op1 c E (unaryOp .USub) (.int i) m H Q := fun va s ra R => by apply ra.intE; intro _; exact PyProof.Rows.neg_int (R.here q (.int ..))
theorem Ev.unary {x : Expr} {op : UnaryOp} {pos : Pos} {Q : V → AH → Prop} (h : Ev c E x m H fun a H₁ => Op1 c E (unaryOp op) a m H₁ Q) : Ev c E (.UnaryOp op x pos) m H Q := fun s R => by
  refine wpAny_UnaryOp (wpAny_mono (h s R) (fun va s₁ z1 => el2_5 z1 fun a H₁ h₁ r₁ R₁ m₁ g₁ => ?_) fun _ _ x => x)
  exact wpAny_mono (h₁ va s₁ r₁ R₁) (fun v s₂ h₂ => h₂.trans m₁ g₁) fun _ _ x => x
end

-- equality of data
section
variable {a b : V} {n k : Nat} {Q : V → AH → Prop}
theorem Op2.eq (hc : CxOk lv c) (ha : vOk n a = true) (hb : vOk k b = true) (hn : n ≤ 60) (hk : k ≤ 60) (q : ∀ t : Bool, (t = true ↔ a = b) → Q (.bool t) H) : Op2 c E (compareOp .Eq) a b m H Q := fun va vb s ra rb R => by
  refine el1_1 (ra.reads n ha) fun as xa => ?_
  refine el1_1 (rb.reads k hb) fun bs xb => ?_
  have hu := hc.units
  exact eq_dataH xa xb (shaped_of ha hn) (shaped_of hb hk) (by (first | lia | omega)) (R.here (tk := s.toks) (q _ (toP_eqv n a b k ha hb)) (.bool ..))
theorem Op2.ne (hc : CxOk lv c) (ha : vOk n a = true) (hb : vOk k b = true) (hn : n ≤ 60) (hk : k ≤ 60) (q : ∀ t : Bool, (t = true ↔ a ≠ b) → Q (.bool t) H) : Op2 c E (compareOp .NotEq) a b m H Q := fun va vb s ra rb R => by
  refine el1_1 (ra.reads n ha) fun as xa => ?_
  refine el1_1 (rb.reads k hb) fun bs xb => ?_
  have hu := hc.units
  refine ne_dataH xa xb (shaped_of ha hn) (shaped_of hb hk) (by (first | lia | omega)) (R.here (tk := s.toks) (q _ ?_) (.bool ..))
  rw [Bool.not_eq_true', ← Bool.not_eq_true, toP_eqv n a b k ha hb]
variable {p p' : Addr} {xs ys : List V}
theorem listReads (R : Rel c m H s) (h1 : H p = some (.list xs)) (hx : ∀ d ∈ xs, vOk n d = true) : ∃ as, Reads s.heap (.ref p) (.list (toPs xs)) as := by
  refine el2_2 (R.objs p _ h1) fun vs n' e r => ?_
  refine el1_1 (r.reads n hx) fun as q => ?_
  exact ⟨_, reads_list_at e rfl rfl (by simpa using q)⟩
theorem Op2.eq_list (hc : CxOk lv c) (h1 : H p = some (.list xs)) (h2 : H p' = some (.list ys)) (hx : ∀ d ∈ xs, vOk n d = true) (hy : ∀ d ∈ ys, vOk k d = true) (hn : n ≤ 60) (hk : k ≤ 60) (q : ∀ t : Bool, (t = true ↔ xs = ys) → Q (.bool t) H) :
    Op2 c E (compareOp .Eq) (.ref p) (.ref p') m H Q := fun va vb s ra rb R => by
  apply ra.refE; apply rb.refE
  refine el1_1 (listReads R h1 hx) fun as xa => ?_
  refine el1_1 (listReads R h2 hy) fun bs xb => ?_
  have hu := hc.units
  exact eq_dataH xa xb (shaped_list hx hn) (shaped_list hy hk) (by (first | lia | omega)) (R.here (tk := s.toks) (q _ (by simpa only [PyData.eqv] using toPs_eqv n (fun d e k => toP_eqv n d e k) k xs ys hx hy)) (.bool ..))
theorem Op2.ne_list (hc : CxOk lv c) (h1 : H p = some (.list xs)) (h2 : H p' = some (.list ys)) (hx : ∀ d ∈ xs, vOk n d = true) (hy : ∀ d ∈ ys, vOk k d = true) (hn : n ≤ 60) (hk : k ≤ 60) (q : ∀ t : Bool, (t = true ↔ xs ≠ ys) → Q (.bool t) H) :
    Op2 c E (compareOp .NotEq) (.ref p) (.ref p') m H Q := fun va vb s ra rb R => by
  apply ra.refE; apply rb.refE
  refine el1_1 (listReads R h1 hx) fun as xa => ?_
  refine el1_1 (listReads R h2 hy) fun bs xb => ?_
  have hu := hc.units
  refine ne_dataH xa xb (shaped_list hx hn) (shaped_list hy hk) (by (first | lia | omega)) (R.here (tk := s.toks) (q _ ?_) (.bool ..))
  rw [Bool.not_eq_true', ← Bool.not_eq_true]
  simpa only [PyData.eqv, ne_eq] using not_congr (toPs_eqv n (fun d e k => toP_eqv n d e k) k xs ys hx hy)
theorem Op2.is_none (q : Q (.bool (match a with | .none => true | _ => false)) H) : Op2 c E (compareOp .Is) a .none m H Q := fun va vb s ra rb R => by
  apply rb.noneE
  refine PySem.is_none (R.here (tk := s.toks) q ?_)
  cases ra <;> exact .bool _
end
end
section
variable {lv : Nat} {c : Cx} {E : ER} {m : Loc} {H : AH} {s : Shared}

-- strs
section
variable {x y : Str} {i : Int} {Q : V → AH → Prop}
theorem Op2.str_add (hs : x.length + y.length ≤ 10000) (q : Q (.str (x ++ y)) H) : Op2 c E (binaryOp .Add) (.str x) (.str y) m H Q := fun va vb s ra rb R => by
  apply ra.strE; intro _; apply rb.strE; intro _
  exact PyProof.Rows.add_str (fun t tk => R.here q (.str ..)) (by rw [sizeLine_eq]; (first | lia | omega))
theorem Op2.str_eq (q : Q (.bool (x == y)) H) : Op2 c E (compareOp .Eq) (.str x) (.str y) m H Q := fun va vb s ra rb R => by apply ra.strE; intro _; apply rb.strE; intro _; exact PyProof.Rows.eq_str (R.here (tk := s.toks) q (.bool ..))
theorem Op2.str_ne (q : Q (.bool (x != y)) H) : Op2 c E (compareOp .NotEq) (.str x) (.str y) m H Q := fun va vb s ra rb R => by apply ra.strE; intro _; apply rb.strE; intro _; exact PyProof.Rows.ne_str (R.here (tk := s.toks) q (.bool ..))
theorem OpN.len_str (hs : x.length ≤ 10000) (q : Q (.int x.length) H) : OpN c E (fun vs => call (.builtin "len") vs) [.str x] m H Q := fun vs s r R => by
  apply r.of1; intro _ a; apply a.strE; intro _; exact PyProof.Rows.len_str (by (first | lia | omega)) (R.here q (.int ..))
theorem OpN.chr (h0 : 0 ≤ i) (h1 : i ≤ 1114111) (q : Q (.str ⟨#[i.toNat]⟩) H) : OpN c E (fun vs => call (.builtin "chr") vs) [.int i] m H Q := fun vs s r R => by
  apply r.of1; intro _ a; apply a.intE; intro _; exact PyProof.Rows.chr_of_range h0 h1 (R.here q (.str ..))
theorem OpN.ord (h1 : x.length = 1) (q : Q (.int (x.cps.getD 0 0 : Nat)) H) : OpN c E (fun vs => call (.builtin "ord") vs) [.str x] m H Q := fun vs s r R => by
  apply r.of1; intro _ a; apply a.strE; intro _; exact PyProof.Rows.ord_of_one h1 (R.here q (.int ..))
theorem OpN.isStr_str (q : Q (.bool true) H) : OpN c E (fun vs => call (.builtin "isinstance") vs) [.str x, .ty "str"] m H Q := fun vs s r R => by
  apply r.of2; intro _ _ a b; apply a.strE; intro _; apply b.tyE; exact PySem.IsiPair.str_str (R.here (tk := s.toks) q (.bool ..))
theorem OpN.isStr_tup {ds : List V} (q : Q (.bool false) H) : OpN c E (fun vs => call (.builtin "isinstance") vs) [.tup ds, .ty "str"] m H Q := fun vs s r R => by
  apply r.of2; intro _ _ a b; apply b.tyE; cases a with | tup e hc hd r => exact PySem.IsiPair.tuple_str e hc (R.here q (.bool ..))
theorem strsAre_of {h : Heap} {vs : List Value} {ys : List Str} (r : VRs h vs (ys.map .str)) : StrsAre vs ys := by
  induction ys generalizing vs with
  | nil => cases r; exact .nil
  | cons y ys ih => cases r with | cons a r => cases a; exact .cons _ _ (ih r)
theorem OpN.join {p : Addr} {ys : List Str} (hp : H p = some (.list (ys.map .str))) (hok : (ys.map (·.length)).sum + ys.length * x.length ≤ 16777216) (q : Q (.str (Txt.join x ys)) H) :
    OpN c E (fun vs => call (.builtin "str.join") vs) [.str x, .ref p] m H Q := fun vs s r R => by
  apply r.of2; intro _ _ a b; apply a.strE; intro _; apply b.refE
  refine el2_2 (R.objs p _ hp) fun vs n e r => ?_
  exact PyProof.Rows.join_list ⟨_, e, rfl, n, rfl⟩ (by simpa using strsAre_of r) hok fun t k => R.here q (.str ..)
end

-- lists
section
variable {p : Addr} {xs : List V} {i : Int} {k : Nat} {d : V} {Q : V → AH → Prop}
theorem OpN.len_list (hp : H p = some (.list xs)) (hs : xs.length ≤ 100000) (q : Q (.int xs.length) H) : OpN c E (fun vs => call (.builtin "len") vs) [.ref p] m H Q := fun vs s r R => by
  apply r.of1; intro _ a; apply a.refE
  refine el2_2 (R.objs p _ hp) fun vs n e r => ?_
  have hl := r.length
  refine PySem.Calls.call_len_list ⟨_, e, rfl, n, rfl⟩ (by rw [List.size_toArray]; (first | lia | omega)) (R.here ?_ (.int ..))
  rw [List.size_toArray, hl]; exact q
theorem Op2.item_list (hp : H p = some (.list xs)) (hi : i = (k : Int)) (hd : xs[k]? = some d) (hs : xs.length ≤ 100000) (q : Q d H) : Op2 c E getItem (.ref p) (.int i) m H Q := fun va vb s ra rb R => by
  apply ra.refE; apply rb.intE; intro _
  refine el2_2 (R.objs p _ hp) fun vs n e r => ?_
  refine el1_2 (r.get hd) fun v hv rv => ?_
  have hl := (List.getElem?_eq_some_iff.mp hd).1
  subst hi
  exact PySem.wpAny_getItem_list (x := v) ⟨_, e, rfl, n, rfl⟩ (by (first | lia | omega)) (by (first | lia | omega)) (by simpa using hv) (R.here (tk := s.toks) q rv)
theorem Op2.item_tup {ds : List V} (hi : i = (k : Int)) (hd : ds[k]? = some d) (hs : ds.length ≤ 100000) (q : Q d H) : Op2 c E getItem (.tup ds) (.int i) m H Q := fun va vb s ra rb R => by
  apply rb.intE; intro _
  cases ra with
  | tup e hc hdat r =>
    refine el1_2 (r.get hd) fun v hv rv => ?_
    have hl := (List.getElem?_eq_some_iff.mp hd).1
    have hl' := r.length
    subst hi
    refine PyProof.Rows.getItem_tuple (x := v) (j := k) ⟨_, e, hc, _, hdat⟩ (by (first | lia | omega)) (by (first | lia | omega)) ?_ (by simpa using hv) (R.here (tk := s.toks) q rv)
    rw [List.size_toArray, hl']
    unfold seqIndex?
    simp
    (first | lia | omega)
theorem sub_ {value slice : Expr} {Q : V → AH → Prop} {a b : V} (h : Op2 c E getItem a b m H Q) (hT : ∀ va s, VR s.heap va a → Rel c m H s → ∃ T id, s.TypeIs va T ∧ typeLookup (.type T) "__getitem__" = pure (some (.builtin id)))
    (hs : ∀ o i, subscripted slice false o i = operate [o, i] (getItem o i) ∨ subscripted slice false o i = operate [i, o] (getItem o i)) : Op2 c E (fun o i => subscriptTail value slice o i) a b m H Q := fun va vb s ra rb R => by
  refine el2_2 (hT va s ra R) fun T id h1 h2 => ?_
  unfold subscriptTail
  refine wpAny_bind ?_
  rw [getitemInPython_of_ne h1.not_modules]
  refine wpAny_bind (wpAny_specialOf h1 h2 ?_)
  refine wpAny_pure (wpAny_bind ?_)
  have fin : wpAny (M c.w) c.A (getItem va vb) (fun r s₃ => wpAny (M c.w) c.A (letTemporaryGo value va r >>= fun _ => pure r) (EvP c m H Q s) E s₃) E s :=
    wpAny_mono (h va vb s ra rb R) (fun r s₃ h₃ => wpAny_bind (wpAny_letTemporaryGo (wpAny_pure h₃))) fun _ _ x => x
  rcases hs va vb with e | e <;> rw [e] <;> exact wpAny_operating fin
theorem Ev.subL {value slice : Expr} {pos : Pos} (h : Ev c E value m H fun a H₁ => Ev c E slice m H₁ fun b H₂ => ∃ p xs, a = .ref p ∧ H₂ p = some (.list xs) ∧ Op2 c E getItem a b m H₂ Q)
    (hs : ∀ o i, subscripted slice false o i = operate [o, i] (getItem o i) ∨ subscripted slice false o i = operate [i, o] (getItem o i) := by intro _ _; first | exact Or.inl rfl | exact Or.inr rfl) : Ev c E (.Subscript value slice pos) m H Q := fun s R => by
  refine Subscript_ (wpAny_mono (h s R) (fun va s₁ z1 => el2_5 z1 fun a H₁ h₁ r₁ R₁ m₁ g₁ => ?_) fun _ _ x => x)
  refine wpAny_mono (h₁ s₁ R₁) (fun vb s₂ z2 => el2_5 z2 fun b H₂ h₂ r₂ R₂ m₂ g₂ => ?_) fun _ _ x => x
  refine el2_3 h₂ fun p xs z3 hp h₂ => ?_; subst z3
  refine wpAny_mono (sub_ h₂ (fun va s r R => ?_) hs va vb s₂ (r₁.mono (R₁.tups m₂)) r₂ R₂) (fun v s₃ h₃ => (h₃.trans m₂ g₂).trans m₁ g₁) fun _ _ x => x
  cases r
  refine el2_2 (R.objs p _ hp) fun vs n e _ => ?_
  exact (mk2_2 ("list") _ ⟨_, e, rfl⟩ list_getitem_lookup)
theorem Ev.subT {value slice : Expr} {pos : Pos} (h : Ev c E value m H fun a H₁ => Ev c E slice m H₁ fun b H₂ => ∃ ds, a = .tup ds ∧ Op2 c E getItem a b m H₂ Q)
    (hs : ∀ o i, subscripted slice false o i = operate [o, i] (getItem o i) ∨ subscripted slice false o i = operate [i, o] (getItem o i) := by intro _ _; first | exact Or.inl rfl | exact Or.inr rfl) : Ev c E (.Subscript value slice pos) m H Q := fun s R => by
  refine Subscript_ (wpAny_mono (h s R) (fun va s₁ z4 => el2_5 z4 fun a H₁ h₁ r₁ R₁ m₁ g₁ => ?_) fun _ _ x => x)
  refine wpAny_mono (h₁ s₁ R₁) (fun vb s₂ z5 => el2_5 z5 fun b H₂ h₂ r₂ R₂ m₂ g₂ => ?_) fun _ _ x => x
  refine el1_2 h₂ fun ds z6 h₂ => ?_; subst z6
  refine wpAny_mono (sub_ h₂ (fun va s r R => ?_) hs va vb s₂ (r₁.mono (R₁.tups m₂)) r₂ R₂) (fun v s₃ h₃ => (h₃.trans m₂ g₂).trans m₁ g₁) fun _ _ x => x
  cases r with
  | tup e hc hd r => exact (mk2_2 ("tuple") _ ⟨_, e, hc⟩ slot_tuple_getitem.lookup)
theorem Ev.subD {value slice : Expr} {pos : Pos} (h : Ev c E value m H fun a H₁ => Ev c E slice m H₁ fun b H₂ => ∃ p kvs, a = .ref p ∧ H₂ p = some (.dictI kvs) ∧ Op2 c E getItem a b m H₂ Q)
    (hs : ∀ o i, subscripted slice false o i = operate [o, i] (getItem o i) ∨ subscripted slice false o i = operate [i, o] (getItem o i) := by intro _ _; first | exact Or.inl rfl | exact Or.inr rfl) : Ev c E (.Subscript value slice pos) m H Q := fun s R => by
  refine Subscript_ (wpAny_mono (h s R) (fun va s₁ z7 => el2_5 z7 fun a H₁ h₁ r₁ R₁ m₁ g₁ => ?_) fun _ _ x => x)
  refine wpAny_mono (h₁ s₁ R₁) (fun vb s₂ z8 => el2_5 z8 fun b H₂ h₂ r₂ R₂ m₂ g₂ => ?_) fun _ _ x => x
  refine el2_3 h₂ fun p kvs z9 hp h₂ => ?_; subst z9
  refine wpAny_mono (sub_ h₂ (fun va s r R => ?_) hs va vb s₂ (r₁.mono (R₁.tups m₂)) r₂ R₂) (fun v s₃ h₃ => (h₃.trans m₂ g₂).trans m₁ g₁) fun _ _ x => x
  cases r
  refine el1_2 (R.objs p _ hp) fun rows hd _ => ?_
  exact (mk2_2 ("dict") _ hd.typeIs slot_dict_getitem.lookup)

theorem vrs_push {h : Heap} {vs : List Value} {v : Value} (r : VRs h vs xs) (a : VR h v d) : VRs h (vs ++ [v]) (xs ++ [d]) := r.append (.cons a .nil)
theorem OpN.append (hp : H p = some (.list xs)) (hs : xs.length ≤ 100000) (q : Q .none (H.set p (.list (xs ++ [d])))) : OpN c E (fun vs => call (.builtin "list.append") vs) [.ref p, d] m H Q := fun vs s r R => by
  apply r.of2; intro _ _ a b; apply a.refE
  refine el2_2 (R.objs p _ hp) fun vs n e r => ?_
  refine PySem.wpAny_list_append_plain ⟨n, e⟩ (fun h' z10 sb => el1_1 z10 fun n' e' => R.hereU (tk := s.toks) hp rfl sb (fun T => ?_) (fun _ => .none) q) (by rw [List.size_toArray, r.length, sizeLine_eq]; (first | lia | omega))
  refine (mk2_2 _ n' ?_ ((vrs_push r b).mono T))
  rw [e']; simp
theorem Op3.set_list {j : Int} {k : Nat} (hp : H p = some (.list xs)) (hj : j = (k : Int)) (hk : k < xs.length) (hs : xs.length ≤ 100000) {Q : AH → Prop} (q : Q (H.set p (.list (xs.set k d)))) :
    ∀ vo vi v s, VR s.heap vo (.ref p) → VR s.heap vi (.int j) → VR s.heap v d → Rel c m H s → wpAny (M c.w) c.A (setItem vo vi v) (fun _ => EvP c m H (fun _ H' => Q H') s .none) E s := fun vo vi v s ro ri rv R => by
  apply ro.refE; apply ri.intE; intro _
  refine el2_2 (R.objs p _ hp) fun vs n e r => ?_
  have hl := r.length
  subst hj
  refine ki_setAt (n := n) e (by (first | lia | omega)) (by (first | lia | omega)) (by rw [List.size_toArray, hl]; (first | lia | omega)) (R.hereU (tk := s.toks) hp rfl (Heap.SameBut.update ..) (fun T => ?_) (fun _ => .none) q)
  have u := IsL.update (n := n) e (·.setIfInBounds k v)
  simp only [List.setIfInBounds_toArray] at u
  exact (mk2_2 _ _ u ((r.set rv).mono T))
theorem getLast_at {α : Type} (xs : List α) (a : α) : (xs ++ [a])[xs.length]? = some a := by simp
theorem OpN.pop (hp : H p = some (.list (xs ++ [d]))) (hs : xs.length ≤ 100000) (q : Q d (H.set p (.list xs))) : OpN c E (fun vs => call (.builtin "list.pop") vs) [.ref p] m H Q := fun vs s r R => by
  apply r.of1; intro _ a; apply a.refE
  refine el2_2 (R.objs p _ hp) fun vs n e r => ?_
  have hl := r.length
  rw [List.length_append] at hl
  obtain ⟨ws, y, rfl⟩ : ∃ ws y, vs = ws ++ [y] := ⟨vs.dropLast, vs.getLast (by intro z; subst z; simp at hl), (List.dropLast_concat_getLast _).symm⟩
  rw [List.length_append] at hl
  have hl2 : ws.length = xs.length := by simpa using hl
  have ry : VR s.heap y d := by
    refine el1_2 (r.get (getLast_at xs d)) fun v hv rv => ?_
    rw [← hl2, getLast_at] at hv; cases hv; exact rv
  have rw' : VRs s.heap ws xs := by
    have go : ∀ {ws : List Value} {xs : List V}, ws.length = xs.length → VRs s.heap (ws ++ [y]) (xs ++ [d]) → VRs s.heap ws xs := by
      intro ws
      induction ws with
      | nil => intro xs h _; cases xs with | nil => exact .nil | cons _ _ => simp at h
      | cons a ws ih => intro xs h r; cases xs with
        | nil => simp at h
        | cons b xs => cases r with | cons x r => exact .cons x (ih (by simpa using h) r)
    exact go hl2 r
  have hz : (ws ++ [y]).toArray.size ≤ sizeLine := by rw [List.size_toArray, List.length_append, sizeLine_eq, hl2]; simp; (first | lia | omega)
  have hk : (ws ++ [y]).toArray.size - 1 = ws.length := by rw [List.size_toArray, List.length_append]; rfl
  have hy : (ws ++ [y]).toArray[(ws ++ [y]).toArray.size - 1]? = some y := by rw [hk]; simp
  refine call_meets PySem.F.slot_list_pop ⟨_, e, rfl⟩ PySem.F.entry_list_pop (PySem.F.args_list_pop_1 _) (PySem.MeetsSeq.list_pop_last p _ n y hy hz) ⟨e, ?_⟩
  refine R.hereU (tk := s.toks) hp rfl (Heap.SameBut.update ..) (fun T => ?_) (fun T => ry.mono T) q
  have u := IsL.update (n := n) e (fun zs => zs.eraseIdxIfInBounds ((ws ++ [y]).toArray.size - 1))
  rw [hk, kl_erase, List.append_nil] at u
  exact (mk2_2 _ _ (by rw [hk]; exact u) (rw'.mono T))
end
end
noncomputable def dget {K : Type} [DecidableEq K] (kvs : List (K × V)) (k : K) : Option V := (kvs.find? fun kv => kv.1 = k).map (·.2)
noncomputable def dput {K : Type} [DecidableEq K] (kvs : List (K × V)) (k : K) (v : V) : List (K × V) :=
  if (dget kvs k).isSome then kvs.map (fun kv => if kv.1 = k then (kv.1, v) else kv) else kvs ++ [(k, v)]

section
variable {K : Type} [DecidableEq K] {h : Heap}
theorem RowsR.nil_inv {kvs : List (K × V)} (r : RowsR h [] kvs) : kvs = [] := by
  cases kvs with
  | nil => rfl
  | cons a l => have := r.1; simp at this
theorem RowsR.cons_inv {p : K × Value} {rows : List (K × Value)} {kvs : List (K × V)} (r : RowsR h (p :: rows) kvs) : ∃ d l, kvs = (p.1, d) :: l ∧ VR h p.2 d ∧ RowsR h rows l := by
  cases kvs with
  | nil => have := r.1; simp at this
  | cons a l =>
    refine el0_2 r fun h1 h2 => ?_; try clear r
    simp only [List.map_cons, List.cons.injEq] at h1
    simp only [List.map_cons] at h2
    cases h2 with
    | cons x y => exact (mk2_3 a.2 l (by rw [h1.1]) x  ⟨h1.2, y⟩)
theorem RowsR.cons {k : K} {v : Value} {d : V} {rows : List (K × Value)} {kvs : List (K × V)} (a : VR h v d) (r : RowsR h rows kvs) : RowsR h ((k, v) :: rows) ((k, d) :: kvs) :=
  ⟨by simp [r.1], by simpa using VRs.cons a r.2⟩
theorem RowsR.get {rows : List (K × Value)} {kvs : List (K × V)} (r : RowsR h rows kvs) (k : K) : (valueAt rows k = none ∧ dget kvs k = none) ∨ ∃ v d, valueAt rows k = some v ∧ dget kvs k = some d ∧ VR h v d := by
  induction rows generalizing kvs with
  | nil => obtain rfl := r.nil_inv; exact .inl ⟨rfl, rfl⟩
  | cons p rows ih =>
    refine el2_3 r.cons_inv fun d l z1 a r' => ?_; subst z1
    by_cases e : p.1 = k
    · exact .inr ⟨p.2, d, by simp [valueAt, e], by simp [dget, e], a⟩
    · have := ih r'
      simp only [valueAt, dget] at this ⊢
      simpa [e] using this
theorem RowsR.snoc {rows : List (K × Value)} {kvs : List (K × V)} (r : RowsR h rows kvs) {k : K} {v : Value} {d : V} (a : VR h v d) : RowsR h (rows ++ [(k, v)]) (kvs ++ [(k, d)]) :=
  ⟨by simp [r.1], by simpa using r.2.append (.cons a .nil)⟩
theorem RowsR.putAll {rows : List (K × Value)} {kvs : List (K × V)} (r : RowsR h rows kvs) {k : K} {v : Value} {d : V} (a : VR h v d) :
    RowsR h (rows.map (fun kv => if kv.1 = k then (kv.1, v) else kv)) (kvs.map (fun kv => if kv.1 = k then (kv.1, d) else kv)) := by
  induction rows generalizing kvs with
  | nil => obtain rfl := r.nil_inv; exact ⟨rfl, .nil⟩
  | cons p rows ih =>
    refine el2_3 r.cons_inv fun d' l z2 a' r' => ?_; subst z2
    by_cases e : p.1 = k
    · simp only [List.map_cons, e, if_true]; exact .cons a (ih r')
    · simp only [List.map_cons, e, if_false]; exact .cons a' (ih r')
theorem any_valueAt (rows : List (K × Value)) (k : K) : rows.any (fun kv => kv.1 = k) = (valueAt rows k).isSome := by
  simp only [valueAt, Option.isSome_map]
  rw [Bool.eq_iff_iff]
  simp [List.find?_isSome, List.any_eq_true]
theorem RowsR.put {rows : List (K × Value)} {kvs : List (K × V)} (r : RowsR h rows kvs) {k : K} {v : Value} {d : V} (a : VR h v d) : RowsR h (stored rows k v) (dput kvs k d) := by
  unfold stored dput
  rw [any_valueAt]
  rcases r.get k with ⟨e1, e2⟩ | ⟨v', d', e1, e2, _⟩ <;> simp only [e1, e2]
  · exact r.snoc a
  · exact r.putAll a
theorem RowsR.mono {h' : Heap} {rows : List (K × Value)} {kvs : List (K × V)} (r : RowsR h rows kvs) (T : Tups h h') : RowsR h' rows kvs := ⟨r.1, r.2.mono T⟩
theorem RowsR.length {rows : List (K × Value)} {kvs : List (K × V)} (r : RowsR h rows kvs) : rows.length = kvs.length := by
  have := congrArg List.length r.1
  simpa using this
end

class Keyed (K : Type) [DecidableEq K] where
  v : K → V
  o : List (K × V) → O
  knd : (w : World) → KeyKind pw w K
  or : ∀ {w h H a kvs}, OR w h H a (o kvs) ↔ ∃ rows, h.DictOf (knd w) a rows ∧ RowsR h rows kvs
  is : ∀ {w h x k}, VR h x (v k) → (knd w).is k x = true
  plain : ∀ kvs, (o kvs).plain = true
@[reducible] noncomputable def keyedS : Keyed Str where
  v := .str
  o := .dictS
  knd w := strKind pw w
  or := Iff.rfl
  is := fun r => by cases r; simp [PySem.strKind, Value.isStrOf]
  plain _ := rfl
@[reducible] noncomputable def keyedI : Keyed Int where
  v := .int
  o := .dictI
  knd w := intKind pw w
  or := Iff.rfl
  is := fun r => by cases r; simp [intKind, Value.isInt]
  plain _ := rfl

section
variable {lv : Nat} {c : Cx} {E : ER} {m : Loc} {H : AH} {s : Shared} {p : Addr} {Q : V → AH → Prop}
theorem Rel.ne_mods (R : Rel c m H s) {o : O} (hp : H p = some o) : (p == sysModules) = false := by
  refine el3_1 R.hb.top fun mg mb mean T => ?_
  obtain ⟨mm, ⟨om, _, _, e, _⟩, _⟩ := (T.seer (by decide +kernel)).mods
  have := R.offB p o hp
  cases q : (p == sysModules) with
  | false => rfl
  | true => rw [beq_iff_eq.mp q, e] at this; cases this

section
variable {K : Type} [DecidableEq K] (κ : Keyed K) {k : K} {kvs : List (K × V)} {d : V}
theorem Op2.in_ (hp : H p = some (κ.o kvs)) (q : Q (.bool (dget kvs k).isSome) H) : Op2 c E (compareOp .In) (κ.v k) (.ref p) m H Q := fun va vb s ra rb R => by
  apply rb.refE
  refine el1_2 (κ.or.mp (R.objs p _ hp)) fun rows hd r => ?_
  refine wpAny_in_of (κ.is ra) (R.ne_mods hp) hd.mapOf (R.here ?_ (.bool _))
  rcases r.get k with ⟨e1, e2⟩ | ⟨v', d', e1, e2, _⟩ <;> rw [e1] <;> rw [e2] at q <;> exact q
theorem Op2.notIn (hp : H p = some (κ.o kvs)) (q : Q (.bool !(dget kvs k).isSome) H) : Op2 c E (compareOp .NotIn) (κ.v k) (.ref p) m H Q := fun va vb s ra rb R => by
  apply rb.refE
  refine el1_2 (κ.or.mp (R.objs p _ hp)) fun rows hd r => ?_
  refine wpAny_notIn_of (κ.is ra) (R.ne_mods hp) hd.mapOf (R.here ?_ (.bool _))
  rcases r.get k with ⟨e1, e2⟩ | ⟨v', d', e1, e2, _⟩ <;> rw [e1] <;> rw [e2] at q <;> exact q
theorem Op2.item_dict (hp : H p = some (κ.o kvs)) (hd : dget kvs k = some d) (q : Q d H) : Op2 c E getItem (.ref p) (κ.v k) m H Q := fun va vb s ra rb R => by
  apply ra.refE
  refine el1_2 (κ.or.mp (R.objs p _ hp)) fun rows hd' r => ?_
  rcases r.get k with ⟨e1, e2⟩ | ⟨v', d', e1, e2, rv⟩ <;> rw [hd] at e2 <;> cases e2
  exact wpAny_getItem_of (κ.is rb) hd'.mapOf e1 (R.here q rv)
theorem Op3.set_dict (hp : H p = some (κ.o kvs)) (hs : kvs.length ≤ 100000) {Q : AH → Prop} (q : Q (H.set p (κ.o (dput kvs k d)))) :
    ∀ vo vi v s, VR s.heap vo (.ref p) → VR s.heap vi (κ.v k) → VR s.heap v d → Rel c m H s → wpAny (M c.w) c.A (setItem vo vi v) (fun _ => EvP c m H (fun _ H' => Q H') s .none) E s := fun vo vi v s ro ri rv R => by
  cases ro
  refine el1_2 (κ.or.mp (R.objs p _ hp)) fun rows hd' r => ?_
  refine wpAny_setItem_pairs (κ.is ri) hd' (fun h' hd'' sb => R.hereU hp (κ.plain _) sb (fun T => ?_) (fun _ => .none) q) (by rw [r.length, sizeLine_eq]; (first | lia | omega))
  exact κ.or.mpr ⟨_, hd'', (r.put rv).mono T⟩

theorem Ev.get {pl : Sem Bool} {o e1 e2 : Expr} {apos pos : Pos} (h : Ev c E o m H fun a H₁ => ∃ p, a = .ref p ∧ (∃ kvs, H₁ p = some (κ.o kvs)) ∧ Ev c E e1 m H₁ fun b H₂ => Ev c E e2 m H₂ fun f H₃ => ∃ kvs k, H₃ p = some (κ.o kvs) ∧ b = κ.v k ∧ Q ((dget kvs k).getD f) H₃)
    (he : eval (.Call (.Attribute o "get" apos) [e1, e2] [] pos) c.env = (do
      let ov ← eval o c.env
      standAt apos.atName
      let (f, first) ← holding [ov] (getMethod ov "get" pl)
      callWith pos f first (backTo pos (starEach [e1, e2] c.env)) []) := by rfl)
    (hs : backTo pos (starEach [e1, e2] c.env) = [(false, eval e1 c.env), (false, eval e2 c.env)] := by rfl) :
    Ev c E (.Call (.Attribute o "get" apos) [e1, e2] [] pos) m H Q := fun s R => by
  refine MethodCall_ (pl := pl) (wpAny_mono (h s R) (fun va s₁ z3 => el2_5 z3 fun a H₁ z4 r₁ R₁ m₁ g₁ => el1_3 z4 fun p ea z5 h₁ => el1_1 z5 fun kvs hp => ?_) fun _ _ x => x) he
  subst ea
  cases r₁
  refine el1_2 (κ.or.mp (R₁.objs p _ hp)) fun rows hd r => ?_
  refine getMethod_builtin hd.typeIs F.plainAttrs_dict F.slot_dict_get F.type_dict_get (fun b e => ?_) ?_
  · injection e with e; subst e; refine el3_3 hd fun o _ _ ho hc _ => ?_; try clear hd; exact (mk1_2 o ho hc.2.1)
  rw [hs]
  refine wpAny_dict_get2 (knd := κ.knd c.w) (R₁.ne_mods hp) (wpAny_mono (h₁ s₁ R₁) (fun vb s₂ z6 => el2_5 z6 fun b H₂ h₂ r₂ R₂ m₂ g₂ => ?_) fun _ _ x => x)
  refine wpAny_mono (h₂ s₂ R₂) (fun vf s₃ z7 => el2_5 z7 fun f H₃ z8 r₃ R₃ m₃ g₃ => el2_3 z8 fun kvs' k hp' eb q => ?_) fun _ _ x => x
  subst eb
  refine el1_2 (κ.or.mp (R₃.objs p _ hp')) fun rows' hd' r' => ?_
  refine (mk2_3 k _ (κ.is (r₂.mono (R₂.tups m₃))) hd'.mapOf (((EvP.trans m₃ g₃ (R₃.here q ?_)).trans m₂ g₂).trans m₁ g₁))
  rcases r'.get k with ⟨e1, e2⟩ | ⟨v', d', e1, e2, rv⟩ <;> rw [e1, e2]
  · exact r₃
  · exact rv
end

-- keys that are tuples of ints
section
variable {k : List Int} {kvs : List (List Int × V)} {d : V}
theorem itemsAre_of {w : World} {h : Heap} {vs : List Value} {ks : List Int} (r : VRs h vs (ks.map .int)) : ItemsAre (intKind pw w) ks vs := by
  induction ks generalizing vs with
  | nil => cases r; exact .nil
  | cons y ys ih => cases r with | cons a r => cases a; exact .cons (by simp [intKind, Value.isInt]) (ih r)
theorem tupKey_of {w : World} {h : Heap} {v : Value} {ks : List Int} (r : VR h v (.tup (ks.map .int))) : ∃ a, v = .ref a ∧ IsTupleKey (intKind pw w) h ks a := by
  cases r with | tup e hc hd r => exact (mk1_2 _ rfl  ⟨_, _, _, e, hc, hd, by simpa using itemsAre_of r⟩)
noncomputable def RowsT (h : Heap) (rows : List (List Int × Addr × Value)) (kvs : List (List Int × V)) : Prop := rows.map (·.1) = kvs.map (·.1) ∧ VRs h (rows.map (·.2.2)) (kvs.map (·.2))
theorem RowsT.rows {h : Heap} {rows : List (List Int × Addr × Value)} (r : RowsT h rows kvs) : RowsR h (rows.map fun x => (x.1, x.2.2)) kvs := ⟨by simpa [List.map_map, Function.comp_def] using r.1, by simpa [List.map_map, Function.comp_def] using r.2⟩
theorem RowsT.of {h : Heap} {rows : List (List Int × Addr × Value)} (r : RowsR h (rows.map fun x => (x.1, x.2.2)) kvs) : RowsT h rows kvs := ⟨by simpa [List.map_map, Function.comp_def] using r.1, by simpa [List.map_map, Function.comp_def] using r.2⟩
theorem atKey_value (rows : List (List Int × Addr × Value)) : (atKey rows k).map (·.2) = valueAt (rows.map fun x => (x.1, x.2.2)) k := by
  induction rows with
  | nil => rfl
  | cons x rows ih =>
    simp only [atKey, valueAt] at ih ⊢
    by_cases e : x.1 = k
    · simp [e]
    · simpa [e] using ih
theorem stored_value (rows : List (List Int × Addr × Value)) (a : Addr) (v : Value) : (storedH rows k a v).map (fun x => (x.1, x.2.2)) = stored (rows.map fun x => (x.1, x.2.2)) k v := by
  unfold storedH stored
  rw [any_valueAt, ← atKey_value, Option.isSome_map]
  split
  · rw [List.map_map, List.map_map]
    refine List.map_congr_left fun x _ => ?_
    by_cases e : x.1 = k <;> simp [putAt, e]
  · simp
theorem Op3.set_dictT (hc : CxOk lv c) (hp : H p = some (.dictT kvs)) (hs : kvs.length ≤ 100000) {Q : AH → Prop} (q : Q (H.set p (.dictT (dput kvs k d)))) :
    ∀ vo vi v s, VR s.heap vo (.ref p) → VR s.heap vi (.tup (k.map .int)) → VR s.heap v d → Rel c m H s → wpAny (M c.w) c.A (setItem vo vi v) (fun _ => EvP c m H (fun _ H' => Q H') s .none) E s := fun vo vi v s ro ri rv R => by
  cases ro
  refine el1_3 (R.objs p _ hp) fun rows hd h1 h2 => ?_
  have r : RowsT s.heap rows kvs := ⟨h1, h2⟩
  refine el1_2 (tupKey_of (w := c.w) ri) fun a z9 ik => ?_; subst z9
  have hl : rows.length = kvs.length := by simpa using congrArg List.length h1
  refine wpAny_setItem_heap (knd := tupleKind (intKind pw c.w)) (tupleKind_room_in1 (by have := hc.units; (first | lia | omega))) ik hd (fun h' hd' sb => R.hereU hp rfl sb (fun T => ?_) (fun _ => .none) q) (by rw [hl, sizeLine_eq]; (first | lia | omega))
  have r1 : RowsR h' ((storedH rows k a v).map fun x => (x.1, x.2.2)) (dput kvs k d) := by rw [stored_value]; exact (r.rows.put rv).mono T
  have r' := RowsT.of r1
  exact (mk1_3 _ hd' r'.1 r'.2)
theorem Ev.getT {pl : Sem Bool} {o e1 e2 : Expr} {apos pos : Pos} (hc : CxOk lv c) (h : Ev c E o m H fun a H₁ => ∃ p, a = .ref p ∧ (∃ kvs, H₁ p = some (.dictT kvs)) ∧ Ev c E e1 m H₁ fun b H₂ => Ev c E e2 m H₂ fun f H₃ => ∃ kvs k, H₃ p = some (.dictT kvs) ∧ b = .tup (k.map .int) ∧ Q ((dget kvs k).getD f) H₃)
    (he : eval (.Call (.Attribute o "get" apos) [e1, e2] [] pos) c.env = (do
      let ov ← eval o c.env
      standAt apos.atName
      let (f, first) ← holding [ov] (getMethod ov "get" pl)
      callWith pos f first (backTo pos (starEach [e1, e2] c.env)) []) := by rfl)
    (hs : backTo pos (starEach [e1, e2] c.env) = [(false, eval e1 c.env), (false, eval e2 c.env)] := by rfl) :
    Ev c E (.Call (.Attribute o "get" apos) [e1, e2] [] pos) m H Q := fun s R => by
  refine MethodCall_ (pl := pl) (wpAny_mono (h s R) (fun va s₁ z10 => el2_5 z10 fun a H₁ z11 r₁ R₁ m₁ g₁ => el1_3 z11 fun p ea z12 h₁ => el1_1 z12 fun kvs hp => ?_) fun _ _ x => x) he
  subst ea
  cases r₁
  refine el1_2 (R₁.objs p _ hp) fun rows hd _ => ?_
  refine getMethod_builtin hd.typeIs F.plainAttrs_dict F.slot_dict_get F.type_dict_get (fun b e => ?_) ?_
  · injection e with e; subst e; refine el3_3 hd fun o _ _ ho hc _ => ?_; try clear hd; exact (mk1_2 o ho hc.2.1)
  rw [hs]
  refine wpAny_dict_get2_heap (knd := tupleKind (intKind pw c.w)) (tupleKind_room_in1 (by have := hc.units; (first | lia | omega))) (R₁.ne_mods hp) (wpAny_mono (h₁ s₁ R₁) (fun vb s₂ z13 => el2_5 z13 fun b H₂ h₂ r₂ R₂ m₂ g₂ => ?_) fun _ _ x => x)
  refine wpAny_mono (h₂ s₂ R₂) (fun vf s₃ z14 => el2_5 z14 fun f H₃ z15 r₃ R₃ m₃ g₃ => el2_3 z15 fun kvs' k hp' eb q => ?_) fun _ _ x => x
  subst eb
  refine el1_3 (R₃.objs p _ hp') fun rows' hd' h1' h2' => ?_
  refine el1_2 (tupKey_of (w := c.w) (r₂.mono (R₂.tups m₃))) fun a z16 ik => ?_; subst z16
  refine (mk3_4 a k _ rfl ik hd' (((EvP.trans m₃ g₃ (R₃.here q ?_)).trans m₂ g₂).trans m₁ g₁))
  rw [atKey_value]
  rcases (RowsT.rows ⟨h1', h2'⟩).get k with ⟨e1, e2⟩ | ⟨v', d', e1, e2, rv⟩ <;> rw [e1, e2]
  · exact r₃
  · exact rv
end

-- sets of ints
section
variable {f : Int → Bool} {n : Nat} {k : Int}
theorem Op2.notIn_set (hp : H p = some (.iset f n)) (q : Q (.bool (!f k)) H) : Op2 c E (compareOp .NotIn) (.int k) (.ref p) m H Q := fun va vb s ra rb R => by
  apply ra.intE; intro _; apply rb.refE
  exact wpAny_notInSet_of (knd := intKind pw c.w) (k := k) (by simp [intKind, Value.isInt]) rfl (R.objs p _ hp) (R.here q (.bool _))
theorem OpN.set_add (hp : H p = some (.iset f n)) (hn : n ≤ 1000) (q : Q .none (H.set p (.iset (fun k' => f k' || decide (k' = k)) (if f k then n else n + 1)))) : OpN c E (fun vs => call (.builtin "set.add") vs) [.ref p, .int k] m H Q := fun vs s r R => by
  apply r.of2; intro _ _ a b; apply a.refE; apply b.intE; intro _
  have hb : n + 1 < scanBound := by have : scanBound = 4096 := by decide
                                    (first | lia | omega)
  exact call_set_add (knd := intKind pw c.w) (k := k) (by simp [intKind, Value.isInt]) rfl (R.objs p _ hp) hb fun h' sb hS => R.hereU (o' := .iset (fun k' => f k' || decide (k' = k)) (if f k then n else n + 1)) hp rfl sb (fun T => hS) (fun _ => .none) q
end
end
noncomputable def GV (w : World) (x : Str) (f : Value) : Prop :=
  nsIn (KT w.params) mainGlobals x = some (some f) ∨ (nsIn (KT w.params) mainGlobals x = some none ∧ bootBuiltins x = some f ∧ x ≠ "__name__")
noncomputable def KeepOk (w : World) (f : Value) : Prop := ∀ h : Heap, (KT w.params).In h → ∃ k, (k = Keeper.frame ∨ k = Keeper.machine ∨ k = Keeper.boundFrame) ∧ Looks (M w) h (keeperOf f) k
theorem keep_builtin {w : World} (id : String) : KeepOk w (.builtin id) := fun _ _ => (mk1_2 .machine (.inr (.inl rfl)) Looks.now)
theorem keep_type {w : World} (id : String) : KeepOk w (.type id) := fun _ _ => (mk1_2 .machine (.inr (.inl rfl)) Looks.now)
theorem keep_ref {w : World} {a : Addr} (h : keepIn (KT w.params) (.ref a) = true) : KeepOk w (.ref a) := fun g X => keeps_K h g X
theorem kind_of {env : Env} {sc : Scope} {x : Str} {k : NameKind} (hs : env.scope = sc) (h : sc.names.lookup x = some k) : env.kindOf x = some k := by unfold Env.kindOf; rw [hs]; exact h

section
variable {lv : Nat} {c : Cx} {E : ER} {m : Loc} {H : AH} {s : Shared} {Q : V → AH → Prop}
theorem Rel.K (R : Rel c m H s) : (KT c.w.params).In s.heap := R.hb.k.keeps R.base
theorem Rel.glob (R : Rel c m H s) (hc : CxOk lv c) {x : Str} {f : Value} (g : GV c.w x f) {Q : Value → Shared → Prop} (h : Q f s) : wpAny (M c.w) c.A (loadGlobal c.env x) Q E s := by
  refine el3_1 R.hb.top fun mg mb mean T => ?_
  have G : s.heap.Ns mainGlobals mg := T.g.keeps R.base
  rcases g with e | ⟨e, hv, hn⟩
  · exact loadGlobal_global (mg := mg) (by rw [hc.globals]; exact G) (mg_of R.K G e) h
  · exact loadGlobal_builtin (mg := mg) (mb := mb) (by rw [hc.globals]; exact G) (mg_none_of R.K G e) (by rw [hc.builtins]; exact T.b.keeps R.base) ((T.builtins x hn).trans hv) h
theorem Ev.glob {x : Str} {pos : Pos} {f : Value} {d : V} (hc : CxOk lv c) (hx : c.env.kindOf x = some .globalImplicit) (g : GV c.w x f) (hr : ∀ h, (KT c.w.params).In h → VR h f d) (q : Q d H) (hd : (x == ("__debug__" : Str)) = false := by decide) :
    Ev c E (.Name x pos) m H Q := fun s R => Name_function_global hc.kind hx (R.glob hc g (R.here (tk := s.toks) q (hr _ R.K))) hd
theorem nameF {x : Str} {pos : Pos} {f : Value} (hc : CxOk lv c) (hx : c.env.kindOf x = some .globalImplicit) (g : GV c.w x f) (hd : (x == ("__debug__" : Str)) = false) (R : Rel c m H s) {Q : Value → Shared → Prop} (q : Q f s) :
    wpAny (M c.w) c.A (eval (.Name x pos) c.env) Q E s := Name_function_global hc.kind hx (R.glob hc g q) hd

theorem callArgs {f : Value} {first : List Value} {fs : List V} {e : Expr} {rest : List Expr} {pos : Pos} (k : KeepOk c.w f) (rf : VRs s.heap first fs) (R : Rel c m H s) (h : Evs c E (e :: rest) m H fun as H₁ => OpN c E (fun vs => call f vs) (fs ++ as) m H₁ Q)
    (hst : starEach (e :: rest) c.env = (false, eval e c.env) :: starEach rest c.env) (hplain : (backTo pos (starEach rest c.env)).any (·.1) = false) :
    wpAny (M c.w) c.A (callWith pos f first (backTo pos (starEach (e :: rest) c.env)) []) (EvP c m H Q s) E s := by
  have h' := h pos s R
  rw [hst] at h' ⊢
  refine callWith_of (P := (KT c.w.params).In) (by show ((false || (backTo pos (starEach rest c.env)).any (·.1)) || false) = false; rw [hplain]; rfl) k (evalArgs_plain ?_)
  refine wpAny_mono h' (fun vs s₁ z1 => el2_5 z1 fun ds H₁ q r R₁ m₁ g₁ => ⟨R₁.K, ?_⟩) fun _ _ x => x
  exact wpAny_mono (q _ s₁ ((rf.mono (R.tups m₁)).append r) R₁) (fun _ _ z => z.trans m₁ g₁) fun _ _ x => x
theorem callNone {f : Value} {first : List Value} {fs : List V} {pos : Pos} (k : KeepOk c.w f) (rf : VRs s.heap first fs) (R : Rel c m H s) (h : OpN c E (fun vs => call f vs) fs m H Q) :
    wpAny (M c.w) c.A (callWith pos f first (backTo pos (starEach [] c.env)) []) (EvP c m H Q s) E s := by
  refine callWith_of (P := (KT c.w.params).In) rfl k (evalArgs_nil3 ⟨R.K, ?_⟩)
  rw [List.append_nil]
  exact h _ s rf R

theorem Ev.call {x : Str} {np pos : Pos} {f : Value} {e : Expr} {rest : List Expr} (hc : CxOk lv c) (hx : c.env.kindOf x = some .globalImplicit) (g : GV c.w x f) (k : KeepOk c.w f) (h : Evs c E (e :: rest) m H fun as H₁ => OpN c E (fun vs => PySem.call f vs) as m H₁ Q)
    (hd : (x == ("__debug__" : Str)) = false := by decide)
    (he : eval (.Call (.Name x np) (e :: rest) [] pos) c.env = (do callWith pos (← eval (.Name x np) c.env) [] (backTo pos (starEach (e :: rest) c.env)) (backToKw pos (keywordEach [] c.env))) := by rfl)
    (hst : starEach (e :: rest) c.env = (false, eval e c.env) :: starEach rest c.env := by rfl) (hplain : (backTo pos (starEach rest c.env)).any (·.1) = false := by rfl) :
    Ev c E (.Call (.Name x np) (e :: rest) [] pos) m H Q := fun _ R => Call_ (nameF hc hx g hd R (callArgs k .nil R h hst hplain)) he
theorem Ev.call0 {x : Str} {np pos : Pos} {f : Value} (hc : CxOk lv c) (hx : c.env.kindOf x = some .globalImplicit) (g : GV c.w x f) (k : KeepOk c.w f) (h : OpN c E (fun vs => PySem.call f vs) [] m H Q)
    (hd : (x == ("__debug__" : Str)) = false := by decide)
    (he : eval (.Call (.Name x np) [] [] pos) c.env = (do callWith pos (← eval (.Name x np) c.env) [] (backTo pos (starEach [] c.env)) (backToKw pos (keywordEach [] c.env))) := by rfl) :
    Ev c E (.Call (.Name x np) [] [] pos) m H Q := fun _ R => Call_ (nameF hc hx g hd R (callNone k .nil R h)) he

noncomputable def MGet (c : Cx) (E : ER) (name : Str) (f : Value) (a : V) (m : Loc) (H : AH) : Prop :=
  ∀ va s (pl : Sem Bool) (Q' : Value × List Value → Shared → Prop), VR s.heap va a → Rel c m H s → Q' (f, [va]) s → wpAny (M c.w) c.A (getMethod va name pl) Q' E s
theorem Ev.meth {pl : Sem Bool} {o : Expr} {name : Str} {apos pos : Pos} {e : Expr} {rest : List Expr} (h : Ev c E o m H fun a H₁ => ∃ f, KeepOk c.w f ∧ MGet c E name f a m H₁ ∧ Evs c E (e :: rest) m H₁ fun as H₂ => OpN c E (fun vs => PySem.call f vs) (a :: as) m H₂ Q)
    (he : eval (.Call (.Attribute o name apos) (e :: rest) [] pos) c.env = (do
      let ov ← eval o c.env
      standAt apos.atName
      let (f, first) ← holding [ov] (getMethod ov name pl)
      callWith pos f first (backTo pos (starEach (e :: rest) c.env)) []) := by rfl)
    (hst : starEach (e :: rest) c.env = (false, eval e c.env) :: starEach rest c.env := by rfl) (hplain : (backTo pos (starEach rest c.env)).any (·.1) = false := by rfl) :
    Ev c E (.Call (.Attribute o name apos) (e :: rest) [] pos) m H Q := fun s R => by
  refine MethodCall_ (pl := pl) (wpAny_mono (h s R) (fun va s₁ z2 => el2_5 z2 fun a H₁ z3 r₁ R₁ m₁ g₁ => el1_3 z3 fun f k g h₁ => ?_) fun _ _ x => x) he
  refine g va s₁ _ _ r₁ R₁ ?_
  exact wpAny_mono (callArgs k (.cons r₁ .nil) R₁ h₁ hst hplain) (fun _ _ z => z.trans m₁ g₁) fun _ _ x => x
theorem Ev.meth0 {pl : Sem Bool} {o : Expr} {name : Str} {apos pos : Pos} (h : Ev c E o m H fun a H₁ => ∃ f, KeepOk c.w f ∧ MGet c E name f a m H₁ ∧ OpN c E (fun vs => PySem.call f vs) [a] m H₁ Q)
    (he : eval (.Call (.Attribute o name apos) [] [] pos) c.env = (do
      let ov ← eval o c.env
      standAt apos.atName
      let (f, first) ← holding [ov] (getMethod ov name pl)
      callWith pos f first (backTo pos (starEach [] c.env)) []) := by rfl) :
    Ev c E (.Call (.Attribute o name apos) [] [] pos) m H Q := fun s R => by
  refine MethodCall_ (pl := pl) (wpAny_mono (h s R) (fun va s₁ z4 => el2_5 z4 fun a H₁ z5 r₁ R₁ m₁ g₁ => el1_3 z5 fun f k g h₁ => ?_) fun _ _ x => x) he
  refine g va s₁ _ _ r₁ R₁ ?_
  exact wpAny_mono (callNone k (.cons r₁ .nil) R₁ h₁) (fun _ _ z => z.trans m₁ g₁) fun _ _ x => x

section
variable {p : Addr} {xs : List V}
theorem mget_list {name : Str} {id : String} (slot : Slot "list" name id) (hty : typeOf (.builtin id) = pure (.type "method_descriptor")) (hp : H p = some (.list xs)) : MGet c E name (.builtin id) (.ref p) m H := fun va s pl Q' r R q => by
  cases r
  refine el2_2 (R.objs p _ hp) fun vs n e _ => ?_
  exact getMethod_builtin ⟨_, e, rfl⟩ F.plainAttrs_list slot hty (fun b eb => by injection eb with eb; subst eb; exact (mk1_2 _ e rfl)) q
theorem mget_add {f : Int → Bool} {n : Nat} (hp : H p = some (.iset f n)) : MGet c E "add" (.builtin "set.add") (.ref p) m H := fun va s pl Q' r R q => by
  cases r
  exact getMethod_set_add (knd := intKind pw c.w) (R.objs p _ hp) q
theorem mget_join {x : Str} : MGet c E "join" (.builtin "str.join") (.str x) m H := fun va s pl Q' r R q => by
  cases r
  exact PySem.GM.join q
end

-- instances
theorem Rel.inst (R : Rel c m H s) {p C d : Addr} {fs : List (Str × V)} (hp : H p = some (.inst C d fs)) : ∃ ox es n, InstAt s.heap p ox C (some (dictOf es n)) ∧ s.heap.get? d = some (dictOf es n) ∧ ox.dict = some d ∧ FldR s.heap es fs := by
  refine el3_7 (R.objs p _ hp) fun ox es n e1 e2 e3 e4 e5 e6 e7 => ?_
  refine (mk3_4 ox es n ⟨e1, e2, ?_, ?_⟩ e5 e3 e7)
  · unfold notCls; rw [e4]
  · rw [e3]; exact e5
theorem handed {h : Heap} {v : Value} {d : V} (r : VR h v d) : handedIn v = true := by cases r <;> rfl
structure AttrOk (w : World) (C : Addr) (name : Str) : Prop where
  ga : findIn (KT w.params) (.ref C) "__getattribute__" = some (some (.builtin "object.__getattribute__"))
  dict : hasDictIn (KT w.params) C = true
  none : ∃ attr, findIn (KT w.params) (.ref C) name = some attr ∧ noGet (KT w.params) attr = true
theorem Ev.attr {value : Expr} {attr : Str} {pos : Pos} (h : Ev c E value m H fun a H₁ => ∃ p C d fs v, a = .ref p ∧ H₁ p = some (.inst C d fs) ∧ AttrOk c.w C attr ∧ fs.lookup attr = some v ∧ Q v H₁)
    (he : eval (.Attribute value attr pos) c.env = (do
      let o ← eval value c.env
      standAt pos.atName
      let r ← holding [o] (getAttr o attr true)
      letTemporaryGo value o r
      pure r) := by rfl) : Ev c E (.Attribute value attr pos) m H Q := fun s R => by
  refine Attribute_any_ (wpAny_mono (h s R) (fun va s₁ z6 => el2_5 z6 fun a H₁ z7 r₁ R₁ m₁ g₁ => el5_5 z7 fun p C d fs v ea hp ok hl q => ?_) fun _ _ x => x) he
  apply r₁.refQ ea
  refine el3_4 (R₁.inst hp) fun ox es n I _ _ z8 => ?_; obtain ⟨f1, _⟩ := z8
  refine el1_2 (f1 _ _ hl) fun u hu ru => ?_
  refine el1_2 ok.none fun at_ h1 h2 => ?_
  exact get_value R₁.K I ok.ga (findObj_own ok.dict h1 h2 (by rw [lookIn_dict]; exact hu)) (handed ru) (EvP.trans m₁ g₁ (R₁.here q ru))
structure MethOk (w : World) (C : Addr) (name : Str) (f : Addr) : Prop where
  ga : findIn (KT w.params) (.ref C) "__getattribute__" = some (some (.builtin "object.__getattribute__"))
  get : findIn (KT w.params) (.ref C) "__getattr__" = some none
  at_ : findIn (KT w.params) (.ref C) name = some (some (.ref f))
  fn : typeIn (KT w.params) (.ref f) = some (.type "function")
  keep : keepIn (KT w.params) (.ref f) = true
theorem mget_inst {name : Str} {f p C d : Addr} {fs : List (Str × V)} (ok : MethOk c.w C name f) (hp : H p = some (.inst C d fs)) (hn : fs.lookup name = none) : MGet c E name (.ref f) (.ref p) m H := fun va s pl Q' r R q => by
  cases r
  refine el3_4 (R.inst hp) fun ox es n I _ _ z9 => ?_; obtain ⟨_, f2, _⟩ := z9
  refine method_fn R.K I ok.ga ok.get ok.at_ ok.fn ?_ q
  show (lookIn name (dictOf es n)).map (·.isSome) = some false
  rw [lookIn_dict, f2 _ hn]; rfl
end
inductive Fl where
  | next | brk | cont
  | ret (d : V)
noncomputable def FlR (h : Heap) : Flow → Fl → Prop
  | .next, .next => True
  | .brk, .brk => True
  | .cont, .cont => True
  | .ret v, .ret d => VR h v d
  | _, _ => False
theorem FlR.mono {h h' : Heap} {f : Flow} {fl : Fl} (T : Tups h h') (r : FlR h f fl) : FlR h' f fl := by
  cases f <;> cases fl <;> first | trivial | exact VR.mono T r | exact r.elim

noncomputable def MovesL (c : Cx) (H : AH) (h h' : Heap) : Prop :=
  ∀ b o, h.get? b = some o → H b = none → b ≠ c.env.locals → (∀ x, c.env.kindOf x = some .cell → c.env.cells.lookup x ≠ some b) → ∃ o', h'.get? b = some o' ∧ Same o o'
theorem Moves.toL {c : Cx} {H : AH} {h h' : Heap} (x : Moves H h h') : MovesL c H h h' := fun b o e n _ _ => x b o e n
theorem MovesL.refl (c : Cx) (H : AH) (h : Heap) : MovesL c H h h := (Moves.refl H h).toL
theorem MovesL.trans {c : Cx} {H H' : AH} {a b d : Heap} (x : MovesL c H a b) (g : Grow H H' a) (y : MovesL c H' b d) : MovesL c H a d := fun p o e hp h1 h2 => by
  refine el1_2 (x p o e hp h1 h2) fun o' e' s => ?_
  refine el1_2 (y p o' e' (g.1 p o e hp) h1 h2) fun o'' e'' s' => ?_
  exact (mk1_2 o'' e'' (s.trans s'))
theorem Grow.transL {c : Cx} {H H' H'' : AH} {h h' : Heap} (x : Grow H H' h) (m : ∀ b o, h.get? b = some o → H b = none → ∃ o', h'.get? b = some o') (y : Grow H' H'' h') : Grow H H'' h :=
  ⟨fun a o e n => by
    refine el1_1 (m a o e n) fun o' e' => ?_
    exact y.1 a o' e' (x.1 a o e n), fun a o e => by refine el1_1 (x.2 a o e) fun o' e' => ?_; exact y.2 a o' e'⟩

structure Step (c : Cx) (H H' : AH) (h h' : Heap) : Prop where
  mv : MovesL c H h h'
  gr : Grow H H' h
  there : ∀ b o, h.get? b = some o → H b = none → ∃ o', h'.get? b = some o'
  tups : Tups h h'
theorem Step.refl (c : Cx) (H : AH) (h : Heap) : Step c H H h h := ⟨.refl _ _ _, .refl _ _, fun _ o e _ => ⟨o, e⟩, .refl _⟩
theorem Step.trans {c : Cx} {H H' H'' : AH} {a b d : Heap} (x : Step c H H' a b) (y : Step c H' H'' b d) : Step c H H'' a d :=
  ⟨x.mv.trans x.gr y.mv, x.gr.transL (c := c) x.there y.gr, fun p o e n => by refine el1_1 (x.there p o e n) fun o' e' => ?_; exact y.there p o' e' (x.gr.1 p o e n), x.tups.trans y.tups⟩
theorem Step.of {c : Cx} {m : Loc} {H H' : AH} {s : Shared} (R : Rel c m H s) {h' : Heap} (x : Moves H s.heap h') (g : Grow H H' s.heap) : Step c H H' s.heap h' :=
  ⟨x.toL, g, fun b o e n => by refine el1_2 (x b o e n) fun o' e' _ => ?_; exact ⟨o', e'⟩, R.tups x⟩

noncomputable def ExP (c : Cx) (H : AH) (Q : Fl → Loc → AH → Prop) (s : Shared) (f : Flow) (s' : Shared) : Prop :=
  ∃ fl m' H', Q fl m' H' ∧ FlR s'.heap f fl ∧ Rel c m' H' s' ∧ Step c H H' s.heap s'.heap
noncomputable def Ex (c : Cx) (E : ER) (st : Stmt) (m : Loc) (H : AH) (Q : Fl → Loc → AH → Prop) : Prop :=
  ∀ s, Rel c m H s → wpAny (M c.w) c.A (exec st c.env) (ExP c H Q s) E s
noncomputable def Exs (c : Cx) (E : ER) (sts : List Stmt) (m : Loc) (H : AH) (Q : Fl → Loc → AH → Prop) : Prop :=
  ∀ s, Rel c m H s → wpAny (M c.w) c.A (execs sts c.env) (ExP c H Q s) E s
theorem ExP.trans {c : Cx} {H H₁ : AH} {Q : Fl → Loc → AH → Prop} {s s₁ s₂ : Shared} {f : Flow} (st : Step c H H₁ s.heap s₁.heap) (h : ExP c H₁ Q s₁ f s₂) : ExP c H Q s f s₂ := by
  refine el3_4 h fun fl m' H' q r R st' => ?_; try clear h
  exact (mk3_4 fl m' H' q r R (st.trans st'))
noncomputable def Then (c : Cx) (E : ER) (rest : List Stmt) (Q : Fl → Loc → AH → Prop) : Fl → Loc → AH → Prop
  | .next, m, H => Exs c E rest m H Q
  | fl, m, H => Q fl m H

section
variable {lv : Nat} {c : Cx} {E : ER} {m : Loc} {H : AH} {s : Shared} {Q : Fl → Loc → AH → Prop} {rest : List Stmt}
theorem Exs.nil (q : Q .next m H) : Exs c E [] m H Q := fun s R => wpAny_execs_nil ⟨.next, m, H, q, trivial, R, .refl _ _ _⟩
theorem Exs.cons {st : Stmt} (h : Ex c E st m H (Then c E rest Q)) : Exs c E (st :: rest) m H Q := fun s R => by
  refine wpAny_execs_cons (wpAny_mono (h s R) (fun f s₁ z1 => el3_4 z1 fun fl m₁ H₁ q r R₁ st₁ => ?_) fun _ _ x => x)
  cases f <;> cases fl <;> first | exact r.elim | skip
  · exact wpAny_mono (q s₁ R₁) (fun _ _ z => z.trans st₁) fun _ _ x => x
  all_goals exact (mk3_4 _ m₁ H₁ q r R₁ st₁)
theorem Exs.mono {sts : List Stmt} {Q' : Fl → Loc → AH → Prop} (h : Exs c E sts m H Q) (k : ∀ fl m' H', Q fl m' H' → Q' fl m' H') : Exs c E sts m H Q' := fun s R =>
  wpAny_mono (h s R) (fun _ _ z2 => el3_2 z2 fun fl m' H' q r => (mk3_2 fl m' H' (k _ _ _ q) r)) fun _ _ x => x
theorem Ex.mono {st : Stmt} {Q' : Fl → Loc → AH → Prop} (h : Ex c E st m H Q) (k : ∀ fl m' H', Q fl m' H' → Q' fl m' H') : Ex c E st m H Q' := fun s R =>
  wpAny_mono (h s R) (fun _ _ z3 => el3_2 z3 fun fl m' H' q r => (mk3_2 fl m' H' (k _ _ _ q) r)) fun _ _ x => x
theorem Exs.noRaise {sts : List Stmt} (h : Exs c (fun _ _ => False) sts m H Q) : Exs c E sts m H Q := fun s R => wpAny_noRaise (h s R)

theorem frames_map {h h' B : Heap} {Fs : List Env} : h.FunFrames B Fs → (∀ L ∈ Fs.filterMap (·.frame), ∀ o, h.get? L = some o → (∀ vs, o.data ≠ .fields vs) → ∃ o', h'.get? L = some o' ∧ ∀ vs, o'.data ≠ .fields vs) → h'.FunFrames B Fs := by
  induction Fs with
  | nil => exact fun _ _ => trivial
  | cons env rest ih =>
    intro z k
    refine el0_3 z fun hk y hr => ?_
    refine el2_4 y fun L o hf hn ho hd => ?_
    refine el1_2 (k L (by rw [List.filterMap_cons, hf]; exact .head _) o ho hd) fun o' ho' hd' => ?_
    refine mk0_3 hk (mk2_4 L o' hf hn ho' hd') (ih hr fun L' hL' => k L' ?_)
    rw [List.filterMap_cons, hf]; exact .tail _ hL'

theorem RelH.off (R : RelH c H s) {a : Addr} {h' : Heap} {tk : Nat} (hs : ∀ b o, b ≠ a → s.heap.get? b = some o → h'.get? b = some o) (hH : H a = none) (h0 : c.h₀.get? a = none) (hB : c.B.get? a = none)
    (hf : a ∈ c.Fs.filterMap (·.frame) → ∃ o' es n, h'.get? a = some o' ∧ o'.data = .dict es n) (ht : ∀ o, s.heap.get? a = some o → o.cls = .type "tuple" → ∀ vs n, o.data ≠ .seq vs n) :
    RelH c H { s with heap := h', toks := tk } ∧ Tups s.heap h' := by
  have T : Tups s.heap h' := fun b o vs n e hc hd => by
    by_cases q : b = a
    · subst q; exact absurd hd (ht o e hc vs n)
    · exact hs b o q e
  refine ⟨⟨R.gens, R.os, R.hb, fun b o e => hs b o (by rintro rfl; rw [hB] at e; cases e) (R.base b o e), fun b o e n => ?_, R.grow, fun b o e => ?_, R.offB, frames_map R.frames fun L hL o e hd => ?_, fun L hL => ?_, R.offF⟩, T⟩
  · refine el1_2 (R.since b o e n) fun o' e' sm => ?_
    exact (mk1_2 o' (hs b o' (by rintro rfl; rw [h0] at e; cases e) e') sm)
  · have r := R.objs b o e
    have hb : b ≠ a := by rintro rfl; rw [hH] at e; cases e
    refine el1_2 r.there fun ob e1 _ => ?_
    refine r.mono ((hs b ob hb e1).trans e1.symm) T fun d q => ?_
    refine el0_2 (r.dct q) fun z4 e6 => ?_; refine el2_1 z4 fun es n e5 => ?_
    have hd : d ≠ a := by rintro rfl; rw [hH] at e6; cases e6
    exact ⟨(hs d _ hd e5).trans e5.symm, rfl⟩
  · by_cases q : L = a
    · subst q; refine el3_2 (hf hL) fun o' es n e' hd' => ?_; exact (mk1_2 o' e' (fun vs z => by rw [hd'] at z; cases z))
    · exact (mk1_2 o (hs L o q e) hd)
  · by_cases q : L = a
    · subst q; exact hf hL
    · refine el3_2 (R.dfr L hL) fun o es n e hd => ?_
      exact (mk3_2 o es n (hs L o q e) hd)

theorem store_local (hc : CxOk lv c) (R : Rel c m H s) {x : Str} (hk : c.env.kindOf x = some .local) {v : Value} {d : V} (r : VR s.heap v d) {Q : Unit → Shared → Prop} (h : ∀ s', Rel c (m.set x d) H s' → Step c H H s.heap s'.heap → Heap.SameBut c.env.locals s.heap s'.heap → Q () s') :
    wpAny (M c.w) c.A (storeName c.env x v) Q E s := by
  refine el1_2 R.locs fun mc hn k => ?_
  refine wpAny_storeName_local hk hn (fun h' hn' sb => ?_) (by rw [hc.kind]; rfl)
  refine el3_3 (id hn) fun oL esL epL eL dL _ => ?_
  refine el3_3 (id hn') fun oL' esL' epL' eL' dL' _ => ?_
  obtain ⟨R', T⟩ := R.toRelH.off (a := c.env.locals) (h' := h') (tk := s.toks + 1) (fun b o hb e => (sb.2 b hb).trans e) R.offL R.newL R.baseL (fun _ => (mk3_2 oL' _ _ eL' dL'))
    (fun o e _ vs n q => by rw [eL] at e; cases e; rw [dL] at q; cases q)
  refine h _ ⟨R', ⟨_, hn', fun y dy e hy => ?_⟩, R.offL, R.newL, R.baseL, fun y a e => ?_⟩ ⟨fun b o e _ hb _ => (mk1_2 o ((sb.2 b hb).trans e) (.refl _)), .refl _ _, fun b o e _ => ?_, T⟩ sb
  · unfold Loc.set at e
    by_cases q : y = x
    · rw [if_pos q] at e; cases e; exact (mk1_2 v (if_pos q) (r.mono T))
    · rw [if_neg q] at e
      refine el1_2 (k y dy e hy) fun u e' r' => ?_
      exact (mk1_2 u ((if_neg q).trans e') (r'.mono T))
  · refine el0_5 (R.cells y a e) fun h1 h2 h3 h4 z5 => ?_; refine el2_3 z5 fun u o h5 h6 h7 => ?_
    refine (mk0_5 h1 h2 h3 h4  (mk2_3 u o ((sb.2 a h4).trans h5) h6 (fun dy hd hky => ?_)))
    have hyx : y ≠ x := by rintro rfl; rw [hk] at hky; rcases hky with z | z <;> cases z
    unfold Loc.set at hd
    rw [if_neg hyx] at hd
    refine el1_2 (h7 dy hd hky) fun v' e1 r1 => ?_
    exact (mk1_2 v' e1 (r1.mono T))
  · by_cases q : b = c.env.locals
    · exact ⟨oL', by rw [q]; exact eL'⟩
    · exact ⟨o, (sb.2 b q).trans e⟩

theorem Exs.assign {x : Str} {p pos : Pos} {e : Expr} (hc : CxOk lv c) (hk : c.env.kindOf x = some .local) (h : Ev c E e m H fun d H' => Exs c E rest (m.set x d) H' Q)
    (hs : swapsWith e (some (.Name x p)) pos.line c.env = pure false := by rfl) : Exs c E (.Assign [.Name x p] e pos :: rest) m H Q := Exs.cons fun s R =>
  wpAny_Assign_Name (wpAny_mono (h s R) (fun _ _ z6 => el2_5 z6 fun d H₁ h₁ r₁ R₁ m₁ g₁ => store_local hc R₁ hk r₁ fun _ R₂ st₂ _ => (mk3_4 .next _ H₁ h₁ trivial R₂ ((Step.of R m₁ g₁).trans st₂))) fun _ _ x => x) hs
theorem Exs.expr {e : Expr} {pos : Pos} (hc : CxOk lv c) (h : Ev c E e m H fun d H' => (∀ a, d ≠ .ref a) ∧ (∀ ds, d ≠ .tup ds) ∧ Exs c E rest m H' Q)
    (hs : swapsWith e none pos.line c.env = pure false := by rfl) : Exs c E (.Expr e pos :: rest) m H Q := Exs.cons fun s R =>
  wpAny_Expr (wpAny_mono (h s R) (fun v s₁ z7 => el2_5 z7 fun d H₁ z8 r₁ R₁ m₁ g₁ => el0_3 z8 fun n1 n2 h₁ => by
    have z : ExP c H (Then c E rest Q) s .next s₁ := ⟨.next, _, H₁, h₁, trivial, R₁, Step.of R m₁ g₁⟩
    cases r₁ with
    | ref a => exact absurd rfl (n1 a)
    | tup _ _ _ _ => exact absurd rfl (n2 _)
    | _ => exact z) fun _ _ x => x) (by unfold interactive; rw [hc.kind]; rfl) hs
theorem Exs.if_ {t : Expr} {body orelse : List Stmt} {pos : Pos} (h : Tr c E t m H fun b H' => if b = true then Exs c E body m H' (Then c E rest Q) else Exs c E orelse m H' (Then c E rest Q)) : Exs c E (.If t body orelse pos :: rest) m H Q := Exs.cons fun s R => by
  refine wpAny_If (wpAny_mono (h s R) (fun b s₁ z9 => el1_4 z9 fun H₁ h₁ R₁ m₁ g₁ => ?_) fun _ _ x => x)
  have st := Step.of R m₁ g₁
  cases b with
  | true => exact wpAny_mono (h₁ s₁ R₁) (fun _ _ z => z.trans st) fun _ _ x => x
  | false => exact wpAny_mono (h₁ s₁ R₁) (fun _ _ z => z.trans st) fun _ _ x => x
theorem Exs.ret {e : Expr} {pos : Pos} (h : Ev c E e m H fun d H' => Q (.ret d) m H') : Exs c E (.Return (some e) pos :: rest) m H Q := Exs.cons fun s R =>
  wpAny_Return_some (wpAny_mono (h s R) (fun _ _ z10 => el2_5 z10 fun d H₁ h₁ r₁ R₁ m₁ g₁ => (mk3_4 (.ret d) m H₁ h₁ r₁ R₁ (Step.of R m₁ g₁))) fun _ _ x => x)
theorem Exs.cont {pos : Pos} (q : Q .cont m H) : Exs c E (.Continue pos :: rest) m H Q := Exs.cons fun _ R => wpAny_Continue ⟨.cont, m, H, q, trivial, R, .refl _ _ _⟩

noncomputable def Op3 (c : Cx) (E : ER) (o i v : V) (m : Loc) (H : AH) (Q : AH → Prop) : Prop :=
  ∀ vo vi vv s, VR s.heap vo o → VR s.heap vi i → VR s.heap vv v → Rel c m H s → wpAny (M c.w) c.A (setItem vo vi vv) (fun _ => EvP c m H (fun _ H' => Q H') s .none) E s
theorem Exs.setItem {o i e : Expr} {p pos : Pos} (h : Ev c E e m H fun v H₁ => Ev c E o m H₁ fun a H₂ => Ev c E i m H₂ fun b H₃ => Op3 c E a b v m H₃ fun H' => Exs c E rest m H' Q)
    (hs : swapsWith e (some (.Subscript o i p)) pos.line c.env = pure false := by rfl) : Exs c E (.Assign [.Subscript o i p] e pos :: rest) m H Q := Exs.cons fun s R => by
  refine wpAny_Assign_Subscript (wpAny_mono (h s R) (fun vv s₁ z11 => el2_5 z11 fun v H₁ h₁ r₁ R₁ m₁ g₁ => ?_) fun _ _ x => x) hs
  refine wpAny_mono (h₁ s₁ R₁) (fun vo s₂ z12 => el2_5 z12 fun a H₂ h₂ r₂ R₂ m₂ g₂ => ?_) fun _ _ x => x
  refine wpAny_mono (h₂ s₂ R₂) (fun vi s₃ z13 => el2_5 z13 fun b H₃ h₃ r₃ R₃ m₃ g₃ => ?_) fun _ _ x => x
  refine wpAny_mono (h₃ vo vi vv s₃ (r₂.mono (R₂.tups m₃)) r₃ ((r₁.mono (R₁.tups m₂)).mono (R₂.tups m₃)) R₃) (fun _ s₄ z14 => el2_5 z14 fun _ H₄ q _ R₄ m₄ g₄ => ?_) fun _ _ x => x
  exact (mk3_4 .next m H₄ q trivial R₄ ((((Step.of R m₁ g₁).trans (Step.of R₁ m₂ g₂)).trans (Step.of R₂ m₃ g₃)).trans (Step.of R₃ m₄ g₄)))
theorem Exs.augName {x : Str} {p pos : Pos} {op : Operator} {e : Expr} {d₀ : V} (hc : CxOk lv c) (hk : c.env.kindOf x = some .local) (hx : m x = some d₀) (h : Ev c E e m H fun d H₁ => Op2 c E (inplaceOp op) d₀ d m H₁ fun d' H' => Exs c E rest (m.set x d') H' Q) :
    Exs c E (.AugAssign (.Name x p) op e pos :: rest) m H Q := Exs.cons fun s R => by
  refine el1_2 R.locs fun mc hn k => ?_
  refine el1_2 (k x d₀ hx hk) fun v₀ e₀ r₀ => ?_
  refine wpAny_AugAssign_Name (wpAny_loadName_local hc.kind hk hn e₀ ?_)
  refine wpAny_mono (h s R) (fun v s₁ z15 => el2_5 z15 fun d H₁ h₁ r₁ R₁ m₁ g₁ => ?_) fun _ _ x => x
  refine wpAny_mono (h₁ v₀ v s₁ (r₀.mono (R.tups m₁)) r₁ R₁) (fun v' s₂ z16 => el2_5 z16 fun d' H₂ h₂ r₂ R₂ m₂ g₂ => ?_) fun _ _ x => x
  exact store_local hc R₂ hk r₂ fun _ R₃ st₃ _ => (mk3_4 .next _ H₂ h₂ trivial R₃ (((Step.of R m₁ g₁).trans (Step.of R₁ m₂ g₂)).trans st₃))

-- while
noncomputable def Wh (c : Cx) (E : ER) (test : Expr) (body : List Stmt) : Nat → Loc → AH → (Fl → Loc → AH → Prop) → Prop
  | 0, _, _, _ => False
  | n + 1, m, H, Q => Tr c E test m H fun b H₁ => if b = true then Exs c E body m H₁ fun fl m' H' => match fl with
      | .next => Wh c E test body n m' H' Q
      | .cont => Wh c E test body n m' H' Q
      | .brk => Q .next m' H'
      | .ret d => Q (.ret d) m' H'
    else Q .next m H₁
theorem Wh.ex {test : Expr} {body : List Stmt} {pos : Pos} {n : Nat} (hE : PassesOwn (M c.w) c.A c.env E) (h : Wh c E test body n m H Q) : Ex c E (.While test body [] pos) m H Q := fun s R => by
  refine wpAny_While (codeAny_whileLoop (fun n s' => ∃ m' H', Wh c E test body n m' H' Q ∧ Rel c m' H' s' ∧ Step c H H' s.heap s'.heap) (fun n s' z17 => el2_3 z17 fun m' H' hw R' st' => ?_) n ⟨m, H, h, R, .refl _ _ _⟩)
  cases n with
  | zero => exact hw.elim
  | succ n =>
    refine wpAny_passesOwn hE (wpAny_mono (hw s' R') (fun b s₁ z18 => el1_4 z18 fun H₁ h₁ R₁ m₁ g₁ => ?_) fun _ _ x => x)
    have st₁ := st'.trans (Step.of R' m₁ g₁)
    cases b with
    | false =>
      rw [if_neg Bool.false_ne_true] at h₁ ⊢
      exact wpAny_execs_nil ⟨.next, m', H₁, h₁, trivial, R₁, st₁⟩
    | true =>
      rw [if_pos rfl] at h₁ ⊢
      refine wpAny_passesOwn hE (wpAny_mono (h₁ s₁ R₁) (fun f s₂ z19 => el3_4 z19 fun fl m₂ H₂ h₂ r₂ R₂ st₂ => ?_) fun _ _ x => x)
      have st := st₁.trans st₂
      cases f <;> cases fl <;> first | exact r₂.elim | skip
      · exact (mk1_2 n (Nat.lt_succ_self n)  (mk2_3 m₂ H₂ h₂ R₂ st))
      · exact (mk3_4 .next m₂ H₂ h₂ trivial R₂ st)
      · exact (mk1_2 n (Nat.lt_succ_self n)  (mk2_3 m₂ H₂ h₂ R₂ st))
      · exact (mk3_4 (.ret _) m₂ H₂ h₂ r₂ R₂ st)
theorem Exs.while_ {test : Expr} {body : List Stmt} {pos : Pos} (n : Nat) (hE : PassesOwn (M c.w) c.A c.env E) (h : Wh c E test body n m H (Then c E rest Q)) : Exs c E (.While test body [] pos :: rest) m H Q := Exs.cons (h.ex hE)

-- for
noncomputable def For (c : Cx) (E : ER) (P : AH → Prop) (x : Str) (body : List Stmt) : List V → Loc → AH → (Fl → Loc → AH → Prop) → Prop
  | [], m, H, Q => P H ∧ Q .next m H
  | d :: ds, m, H, Q => P H ∧ Exs c E body (m.set x d) H fun fl m' H' => match fl with
      | .next => For c E P x body ds m' H' Q
      | .cont => For c E P x body ds m' H' Q
      | .brk => Q .next m' H'
      | .ret d => Q (.ret d) m' H'
structure Nx (c : Cx) (I : Addr) (P : AH → Prop) (ds : List V) (St : Nat → Heap → Prop) : Prop where
  item : ∀ i s m H d (E : ER) (Q : Option Value → Shared → Prop), Rel c m H s → P H → St i s.heap → ds[i]? = some d →
    (∀ v h' tk, VR s.heap v d → St (i + 1) h' → (∀ b o, b ≠ I → s.heap.get? b = some o → h'.get? b = some o) → Q (some v) { s with heap := h', toks := tk }) → wpAny (M c.w) c.A (pyNext (.ref I)) Q E s
  done : ∀ s m H (E : ER) (Q : Option Value → Shared → Prop), Rel c m H s → P H → St ds.length s.heap →
    (∀ h' tk, (∀ b o, b ≠ I → s.heap.get? b = some o → h'.get? b = some o) → Q none { s with heap := h', toks := tk }) → wpAny (M c.w) c.A (pyNext (.ref I)) Q E s
  at_ : ∀ i h, St i h → ∃ o, h.get? I = some o ∧ o.cls ≠ .type "tuple" ∧ ∀ es n, o.data ≠ .dict es n
  frame : ∀ i h h', St i h → h'.get? I = h.get? I → Tups h h' → St i h'
structure Free (c : Cx) (H : AH) (I : Addr) : Prop where
  H : H I = none
  loc : I ≠ c.env.locals
  cell : ∀ x, c.env.cells.lookup x ≠ some I
  h0 : c.h₀.get? I = none
  B : c.B.get? I = none
  fr : I ∉ c.Fs.filterMap (·.frame)
theorem Rel.in0 (R : Rel c m H s) {b : Addr} {o : Obj} (e : c.h₀.get? b = some o) : ∃ o', s.heap.get? b = some o' := by
  cases q : c.H₀ b with
  | none => refine el1_2 (R.since b o e q) fun o' e' _ => ?_; exact ⟨o', e'⟩
  | some ob =>
    refine el1_1 (R.grow.2 b ob q) fun ob' e' => ?_
    refine el1_2 ((R.objs b ob' e').there) fun o' e'' _ => ?_
    exact ⟨o', e''⟩
theorem Rel.free (R : Rel c m H s) {I : Addr} (hn : s.heap.get? I = none) : Free c H I where
  H := none_of_new R hn
  loc := by rintro rfl; refine el1_2 R.locs fun _ z20 _ => ?_; obtain ⟨o, _, _, e, _⟩ := z20; rw [hn] at e; cases e
  cell := fun x e => by refine el0_5 (R.cells x I e) fun _ _ _ _ z21 => ?_; refine el2_2 z21 fun _ o e' _ => ?_; rw [hn] at e'; cases e'
  h0 := by cases q : c.h₀.get? I with
    | none => rfl
    | some o => refine el1_1 (R.in0 q) fun o' e => ?_; rw [hn] at e; cases e
  B := by cases q : c.B.get? I with
    | none => rfl
    | some o => have := R.base I o q; rw [hn] at this; cases this
  fr := fun q => by refine el0_2 (R.frames.mem q) fun _ z22 => ?_; refine el1_2 z22 fun o e _ => ?_; rw [hn] at e; cases e
theorem Free.grow {H' : AH} {h : Heap} {I : Addr} (x : Free c H I) (g : Grow H H' h) {o : Obj} (e : h.get? I = some o) : Free c H' I := ⟨g.1 I o e x.H, x.loc, x.cell, x.h0, x.B, x.fr⟩
theorem Rel.offW (R : Rel c m H s) {I : Addr} {h' : Heap} {tk : Nat} (f : Free c H I) (hs : ∀ b o, b ≠ I → s.heap.get? b = some o → h'.get? b = some o) (ht : ∀ o, s.heap.get? I = some o → o.cls = .type "tuple" → ∀ vs n, o.data ≠ .seq vs n) :
    Rel c m H { s with heap := h', toks := tk } ∧ Tups s.heap h' := by
  refine el0_2 (R.toRelH.off (a := I) (tk := tk) hs f.H f.h0 f.B (fun q => absurd q f.fr) ht) fun R' T => ?_
  refine ⟨⟨R', ?_, R.offL, R.newL, R.baseL, fun x a e => ?_⟩, T⟩
  · refine el1_2 R.locs fun mc z23 k => ?_; obtain ⟨o, es, ep, e, r⟩ := z23
    exact (mk1_2 mc ⟨o, es, ep, hs _ o (Ne.symm f.loc) e, r⟩ (fun x d hd hk => by refine el1_2 (k x d hd hk) fun v e' r' => ?_; exact (mk1_2 v e' (r'.mono T))))
  · refine el0_5 (R.cells x a e) fun h1 h2 h3 h4 z24 => ?_; refine el2_3 z24 fun u o h5 h6 h7 => ?_
    exact (mk0_5 h1 h2 h3 h4  (mk2_3 u o (hs a o (by rintro rfl; exact f.cell x e) h5) h6 (fun d hd hk => by refine el1_2 (h7 d hd hk) fun v e' r' => ?_; exact (mk1_2 v e' (r'.mono T)))))

theorem Rel.offI (R : Rel c m H s) {I : Addr} {h' : Heap} {tk : Nat} (f : Free c H I) (hs : ∀ b o, b ≠ I → s.heap.get? b = some o → h'.get? b = some o) (ht : ∀ o, s.heap.get? I = some o → o.cls ≠ .type "tuple") :
    Rel c m H { s with heap := h', toks := tk } ∧ Tups s.heap h' := R.offW f hs fun o e hc => absurd hc (ht o e)

noncomputable def ForAt (c : Cx) (E : ER) (x : Str) (body : List Stmt) (m : Loc) (H : AH) (Q : Fl → Loc → AH → Prop) (s : Shared) (it : Value) (s₂ : Shared) : Prop :=
  ∃ I H₁ P ds St, it = .ref I ∧ Nx c I P ds St ∧ St 0 s₂.heap ∧ s.heap.get? I = none ∧ Free c H₁ I ∧ Rel c m H₁ s₂ ∧ Step c H H₁ s.heap s₂.heap ∧ For c E P x body ds m H₁ Q
theorem Ex.forG {x : Str} {xp pos : Pos} {iter : Expr} {body : List Stmt} (hc : CxOk lv c) (hE : PassesOwn (M c.w) c.A c.env E) (hk : c.env.kindOf x = some .local)
    (h : ∀ s, Rel c m H s → wpAny (M c.w) c.A (eval iter c.env) (fun xv s₁ => wpAny (M c.w) c.A (pyIter xv) (ForAt c E x body m H Q s) E s₁) E s)
    (hs : ∀ y, foldedSetIterable iter c.env y = pure y := by intro _; rfl) : Ex c E (.For (.Name x xp) iter body [] pos) m H Q := fun s R => by
  refine wpAny_For (wpAny_mono (h s R) (fun xv s₁ h₁ => wpAny_mono h₁ (fun it s₂ h₂ => ?_) fun _ _ x => x) fun _ _ x => x) hs
  refine el5_8 h₂ fun I H₁ P ds St z25 N st0 hnI f0 R₁ stp hF => ?_; try clear h₂; subst z25
  have pre : ∀ b, (∃ o, s.heap.get? b = some o) → b ≠ I := by rintro b ⟨o, e⟩ rfl; rw [hnI] at e; cases e
  refine codeAny_forLoop (fun n s' => ∃ i m' H', n + i = ds.length + 1 ∧ i ≤ ds.length ∧ For c E P x body (ds.drop i) m' H' Q ∧ St i s'.heap ∧ Free c H' I ∧ Rel c m' H' s' ∧ Step c H H' s.heap s'.heap) (fun n s' h' => ?_) (ds.length + 1)
    ⟨0, m, H₁, rfl, Nat.zero_le _, hF, st0, f0, R₁, stp⟩
  refine el3_7 h' fun i m' H' hn hi hF st f R' stp' => ?_; try clear h'
  refine el1_3 (N.at_ i _ st) fun oI eI cI dI => ?_
  have ht : ∀ o, s'.heap.get? I = some o → o.cls ≠ .type "tuple" := fun o e => by rw [eI] at e; cases e; exact cI
  have stepI : ∀ {h' : Heap} {tk : Nat}, (∀ b o, b ≠ I → s'.heap.get? b = some o → h'.get? b = some o) → Step c H H' s.heap h' ∧ Rel c m' H' { s' with heap := h', toks := tk } ∧ Tups s'.heap h' := fun {h'} {tk} k => by
    refine el0_2 (R'.offI (tk := tk) f k ht) fun R₂ T => ?_
    refine ⟨⟨fun b o e n h1 h2 => ?_, stp'.gr, fun b o e n => ?_, stp'.tups.trans T⟩, R₂, T⟩
    · refine el1_2 (stp'.mv b o e n h1 h2) fun o' e' sm => ?_
      exact (mk1_2 o' (k b o' (pre b ⟨o, e⟩) e') sm)
    · refine el1_1 (stp'.there b o e n) fun o' e' => ?_
      exact ⟨o', k b o' (pre b ⟨o, e⟩) e'⟩
  by_cases hlt : i < ds.length
  · have hd : ds[i]? = some ds[i] := List.getElem?_eq_getElem hlt
    rw [List.drop_eq_getElem_cons hlt] at hF
    refine el0_2 hF fun hP hF => ?_
    refine N.item i s' m' H' _ _ _ R' hP st hd fun v h₁ tk r₁ st₁ k₁ => ?_
    refine el0_3 (stepI (tk := tk) k₁) fun stp₂ R₂ T₂ => ?_
    refine wpAny_assign_Name (store_local hc R₂ hk (r₁.mono T₂) fun s₃ R₃ st₃ _ => ?_)
    refine el1_3 (N.at_ _ _ st₁) fun oI' eI' _ dI' => ?_
    have e3 : s₃.heap.get? I = h₁.get? I := by
      refine el1_2 (st₃.mv I oI' eI' f.H f.loc fun y _ => f.cell y) fun o' e' sm => ?_
      rw [e', sm.eq dI']; exact eI'.symm
    have hst₃ : St (i + 1) s₃.heap := N.frame _ _ _ st₁ e3 st₃.tups
    refine wpAny_passesOwn hE (wpAny_mono (hF s₃ R₃) (fun fo s₄ z26 => el3_4 z26 fun fl m₄ H₄ h₄ r₄ R₄ st₄ => ?_) fun _ _ x => x)
    have stA := (stp₂.trans st₃).trans st₄
    have eI3 : s₃.heap.get? I = some oI' := e3.trans eI'
    have e4 : s₄.heap.get? I = s₃.heap.get? I := by
      refine el1_2 (st₄.mv I oI' eI3 f.H f.loc fun y _ => f.cell y) fun o' e' sm => ?_
      rw [e', sm.eq dI']; exact eI3.symm
    have f₄ : Free c H₄ I := f.grow st₄.gr eI3
    cases fo <;> cases fl <;> first | exact r₄.elim | skip
    · exact (mk1_2 (n - 1) (by (first | lia | omega))  (mk3_7 (i + 1) m₄ H₄ (by (first | lia | omega)) (by (first | lia | omega)) h₄ (N.frame _ _ _ hst₃ e4 st₄.tups) f₄ R₄ stA))
    · exact (mk3_4 .next m₄ H₄ h₄ trivial R₄ stA)
    · exact (mk1_2 (n - 1) (by (first | lia | omega))  (mk3_7 (i + 1) m₄ H₄ (by (first | lia | omega)) (by (first | lia | omega)) h₄ (N.frame _ _ _ hst₃ e4 st₄.tups) f₄ R₄ stA))
    · exact (mk3_4 (.ret _) m₄ H₄ h₄ r₄ R₄ stA)
  · obtain rfl : i = ds.length := by (first | lia | omega)
    rw [List.drop_eq_nil_of_le (Nat.le_refl _)] at hF
    refine N.done s' m' H' _ _ R' hF.1 st fun h₁ tk k₁ => ?_
    refine el0_3 (stepI (tk := tk) k₁) fun stp₂ R₂ _ => ?_
    exact wpAny_execs_nil ⟨.next, m', H', hF.2, trivial, R₂, stp₂⟩
end
noncomputable def RetC (c : Cx) (m : Loc) (H : AH) (Q : V → AH → Prop) (s : Shared) (r : Result) (s' : Shared) : Prop := match r with
  | .ok (.ret v) => EvP c m H Q s v s'
  | _ => False
noncomputable def Fn (lv : Nat) (w : World) (f : Value) (as : List V) (H : AH) (Q : V → AH → Prop) : Prop :=
  ∀ c m, c.w = w → CxOk lv c → ∀ vs s, VRs s.heap vs as → Rel c m H s → codeAny (M c.w) c.A (.call f ⟨vs, []⟩) (RetC c m H Q s) s
noncomputable def RetQ (Q : V → AH → Prop) : Fl → Loc → AH → Prop
  | .ret d, _, H => Q d H
  | .next, _, H => Q .none H
  | _, _, _ => False
noncomputable def Loc.nil : Loc := fun _ => none
noncomputable def locOf : List (Str × V) → Loc
  | [] => Loc.nil
  | p :: l => (locOf l).set p.1 p.2
theorem locOf_lookup {l : List (Str × V)} {y : Str} {d : V} (e : locOf l y = some d) : l.lookup y = some d := by
  induction l with
  | nil => cases e
  | cons a l ih =>
    obtain ⟨x, u⟩ := a
    rw [List.lookup_cons]
    simp only [locOf, Loc.set] at e
    by_cases q : y = x
    · rw [if_pos q] at e
      simp [q, e]
    · rw [if_neg q] at e
      have : (y == x) = false := by simpa using q
      rw [this]; exact ih e
noncomputable def BndR (h : Heap) (bs : List (Str × Value)) (ds : List (Str × V)) : Prop := bs.map (·.1) = ds.map (·.1) ∧ VRs h (bs.map (·.2)) (ds.map (·.2))
theorem CxOk.mono {lv lv' : Nat} {c : Cx} (h : CxOk lv c) (hl : lv' ≤ lv) : CxOk lv' c :=
  ⟨h.kind, h.globals, h.builtins, h.handled, by have := h.depth; (first | lia | omega), by have := h.units; (first | lia | omega), h.frames, h.top⟩
theorem Fn.mono {lv lv' : Nat} {w : World} {f : Value} {as : List V} {H : AH} {Q : V → AH → Prop} (h : Fn lv w f as H Q) (hl : lv ≤ lv') : Fn lv' w f as H Q := fun c m hw hc => h c m hw (hc.mono hl)
theorem OpN.mono {c : Cx} {E : ER} {t : List Value → Sem Value} {as : List V} {m : Loc} {H : AH} {Q Q' : V → AH → Prop} (h : OpN c E t as m H Q) (k : ∀ d H', Q d H' → Q' d H') : OpN c E t as m H Q' := fun vs s r R =>
  wpAny_mono (h vs s r R) (fun _ _ z1 => el2_2 z1 fun d H' q z => (mk2_2 d H' (k _ _ q) z)) fun _ _ x => x
theorem Fn.post {lv : Nat} {w : World} {f : Value} {as : List V} {H : AH} {Q Q' : V → AH → Prop} (h : Fn lv w f as H Q) (k : ∀ d H', Q d H' → Q' d H') : Fn lv w f as H Q' := fun c m hw hc vs s r R => codeAny_mono (h c m hw hc vs s r R) fun x s' z => by
  rcases x with e | (v | _ | _ | _) <;> first | exact z.elim | skip
  refine el2_2 z fun d H' q y => ?_; try clear z
  exact (mk2_2 d H' (k _ _ q) y)
theorem Fn.at {lv lv' : Nat} {c : Cx} {m : Loc} {E : ER} {f : Value} {as : List V} {H : AH} {Q : V → AH → Prop} (h : Fn lv c.w f as H Q) (hc : CxOk lv' c) (hl : lv ≤ lv' := by (first | lia | omega)) : OpN c E (fun vs => call f vs) as m H Q := fun vs s r R => wpAny_call (codeAny_mono (h c m rfl (hc.mono hl) vs s r R) fun x s' z => by
  rcases x with e | (v | _ | _ | _) <;> first | exact z.elim | exact z)

theorem BndR.lookup {h : Heap} {bs : List (Str × Value)} {ds : List (Str × V)} (r : BndR h bs ds) {y : Str} {d : V} (e : ds.lookup y = some d) : ∃ v, bs.lookup y = some v ∧ VR h v d := by
  induction bs generalizing ds with
  | nil =>
    cases ds with
    | nil => cases e
    | cons a l => have := r.1; simp at this
  | cons b bs ih =>
    cases ds with
    | nil => cases e
    | cons a l =>
      refine el0_2 r fun h1 h2 => ?_; try clear r
      simp only [List.map_cons, List.cons.injEq] at h1
      simp only [List.map_cons] at h2
      cases h2 with
      | cons x y' =>
        rw [List.lookup_cons] at e ⊢
        rw [h1.1]
        split
        · rename_i q; rw [q] at e; cases e; exact (mk1_2 b.2 rfl x)
        · rename_i q; rw [q] at e; exact ih ⟨h1.2, y'⟩ e
theorem lookup_none {α : Type} {l : List (Str × α)} {y : Str} (h : y ∉ l.map (·.1)) : l.lookup y = none := by
  induction l with
  | nil => rfl
  | cons a l ih =>
    rw [List.map_cons, List.mem_cons, not_or] at h
    have q : (y == a.1) = false := by simpa using h.1
    obtain ⟨a1, a2⟩ := a
    simp only [List.lookup_cons, q]
    exact ih h.2
theorem lookup_append {α : Type} (l r : List (Str × α)) (y : Str) : (l ++ r).lookup y = (l.lookup y).or (r.lookup y) := by
  induction l with
  | nil => rfl
  | cons a l ih =>
    rw [List.cons_append, List.lookup_cons, List.lookup_cons, ih]
    split <;> rfl
theorem lookup_reverse {α : Type} {l : List (Str × α)} (h : (l.map (·.1)).Nodup) (y : Str) : l.reverse.lookup y = l.lookup y := by
  induction l with
  | nil => rfl
  | cons a l ih =>
    rw [List.map_cons, List.nodup_cons] at h
    obtain ⟨a1, a2⟩ := a
    rw [List.reverse_cons, lookup_append, ih h.2]
    by_cases q : y = a1
    · subst q
      rw [lookup_none h.1]
      simp [List.lookup_cons]
    · have : (y == a1) = false := by simpa using q
      simp only [List.lookup_cons, this, List.lookup_nil, Option.or_none]

noncomputable def calleeCx (c : Cx) (s : Shared) (H : AH) (env : Env) : Cx := { w := c.w, A := c.A.deeper env, env := env, B := c.B, Fs := env :: c.Fs, h₀ := s.heap, H₀ := H, g₀ := c.g₀, o₀ := c.o₀ }
theorem callee_rel {c : Cx} {m : Loc} {H : AH} {s : Shared} (R : Rel c m H s) {env : Env} {h' : Heap} {tk : Nat} {mc : Str → Option Value} {m' : Loc} (hL : env.locals = s.heap.objs.size) (hfr : env.frame = some env.locals) (hk : env.scope.kind = .function)
    (hns : h'.Ns env.locals mc) (hkp : ∀ b o, s.heap.get? b = some o → h'.get? b = some o) (hm : ∀ x d, m' x = some d → ∃ v, mc x = some v ∧ VR h' v d) (hcell : env.cells = []) :
    Rel (calleeCx c s H env) m' H { s with heap := h', toks := tk } := by
  have hn : s.heap.get? env.locals = none := hL ▸ size_none s.heap
  have f := R.free hn
  have RH := (R.toRelH.ext (h' := h') (tk := tk) hkp)
  refine el3_3 (id hns) fun oL es ep eL dL _ => ?_
  exact { gens := R.gens, os := R.os, hb := R.hb, base := RH.base, since := .of_keeps hkp, grow := .refl _ _, objs := RH.objs, offB := R.offB
          frames := ⟨by rw [hk]; exact nofun, ⟨_, oL, hfr, f.B, eL, fun vs q => by rw [dL] at q; cases q⟩, RH.frames⟩
          dfr := fun L hm => by
            rw [show (calleeCx c s H env).Fs = env :: c.Fs from rfl, List.filterMap_cons, hfr] at hm
            rcases List.mem_cons.mp hm with rfl | hm
            · exact (mk3_2 _ _ _ eL dL)
            · exact RH.dfr L hm
          offF := fun L hm => by
            rw [show (calleeCx c s H env).Fs = env :: c.Fs from rfl, List.filterMap_cons, hfr] at hm
            rcases List.mem_cons.mp hm with rfl | hm
            · exact f.H
            · exact R.offF L hm
          locs := ⟨mc, hns, fun x d e _ => hm x d e⟩
          offL := f.H, newL := hn, baseL := f.B
          cells := fun x a e => by rw [show (calleeCx c s H env).env.cells = [] from hcell] at e; cases e }
theorem callee_back {c : Cx} {m m' : Loc} {H H' : AH} {s s' : Shared} {env : Env} (R : Rel c m H s) (R' : Rel (calleeCx c s H env) m' H' s') : Rel c m H' s' ∧ Moves H s.heap s'.heap ∧ Grow H H' s.heap := by
  have mv : Moves H s.heap s'.heap := R'.since
  have g : Grow H H' s.heap := R'.grow
  have up : ∀ L, L ∈ c.Fs.filterMap (·.frame) → L ∈ (calleeCx c s H env).Fs.filterMap (·.frame) := fun L hL => by
    show L ∈ (env :: c.Fs).filterMap (·.frame)
    rw [List.filterMap_cons]
    split
    · exact hL
    · exact .tail _ hL
  refine ⟨R.next ⟨R'.gens, R'.os, R.hb, R'.base, R.since.trans R.grow mv, R.grow.trans R.since g, R'.objs, R'.offB, R'.frames.2.2, fun L hL => R'.dfr L (up L hL), fun L hL => R'.offF L (up L hL)⟩ mv g, mv, g⟩
theorem callee_ok {lv : Nat} {c : Cx} {s : Shared} {H : AH} {env : Env} (hc : CxOk (lv + 1) c) (hk : env.scope.kind = .function) (hg : env.globals = mainGlobals) (hb : env.builtins = builtinsNs) (hgen : env.scope.isGenerator = false) (hco : env.scope.isCoroutine = false) : CxOk lv (calleeCx c s H env) where
  kind := hk
  globals := hg
  builtins := hb
  handled := hc.handled
  depth := by have := hc.depth; show c.A.depth + 1 + 5 * lv + 100 < _; (first | lia | omega)
  units := by have := hc.units; show c.A.units + 3 + 20 * lv + 500 < _; (first | lia | omega)
  frames := by show c.A.frames.map _ = _; rw [hc.frames]; rfl
  top := ⟨env, c.Fs, rfl, hgen, hco, hg, hb⟩

structure FnOk (w : World) (f : Addr) (name qual : Str) (st : Stmt) (dV md : Value) (cd : Addr) : Prop where
  at_ : (KT w.params).lookup f = some (fnO name qual st dV md (.ref cd))
  code : ∃ t, (cd, qual, t) ∈ kCodes
  kind : (fnScope st).kind = .function
  gen : (fnScope st).isGenerator = false
  co : (fnScope st).isCoroutine = false
theorem codeRec_of {w : World} {h : Heap} (X : HB w h) {cd : Addr} {qual : Str} (hc : ∃ t, (cd, qual, t) ∈ kCodes) : h.CodeRec (.ref cd) qual := by
  refine el1_1 hc fun t ht => ?_; try clear hc
  have e := X.codes _ ht
  unfold codeAt codeOf at e
  split at e
  · rename_i ho
    exact (mk4_4 cd _ _ t rfl ho rfl e)
  · cases e

theorem Fn.mk {lv : Nat} {w : World} {f : Addr} {name qual : Str} {st : Stmt} {dV md : Value} {cd : Addr} {as : List V} {ds : List (Str × V)} {H : AH} {Q : V → AH → Prop} (F : FnOk w f name qual st dV md cd)
    (hb : ∀ s vs, (KT w.params).In s.heap → VRs s.heap vs as → ∃ bs, BindsTo s (fnData name qual st dV md (.ref cd)) ⟨vs, []⟩ bs ∧ BndR s.heap bs ds)
    (hloc : ∀ y ∈ ds.map (·.1), (fnScope st).names.lookup y = some .local) (hcell : ∀ x ∈ (fnScope st).names, x.2 ≠ .cell) (hnd : (ds.map (·.1)).Nodup)
    (body : ∀ c, c.w = w → CxOk lv c → c.env.scope = fnScope st → c.env.cells = [] → Exs c (fun _ _ => False) (fnBody st) (locOf ds) H (RetQ Q)) : Fn (lv + 1) w (.ref f) as H Q := by
  intro c m hw hc vs s r R
  subst hw
  refine el1_2 (hb s vs R.K r) fun bs hB hR => ?_
  have hroom : c.A.depth < recursionLimit := by have := hc.depth; (first | lia | omega)
  refine codeAny_call_def (fd := fnData name qual st dV md (.ref cd)) (body := fnBody st) hroom (R.K _ _ F.at_) rfl R.nolimit ((codeRec_of R.hb F.code).keeps R.base) rfl hB hcell (fun x hx => ?_) (fun h' hns hkp => ?_) F.co F.gen F.kind
  · exact hloc _ (by rw [← hR.1]; exact List.mem_map_of_mem hx)
  · have R' := callee_rel (m' := locOf ds) (tk := s.toks + bs.length) R (env := callEnv (fnData name qual st dV md (.ref cd)) s.heap.objs.size f) rfl rfl F.kind hns hkp (fun x d e => by
      refine el1_2 (hR.lookup (locOf_lookup e)) fun v e' r' => ?_
      exact (mk1_2 v (by rw [lookup_reverse (by rw [hR.1]; exact hnd)]; exact e') (r'.mono (.of_keeps hkp)))) rfl
    have hc' := callee_ok (s := s) (H := H) (env := callEnv (fnData name qual st dV md (.ref cd)) s.heap.objs.size f) hc F.kind rfl rfl F.gen F.co
    refine wpAny_mono (body (calleeCx c s H (callEnv (fnData name qual st dV md (.ref cd)) s.heap.objs.size f)) rfl hc' rfl rfl _ R') (fun fo s' z2 => el3_4 z2 fun fl m' H' q rf R'' _ => ?_) fun _ _ x => x.elim
    refine el0_3 (callee_back R R'') fun R₂ mv g => ?_
    cases fo <;> cases fl <;> first | exact rf.elim | exact q.elim | skip
    · exact (mk2_5 .none H' q .none R₂ mv g)
    · exact (mk2_5 _ H' q rf R₂ mv g)
theorem binds_plain {s : Shared} {fd : FuncData} {ps : List Str} {vs : List Value} {as : List V} (h : ∀ vs : List Value, vs.length = ps.length → bindArgs fd ⟨vs, []⟩ = pure (ps.zip vs)) (r : VRs s.heap vs as) (hl : as.length = ps.length) :
    ∃ bs, BindsTo s fd ⟨vs, []⟩ bs ∧ BndR s.heap bs (ps.zip as) := by
  refine (mk1_2 _ (BindsTo.of_eq (h vs (by rw [r.length, hl]))) ?_)
  have hv : vs.length = ps.length := by rw [r.length, hl]
  unfold BndR
  rw [List.map_fst_zip (by (first | lia | omega)), List.map_fst_zip (by (first | lia | omega)), List.map_snd_zip (by (first | lia | omega)), List.map_snd_zip (by (first | lia | omega))]
  exact ⟨rfl, r⟩
theorem Fn.plain {lv : Nat} {w : World} {f : Addr} {name qual : Str} {st : Stmt} {dV md : Value} {cd : Addr} {as : List V} {H : AH} {Q : V → AH → Prop} (ps : List Str) (F : FnOk w f name qual st dV md cd)
    (hb : ∀ vs : List Value, vs.length = ps.length → bindArgs (fnData name qual st dV md (.ref cd)) ⟨vs, []⟩ = pure (ps.zip vs)) (hl : as.length = ps.length)
    (hloc : ∀ y ∈ ps, (fnScope st).names.lookup y = some .local) (hcell : ∀ x ∈ (fnScope st).names, x.2 ≠ .cell) (hnd : ps.Nodup)
    (body : ∀ c, c.w = w → CxOk lv c → c.env.scope = fnScope st → c.env.cells = [] → Exs c (fun _ _ => False) (fnBody st) (locOf (ps.zip as)) H (RetQ Q)) : Fn (lv + 1) w (.ref f) as H Q :=
  have e : (ps.zip as).map (·.1) = ps := List.map_fst_zip (by (first | lia | omega))
  Fn.mk F (fun _ _ _ r => binds_plain hb r hl) (by rw [e]; exact hloc) hcell (by rw [e]; exact hnd) body
section
variable {lv : Nat} {w : World} {f : Addr} {name qual : Str} {st : Stmt} {dV md : Value} {cd : Addr} {H : AH} {Q : V → AH → Prop}
theorem bind1 {fd : FuncData} {p : Str} (hb : ∀ a, bindArgs fd ⟨[a], []⟩ = pure [(p, a)]) (vs : List Value) (h : vs.length = 1) : bindArgs fd ⟨vs, []⟩ = pure ([p].zip vs) := by
  apply lenC h; intro a _ h
  exact len0 (P := fun l => bindArgs fd ⟨a :: l, []⟩ = pure (List.zip _ (a :: l))) h (hb a)
theorem bind2 {fd : FuncData} {p q : Str} (hb : ∀ a b, bindArgs fd ⟨[a, b], []⟩ = pure [(p, a), (q, b)]) (vs : List Value) (h : vs.length = 2) : bindArgs fd ⟨vs, []⟩ = pure ([p, q].zip vs) := by
  apply lenC h; intro a _ h
  refine lenC (P := fun l => bindArgs fd ⟨a :: l, []⟩ = pure (List.zip _ (a :: l))) h fun b _ h => ?_
  exact len0 (P := fun l => bindArgs fd ⟨a :: b :: l, []⟩ = pure (List.zip _ (a :: b :: l))) h (hb a b)
theorem bind3 {fd : FuncData} {p q r : Str} (hb : ∀ a b c, bindArgs fd ⟨[a, b, c], []⟩ = pure [(p, a), (q, b), (r, c)]) (vs : List Value) (h : vs.length = 3) : bindArgs fd ⟨vs, []⟩ = pure ([p, q, r].zip vs) := by
  apply lenC h; intro a _ h
  refine lenC (P := fun l => bindArgs fd ⟨a :: l, []⟩ = pure (List.zip _ (a :: l))) h fun b _ h => ?_
  refine lenC (P := fun l => bindArgs fd ⟨a :: b :: l, []⟩ = pure (List.zip _ (a :: b :: l))) h fun c _ h => ?_
  exact len0 (P := fun l => bindArgs fd ⟨a :: b :: c :: l, []⟩ = pure (List.zip _ (a :: b :: c :: l))) h (hb a b c)
theorem bind4 {fd : FuncData} {p q r t : Str} (hb : ∀ a b c d, bindArgs fd ⟨[a, b, c, d], []⟩ = pure [(p, a), (q, b), (r, c), (t, d)]) (vs : List Value) (h : vs.length = 4) : bindArgs fd ⟨vs, []⟩ = pure ([p, q, r, t].zip vs) := by
  apply lenC h; intro a _ h
  refine lenC (P := fun l => bindArgs fd ⟨a :: l, []⟩ = pure (List.zip _ (a :: l))) h fun b _ h => ?_
  refine lenC (P := fun l => bindArgs fd ⟨a :: b :: l, []⟩ = pure (List.zip _ (a :: b :: l))) h fun c _ h => ?_
  refine lenC (P := fun l => bindArgs fd ⟨a :: b :: c :: l, []⟩ = pure (List.zip _ (a :: b :: c :: l))) h fun d _ h => ?_
  exact len0 (P := fun l => bindArgs fd ⟨a :: b :: c :: d :: l, []⟩ = pure (List.zip _ (a :: b :: c :: d :: l))) h (hb a b c d)
theorem Fn.p0 (F : FnOk w f name qual st dV md cd) (hb : bindArgs (fnData name qual st dV md (.ref cd)) ⟨[], []⟩ = pure []) (hcell : ∀ x ∈ (fnScope st).names, x.2 ≠ .cell)
    (body : ∀ c, c.w = w → CxOk lv c → c.env.scope = fnScope st → c.env.cells = [] → Exs c (fun _ _ => False) (fnBody st) Loc.nil H (RetQ Q)) : Fn (lv + 1) w (.ref f) [] H Q :=
  Fn.plain [] F (fun vs h => len0 (P := fun l => bindArgs (fnData name qual st dV md (.ref cd)) ⟨l, []⟩ = pure (List.zip [] l)) h hb) rfl (fun _ h => notIn h) hcell .nil body
theorem Fn.p1 {a : V} (p : Str) (F : FnOk w f name qual st dV md cd) (hb : ∀ a, bindArgs (fnData name qual st dV md (.ref cd)) ⟨[a], []⟩ = pure [(p, a)])
    (hloc : ∀ y ∈ [p], (fnScope st).names.lookup y = some .local) (hcell : ∀ x ∈ (fnScope st).names, x.2 ≠ .cell)
    (body : ∀ c, c.w = w → CxOk lv c → c.env.scope = fnScope st → c.env.cells = [] → Exs c (fun _ _ => False) (fnBody st) (Loc.nil.set p a) H (RetQ Q)) : Fn (lv + 1) w (.ref f) [a] H Q :=
  Fn.plain [p] F (bind1 hb) rfl hloc hcell (by simp) body
theorem Fn.p2 {a b : V} (p q : Str) (F : FnOk w f name qual st dV md cd) (hb : ∀ a b, bindArgs (fnData name qual st dV md (.ref cd)) ⟨[a, b], []⟩ = pure [(p, a), (q, b)])
    (hloc : ∀ y ∈ [p, q], (fnScope st).names.lookup y = some .local) (hcell : ∀ x ∈ (fnScope st).names, x.2 ≠ .cell) (hnd : [p, q].Nodup)
    (body : ∀ c, c.w = w → CxOk lv c → c.env.scope = fnScope st → c.env.cells = [] → Exs c (fun _ _ => False) (fnBody st) ((Loc.nil.set q b).set p a) H (RetQ Q)) : Fn (lv + 1) w (.ref f) [a, b] H Q :=
  Fn.plain [p, q] F (bind2 hb) rfl hloc hcell hnd body
theorem Fn.p3 {a b d : V} (p q r : Str) (F : FnOk w f name qual st dV md cd) (hb : ∀ a b c, bindArgs (fnData name qual st dV md (.ref cd)) ⟨[a, b, c], []⟩ = pure [(p, a), (q, b), (r, c)])
    (hloc : ∀ y ∈ [p, q, r], (fnScope st).names.lookup y = some .local) (hcell : ∀ x ∈ (fnScope st).names, x.2 ≠ .cell) (hnd : [p, q, r].Nodup)
    (body : ∀ c, c.w = w → CxOk lv c → c.env.scope = fnScope st → c.env.cells = [] → Exs c (fun _ _ => False) (fnBody st) (((Loc.nil.set r d).set q b).set p a) H (RetQ Q)) : Fn (lv + 1) w (.ref f) [a, b, d] H Q :=
  Fn.plain [p, q, r] F (bind3 hb) rfl hloc hcell hnd body
theorem Fn.p4 {a b d e : V} (p q r t : Str) (F : FnOk w f name qual st dV md cd) (hb : ∀ a b c d, bindArgs (fnData name qual st dV md (.ref cd)) ⟨[a, b, c, d], []⟩ = pure [(p, a), (q, b), (r, c), (t, d)])
    (hloc : ∀ y ∈ [p, q, r, t], (fnScope st).names.lookup y = some .local) (hcell : ∀ x ∈ (fnScope st).names, x.2 ≠ .cell) (hnd : [p, q, r, t].Nodup)
    (body : ∀ c, c.w = w → CxOk lv c → c.env.scope = fnScope st → c.env.cells = [] → Exs c (fun _ _ => False) (fnBody st) ((((Loc.nil.set t e).set r d).set q b).set p a) H (RetQ Q)) : Fn (lv + 1) w (.ref f) [a, b, d, e] H Q :=
  Fn.plain [p, q, r, t] F (bind4 hb) rfl hloc hcell hnd body
end
theorem Loc.self (m : Loc) (x : Str) (d : V) : m.set x d x = some d := if_pos rfl
theorem Loc.other {m : Loc} {x y : Str} {d d' : V} (h : y ≠ x) (e : m y = some d') : m.set x d y = some d' := (if_neg h).trans e
theorem AH.other {H : AH} {a b : Addr} {o o' : O} (h : b ≠ a) (e : H b = some o') : H.set a o b = some o' := (AH.set_other H o h).trans e
theorem AttrOk.of {w : World} {C : Addr} {name : Str} (h1 : findIn (KT w.params) (.ref C) "__getattribute__" = some (some (.builtin "object.__getattribute__"))) (h2 : hasDictIn (KT w.params) C = true) (h3 : findIn (KT w.params) (.ref C) name = some (Option.none)) : AttrOk w C name := ⟨h1, h2, Option.none, h3, rfl⟩
theorem ne_of_O {H : AH} {a b : Addr} {o o' : O} (h1 : H a = some o) (h2 : H b = some o') (h : o ≠ o') : a ≠ b := fun e => by subst e; rw [h1] at h2; exact h (Option.some.inj h2)
theorem gvB {w : World} {x : Str} {f : Value} (h1 : nsIn (KT w.params) mainGlobals x = some none) (h2 : bootBuiltins x = some f) (h3 : x ≠ "__name__") : GV w x f := .inr ⟨h1, h2, h3⟩
theorem gvG {w : World} {x : Str} {f : Value} (h1 : nsIn (KT w.params) mainGlobals x = some (some f)) : GV w x f := .inl h1
theorem gv_len (w : World) : GV w "len" (.builtin "len") := gvB (by kernel_rfl) (by decide +kernel) (by decide +kernel)
theorem gv_chr (w : World) : GV w "chr" (.builtin "chr") := gvB (by kernel_rfl) (by decide +kernel) (by decide +kernel)
theorem gv_ord (w : World) : GV w "ord" (.builtin "ord") := gvB (by kernel_rfl) (by decide +kernel) (by decide +kernel)
theorem gv_isinstance (w : World) : GV w "isinstance" (.builtin "isinstance") := gvB (by kernel_rfl) (by decide +kernel) (by decide +kernel)
theorem gv_range (w : World) : GV w "range" (.type "range") := gvB (by kernel_rfl) (by decide +kernel) (by decide +kernel)
theorem gv_list (w : World) : GV w "list" (.type "list") := gvB (by kernel_rfl) (by decide +kernel) (by decide +kernel)
theorem gv_tuple (w : World) : GV w "tuple" (.type "tuple") := gvB (by kernel_rfl) (by decide +kernel) (by decide +kernel)
theorem gv_set (w : World) : GV w "set" (.type "set") := gvB (by kernel_rfl) (by decide +kernel) (by decide +kernel)
theorem gv_str (w : World) : GV w "str" (.type "str") := gvB (by kernel_rfl) (by decide +kernel) (by decide +kernel)

section
variable {lv : Nat} {c : Cx} {E : ER} {m : Loc} {H : AH} {Q : V → AH → Prop} {np pos apos : Pos} {e o : Expr}
theorem Ev.gint {x : Str} {i : Int} {t : Tok} (hc : CxOk lv c) (hx : c.env.kindOf x = some .globalImplicit) (g : GV c.w x (.int i t)) (q : Q (.int i) H) (hd : (x == ("__debug__" : Str)) = false := by decide) : Ev c E (.Name x pos) m H Q := Ev.glob hc hx g (fun _ _ => .int ..) q hd
theorem Ev.gstr {x y : Str} {t : Tok} (hc : CxOk lv c) (hx : c.env.kindOf x = some .globalImplicit) (g : GV c.w x (.str y t)) (q : Q (.str y) H) (hd : (x == ("__debug__" : Str)) = false := by decide) : Ev c E (.Name x pos) m H Q := Ev.glob hc hx g (fun _ _ => .str ..) q hd
theorem Ev.gty {x : Str} {n : String} (hc : CxOk lv c) (hx : c.env.kindOf x = some .globalImplicit) (g : GV c.w x (.type n)) (q : Q (.ty n) H) (hd : (x == ("__debug__" : Str)) = false := by decide) : Ev c E (.Name x pos) m H Q := Ev.glob hc hx g (fun _ _ => .ty ..) q hd

theorem Ev.lenL (hc : CxOk lv c) (hx : c.env.kindOf "len" = some .globalImplicit) (h : Ev c E e m H fun a H₁ => ∃ p xs, a = .ref p ∧ H₁ p = some (.list xs) ∧ xs.length ≤ 100000 ∧ Q (.int xs.length) H₁)
    (he : eval (.Call (.Name "len" np) [e] [] pos) c.env = (do callWith pos (← eval (.Name "len" np) c.env) [] (backTo pos (starEach [e] c.env)) (backToKw pos (keywordEach [] c.env))) := by rfl)
    (hst : starEach [e] c.env = (false, eval e c.env) :: starEach [] c.env := by rfl) : Ev c E (.Call (.Name "len" np) [e] [] pos) m H Q := by
  refine Ev.call hc hx (gv_len _) (keep_builtin _) (Evs.cons (h.mono ?_) hst) (by decide) he hst rfl
  rintro _ H' ⟨p, xs, rfl, hp, hl, q⟩
  exact Evs.nil (OpN.len_list hp hl q)
theorem Ev.lenS (hc : CxOk lv c) (hx : c.env.kindOf "len" = some .globalImplicit) (h : Ev c E e m H fun a H₁ => ∃ x : Str, a = .str x ∧ x.length ≤ 10000 ∧ Q (.int x.length) H₁)
    (he : eval (.Call (.Name "len" np) [e] [] pos) c.env = (do callWith pos (← eval (.Name "len" np) c.env) [] (backTo pos (starEach [e] c.env)) (backToKw pos (keywordEach [] c.env))) := by rfl)
    (hst : starEach [e] c.env = (false, eval e c.env) :: starEach [] c.env := by rfl) : Ev c E (.Call (.Name "len" np) [e] [] pos) m H Q := by
  refine Ev.call hc hx (gv_len _) (keep_builtin _) (Evs.cons (h.mono ?_) hst) (by decide) he hst rfl
  rintro _ H' ⟨x, rfl, hl, q⟩
  exact Evs.nil (OpN.len_str hl q)
theorem Ev.chr (hc : CxOk lv c) (hx : c.env.kindOf "chr" = some .globalImplicit) (h : Ev c E e m H fun a H₁ => ∃ i : Int, a = .int i ∧ 0 ≤ i ∧ i ≤ 1114111 ∧ Q (.str ⟨#[i.toNat]⟩) H₁)
    (he : eval (.Call (.Name "chr" np) [e] [] pos) c.env = (do callWith pos (← eval (.Name "chr" np) c.env) [] (backTo pos (starEach [e] c.env)) (backToKw pos (keywordEach [] c.env))) := by rfl)
    (hst : starEach [e] c.env = (false, eval e c.env) :: starEach [] c.env := by rfl) : Ev c E (.Call (.Name "chr" np) [e] [] pos) m H Q := by
  refine Ev.call hc hx (gv_chr _) (keep_builtin _) (Evs.cons (h.mono ?_) hst) (by decide) he hst rfl
  rintro _ H' ⟨x, rfl, h0, h1, q⟩
  exact Evs.nil (OpN.chr h0 h1 q)
theorem Ev.ord (hc : CxOk lv c) (hx : c.env.kindOf "ord" = some .globalImplicit) (h : Ev c E e m H fun a H₁ => ∃ x : Str, a = .str x ∧ x.length = 1 ∧ Q (.int (x.cps.getD 0 0 : Nat)) H₁)
    (he : eval (.Call (.Name "ord" np) [e] [] pos) c.env = (do callWith pos (← eval (.Name "ord" np) c.env) [] (backTo pos (starEach [e] c.env)) (backToKw pos (keywordEach [] c.env))) := by rfl)
    (hst : starEach [e] c.env = (false, eval e c.env) :: starEach [] c.env := by rfl) : Ev c E (.Call (.Name "ord" np) [e] [] pos) m H Q := by
  refine Ev.call hc hx (gv_ord _) (keep_builtin _) (Evs.cons (h.mono ?_) hst) (by decide) he hst rfl
  rintro _ H' ⟨x, rfl, h1, q⟩
  exact Evs.nil (OpN.ord h1 q)

section
variable {pl : Sem Bool}
theorem Ev.append (h : Ev c E o m H fun a H₁ => ∃ p ys, a = .ref p ∧ H₁ p = some (.list ys) ∧ Ev c E e m H₁ fun d H₂ => ∃ xs, H₂ p = some (.list xs) ∧ xs.length ≤ 100000 ∧ Q .none (H₂.set p (.list (xs ++ [d]))))
    (he : eval (.Call (.Attribute o "append" apos) [e] [] pos) c.env = (do
      let ov ← eval o c.env
      standAt apos.atName
      let (f, first) ← holding [ov] (getMethod ov "append" pl)
      callWith pos f first (backTo pos (starEach [e] c.env)) []) := by rfl)
    (hst : starEach [e] c.env = (false, eval e c.env) :: starEach [] c.env := by rfl) : Ev c E (.Call (.Attribute o "append" apos) [e] [] pos) m H Q := by
  refine Ev.meth (h.mono ?_) he hst rfl
  rintro _ H₁ ⟨p, ys, rfl, hp, h₁⟩
  refine (mk1_3 _ (keep_builtin _) (mget_list F.slot_list_append F.type_list_append hp) (Evs.cons (h₁.mono ?_) hst))
  rintro d H₂ ⟨xs, hp', hl, q⟩
  exact Evs.nil (OpN.append hp' hl q)
theorem Ev.pop (h : Ev c E o m H fun a H₁ => ∃ p xs d, a = .ref p ∧ H₁ p = some (.list (xs ++ [d])) ∧ xs.length ≤ 100000 ∧ Q d (H₁.set p (.list xs)))
    (he : eval (.Call (.Attribute o "pop" apos) [] [] pos) c.env = (do
      let ov ← eval o c.env
      standAt apos.atName
      let (f, first) ← holding [ov] (getMethod ov "pop" pl)
      callWith pos f first (backTo pos (starEach [] c.env)) []) := by rfl) : Ev c E (.Call (.Attribute o "pop" apos) [] [] pos) m H Q := by
  refine Ev.meth0 (h.mono ?_) he
  rintro _ H₁ ⟨p, xs, d, rfl, hp, hl, q⟩
  exact (mk1_3 _ (keep_builtin _) (mget_list F.slot_list_pop F.type_list_pop hp) (OpN.pop hp hl q))
theorem Ev.join (h : Ev c E o m H fun a H₁ => ∃ x : Str, a = .str x ∧ Ev c E e m H₁ fun d H₂ => ∃ p ys, d = .ref p ∧ H₂ p = some (.list (ys.map .str)) ∧ (ys.map (·.length)).sum + ys.length * x.length ≤ 16777216 ∧ Q (.str (Txt.join x ys)) H₂)
    (he : eval (.Call (.Attribute o "join" apos) [e] [] pos) c.env = (do
      let ov ← eval o c.env
      standAt apos.atName
      let (f, first) ← holding [ov] (getMethod ov "join" pl)
      callWith pos f first (backTo pos (starEach [e] c.env)) []) := by rfl)
    (hst : starEach [e] c.env = (false, eval e c.env) :: starEach [] c.env := by rfl) : Ev c E (.Call (.Attribute o "join" apos) [e] [] pos) m H Q := by
  refine Ev.meth (h.mono ?_) he hst rfl
  rintro _ H₁ ⟨x, rfl, h₁⟩
  refine (mk1_3 _ (keep_builtin _) mget_join (Evs.cons (h₁.mono ?_) hst))
  rintro _ H₂ ⟨p, ys, rfl, hp, hl, q⟩
  exact Evs.nil (OpN.join hp hl q)
theorem Ev.sadd (h : Ev c E o m H fun a H₁ => ∃ p f n, a = .ref p ∧ H₁ p = some (.iset f n) ∧ Ev c E e m H₁ fun d H₂ => ∃ f n k, d = .int k ∧ H₂ p = some (.iset f n) ∧ n ≤ 1000 ∧ Q .none (H₂.set p (.iset (fun k' => f k' || decide (k' = k)) (if f k then n else n + 1))))
    (he : eval (.Call (.Attribute o "add" apos) [e] [] pos) c.env = (do
      let ov ← eval o c.env
      standAt apos.atName
      let (f, first) ← holding [ov] (getMethod ov "add" pl)
      callWith pos f first (backTo pos (starEach [e] c.env)) []) := by rfl)
    (hst : starEach [e] c.env = (false, eval e c.env) :: starEach [] c.env := by rfl) : Ev c E (.Call (.Attribute o "add" apos) [e] [] pos) m H Q := by
  refine Ev.meth (h.mono ?_) he hst rfl
  rintro _ H₁ ⟨p, f, n, rfl, hp, h₁⟩
  refine (mk1_3 _ (keep_builtin _) (mget_add hp) (Evs.cons (h₁.mono ?_) hst))
  rintro _ H₂ ⟨f', n', k, rfl, hp', hn, q⟩
  exact Evs.nil (OpN.set_add hp' hn q)
theorem Ev.im {name : Str} {rest : List Expr} (h : Ev c E o m H fun a H₁ => ∃ p C d fs f, a = .ref p ∧ H₁ p = some (.inst C d fs) ∧ MethOk c.w C name f ∧ fs.lookup name = Option.none ∧ Evs c E (e :: rest) m H₁ fun as H₂ => OpN c E (fun vs => PySem.call (.ref f) vs) (a :: as) m H₂ Q)
    (he : eval (.Call (.Attribute o name apos) (e :: rest) [] pos) c.env = (do
      let ov ← eval o c.env
      standAt apos.atName
      let (f, first) ← holding [ov] (getMethod ov name pl)
      callWith pos f first (backTo pos (starEach (e :: rest) c.env)) []) := by rfl)
    (hst : starEach (e :: rest) c.env = (false, eval e c.env) :: starEach rest c.env := by rfl) (hplain : (backTo pos (starEach rest c.env)).any (·.1) = false := by rfl) : Ev c E (.Call (.Attribute o name apos) (e :: rest) [] pos) m H Q := by
  refine Ev.meth (h.mono ?_) he hst hplain
  rintro _ H₁ ⟨p, C, d, fs, f, rfl, hp, ok, hn, h₁⟩
  exact (mk1_3 _ (keep_ref ok.keep) (mget_inst ok hp hn) h₁)
theorem Ev.im0 {name : Str} (h : Ev c E o m H fun a H₁ => ∃ p C d fs f, a = .ref p ∧ H₁ p = some (.inst C d fs) ∧ MethOk c.w C name f ∧ fs.lookup name = Option.none ∧ OpN c E (fun vs => PySem.call (.ref f) vs) [a] m H₁ Q)
    (he : eval (.Call (.Attribute o name apos) [] [] pos) c.env = (do
      let ov ← eval o c.env
      standAt apos.atName
      let (f, first) ← holding [ov] (getMethod ov name pl)
      callWith pos f first (backTo pos (starEach [] c.env)) []) := by rfl) : Ev c E (.Call (.Attribute o name apos) [] [] pos) m H Q := by
  refine Ev.meth0 (h.mono ?_) he
  rintro _ H₁ ⟨p, C, d, fs, f, rfl, hp, ok, hn, h₁⟩
  exact (mk1_3 _ (keep_ref ok.keep) (mget_inst ok hp hn) h₁)
end
end
theorem mk_meth {w : World} {C f : Addr} {name : Str} (h1 : findIn (KT w.params) (.ref C) "__getattribute__" = some (some (.builtin "object.__getattribute__"))) (h2 : findIn (KT w.params) (.ref C) "__getattr__" = some none)
    (h3 : findIn (KT w.params) (.ref C) name = some (some (.ref f))) (h4 : typeIn (KT w.params) (.ref f) = some (.type "function")) (h5 : keepIn (KT w.params) (.ref f) = true) : MethOk w C name f := ⟨h1, h2, h3, h4, h5⟩
-- o.name = v
theorem isStr_self (x : Str) (t : Tok) : (Value.str x t).isStr x = true := by simp [Value.isStr]
theorem isStr_other {x y : Str} (t : Tok) (h : y ≠ x) : (Value.str x t).isStr y = false := by simp [Value.isStr, Ne.symm h]
theorem isStr_eq {v : Value} {x y : Str} (h : v.isStr x = true) (hxy : y ≠ x) : v.isStr y = false := by
  cases v <;> simp_all [Value.isStr]
  rintro rfl; exact hxy rfl
theorem find_putL {x y : Str} (hsh : Int) (t : Tok) (v : Value) (h : y ≠ x) : ∀ es : List DictEntry, ((putL x hsh (.str x t) v es).find? (·.key.isStr y)).map (·.val) = (es.find? (·.key.isStr y)).map (·.val)
  | [] => by simp [putL, List.find?, isStr_other t h]
  | e :: r => by
    unfold putL
    split
    · rename_i q
      simp [List.find?_cons, isStr_eq q h]
    · rw [List.find?_cons, List.find?_cons]
      split
      · rfl
      · exact find_putL hsh t v h r
theorem find_putL_self (x : Str) (hsh : Int) (t : Tok) (v : Value) : ∀ es : List DictEntry, ((putL x hsh (.str x t) v es).find? (·.key.isStr x)).map (·.val) = some v
  | [] => by simp [putL, List.find?, isStr_self]
  | e :: r => by
    unfold putL
    split
    · rename_i q
      simp [List.find?_cons, q]
    · rename_i q
      rw [List.find?_cons, (Bool.not_eq_true _).mp q]
      exact find_putL_self x hsh t v r
theorem any_putL (x : Str) (hsh : Int) (t : Tok) (v : Value) : ∀ es : List DictEntry, (putL x hsh (.str x t) v es).any (·.refKey) = es.any (·.refKey)
  | [] => by simp [putL, DictEntry.refKey]
  | e :: r => by
    unfold putL
    split
    · simp [DictEntry.refKey]
    · rw [List.any_cons, List.any_cons, any_putL x hsh t v r]
theorem getL_map (x : Str) (es : List DictEntry) : getL x es = match (es.find? (·.key.isStr x)).map (·.val) with
  | some v => some (some v)
  | none => if es.any (·.refKey) then none else some none := by
  unfold getL
  cases es.find? (·.key.isStr x) <;> rfl
theorem getL_put (x y : Str) (hsh : Int) (t : Tok) (v : Value) (es : List DictEntry) : getL y (putL x hsh (.str x t) v es) = if y = x then some (some v) else getL y es := by
  rw [getL_map, getL_map]
  by_cases h : y = x
  · subst h; rw [find_putL_self, if_pos rfl]
  · rw [find_putL hsh t v h, any_putL, if_neg h]
theorem putL_length (x : Str) (hsh : Int) (k v : Value) : ∀ es : List DictEntry, (putL x hsh k v es).length ≤ es.length + 1
  | [] => by simp [putL]
  | e :: r => by
    unfold putL
    split
    · simp
    · have := putL_length x hsh k v r; simp; exact this

theorem FldR.put {h h' : Heap} {es : List DictEntry} {fs : List (Str × V)} (f : FldR h es fs) (T : Tups h h') {x : Str} {hsh : Int} {t : Tok} {v : Value} {d : V} (r : VR h' v d) : FldR h' (putL x hsh (.str x t) v es) ((x, d) :: fs) := by
  refine ⟨fun y dy e => ?_, fun y e => ?_, ?_⟩
  · rw [getL_put]
    rw [List.lookup_cons] at e
    by_cases q : y = x
    · subst q; simp at e; subst e; exact (mk1_2 v (if_pos rfl) r)
    · have : (y == x) = false := by simpa using q
      rw [this] at e
      refine el1_2 (f.1 y dy e) fun u e' r' => ?_
      exact (mk1_2 u (by rw [if_neg q]; exact e') (r'.mono T))
  · rw [getL_put]
    rw [List.lookup_cons] at e
    by_cases q : y = x
    · subst q; simp at e
    · have : (y == x) = false := by simpa using q
      rw [this] at e
      rw [if_neg q]; exact f.2.1 y e
  · have h1 := putL_length x hsh (.str x t) v es
    have h2 := f.2.2
    rw [List.length_cons]; (first | lia | omega)
structure SetOk (w : World) (C : Addr) (name : Str) : Prop where
  sa : findIn (KT w.params) (.ref C) "__setattr__" = some (some (.builtin "object.__setattr__"))
  plain : plainOver (KT w.params) C = true
  taker : takerIn (KT w.params) C name = some none
  dict : (clsIn (KT w.params) C).any (·.hasDict) = true

section
variable {prog : Program} {w : World} {A : Around} {s : Shared} {K : Frag} {x C dx : Addr} {R : Result → Shared → Prop}
theorem osa_raw {ox : Obj} {name : Str} {tk : Tok} {v : Value} {es : List DictEntry} {n : Nat} (X : K.In s.heap) (I : InstAt s.heap x ox C (some (dictOf es n))) (hd : ox.dict = some dx) (D : s.heap.get? dx = some (dictOf es n)) (hp : plainOver K C = true) (ht : takerIn K C name = some none) (hh : (clsIn K C).any (·.hasDict) = true)
    (hl : (getL name es).isSome = true) (hz : es.length ≤ 1000)
    (h : ∀ h', Heap.SameBut dx s.heap h' → h'.get? dx = some (dictOf (putL name (PyData.keyHash w.params name) (.str name s.toks) v es) (putN name es n)) → R (.ok (.ret .none)) { s with heap := h', toks := s.toks + 1 }) :
    codeAny (model prog w) A (.call (.builtin "object.__setattr__") ⟨[.ref x, .str name tk, v], []⟩) R s := by
  refine osa_open X I hp ht fun b => ?_
  refine el1_2 (any_some hh) fun cd hc hd' => ?_
  have D' : (s.heap.update dx (Obj.putName name (PyData.keyHash w.params name) (.str name s.toks) v)).get? dx = some (dictOf (putL name (PyData.keyHash w.params name) (.str name s.toks) v es) (putN name es n)) := by
    rw [← putName_dict]
    exact Heap.get?_update_self _ D (by rw [putName_dict]; rfl)
  obtain ⟨hx, hcl, hn, -⟩ := I
  obtain ⟨oc, odi, oda, osl⟩ := ox
  dsimp only at hcl hd
  subst hcl hd
  refine wpAny_bind (wpAny_pure (wpAny_bind (wpAny_bind (wpAny_loadPart hx (wpAny_bind ((looks_clsIn X hc).here ?_))))))
  rw [hd']
  refine wpAny_pure (a := some dx) (wpAny_bind (wpAny_pure (wpAny_bind ?_)))
  unfold nsSet
  refine wpAny_bind (wpAny_bind (wpAny_askSetting (wpAny_pure (wpAny_bind (wpAny_mkText (wpAny_bind (wpAny_loadPart D ?_)))))))
  have c : (!es.toArray.any (·.key.isStr name) && es.toArray.any (·.refKey)) = false := by
    rw [← Array.any_toList, ← Array.any_toList]
    unfold getL at hl
    split at hl
    · rename_i en he
      rw [List.any_eq_true.mpr ⟨en, List.mem_of_find?_eq_some he, List.find?_some he⟩]; rfl
    · split at hl
      · cases hl
      · rename_i z; rw [Bool.not_eq_true] at z; rw [show (es.toArray.toList.any fun x => x.refKey) = false from z, Bool.and_false]
  dsimp only
  rw [aRefKeyMayBeTheName_at, c]
  refine wpAny_updatePart D ?_
  have hl := putL_length name (PyData.keyHash w.params name) (.str name s.toks) v es
  refine wpAny_bind (wpAny_lookBehind D' (by show (Data.dict _ _).pastItsLine = none; exact pastItsLine_dict (by rw [List.size_toArray, sizeLine_eq]; (first | lia | omega))) ?_)
  exact wpAny_pure (h _ (Heap.SameBut.update ..) D')
end

section
variable {lv : Nat} {c : Cx} {E : ER} {m : Loc} {H : AH} {s : Shared} {Q : Fl → Loc → AH → Prop} {rest : List Stmt}
theorem RelH.updI (R : RelH c H s) {h' : Heap} {tk : Nat} {p C d : Addr} {fs fs' : List (Str × V)} (hp : H p = some (.inst C d fs)) (hs : Heap.SameBut d s.heap h')
    (ho : Tups s.heap h' → ∃ es n, h'.get? d = some (dictOf es n) ∧ FldR h' es fs') : RelH c (H.set p (.inst C d fs')) { s with heap := h', toks := tk } ∧ Moves H s.heap h' ∧ Grow H (H.set p (.inst C d fs')) s.heap := by
  refine el3_7 (R.objs p _ hp) fun ox es n e1 e2 e3 e4 e5 e6 e7 => ?_
  have m : Moves H s.heap h' := fun b ob e n => (mk1_2 ob ((hs.2 b (by rintro rfl; rw [e6] at n; cases n)).trans e) (.refl _))
  have g : Grow H (H.set p (.inst C d fs')) s.heap := ⟨fun b ob e n => by
    rw [AH.set_other H _ (by rintro rfl; rw [hp] at n; cases n)]; exact n, fun b ob e => by
    by_cases q : b = p
    · subst q; exact ⟨_, AH.set_self ..⟩
    · exact ⟨ob, by rw [AH.set_other H _ q]; exact e⟩⟩
  have T := R.tups m
  have pd : p ≠ d := by rintro rfl; rw [hp] at e6; cases e6
  refine el2_2 (ho T) fun es' n' f1 f2 => ?_
  refine ⟨R.next m g (fun b ob e => (hs.2 b (by rintro rfl; have := R.offB _ _ e6; rw [this] at e; cases e)).trans (R.base b ob e)) (fun b ob e => ?_) (fun b ob e => ?_), m, g⟩
  · by_cases q : b = p
    · subst q
      rw [AH.set_self] at e; cases e
      exact (mk3_7 ox es' n' ((hs.2 b pd).trans e1) e2 e3 e4 f1 ((AH.set_other H _ pd.symm).trans e6) f2)
    · rw [AH.set_other H _ q] at e
      by_cases qd : b = d
      · subst qd
        rw [e6] at e; cases e
        exact (mk2_1 es' n' f1)
      · have r := R.objs b ob e
        refine r.mono (hs.2 b qd) T fun d₂ q' => ?_
        refine el0_2 (r.dct q') fun _ k6 => ?_
        have hd2 : d₂ ≠ d := by rintro rfl; rw [k6] at e6; cases e6; exact q rfl
        have hd3 : d₂ ≠ p := by rintro rfl; rw [k6] at hp; cases hp
        exact ⟨hs.2 d₂ hd2, AH.set_other H _ hd3⟩
  · by_cases q : b = p
    · subst q; exact R.offB _ _ hp
    · rw [AH.set_other H _ q] at e; exact R.offB b ob e
theorem Exs.setAttr {o e : Expr} {name : Str} {p pos : Pos} (h : Ev c E e m H fun v H₁ => Ev c E o m H₁ fun a H₂ => ∃ p C d fs, a = .ref p ∧ H₂ p = some (.inst C d fs) ∧ SetOk c.w C name ∧ fs.length ≤ 900 ∧ Exs c E rest m (H₂.set p (.inst C d ((name, v) :: fs))) Q)
    (hs : swapsWith e (some (.Attribute o name p)) pos.line c.env = pure false := by rfl) : Exs c E (.Assign [.Attribute o name p] e pos :: rest) m H Q := Exs.cons fun s R => by
  refine plainObj_wpAny_Assign_Attribute (wpAny_mono (h s R) (fun vv s₁ z1 => el2_5 z1 fun v H₁ h₁ r₁ R₁ m₁ g₁ => ?_) fun _ _ x => x) hs
  refine wpAny_mono (h₁ s₁ R₁) (fun vo s₂ z2 => el2_5 z2 fun a H₂ z3 r₂ R₂ m₂ g₂ => el4_5 z3 fun p C d fs ea hp ok hl q => ?_) fun _ _ x => x
  apply r₂.refQ ea
  refine el3_4 (R₂.inst hp) fun ox es n I D hd f => ?_
  have hg : (getL name es).isSome = true := by
    cases q : fs.lookup name with
    | none => rw [f.2.1 _ q]; rfl
    | some d => refine el1_2 (f.1 _ _ q) fun u e _ => ?_; rw [e]; rfl
  refine set_plain R₂.K I ok.sa (osa_raw (s := { s₂ with toks := s₂.toks + 1 }) R₂.K I hd D ok.plain ok.taker ok.dict hg (by have := f.2.2; (first | lia | omega)) fun h' sb hd' => ?_)
  have rv := r₁.mono (R₁.tups m₂)
  refine el0_3 (R₂.toRelH.updI (tk := s₂.toks + 1 + 1) hp sb fun T => (mk2_2 _ _ hd' (f.put T (rv.mono T)))) fun R₃ m₃ g₃ => ?_
  exact (mk3_4 .next m _ q trivial (R₂.next R₃ m₃ g₃) (((Step.of R m₁ g₁).trans (Step.of R₁ m₂ g₂)).trans (Step.of R₂ m₃ g₃)))
end
section
variable {lv : Nat} {c : Cx} {E : ER} {m : Loc} {H : AH} {s : Shared}
noncomputable def underCx (c : Cx) (code : Code) : Cx := { c with A := c.A.under code }
theorem under_ok {lv : Nat} {c : Cx} {C : Addr} {vs : List Value} (hc : CxOk (lv + 1) c) : CxOk lv (underCx c (.builtin "type.__call__" ⟨.ref C :: vs, []⟩)) where
  kind := hc.kind
  globals := hc.globals
  builtins := hc.builtins
  handled := hc.handled
  depth := by
    have := hc.depth
    have e : (Code.builtin "type.__call__" ⟨.ref C :: vs, []⟩).weight ≤ 2 := by
      have h1 : (Code.builtin "type.__call__" ⟨.ref C :: vs, []⟩).frames = 0 := by kernel_rfl
      have h2 : (Code.builtin "type.__call__" ⟨.ref C :: vs, []⟩).isGuard = false := by kernel_rfl
      have h3 : (Code.builtin "type.__call__" ⟨.ref C :: vs, []⟩).isCaller = false := by kernel_rfl
      unfold Code.weight
      rw [h1, h2, h3]
      simp only [Bool.false_eq_true, if_false]
      split <;> (first | lia | omega)
    show c.A.depth + (Code.builtin "type.__call__" ⟨.ref C :: vs, []⟩).weight + 5 * lv + 100 < _
    (first | lia | omega)
  units := by
    have := hc.units
    have e : (Code.builtin "type.__call__" ⟨.ref C :: vs, []⟩).cUnits = 1 := by kernel_rfl
    show c.A.units + (Code.builtin "type.__call__" ⟨.ref C :: vs, []⟩).cUnits + 20 * lv + 500 < _
    rw [e]; (first | lia | omega)
  frames := by
    show pushEnvs (Code.builtin "type.__call__" ⟨.ref C :: vs, []⟩).envs c.A.frames = _
    have e : (Code.builtin "type.__call__" ⟨.ref C :: vs, []⟩).envs = [] := by kernel_rfl
    rw [e, pushEnvs_eq, hc.frames]; rfl
  top := hc.top
theorem Rel.under (R : Rel c m H s) (code : Code) : Rel (underCx c code) m H s :=
  { gens := R.gens, os := R.os, hb := R.hb, base := R.base, since := R.since, grow := R.grow, objs := R.objs, offB := R.offB, frames := R.frames, dfr := R.dfr, offF := R.offF, locs := R.locs, offL := R.offL, newL := R.newL, baseL := R.baseL, cells := R.cells }
theorem Rel.notUnder {code : Code} (R : Rel (underCx c code) m H s) : Rel c m H s :=
  { gens := R.gens, os := R.os, hb := R.hb, base := R.base, since := R.since, grow := R.grow, objs := R.objs, offB := R.offB, frames := R.frames, dfr := R.dfr, offF := R.offF, locs := R.locs, offL := R.offL, newL := R.newL, baseL := R.baseL, cells := R.cells }

structure MakeOk (w : World) (C fI : Addr) : Prop where
  makes : makesIn (KT w.params) C = true
  init : findIn (KT w.params) (.ref C) "__init__" = some (some (.ref fI))
  fn : typeIn (KT w.params) (.ref fI) = some (.type "function")
theorem Fn.make {lv : Nat} {w : World} {C fI : Addr} {as : List V} {H : AH} {Q : V → AH → Prop} (ok : MakeOk w C fI)
    (h : ∀ p d, H p = none → H d = none → p ≠ d → Fn lv w (.ref fI) (.ref p :: as) ((H.set d (.aux p)).set p (.inst C d [])) fun v H' => v = .none ∧ Q (.ref p) H') : Fn (lv + 1) w (.ref C) as H Q := by
  intro c m hw hc vs s r R
  subst hw
  obtain ⟨hh, g, d, t, os⟩ := s
  have hn1 := size_none hh
  have k1 : ∀ b o, hh.get? b = some o → (hh.push emptyDict).get? b = some o := fun b o e => Heap.get?_push_of_some _ e
  have hD : (hh.push emptyDict).get? hh.objs.size = some (dictOf [] 0) := Heap.get?_push_size _ rfl
  refine el0_3 (R.toRelH.new (tk := t) (a := hh.objs.size) (o := .aux (hh.objs.size + 1)) k1 hn1 ⟨[], 0, hD⟩ (noInst R hn1)) fun R1 m1 g1 => ?_
  have R1' := R.next R1 m1 g1
  have hn2 : (hh.push emptyDict).get? (hh.objs.size + 1) = none := by have := size_none (hh.push emptyDict); rwa [Heap.size_push] at this
  have k2 : ∀ b o, (hh.push emptyDict).get? b = some o → ((hh.push emptyDict).push (instObj C hh.objs.size)).get? b = some o := fun b o e => Heap.get?_push_of_some _ e
  have hX : ((hh.push emptyDict).push (instObj C hh.objs.size)).get? (hh.objs.size + 1) = some (instObj C hh.objs.size) := by
    have := Heap.get?_push_size (hh.push emptyDict) (o := instObj C hh.objs.size) rfl
    rwa [Heap.size_push] at this
  have hDX : hh.objs.size ≠ hh.objs.size + 1 := by (first | lia | omega)
  obtain ⟨R2, m2, g2⟩ := R1'.toRelH.new (tk := t) (a := hh.objs.size + 1) (o := .inst C hh.objs.size []) k2 hn2
    ⟨instObj C hh.objs.size, [], 0, hX, rfl, rfl, rfl, k2 _ _ hD, (AH.set_other _ _ hDX).trans (AH.set_self ..), ⟨fun _ _ e => (nomatch e), fun _ _ => rfl, Nat.le_refl _⟩⟩ (noInst R1' hn2)
  have R2' := R1'.next R2 m2 g2
  have hp0 : H (hh.objs.size + 1) = none := AH.set_none (H := H) (none_of_new R1' hn2)
  refine make_core (makes_of R.K ok.makes) (looks_findIn R.K ok.init) (fun self => bind_fn R.K self ok.fn) (.inl rfl) ?_
  have z := h (hh.objs.size + 1) hh.objs.size hp0 (none_of_new R hn1) (Ne.symm hDX) (underCx c (.builtin "type.__call__" ⟨.ref C :: vs, []⟩)) m rfl (under_ok hc) (.ref (hh.objs.size + 1) :: vs) _
    (.cons (.ref _) (((r.mono (.of_keeps k1)).mono (.of_keeps k2)))) (R2'.under _)
  refine codeAny_mono z fun x s' y => ?_
  rcases x with e | (v | _ | _ | _) <;> first | exact y.elim | skip
  refine el2_5 y fun d' H' z1 rv R' mv gr => ?_; try clear y; refine el0_2 z1 fun z2 q => ?_; subst z2
  cases rv
  exact (mk0_2 rfl  ⟨_, H', q, .ref _, R'.notUnder, (m1.trans g1 m2).trans (g1.trans m1 g2) mv, (g1.trans m1 g2).trans (m1.trans g1 m2) gr⟩)

-- iterators
theorem Nx.list {I p : Addr} {ds : List V} (hh : c.A.handled = none) (_hne : p ≠ I) : Nx c I (fun H => H p = some (.list ds)) ds (fun i h => h.IsListIter I p i) where
  item := fun i s m H d E Q R hP st hd hQ => by
    refine el2_2 (R.objs p _ hP) fun vs n e r => ?_
    refine el1_2 (r.get hd) fun v hv rv => ?_
    exact wpAny_pyNext_list_item st ⟨_, e, rfl, n, rfl⟩ (x := v) (by simpa using hv) fun h' hit' sb => hQ v h' s.toks rv hit' fun b o hb e' => (sb.2 b hb).trans e'
  done := fun s m H E Q R hP st hQ => by
    refine el2_2 (R.objs p _ hP) fun vs n e r => ?_
    exact wpAny_pyNext_list_end hh st ⟨_, e, rfl, n, rfl⟩ (by simp [r.length]) fun h' he => hQ h' s.toks fun b o hb e' => he b o hb e'
  at_ := fun i h z3 => el1_3 z3 fun o e hc hd => (mk1_3 o e (by rw [hc]; decide) (fun es n q => by rw [hd] at q; cases q))
  frame := fun i h h' z4 he _ => el1_2 z4 fun o e r => (mk1_2 o (he.trans e) r)
theorem Nx.tup {I a : Addr} {vs : List Value} {ds : List V} (hh : c.A.handled = none) : Nx c I (fun _ => True) ds (fun i h => h.IsTupleIter I a i ∧ h.IsTuple a vs.toArray ∧ VRs h vs ds) where
  item := fun i s m H d E Q R hP st hd hQ => by
    refine el1_2 (st.2.2.get hd) fun v hv rv => ?_
    refine wpAny_pyNext_tuple_item st.1 st.2.1 (x := v) (by simpa using hv) fun h' hit' sb => ?_
    refine el1_3 st.1 fun oI eI cI dI => ?_
    refine el1_3 st.2.1 fun oa ea ca z5 => ?_; refine el1_1 z5 fun na da => ?_
    have ne : a ≠ I := by rintro rfl; rw [eI] at ea; cases ea; rw [dI] at da; cases da
    have T : Tups s.heap h' := fun b o vs n e hc hd => (sb.2 b (by rintro rfl; rw [eI] at e; cases e; rw [dI] at hd; cases hd)).trans e
    exact hQ v h' s.toks rv ⟨hit', ⟨oa, (sb.2 a ne).trans ea, ca, na, da⟩, st.2.2.mono T⟩ fun b o hb e' => (sb.2 b hb).trans e'
  done := fun s m H E Q R hP st hQ => wpAny_pyNext_tuple_end hh st.1 st.2.1 (by simp [st.2.2.length]) fun h' he => hQ h' s.toks fun b o hb e' => he b o hb e'
  at_ := fun i h ⟨⟨o, e, hc, hd⟩, _⟩ => (mk1_3 o e (by rw [hc]; decide) (fun es n q => by rw [hd] at q; cases q))
  frame := fun i h h' ⟨⟨o, e, r⟩, ⟨oa, ea, ca, na, da⟩, rv⟩ he T => ⟨⟨o, he.trans e, r⟩, ⟨oa, T _ _ _ _ ea ca da, ca, na, da⟩, rv.mono T⟩
noncomputable def signs (x : Str) : List V := x.cps.toList.map fun n => .str ⟨#[n]⟩
theorem Nx.strA {I : Addr} {x : Str} {t : Tok} (hh : c.A.handled = none) : Nx c I (fun _ => True) (signs x) (fun i h => h.IsStrIter I "str_ascii_iterator" x t i) where
  item := fun i s m H d E Q R hP st hd hQ => by
    simp only [signs, List.getElem?_map, Option.map_eq_some_iff, Array.getElem?_toList] at hd
    refine el1_2 hd fun n hn z11 => ?_; try clear hd; subst z11
    exact wpAny_pyNext_ascii_item st hn fun h' hit' sb => hQ _ h' _ (.str ..) hit' fun b o hb e' => (sb.2 b hb).trans e'
  done := fun s m H E Q R hP st hQ => wpAny_pyNext_ascii_end hh st (by simp [signs]) fun h' he => hQ h' s.toks fun b o hb e' => he b o hb e'
  at_ := fun i h z12 => el1_3 z12 fun o e hc hd => (mk1_3 o e (by rw [hc]; decide) (fun es n q => by rw [hd] at q; cases q))
  frame := fun i h h' z13 he _ => el1_2 z13 fun o e r => (mk1_2 o (he.trans e) r)
theorem Nx.strW {I : Addr} {x : Str} {t : Tok} (hh : c.A.handled = none) : Nx c I (fun _ => True) (signs x) (fun i h => h.IsStrIter I "str_iterator" x t i) where
  item := fun i s m H d E Q R hP st hd hQ => by
    simp only [signs, List.getElem?_map, Option.map_eq_some_iff, Array.getElem?_toList] at hd
    refine el1_2 hd fun n hn z14 => ?_; try clear hd; subst z14
    exact wpAny_pyNext_wide_item st hn fun h' hit' sb => hQ _ h' _ (.str ..) hit' fun b o hb e' => (sb.2 b hb).trans e'
  done := fun s m H E Q R hP st hQ => wpAny_pyNext_wide_end hh st (by simp [signs]) fun h' he => hQ h' s.toks fun b o hb e' => he b o hb e'
  at_ := fun i h z15 => el1_3 z15 fun o e hc hd => (mk1_3 o e (by rw [hc]; decide) (fun es n q => by rw [hd] at q; cases q))
  frame := fun i h h' z16 he _ => el1_2 z16 fun o e r => (mk1_2 o (he.trans e) r)
noncomputable def ranged (a k : Int) (n : Nat) : List V := (List.range n).map fun i => .int (a + (i : Nat) * k)
theorem Nx.range {I : Addr} {a k : Int} {n : Nat} (hh : c.A.handled = none) : Nx c I (fun _ => True) (ranged a k n) (fun i h => i ≤ n ∧ IsRangeIter h I (a + (i : Nat) * k) ((n : Int) - (i : Nat)) k) where
  item := fun i s m H d E Q R hP st hd hQ => by
    have hi : i < n := by have := (List.getElem?_eq_some_iff.mp hd).1; simpa [ranged] using this
    simp only [ranged, List.getElem?_map, List.getElem?_range hi, Option.map_some, Option.some.injEq] at hd
    subst hd
    refine wpAny_pyNext_range_item st.2 (by (first | lia | omega)) fun h' hit' sb => hQ _ h' _ (.int ..) ⟨hi, ?_⟩ fun b o hb e' => (sb.2 b hb).trans e'
    have e1 : a + (i : Nat) * k + k = a + ((i + 1 : Nat) : Int) * k := by rw [Int.natCast_add, Int.add_mul]; (first | lia | omega)
    have e2 : (n : Int) - (i : Nat) - 1 = (n : Int) - ((i + 1 : Nat) : Int) := by (first | lia | omega)
    rw [e1, e2] at hit'
    exact hit'
  done := fun s m H E Q R hP st hQ => wpAny_pyNext_range_end hh st.2 (by simp [ranged]) fun h' he => hQ h' s.toks fun b o hb e' => he b o hb e'
  at_ := fun i h z17 => el0_2 z17 fun _ e => (mk1_3 _ e (by show Value.type "range_iterator" ≠ _; decide) (fun es n q => by cases q))
  frame := fun i h h' z18 he _ => el0_2 z18 fun hi e => ⟨hi, he.trans e⟩
end

section
variable {lv : Nat} {c : Cx} {E : ER} {m : Loc} {H : AH} {s : Shared} {Q : Fl → Loc → AH → Prop} {rest body : List Stmt} {x : Str} {xp pos : Pos} {iter : Expr}
theorem forAt_push {H₁ : AH} {s₁ : Shared} {P : AH → Prop} {ds : List V} {St : Nat → Heap → Prop} {o : Obj} (R : Rel c m H s) (R₁ : Rel c m H₁ s₁) (m₁ : Moves H s.heap s₁.heap) (g₁ : Grow H H₁ s.heap)
    (N : Nx c s₁.heap.objs.size P ds St) (st : St 0 (s₁.heap.push o)) (h : For c E P x body ds m H₁ Q) : ForAt c E x body m H Q s (.ref s₁.heap.objs.size) { s₁ with heap := s₁.heap.push o } := by
  have k : ∀ b ob, s₁.heap.get? b = some ob → (s₁.heap.push o).get? b = some ob := fun b ob e => Heap.get?_push_of_some _ e
  have hn := size_none s₁.heap
  refine (mk5_8 _ H₁ P ds St rfl N st ?_ (R₁.free hn) (R₁.ext (tk := s₁.toks) k) ((Step.of R m₁ g₁).trans (Step.of R₁ (.of_keeps k) (.refl _ _))) h)
  cases q : s.heap.get? s₁.heap.objs.size with
  | none => rfl
  | some ob =>
    cases z : H s₁.heap.objs.size with
    | none => refine el1_2 (m₁ _ _ q z) fun o' e' _ => ?_; rw [hn] at e'; cases e'
    | some oo => refine el1_1 (g₁.2 _ _ z) fun o' e' => ?_; refine el1_2 ((R₁.objs _ _ e').there) fun ob' e'' _ => ?_; rw [hn] at e''; cases e''
theorem Ex.forL (hc : CxOk lv c) (hE : PassesOwn (M c.w) c.A c.env E) (hk : c.env.kindOf x = some .local) (h : Ev c E iter m H fun a H₁ => ∃ p xs, a = .ref p ∧ H₁ p = some (.list xs) ∧ For c E (fun H => H p = some (.list xs)) x body xs m H₁ Q)
    (hs : ∀ y, foldedSetIterable iter c.env y = pure y := by intro _; rfl) : Ex c E (.For (.Name x xp) iter body [] pos) m H Q := Ex.forG hc hE hk (fun s R => by
  refine wpAny_mono (h s R) (fun va s₁ z19 => el2_5 z19 fun a H₁ z20 r₁ R₁ m₁ g₁ => el2_3 z20 fun p xs ea hp hF => ?_) fun _ _ x => x
  apply r₁.refQ ea
  refine el2_2 (R₁.objs p _ hp) fun vs n e _ => ?_
  exact wpAny_pyIter_list ⟨_, e, rfl, n, rfl⟩ (forAt_push R R₁ m₁ g₁ (Nx.list hc.handled (Nat.ne_of_lt (Heap.lt_size e))) ⟨_, Heap.get?_push_size _ rfl, rfl, rfl⟩ hF)) hs
theorem Ex.forT (hc : CxOk lv c) (hE : PassesOwn (M c.w) c.A c.env E) (hk : c.env.kindOf x = some .local) (h : Ev c E iter m H fun a H₁ => ∃ ds, a = .tup ds ∧ For c E (fun _ => True) x body ds m H₁ Q)
    (hs : ∀ y, foldedSetIterable iter c.env y = pure y := by intro _; rfl) : Ex c E (.For (.Name x xp) iter body [] pos) m H Q := Ex.forG hc hE hk (fun s R => by
  refine wpAny_mono (h s R) (fun va s₁ z21 => el2_5 z21 fun a H₁ z22 r₁ R₁ m₁ g₁ => el1_2 z22 fun ds ea hF => ?_) fun _ _ x => x
  subst ea
  cases r₁ with
  | tup e hc' hd r =>
    have k : ∀ {o : Obj}, ∀ b ob, s₁.heap.get? b = some ob → (s₁.heap.push o).get? b = some ob := fun b ob e => Heap.get?_push_of_some _ e
    exact wpAny_pyIter_tuple ⟨_, e, hc', _, hd⟩ (forAt_push R R₁ m₁ g₁ (Nx.tup hc.handled) ⟨⟨_, Heap.get?_push_size _ rfl, rfl, rfl⟩, ⟨_, k _ _ e, hc', _, hd⟩, r.mono (.of_keeps k)⟩ hF)) hs
theorem Ex.forS (hc : CxOk lv c) (hE : PassesOwn (M c.w) c.A c.env E) (hk : c.env.kindOf x = some .local) (h : Ev c E iter m H fun a H₁ => ∃ y, a = .str y ∧ For c E (fun _ => True) x body (signs y) m H₁ Q)
    (hs : ∀ y, foldedSetIterable iter c.env y = pure y := by intro _; rfl) : Ex c E (.For (.Name x xp) iter body [] pos) m H Q := Ex.forG hc hE hk (fun s R => by
  refine wpAny_mono (h s R) (fun va s₁ z23 => el2_5 z23 fun a H₁ z24 r₁ R₁ m₁ g₁ => el1_2 z24 fun y ea hF => ?_) fun _ _ x => x
  subst ea
  cases r₁
  cases ha : y.cps.all (· < 128)
  · exact wpAny_pyIter_wide ha (forAt_push R R₁ m₁ g₁ (Nx.strW hc.handled) ⟨_, Heap.get?_push_size _ rfl, rfl, rfl⟩ hF)
  · exact wpAny_pyIter_ascii ha (forAt_push R R₁ m₁ g₁ (Nx.strA hc.handled) ⟨_, Heap.get?_push_size _ rfl, rfl, rfl⟩ hF)) hs
theorem ranged_iter {h : Heap} {a b k : Int} {n : Nat} (hn : Builtin.Range.rangeSize a b k = n) : IsRangeIter (h.push { cls := .type "range_iterator", data := .fields #[rawInt a, rawInt (Builtin.Range.rangeSize a b k), rawInt k] }) h.objs.size (a + ((0 : Nat) : Int) * k) ((n : Int) - ((0 : Nat) : Int)) k := by
  rw [hn]
  show _ = some _
  rw [Heap.get?_push_size _ rfl]
  simp
theorem callArgsR {f : Value} {e : Expr} {es : List Expr} {P : List V → AH → Prop} {Q' : Value → Shared → Prop} (k : KeepOk c.w f) (R : Rel c m H s) (h : Evs c E (e :: es) m H P)
    (hq : ∀ as H₁ vs s₁, P as H₁ → VRs s₁.heap vs as → Rel c m H₁ s₁ → Moves H s.heap s₁.heap → Grow H H₁ s.heap → wpAny (M c.w) c.A (call f vs) Q' E s₁)
    (hst : starEach (e :: es) c.env = (false, eval e c.env) :: starEach es c.env) (hplain : (backTo pos (starEach es c.env)).any (·.1) = false) :
    wpAny (M c.w) c.A (callWith pos f [] (backTo pos (starEach (e :: es) c.env)) []) Q' E s := by
  have h' := h pos s R
  rw [hst] at h' ⊢
  refine callWith_of (P := (KT c.w.params).In) (by show ((false || (backTo pos (starEach es c.env)).any (·.1)) || false) = false; rw [hplain]; rfl) k (evalArgs_plain ?_)
  exact wpAny_mono h' (fun vs s₁ z25 => el2_5 z25 fun ds H₁ q r R₁ m₁ g₁ => ⟨R₁.K, hq ds H₁ vs s₁ q r R₁ m₁ g₁⟩) fun _ _ x => x
theorem forAt_range {H₁ : AH} {s₁ : Shared} {a b k : Int} {n : Nat} {t u v : Tok} {tk : Nat} (hh : c.A.handled = none) (R : Rel c m H s) (R₁ : Rel c m H₁ s₁) (m₁ : Moves H s.heap s₁.heap) (g₁ : Grow H H₁ s.heap) (hn : Builtin.Range.rangeSize a b k = n) (hsm : Builtin.Range.small a b k = true)
    (h : For c E (fun _ => True) x body (ranged a k n) m H₁ Q) : wpAny (M c.w) c.A (pyIter (.ref s₁.heap.objs.size)) (ForAt c E x body m H Q s) E { s₁ with heap := s₁.heap.push { cls := .type "range", data := .fields #[.int a t, .int b u, .int k v] }, toks := tk } := by
  have kp : ∀ o b ob, s₁.heap.get? b = some ob → (s₁.heap.push o).get? b = some ob := fun o b ob e => Heap.get?_push_of_some _ e
  refine wpAny_pyIter_range (a := a) (b := b) (c := k) (t := t) (u := u) (v := v) (IsRange.new ..) hsm ?_
  exact forAt_push R (R₁.ext (kp _)) (m₁.trans g₁ (.of_keeps (kp _))) g₁ (Nx.range hh) ⟨Nat.zero_le _, ranged_iter hn⟩ h
theorem Ex.forR {e : Expr} {np cp : Pos} (hc : CxOk lv c) (hE : PassesOwn (M c.w) c.A c.env E) (hk : c.env.kindOf x = some .local) (hx : c.env.kindOf "range" = some .globalImplicit)
    (h : Ev c E e m H fun a H₁ => ∃ n : Nat, a = .int n ∧ n ≤ 100000 ∧ For c E (fun _ => True) x body (ranged 0 1 n) m H₁ Q)
    (he : eval (.Call (.Name "range" np) [e] [] cp) c.env = (do callWith cp (← eval (.Name "range" np) c.env) [] (backTo cp (starEach [e] c.env)) (backToKw cp (keywordEach [] c.env))) := by rfl)
    (hst : starEach [e] c.env = (false, eval e c.env) :: starEach [] c.env := by rfl)
    (hs : ∀ y, foldedSetIterable (.Call (.Name "range" np) [e] [] cp) c.env y = pure y := by intro _; rfl) : Ex c E (.For (.Name x xp) (.Call (.Name "range" np) [e] [] cp) body [] pos) m H Q := Ex.forG hc hE hk (fun s R => by
  refine Call_ (nameF hc hx (gv_range _) (by decide) R (callArgsR (P := fun as H₁ => ∃ n : Nat, as = [.int n] ∧ n ≤ 100000 ∧ For c E (fun _ => True) x body (ranged 0 1 n) m H₁ Q) (keep_type _) R
    (Evs.cons (h.mono fun d H' z26 => el1_2 z26 fun n q1 q2 => Evs.nil ⟨n, by rw [q1], q2⟩) hst) (fun as H₁ vs s₁ z27 r R₁ m₁ g₁ => el1_3 z27 fun n ea hn hF => ?_) hst rfl)) he
  subst ea
  cases r with | cons a r =>
    cases r; cases a
    refine call_range_1 (forAt_range hc.handled R R₁ m₁ g₁ ?_ (small_one (by decide) (by decide) (by (first | lia | omega)) (by (first | lia | omega))) hF)
    rw [rangeSize_one]; split <;> (first | lia | omega)) hs
theorem Ex.forRd {e₁ e₂ e₃ : Expr} {np cp : Pos} (hc : CxOk lv c) (hE : PassesOwn (M c.w) c.A c.env E) (hk : c.env.kindOf x = some .local) (hx : c.env.kindOf "range" = some .globalImplicit)
    (h : Evs c E [e₁, e₂, e₃] m H fun as H₁ => ∃ n : Nat, as = [.int ((n : Int) - 1), .int (-1), .int (-1)] ∧ n ≤ 100000 ∧ For c E (fun _ => True) x body (ranged ((n : Int) - 1) (-1) n) m H₁ Q)
    (he : eval (.Call (.Name "range" np) [e₁, e₂, e₃] [] cp) c.env = (do callWith cp (← eval (.Name "range" np) c.env) [] (backTo cp (starEach [e₁, e₂, e₃] c.env)) (backToKw cp (keywordEach [] c.env))) := by rfl)
    (hst : starEach [e₁, e₂, e₃] c.env = (false, eval e₁ c.env) :: starEach [e₂, e₃] c.env := by rfl) (hplain : (backTo cp (starEach [e₂, e₃] c.env)).any (·.1) = false := by rfl)
    (hs : ∀ y, foldedSetIterable (.Call (.Name "range" np) [e₁, e₂, e₃] [] cp) c.env y = pure y := by intro _; rfl) : Ex c E (.For (.Name x xp) (.Call (.Name "range" np) [e₁, e₂, e₃] [] cp) body [] pos) m H Q := Ex.forG hc hE hk (fun s R => by
  refine Call_ (nameF hc hx (gv_range _) (by decide) R (callArgsR (keep_type _) R h (fun as H₁ vs s₁ z28 r R₁ m₁ g₁ => el1_3 z28 fun n ea hn hF => ?_) hst hplain)) he
  subst ea
  cases r with | cons a r => cases r with | cons b r => cases r with | cons d r =>
    cases r; cases a; cases b; cases d
    refine call_range_3 (by decide) (forAt_range hc.handled R R₁ m₁ g₁ ?_ (small_down (by (first | lia | omega)) (by (first | lia | omega)) (by decide) (by decide)) hF) (.inl (PyProof.noPylong_small (by (first | lia | omega))))
    rw [rangeSize_down]; split <;> (first | lia | omega)) hs
end
section
variable {lv : Nat} {c : Cx} {E : ER} {m : Loc} {H : AH} {s : Shared} {Q : Fl → Loc → AH → Prop} {rest : List Stmt}
theorem Exs.assign2 {x y : Str} {p₁ p₂ tp pos : Pos} {k : Nat} {e : Expr} (hc : CxOk lv c) (hx : c.env.kindOf x = some .local) (hy : c.env.kindOf y = some .local)
    (h : Ev c E e m H fun d H' => ∃ a b, d = .tup [a, b] ∧ Exs c E rest ((m.set x a).set y b) H' Q)
    (hs : swapsWithSole [.Tuple [.Name x p₁, .Name y p₂] k tp] e pos.line c.env = pure false := by rfl)
    (hw : swappedStores [.Tuple [.Name x p₁, .Name y p₂] k tp] e c.env = pure none := by rfl) : Exs c E (.Assign [.Tuple [.Name x p₁, .Name y p₂] k tp] e pos :: rest) m H Q := Exs.cons fun s R => by
  refine Assign_Tuple (wpAny_mono (h s R) (fun v s₁ z3 => el2_5 z3 fun d H₁ z4 r₁ R₁ m₁ g₁ => el2_2 z4 fun a b ed h₁ => ?_) fun _ _ x => x) hs hw
  subst ed
  cases r₁ with
  | tup e hc' hd r =>
    cases r with | cons ra r => cases r with | cons rb r =>
      cases r
      refine wpAny_assign_Tuple hc.handled ⟨_, e, hc', _, hd⟩ rfl rfl fun h' he => ?_
      have hn := size_none s₁.heap
      have k1 : ∀ b o, s₁.heap.get? b = some o → h'.get? b = some o := fun b o e => he b o (by rintro rfl; rw [hn] at e; cases e) e
      have R₂ := R₁.ext (tk := s₁.toks) k1
      refine assignInOrder_cons (assign_Name (store_local hc R₂ hx (ra.mono (.of_keeps k1)) fun s₃ R₃ st₃ _ => ?_))
      refine assignInOrder_cons (assign_Name (store_local hc R₃ hy ((rb.mono (.of_keeps k1)).mono st₃.tups) fun s₄ R₄ st₄ _ => ?_))
      exact assignInOrder_nil ⟨.next, _, H₁, h₁, trivial, R₄, (((Step.of R m₁ g₁).trans (Step.of R₁ (.of_keeps k1) (.refl _ _))).trans st₃).trans st₄⟩
theorem Exs.augSub {o i e : Expr} {sp pos : Pos} {op : Operator} (h : Ev c E o m H fun a H₁ => Ev c E i m H₁ fun b H₂ => Op2 c E getItem a b m H₂ fun old H₃ => Ev c E e m H₃ fun v H₄ => Op2 c E (inplaceOp op) old v m H₄ fun new H₅ => Op3 c E a b new m H₅ fun H' => Exs c E rest m H' Q)
    (he : exec (.AugAssign (.Subscript o i sp) op e pos) c.env = (do
      standAt pos
      let ov ← eval o c.env
      let iv ← holding [ov] (eval i c.env)
      let new ← holding [ov, iv] do
        standAt sp
        let old ← getItem ov iv
        let v ← holding [old] (eval e c.env)
        standAt pos
        operate [old, v] (inplaceOp op old v)
      standAt sp
      holding [new, ov, iv] (PySem.setItem ov iv new)
      release [new, ov, iv] []
      pure .next) := by rfl) : Exs c E (.AugAssign (.Subscript o i sp) op e pos :: rest) m H Q := Exs.cons fun s R Γ p hΓ => by
  simp only [he, Sem.wp_bind', Sem.wp_holding, Sem.wp_cmd_standAt, Sem.wp_operate, Sem.wp_release, Sem.wp_pure']
  refine Sem.wp_mono _ Γ _ (fun vo p₁ s₁ z5 => el2_5 z5 fun a H₁ h₁ r₁ R₁ m₁ g₁ => ?_) (fun _ _ _ h' => h') _ _ (h s R Γ _ hΓ)
  refine Sem.wp_mono _ Γ _ (fun vi p₂ s₂ z6 => el2_5 z6 fun b H₂ h₂ r₂ R₂ m₂ g₂ => ?_) (fun _ _ _ h' => h') _ _ (h₁ s₁ R₁ Γ p₁ hΓ)
  have r₁₂ := r₁.mono (R₁.tups m₂)
  refine Sem.wp_mono _ Γ _ (fun old p₃ s₃ z7 => el2_5 z7 fun d H₃ h₃ r₃ R₃ m₃ g₃ => ?_) (fun _ _ _ h' => h') _ _ (h₂ vo vi s₂ r₁₂ r₂ R₂ Γ _ hΓ)
  refine Sem.wp_mono _ Γ _ (fun v p₄ s₄ z8 => el2_5 z8 fun dv H₄ h₄ r₄ R₄ m₄ g₄ => ?_) (fun _ _ _ h' => h') _ _ (h₃ s₃ R₃ Γ p₃ hΓ)
  refine Sem.wp_mono _ Γ _ (fun new p₅ s₅ z9 => el2_5 z9 fun dn H₅ h₅ r₅ R₅ m₅ g₅ => ?_) (fun _ _ _ h' => h') _ _ (h₄ old v s₄ (r₃.mono (R₃.tups m₄)) r₄ R₄ Γ _ hΓ)
  have T := ((R₂.tups m₃).trans (R₃.tups m₄)).trans (R₄.tups m₅)
  refine Sem.wp_mono _ Γ _ (fun _ p₆ s₆ z10 => el2_5 z10 fun _ H₆ q _ R₆ m₆ g₆ => ?_) (fun _ _ _ h' => h') _ _ (h₅ vo vi new s₅ (r₁₂.mono T) (r₂.mono T) r₅ R₅ Γ _ hΓ)
  exact (mk3_4 .next m H₆ q trivial R₆ ((((((Step.of R m₁ g₁).trans (Step.of R₁ m₂ g₂)).trans (Step.of R₂ m₃ g₃)).trans (Step.of R₃ m₄ g₄)).trans (Step.of R₄ m₅ g₅)).trans (Step.of R₅ m₆ g₆)))
end

section
variable {lv : Nat} {c : Cx} {E : ER} {m : Loc} {H : AH} {s : Shared} {Q : V → AH → Prop} {np pos apos : Pos} {e o : Expr}
theorem Ev.dict (o : O) (ho : ∀ (h : Heap) (H : AH), OR c.w (h.push { cls := .type "dict", data := .dict #[] }) H h.objs.size o) (q : ∀ a, H a = .none → Q (.ref a) (H.set a o)) : Ev c E (.Dict [] [] pos) m H Q := fun s R => by
  refine wpAny_Dict_empty ?_
  exact R.hereN (tk := s.toks) (fun b ob e => Heap.get?_push_of_some _ e) (size_none s.heap) (ho _ _) q
theorem dictI_new (w : World) (h : Heap) (H : AH) : OR w (h.push { cls := .type "dict", data := .dict #[] }) H h.objs.size (.dictI []) := ⟨[], Heap.DictOf.new h, rfl, .nil⟩
theorem dictS_new (w : World) (h : Heap) (H : AH) : OR w (h.push { cls := .type "dict", data := .dict #[] }) H h.objs.size (.dictS []) := ⟨[], Heap.DictOf.new h, rfl, .nil⟩
theorem dictT_new (w : World) (h : Heap) (H : AH) : OR w (h.push { cls := .type "dict", data := .dict #[] }) H h.objs.size (.dictT []) := ⟨[], Heap.DictOfH.new h, rfl, .nil⟩
theorem setNew_of {w : World} {h : Heap} {H : AH} {led : Bool} : OR w (h.push { cls := .type "set", dict := none, data := .set #[] 0 (.fresh 0 0 led) }) H h.objs.size (.iset (fun _ => false) 0) := by
  refine (mk4_8 _ (#[]) 0 (.fresh 0 0 led) (Heap.get?_push_size _ rfl) ⟨rfl, rfl, rfl⟩ rfl (fun e he => by simp at he) (fun k => by simp) (by decide) ?_ rfl)
  cases led <;> rfl
theorem Ev.set0 (hc : CxOk lv c) (hx : c.env.kindOf "set" = some .globalImplicit) (q : ∀ a, H a = .none → Q (.ref a) (H.set a (.iset (fun _ => false) 0)))
    (he : eval (.Call (.Name "set" np) [] [] pos) c.env = (do callWith pos (← eval (.Name "set" np) c.env) [] (backTo pos (starEach [] c.env)) (backToKw pos (keywordEach [] c.env))) := by rfl) : Ev c E (.Call (.Name "set" np) [] [] pos) m H Q := by
  refine Ev.call0 hc hx (gv_set _) (keep_type _) (fun vs s r R => ?_) (by decide) he
  cases r
  exact call_set_0 fun led => R.hereN (tk := s.toks) (fun b ob e => Heap.get?_push_of_some _ e) (size_none s.heap) setNew_of q
theorem Ev.listL (hc : CxOk lv c) (hx : c.env.kindOf "list" = some .globalImplicit) (h : Ev c E e m H fun a H₁ => ∃ p xs, a = .ref p ∧ H₁ p = some (.list xs) ∧ xs.length ≤ 100000 ∧ ∀ a, H₁ a = .none → Q (.ref a) (H₁.set a (.list xs)))
    (he : eval (.Call (.Name "list" np) [e] [] pos) c.env = (do callWith pos (← eval (.Name "list" np) c.env) [] (backTo pos (starEach [e] c.env)) (backToKw pos (keywordEach [] c.env))) := by rfl)
    (hst : starEach [e] c.env = (false, eval e c.env) :: starEach [] c.env := by rfl) : Ev c E (.Call (.Name "list" np) [e] [] pos) m H Q := by
  refine Ev.call hc hx (gv_list _) (keep_type _) (Evs.cons (h.mono ?_) hst) (by decide) he hst rfl
  rintro _ H' ⟨p, xs, rfl, hp, hl, q⟩
  refine Evs.nil fun vs s r R => ?_
  cases r with | cons a r =>
    cases r; cases a
    refine el2_2 (R.objs p _ hp) fun ws n e' r => ?_
    refine call_list_seq (hsz := by rw [List.size_toArray, r.length, sizeLine_eq]; (first | lia | omega)) p (.inl rfl) e' rfl rfl fun h' c' hk hD => ?_
    exact R.hereN (o := .list xs) (tk := s.toks) hk (size_none s.heap) ⟨_, _, hD, r.mono (.of_keeps hk)⟩ q
theorem Ev.tupleL (hc : CxOk lv c) (hx : c.env.kindOf "tuple" = some .globalImplicit) (h : Ev c E e m H fun a H₁ => ∃ p xs, a = .ref p ∧ H₁ p = some (.list xs) ∧ xs.length ≤ 100000 ∧ Q (.tup xs) H₁)
    (he : eval (.Call (.Name "tuple" np) [e] [] pos) c.env = (do callWith pos (← eval (.Name "tuple" np) c.env) [] (backTo pos (starEach [e] c.env)) (backToKw pos (keywordEach [] c.env))) := by rfl)
    (hst : starEach [e] c.env = (false, eval e c.env) :: starEach [] c.env := by rfl) : Ev c E (.Call (.Name "tuple" np) [e] [] pos) m H Q := by
  refine Ev.call hc hx (gv_tuple _) (keep_type _) (Evs.cons (h.mono ?_) hst) (by decide) he hst rfl
  rintro _ H' ⟨p, xs, rfl, hp, hl, q⟩
  refine Evs.nil fun vs s r R => ?_
  cases r with | cons a r =>
    cases r; cases a
    refine el2_2 (R.objs p _ hp) fun ws n e' r => ?_
    refine call_tuple_list (hsz := by rw [List.size_toArray, r.length, sizeLine_eq]; (first | lia | omega)) ⟨_, e', rfl, n, rfl⟩ fun h' hk => ?_
    have k : ∀ b ob, s.heap.get? b = some ob → (h'.push { cls := .type "tuple", data := .seq ws.toArray }).get? b = some ob := fun b ob e => Heap.get?_push_of_some _ (hk b ob e)
    exact R.hereK (tk := s.toks) k q (.tup (Heap.get?_push_size _ rfl) rfl rfl (r.mono (.of_keeps k)))

-- slices
theorem vrs_take {h : Heap} {vs : List Value} {xs : List V} (r : VRs h vs xs) (k : Nat) : VRs h (vs.take k) (xs.take k) := by
  induction k generalizing vs xs with
  | zero => exact .nil
  | succ k ih => cases r with
    | nil => exact .nil
    | cons a r => exact .cons a (ih r)
theorem vrs_drop {h : Heap} {vs : List Value} {xs : List V} (r : VRs h vs xs) (k : Nat) : VRs h (vs.drop k) (xs.drop k) := by
  induction k generalizing vs xs with
  | zero => exact r
  | succ k ih => cases r with
    | nil => exact .nil
    | cons a r => exact ih r
theorem vrs_reverse {h : Heap} {vs : List Value} {xs : List V} (r : VRs h vs xs) : VRs h vs.reverse xs.reverse := by
  induction vs generalizing xs with
  | nil => cases r; exact .nil
  | cons a vs ih => cases r with
    | cons x r => rw [List.reverse_cons, List.reverse_cons]; exact (ih r).append (.cons x .nil)
theorem Ev.sliceFrom {x : Str} {xp sp : Pos} {p : Addr} {ys : List V} (hc : CxOk lv c) (hk : c.env.kindOf x = some .local) (hx : m x = some (.ref p)) (hp : H p = some (.list ys)) (hd : (x == ("__debug__" : Str)) = false)
    (h : Ev c E e m H fun b H₂ => ∃ xs, ∃ k : Nat, b = .int k ∧ H₂ p = some (.list xs) ∧ xs.length ≤ 100000 ∧ k ≤ xs.length ∧ ∀ a, H₂ a = .none → Q (.ref a) (H₂.set a (.list (xs.drop k)))) :
    Ev c E (.Subscript (.Name x xp) (.Slice (some e) Option.none Option.none sp) pos) m H Q := fun s R => by
  refine wpAny_Subscript_list_slice (wpAny_mono (Ev.name (Q := fun a H' => a = .ref p ∧ H' = H) hc hx hk ⟨rfl, rfl⟩ hd s R) (fun va s₁ z11 => el2_5 z11 fun a H₁ z12 r₁ R₁ m₁ g₁ => el0_2 z12 fun ea eH => ?_) fun _ _ x => x)
  subst eH; apply r₁.refQ ea
  rw [evalPart_some]
  refine wpAny_mono (h s₁ R₁) (fun vb s₂ z13 => el2_5 z13 fun b H₂ z14 r₂ R₂ m₂ g₂ => el2_5 z14 fun xs k eb hp' hl hkl q => ?_) fun _ _ x => x
  subst eb
  cases r₂ with | int _ t =>
    rw [evalPart_none]
    refine el2_2 (R₂.objs p _ hp') fun vs n e' r => ?_
    refine wpAny_pure ⟨p, vs.toArray, some k, Option.none, rfl, ⟨_, e', rfl, n, rfl⟩, by rw [List.size_toArray, r.length, sizeLine_eq]; (first | lia | omega), .int _ _, .none, ?_⟩
    rw [slicePick_from']
    have hn0 := size_none s₂.heap
    have k1 : ∀ o, ∀ b ob, s₂.heap.get? b = some ob → (s₂.heap.push o).get? b = some ob := fun o b ob e => Heap.get?_push_of_some _ e
    have R₃ := R₂.ext (tk := s₂.toks) (k1 { cls := .type "slice", data := .fields #[.int k t, .none, .none] })
    have z := R₃.hereN (Q := Q) (tk := s₂.toks) (o := .list (xs.drop k)) (h' := (s₂.heap.push { cls := .type "slice", data := .fields #[.int k t, .none, .none] }).push { cls := .type "list", data := .seq (vs.drop k).toArray }) (a := s₂.heap.objs.size + 1)
      (fun b ob e => Heap.get?_push_of_some _ e) (by have := size_none (s₂.heap.push { cls := .type "slice", data := .fields #[.int k t, .none, .none] }); rwa [Heap.size_push] at this)
      ⟨vs.drop k, 0, by have := Heap.get?_push_size (s₂.heap.push { cls := .type "slice", data := .fields #[.int k t, .none, .none] }) (o := { cls := .type "list", data := .seq (vs.drop k).toArray }) rfl; rwa [Heap.size_push] at this, (vrs_drop r k).mono (.of_keeps fun b ob e => Heap.get?_push_of_some _ (k1 _ _ _ e))⟩ q
    have z2 := EvP.trans (s₁ := { s₂ with heap := s₂.heap.push { cls := .type "slice", data := .fields #[.int k t, .none, .none] } }) (.of_keeps (k1 _)) (.refl _ _) z
    exact (z2.trans m₂ g₂).trans m₁ g₁
theorem Ev.sliceRev {x : Str} {xp sp up kp : Pos} {kk : Nat} (h : Ev c E (.Name x xp) m H fun a H₁ => ∃ p xs, a = .ref p ∧ H₁ p = some (.list xs) ∧ xs.length ≤ 100000 ∧ ∀ a, H₁ a = .none → Q (.ref a) (H₁.set a (.list xs.reverse))) :
    Ev c E (.Subscript (.Name x xp) (.Slice Option.none Option.none (some (.UnaryOp .USub (.Constant (.int 1) kk kp) up)) sp) pos) m H Q := fun s R => by
  refine Subscript_ (wpAny_mono (h s R) (fun va s₁ z15 => el2_5 z15 fun a H₁ z16 r₁ R₁ m₁ g₁ => el2_4 z16 fun p xs ea hp hl q => ?_) fun _ _ x => x)
  apply r₁.refQ ea
  refine wpAny_Slice ?_
  rw [evalPart_none, evalPart_some]
  refine wpAny_pure (wpAny_pure (wpAny_UnaryOp (wpAny_Constant_int (PyProof.Rows.neg_int ?_))))
  refine el2_2 (R₁.objs p _ hp) fun vs n e' r => ?_
  have k1 : ∀ o, ∀ b ob, s₁.heap.get? b = some ob → (s₁.heap.push o).get? b = some ob := fun o b ob e => Heap.get?_push_of_some _ e
  refine subscriptTail_ops (T := "list") (ops := [.ref p, .ref s₁.heap.objs.size]) ⟨_, k1 _ _ _ e', rfl⟩ list_getitem_lookup ?_ rfl (fun _ => rfl)
  refine wpAny_getItem_list_slice (lo := Option.none) (hi := Option.none) (st := some (-1)) ⟨_, k1 _ _ _ e', rfl, n, rfl⟩ (Heap.IsSliceOf.new ..) .none .none (.int _ _) (by decide) ?_ (by rw [List.size_toArray, r.length, sizeLine_eq]; (first | lia | omega))
  rw [krv_pick, Heap.size_push]
  have R₂ := R₁.ext (tk := s₁.toks + 1 + 1) (k1 { cls := .type "slice", data := .fields #[.none, .none, .int (-1) (s₁.toks + 1)] })
  have z := R₂.hereN (Q := Q) (tk := s₁.toks + 1 + 1) (o := .list xs.reverse) (h' := (s₁.heap.push { cls := .type "slice", data := .fields #[.none, .none, .int (-1) (s₁.toks + 1)] }).push { cls := .type "list", data := .seq vs.reverse.toArray }) (a := s₁.heap.objs.size + 1)
    (fun b ob e => Heap.get?_push_of_some _ e) (by have := size_none (s₁.heap.push { cls := .type "slice", data := .fields #[.none, .none, .int (-1) (s₁.toks + 1)] }); rwa [Heap.size_push] at this)
    ⟨vs.reverse, 0, by have := Heap.get?_push_size (s₁.heap.push { cls := .type "slice", data := .fields #[.none, .none, .int (-1) (s₁.toks + 1)] }) (o := { cls := .type "list", data := .seq vs.reverse.toArray }) rfl; rwa [Heap.size_push] at this, (vrs_reverse r).mono (.of_keeps fun b ob e => Heap.get?_push_of_some _ (k1 _ _ _ e))⟩ q
  have z2 := EvP.trans (s₁ := { s₁ with heap := s₁.heap.push { cls := .type "slice", data := .fields #[.none, .none, .int (-1) (s₁.toks + 1)] }, toks := s₁.toks + 1 + 1 }) (.of_keeps (k1 _)) (.refl _ _) z
  exact z2.trans m₁ g₁
end

section
variable {lv : Nat} {c : Cx} {E : ER} {m : Loc} {H : AH} {s : Shared} {Q : Fl → Loc → AH → Prop} {rest : List Stmt} {e o : Expr} {pos : Pos}
theorem sel_take (vs : List Value) (k : Nat) : ∀ (i : Nat) (N : Int), ((i + vs.length : Nat) : Int) = N → (vs.zipIdx i).filterMap (fun (x : Value × Nat) => if (decide ((k : Int) ≤ (x.2 : Int)) && decide ((x.2 : Int) < N) && ((x.2 : Int) - k) % 1 == 0) = true then none else some x.1) = vs.take (k - i) := by
  induction vs with
  | nil => intro i N h; simp
  | cons v vs ih =>
    intro i N h
    rw [List.zipIdx_cons, List.filterMap_cons]
    have h' : ((i + 1 + vs.length : Nat) : Int) = N := by rw [← h, List.length_cons]; (first | lia | omega)
    rw [List.length_cons] at h
    by_cases hk : k ≤ i
    · have e1 : (decide ((k : Int) ≤ (i : Int)) && decide ((i : Int) < N) && ((i : Int) - k) % 1 == 0) = true := by
        rw [decide_eq_true (by (first | lia | omega)), decide_eq_true (by (first | lia | omega))]; simp [Int.emod_one]
      simp only [e1, if_true]
      rw [ih (i + 1) N h', show k - i = 0 by (first | lia | omega), show k - (i + 1) = 0 by (first | lia | omega)]
      rfl
    · have e1 : (decide ((k : Int) ≤ (i : Int)) && decide ((i : Int) < N) && ((i : Int) - k) % 1 == 0) = false := by
        rw [decide_eq_false (by (first | lia | omega))]; rfl
      simp only [e1, Bool.false_eq_true, if_false]
      rw [ih (i + 1) N h', show k - i = (k - (i + 1)) + 1 by (first | lia | omega), List.take_succ_cons]
theorem delSlice {vs : List Value} {n k : Nat} {p sl : Addr} {t : Tok} {Q : Unit → Shared → Prop} (e : s.heap.get? p = some (listOf vs.toArray n)) (hs : s.heap.IsSliceOf sl (.int k t) .none .none) (hk : k ≤ vs.length) (hl : vs.length ≤ 100000)
    (h : ∀ h' n', Heap.SameBut p s.heap h' → h'.get? p = some (listOf (vs.take k).toArray n') → Q () { s with heap := h' }) : wpAny (M c.w) c.A (delItem (.ref p) (.ref sl)) Q E s := by
  refine el1_3 (id hs) fun os hos hcs hds => ?_
  have hTs : s.TypeIs (.ref sl) "slice" := ⟨os, hos, hcs⟩
  refine wpAny_delItem_slot (T := "list") ⟨_, e, rfl⟩ (by decide) F.slot_list_delitem (wpAny_call_entry F.slot_list_delitem ⟨_, e, rfl⟩ F.entry_list_delitem ?_ (F.args_list_delitem_2 _ _))
  show wpAny _ _ (Builtin.List.listSubscript? (.ref sl) >>= _) _ _ s
  refine wpAny_bind ?_
  unfold Builtin.List.listSubscript?
  refine wpAny_bind (wpAny_specialOf hTs slice_no_index ?_)
  simp only [Option.isNone_none, if_true]
  refine wpAny_pure ?_
  show wpAny _ _ (typeOf (.ref sl) >>= _) _ _ s
  refine wpAny_bind (wpAny_typeOf hTs ?_)
  rw [if_neg (by decide)]
  rw [listSliceParts_eq]
  refine wpAny_bind (wpAny_bind (wpAny_field hos hds (x := .none) rfl (wpAny_bind (wpAny_listPart .none ?_))))
  rw [if_neg (by decide)]
  refine wpAny_bind (wpAny_field hos hds (x := .int k t) rfl (wpAny_bind (wpAny_listPart (.int _ _) ?_)))
  refine wpAny_bind (wpAny_field hos hds (x := .none) rfl (wpAny_bind (wpAny_listPart .none (wpAny_pure ?_))))
  refine wpAny_bind (m := Builtin.List.listItems (.ref p)) ?_
  unfold Builtin.List.listItems
  refine wpAny_bind (wpAny_seqItems e rfl (wpAny_pure ?_))
  refine wpAny_bind (wpAny_of_eq (sliceIndices_raw (some (k : Int)) Option.none Option.none vs.toArray.size (by decide)) ?_)
  have eb : sliceBounds (some (k : Int)) Option.none Option.none vs.toArray.size = ((k : Int), ((vs.length : Nat) : Int), 1) := by
    simp only [sliceBounds, Option.getD_none, List.size_toArray]
    have h1 : ¬ ((k : Int) < 0) := by (first | lia | omega)
    simp [h1]; (first | lia | omega)
  rw [eb]
  refine wpAny_bind (wpAny_rule ?_)
  refine wpAny_bind (m := Builtin.List.listUpdate (.ref p) _) ?_
  trace_state
  show wpAny _ _ (updateSeq p fun xs => ((xs.toList.zipIdx.filterMap (fun (x : Value × Nat) => if (decide ((k : Int) ≤ (x.2 : Int)) && decide ((x.2 : Int) < ((vs.length : Nat) : Int)) && ((x.2 : Int) - k) % 1 == 0) = true then none else some x.1)).toArray)) _ _ s
  have es := sel_take vs k 0 (vs.length : Nat) (by simp)
  refine wpAny_updateSeq e rfl (wpAny_bind (wpAny_letGo (wpAny_pure ⟨.none, rfl, ?_⟩))) (by rw [List.size_toArray, sizeLine_eq]; (first | lia | omega)) (by
    rw [show (vs.toArray.toList.zipIdx) = vs.zipIdx 0 from by simp, es, List.size_toArray, List.length_take, sizeLine_eq]; (first | lia | omega))
  have u := IsL.update (n := n) e (fun xs => ((xs.toList.zipIdx.filterMap (fun (x : Value × Nat) => if (decide ((k : Int) ≤ (x.2 : Int)) && decide ((x.2 : Int) < ((vs.length : Nat) : Int)) && ((x.2 : Int) - k) % 1 == 0) = true then none else some x.1)).toArray))
  rw [show (vs.toArray.toList.zipIdx) = vs.zipIdx 0 from by simp, es] at u
  exact h _ _ (Heap.SameBut.update ..) u
theorem Exs.delFrom {x : Str} {xp sp dp : Pos} {p : Addr} {ys : List V} (hc : CxOk lv c) (hk : c.env.kindOf x = some .local) (hx : m x = some (.ref p)) (hp : H p = some (.list ys)) (hd : (x == ("__debug__" : Str)) = false)
    (h : Ev c E e m H fun b H₂ => ∃ xs, ∃ k : Nat, b = .int k ∧ H₂ p = some (.list xs) ∧ xs.length ≤ 100000 ∧ k ≤ xs.length ∧ Exs c E rest m (H₂.set p (.list (xs.take k))) Q) :
    Exs c E (.Delete [.Subscript (.Name x xp) (.Slice (some e) none none sp) dp] pos :: rest) m H Q := Exs.cons fun s R => by
  refine wpAny_Delete (wpAny_deleteEach_cons (wpAny_delete_Subscript (wpAny_mono (Ev.name (Q := fun a H' => a = .ref p ∧ H' = H) hc hx hk ⟨rfl, rfl⟩ hd s R) (fun va s₁ z17 => el2_5 z17 fun a H₁ z18 r₁ R₁ m₁ g₁ => el0_2 z18 fun ea eH => ?_) fun _ _ x => x)))
  subst eH; apply r₁.refQ ea
  refine wpAny_Slice ?_
  rw [evalPart_some]
  refine wpAny_mono (h s₁ R₁) (fun vb s₂ z19 => el2_5 z19 fun b H₂ z20 r₂ R₂ m₂ g₂ => el2_5 z20 fun xs k eb hp' hl hkl q => ?_) fun _ _ x => x
  subst eb
  cases r₂ with | int _ t =>
    rw [evalPart_none]
    refine wpAny_pure (wpAny_pure ?_)
    have k1 : ∀ o, ∀ b ob, s₂.heap.get? b = some ob → (s₂.heap.push o).get? b = some ob := fun o b ob e => Heap.get?_push_of_some _ e
    have R₃ := R₂.ext (tk := s₂.toks) (k1 { cls := .type "slice", data := .fields #[.int k t, .none, .none] })
    refine el2_2 (R₃.objs p _ hp') fun vs n e' r => ?_
    refine delSlice e' (Heap.IsSliceOf.new ..) (by rw [r.length]; exact hkl) (by rw [r.length]; exact hl) fun h' n' sb e'' => wpAny_deleteEach_nil ?_
    refine el0_3 (R₃.toRelH.upd (tk := s₂.toks) (o' := .list (xs.take k)) hp' rfl sb fun T => (mk2_2 _ n' e'' ((vrs_take r k).mono T))) fun R₄ m₄ g₄ => ?_
    exact (mk3_4 .next m _ q trivial (R₃.next R₄ m₄ g₄) ((((Step.of R m₁ g₁).trans (Step.of R₁ m₂ g₂)).trans (Step.of R₂ (.of_keeps (k1 _)) (.refl _ _))).trans (Step.of R₃ m₄ g₄)))
end
noncomputable def relabelS (scope osc : Scope) : Scope :=
  { scope with names := scope.names.map fun (n, k) => if (k == .free && osc.kind == .function && osc.names.lookup n == some .cell) then (n, .cell) else (n, k) }
theorem relabel_eq (scope : Scope) (env : Env) : relabel scope env = relabelS scope env.scope := rfl
noncomputable def compCx (c : Cx) (scope : Scope) (cl : List (Str × Addr)) (C : Addr) : Cx := { c with env := compEnvC scope cl C c.env }
noncomputable def compLoc (c' : Cx) (m : Loc) : Loc := fun y => if c'.env.kindOf y = some .local then none else m y
theorem compLoc_cell {c' : Cx} {m : Loc} {y : Str} {k : NameKind} {d : V} (h : c'.env.kindOf y = some k) (hk : k ≠ .local) (e : m y = some d) : compLoc c' m y = some d := by
  unfold compLoc; rw [if_neg (by rw [h]; intro z; cases z; exact hk rfl)]; exact e

noncomputable def Cmp (c : Cx) (P : AH → Prop) (x : Str) (ifs : List Expr) (elt : Expr) (m : Loc) (D : Addr) : List V → AH → (AH → Prop) → Prop
  | [], H, Q => P H ∧ Q H
  | d :: ds, H, Q => P H ∧ TrsAll ifs (m.set x d) H (fun b H₁ => if b = true then Ev c (fun _ _ => False) elt (m.set x d) H₁ fun y H₂ => ∃ ys, H₂ D = some (.list ys) ∧ ys.length ≤ 100000 ∧ Cmp c P x ifs elt m D ds (H₂.set D (.list (ys ++ [y]))) Q
      else Cmp c P x ifs elt m D ds H₁ Q)
where
  TrsAll : List Expr → Loc → AH → (Bool → AH → Prop) → Prop
    | [], _, H, Q => Q true H
    | [t], m, H, Q => Tr c (fun _ _ => False) t m H Q
    | _, _, _, _ => False

section
variable {lv : Nat} {c : Cx} {E : ER} {m : Loc} {H : AH} {s : Shared}
theorem Rel.setL {c : Cx} {m m' : Loc} {H : AH} {s : Shared} (R : Rel c m H s) (h : ∀ x d, m' x = some d → m x = some d) : Rel c m' H s :=
  { R with locs := by refine el1_2 R.locs fun mc hn k => ?_; exact (mk1_2 mc hn (fun x d e hk => k x d (h x d e) hk))
           cells := fun x a e => by refine el0_5 (R.cells x a e) fun h1 h2 h3 h4 z1 => ?_; refine el2_3 z1 fun u o h5 h6 h7 => ?_; exact (mk0_5 h1 h2 h3 h4  (mk2_3 u o h5 h6 (fun d hd hk => h7 d (h x d hd) hk))) }
theorem comp_ok {scope : Scope} {cl : List (Str × Addr)} {C : Addr} (hc : CxOk lv c) (hk : scope.kind = .function) : CxOk lv (compCx c scope cl C) where
  kind := hk
  globals := hc.globals
  builtins := hc.builtins
  handled := hc.handled
  depth := hc.depth
  units := hc.units
  frames := hc.frames
  top := hc.top
theorem comp_rel {scope : Scope} {cl : List (Str × Addr)} {C : Addr} {h' : Heap} {tk : Nat} {mc : Str → Option Value} (R : Rel c m H s) (hC : s.heap.get? C = none) (hns : h'.Ns C mc) (k : ∀ b o, s.heap.get? b = some o → h'.get? b = some o)
    (hcl : ∀ x a, cl.lookup x = some a → c.env.cells.lookup x = some a ∧ (c.env.kindOf x = some .cell ∨ c.env.kindOf x = some .free)) :
    Rel (compCx c scope cl C) (compLoc (compCx c scope cl C) m) H { s with heap := h', toks := tk } := by
  have R' := R.ext (tk := tk) k
  have f := R.free hC
  exact { gens := R'.gens, os := R'.os, hb := R'.hb, base := R'.base, since := R'.since, grow := R'.grow, objs := R'.objs, offB := R'.offB, frames := R'.frames, dfr := R'.dfr, offF := R'.offF
          locs := ⟨mc, hns, fun x d e hk => by unfold compLoc at e; rw [if_pos hk] at e; cases e⟩
          offL := f.H, newL := f.h0, baseL := f.B
          cells := fun x a e => by
            refine el0_2 (hcl x a e) fun e1 hk => ?_
            refine el0_5 (R'.cells x a e1) fun h1 h2 h3 _ z2 => ?_; refine el2_3 z2 fun u o h5 h6 h7 => ?_
            refine el0_5 (R.cells x a e1) fun _ _ _ _ z3 => ?_; refine el2_2 z3 fun _ o' e5 _ => ?_
            refine (mk0_5 h1 h2 h3 ?_  (mk2_3 u o h5 h6 (fun d hd _ => h7 d ?_ hk)))
            · show a ≠ C
              rintro rfl
              rw [hC] at e5; cases e5
            · unfold compLoc at hd
              split at hd
              · cases hd
              · exact hd }
theorem comp_back {scope : Scope} {cl : List (Str × Addr)} {C : Addr} {m₁ : Loc} {H' : AH} {s' : Shared} (R : Rel c m H s) (R' : Rel (compCx c scope cl C) m₁ H' s') (mv : Moves H s.heap s'.heap) (g : Grow H H' s.heap) : Rel c m H' s' :=
  R.next { gens := R'.gens, os := R'.os, hb := R'.hb, base := R'.base, since := R'.since, grow := R'.grow, objs := R'.objs, offB := R'.offB, frames := R'.frames, dfr := R'.dfr, offF := R'.offF } mv g

theorem comp_tests {c' : Cx} {m' : Loc} {ifs : List Expr} {Q : Bool → AH → Prop} {E' : ER} (h : Cmp.TrsAll c' ifs m' H Q) {s : Shared} (R : Rel c' m' H s) :
    wpAny (M c'.w) c'.A (forIn ifs true fun t r => if r = true then do let ok ← PySem.isTrue t c'.env (eval t c'.env); pure (ForInStep.yield ok) else pure (ForInStep.yield r)) (TrP c' m' H Q s) E' s := by
  match ifs, h with
  | [], h => exact wpAny_pure ⟨H, h, R, .refl _ _, .refl _ _⟩
  | [t], h =>
    rw [List.forIn_cons]
    refine wpAny_bind ?_
    rw [if_pos rfl]
    refine wpAny_bind (wpAny_noRaise (wpAny_mono (h s R) (fun b s₁ z => wpAny_pure ?_) fun _ _ x => x))
    exact wpAny_pure z

theorem comp_loop {lv' : Nat} {scope : Scope} {cl : List (Str × Addr)} {C D I : Addr} {x : Str} {px pos : Pos} {elt iter : Expr} {ifs : List Expr} {P : AH → Prop} {ds : List V} {St : Nat → Heap → Prop} {R' : Result → Shared → Prop} {H₁ : AH} {s₀ : Shared}
    {Q : AH → Prop} (hc : CxOk lv' (compCx c scope cl C)) (hx : (compCx c scope cl C).env.kindOf x = some .local) (N : Nx (compCx c scope cl C) I P ds St) (st : St 0 s.heap) (f : Free (compCx c scope cl C) (H₁.set D (.list [])) I) (hI : s₀.heap.get? I = none) (hC : s₀.heap.get? C = none) (hD : s₀.heap.get? D = none) {H₀ : AH}
    (R : Rel (compCx c scope cl C) (compLoc (compCx c scope cl C) m) (H₁.set D (.list [])) s) (mv : Moves H₀ s₀.heap s.heap) (g : Grow H₀ (H₁.set D (.list [])) s₀.heap)
    (h : Cmp (compCx c scope cl C) P x ifs elt (compLoc (compCx c scope cl C) m) D ds (H₁.set D (.list [])) Q)
    (hR : ∀ m' H' s', Rel (compCx c scope cl C) m' H' s' → Q H' → Moves H₀ s₀.heap s'.heap → Grow H₀ H' s₀.heap → R' (.ok .next) s') :
    codeAny (M c.w) c.A (.compLoop (.ListComp elt [⟨.Name x px, iter, ifs, 0⟩] scope pos) 0 (.ref I) (.ref D) (compEnvC scope cl C c.env)) R' s := by
  refine codeAny_compLoop_tests (fun n s' => ∃ i m' H', n + i = ds.length + 1 ∧ i ≤ ds.length ∧ Cmp (compCx c scope cl C) P x ifs elt (compLoc (compCx c scope cl C) m) D (ds.drop i) H' Q ∧ St i s'.heap ∧ Free (compCx c scope cl C) H' I ∧
    Rel (compCx c scope cl C) m' H' s' ∧ (∀ y d, compLoc (compCx c scope cl C) m y = some d → m' y = some d) ∧ Moves H₀ s₀.heap s'.heap ∧ Grow H₀ H' s₀.heap) (fun n s' h' => ?_) (ds.length + 1) ⟨0, _, _, rfl, Nat.zero_le _, h, st, f, R, fun _ _ e => e, mv, g⟩
  refine el3_9 h' fun i m' H' hn hi hF st f R₁ hm mv g => ?_; try clear h'
  refine el1_3 (N.at_ i _ st) fun oI eI cI dI => ?_
  have ht : ∀ o, s'.heap.get? I = some o → o.cls ≠ .type "tuple" := fun o e => by rw [eI] at e; cases e; exact cI
  have off : ∀ {a : Addr} {h' : Heap}, s₀.heap.get? a = none → (∀ b o, b ≠ a → s'.heap.get? b = some o → h'.get? b = some o) → Moves H₀ s₀.heap h' := fun {a h'} hn k b o e n => by
    refine el1_2 (mv b o e n) fun o' e' sm => ?_
    exact (mk1_2 o' (k b o' (by rintro rfl; rw [hn] at e; cases e) e') sm)
  by_cases hlt : i < ds.length
  · have hd : ds[i]? = some ds[i] := List.getElem?_eq_getElem hlt
    rw [List.drop_eq_getElem_cons hlt] at hF
    refine el0_2 hF fun hP hF => ?_
    refine N.item i s' m' H' _ _ _ R₁ hP st hd fun v h₁ tk r₁ st₁ k₁ => ?_
    refine el0_2 (R₁.offI (tk := tk) f k₁ ht) fun R₂ T₂ => ?_
    have mv₂ := off hI k₁
    refine wpAny_assign_Name (store_local hc R₂ hx (r₁.mono T₂) fun s₃ R₃ st₃ sb₃ => ?_)
    refine el1_3 (N.at_ _ _ st₁) fun oI' eI' _ dI' => ?_
    have e3 : s₃.heap.get? I = h₁.get? I := by
      refine el1_2 (st₃.mv I oI' eI' f.H f.loc fun y _ => f.cell y) fun o' e' sm => ?_
      rw [e', sm.eq dI']; exact eI'.symm
    have hst₃ : St (i + 1) s₃.heap := N.frame _ _ _ st₁ e3 st₃.tups
    have eI3 : s₃.heap.get? I = some oI' := e3.trans eI'
    have mv₃ : Moves H₀ s₀.heap s₃.heap := fun b o e n => by
      refine el1_2 (mv₂ b o e n) fun o' e' sm => ?_
      exact (mk1_2 o' ((sb₃.2 b (fun (q : b = C) => by rw [q, hC] at e; cases e)).trans e') sm)
    have R₃' : Rel (compCx c scope cl C) ((compLoc (compCx c scope cl C) m).set x ds[i]) H' s₃ := R₃.setL fun y dy e => by
      unfold Loc.set at e ⊢
      by_cases q : y = x
      · rw [if_pos q] at e ⊢; exact e
      · rw [if_neg q] at e ⊢; exact hm y dy e
    refine wpAny_mono (comp_tests (E' := fun _ _ => False) hF R₃') (fun b s₄ z4 => el1_4 z4 fun H₄ h₄ R₄ m₄ g₄ => ?_) fun _ _ x => x.elim
    have mvA : ∀ {s₅ : Shared}, Moves H' s₃.heap s₅.heap → Moves H₀ s₀.heap s₅.heap := fun z => mv₃.trans g z
    have gA : ∀ {H₅ : AH}, Grow H' H₅ s₃.heap → Grow H₀ H₅ s₀.heap := fun z => g.trans mv₃ z
    have keepI : ∀ {s₅ : Shared} {H₅ : AH}, Moves H' s₃.heap s₅.heap → Grow H' H₅ s₃.heap → St (i + 1) s₅.heap ∧ Free (compCx c scope cl C) H₅ I := fun {s₅} {H₅} z w => by
      refine el1_2 (z I oI' eI3 f.H) fun o' e' sm => ?_
      exact ⟨N.frame _ _ _ hst₃ (by rw [e', sm.eq dI', eI3]) (R₃.tups z), f.grow w eI3⟩
    have hx' : compLoc (compCx c scope cl C) m x = none := if_pos hx
    have hmA : ∀ y d, compLoc (compCx c scope cl C) m y = some d → ((compLoc (compCx c scope cl C) m).set x ds[i]) y = some d := fun y d e => by
      unfold Loc.set
      by_cases q : y = x
      · subst q; rw [hx'] at e; cases e
      · rw [if_neg q]; exact e
    cases b with
    | false =>
      rw [if_neg Bool.false_ne_true] at h₄ ⊢
      refine el0_2 (keepI m₄ g₄) fun k1 k2 => ?_
      exact (mk1_2 (n - 1) (by (first | lia | omega))  (mk3_9 (i + 1) _ H₄ (by (first | lia | omega)) (by (first | lia | omega)) h₄ k1 k2 R₄ hmA (mvA m₄) (gA g₄)))
    | true =>
      rw [if_pos rfl] at h₄ ⊢
      refine wpAny_mono (h₄ s₄ R₄) (fun vy s₅ z5 => el2_5 z5 fun y H₅ z6 r₅ R₅ m₅ g₅ => el1_3 z6 fun ys hys hl h₅ => ?_) fun _ _ x => x.elim
      have z := OpN.append (c := compCx c scope cl C) (E := fun _ _ => False) (m := (compLoc (compCx c scope cl C) m).set x ds[i]) (d := y) (Q := fun d H' => d = .none ∧ H' = H₅.set D (.list (ys ++ [y]))) hys hl ⟨rfl, rfl⟩ [.ref D, vy] s₅ (.cons (.ref _) (.cons r₅ .nil)) R₅
      refine wpAny_mono z (fun _ s₆ z7 => el2_5 z7 fun _ H₆ z8 _ R₆ m₆ g₆ => el0_2 z8 fun _ e6 => ?_) fun _ _ x => x.elim
      subst e6
      have m46 := (m₄.trans g₄ m₅).trans (g₄.trans m₄ g₅) m₆
      have g46 := (g₄.trans m₄ g₅).trans (m₄.trans g₄ m₅) g₆
      refine el0_2 (keepI m46 g46) fun k1 k2 => ?_
      exact (mk1_2 (n - 1) (by (first | lia | omega))  (mk3_9 (i + 1) _ _ (by (first | lia | omega)) (by (first | lia | omega)) h₅ k1 k2 R₆ hmA (mvA m46) (gA g46)))
  · obtain rfl : i = ds.length := by (first | lia | omega)
    rw [List.drop_eq_nil_of_le (Nat.le_refl _)] at hF
    refine N.done s' m' H' _ _ R₁ hF.1 st fun h₁ tk k₁ => ?_
    refine el0_2 (R₁.offI (tk := tk) f k₁ ht) fun R₂ T₂ => ?_
    exact hR m' H' _ R₂ hF.2 (off hI k₁) g

noncomputable def CompAt (c : Cx) (lv : Nat) (scope : Scope) (cl : List (Str × Addr)) (x : Str) (ifs : List Expr) (elt : Expr) (m : Loc) (H : AH) (Q : Addr → AH → Prop) (s : Shared) (it : Value) (s₂ : Shared) : Prop :=
  ∃ I H₁ P ds St, it = .ref I ∧ (∀ c' : Cx, c'.w = c.w → c'.A.handled = none → Nx c' I P ds St) ∧ (∀ s' (Q : Value → Shared → Prop) (E : ER), St 0 s'.heap → Q (.ref I) s' → wpAny (M c.w) c.A (pyIter (.ref I)) Q E s') ∧ St 0 s₂.heap ∧ s.heap.get? I = none ∧ Free c H₁ I ∧ Rel c m H₁ s₂ ∧
    Moves H s.heap s₂.heap ∧ Grow H H₁ s.heap ∧
    ∀ C D, H₁ D = none → CxOk lv (compCx c scope cl C) → Cmp (compCx c scope cl C) P x ifs elt (compLoc (compCx c scope cl C) m) D ds (H₁.set D (.list [])) fun H' => Q D H'

theorem comp_run {lv : Nat} {scope : Scope} {cl : List (Str × Addr)} {x : Str} {px pos : Pos} {elt iter : Expr} {ifs : List Expr} {Q : Addr → AH → Prop} {it : Value} {s₀ : Shared} {H₀ : AH} {Q' : Value → Shared → Prop} {use : Option (Value → Sem Unit)}
    (hc : CxOk lv c) (hkind : scope.kind = .function) (hcell : ∀ y ∈ scope.names, y.2 ≠ .cell) (hx : scope.names.lookup x = some .local)
    (hcl : ∀ x a, cl.lookup x = some a → c.env.cells.lookup x = some a ∧ (c.env.kindOf x = some .cell ∨ c.env.kindOf x = some .free)) (R₀ : Rel c m H₀ s₀)
    (h : CompAt c lv scope cl x ifs elt m H₀ Q s₀ it s)
    (fin : ∀ D C H' s' mC, Q D H' → Rel c m H' s' → Moves H₀ s₀.heap s'.heap → Grow H₀ H' s₀.heap → s'.heap.Ns C mC → Free c H' C → s₀.heap.get? C = none → compPost (M c.w) c.A E use Q' (.ref D) C (.ok .next) s') :
    wpAny (M c.w) c.A (newList []) (fun acc s₃ => wpAny (M c.w) c.A (newFunctionEnv scope c.env.globals cl [] c.env.qual none .none (some c.env)) (fun cenv s₄ =>
      codeAny (M c.w) c.A (.compStart (.ListComp elt [⟨.Name x px, iter, ifs, 0⟩] scope pos) 0 it acc { cenv with scope := relabel scope c.env }) (compPost (M c.w) c.A E use Q' acc cenv.locals) s₄) E s₃) E s := by
  refine el5_10 h fun I H₁ P ds St z9 N hself st hI f0 R mv g hF => ?_; try clear h; subst z9
  refine wpAny_newObj_type (wpAny_newFunctionEnv hcell (by intro y hy; simp at hy) (fun h₁ hns₁ hsb₁ => ?_) hkind)
  dsimp only at hns₁ hsb₁ ⊢
  have hD := size_none s.heap
  have kD : ∀ b o, s.heap.get? b = some o → (s.heap.push { cls := .type "list", dict := none, data := .seq ([] : List Value).toArray }).get? b = some o := fun b o e => Heap.get?_push_of_some _ e
  refine el0_3 (R.toRelH.new (tk := s.toks) (o := .list []) kD hD ⟨[], 0, Heap.get?_push_size _ rfl, .nil⟩ (noInst R hD)) fun RD mD gD => ?_
  have RD' := R.next RD mD gD
  have hC : (s.heap.push { cls := .type "list", dict := none, data := .seq ([] : List Value).toArray }).get? (s.heap.push { cls := .type "list", dict := none, data := .seq ([] : List Value).toArray }).objs.size = none := size_none _
  have kC : ∀ b o, (s.heap.push { cls := .type "list", dict := none, data := .seq ([] : List Value).toArray }).get? b = some o → h₁.get? b = some o := fun b o e => hsb₁.extBut b o (by rintro rfl; rw [hC] at e; cases e) (Heap.get?_push_of_some _ e)
  have k1 : ∀ b o, s.heap.get? b = some o → h₁.get? b = some o := fun b o e => kC b o (kD b o e)
  have down : ∀ {a : Addr}, s.heap.get? a = none → s₀.heap.get? a = none := fun {a} hn => by
    cases q : s₀.heap.get? a with
    | none => rfl
    | some ob =>
      cases z : H₀ a with
      | none => refine el1_2 (mv _ _ q z) fun o' e' _ => ?_; rw [hn] at e'; cases e'
      | some oo => refine el1_1 (g.2 _ _ z) fun o' e' => ?_; refine el1_2 ((R.objs _ _ e').there) fun ob' e'' _ => ?_; rw [hn] at e''; cases e''
  have hCs : s.heap.get? (s.heap.push { cls := .type "list", dict := none, data := .seq ([] : List Value).toArray }).objs.size = none := by
    cases q : s.heap.get? (s.heap.push { cls := .type "list", dict := none, data := .seq ([] : List Value).toArray }).objs.size with
    | none => rfl
    | some o => rw [kD _ _ q] at hC; cases hC
  have hok : CxOk lv (compCx c scope cl (s.heap.push { cls := .type "list", dict := none, data := .seq ([] : List Value).toArray }).objs.size) := comp_ok hc hkind
  have hxx : (compCx c scope cl (s.heap.push { cls := .type "list", dict := none, data := .seq ([] : List Value).toArray }).objs.size).env.kindOf x = some .local := lookup_relabel_local hx
  have Rc := comp_rel (scope := scope) (cl := cl) (tk := s.toks + ([] : List (Str × Value)).length) RD' hC hns₁ kC hcl
  have stI := N c rfl hc.handled
  have st₁ : St 0 h₁ := stI.frame _ _ _ st (by refine el1_2 (stI.at_ _ _ st) fun o e _ => ?_; exact (k1 _ _ e).trans e.symm) (.of_keeps k1)
  refine el1_3 (stI.at_ _ _ st) fun oI eI _ _ => ?_
  have fI : Free (compCx c scope cl (s.heap.push { cls := .type "list", dict := none, data := .seq ([] : List Value).toArray }).objs.size) (H₁.set s.heap.objs.size (.list [])) I := by
    have hID : I ≠ s.heap.objs.size := Nat.ne_of_lt (Heap.lt_size eI)
    have hIC : I ≠ (s.heap.push { cls := .type "list", dict := none, data := .seq ([] : List Value).toArray }).objs.size := by rintro rfl; rw [hCs] at eI; cases eI
    exact ⟨(AH.set_other _ _ hID).trans f0.H, hIC, fun y q => f0.cell y (hcl y I q).1, f0.h0, f0.B, f0.fr⟩
  have mv' : Moves H₀ s₀.heap h₁ := (mv.trans g mD).trans (g.trans mv gD) (.of_keeps kC)
  have loop := comp_loop (s := { s with heap := h₁, toks := s.toks + ([] : List (Str × Value)).length }) (px := px) (pos := pos) (iter := iter) (R' := compPost (M c.w) c.A E use Q' (.ref s.heap.objs.size) (s.heap.push { cls := .type "list", dict := none, data := .seq ([] : List Value).toArray }).objs.size)
    hok hxx (N _ rfl hc.handled) st₁ fI hI (down hCs) (down hD) Rc mv' (g.trans mv gD) (hF _ _ (none_of_new R hD) hok) (fun m' H' s' R' q mvF gF => ?_)
  · exact codeAny_compStart_list loop (hself _ _ _ st₁ loop)
  · refine el1_2 R'.locs fun mC hnC _ => ?_
    have f' := R'.offL
    refine fin _ _ H' s' mC q (comp_back R₀ R' mvF gF) mvF gF hnC ⟨R'.offL, ?_, ?_, R'.newL, R'.baseL, ?_⟩ (down hCs)
    · rintro q'
      refine el1_2 R₀.locs fun _ z10 _ => ?_; obtain ⟨o, _, _, e, _⟩ := z10
      have e' : s₀.heap.get? c.env.locals = none := q' ▸ down hCs
      rw [e] at e'; cases e'
    · intro y q'
      refine el0_5 (R₀.cells y _ q') fun _ _ _ _ z11 => ?_; refine el2_2 z11 fun _ o e _ => ?_
      have e' := down hCs
      rw [e] at e'; cases e'
    · intro hm
      refine el0_2 (R₀.frames.mem hm) fun _ z12 => ?_; refine el1_2 z12 fun o e _ => ?_
      have e' := down hCs
      rw [e] at e'; cases e'

theorem Ev.comp {lv : Nat} {scope : Scope} {x : Str} {px pos : Pos} {elt iter : Expr} {ifs : List Expr} {Q : V → AH → Prop} (cl : List (Str × Addr))
    (hc : CxOk lv c) (hkind : scope.kind = .function) (hcell : ∀ y ∈ scope.names, y.2 ≠ .cell) (hx : scope.names.lookup x = some .local) (hnames : ∀ y ∈ scope.names, y.2 = .local → scope.names.lookup y.1 = some .local)
    (hcl : ∀ x a, cl.lookup x = some a → c.env.cells.lookup x = some a ∧ (c.env.kindOf x = some .cell ∨ c.env.kindOf x = some .free)) (hclos : closureFor scope c.env = pure cl)
    (h : ∀ s, Rel c m H s → wpAny (M c.w) c.A (eval iter c.env) (fun xv s₁ => wpAny (M c.w) c.A (pyIter xv) (CompAt c lv scope cl x ifs elt m H (fun D H' => Q (.ref D) H') s) E s₁) E s)
    (hs : ∀ x, foldedSetIterable iter c.env x = pure x := by intro _; rfl) : Ev c E (.ListComp elt [⟨.Name x px, iter, ifs, 0⟩] scope pos) m H Q := fun s R => by
  rw [eval_ListComp]
  refine wpAny_comprehension_free (e := .ListComp elt [⟨.Name x px, iter, ifs, 0⟩] scope pos) (use := Option.none) (g := ⟨.Name x px, iter, ifs, 0⟩) (gs := []) rfl hs hclos hkind hnames (wpAny_mono (h s R) (fun xv s₁ h₁ => wpAny_mono h₁ (fun it s₂ h₂ => ?_) fun _ _ e => e) fun _ _ e => e)
  refine comp_run hc hkind hcell hx hcl R h₂ fun D C H' s' mC q R' mv g hn f hC => (mk1_2 mC hn (fun h' sb => ?_))
  refine el3_3 (id hn) fun oC _ _ eC dC _ => ?_
  obtain ⟨R₂, _⟩ := R'.offW (tk := s'.toks) f (h' := h') (fun b o hb e => (sb.2 b hb).trans e) fun o e _ vs n z => by rw [eC] at e; cases e; rw [dC] at z; cases z
  refine (mk2_5 (.ref D) H' q (.ref _) R₂ (fun b o e n => ?_) g)
  refine el1_2 (mv b o e n) fun o' e' sm => ?_
  exact (mk1_2 o' ((sb.2 b (by rintro rfl; rw [hC] at e; cases e)).trans e') sm)
theorem Exs.assignComp {lv : Nat} {scope : Scope} {x y : Str} {px py pos spos : Pos} {elt iter : Expr} {ifs : List Expr} {rest : List Stmt} {Q : Fl → Loc → AH → Prop} (cl : List (Str × Addr))
    (hsw : swapsWith (.ListComp elt [⟨.Name x px, iter, ifs, 0⟩] scope pos) (some (.Name y py)) spos.line c.env = pure true) (hy : c.env.kindOf y = some .local)
    (hc : CxOk lv c) (hkind : scope.kind = .function) (hcell : ∀ y ∈ scope.names, y.2 ≠ .cell) (hx : scope.names.lookup x = some .local) (hnames : ∀ y ∈ scope.names, y.2 = .local → scope.names.lookup y.1 = some .local)
    (hcl : ∀ x a, cl.lookup x = some a → c.env.cells.lookup x = some a ∧ (c.env.kindOf x = some .cell ∨ c.env.kindOf x = some .free)) (hclos : closureFor scope c.env = pure cl)
    (h : ∀ s, Rel c m H s → wpAny (M c.w) c.A (eval iter c.env) (fun xv s₁ => wpAny (M c.w) c.A (pyIter xv) (CompAt c lv scope cl x ifs elt m H (fun D H' => Exs c E rest (m.set y (.ref D)) H' Q) s) E s₁) E s)
    (hs : ∀ x, foldedSetIterable iter c.env x = pure x := by intro _; rfl) : Exs c E (.Assign [.Name y py] (.ListComp elt [⟨.Name x px, iter, ifs, 0⟩] scope pos) spos :: rest) m H Q := Exs.cons fun s R => by
  rw [exec_Assign_Name_used _ _ _ _ hsw]
  refine wpAny_bind (wpAny_standAt (wpAny_bind ?_))
  show wpAny _ _ (do let _ ← comprehension (.ListComp elt [⟨.Name x px, iter, ifs, 0⟩] scope pos) scope c.env _ (newList []) false (eval iter c.env) (some (PySem.assign (.Name y py) c.env))) _ _ s
  refine wpAny_bind (wpAny_mono (wpAny_comprehension_free (e := .ListComp elt [⟨.Name x px, iter, ifs, 0⟩] scope pos) (use := some (PySem.assign (.Name y py) c.env)) (g := ⟨.Name x px, iter, ifs, 0⟩) (gs := []) (Q := fun _ s' => ExP c H (Then c E rest Q) s .next s') rfl hs hclos hkind hnames
    (wpAny_mono (h s R) (fun xv s₁ h₁ => wpAny_mono h₁ (fun it s₂ h₂ => ?_) fun _ _ e => e) fun _ _ e => e)) (fun _ s' hq => wpAny_pure (wpAny_pure hq)) fun _ _ e => e)
  refine comp_run hc hkind hcell hx hcl R h₂ fun D C H' s' mC q R' mv g hn f hC => ?_
  show wpAny _ _ (PySem.assign (.Name y py) c.env (.ref D)) _ _ s'
  refine wpAny_assign_Name (store_local hc R' hy (.ref D) fun s₃ R₃ st₃ sb₃ => ?_)
  have hn₃ : s₃.heap.Ns C mC := hn.sameBut sb₃ (fun z => f.loc z)
  refine (mk1_2 mC hn₃ (fun h' sb => ?_))
  refine el3_3 (id hn₃) fun oC _ _ eC dC _ => ?_
  obtain ⟨R₂, T₂⟩ := R₃.offW (tk := s₃.toks) f (h' := h') (fun b o hb e => (sb.2 b hb).trans e) fun o e _ vs n z => by rw [eC] at e; cases e; rw [dC] at z; cases z
  have st := (Step.of R mv g).trans st₃
  have ne : ∀ {b : Addr} {o : Obj}, s.heap.get? b = some o → b ≠ C := fun e z => by first | exact clash e hC z | exact clash hC e z.symm
  exact (mk3_4 .next _ H' q trivial R₂  ⟨fun b o e n h1 h2 => by refine el1_2 (st.mv b o e n h1 h2) fun o' e' sm => ?_; exact (mk1_2 o' ((sb.2 b (ne e)).trans e') sm), st.gr,
    fun b o e n => by refine el1_1 (st.there b o e n) fun o' e' => ?_; exact ⟨o', (sb.2 b (ne e)).trans e'⟩, st.tups.trans T₂⟩)
end

section
variable {lv : Nat} {c : Cx} {E : ER} {m : Loc} {H : AH} {s : Shared} {scope : Scope} {cl : List (Str × Addr)} {x : Str} {ifs : List Expr} {elt iter : Expr} {Q : Addr → AH → Prop}
theorem compAt_push {H₁ : AH} {s₁ : Shared} {P : AH → Prop} {ds : List V} {St : Nat → Heap → Prop} {o : Obj} (R : Rel c m H s) (R₁ : Rel c m H₁ s₁) (m₁ : Moves H s.heap s₁.heap) (g₁ : Grow H H₁ s.heap)
    (N : ∀ c' : Cx, c'.w = c.w → c'.A.handled = none → Nx c' s₁.heap.objs.size P ds St) (hself : ∀ s' (Q : Value → Shared → Prop) (E : ER), St 0 s'.heap → Q (.ref s₁.heap.objs.size) s' → wpAny (M c.w) c.A (pyIter (.ref s₁.heap.objs.size)) Q E s') (st : St 0 (s₁.heap.push o))
    (h : ∀ C D, H₁ D = none → CxOk lv (compCx c scope cl C) → Cmp (compCx c scope cl C) P x ifs elt (compLoc (compCx c scope cl C) m) D ds (H₁.set D (.list [])) fun H' => Q D H') :
    CompAt c lv scope cl x ifs elt m H Q s (.ref s₁.heap.objs.size) { s₁ with heap := s₁.heap.push o } := by
  have k : ∀ b ob, s₁.heap.get? b = some ob → (s₁.heap.push o).get? b = some ob := fun b ob e => Heap.get?_push_of_some _ e
  have hn := size_none s₁.heap
  refine (mk5_10 _ H₁ P ds St rfl N hself st ?_ (R₁.free hn) (R₁.ext (tk := s₁.toks) k) (m₁.trans g₁ (.of_keeps k)) g₁ h)
  cases q : s.heap.get? s₁.heap.objs.size with
  | none => rfl
  | some ob =>
    cases z : H s₁.heap.objs.size with
    | none => refine el1_2 (m₁ _ _ q z) fun o' e' _ => ?_; rw [hn] at e'; cases e'
    | some oo => refine el1_1 (g₁.2 _ _ z) fun o' e' => ?_; refine el1_2 ((R₁.objs _ _ e').there) fun ob' e'' _ => ?_; rw [hn] at e''; cases e''
theorem compL (h : Ev c E iter m H fun a H₁ => ∃ p xs, a = .ref p ∧ H₁ p = some (.list xs) ∧ ∀ C D, H₁ D = none → CxOk lv (compCx c scope cl C) → Cmp (compCx c scope cl C) (fun H => H p = some (.list xs)) x ifs elt (compLoc (compCx c scope cl C) m) D xs (H₁.set D (.list [])) fun H' => Q D H') :
    ∀ s, Rel c m H s → wpAny (M c.w) c.A (eval iter c.env) (fun xv s₁ => wpAny (M c.w) c.A (pyIter xv) (CompAt c lv scope cl x ifs elt m H Q s) E s₁) E s := fun s R => by
  refine wpAny_mono (h s R) (fun va s₁ z13 => el2_5 z13 fun a H₁ z14 r₁ R₁ m₁ g₁ => el2_3 z14 fun p xs ea hp hF => ?_) fun _ _ x => x
  apply r₁.refQ ea
  refine el2_2 (R₁.objs p _ hp) fun vs n e _ => ?_
  exact wpAny_pyIter_list ⟨_, e, rfl, n, rfl⟩ (compAt_push R R₁ m₁ g₁ (fun c' _ hh => Nx.list hh (Nat.ne_of_lt (Heap.lt_size e))) (fun s' Q E st q => wpAny_pyIter_listiter st q) ⟨_, Heap.get?_push_size _ rfl, rfl, rfl⟩ hF)
theorem compR {e : Expr} {np cp : Pos} (hc : CxOk lv c) (hx : c.env.kindOf "range" = some .globalImplicit)
    (h : Ev c E e m H fun a H₁ => ∃ n : Nat, a = .int n ∧ n ≤ 100000 ∧ ∀ C D, H₁ D = none → CxOk lv (compCx c scope cl C) → Cmp (compCx c scope cl C) (fun _ => True) x ifs elt (compLoc (compCx c scope cl C) m) D (ranged 0 1 n) (H₁.set D (.list [])) fun H' => Q D H')
    (he : eval (.Call (.Name "range" np) [e] [] cp) c.env = (do callWith cp (← eval (.Name "range" np) c.env) [] (backTo cp (starEach [e] c.env)) (backToKw cp (keywordEach [] c.env))) := by rfl)
    (hst : starEach [e] c.env = (false, eval e c.env) :: starEach [] c.env := by rfl) :
    ∀ s, Rel c m H s → wpAny (M c.w) c.A (eval (.Call (.Name "range" np) [e] [] cp) c.env) (fun xv s₁ => wpAny (M c.w) c.A (pyIter xv) (CompAt c lv scope cl x ifs elt m H Q s) E s₁) E s := fun s R => by
  refine Call_ (nameF hc hx (gv_range _) (by decide) R (callArgsR (P := fun as H₁ => ∃ n : Nat, as = [.int n] ∧ n ≤ 100000 ∧ ∀ C D, H₁ D = none → CxOk lv (compCx c scope cl C) → Cmp (compCx c scope cl C) (fun _ => True) x ifs elt (compLoc (compCx c scope cl C) m) D (ranged 0 1 n) (H₁.set D (.list [])) fun H' => Q D H') (keep_type _) R
    (Evs.cons (h.mono fun d H' z15 => el1_2 z15 fun n q1 q2 => Evs.nil ⟨n, by rw [q1], q2⟩) hst) (fun as H₁ vs s₁ z16 r R₁ m₁ g₁ => el1_3 z16 fun n ea hn hF => ?_) hst rfl)) he
  subst ea
  cases r with | cons a r =>
    cases r; cases a
    rename_i t
    refine call_range_1 ?_
    have kp : ∀ o b ob, s₁.heap.get? b = some ob → (s₁.heap.push o).get? b = some ob := fun o b ob e => Heap.get?_push_of_some _ e
    have hn' : Builtin.Range.rangeSize 0 (n : Int) 1 = (n : Nat) := by rw [rangeSize_one]; split <;> (first | lia | omega)
    refine wpAny_pyIter_range (a := 0) (b := n) (c := 1) (t := s₁.toks) (u := t) (v := s₁.toks + 1) (IsRange.new ..) (small_one (by decide) (by decide) (by (first | lia | omega)) (by (first | lia | omega))) ?_
    exact compAt_push R (R₁.ext (kp _)) (m₁.trans g₁ (.of_keeps (kp _))) g₁ (fun c' _ hh => Nx.range hh) (fun s' Q E st q => wpAny_pyIter_rangeiter st.2 q) ⟨Nat.zero_le _, ranged_iter hn'⟩ hF
end
theorem swaps_yes {elt : Expr} {gens : List Comprehension} {scope : Scope} {pos py : Pos} {y : Str} {line : Nat} {env : Env} {sc : Scope} (hs : env.scope = sc)
    (h : ((if sc.kind.isAnnotationScope = true then ScopeKind.function else sc.kind) == .function && sc.names.lookup y == some .local && py.line == pos.line && !(scope.names.any fun (n, k) => n == y && (k == .local || k == .cell))) = true) :
    swapsWith (.ListComp elt gens scope pos) (some (.Name y py)) line env = pure true := by
  show pure (env.blockKind == .function && env.kindOf y == some .local && py.line == pos.line && !(scope.names.any fun (n, k) => n == y && (k == .local || k == .cell))) = _
  unfold Env.blockKind Env.kindOf
  rw [hs, h]
theorem ok48 {w : World} : FnOk w 48 "__init__" "PrologError.__init__" (methS 3 0) .none (.str "clausemill.symbols" 194) 47 := ⟨by kernel_rfl, ⟨229, by decide +kernel⟩, by kernel_rfl, by kernel_rfl, by kernel_rfl⟩
theorem ok60 {w : World} : FnOk w 60 "fixed_atoms" "fixed_atoms" (topS 8) .none (.str "clausemill.symbols" 194) 59 := ⟨by kernel_rfl, ⟨250, by decide +kernel⟩, by kernel_rfl, by kernel_rfl, by kernel_rfl⟩
theorem ok67 {w : World} : FnOk w 67 "fixed_functors" "fixed_functors" (topS 9) .none (.str "clausemill.symbols" 194) 66 := ⟨by kernel_rfl, ⟨256, by decide +kernel⟩, by kernel_rfl, by kernel_rfl, by kernel_rfl⟩
theorem ok81 {w : World} : FnOk w 81 "__init__" "Symbols.__init__" (methS 10 0) .none (.str "clausemill.symbols" 194) 80 := ⟨by kernel_rfl, ⟨274, by decide +kernel⟩, by kernel_rfl, by kernel_rfl, by kernel_rfl⟩
theorem ok88 {w : World} : FnOk w 88 "atom" "Symbols.atom" (methS 10 1) .none (.str "clausemill.symbols" 194) 87 := ⟨by kernel_rfl, ⟨283, by decide +kernel⟩, by kernel_rfl, by kernel_rfl, by kernel_rfl⟩
theorem ok95 {w : World} : FnOk w 95 "text" "Symbols.text" (methS 10 2) .none (.str "clausemill.symbols" 194) 94 := ⟨by kernel_rfl, ⟨293, by decide +kernel⟩, by kernel_rfl, by kernel_rfl, by kernel_rfl⟩
theorem ok102 {w : World} : FnOk w 102 "functor" "Symbols.functor" (methS 10 3) .none (.str "clausemill.symbols" 194) 101 := ⟨by kernel_rfl, ⟨301, by decide +kernel⟩, by kernel_rfl, by kernel_rfl, by kernel_rfl⟩
theorem ok109 {w : World} : FnOk w 109 "func" "Symbols.func" (methS 10 4) .none (.str "clausemill.symbols" 194) 108 := ⟨by kernel_rfl, ⟨313, by decide +kernel⟩, by kernel_rfl, by kernel_rfl, by kernel_rfl⟩
theorem ok165 {w : World} : FnOk w 165 "system_error" "system_error" (topS 12) .none (.str "clausemill.terms" 381) 164 := ⟨by kernel_rfl, ⟨384, by decide +kernel⟩, by kernel_rfl, by kernel_rfl, by kernel_rfl⟩
theorem ok172 {w : World} : FnOk w 172 "formal_of" "formal_of" (topS 13) .none (.str "clausemill.terms" 381) 171 := ⟨by kernel_rfl, ⟨391, by decide +kernel⟩, by kernel_rfl, by kernel_rfl, by kernel_rfl⟩
theorem ok179 {w : World} : FnOk w 179 "instantiation_error" "instantiation_error" (topS 14) .none (.str "clausemill.terms" 381) 178 := ⟨by kernel_rfl, ⟨402, by decide +kernel⟩, by kernel_rfl, by kernel_rfl, by kernel_rfl⟩
theorem ok186 {w : World} : FnOk w 186 "type_error" "type_error" (topS 15) .none (.str "clausemill.terms" 381) 185 := ⟨by kernel_rfl, ⟨409, by decide +kernel⟩, by kernel_rfl, by kernel_rfl, by kernel_rfl⟩
theorem ok193 {w : World} : FnOk w 193 "representation_error" "representation_error" (topS 16) .none (.str "clausemill.terms" 381) 192 := ⟨by kernel_rfl, ⟨418, by decide +kernel⟩, by kernel_rfl, by kernel_rfl, by kernel_rfl⟩
theorem ok216 {w : World} : FnOk w 216 "__init__" "Cells.__init__" (methS 30 0) (.ref 209) (.str "clausemill.store" 435) 215 := ⟨by kernel_rfl, ⟨471, by decide +kernel⟩, by kernel_rfl, by kernel_rfl, by kernel_rfl⟩
theorem ok223 {w : World} : FnOk w 223 "push" "Cells.push" (methS 30 1) .none (.str "clausemill.store" 435) 222 := ⟨by kernel_rfl, ⟨480, by decide +kernel⟩, by kernel_rfl, by kernel_rfl, by kernel_rfl⟩
theorem ok230 {w : World} : FnOk w 230 "new_var" "Cells.new_var" (methS 30 2) .none (.str "clausemill.store" 435) 229 := ⟨by kernel_rfl, ⟨489, by decide +kernel⟩, by kernel_rfl, by kernel_rfl, by kernel_rfl⟩
theorem ok237 {w : World} : FnOk w 237 "reserve" "Cells.reserve" (methS 30 3) .none (.str "clausemill.store" 435) 236 := ⟨by kernel_rfl, ⟨497, by decide +kernel⟩, by kernel_rfl, by kernel_rfl, by kernel_rfl⟩
theorem ok251 {w : World} : FnOk w 251 "deref" "Cells.deref" (methS 30 5) .none (.str "clausemill.store" 435) 250 := ⟨by kernel_rfl, ⟨515, by decide +kernel⟩, by kernel_rfl, by kernel_rfl, by kernel_rfl⟩
theorem ok279 {w : World} : FnOk w 279 "globalise" "Cells.globalise" (methS 30 9) .none (.str "clausemill.store" 435) 278 := ⟨by kernel_rfl, ⟨552, by decide +kernel⟩, by kernel_rfl, by kernel_rfl, by kernel_rfl⟩
theorem ok307 {w : World} : FnOk w 307 "is_compound" "Cells.is_compound" (methS 30 13) .none (.str "clausemill.store" 435) 306 := ⟨by kernel_rfl, ⟨585, by decide +kernel⟩, by kernel_rfl, by kernel_rfl, by kernel_rfl⟩
theorem ok314 {w : World} : FnOk w 314 "functor_of" "Cells.functor_of" (methS 30 14) .none (.str "clausemill.store" 435) 313 := ⟨by kernel_rfl, ⟨593, by decide +kernel⟩, by kernel_rfl, by kernel_rfl, by kernel_rfl⟩
theorem ok321 {w : World} : FnOk w 321 "width" "Cells.width" (methS 30 15) .none (.str "clausemill.store" 435) 320 := ⟨by kernel_rfl, ⟨602, by decide +kernel⟩, by kernel_rfl, by kernel_rfl, by kernel_rfl⟩
theorem ok328 {w : World} : FnOk w 328 "base" "Cells.base" (methS 30 16) .none (.str "clausemill.store" 435) 327 := ⟨by kernel_rfl, ⟨611, by decide +kernel⟩, by kernel_rfl, by kernel_rfl, by kernel_rfl⟩
theorem ok342 {w : World} : FnOk w 342 "new_block" "Cells.new_block" (methS 30 18) .none (.str "clausemill.store" 435) 341 := ⟨by kernel_rfl, ⟨628, by decide +kernel⟩, by kernel_rfl, by kernel_rfl, by kernel_rfl⟩
theorem ok371 {w : World} : FnOk w 371 "build_list" "Store.build_list" (methS 31 1) (.ref 364) (.str "clausemill.store" 435) 370 := ⟨by kernel_rfl, ⟨673, by decide +kernel⟩, by kernel_rfl, by kernel_rfl, by kernel_rfl⟩
theorem ok378 {w : World} : FnOk w 378 "list_cells" "Store.list_cells" (methS 31 2) .none (.str "clausemill.store" 435) 377 := ⟨by kernel_rfl, ⟨688, by decide +kernel⟩, by kernel_rfl, by kernel_rfl, by kernel_rfl⟩
theorem ok385 {w : World} : FnOk w 385 "put_term" "Store.put_term" (methS 31 3) .none (.str "clausemill.store" 435) 384 := ⟨by kernel_rfl, ⟨698, by decide +kernel⟩, by kernel_rfl, by kernel_rfl, by kernel_rfl⟩
theorem ok392 {w : World} : FnOk w 392 "whole_size" "Store.whole_size" (methS 31 4) .none (.str "clausemill.store" 435) 391 := ⟨by kernel_rfl, ⟨716, by decide +kernel⟩, by kernel_rfl, by kernel_rfl, by kernel_rfl⟩
theorem ok399 {w : World} : FnOk w 399 "take_term" "Store.take_term" (methS 31 5) .none (.str "clausemill.store" 435) 398 := ⟨by kernel_rfl, ⟨729, by decide +kernel⟩, by kernel_rfl, by kernel_rfl, by kernel_rfl⟩
theorem ok411 {w : World} : FnOk w 411 "is_free" "is_free" (topS 33) .none (.str "clausemill.preds_atoms" 752) 410 := ⟨by kernel_rfl, ⟨755, by decide +kernel⟩, by kernel_rfl, by kernel_rfl, by kernel_rfl⟩
theorem ok418 {w : World} : FnOk w 418 "text_of" "text_of" (topS 34) .none (.str "clausemill.preds_atoms" 752) 417 := ⟨by kernel_rfl, ⟨762, by decide +kernel⟩, by kernel_rfl, by kernel_rfl, by kernel_rfl⟩
theorem ok425 {w : World} : FnOk w 425 "spelled_cell" "spelled_cell" (topS 35) .none (.str "clausemill.preds_atoms" 752) 424 := ⟨by kernel_rfl, ⟨770, by decide +kernel⟩, by kernel_rfl, by kernel_rfl, by kernel_rfl⟩
theorem ok432 {w : World} : FnOk w 432 "element_text" "element_text" (topS 36) .none (.str "clausemill.preds_atoms" 752) 431 := ⟨by kernel_rfl, ⟨781, by decide +kernel⟩, by kernel_rfl, by kernel_rfl, by kernel_rfl⟩
theorem ok439 {w : World} : FnOk w 439 "spelled_text" "spelled_text" (topS 37) .none (.str "clausemill.preds_atoms" 752) 438 := ⟨by kernel_rfl, ⟨790, by decide +kernel⟩, by kernel_rfl, by kernel_rfl, by kernel_rfl⟩
theorem ok454 {w : World} : FnOk w 454 "__init__" "Areas.__init__" (methS 40 0) (.ref 447) (.str "clausemill.areas" 804) 453 := ⟨by kernel_rfl, ⟨823, by decide +kernel⟩, by kernel_rfl, by kernel_rfl, by kernel_rfl⟩
theorem ok461 {w : World} : FnOk w 461 "reset" "Areas.reset" (methS 40 1) .none (.str "clausemill.areas" 804) 460 := ⟨by kernel_rfl, ⟨835, by decide +kernel⟩, by kernel_rfl, by kernel_rfl, by kernel_rfl⟩
theorem ok496 {w : World} : FnOk w 496 "take" "Areas.take" (methS 40 6) .none (.str "clausemill.areas" 804) 495 := ⟨by kernel_rfl, ⟨876, by decide +kernel⟩, by kernel_rfl, by kernel_rfl, by kernel_rfl⟩
theorem ok503 {w : World} : FnOk w 503 "put" "Areas.put" (methS 40 7) .none (.str "clausemill.areas" 804) 502 := ⟨by kernel_rfl, ⟨884, by decide +kernel⟩, by kernel_rfl, by kernel_rfl, by kernel_rfl⟩
theorem ok608 {w : World} : FnOk w 608 "_law_digit" "_law_digit" (topS 42) .none (.str "law_sa0161_01" 1016) 607 := ⟨by kernel_rfl, ⟨1019, by decide +kernel⟩, by kernel_rfl, by kernel_rfl, by kernel_rfl⟩
theorem ok615 {w : World} : FnOk w 615 "_law_element" "_law_element" (topS 43) .none (.str "law_sa0161_01" 1016) 614 := ⟨by kernel_rfl, ⟨1030, by decide +kernel⟩, by kernel_rfl, by kernel_rfl, by kernel_rfl⟩
theorem ok622 {w : World} : FnOk w 622 "_law_sign" "_law_sign" (topS 44) .none (.str "law_sa0161_01" 1016) 621 := ⟨by kernel_rfl, ⟨1041, by decide +kernel⟩, by kernel_rfl, by kernel_rfl, by kernel_rfl⟩
theorem ok629 {w : World} : FnOk w 629 "_law_fault" "_law_fault" (topS 45) .none (.str "law_sa0161_01" 1016) 628 := ⟨by kernel_rfl, ⟨1050, by decide +kernel⟩, by kernel_rfl, by kernel_rfl, by kernel_rfl⟩
theorem ok634 {w : World} : FnOk w 634 "_law_ball" "_law_ball" (topS 46) .none (.str "law_sa0161_01" 1016) 633 := ⟨by kernel_rfl, ⟨1058, by decide +kernel⟩, by kernel_rfl, by kernel_rfl, by kernel_rfl⟩
theorem ok639 {w : World} : FnOk w 639 "_law_due" "_law_due" (topS 47) .none (.str "law_sa0161_01" 1016) 638 := ⟨by kernel_rfl, ⟨1064, by decide +kernel⟩, by kernel_rfl, by kernel_rfl, by kernel_rfl⟩
theorem ok646 {w : World} : FnOk w 646 "_law_read" "_law_read" (topS 48) .none (.str "law_sa0161_01" 1016) 645 := ⟨by kernel_rfl, ⟨1070, by decide +kernel⟩, by kernel_rfl, by kernel_rfl, by kernel_rfl⟩
theorem ok651 {w : World} : FnOk w 651 "law" "law" (topS 49) .none (.str "law_sa0161_01" 1016) 650 := ⟨by kernel_rfl, ⟨1081, by decide +kernel⟩, by kernel_rfl, by kernel_rfl, by kernel_rfl⟩
theorem gv_A_NIL (w : World) : GV w "A_NIL" (.int 0 241) := gvG (by kernel_rfl)
theorem gv_A_SYSTEM (w : World) : GV w "A_SYSTEM" (.int 25 243) := gvG (by kernel_rfl)
theorem gv_F_DOT (w : World) : GV w "F_DOT" (.int 0 245) := gvG (by kernel_rfl)
theorem gv_F_ERROR (w : World) : GV w "F_ERROR" (.int 16 247) := gvG (by kernel_rfl)
theorem gv_MAX_CODE (w : World) : GV w "MAX_CODE" (.int 1114111 433) := gvG (by kernel_rfl)
theorem gv_REF (w : World) : GV w "REF" (.int 0 437) := gvG (by kernel_rfl)
theorem gv_SRF (w : World) : GV w "SRF" (.int 1 439) := gvG (by kernel_rfl)
theorem gv_STR (w : World) : GV w "STR" (.int 2 441) := gvG (by kernel_rfl)
theorem gv_LIS (w : World) : GV w "LIS" (.int 3 443) := gvG (by kernel_rfl)
theorem gv_CON (w : World) : GV w "CON" (.int 4 445) := gvG (by kernel_rfl)
theorem gv_INT (w : World) : GV w "INT" (.int 5 447) := gvG (by kernel_rfl)
theorem gv_FUN (w : World) : GV w "FUN" (.int 6 449) := gvG (by kernel_rfl)
theorem gv_VISIT (w : World) : GV w "VISIT" (.int 0 453) := gvG (by kernel_rfl)
theorem gv_BUILD (w : World) : GV w "BUILD" (.int 1 455) := gvG (by kernel_rfl)
theorem gv_READ (w : World) : GV w "READ" (.str "read" 806) := gvG (by kernel_rfl)
section
variable {c : Cx} {E : ER} {m : Loc} {H : AH} {i j : Int} {Q : V → AH → Prop}
theorem Op2.int_eq (q : Q (.bool (i == j)) H) : Op2 c E (compareOp .Eq) (.int i) (.int j) m H Q := fun va vb s ra rb R => by apply ra.intE; intro _; apply rb.intE; intro _; exact PyProof.Rows.eq_int (R.here (tk := s.toks) q (.bool ..))
theorem Op2.int_ne (q : Q (.bool (i != j)) H) : Op2 c E (compareOp .NotEq) (.int i) (.int j) m H Q := fun va vb s ra rb R => by apply ra.intE; intro _; apply rb.intE; intro _; exact PyProof.Rows.ne_int (R.here (tk := s.toks) q (.bool ..))
end
section
variable {c : Cx} {E : ER} {m : Loc} {H : AH} {Q : Fl → Loc → AH → Prop} {P : AH → Prop} {x : Str} {body : List Stmt} {test : Expr}
theorem For.inv (I : Nat → Loc → AH → Prop) (ds : List V) (h0 : I 0 m H)
    (step : ∀ i d m' H', ds[i]? = some d → I i m' H' → P H' ∧ Exs c E body (m'.set x d) H' fun fl m₁ H₁ => match fl with
      | .next => I (i + 1) m₁ H₁
      | .cont => I (i + 1) m₁ H₁
      | .brk => Q .next m₁ H₁
      | .ret d => Q (.ret d) m₁ H₁)
    (fin : ∀ m' H', I ds.length m' H' → P H' ∧ Q .next m' H') : For c E P x body ds m H Q := by
  have go : ∀ (r : List V) (i : Nat) (m : Loc) (H : AH), i ≤ ds.length → ds.drop i = r → I i m H → For c E P x body r m H Q := by
    intro r
    induction r with
    | nil =>
      intro i m H hl hd hI
      have hi : ds.length ≤ i := List.drop_eq_nil_iff.mp hd
      have hl : i = ds.length := by (first | lia | omega)
      exact fin m H (hl ▸ hI)
    | cons d r ih =>
      intro i m H hl hd hI
      have hi : ds[i]? = some d := by rw [← List.head?_drop, hd]; rfl
      refine el0_2 (step i d m H hi hI) fun h1 h2 => ?_
      refine ⟨h1, h2.mono fun fl m' H' q => ?_⟩
      have hl' : i + 1 ≤ ds.length := (List.getElem?_eq_some_iff.mp hi).1
      have hd' : ds.drop (i + 1) = r := by rw [← List.drop_drop, hd]; rfl
      cases fl with
      | next => exact ih (i + 1) m' H' hl' hd' q
      | cont => exact ih (i + 1) m' H' hl' hd' q
      | brk => exact q
      | ret d => exact q
  exact go ds 0 m H (Nat.zero_le _) rfl h0
end
noncomputable def bodyOf : Stmt → List Stmt
  | .While _ b _ _ => b
  | .For _ _ b _ _ => b
  | _ => []
noncomputable def testOf : Stmt → Expr
  | .While t _ _ _ => t
  | _ => .Constant .none 0 ⟨0, 0, 0, 0⟩
theorem Ev.or2 {c : Cx} {E : ER} {m : Loc} {H : AH} {Q : V → AH → Prop} {x y : Expr} {pos : Pos} (h : Ev c E x m H fun a H₁ => ∃ t, a = .bool t ∧ if t = true then Q (.bool true) H₁ else Ev c E y m H₁ Q) : Ev c E (.BoolOp .Or [x, y] pos) m H Q := fun s R => by
  refine BoolOp_or (wpAny_mono (h s R) (fun va s₁ z1 => el2_5 z1 fun a H₁ z2 r₁ R₁ m₁ g₁ => el1_2 z2 fun t ea q => ?_) fun _ _ x => x)
  subst ea
  cases r₁
  refine wpAny_truthy_bool ?_
  cases t with
  | true => rw [if_pos rfl] at q ⊢; exact (mk2_5 _ H₁ q (.bool _) R₁ m₁ g₁)
  | false => rw [if_neg Bool.false_ne_true] at q ⊢; exact BoolOp_one (wpAny_mono (q s₁ R₁) (fun _ _ z => z.trans m₁ g₁) fun _ _ x => x)
local macro_rules | `(tactic| nest_cls) => `(tactic| exact kind_of (by assumption) (by kernel_rfl))
local macro_rules | `(tactic| one_item) => `(tactic| first | with_reducible exact Loc.self _ _ _ | (refine Loc.other (by decide +kernel) ?_; one_item) | assumption)
local macro_rules | `(tactic| one_place) => `(tactic| first | assumption | exact Ne.symm (by assumption) | exact ne_of_O (by assumption) (by assumption) nofun)
local macro_rules | `(tactic| got_up) => `(tactic| first | assumption | exact AH.set_self _ _ _ | (refine AH.other ?_ (by assumption); one_place))
local macro_rules | `(tactic| one_sign) => `(tactic| with_reducible (first | exact gv_A_NIL _ | exact gv_A_SYSTEM _ | exact gv_F_DOT _ | exact gv_F_ERROR _ | exact gv_MAX_CODE _ | exact gv_REF _ | exact gv_SRF _ | exact gv_STR _ | exact gv_LIS _ | exact gv_CON _ | exact gv_INT _ | exact gv_FUN _ | exact gv_VISIT _ | exact gv_BUILD _))
local macro_rules | `(tactic| isplit) => `(tactic| first
  | ((with_reducible show Ev _ _ (Expr.Name _ _) _ _ _); first | refine Ev.name (by assumption) (by one_item) (by nest_cls) ?_ | refine Ev.gint (by assumption) (by nest_cls) (by one_sign) ?_ | refine Ev.gstr (by assumption) (by nest_cls) (gv_READ _) ?_ | refine Ev.gty (by assumption) (by nest_cls) (gv_str _) ?_)
  | with_reducible (first | refine Ev.int ?_ | refine Ev.str ?_ | refine Ev.none ?_ | refine Ev.bool ?_ | refine Ev.unary ?_ | refine Ev.bin ?_ | refine Ev.tuple ?_ | refine Ev.list ?_ | refine Ev.ifExp ?_ | refine Ev.or2 ?_ | refine Evs.nil ?_ | refine Tr.not ?_ | refine Tr.boolOp ?_ | refine TrL.and ?_ | refine TrL.and_nil ?_ | refine TrL.or ?_ | refine TrL.or_nil ?_ | refine Exs.if_ ?_ | refine Exs.ret ?_ | refine Exs.nil ?_)
  | ((with_reducible show Ev _ _ (Expr.Attribute _ _ _) _ _ _); refine Ev.attr ?_; isplit; refine mk5_5 _ _ _ _ _ rfl (by got_up) (.of (by kernel_rfl) (by kernel_rfl) (by kernel_rfl)) (by rfl) ?_)
  | ((with_reducible show Ev _ _ (Expr.Compare _ _ _ _) _ _ _); refine Ev.cmp ?_)
  | ((with_reducible show Evs _ _ (_ :: _) _ _ _); refine Evs.cons ?_)
  | ((with_reducible show Tr _ _ (Expr.Compare _ _ _ _) _ _ _); refine Tr.cmp ?_)
  | ((with_reducible show Tr _ _ (Expr.Name _ _) _ _ _); refine Tr.ev ?_)
  | ((with_reducible show Op1 _ _ (unaryOp UnaryOp.USub) _ _ _ _); refine Op1.int_neg ?_)
  | ((with_reducible show Exs _ _ (Stmt.Assign [Expr.Name _ _] _ _ :: _) _ _ _); refine Exs.assign (by assumption) (by nest_cls) ?_)
  | ((with_reducible show Exs _ _ (Stmt.Assign [Expr.Subscript _ _ _] _ _ :: _) _ _ _); refine Exs.setItem ?_)
  | ((with_reducible show Exs _ _ (Stmt.Assign [Expr.Tuple [Expr.Name _ _, Expr.Name _ _] _ _] _ _ :: _) _ _ _); refine Exs.assign2 (by assumption) (by nest_cls) (by nest_cls) ?_)
  | ((with_reducible show Exs _ _ (Stmt.Assign [Expr.Attribute _ _ _] _ _ :: _) _ _ _); refine Exs.setAttr ?_)
  | ((with_reducible show Exs _ _ (Stmt.Expr _ _ :: _) _ _ _); refine Exs.expr (by assumption) ?_)
  | ((with_reducible show Then _ _ _ _ Fl.next _ _); show Exs _ _ _ _ _ _))
theorem f_atom {w : World} : FnOk w 88 "atom" "Symbols.atom" (methS 10 1) .none (.str "clausemill.symbols" 194) 87 := ⟨by kernel_rfl, ⟨283, by decide +kernel⟩, by kernel_rfl, by kernel_rfl, by kernel_rfl⟩
theorem f_text {w : World} : FnOk w 95 "text" "Symbols.text" (methS 10 2) .none (.str "clausemill.symbols" 194) 94 := ⟨by kernel_rfl, ⟨293, by decide +kernel⟩, by kernel_rfl, by kernel_rfl, by kernel_rfl⟩
theorem f_functor {w : World} : FnOk w 102 "functor" "Symbols.functor" (methS 10 3) .none (.str "clausemill.symbols" 194) 101 := ⟨by kernel_rfl, ⟨301, by decide +kernel⟩, by kernel_rfl, by kernel_rfl, by kernel_rfl⟩
theorem f_func {w : World} : FnOk w 109 "func" "Symbols.func" (methS 10 4) .none (.str "clausemill.symbols" 194) 108 := ⟨by kernel_rfl, ⟨313, by decide +kernel⟩, by kernel_rfl, by kernel_rfl, by kernel_rfl⟩

noncomputable def numd {K : Type} (ks : List K) : List (K × V) := ks.zipIdx.map fun p => (p.1, .int p.2)
noncomputable def ix {K : Type} [DecidableEq K] : List K → K → Nat
  | [], _ => 0
  | k :: ks, x => if k = x then 0 else ix ks x + 1
theorem dget_numd_go {K : Type} [DecidableEq K] (ks : List K) (x : K) (n : Nat) : dget ((ks.zipIdx n).map fun p => (p.1, V.int p.2)) x = if x ∈ ks then some (.int (ix ks x + n : Nat)) else none := by
  induction ks generalizing n with
  | nil => rfl
  | cons k ks ih =>
    have := ih (n + 1)
    simp only [dget] at this ⊢
    by_cases e : k = x
    · simp [List.zipIdx_cons, e, ix]
    · have e' : ¬ x = k := fun z => e z.symm
      simp only [List.zipIdx_cons, List.map_cons, List.find?_cons, e, decide_false, this, List.mem_cons, e', false_or, ix, if_false]
      split
      · congr 2; (first | lia | omega)
      · rfl
theorem dget_numd {K : Type} [DecidableEq K] (ks : List K) (x : K) : dget (numd ks) x = if x ∈ ks then some (.int (ix ks x : Nat)) else none := dget_numd_go ks x 0
theorem numd_snoc {K : Type} (ks : List K) (x : K) : numd (ks ++ [x]) = numd ks ++ [(x, .int ks.length)] := by simp [numd, List.zipIdx_append]
theorem numd_length {K : Type} (ks : List K) : (numd ks).length = ks.length := by simp [numd]
theorem dput_numd {K : Type} [DecidableEq K] {ks : List K} {x : K} (h : x ∉ ks) : dput (numd ks) x (.int ks.length) = numd (ks ++ [x]) := by
  unfold dput; rw [dget_numd, if_neg h, numd_snoc]; rfl
noncomputable def addK {K : Type} [DecidableEq K] (ks : List K) (x : K) : List K := if x ∈ ks then ks else ks ++ [x]
theorem addK_of {K : Type} [DecidableEq K] {ks : List K} {x : K} (h : x ∈ ks) : addK ks x = ks := if_pos h
theorem addK_new {K : Type} [DecidableEq K] {ks : List K} {x : K} (h : x ∉ ks) : addK ks x = ks ++ [x] := if_neg h
theorem idxOf_new {K : Type} [DecidableEq K] {ks : List K} {x : K} (h : x ∉ ks) : ix ks x = ks.length := by
  induction ks with
  | nil => rfl
  | cons k ks ih =>
    rw [List.mem_cons, not_or] at h
    rw [ix, if_neg (fun z => h.1 (Eq.symm z)), ih h.2, List.length_cons]
theorem ix_at {K : Type} [DecidableEq K] {ks : List K} {x : K} (h : x ∈ ks) : ks[ix ks x]? = some x := by
  induction ks with
  | nil => cases h
  | cons k ks ih =>
    rw [ix]
    by_cases e : k = x
    · rw [if_pos e, e]; rfl
    · rw [if_neg e]
      rcases List.mem_cons.mp h with q | q
      · exact absurd q.symm e
      · simpa using ih q
theorem addK_length {K : Type} [DecidableEq K] (ks : List K) (x : K) : (addK ks x).length ≤ ks.length + 1 := by
  unfold addK; split <;> simp
theorem addK_mem {K : Type} [DecidableEq K] (ks : List K) (x : K) : x ∈ addK ks x := by
  unfold addK; split <;> simp [*]
theorem addK_idx {K : Type} [DecidableEq K] (ks : List K) (x : K) : (addK ks x)[ix ks x]? = some x := by
  unfold addK
  split
  · rename_i h; exact ix_at h
  · rename_i h
    rw [idxOf_new h]; simp

structure BkA where
  sy : Addr
  d : Addr
  t : Addr
  n : Addr
  f : Addr
  g : Addr
noncomputable def BkA.all (k : BkA) : List Addr := [k.sy, k.d, k.t, k.n, k.f, k.g]
noncomputable def tupI (k : List Int) : V := .tup (k.map .int)
structure Bk (k : BkA) (H : AH) (ts : List Str) (fs : List (List Int)) : Prop where
  inst : H k.sy = some (.inst 154 k.d [("functor_numbers", .ref k.g), ("functors", .ref k.f), ("atom_numbers", .ref k.n), ("texts", .ref k.t)])
  d : H k.d = some (.aux k.sy)
  t : H k.t = some (.list (ts.map .str))
  n : H k.n = some (.dictS (numd ts))
  f : H k.f = some (.list (fs.map tupI))
  g : H k.g = some (.dictT (numd fs))
  tf : k.t ≠ k.f
theorem Bk.same {k : BkA} {H H' : AH} {ts : List Str} {fs : List (List Int)} (B : Bk k H ts fs) (h : ∀ a ∈ k.all, H' a = H a) : Bk k H' ts fs :=
  ⟨(h _ (by simp [BkA.all])).trans B.inst, (h _ (by simp [BkA.all])).trans B.d, (h _ (by simp [BkA.all])).trans B.t, (h _ (by simp [BkA.all])).trans B.n, (h _ (by simp [BkA.all])).trans B.f, (h _ (by simp [BkA.all])).trans B.g, B.tf⟩
theorem Bk.there {k : BkA} {H : AH} {ts : List Str} {fs : List (List Int)} (B : Bk k H ts fs) {a : Addr} (h : a ∈ k.all) : ∃ o, H a = some o := by
  simp only [BkA.all, List.mem_cons, List.mem_nil_iff, or_false] at h
  rcases h with rfl | rfl | rfl | rfl | rfl | rfl
  · exact ⟨_, B.inst⟩
  · exact ⟨_, B.d⟩
  · exact ⟨_, B.t⟩
  · exact ⟨_, B.n⟩
  · exact ⟨_, B.f⟩
  · exact ⟨_, B.g⟩
noncomputable def Off (l : List Addr) (H H' : AH) : Prop := ∀ a o, H a = some o → a ∉ l → H' a = some o
theorem Off.refl (l : List Addr) (H : AH) : Off l H H := fun _ _ e _ => e
theorem Off.trans {l : List Addr} {H H' H'' : AH} (x : Off l H H') (y : Off l H' H'') : Off l H H'' := fun a o e n => y a o (x a o e n) n
theorem Off.mono {l l' : List Addr} {H H' : AH} (x : Off l H H') (h : ∀ a ∈ l, a ∈ l') : Off l' H H' := fun a o e n => x a o e fun q => n (h a q)
theorem Off.set {l : List Addr} {H : AH} {a : Addr} {o : O} (h : a ∈ l) : Off l H (H.set a o) := fun b ob e n => AH.other (by rintro rfl; exact n h) e
theorem Off.new {l : List Addr} {H : AH} {a : Addr} {o : O} (h : H a = none) : Off l H (H.set a o) := fun b ob e _ => AH.other (by rintro rfl; rw [h] at e; cases e) e

section
variable {k : BkA} {H : AH} {ts : List Str} {fs : List (List Int)} {x : Str}
theorem Bk.ne_td (B : Bk k H ts fs) : k.sy ≠ k.t ∧ k.d ≠ k.t ∧ k.n ≠ k.t ∧ k.f ≠ k.t ∧ k.g ≠ k.t := ⟨ne_of_O B.inst B.t nofun, ne_of_O B.d B.t nofun, ne_of_O B.n B.t nofun, B.tf.symm, ne_of_O B.g B.t nofun⟩
theorem Bk.ne_nd (B : Bk k H ts fs) : k.sy ≠ k.n ∧ k.d ≠ k.n ∧ k.t ≠ k.n ∧ k.f ≠ k.n ∧ k.g ≠ k.n := ⟨ne_of_O B.inst B.n nofun, ne_of_O B.d B.n nofun, ne_of_O B.t B.n nofun, ne_of_O B.f B.n nofun, ne_of_O B.g B.n nofun⟩
theorem Bk.ne_fd (B : Bk k H ts fs) : k.sy ≠ k.f ∧ k.d ≠ k.f ∧ k.t ≠ k.f ∧ k.n ≠ k.f ∧ k.g ≠ k.f := ⟨ne_of_O B.inst B.f nofun, ne_of_O B.d B.f nofun, B.tf, ne_of_O B.n B.f nofun, ne_of_O B.g B.f nofun⟩
theorem Bk.ne_gd (B : Bk k H ts fs) : k.sy ≠ k.g ∧ k.d ≠ k.g ∧ k.t ≠ k.g ∧ k.n ≠ k.g ∧ k.f ≠ k.g := ⟨ne_of_O B.inst B.g nofun, ne_of_O B.d B.g nofun, ne_of_O B.t B.g nofun, ne_of_O B.n B.g nofun, ne_of_O B.f B.g nofun⟩
theorem Bk.putT (B : Bk k H ts fs) (o : List Str) (p : List (Str × V)) (e : p = numd o) : Bk k ((H.set k.t (.list (o.map .str))).set k.n (.dictS p)) o fs := by
  refine el0_5 B.ne_td fun a1 a2 a3 a4 a5 => ?_
  refine el0_5 B.ne_nd fun b1 b2 b3 b4 b5 => ?_
  subst e
  exact ⟨AH.other b1 (AH.other a1 B.inst), AH.other b2 (AH.other a2 B.d), AH.other b3 (AH.set_self ..), AH.set_self .., AH.other b4 (AH.other a4 B.f), AH.other b5 (AH.other a5 B.g), B.tf⟩
theorem Bk.putF (B : Bk k H ts fs) (o : List (List Int)) (p : List (List Int × V)) (e : p = numd o) : Bk k ((H.set k.f (.list (o.map tupI))).set k.g (.dictT p)) ts o := by
  refine el0_5 B.ne_fd fun a1 a2 a3 a4 a5 => ?_
  refine el0_5 B.ne_gd fun b1 b2 b3 b4 b5 => ?_
  subst e
  exact ⟨AH.other b1 (AH.other a1 B.inst), AH.other b2 (AH.other a2 B.d), AH.other b3 (AH.other a3 B.t), AH.other b4 (AH.other a4 B.n), AH.other b5 (AH.set_self ..), AH.set_self .., B.tf⟩

theorem atom_ok {w : World} (B : Bk k H ts fs) (hl : ts.length ≤ 1000) {Q : V → AH → Prop}
    (q : ∀ H', Bk k H' (addK ts x) fs → Off k.all H H' → Q (.int (ix ts x : Nat)) H') : Fn 1 w (.ref 88) [.ref k.sy, .str x] H Q := by
  have i1 := B.inst
  refine Fn.p2 "self" "text" f_atom (by intro a b; kernel_rfl) (by decide +kernel) (by decide +kernel) (by decide +kernel) ?_
  intro c hw hc hs hcl
  conv =>
    arg 3
    whnf
  conv at hs =>
    rhs
    whnf
  isplit
  refine Ev.get keyedS ?_
  isplit
  refine (mk1_3 _ rfl ⟨_, B.n⟩ ?_)
  isplit
  isplit
  isplit
  isplit
  refine (mk2_3 _ _ B.n rfl ?_)
  rw [dget_numd]
  isplit
  isplit
  isplit
  isplit
  by_cases hx : x ∈ ts
  · rw [if_pos hx]
    refine Op2.int_ge ⟨_, rfl, ?_⟩
    rw [if_pos (by simp)]
    isplit
    isplit
    exact q H (by rw [addK_of hx]; exact B) (.refl _ _)
  · rw [if_neg hx]
    refine Op2.int_ge ⟨_, rfl, ?_⟩
    rw [if_neg (by simp)]
    refine Exs.nil ?_
    show Exs _ _ _ _ _ _
    isplit
    refine Ev.lenL hc (by nest_cls) ?_
    isplit
    refine (mk2_4 _ _ rfl B.t (by simp; (first | lia | omega)) ?_)
    isplit
    refine Ev.append ?_
    isplit
    refine (mk2_3 _ _ rfl B.t ?_)
    isplit
    refine (mk1_5 _ B.t (by simp; (first | lia | omega)) nofun nofun ?_)
    have e1 : ts.map V.str ++ [.str x] = (ts ++ [x]).map .str := by simp
    rw [e1]
    have B1 : H.set k.t (.list ((ts ++ [x]).map .str)) k.sy = _ := AH.other B.ne_td.1 B.inst
    have B2 : H.set k.t (.list ((ts ++ [x]).map .str)) k.n = _ := AH.other B.ne_td.2.2.1 B.n
    isplit
    isplit
    isplit
    isplit
    refine Op3.set_dict keyedS B2 (by rw [numd_length]; (first | lia | omega)) ?_
    isplit
    isplit
    have e2 : ((ts.map V.str).length : Int) = (ts.length : Nat) := by simp
    rw [e2]
    have hi : ix ts x = ts.length := idxOf_new hx
    rw [← hi]
    refine q _ ?_ ((Off.set (by simp [BkA.all])).trans (.set (by simp [BkA.all])))
    rw [hi, addK_new hx]
    exact B.putT (ts ++ [x]) _ (dput_numd hx)
theorem functor_ok {w : World} (B : Bk k H ts fs) (hl : fs.length ≤ 1000) {a n : Int} {Q : V → AH → Prop}
    (q : ∀ H', Bk k H' ts (addK fs [a, n]) → Off k.all H H' → Q (.int (ix fs [a, n] : Nat)) H') : Fn 1 w (.ref 102) [.ref k.sy, .int a, .int n] H Q := by
  have i1 := B.inst
  refine Fn.p3 "self" "atom" "arity" f_functor (by intro a b c; kernel_rfl) (by decide +kernel) (by decide +kernel) (by decide +kernel) ?_
  intro c hw hc hs hcl
  conv =>
    arg 3
    whnf
  conv at hs =>
    rhs
    whnf
  isplit
  isplit
  isplit
  isplit
  isplit
  isplit
  isplit
  refine ⟨?_, by simp⟩
  isplit
  refine Ev.getT hc ?_
  isplit
  refine (mk1_3 _ rfl ⟨_, B.g⟩ ?_)
  isplit
  isplit
  isplit
  isplit
  refine (mk2_3 _ [a, n] B.g rfl ?_)
  rw [dget_numd]
  isplit
  isplit
  isplit
  isplit
  by_cases hx : [a, n] ∈ fs
  · rw [if_pos hx]
    refine Op2.int_ge ⟨_, rfl, ?_⟩
    rw [if_pos (by simp)]
    isplit
    isplit
    exact q H (by rw [addK_of hx]; exact B) (.refl _ _)
  · rw [if_neg hx]
    refine Op2.int_ge ⟨_, rfl, ?_⟩
    rw [if_neg (by simp)]
    refine Exs.nil ?_
    show Exs _ _ _ _ _ _
    isplit
    refine Ev.lenL hc (by nest_cls) ?_
    isplit
    refine (mk2_4 _ _ rfl B.f (by simp; (first | lia | omega)) ?_)
    isplit
    refine Ev.append ?_
    isplit
    refine (mk2_3 _ _ rfl B.f ?_)
    isplit
    refine (mk1_5 _ B.f (by simp; (first | lia | omega)) nofun nofun ?_)
    have e1 : fs.map tupI ++ [.tup [.int a, .int n]] = (fs ++ [[a, n]]).map tupI := by simp [tupI]
    rw [e1]
    have B1 : H.set k.f (.list ((fs ++ [[a, n]]).map tupI)) k.sy = _ := AH.other B.ne_fd.1 B.inst
    have B2 : H.set k.f (.list ((fs ++ [[a, n]]).map tupI)) k.g = _ := AH.other B.ne_fd.2.2.2.2 B.g
    isplit
    isplit
    isplit
    isplit
    refine Op3.set_dictT (k := [a, n]) hc B2 (by rw [numd_length]; (first | lia | omega)) ?_
    isplit
    isplit
    have e2 : ((fs.map tupI).length : Int) = (fs.length : Nat) := by simp
    rw [e2]
    have hi : ix fs [a, n] = fs.length := idxOf_new hx
    rw [← hi]
    refine q _ ?_ ((Off.set (by simp [BkA.all])).trans (.set (by simp [BkA.all])))
    rw [hi, addK_new hx]
    exact B.putF (fs ++ [[a, n]]) _ (dput_numd hx)
theorem func_ok {w : World} (B : Bk k H ts fs) (hl : ts.length ≤ 1000) (hf : fs.length ≤ 1000) {n : Int} {Q : V → AH → Prop}
    (q : ∀ H', Bk k H' (addK ts x) (addK fs [(ix ts x : Nat), n]) → Off k.all H H' → Q (.int (ix fs [((ix ts x : Nat) : Int), n] : Nat)) H') : Fn 2 w (.ref 109) [.ref k.sy, .str x, .int n] H Q := by
  have i1 := B.inst
  refine Fn.p3 "self" "text" "arity" f_func (by intro a b c; kernel_rfl) (by decide +kernel) (by decide +kernel) (by decide +kernel) ?_
  intro c hw hc hs hcl
  conv =>
    arg 3
    whnf
  conv at hs =>
    rhs
    whnf
  isplit
  refine Ev.im ?_
  isplit
  refine (mk5_5 _ _ _ _ 102 rfl B.inst (mk_meth (by kernel_rfl) (by kernel_rfl) (by kernel_rfl) (by kernel_rfl) (by kernel_rfl)) (by rfl) ?_)
  isplit
  refine Ev.im ?_
  isplit
  refine (mk5_5 _ _ _ _ 88 rfl B.inst (mk_meth (by kernel_rfl) (by kernel_rfl) (by kernel_rfl) (by kernel_rfl) (by kernel_rfl)) (by rfl) ?_)
  isplit
  isplit
  isplit
  refine (atom_ok B hl fun H' B' O' => ?_).at hc
  isplit
  isplit
  isplit
  exact (functor_ok B' hf fun H'' B'' O'' => q _ B'' (O'.trans O'')).at hc
theorem text_ok {w : World} (B : Bk k H ts fs) (hl : ts.length ≤ 1000) {n : Nat} (hn : ts[n]? = some x) {Q : V → AH → Prop} (q : Q (.str x) H) : Fn 1 w (.ref 95) [.ref k.sy, .int n] H Q := by
  have i1 := B.inst
  refine Fn.p2 "self" "number" f_text (by intro a b; kernel_rfl) (by decide +kernel) (by decide +kernel) (by decide +kernel) ?_
  intro c hw hc hs hcl
  conv =>
    arg 3
    whnf
  conv at hs =>
    rhs
    whnf
  isplit
  refine Ev.subL ?_
  isplit
  isplit
  refine (mk2_3 _ _ rfl B.t (Op2.item_list (d := .str x) (k := n) B.t rfl (by simp [hn]) (by simp; (first | lia | omega)) q))
end
noncomputable def cv (p : Int × Int) : V := .tup [.int p.1, .int p.2]
theorem cv_inj {p q : Int × Int} (h : cv p = cv q) : p = q := by
  obtain ⟨a, b⟩ := p; obtain ⟨d, e⟩ := q
  simp [cv] at h; rw [h.1, h.2]
theorem cv_ok (p : Int × Int) : vOk 1 (cv p) = true := rfl
theorem tag_ (p : Int × Int) : ([V.int p.1, V.int p.2])[0]? = some (.int p.1) := rfl
theorem val_ (p : Int × Int) : ([V.int p.1, V.int p.2])[1]? = some (.int p.2) := rfl

structure StA where
  st : Addr
  d : Addr
  hp : Addr
  sk : Addr
  tr : Addr
noncomputable def StA.all (k : StA) : List Addr := [k.st, k.d, k.hp]
structure St (k : StA) (sy : Addr) (H : AH) (cs : List (Int × Int)) : Prop where
  inst : H k.st = some (.inst 402 k.d [("bb", .int 0), ("hb", .int 0), ("trail", .ref k.tr), ("stack", .ref k.sk), ("heap", .ref k.hp), ("max_heap", .int 2000), ("symbols", .ref sy)])
  d : H k.d = some (.aux k.st)
  hp : H k.hp = some (.list (cs.map cv))
theorem St.same {k : StA} {sy : Addr} {H H' : AH} {cs : List (Int × Int)} (S : St k sy H cs) (h : Off [] H H') : St k sy H' cs := ⟨h _ _ S.inst (by simp), h _ _ S.d (by simp), h _ _ S.hp (by simp)⟩
theorem St.off {k : StA} {sy : Addr} {H H' : AH} {cs : List (Int × Int)} {l : List Addr} (S : St k sy H cs) (h : Off l H H') (hl : ∀ a ∈ k.all, a ∉ l) : St k sy H' cs :=
  ⟨h _ _ S.inst (hl _ (by simp [StA.all])), h _ _ S.d (hl _ (by simp [StA.all])), h _ _ S.hp (hl _ (by simp [StA.all]))⟩
theorem St.put {k : StA} {sy : Addr} {H : AH} {cs : List (Int × Int)} (S : St k sy H cs) (ds : List (Int × Int)) : St k sy (H.set k.hp (.list (ds.map cv))) ds :=
  ⟨AH.other (ne_of_O S.inst S.hp nofun) S.inst, AH.other (ne_of_O S.d S.hp nofun) S.d, AH.set_self ..⟩

theorem St.setP {k : StA} {sy : Addr} {H : AH} {cs : List (Int × Int)} (S : St k sy H cs) {a : Addr} {o o' : O} (ha : H a = some o) (hp : o.plain = true) (hne : a ≠ k.hp) : St k sy (H.set a o') cs :=
  ⟨AH.other (ne_of_O S.inst ha (by rintro rfl; cases hp)) S.inst, AH.other (ne_of_O S.d ha (by rintro rfl; cases hp)) S.d, AH.other (Ne.symm hne) S.hp⟩
theorem St.setN {k : StA} {sy : Addr} {H : AH} {cs : List (Int × Int)} (S : St k sy H cs) {a : Addr} {o' : O} (ha : H a = none) : St k sy (H.set a o') cs :=
  ⟨AH.other (by rintro rfl; rw [S.inst] at ha; cases ha) S.inst, AH.other (by rintro rfl; rw [S.d] at ha; cases ha) S.d, AH.other (by rintro rfl; rw [S.hp] at ha; cases ha) S.hp⟩
noncomputable def Good (cs : List (Int × Int)) (c : Int × Int) : Prop := c.1 ≠ 1 ∧ (c.1 = 0 → ∃ n : Nat, c.2 = n ∧ cs[n]? = some c)
section
variable {k : StA} {sy : Addr} {H : AH} {cs : List (Int × Int)}
theorem St.len {k : StA} {sy : Addr} {H : AH} {cs : List (Int × Int)} (_S : St k sy H cs) : (cs.map cv).length = cs.length := by simp
theorem St.at {k : StA} {sy : Addr} {H : AH} {cs : List (Int × Int)} (_S : St k sy H cs) {n : Nat} {p : Int × Int} (h : cs[n]? = some p) : (cs.map cv)[n]? = some (cv p) := by simp [h]
theorem deref_ok {w : World} (S : St k sy H cs) (hl : cs.length ≤ 2000) {p : Int × Int} (g : Good cs p) {Q : V → AH → Prop} (q : Q (cv p) H) : Fn 1 w (.ref 251) [.ref k.st, cv p] H Q := by
  have i1 := S.inst
  refine Fn.p2 "self" "cell" ok251 (by intro a b; kernel_rfl) (by decide +kernel) (by decide +kernel) (by decide +kernel) ?_
  intro c hw hc hs hcl
  conv =>
    arg 3
    whnf
  conv at hs =>
    rhs
    whnf
  subst hw
  refine Exs.while_ 1 .never ?_
  refine Tr.ev ?_
  refine Ev.bool ⟨true, rfl, ?_⟩
  rw [if_pos rfl]
  isplit
  refine Ev.subT ?_
  isplit
  isplit
  refine (mk1_2 _ rfl (Op2.item_tup (k := 0) rfl (tag_ p) (by simp) ?_))
  isplit
  isplit
  isplit
  isplit
  refine Op2.int_eq ⟨_, rfl, ?_⟩
  by_cases h0 : p.1 = 0
  · rw [if_pos (by simp [h0])]
    isplit
    refine Ev.subL ?_
    isplit
    refine Ev.subT ?_
    isplit
    isplit
    refine (mk1_2 _ rfl (Op2.item_tup (k := 1) rfl (val_ p) (by simp) ?_))
    refine el1_2 (g.2 h0) fun n hn hc' => ?_
    refine (mk2_3 _ _ rfl S.hp (Op2.item_list (k := n) S.hp hn (S.at hc') (by simp; (first | lia | omega)) ?_))
    isplit
    isplit
    isplit
    isplit
    isplit
    isplit
    refine Op2.eq hc (cv_ok p) (cv_ok p) (by (first | lia | omega)) (by (first | lia | omega)) fun t ht => (mk1_2 _ rfl ?_)
    rw [if_pos (ht.mpr rfl)]
    isplit
    isplit
    exact q
  · rw [if_neg (by simpa using h0)]
    isplit
    isplit
    isplit
    isplit
    refine Op2.int_eq ⟨_, rfl, ?_⟩
    rw [if_neg (by simpa using g.1)]
    isplit
    isplit
    exact q
end
section
variable {k : StA} {sy : Addr} {H : AH} {cs : List (Int × Int)}
theorem globalise_ok {w : World} (S : St k sy H cs) (hl : cs.length ≤ 2000) {p : Int × Int} (g : Good cs p) {Q : V → AH → Prop} (q : Q (cv p) H) : Fn 2 w (.ref 279) [.ref k.st, cv p] H Q := by
  have i1 := S.inst
  refine Fn.p2 "self" "cell" ok279 (by intro a b; kernel_rfl) (by decide +kernel) (by decide +kernel) (by decide +kernel) ?_
  intro c hw hc hs hcl
  conv =>
    arg 3
    whnf
  conv at hs =>
    rhs
    whnf
  subst hw
  isplit
  refine Ev.im ?_
  isplit
  refine (mk5_5 _ _ _ _ 251 rfl S.inst (mk_meth (by kernel_rfl) (by kernel_rfl) (by kernel_rfl) (by kernel_rfl) (by kernel_rfl)) (by rfl) ?_)
  isplit
  isplit
  isplit
  refine (deref_ok S hl g ?_).at hc
  isplit
  isplit
  refine Ev.subT ?_
  isplit
  isplit
  refine (mk1_2 _ rfl (Op2.item_tup (k := 0) rfl (tag_ p) (by simp) ?_))
  isplit
  refine Op2.int_eq ⟨_, rfl, ?_⟩
  rw [if_neg (by simpa using g.1)]
  isplit
  isplit
  isplit
  isplit
  exact q
theorem is_compound_ok {w : World} {s : V} {p : Int × Int} {Q : V → AH → Prop} (q : Q (.bool (p.1 == 2 || p.1 == 3)) H) : Fn 1 w (.ref 307) [s, cv p] H Q := by
  refine Fn.p2 "self" "cell" ok307 (by intro a b; kernel_rfl) (by decide +kernel) (by decide +kernel) (by decide +kernel) ?_
  intro c hw hc hs hcl
  conv =>
    arg 3
    whnf
  conv at hs =>
    rhs
    whnf
  subst hw
  isplit
  isplit
  isplit
  refine Ev.subT ?_
  isplit
  isplit
  refine (mk1_2 _ rfl (Op2.item_tup (k := 0) rfl (tag_ p) (by simp) ?_))
  isplit
  refine Op2.int_eq ⟨_, rfl, ?_⟩
  by_cases h : p.1 = 2
  · rw [if_pos (by simp [h])]
    have e : (p.1 == 2 || p.1 == 3) = true := by simp [h]
    rw [e] at q; exact q
  · rw [if_neg (by simpa using h)]
    isplit
    refine Ev.subT ?_
    isplit
    isplit
    refine (mk1_2 _ rfl (Op2.item_tup (k := 0) rfl (tag_ p) (by simp) ?_))
    isplit
    refine Op2.int_eq ?_
    have e : (p.1 == 2 || p.1 == 3) = (p.1 == 3) := by simp [h]
    rw [e] at q; exact q
theorem functor_of_ok {w : World} {s : V} {a : Int} {Q : V → AH → Prop} (q : Q (.int 0) H) : Fn 1 w (.ref 314) [s, cv (3, a)] H Q := by
  refine Fn.p2 "self" "cell" ok314 (by intro a b; kernel_rfl) (by decide +kernel) (by decide +kernel) (by decide +kernel) ?_
  intro c hw hc hs hcl
  conv =>
    arg 3
    whnf
  conv at hs =>
    rhs
    whnf
  subst hw
  isplit
  refine Ev.subT ?_
  isplit
  isplit
  refine (mk1_2 _ rfl (Op2.item_tup (k := 0) rfl (tag_ (3, a)) (by simp) ?_))
  isplit
  isplit
  isplit
  isplit
  refine Op2.int_eq ⟨_, rfl, ?_⟩
  rw [if_neg (by simp)]
  isplit
  isplit
  isplit
  isplit
  isplit
  isplit
  refine Op2.int_eq ⟨_, rfl, ?_⟩
  rw [if_pos (by simp)]
  isplit
  isplit
  exact q
theorem width_ok {w : World} {s : V} {a : Int} {Q : V → AH → Prop} (q : Q (.int 2) H) : Fn 1 w (.ref 321) [s, cv (3, a)] H Q := by
  refine Fn.p2 "self" "cell" ok321 (by intro a b; kernel_rfl) (by decide +kernel) (by decide +kernel) (by decide +kernel) ?_
  intro c hw hc hs hcl
  conv =>
    arg 3
    whnf
  conv at hs =>
    rhs
    whnf
  subst hw
  isplit
  refine Ev.subT ?_
  isplit
  isplit
  refine (mk1_2 _ rfl (Op2.item_tup (k := 0) rfl (tag_ (3, a)) (by simp) ?_))
  isplit
  isplit
  isplit
  isplit
  refine Op2.int_eq ⟨_, rfl, ?_⟩
  rw [if_pos (by simp)]
  isplit
  isplit
  exact q
theorem base_ok {w : World} {s : V} {a : Int} {Q : V → AH → Prop} (q : Q (.int a) H) : Fn 1 w (.ref 328) [s, cv (3, a)] H Q := by
  refine Fn.p2 "self" "cell" ok328 (by intro a b; kernel_rfl) (by decide +kernel) (by decide +kernel) (by decide +kernel) ?_
  intro c hw hc hs hcl
  conv =>
    arg 3
    whnf
  conv at hs =>
    rhs
    whnf
  subst hw
  isplit
  isplit
  refine Ev.subT ?_
  isplit
  isplit
  refine (mk1_2 _ rfl (Op2.item_tup (k := 0) rfl (tag_ (3, a)) (by simp) ?_))
  isplit
  refine Op2.int_eq ⟨_, rfl, ?_⟩
  rw [if_pos (by simp)]
  isplit
  refine Ev.subT ?_
  isplit
  isplit
  exact (mk1_2 _ rfl (Op2.item_tup (k := 1) rfl (val_ (3, a)) (by simp) q))
theorem push_ok {w : World} (S : St k sy H cs) (hl : cs.length < 2000) {p : Int × Int} {Q : V → AH → Prop} (q : Q (.int (cs.length : Nat)) (H.set k.hp (.list ((cs ++ [p]).map cv)))) : Fn 1 w (.ref 223) [.ref k.st, cv p] H Q := by
  have i1 := S.inst
  refine Fn.p2 "self" "cell" ok223 (by intro a b; kernel_rfl) (by decide +kernel) (by decide +kernel) (by decide +kernel) ?_
  intro c hw hc hs hcl
  conv =>
    arg 3
    whnf
  conv at hs =>
    rhs
    whnf
  subst hw
  isplit
  refine Ev.lenL hc (by nest_cls) ?_
  isplit
  refine (mk2_4 _ _ rfl S.hp (by simp; (first | lia | omega)) ?_)
  isplit
  isplit
  isplit
  isplit
  refine Op2.int_ge ⟨_, rfl, ?_⟩
  rw [if_neg (by simp; (first | lia | omega))]
  isplit
  isplit
  isplit
  refine Ev.append ?_
  isplit
  refine (mk2_3 _ _ rfl S.hp ?_)
  isplit
  refine (mk1_5 _ S.hp (by simp; (first | lia | omega)) nofun nofun ?_)
  isplit
  isplit
  rw [show ((cs.map cv).length : Int) = (cs.length : Nat) by simp, show cs.map cv ++ [cv p] = (cs ++ [p]).map cv by simp]
  exact q
theorem new_var_ok {w : World} (S : St k sy H cs) (hl : cs.length < 2000) {Q : V → AH → Prop} (q : Q (cv (0, (cs.length : Nat))) (H.set k.hp (.list ((cs ++ [(0, ((cs.length : Nat) : Int))]).map cv)))) : Fn 2 w (.ref 230) [.ref k.st] H Q := by
  have i1 := S.inst
  refine Fn.p1 "self" ok230 (by intro a; kernel_rfl) (by decide +kernel) (by decide +kernel) ?_
  intro c hw hc hs hcl
  conv =>
    arg 3
    whnf
  conv at hs =>
    rhs
    whnf
  subst hw
  isplit
  isplit
  isplit
  isplit
  isplit
  refine Ev.lenL hc (by nest_cls) ?_
  isplit
  refine (mk2_4 _ _ rfl S.hp (by simp; (first | lia | omega)) ?_)
  isplit
  refine ⟨?_, by simp⟩
  rw [show ((cs.map cv).length : Int) = (cs.length : Nat) by simp]
  isplit
  refine Ev.im ?_
  isplit
  refine (mk5_5 _ _ _ _ 223 rfl S.inst (mk_meth (by kernel_rfl) (by kernel_rfl) (by kernel_rfl) (by kernel_rfl) (by kernel_rfl)) (by rfl) ?_)
  isplit
  isplit
  isplit
  refine (push_ok (p := (0, ((cs.length : Nat) : Int))) S hl ?_).at hc
  refine ⟨nofun, nofun, ?_⟩
  isplit
  isplit
  exact q
theorem reserve_ok {w : World} (S : St k sy H cs) {n : Nat} (hl : cs.length + n ≤ 2000) {Q : V → AH → Prop} (q : ∀ H', (∀ a, a ≠ k.hp → H' a = H a) → St k sy H' (cs ++ (List.range n).map fun i => (0, ((cs.length + i : Nat) : Int))) → Q (.int (cs.length : Nat)) H') : Fn 1 w (.ref 237) [.ref k.st, .int n] H Q := by
  have i1 := S.inst
  refine Fn.p2 "self" "count" ok237 (by intro a b; kernel_rfl) (by decide +kernel) (by decide +kernel) (by decide +kernel) ?_
  intro c hw hc hs hcl
  conv =>
    arg 3
    whnf
  conv at hs =>
    rhs
    whnf
  subst hw
  isplit
  refine Ev.lenL hc (by nest_cls) ?_
  isplit
  refine (mk2_4 _ _ rfl S.hp (by simp; (first | lia | omega)) ?_)
  rw [show ((cs.map cv).length : Int) = (cs.length : Nat) by simp]
  isplit
  isplit
  isplit
  isplit
  isplit
  refine Op2.int_add ?_
  isplit
  refine Op2.int_gt ⟨_, rfl, ?_⟩
  rw [if_neg (by simp; (first | lia | omega))]
  isplit
  isplit
  refine Exs.cons (Ex.forR hc .never (by nest_cls) (by nest_cls) ?_)
  isplit
  refine (mk1_3 n rfl (by (first | lia | omega)) ?_)
  refine For.inv (fun i m H₁ => m "self" = some (.ref k.st) ∧ m "first" = some (.int (cs.length : Nat)) ∧ (∀ a, a ≠ k.hp → H₁ a = H a) ∧ St k sy H₁ (cs ++ (List.range i).map fun i => (0, ((cs.length + i : Nat) : Int)))) _ ⟨by one_item, by one_item, fun _ _ => rfl, by simpa using S⟩ ?_ ?_
  · rintro i d m H₁ hd ⟨h1, h2, h3, h4⟩
    have hi : i < n := by have := (List.getElem?_eq_some_iff.mp hd).1; simpa [ranged] using this
    simp only [ranged, List.getElem?_map, List.getElem?_range hi, Option.map_some, Option.some.injEq] at hd
    subst hd
    have i1 := h4.inst
    refine ⟨trivial, ?_⟩
    isplit
    refine Ev.append ?_
    isplit
    refine (mk2_3 _ _ rfl h4.hp ?_)
    isplit
    isplit
    isplit
    isplit
    isplit
    isplit
    isplit
    refine Op2.int_add ?_
    isplit
    refine ⟨?_, by simp⟩
    refine (mk1_5 _ h4.hp (by simp; (first | lia | omega)) nofun nofun ?_)
    isplit
    have e : List.map cv (cs ++ (List.range i).map fun i => (0, ((cs.length + i : Nat) : Int))) ++ [V.tup [V.int 0, V.int (((cs.length : Nat) : Int) + (0 + (i : Nat) * 1))]] = (cs ++ (List.range (i + 1)).map fun i => (0, ((cs.length + i : Nat) : Int))).map cv := by
      rw [List.range_succ]; simp [cv]
    rw [e]
    exact (mk0_4 (Loc.other (by decide +kernel) h1) (Loc.other (by decide +kernel) h2) (fun a ha => (AH.set_other _ _ ha).trans (h3 a ha)) (h4.put _))
  · rintro m H₁ ⟨h1, h2, h3, h4⟩
    refine ⟨trivial, ?_⟩
    isplit
    isplit
    isplit
    rw [show (ranged 0 1 n).length = n by simp [ranged]] at h4
    exact q H₁ h3 h4
theorem new_block_ok {w : World} (S : St k sy H cs) (hl : cs.length + 2 ≤ 2000) {Q : V → AH → Prop} (q : ∀ H', (∀ a, a ≠ k.hp → H' a = H a) → St k sy H' (cs ++ [(0, ((cs.length : Nat) : Int)), (0, ((cs.length + 1 : Nat) : Int))]) → Q (cv (3, (cs.length : Nat))) H') : Fn 2 w (.ref 342) [.ref k.st, .int 0] H Q := by
  have i1 := S.inst
  refine Fn.p2 "self" "f" ok342 (by intro a b; kernel_rfl) (by decide +kernel) (by decide +kernel) (by decide +kernel) ?_
  intro c hw hc hs hcl
  conv =>
    arg 3
    whnf
  conv at hs =>
    rhs
    whnf
  subst hw
  isplit
  isplit
  isplit
  isplit
  refine Op2.int_eq ⟨_, rfl, ?_⟩
  rw [if_pos (by simp)]
  isplit
  isplit
  isplit
  isplit
  isplit
  refine Ev.im ?_
  isplit
  refine (mk5_5 _ _ _ _ 237 rfl S.inst (mk_meth (by kernel_rfl) (by kernel_rfl) (by kernel_rfl) (by kernel_rfl) (by kernel_rfl)) (by rfl) ?_)
  isplit
  isplit
  isplit
  refine (reserve_ok (n := 2) S hl fun H' h3 S' => ?_).at hc
  isplit
  exact ⟨q H' h3 S', by simp⟩
end
noncomputable def selfs (a n : Nat) : List (Int × Int) := (List.range n).map fun i => (0, ((a + i : Nat) : Int))
theorem selfs_two (a n : Nat) : selfs a (n + 2) = (0, (a : Int)) :: (0, ((a + 1 : Nat) : Int)) :: selfs (a + 2) n := by
  unfold selfs
  rw [List.range_succ_eq_map, List.map_cons, List.range_succ_eq_map, List.map_cons, List.map_cons, List.map_map, List.map_map]
  refine congr (congrArg _ rfl) (congr (congrArg _ rfl) ?_)
  refine List.map_congr_left fun i _ => ?_
  simp; (first | lia | omega)
noncomputable def blk (a : Nat) : List (Int × Int) → List (Int × Int)
  | [] => []
  | p :: r => p :: (3, ((a + 2 : Nat) : Int)) :: blk (a + 2) r
theorem blk_length (a : Nat) (ps : List (Int × Int)) : (blk a ps).length = 2 * ps.length := by
  induction ps generalizing a with
  | nil => rfl
  | cons p r ih => simp [blk, ih]; (first | lia | omega)
theorem blk_snoc (a : Nat) (ps : List (Int × Int)) (p : Int × Int) : blk a (ps ++ [p]) = blk a ps ++ [p, (3, ((a + 2 * ps.length + 2 : Nat) : Int))] := by
  induction ps generalizing a with
  | nil => simp [blk]
  | cons q r ih =>
    rw [List.cons_append, blk, ih, blk, List.cons_append, List.cons_append, List.length_cons, show a + 2 + 2 * r.length + 2 = a + 2 * (r.length + 1) + 2 by (first | lia | omega)]
noncomputable def spine (a : Nat) (e : Int × Int) : List (Int × Int) → List (Int × Int)
  | [] => []
  | [p] => [p, e]
  | p :: q :: r => p :: (3, ((a + 2 : Nat) : Int)) :: spine (a + 2) e (q :: r)
theorem blk_spine (a : Nat) (e : Int × Int) (ps : List (Int × Int)) (h : ps ≠ []) : (blk a ps).set (2 * ps.length - 1) e = spine a e ps := by
  induction ps generalizing a with
  | nil => exact absurd rfl h
  | cons p r ih =>
    cases r with
    | nil => rfl
    | cons q r =>
      have := ih (a + 2) (by simp)
      rw [spine, blk, ← this]
      have e1 : 2 * (p :: q :: r).length - 1 = (2 * (q :: r).length - 1) + 2 := by simp; (first | lia | omega)
      rw [e1]; rfl
theorem set_at {α : Type} (l : List α) (x y : α) (r : List α) : (l ++ x :: r).set l.length y = l ++ y :: r := by simp
theorem map_set' {α β : Type} (f : α → β) (l : List α) (n : Nat) (x : α) : (l.map f).set n (f x) = (l.set n x).map f := by simp [List.map_set]

theorem Fn.mkN {lv : Nat} {w : World} {f : Addr} {name qual : Str} {st : Stmt} {dV md : Value} {cd : Addr} {as : List V} {ds : List (Str × V)} {H : AH} {Q : V → AH → Prop} (ns : List Str) (F : FnOk w f name qual st dV md cd)
    (hb : ∀ s vs, (KT w.params).In s.heap → VRs s.heap vs as → ∃ bs, BindsTo s (fnData name qual st dV md (.ref cd)) ⟨vs, []⟩ bs ∧ BndR s.heap bs ds) (hns : ds.map (·.1) = ns)
    (hloc : ∀ y ∈ ns, (fnScope st).names.lookup y = some .local) (hcell : ∀ x ∈ (fnScope st).names, x.2 ≠ .cell) (hnd : ns.Nodup)
    (body : ∀ c, c.w = w → CxOk lv c → c.env.scope = fnScope st → c.env.cells = [] → Exs c (fun _ _ => False) (fnBody st) (locOf ds) H (RetQ Q)) : Fn (lv + 1) w (.ref f) as H Q := by
  subst hns
  exact Fn.mk F hb hloc hcell hnd body
section
variable {k : StA} {sy : Addr} {H : AH} {cs : List (Int × Int)}
theorem build_list_ok {w : World} (S : St k sy H cs) {ps : List (Int × Int)} (hl : cs.length + 2 * ps.length ≤ 2000) {ca : Addr} (hca : H ca = some (.list (ps.map cv))) (hne : ca ≠ k.hp) (g : ∀ p ∈ ps, Good cs p) {Q : V → AH → Prop}
    (q0 : ps = [] → ∀ H', Off [] H H' → Q (cv (4, 0)) H') (q1 : ps ≠ [] → ∀ H', Off [k.hp] H H' → St k sy H' (cs ++ spine cs.length (4, 0) ps) → Q (cv (3, (cs.length : Nat))) H') : Fn 3 w (.ref 371) [.ref k.st, .ref ca] H Q := by
  refine Fn.mkN (ds := [("self", .ref k.st), ("cells", .ref ca), ("tail", .none)]) ["self", "cells", "tail"] ok371 (fun s vs X r => ?_) rfl (by decide +kernel) (by decide +kernel) (by decide +kernel) ?_
  · apply r.of2; intro v1 v2 a b
    exact (mk1_2 [("self", v1), ("cells", v2), ("tail", .none)] (BindsTo.of_defaults (items := #[.none]) (n := 0) rfl (X 364 (tupO [.none] 0) (by kernel_rfl)) rfl rfl (by kernel_rfl))  ⟨rfl, .cons a (.cons b (.cons .none .nil))⟩)
  intro c hw hc hs hcl
  conv =>
    arg 3
    whnf
  conv at hs =>
    rhs
    whnf
  subst hw
  show Exs _ _ _ (((Loc.nil.set "tail" .none).set "cells" (.ref ca)).set "self" (.ref k.st)) _ _
  have i1 := S.inst
  isplit
  isplit
  isplit
  isplit
  refine Op2.is_none ⟨_, rfl, ?_⟩
  rw [if_pos rfl]
  isplit
  isplit
  isplit
  isplit
  isplit
  isplit
  isplit
  refine ⟨?_, by simp⟩
  repeat isplit
  refine ⟨fun va hva => ?_, by simp⟩
  have hvc : va ≠ ca := fun z => by first | exact clash hva hca z | exact clash hca hva z.symm
  have hvh : va ≠ k.hp := fun z => by first | exact clash hva S.hp z | exact clash S.hp hva z.symm
  refine Exs.cons (Ex.forL hc .never (by nest_cls) ?_)
  isplit
  refine (mk2_3 ca _ rfl (AH.other (Ne.symm hvc) hca) ?_)
  refine For.inv (fun i m H₁ => m "self" = some (.ref k.st) ∧ m "values" = some (.ref va) ∧ m "end" = some (cv (4, 0)) ∧ H₁ va = some (.list ((ps.take i).map cv)) ∧ ∀ a, a ≠ va → H₁ a = H a) _ ⟨by one_item, by one_item, by one_item, by simpa using AH.set_self _ _ _, fun a ha => AH.set_other _ _ ha⟩ ?_ ?_
  · rintro i d m H₁ hd ⟨h1, h2, h3, h4, h5⟩
    simp only [List.getElem?_map, Option.map_eq_some_iff] at hd
    refine el1_2 hd fun p hp z1 => ?_; try clear hd; subst z1
    have hi := (List.getElem?_eq_some_iff.mp hp).1
    have S₁ : St k sy H₁ cs := ⟨(h5 _ (fun z => by rw [← z, S.inst] at hva; cases hva)).trans S.inst, (h5 _ (fun z => by rw [← z, S.d] at hva; cases hva)).trans S.d, (h5 _ hvh.symm).trans S.hp⟩
    have i2 := S₁.inst
    refine ⟨(h5 ca hvc.symm).trans hca, ?_⟩
    isplit
    refine Ev.append ?_
    isplit
    refine (mk2_3 _ _ rfl h4 ?_)
    refine Ev.im ?_
    isplit
    refine (mk5_5 _ _ _ _ 279 rfl S₁.inst (mk_meth (by kernel_rfl) (by kernel_rfl) (by kernel_rfl) (by kernel_rfl) (by kernel_rfl)) (by rfl) ?_)
    isplit
    isplit
    isplit
    refine (globalise_ok S₁ (by (first | lia | omega)) (g p (List.mem_of_getElem? hp)) ?_).at hc
    refine (mk1_5 _ h4 (by simp; (first | lia | omega)) nofun nofun ?_)
    isplit
    refine (mk0_5 (Loc.other (by decide +kernel) h1) (Loc.other (by decide +kernel) h2) (Loc.other (by decide +kernel) h3) ?_ (fun a ha => (AH.set_other _ _ ha).trans (h5 a ha)))
    rw [AH.set_self, List.take_add_one, hp]; simp
  · rintro m H₁ ⟨h1, h2, h3, h4, h5⟩
    rw [List.length_map, List.take_length] at h4
    have S₁ : St k sy H₁ cs := ⟨(h5 _ (fun z => by rw [← z, S.inst] at hva; cases hva)).trans S.inst, (h5 _ (fun z => by rw [← z, S.d] at hva; cases hva)).trans S.d, (h5 _ hvh.symm).trans S.hp⟩
    have i2 := S₁.inst
    have off₁ : Off [] H H₁ := fun a o e _ => (h5 a (fun z => by rw [z] at e; rw [e] at hva; cases hva)).trans e
    refine ⟨(h5 ca hvc.symm).trans hca, ?_⟩
    isplit
    isplit
    isplit
    refine Ev.lenL hc (by nest_cls) ?_
    isplit
    refine (mk2_4 va _ rfl h4 (by simp; (first | lia | omega)) ?_)
    isplit
    refine Op2.int_eq ⟨_, rfl, ?_⟩
    by_cases hn : ps = []
    · subst hn
      rw [if_pos (by simp)]
      isplit
      isplit
      exact q0 rfl H₁ off₁
    · have hn' : 0 < ps.length := List.length_pos_iff.mpr hn
      rw [if_neg (by simp; (first | lia | omega))]
      isplit
      isplit
      isplit
      refine Ev.im ?_
      isplit
      refine (mk5_5 _ _ _ _ 237 rfl S₁.inst (mk_meth (by kernel_rfl) (by kernel_rfl) (by kernel_rfl) (by kernel_rfl) (by kernel_rfl)) (by rfl) ?_)
      isplit
      isplit
      isplit
      refine Ev.lenL hc (by nest_cls) ?_
      isplit
      refine (mk2_4 va _ rfl h4 (by simp; (first | lia | omega)) ?_)
      refine Op2.int_mul (.of_left (by decide)) ?_
      isplit
      rw [show (2 * ((ps.map cv).length : Int)) = ((2 * ps.length : Nat) : Int) by simp]
      refine (reserve_ok (n := 2 * ps.length) S₁ hl fun H₂ h6 S₂ => ?_).at hc
      isplit
      isplit
      have S₂' : St k sy H₂ (cs ++ blk cs.length (ps.take 0) ++ selfs (cs.length + 2 * 0) (2 * (ps.length - 0))) := by simpa [blk, selfs] using S₂
      refine Exs.cons (Ex.forL hc .never (by nest_cls) ?_)
      isplit
      have h4₂ : H₂ va = some (.list (ps.map cv)) := (h6 va hvh).trans h4
      refine (mk2_3 va _ rfl h4₂ ?_)
      refine For.inv (fun i m H₃ => m "self" = some (.ref k.st) ∧ m "end" = some (cv (4, 0)) ∧ m "start" = some (.int (cs.length : Nat)) ∧ m "place" = some (.int ((cs.length + 2 * i : Nat) : Int)) ∧ (∀ a, a ≠ k.hp → H₃ a = H₂ a) ∧
        St k sy H₃ (cs ++ blk cs.length (ps.take i) ++ selfs (cs.length + 2 * i) (2 * (ps.length - i)))) _ ⟨by one_item, by one_item, by one_item, by one_item, fun _ _ => rfl, S₂'⟩ ?_ ?_
      · rintro i d m' H₃ hd ⟨k1, k2, k3, k4, k5, S₃⟩
        simp only [List.getElem?_map, Option.map_eq_some_iff] at hd
        refine el1_2 hd fun p hp z2 => ?_; try clear hd; subst z2
        have hi := (List.getElem?_eq_some_iff.mp hp).1
        have lt : (ps.take i).length = i := by rw [List.length_take]; (first | lia | omega)
        have es : selfs (cs.length + 2 * i) (2 * (ps.length - i)) = (0, ((cs.length + 2 * i : Nat) : Int)) :: (0, ((cs.length + 2 * i + 1 : Nat) : Int)) :: selfs (cs.length + 2 * (i + 1)) (2 * (ps.length - (i + 1))) := by
          rw [show 2 * (ps.length - i) = 2 * (ps.length - (i + 1)) + 2 by (first | lia | omega), selfs_two, show cs.length + 2 * i + 2 = cs.length + 2 * (i + 1) by (first | lia | omega)]
        rw [es] at S₃
        have lp : (cs ++ blk cs.length (ps.take i)).length = cs.length + 2 * i := by rw [List.length_append, blk_length, lt]
        have i3 := S₃.inst
        have lall : (cs ++ blk cs.length (ps.take i) ++ (0, ((cs.length + 2 * i : Nat) : Int)) :: (0, ((cs.length + 2 * i + 1 : Nat) : Int)) :: selfs (cs.length + 2 * (i + 1)) (2 * (ps.length - (i + 1)))).length = cs.length + 2 * ps.length := by
          rw [List.length_append, lp]; simp [selfs]; (first | lia | omega)
        refine ⟨(k5 va hvh).trans h4₂, ?_⟩
        isplit
        isplit
        isplit
        isplit
        refine Op3.set_list (k := cs.length + 2 * i) S₃.hp rfl (by rw [List.length_map, lall]; (first | lia | omega)) (by rw [List.length_map, lall]; (first | lia | omega)) ?_
        have e1 := set_at (cs ++ blk cs.length (ps.take i)) (0, ((cs.length + 2 * i : Nat) : Int)) p ((0, ((cs.length + 2 * i + 1 : Nat) : Int)) :: selfs (cs.length + 2 * (i + 1)) (2 * (ps.length - (i + 1))))
        rw [lp] at e1
        rw [map_set', e1]
        have S₄ := S₃.put (cs ++ blk cs.length (ps.take i) ++ p :: (0, ((cs.length + 2 * i + 1 : Nat) : Int)) :: selfs (cs.length + 2 * (i + 1)) (2 * (ps.length - (i + 1))))
        have i4 := S₄.inst
        isplit
        isplit
        isplit
        isplit
        isplit
        isplit
        isplit
        isplit
        refine Op2.int_add ?_
        isplit
        refine ⟨?_, by simp⟩
        isplit
        isplit
        isplit
        isplit
        refine Op2.int_add ?_
        refine Op3.set_list (k := cs.length + 2 * i + 1) (d := cv (3, ((cs.length + 2 * i : Nat) : Int) + 2)) S₄.hp (by (first | lia | omega)) (by rw [List.length_map]; simp [selfs, blk_length, lt]; (first | lia | omega)) (by rw [List.length_map]; simp [selfs, blk_length, lt]; (first | lia | omega)) ?_
        have e2 := set_at (cs ++ blk cs.length (ps.take i) ++ [p]) (0, ((cs.length + 2 * i + 1 : Nat) : Int)) (3, ((cs.length + 2 * i : Nat) : Int) + 2) (selfs (cs.length + 2 * (i + 1)) (2 * (ps.length - (i + 1))))
        have lq : (cs ++ blk cs.length (ps.take i) ++ [p]).length = cs.length + 2 * i + 1 := by rw [List.length_append, lp]; rfl
        rw [lq, List.append_assoc, List.append_assoc, List.singleton_append, List.append_assoc, List.singleton_append, ← List.append_assoc] at e2
        rw [map_set', e2]
        have e3 : cs ++ blk cs.length (ps.take i) ++ p :: (3, ((cs.length + 2 * i : Nat) : Int) + 2) :: selfs (cs.length + 2 * (i + 1)) (2 * (ps.length - (i + 1))) = cs ++ blk cs.length (ps.take (i + 1)) ++ selfs (cs.length + 2 * (i + 1)) (2 * (ps.length - (i + 1))) := by
          rw [List.take_add_one, hp, Option.toList_some, blk_snoc, lt]; simp
        rw [e3]
        have S₅ := S₄.put (cs ++ blk cs.length (ps.take (i + 1)) ++ selfs (cs.length + 2 * (i + 1)) (2 * (ps.length - (i + 1))))
        refine Exs.augName hc (by nest_cls) (by one_item) ?_
        repeat isplit
        refine Op2.int_iadd ?_
        repeat isplit
        rw [show ((cs.length + 2 * i : Nat) : Int) + 2 = ((cs.length + 2 * (i + 1) : Nat) : Int) by (first | lia | omega)]
        exact (mk0_6 (by one_item) (by one_item) (by one_item) (by one_item) (fun a ha => (AH.set_other _ _ ha).trans ((AH.set_other _ _ ha).trans (k5 a ha))) S₅)
      · rintro m' H₃ ⟨k1, k2, k3, k4, k5, S₃⟩
        rw [List.length_map] at k4 S₃
        have e0 : cs ++ blk cs.length (ps.take ps.length) ++ selfs (cs.length + 2 * ps.length) (2 * (ps.length - ps.length)) = cs ++ blk cs.length ps := by simp [selfs]
        rw [e0] at S₃
        have i3 := S₃.inst
        refine ⟨(k5 va hvh).trans h4₂, ?_⟩
        repeat isplit
        refine Op2.int_sub ?_
        refine Op3.set_list (k := cs.length + (2 * ps.length - 1)) (d := cv (4, 0)) S₃.hp (by (first | lia | omega)) (by simp [blk_length]; (first | lia | omega)) (by simp [blk_length]; (first | lia | omega)) ?_
        have e4 : (cs ++ blk cs.length ps).set (cs.length + (2 * ps.length - 1)) (4, 0) = cs ++ spine cs.length (4, 0) ps := by
          rw [List.set_append_right _ _ (by (first | lia | omega)), show cs.length + (2 * ps.length - 1) - cs.length = 2 * ps.length - 1 by (first | lia | omega), blk_spine _ _ _ hn]
        rw [map_set', e4]
        have S₄ := S₃.put (cs ++ spine cs.length (4, 0) ps)
        repeat isplit
        refine ⟨q1 hn _ (fun a o e n => ?_) S₄, by simp⟩
        have ha : a ≠ k.hp := by simpa using n
        exact (AH.set_other _ _ ha).trans ((k5 a ha).trans ((h6 a ha).trans (off₁ a o e (by simp))))
end
inductive LA (cs : List (Int × Int)) : Int × Int → List (Int × Int) → Int × Int → List Nat → Prop
  | nil {t : Int × Int} : t.1 ≠ 3 → LA cs t [] t []
  | cons {a : Nat} {e c' t : Int × Int} {es : List (Int × Int)} {as : List Nat} : cs[a]? = some e → cs[a + 1]? = some c' → Good cs e → Good cs c' → LA cs c' es t as → LA cs (3, a) (e :: es) t (a :: as)
noncomputable abbrev lcW : Stmt := nthS (fnBody (methS 31 2)) 3
section
variable {k : StA} {sy : Addr} {H : AH} {cs : List (Int × Int)}
theorem list_cells_loop {lv : Nat} {c : Cx} (hc : CxOk (lv + 1) c) (hs : c.env.scope = fnScope (methS 31 2)) (hl : cs.length ≤ 2000) {fa sa : Addr} {H₀ : AH} (hfh : fa ≠ k.hp) (hsh : sa ≠ k.hp) (hfs : fa ≠ sa) {Q : Fl → Loc → AH → Prop} {t : Int × Int} {all : List (Int × Int)}
    (q : ∀ m H', m "found" = some (.ref fa) → m "cell" = some (cv t) → H' fa = some (.list (all.map cv)) → (∀ a, a ≠ fa → a ≠ sa → H' a = H₀ a) → Q .next m H') :
    ∀ (es : List (Int × Int)) (p : Int × Int) (as : List Nat) (done : List (Int × Int)) (f : Int → Bool) (n : Nat) (m : Loc) (H₁ : AH), LA cs p es t as → all = done ++ es → m "self" = some (.ref k.st) → m "found" = some (.ref fa) → m "seen" = some (.ref sa) → m "cell" = some (cv p) →
      St k sy H₁ cs → H₁ fa = some (.list (done.map cv)) → H₁ sa = some (.iset f n) → (∀ a, a ≠ fa → a ≠ sa → H₁ a = H₀ a) → (∀ a ∈ as, f (a : Nat) = false) → as.Nodup → n + es.length ≤ 1000 → done.length + es.length ≤ 1000 →
      Wh c (fun _ _ => False) (testOf lcW) (bodyOf lcW) (es.length + 1) m H₁ Q := by
  conv at hs =>
    rhs
    whnf
  intro es
  induction es with
  | nil =>
    intro p as done f n m H₁ h e h1 h2 h3 h4 S hf hsa ho hfa hnd hn hdl
    cases h with
    | nil hp =>
      show Tr _ _ _ _ _ _
      conv =>
        arg 3
        whnf
      repeat isplit
      refine Ev.subT ?_
      repeat isplit
      refine (mk1_2 _ rfl (Op2.item_tup (k := 0) rfl (tag_ t) (by simp) ?_))
      repeat isplit
      refine Op2.int_eq ⟨_, rfl, ?_⟩
      rw [if_neg (by simpa using hp), if_neg (by simp)]
      exact q m H₁ h2 h4 (by rw [hf, e, List.append_nil]) ho
  | cons e' es ih =>
    intro p as done f n m H₁ h e h1 h2 h3 h4 S hf hsa ho hfa hnd hn hdl
    cases h with
    | @cons a _ c' _ _ as he hc' ge gc hr =>
      have i1 := S.inst
      show Tr _ _ _ _ _ _
      conv =>
        arg 3
        whnf
      repeat isplit
      refine Ev.subT ?_
      repeat isplit
      refine (mk1_2 _ rfl (Op2.item_tup (k := 0) rfl (tag_ (3, a)) (by simp) ?_))
      repeat isplit
      refine Op2.int_eq ⟨_, rfl, ?_⟩
      rw [if_pos (by simp)]
      repeat isplit
      refine Ev.subT ?_
      repeat isplit
      refine (mk1_2 _ rfl (Op2.item_tup (k := 1) rfl (val_ (3, a)) (by simp) ?_))
      repeat isplit
      refine Op2.notIn_set hsa ⟨_, rfl, ?_⟩
      rw [if_pos (by simpa using hfa a (.head _))]
      isplit
      rw [if_pos rfl]
      conv =>
        arg 3
        whnf
      isplit
      refine Ev.sadd ?_
      repeat isplit
      refine (mk3_3 _ f n rfl hsa ?_)
      refine Ev.subT ?_
      repeat isplit
      refine (mk1_2 _ rfl (Op2.item_tup (k := 1) rfl (val_ (3, a)) (by simp) ?_))
      refine (mk3_6 f n a rfl hsa (by (first | lia | omega)) nofun nofun ?_)
      have S₂ := S.setP (o' := .iset (fun k' => f k' || decide (k' = (a : Int))) (if f a then n else n + 1)) hsa rfl hsh
      have hf₂ := AH.other (o := .iset (fun k' => f k' || decide (k' = (a : Int))) (if f a then n else n + 1)) hfs hf
      have i2 := S₂.inst
      repeat isplit
      refine Ev.append ?_
      repeat isplit
      refine (mk2_3 _ _ rfl hf₂ ?_)
      refine Ev.im ?_
      repeat isplit
      refine (mk5_5 _ _ _ _ 251 rfl S₂.inst (mk_meth (by kernel_rfl) (by kernel_rfl) (by kernel_rfl) (by kernel_rfl) (by kernel_rfl)) (by rfl) ?_)
      repeat isplit
      refine Ev.subL ?_
      repeat isplit
      refine Ev.subT ?_
      repeat isplit
      refine (mk1_2 _ rfl (Op2.item_tup (k := 1) rfl (val_ (3, a)) (by simp) ?_))
      refine (mk2_3 _ _ rfl S₂.hp (Op2.item_list (k := a) S₂.hp rfl (S₂.at he) (by simp; (first | lia | omega)) ?_))
      isplit
      refine (deref_ok S₂ hl ge ?_).at hc
      refine (mk1_5 _ hf₂ (by simp; (first | lia | omega)) nofun nofun ?_)
      have S₃ := S₂.setP (o' := .list (done.map cv ++ [cv e'])) hf₂ rfl hfh
      have i3 := S₃.inst
      repeat isplit
      refine Ev.im ?_
      repeat isplit
      refine (mk5_5 _ _ _ _ 251 rfl S₃.inst (mk_meth (by kernel_rfl) (by kernel_rfl) (by kernel_rfl) (by kernel_rfl) (by kernel_rfl)) (by rfl) ?_)
      repeat isplit
      refine Ev.subL ?_
      repeat isplit
      refine Ev.subT ?_
      repeat isplit
      refine (mk1_2 _ rfl (Op2.item_tup (k := 1) rfl (val_ (3, a)) (by simp) ?_))
      repeat isplit
      refine Op2.int_add ?_
      refine (mk2_3 _ _ rfl S₃.hp (Op2.item_list (k := a + 1) S₃.hp (by simp) (S₃.at hc') (by simp; (first | lia | omega)) ?_))
      isplit
      refine (deref_ok S₃ hl gc ?_).at hc
      refine Exs.nil ?_
      refine ih c' _ (done ++ [e']) (fun k' => f k' || decide (k' = (a : Int))) (n + 1) _ _ hr (by rw [e]; simp) (by one_item) (by one_item) (by one_item) (by one_item) S₃ ?_ ?_ ?_ ?_ (List.nodup_cons.mp hnd).2 (by simp at hn ⊢; (first | lia | omega)) (by simp at hdl ⊢; (first | lia | omega))
      · rw [AH.set_self]; simp
      · rw [AH.set_other _ _ (Ne.symm hfs), AH.set_self, hfa a (.head _)]; simp
      · intro x hx1 hx2
        rw [AH.set_other _ _ hx1, AH.set_other _ _ hx2, ho x hx1 hx2]
      · intro x hx
        have h1 := hfa x (.tail _ hx)
        have h2 : x ≠ a := by rintro rfl; exact (List.nodup_cons.mp hnd).1 hx
        simp [h1]; (first | lia | omega)
theorem list_cells_ok {w : World} (S : St k sy H cs) (hl : cs.length ≤ 2000) {p t : Int × Int} {es : List (Int × Int)} {as : List Nat} (h : LA cs p es t as) (gp : Good cs p) (hnd : as.Nodup) (hes : es.length ≤ 900) {Q : V → AH → Prop}
    (q : ∀ fa H', H fa = none → H' fa = some (.list (es.map cv)) → Off [] H H' → Q (.tup [.ref fa, cv t]) H') : Fn 2 w (.ref 378) [.ref k.st, cv p] H Q := by
  have i1 := S.inst
  refine Fn.p2 "self" "cell" ok378 (by intro a b; kernel_rfl) (by decide +kernel) (by decide +kernel) (by decide +kernel) ?_
  intro c hw hc hs hcl
  have hs0 := hs
  conv =>
    arg 3
    whnf
  conv at hs =>
    rhs
    whnf
  subst hw
  repeat isplit
  refine ⟨fun fa hfa => ?_, by simp⟩
  repeat isplit
  refine Ev.set0 hc (by nest_cls) fun sa hsa => ?_
  have hfs : fa ≠ sa := fun z => by first | exact clash hsa (AH.set_self _ _ _) z | exact clash hsa (AH.set_self _ _ _) z.symm
  have hsa0 : H sa = none := AH.set_none _ hsa
  have S₁ := S.setN (o' := .list []) hfa
  have S₂ := S₁.setN (o' := .iset (fun _ => false) 0) hsa
  have i2 := S₂.inst
  repeat isplit
  refine Ev.im ?_
  repeat isplit
  refine (mk5_5 _ _ _ _ 251 rfl S₂.inst (mk_meth (by kernel_rfl) (by kernel_rfl) (by kernel_rfl) (by kernel_rfl) (by kernel_rfl)) (by rfl) ?_)
  repeat isplit
  refine (deref_ok S₂ hl gp ?_).at hc
  have hfh : fa ≠ k.hp := fun z => by first | exact clash hfa S.hp z | exact clash S.hp hfa z.symm
  have hsh : sa ≠ k.hp := fun z => by first | exact clash hsa0 S.hp z | exact clash S.hp hsa0 z.symm
  refine Exs.while_ (es.length + 1) .never ?_
  refine list_cells_loop hc hs0 hl (H₀ := H) hfh hsh hfs (t := t) (all := es) (fun m H' h2 h4 hf ho => ?_) es p as [] (fun _ => false) 0 _ _ h rfl (by one_item) (by one_item) (by one_item) (by one_item) S₂ ?_ (AH.set_self ..) ?_ (fun _ _ => rfl) hnd (by (first | lia | omega)) (by simp; (first | lia | omega))
  · repeat isplit
    refine ⟨q fa H' hfa hf fun a o e _ => ?_, by simp⟩
    rw [ho a (by rintro rfl; rw [e] at hfa; cases hfa) (by rintro rfl; rw [e] at hsa0; cases hsa0)]; exact e
  · rw [AH.set_other _ _ hfs, AH.set_self]; rfl
  · intro x hx1 hx2
    rw [AH.set_other _ _ hx2, AH.set_other _ _ hx1]
end
section
variable {lv : Nat} {c : Cx} {E : ER} {m : Loc} {H : AH} {Q : V → AH → Prop} {np pos : Pos} {e : Expr}
theorem Ev.lenD (hc : CxOk lv c) (hx : c.env.kindOf "len" = some .globalImplicit) (h : Ev c E e m H fun a H₁ => ∃ p kvs, a = .ref p ∧ H₁ p = some (.dictI kvs) ∧ kvs.length ≤ 100000 ∧ Q (.int kvs.length) H₁)
    (he : eval (.Call (.Name "len" np) [e] [] pos) c.env = (do callWith pos (← eval (.Name "len" np) c.env) [] (backTo pos (starEach [e] c.env)) (backToKw pos (keywordEach [] c.env))) := by rfl)
    (hst : starEach [e] c.env = (false, eval e c.env) :: starEach [] c.env := by rfl) : Ev c E (.Call (.Name "len" np) [e] [] pos) m H Q := by
  refine Ev.call hc hx (gv_len _) (keep_builtin _) (Evs.cons (h.mono ?_) hst) (by decide) he hst rfl
  rintro _ H' ⟨p, kvs, rfl, hp, hl, q⟩
  refine Evs.nil fun vs s r R => ?_
  cases r with | cons a r =>
    cases r; cases a
    refine el1_2 (R.objs p _ hp) fun rows hd rr => ?_
    refine call_len_dict (R.ne_mods hp) hd (by rw [rr.length]; (first | lia | omega)) (R.here ?_ (.int ..))
    rw [rr.length]; exact q
end

inductive CT where
  | vr (x : Nat)
  | sy (n : Int)
  | nu (n : Int)
  | co (b : Nat) (h t : CT)
noncomputable def CT.cell : CT → Int × Int
  | .vr x => (0, x)
  | .sy n => (4, n)
  | .nu n => (5, n)
  | .co b _ _ => (3, b)
noncomputable def CT.size : CT → Nat
  | .co _ h t => 1 + h.size + t.size
  | _ => 1
noncomputable def CT.blocks : CT → List Nat
  | .co b h t => b :: (h.blocks ++ t.blocks)
  | _ => []
noncomputable def CT.steps : CT → Nat
  | .co _ h t => 2 + h.steps + t.steps
  | _ => 1
noncomputable def Rp (cs : List (Int × Int)) : CT → Prop
  | .vr x => cs[x]? = some (0, (x : Int))
  | .co b h t => cs[b]? = some h.cell ∧ cs[b + 1]? = some t.cell ∧ Rp cs h ∧ Rp cs t
  | _ => True
theorem Rp.good {cs : List (Int × Int)} {x : CT} (r : Rp cs x) : Good cs x.cell := by
  cases x with
  | vr x => exact ⟨by simp [CT.cell], fun _ => (mk1_2 x rfl r)⟩
  | sy n => exact ⟨by simp [CT.cell], fun h => by simp [CT.cell] at h⟩
  | nu n => exact ⟨by simp [CT.cell], fun h => by simp [CT.cell] at h⟩
  | co b h t => exact ⟨by simp [CT.cell], fun h => by simp [CT.cell] at h⟩
noncomputable def tmV (n : Nat) : V := .tup [.str "v", .int n]
noncomputable def tmA (n : Int) : V := .tup [.str "a", .int n]
noncomputable def tmI (n : Int) : V := .tup [.str "i", .int n]
noncomputable def tmC (h t : V) : V := .tup [.str "s", .int 0, .tup [h, t]]
noncomputable def CT.take : CT → List Int → V × List Int
  | .vr x, tb => (tmV (ix tb (x : Int)), addK tb (x : Int))
  | .sy n, tb => (tmA n, tb)
  | .nu n, tb => (tmI n, tb)
  | .co _ h t, tb => (tmC (h.take tb).1 (t.take (h.take tb).2).1, (t.take (h.take tb).2).2)
noncomputable def SzOk (Z : List (Int × V)) (x : CT) : Prop := ∀ b h t, x = .co b h t → dget Z (b : Int) = some (.int (x.size : Nat))

section
variable {k : StA} {sy : Addr} {H : AH} {cs : List (Int × Int)}
theorem whole_size_ok {w : World} (S : St k sy H cs) (hl : cs.length ≤ 2000) {b : Nat} {h t : CT} (r : Rp cs (.co b h t)) {sz : Addr} {Z : List (Int × V)} (hz : H sz = some (.dictI Z)) (zh : SzOk Z h) (zt : SzOk Z t) {Q : V → AH → Prop}
    (q : Q (.int ((CT.co b h t).size : Nat)) H) : Fn 3 w (.ref 392) [.ref k.st, cv (3, b), .ref sz] H Q := by
  have i1 := S.inst
  refine el0_4 r fun r1 r2 rh rt => ?_; try clear r
  refine Fn.p3 "self" "cell" "sizes" ok392 (by intro a b c; kernel_rfl) (by decide +kernel) (by decide +kernel) (by decide +kernel) ?_
  intro c hw hc hs hcl
  conv =>
    arg 3
    whnf
  conv at hs =>
    rhs
    whnf
  subst hw
  repeat isplit
  refine Ev.im ?_
  repeat isplit
  refine (mk5_5 _ _ _ _ 328 rfl S.inst (mk_meth (by kernel_rfl) (by kernel_rfl) (by kernel_rfl) (by kernel_rfl) (by kernel_rfl)) (by rfl) ?_)
  repeat isplit
  refine (base_ok ?_).at hc
  refine Exs.cons (Ex.forR hc .never (by nest_cls) (by nest_cls) ?_)
  refine Ev.im ?_
  repeat isplit
  refine (mk5_5 _ _ _ _ 321 rfl S.inst (mk_meth (by kernel_rfl) (by kernel_rfl) (by kernel_rfl) (by kernel_rfl) (by kernel_rfl)) (by rfl) ?_)
  repeat isplit
  refine (width_ok ?_).at hc
  refine (mk1_3 2 rfl (by (first | lia | omega)) ?_)
  have part : ∀ (x : CT), Rp cs x → SzOk Z x → ∀ (n : Nat) (j : Nat) (m : Loc) (Q' : Fl → Loc → AH → Prop), cs[b + j]? = some x.cell → m "self" = some (.ref k.st) → m "sizes" = some (.ref sz) → m "place" = some (.int b) → m "step" = some (.int (j : Nat)) → m "size" = some (.int (n : Nat)) →
      (∀ m', m' "self" = some (.ref k.st) → m' "sizes" = some (.ref sz) → m' "place" = some (.int b) → m' "size" = some (.int ((n + x.size : Nat) : Int)) → Q' .next m' H) → Exs c (fun _ _ => False) (bodyOf (nthS (fnBody (methS 31 4)) 2)) m H Q' := by
    intro x rx zx n j m Q' hx h1 h2 h3 h4 h5 q'
    conv =>
      arg 3
      whnf
    repeat isplit
    refine Ev.im ?_
    repeat isplit
    refine (mk5_5 _ _ _ _ 251 rfl S.inst (mk_meth (by kernel_rfl) (by kernel_rfl) (by kernel_rfl) (by kernel_rfl) (by kernel_rfl)) (by rfl) ?_)
    repeat isplit
    refine Ev.subL ?_
    repeat isplit
    refine Op2.int_add ?_
    refine (mk2_3 _ _ rfl S.hp (Op2.item_list (k := b + j) S.hp (by (first | lia | omega)) (S.at hx) (by simp; (first | lia | omega)) ?_))
    isplit
    refine (deref_ok S hl rx.good ?_).at hc
    repeat isplit
    refine Tr.ev ?_
    refine Ev.im ?_
    repeat isplit
    refine (mk5_5 _ _ _ _ 307 rfl S.inst (mk_meth (by kernel_rfl) (by kernel_rfl) (by kernel_rfl) (by kernel_rfl) (by kernel_rfl)) (by rfl) ?_)
    repeat isplit
    refine (is_compound_ok ⟨_, rfl, ?_⟩).at hc
    cases x with
    | co b' h' t' =>
      rw [if_pos (by simp [CT.cell])]
      refine Exs.augName hc (by nest_cls) (by one_item) ?_
      refine Ev.subD ?_
      repeat isplit
      refine Ev.subT ?_
      repeat isplit
      refine (mk1_2 _ rfl (Op2.item_tup (k := 1) rfl (val_ (3, b')) (by simp) ?_))
      refine (mk2_3 _ _ rfl hz (Op2.item_dict keyedI hz (zx b' h' t' rfl) ?_))
      refine Op2.int_iadd ?_
      repeat isplit
      rw [show ((n : Nat) : Int) + ((CT.co b' h' t').size : Nat) = ((n + (CT.co b' h' t').size : Nat) : Int) by (first | lia | omega)]
      exact q' _ (by one_item) (by one_item) (by one_item) (by one_item)
    | _ =>
      rw [if_neg (by simp [CT.cell])]
      refine Exs.augName hc (by nest_cls) (by one_item) ?_
      repeat isplit
      refine Op2.int_iadd ?_
      repeat isplit
      exact q' _ (by one_item) (by one_item) (by one_item) (by one_item)
  refine ⟨trivial, ?_⟩
  refine part h rh zh 1 0 _ _ r1 (by one_item) (by one_item) (by one_item) (by one_item) (by one_item) fun m' h1 h2 h3 h4 => ?_
  refine ⟨trivial, ?_⟩
  refine part t rt zt (1 + h.size) 1 _ _ r2 (by one_item) (by one_item) (by one_item) (by one_item) (by one_item) fun m' h1 h2 h3 h4 => ?_
  refine ⟨trivial, ?_⟩
  repeat isplit
  exact q
end
structure TA where
  kn : Addr
  sz : Addr
  rs : Addr
  wk : Addr
  tb : Addr
noncomputable def TA.all (t : TA) : List Addr := [t.kn, t.sz, t.rs, t.wk, t.tb]
structure TNe (k : StA) (t : TA) : Prop where
  h1 : t.kn ≠ k.hp
  h2 : t.sz ≠ k.hp
  h3 : t.rs ≠ k.hp
  h4 : t.wk ≠ k.hp
  h5 : t.tb ≠ k.hp
  d1 : t.kn ≠ t.sz
  d2 : t.kn ≠ t.tb
  d3 : t.sz ≠ t.tb
  l1 : t.rs ≠ t.wk
structure TL (k : StA) (t : TA) (m : Loc) : Prop where
  self : m "self" = some (.ref k.st)
  kn : m "known" = some (.ref t.kn)
  sz : m "sizes" = some (.ref t.sz)
  rs : m "results" = some (.ref t.rs)
  wk : m "work" = some (.ref t.wk)
  tb : m "table" = some (.ref t.tb)
structure TH (k : StA) (sy : Addr) (t : TA) (H : AH) (cs : List (Int × Int)) (W R : List V) (K Z : List (Int × V)) (T : List Int) (H₀ : AH) : Prop where
  S : St k sy H cs
  kn : H t.kn = some (.dictI K)
  sz : H t.sz = some (.dictI Z)
  rs : H t.rs = some (.list R)
  wk : H t.wk = some (.list W)
  tb : H t.tb = some (.dictI (numd T))
  off : Off t.all H₀ H
noncomputable def takeNames : List Str := ["self", "known", "sizes", "results", "work", "table"]
theorem TL.set {k : StA} {t : TA} {m : Loc} (h : TL k t m) {x : Str} {d : V} (hx : x ∉ takeNames) : TL k t (m.set x d) := by
  simp only [takeNames, List.mem_cons, List.mem_nil_iff, or_false, not_or] at hx
  refine el0_6 hx fun a1 a2 a3 a4 a5 a6 => ?_; try clear hx
  exact ⟨Loc.other (Ne.symm a1) h.self, Loc.other (Ne.symm a2) h.kn, Loc.other (Ne.symm a3) h.sz, Loc.other (Ne.symm a4) h.rs, Loc.other (Ne.symm a5) h.wk, Loc.other (Ne.symm a6) h.tb⟩
section
variable {k : StA} {sy : Addr} {t : TA} {H H₀ : AH} {cs : List (Int × Int)} {W R : List V} {K Z : List (Int × V)} {T : List Int}
theorem TH.putW (h : TH k sy t H cs W R K Z T H₀) (n : TNe k t) (W' : List V) : TH k sy t (H.set t.wk (.list W')) cs W' R K Z T H₀ :=
  ⟨h.S.setP h.wk rfl n.h4, AH.other (ne_of_O h.kn h.wk nofun) h.kn, AH.other (ne_of_O h.sz h.wk nofun) h.sz, AH.other n.l1 h.rs, AH.set_self .., AH.other (ne_of_O h.tb h.wk nofun) h.tb, h.off.trans (.set (by simp [TA.all]))⟩
theorem TH.putR (h : TH k sy t H cs W R K Z T H₀) (n : TNe k t) (R' : List V) : TH k sy t (H.set t.rs (.list R')) cs W R' K Z T H₀ :=
  ⟨h.S.setP h.rs rfl n.h3, AH.other (ne_of_O h.kn h.rs nofun) h.kn, AH.other (ne_of_O h.sz h.rs nofun) h.sz, AH.set_self .., AH.other n.l1.symm h.wk, AH.other (ne_of_O h.tb h.rs nofun) h.tb, h.off.trans (.set (by simp [TA.all]))⟩
theorem TH.putK (h : TH k sy t H cs W R K Z T H₀) (n : TNe k t) (K' : List (Int × V)) : TH k sy t (H.set t.kn (.dictI K')) cs W R K' Z T H₀ :=
  ⟨h.S.setP h.kn rfl n.h1, AH.set_self .., AH.other n.d1.symm h.sz, AH.other (ne_of_O h.rs h.kn nofun) h.rs, AH.other (ne_of_O h.wk h.kn nofun) h.wk, AH.other n.d2.symm h.tb, h.off.trans (.set (by simp [TA.all]))⟩
theorem TH.putZ (h : TH k sy t H cs W R K Z T H₀) (n : TNe k t) (Z' : List (Int × V)) : TH k sy t (H.set t.sz (.dictI Z')) cs W R K Z' T H₀ :=
  ⟨h.S.setP h.sz rfl n.h2, AH.other n.d1 h.kn, AH.set_self .., AH.other (ne_of_O h.rs h.sz nofun) h.rs, AH.other (ne_of_O h.wk h.sz nofun) h.wk, AH.other n.d3.symm h.tb, h.off.trans (.set (by simp [TA.all]))⟩
theorem TH.putT (h : TH k sy t H cs W R K Z T H₀) (n : TNe k t) (T' : List Int) (D : List (Int × V)) (e : D = numd T') : TH k sy t (H.set t.tb (.dictI D)) cs W R K Z T' H₀ :=
  ⟨h.S.setP h.tb rfl n.h5, AH.other n.d2 h.kn, AH.other n.d3 h.sz, AH.other (ne_of_O h.rs h.tb nofun) h.rs, AH.other (ne_of_O h.wk h.tb nofun) h.wk, e ▸ AH.set_self .., h.off.trans (.set (by simp [TA.all]))⟩
theorem TH.new (h : TH k sy t H cs W R K Z T H₀) {a : Addr} {o : O} (ha : H a = none) : TH k sy t (H.set a o) cs W R K Z T H₀ := by
  have ne : ∀ {b : Addr} {o' : O}, H b = some o' → b ≠ a := fun e z => by first | exact clash e ha z | exact clash ha e z.symm
  exact ⟨h.S.setN ha, AH.other (ne h.kn) h.kn, AH.other (ne h.sz) h.sz, AH.other (ne h.rs) h.rs, AH.other (ne h.wk) h.wk, AH.other (ne h.tb) h.tb, h.off.trans (.new ha)⟩
end
theorem dget_dput {K : Type} [DecidableEq K] (kvs : List (K × V)) (x y : K) (v : V) : dget (dput kvs x v) y = if y = x then some v else dget kvs y := by
  unfold dput
  split
  · rename_i h
    induction kvs with
    | nil => cases h
    | cons a l ih =>
      simp only [dget, List.map_cons, List.find?_cons] at h ih ⊢
      by_cases e : a.1 = x
      · by_cases q : y = x
        · subst q; simp [e]
        · have : ¬ a.1 = y := fun z => q (z.symm.trans e)
          simp only [e, if_true, q, if_false]
          rw [← e]
          simp only [this, decide_false]
          have hl : ∀ l : List (K × V), ((l.map fun kv => if kv.1 = a.1 then (kv.1, v) else kv).find? fun kv => decide (kv.1 = y)).map (·.2) = (l.find? fun kv => decide (kv.1 = y)).map (·.2) := by
            intro l
            induction l with
            | nil => rfl
            | cons b l ih2 =>
              simp only [List.map_cons, List.find?_cons]
              by_cases q2 : b.1 = a.1
              · have : ¬ b.1 = y := fun z => this (q2.symm.trans z)
                simp only [q2, if_true]
                rw [← q2]; simp only [this, decide_false]; rw [q2]; exact ih2
              · simp only [q2, if_false]
                by_cases q3 : b.1 = y
                · simp [q3]
                · simp only [q3, decide_false]; exact ih2
          exact hl l
      · simp only [e, if_false, decide_false] at h ⊢
        by_cases q3 : a.1 = y
        · have : ¬ y = x := fun z => e (q3.trans z)
          simp [q3, this]
        · simp only [q3, decide_false]
          exact ih h
  · rename_i h
    simp only [Bool.not_eq_true, Option.isSome_eq_false_iff, Option.isNone_iff_eq_none] at h
    unfold dget at h ⊢
    rw [List.find?_append]
    by_cases q : y = x
    · subst q
      rw [Option.map_eq_none_iff] at h
      simp [h]
    · have : ¬ x = y := fun z => q z.symm
      simp [q, this]
theorem dput_length {K : Type} [DecidableEq K] (kvs : List (K × V)) (x : K) (v : V) : (dput kvs x v).length ≤ kvs.length + 1 := by
  unfold dput; split <;> simp
noncomputable abbrev tkW : Stmt := nthS (fnBody (methS 31 5)) 4
noncomputable def ifB : Stmt → List Stmt
  | .If _ b _ _ => b
  | _ => []
noncomputable def elseB : Stmt → List Stmt
  | .If _ _ b _ => b
  | _ => []
theorem ix_addK {K : Type} [DecidableEq K] (ks : List K) (x : K) : ix (addK ks x) x = ix ks x := by
  unfold addK
  split
  · rfl
  · rename_i h
    rw [idxOf_new h]
    induction ks with
    | nil => simp [ix]
    | cons k ks ih =>
      rw [List.mem_cons, not_or] at h
      rw [List.cons_append, ix, if_neg (fun z => h.1 (Eq.symm z)), ih h.2, List.length_cons]
noncomputable def vis (p : Int × Int) : V := .tup [.int 0, cv p]
noncomputable def bld (p : Int × Int) : V := .tup [.int 1, cv p]
section
variable {k : StA} {sy : Addr} {t : TA} {cs : List (Int × Int)} {H₀ : AH}
theorem take_build {c : Cx} (hc : CxOk 4 c) (hs : c.env.scope = fnScope (methS 31 5)) (hl : cs.length ≤ 2000) (ne : TNe k t) {Q : Fl → Loc → AH → Prop} {b : Nat} {xh xt : CT} {W R : List V} {K Z : List (Int × V)} {T : List Int} {m : Loc} {H : AH} {N : Nat} {y1 y2 : V} (L : TL k t m) (h : TH k sy t H cs (W ++ [bld (CT.co b xh xt).cell]) (R ++ [y1, y2]) K Z T H₀) (r : Rp cs (.co b xh xt)) (zh : SzOk Z xh) (zt : SzOk Z xt)
    (hW : W.length ≤ 900) (hR : R.length ≤ 900) (hK : K.length ≤ 900) (hZ : Z.length ≤ 900) (hsz : (CT.co b xh xt).size ≤ 900)
    (q : ∀ m' H', TL k t m' → TH k sy t H' cs W (R ++ [tmC y1 y2]) (dput K (b : Int) (tmC y1 y2)) (dput Z (b : Int) (.int ((CT.co b xh xt).size : Nat))) T H₀ → Wh c (fun _ _ => False) (testOf tkW) (bodyOf tkW) N m' H' Q) :
    Wh c (fun _ _ => False) (testOf tkW) (bodyOf tkW) (N + 1) m H Q := by
  conv at hs =>
    rhs
    whnf
  have l1 := L.self
  have l2 := L.wk
  have l3 := L.rs
  have l4 := L.kn
  have l5 := L.sz
  have i1 := h.S.inst
  show Tr _ _ _ _ _ _
  conv =>
    arg 3
    whnf
  repeat isplit
  refine Ev.lenL hc (by nest_cls) ?_
  repeat isplit
  refine (mk2_4 _ _ rfl h.wk (by simp; (first | lia | omega)) ?_)
  repeat isplit
  refine Op2.int_gt ⟨_, rfl, ?_⟩
  rw [if_pos (by simp)]
  conv =>
    arg 3
    whnf
  repeat isplit
  refine Ev.pop ?_
  repeat isplit
  refine (mk3_4 _ _ _ rfl h.wk (by (first | lia | omega))  (mk2_2 _ _ rfl ?_))
  have h1 := h.putW ne W
  have i2 := h1.S.inst
  repeat isplit
  refine Op2.int_eq ⟨_, rfl, ?_⟩
  rw [if_pos (by simp)]
  repeat isplit
  refine Ev.im ?_
  repeat isplit
  refine (mk5_5 _ _ _ _ 314 rfl h1.S.inst (mk_meth (by kernel_rfl) (by kernel_rfl) (by kernel_rfl) (by kernel_rfl) (by kernel_rfl)) (by rfl) ?_)
  repeat isplit
  refine (functor_of_ok (a := (b : Int)) ?_).at hc
  repeat isplit
  refine Ev.lenL hc (by nest_cls) ?_
  repeat isplit
  refine (mk2_4 _ _ rfl h1.rs (by simp; (first | lia | omega)) ?_)
  refine Ev.im ?_
  repeat isplit
  refine (mk5_5 _ _ _ _ 321 rfl h1.S.inst (mk_meth (by kernel_rfl) (by kernel_rfl) (by kernel_rfl) (by kernel_rfl) (by kernel_rfl)) (by rfl) ?_)
  repeat isplit
  refine (width_ok (a := (b : Int)) ?_).at hc
  refine Op2.int_sub ?_
  rw [show (((R ++ [y1, y2]).length : Int) - 2) = ((R.length : Nat) : Int) by simp]
  repeat isplit
  refine Ev.tupleL hc (by nest_cls) ?_
  refine Ev.sliceFrom hc (by nest_cls) (by one_item) h1.rs (by decide) ?_
  repeat isplit
  refine (mk2_5 _ R.length rfl h1.rs (by simp; (first | lia | omega)) (by simp) (fun a ha => ?_))
  have h2 := h1.new (o := .list ((R ++ [y1, y2]).drop R.length)) ha
  refine (mk2_4 _ _ rfl (AH.set_self ..) (by simp) ?_)
  rw [show (R ++ [y1, y2]).drop R.length = [y1, y2] by simp] at h2 ⊢
  repeat isplit
  refine ⟨?_, by simp⟩
  refine Exs.delFrom hc (by nest_cls) (by one_item) h2.rs (by decide) ?_
  repeat isplit
  refine (mk2_5 _ R.length rfl h2.rs (by simp; (first | lia | omega)) (by simp) ?_)
  rw [show (R ++ [y1, y2]).take R.length = R by simp]
  have h3 := h2.putR ne R
  have i3 := h3.S.inst
  repeat isplit
  refine Ev.subT ?_
  repeat isplit
  refine (mk1_2 _ rfl (Op2.item_tup (k := 1) rfl (val_ (CT.co b xh xt).cell) (by simp) ?_))
  refine Op3.set_dict (k := (b : Int)) keyedI h3.kn (by (first | lia | omega)) ?_
  have h4 := h3.putK ne (dput K (b : Int) (tmC y1 y2))
  have i4 := h4.S.inst
  repeat isplit
  refine Ev.im ?_
  repeat isplit
  refine (mk5_5 _ _ _ _ 392 rfl h4.S.inst (mk_meth (by kernel_rfl) (by kernel_rfl) (by kernel_rfl) (by kernel_rfl) (by kernel_rfl)) (by rfl) ?_)
  repeat isplit
  refine (whole_size_ok h4.S hl r h4.sz zh zt ?_).at hc
  repeat isplit
  refine Ev.subT ?_
  repeat isplit
  refine (mk1_2 _ rfl (Op2.item_tup (k := 1) rfl (val_ (CT.co b xh xt).cell) (by simp) ?_))
  refine Op3.set_dict (k := (b : Int)) keyedI h4.sz (by (first | lia | omega)) ?_
  have h5 := h4.putZ ne (dput Z (b : Int) (.int ((CT.co b xh xt).size : Nat)))
  have i5 := h5.S.inst
  repeat isplit
  refine Ev.subD ?_
  repeat isplit
  refine Ev.subT ?_
  repeat isplit
  refine (mk1_2 _ rfl (Op2.item_tup (k := 1) rfl (val_ (CT.co b xh xt).cell) (by simp) ?_))
  refine (mk2_3 _ _ rfl h5.sz (Op2.item_dict (k := (b : Int)) (d := .int ((CT.co b xh xt).size : Nat)) keyedI h5.sz (by rw [dget_dput, if_pos rfl]) ?_))
  repeat isplit
  refine Op2.int_add ?_
  refine Op2.int_gt ⟨_, rfl, ?_⟩
  rw [if_neg (by simp; (first | lia | omega))]
  repeat isplit
  refine Ev.append ?_
  repeat isplit
  refine (mk2_3 _ _ rfl h5.rs ?_)
  repeat isplit
  refine (mk1_5 _ h5.rs (by (first | lia | omega)) nofun nofun ?_)
  refine Exs.cont ?_
  exact q _ _ (((((L.set (by decide +kernel)).set (by decide +kernel)).set (by decide +kernel)).set (by decide +kernel)).set (by decide +kernel)) (h5.putR ne _)
theorem take_loop {c : Cx} (hc : CxOk 4 c) (hs : c.env.scope = fnScope (methS 31 5)) (hl : cs.length ≤ 2000) (ne : TNe k t) {Q : Fl → Loc → AH → Prop} :
    ∀ (x : CT) (W R : List V) (K Z : List (Int × V)) (T : List Int) (m : Loc) (H : AH) (N : Nat), TL k t m → TH k sy t H cs (W ++ [vis x.cell]) R K Z T H₀ → Rp cs x → x.blocks.Nodup → (∀ b ∈ x.blocks, dget K (b : Int) = none) →
      W.length + 3 * x.size ≤ 900 → R.length + x.size ≤ 900 → K.length + 2 * x.size ≤ 900 → Z.length + x.size ≤ 900 → T.length + x.size ≤ 900 →
      (∀ m' H' K' Z', TL k t m' → TH k sy t H' cs W (R ++ [(x.take T).1]) K' Z' (x.take T).2 H₀ → (∀ b : Nat, b ∉ x.blocks → dget K' (b : Int) = dget K (b : Int)) → (∀ b : Nat, b ∉ x.blocks → dget Z' (b : Int) = dget Z (b : Int)) → SzOk Z' x →
        K'.length ≤ K.length + 2 * x.size → Z'.length ≤ Z.length + x.size → (x.take T).2.length ≤ T.length + x.size → Wh c (fun _ _ => False) (testOf tkW) (bodyOf tkW) N m' H' Q) →
      Wh c (fun _ _ => False) (testOf tkW) (bodyOf tkW) (N + x.steps) m H Q := by
  conv at hs =>
    rhs
    whnf
  -- one turn that visits x, up to its tag
  have turn : ∀ (x : CT) (W R : List V) (K Z : List (Int × V)) (T : List Int) (m : Loc) (H : AH) (N : Nat), TL k t m → TH k sy t H cs (W ++ [vis x.cell]) R K Z T H₀ → Rp cs x → W.length ≤ 900 →
      (∀ m', TL k t m' → m' "cell" = some (cv x.cell) → m' "tag" = some (.int x.cell.1) → TH k sy t (H.set t.wk (.list W)) cs W R K Z T H₀ → Exs c (fun _ _ => False) ((bodyOf tkW).drop 4) m' (H.set t.wk (.list W)) fun fl m' H' => match fl with
        | .next => Wh c (fun _ _ => False) (testOf tkW) (bodyOf tkW) N m' H' Q
        | .cont => Wh c (fun _ _ => False) (testOf tkW) (bodyOf tkW) N m' H' Q
        | .brk => Q .next m' H'
        | .ret d => Q (.ret d) m' H') →
      Wh c (fun _ _ => False) (testOf tkW) (bodyOf tkW) (N + 1) m H Q := by
    intro x W R K Z T m H N L h r hW q
    have l1 := L.self
    have l2 := L.wk
    have i1 := h.S.inst
    show Tr _ _ _ _ _ _
    conv =>
      arg 3
      whnf
    repeat isplit
    refine Ev.lenL hc (by nest_cls) ?_
    repeat isplit
    refine (mk2_4 _ _ rfl h.wk (by simp; (first | lia | omega)) ?_)
    repeat isplit
    refine Op2.int_gt ⟨_, rfl, ?_⟩
    rw [if_pos (by simp)]
    conv =>
      arg 3
      whnf
    repeat isplit
    refine Ev.pop ?_
    repeat isplit
    refine (mk3_4 _ _ _ rfl h.wk (by (first | lia | omega))  (mk2_2 _ _ rfl ?_))
    have h' := h.putW ne W
    have i2 := h'.S.inst
    repeat isplit
    refine Op2.int_eq ⟨_, rfl, ?_⟩
    rw [if_neg (by simp)]
    repeat isplit
    refine Ev.im ?_
    repeat isplit
    refine (mk5_5 _ _ _ _ 251 rfl h'.S.inst (mk_meth (by kernel_rfl) (by kernel_rfl) (by kernel_rfl) (by kernel_rfl) (by kernel_rfl)) (by rfl) ?_)
    repeat isplit
    refine (deref_ok h'.S hl r.good ?_).at hc
    repeat isplit
    refine Ev.subT ?_
    repeat isplit
    refine (mk1_2 _ rfl (Op2.item_tup (k := 0) rfl (tag_ x.cell) (by simp) ?_))
    exact q _ ((((L.set (by decide +kernel)).set (by decide +kernel)).set (by decide +kernel)).set (by decide +kernel)) (by one_item) (by one_item) h'
  intro x
  induction x with
  | vr a =>
    intro W R K Z T m H N L h r hnd hK hW hR hKl hZl hTl q
    refine turn (.vr a) W R K Z T m H N L h r (by simp [CT.size] at hW; (first | lia | omega)) fun m₁ L₁ hcell htag h₁ => ?_
    conv =>
      arg 3
      whnf
    have l1 := L₁.tb
    have l2 := L₁.rs
    repeat isplit
    refine Op2.int_eq ⟨_, rfl, ?_⟩
    rw [if_pos (by simp [CT.cell])]
    repeat isplit
    refine Ev.subT ?_
    repeat isplit
    refine (mk1_2 _ rfl (Op2.item_tup (k := 1) rfl (val_ (CT.vr a).cell) (by simp) ?_))
    repeat isplit
    refine Op2.notIn (k := (a : Int)) keyedI h₁.tb ⟨_, rfl, ?_⟩
    rw [dget_numd]
    have fin : ∀ m₂ T' H₂ (Q' : Fl → Loc → AH → Prop), TL k t m₂ → T' = addK T (a : Int) → m₂ "cell" = some (cv (CT.vr a).cell) → TH k sy t H₂ cs W R K Z T' H₀ → (∀ m' H', TL k t m' → TH k sy t H' cs W (R ++ [tmV (ix T (a : Int))]) K Z (addK T (a : Int)) H₀ → Q' .next m' H') →
        Exs c (fun _ _ => False) ((ifB (nthS ((bodyOf tkW).drop 4) 0)).drop 1) m₂ H₂ Q' := by
      rintro m₂ T' H₂ Q' L₂ rfl hcell h₂ q'
      conv =>
        arg 3
        whnf
      have l1 := L₂.tb
      have l2 := L₂.rs
      repeat isplit
      refine Ev.append ?_
      repeat isplit
      refine (mk2_3 _ _ rfl h₂.rs ?_)
      repeat isplit
      refine Ev.subD ?_
      repeat isplit
      refine Ev.subT ?_
      repeat isplit
      refine (mk1_2 _ rfl (Op2.item_tup (k := 1) rfl (val_ (CT.vr a).cell) (by simp) ?_))
      refine (mk2_3 _ _ rfl h₂.tb (Op2.item_dict (k := (a : Int)) (d := .int (ix T (a : Int) : Nat)) keyedI h₂.tb (by rw [dget_numd, if_pos (addK_mem _ _), ix_addK]) ?_))
      repeat isplit
      refine ⟨?_, by simp⟩
      refine (mk1_5 _ h₂.rs (by simp [CT.size] at hR; (first | lia | omega)) nofun nofun ?_)
      refine Exs.nil ?_
      exact q' _ _ L₂ (h₂.putR ne _)
    have done : ∀ m' H', TL k t m' → TH k sy t H' cs W (R ++ [tmV (ix T (a : Int))]) K Z (addK T (a : Int)) H₀ → Wh c (fun _ _ => False) (testOf tkW) (bodyOf tkW) N m' H' Q := fun m' H' L' h' =>
      q m' H' K Z L' h' (fun _ _ => rfl) (fun _ _ => rfl) (fun _ _ _ z => nomatch z) (by (first | lia | omega)) (by (first | lia | omega)) (addK_length _ _)
    by_cases ha : (a : Int) ∈ T
    · rw [if_pos ha, if_neg (by simp)]
      refine Exs.nil ?_
      exact fin _ T _ _ L₁ (addK_of ha).symm hcell h₁ fun m' H' L' h' => Exs.nil (done m' H' L' h')
    · rw [if_neg ha, if_pos (by simp)]
      repeat isplit
      refine Ev.lenD hc (by nest_cls) ?_
      repeat isplit
      refine (mk2_4 _ _ rfl h₁.tb (by rw [numd_length]; (first | lia | omega)) ?_)
      repeat isplit
      refine Ev.subT ?_
      repeat isplit
      refine (mk1_2 _ rfl (Op2.item_tup (k := 1) rfl (val_ (CT.vr a).cell) (by simp) ?_))
      refine Op3.set_dict (k := (a : Int)) keyedI h₁.tb (by rw [numd_length]; (first | lia | omega)) ?_
      refine Exs.nil ?_
      exact fin _ _ _ _ L₁ rfl hcell (h₁.putT ne (addK T (a : Int)) _ (by rw [numd_length, addK_new ha]; exact dput_numd ha)) fun m' H' L' h' => Exs.nil (done m' H' L' h')
  | sy n =>
    intro W R K Z T m H N L h r hnd hK hW hR hKl hZl hTl q
    refine turn (.sy n) W R K Z T m H N L h r (by simp [CT.size] at hW; (first | lia | omega)) fun m₁ L₁ hcell htag h₁ => ?_
    conv =>
      arg 3
      whnf
    have l2 := L₁.rs
    repeat isplit
    refine Op2.int_eq ⟨_, rfl, ?_⟩
    rw [if_neg (by simp [CT.cell])]
    repeat isplit
    refine Op2.int_eq ⟨_, rfl, ?_⟩
    rw [if_pos (by simp [CT.cell])]
    repeat isplit
    refine Ev.append ?_
    repeat isplit
    refine (mk2_3 _ _ rfl h₁.rs ?_)
    repeat isplit
    refine Ev.subT ?_
    repeat isplit
    refine (mk1_2 _ rfl (Op2.item_tup (k := 1) rfl (val_ (CT.sy n).cell) (by simp) ?_))
    repeat isplit
    refine ⟨?_, by simp⟩
    refine (mk1_5 _ h₁.rs (by simp [CT.size] at hR; (first | lia | omega)) nofun nofun ?_)
    repeat isplit
    exact q _ _ K Z L₁ (h₁.putR ne _) (fun _ _ => rfl) (fun _ _ => rfl) (fun _ _ _ z => nomatch z) (by (first | lia | omega)) (by (first | lia | omega)) (by simp [CT.take])
  | nu n =>
    intro W R K Z T m H N L h r hnd hK hW hR hKl hZl hTl q
    refine turn (.nu n) W R K Z T m H N L h r (by simp [CT.size] at hW; (first | lia | omega)) fun m₁ L₁ hcell htag h₁ => ?_
    conv =>
      arg 3
      whnf
    have l2 := L₁.rs
    repeat isplit
    refine Op2.int_eq ⟨_, rfl, ?_⟩
    rw [if_neg (by simp [CT.cell])]
    repeat isplit
    refine Op2.int_eq ⟨_, rfl, ?_⟩
    rw [if_neg (by simp [CT.cell])]
    repeat isplit
    refine Op2.int_eq ⟨_, rfl, ?_⟩
    rw [if_pos (by simp [CT.cell])]
    repeat isplit
    refine Ev.append ?_
    repeat isplit
    refine (mk2_3 _ _ rfl h₁.rs ?_)
    repeat isplit
    refine Ev.subT ?_
    repeat isplit
    refine (mk1_2 _ rfl (Op2.item_tup (k := 1) rfl (val_ (CT.nu n).cell) (by simp) ?_))
    repeat isplit
    refine ⟨?_, by simp⟩
    refine (mk1_5 _ h₁.rs (by simp [CT.size] at hR; (first | lia | omega)) nofun nofun ?_)
    repeat isplit
    exact q _ _ K Z L₁ (h₁.putR ne _) (fun _ _ => rfl) (fun _ _ => rfl) (fun _ _ _ z => nomatch z) (by (first | lia | omega)) (by (first | lia | omega)) (by simp [CT.take])
  | co b xh xt ihh iht =>
    intro W R K Z T m H N L h r hnd hK hW hR hKl hZl hTl q
    refine el0_4 (id r) fun r1 r2 rh rt => ?_
    simp only [CT.blocks, List.nodup_cons, List.mem_append, not_or, List.nodup_append] at hnd
    refine el0_4 hnd fun z1 hnh hnt hdis => ?_; try clear hnd; refine el0_2 z1 fun hbh hbt => ?_
    simp only [CT.size] at hW hR hKl hZl hTl
    have hb : dget K (b : Int) = none := hK b (by simp [CT.blocks])
    rw [show N + (CT.co b xh xt).steps = (N + 1 + xt.steps + xh.steps) + 1 by simp [CT.steps]; (first | lia | omega)]
    refine turn (.co b xh xt) W R K Z T m H _ L h r (by (first | lia | omega)) fun m₁ L₁ hcell htag h₁ => ?_
    conv =>
      arg 3
      whnf
    have l2 := L₁.kn
    have l3 := L₁.wk
    have l4 := L₁.self
    repeat isplit
    refine Op2.int_eq ⟨_, rfl, ?_⟩
    rw [if_neg (by simp [CT.cell])]
    repeat isplit
    refine Op2.int_eq ⟨_, rfl, ?_⟩
    rw [if_neg (by simp [CT.cell])]
    repeat isplit
    refine Op2.int_eq ⟨_, rfl, ?_⟩
    rw [if_neg (by simp [CT.cell])]
    repeat isplit
    refine Ev.subT ?_
    repeat isplit
    refine (mk1_2 _ rfl (Op2.item_tup (k := 1) rfl (val_ (CT.co b xh xt).cell) (by simp) ?_))
    repeat isplit
    refine Op2.in_ (k := (b : Int)) keyedI h₁.kn ⟨_, rfl, ?_⟩
    rw [hb, if_neg (by simp)]
    repeat isplit
    refine Ev.subT ?_
    repeat isplit
    refine (mk1_2 _ rfl (Op2.item_tup (k := 1) rfl (val_ (CT.co b xh xt).cell) (by simp) ?_))
    refine Op3.set_dict (k := (b : Int)) keyedI h₁.kn (by (first | lia | omega)) ?_
    have h₂ := h₁.putK ne (dput K (b : Int) .none)
    repeat isplit
    refine Ev.append ?_
    repeat isplit
    refine (mk2_3 _ _ rfl h₂.wk ?_)
    repeat isplit
    refine ⟨?_, by simp⟩
    refine (mk1_5 _ h₂.wk (by (first | lia | omega)) nofun nofun ?_)
    have h₃ := h₂.putW ne (W ++ [bld (CT.co b xh xt).cell])
    have i3 := h₃.S.inst
    repeat isplit
    refine Ev.im ?_
    repeat isplit
    refine (mk5_5 _ _ _ _ 328 rfl h₃.S.inst (mk_meth (by kernel_rfl) (by kernel_rfl) (by kernel_rfl) (by kernel_rfl) (by kernel_rfl)) (by rfl) ?_)
    repeat isplit
    refine (base_ok (a := (b : Int)) ?_).at hc
    have L₃ := L₁.set (x := "place") (d := .int (b : Int)) (by decide +kernel)
    have hp₃ : (m₁.set "place" (.int (b : Int))) "place" = some (.int (b : Int)) := Loc.self _ _ _
    refine Exs.cons (Ex.forRd hc .never (by nest_cls) (by nest_cls) ?_)
    repeat isplit
    refine Ev.im ?_
    repeat isplit
    refine (mk5_5 _ _ _ _ 321 rfl h₃.S.inst (mk_meth (by kernel_rfl) (by kernel_rfl) (by kernel_rfl) (by kernel_rfl) (by kernel_rfl)) (by rfl) ?_)
    repeat isplit
    refine (width_ok (a := (b : Int)) ?_).at hc
    repeat isplit
    refine Op2.int_sub ?_
    repeat isplit
    refine (mk1_3 2 rfl (by (first | lia | omega)) ?_)
    have one : ∀ (x : CT) (W' : List V) (j : Nat) (m : Loc) (H : AH) (Q' : Fl → Loc → AH → Prop), TL k t m → m "place" = some (.int (b : Int)) → m "step" = some (.int (j : Nat)) → cs[b + j]? = some x.cell → TH k sy t H cs W' R (dput K (b : Int) .none) Z T H₀ → W'.length ≤ 900 →
        (TH k sy t (H.set t.wk (.list (W' ++ [vis x.cell]))) cs (W' ++ [vis x.cell]) R (dput K (b : Int) .none) Z T H₀ → Q' .next m (H.set t.wk (.list (W' ++ [vis x.cell])))) → Exs c (fun _ _ => False) (bodyOf (nthS ((elseB (nthS (elseB (nthS (elseB (nthS (elseB (nthS ((bodyOf tkW).drop 4) 0)) 0)) 0)) 0))) 3)) m H Q' := by
      intro x W' j m H Q' L hpl hst hx h hW' q'
      conv =>
        arg 3
        whnf
      have l3 := L.wk
      have l4 := L.self
      have i1 := h.S.inst
      repeat isplit
      refine Ev.append ?_
      repeat isplit
      refine (mk2_3 _ _ rfl h.wk ?_)
      repeat isplit
      refine Ev.subL ?_
      repeat isplit
      refine Op2.int_add ?_
      refine (mk2_3 _ _ rfl h.S.hp (Op2.item_list (k := b + j) h.S.hp (by (first | lia | omega)) (h.S.at hx) (by simp; (first | lia | omega)) ?_))
      repeat isplit
      refine ⟨?_, by simp⟩
      refine (mk1_5 _ h.wk (by (first | lia | omega)) nofun nofun ?_)
      refine Exs.nil ?_
      exact q' (h.putW ne _)
    have e0 : ranged ((2 : Nat) - 1) (-1) 2 = [.int ((1 : Nat) : Int), .int ((0 : Nat) : Int)] := rfl
    rw [e0]
    refine ⟨trivial, ?_⟩
    refine one xt (W ++ [bld (CT.co b xh xt).cell]) 1 _ _ _ (L₃.set (by decide +kernel)) (by one_item) (by one_item) r2 h₃ (by simp; (first | lia | omega)) fun h₄ => ?_
    refine ⟨trivial, ?_⟩
    refine one xh (W ++ [bld (CT.co b xh xt).cell] ++ [vis xt.cell]) 0 _ _ _ ((L₃.set (by decide +kernel)).set (by decide +kernel)) (by one_item) (by one_item) r1 h₄ (by simp; (first | lia | omega)) fun h₅ => ?_
    refine ⟨trivial, ?_⟩
    repeat isplit
    have hs0 : c.env.scope = fnScope (methS 31 5) := hs
    have l0 := dput_length K (b : Int) .none
    refine ihh (W ++ [bld (CT.co b xh xt).cell] ++ [vis xt.cell]) R (dput K (b : Int) .none) Z T _ _ (N + 1 + xt.steps) ((L₃.set (by decide +kernel)).set (by decide +kernel)) h₅ rh hnh (fun b' hb' => ?_) (by simp; (first | lia | omega)) (by (first | lia | omega)) (by (first | lia | omega)) (by (first | lia | omega)) (by (first | lia | omega)) fun m' H' K' Z' L' h' kk zz zh kl zl tl => ?_
    · rw [dget_dput, if_neg (by have : b' ≠ b := fun z => hbh (z ▸ hb'); (first | lia | omega))]
      exact hK b' (by simp [CT.blocks, hb'])
    refine iht (W ++ [bld (CT.co b xh xt).cell]) (R ++ [(xh.take T).1]) K' Z' (xh.take T).2 m' H' (N + 1) L' h' rt hnt (fun b' hb' => ?_) (by simp; (first | lia | omega)) (by simp; (first | lia | omega)) (by (first | lia | omega)) (by (first | lia | omega)) (by (first | lia | omega)) fun m'' H'' K'' Z'' L'' h'' kk2 zz2 zt kl2 zl2 tl2 => ?_
    · have hn : b' ∉ xh.blocks := fun z => hdis b' z b' hb' rfl
      rw [kk b' hn, dget_dput, if_neg (by have : b' ≠ b := fun z => hbt (z ▸ hb'); (first | lia | omega))]
      exact hK b' (by simp [CT.blocks, hb'])
    rw [List.append_assoc, List.singleton_append] at h''
    have zh' : SzOk Z'' xh := fun b' h' t' e => by
      rw [zz2 b' (fun z => ?_)]
      · exact zh b' h' t' e
      · exact hdis b' (by rw [e]; simp [CT.blocks]) b' z rfl
    refine take_build hc hs0 hl ne L'' h'' ⟨r1, r2, rh, rt⟩ zh' zt (by (first | lia | omega)) (by (first | lia | omega)) (by (first | lia | omega)) (by (first | lia | omega)) (by simp [CT.size]; (first | lia | omega)) fun m3 H3 L3 h3 => ?_
    refine q m3 H3 _ _ L3 h3 (fun b' hb' => ?_) (fun b' hb' => ?_) (fun b' h' t' e => ?_) ?_ ?_ ?_
    · simp only [CT.blocks, List.mem_cons, List.mem_append, not_or] at hb'
      rw [dget_dput, if_neg (by (first | lia | omega)), kk2 b' hb'.2.2, kk b' hb'.2.1, dget_dput, if_neg (by (first | lia | omega))]
    · simp only [CT.blocks, List.mem_cons, List.mem_append, not_or] at hb'
      rw [dget_dput, if_neg (by (first | lia | omega)), zz2 b' hb'.2.2, zz b' hb'.2.1]
    · cases e
      rw [dget_dput, if_pos rfl]
    · have := dput_length K'' (b : Int) (tmC (xh.take T).1 (xt.take (xh.take T).2).1)
      simp only [CT.size]; (first | lia | omega)
    · have := dput_length Z'' (b : Int) (.int ((CT.co b xh xt).size : Nat))
      simp only [CT.size] at this ⊢; (first | lia | omega)
    · simp only [CT.size, CT.take]; (first | lia | omega)
theorem take_names {m : Loc} (h1 : m "self" = some (.ref k.st)) (h2 : m "known" = some (.ref t.kn)) (h3 : m "sizes" = some (.ref t.sz)) (h4 : m "results" = some (.ref t.rs)) (h5 : m "work" = some (.ref t.wk)) (h6 : m "table" = some (.ref t.tb)) : TL k t m := ⟨h1, h2, h3, h4, h5, h6⟩
end
section
variable {k : StA} {sy : Addr} {H : AH} {cs : List (Int × Int)}
theorem take_term_ok {w : World} (S : St k sy H cs) (hl : cs.length ≤ 2000) {x : CT} (r : Rp cs x) (hnd : x.blocks.Nodup) (hsz : x.size ≤ 250) {tb : Addr} (htb : H tb = some (.dictI [])) (htne : tb ≠ k.hp) {Q : V → AH → Prop}
    (q : ∀ H', Off [tb] H H' → Q (x.take []).1 H') : Fn 5 w (.ref 399) [.ref k.st, cv x.cell, .ref tb] H Q := by
  have i1 := S.inst
  refine Fn.p3 "self" "cell" "table" ok399 (by intro a b c; kernel_rfl) (by decide +kernel) (by decide +kernel) (by decide +kernel) ?_
  intro c hw hc hs hcl
  have hs0 := hs
  conv =>
    arg 3
    whnf
  conv at hs =>
    rhs
    whnf
  subst hw
  repeat isplit
  refine Ev.dict (.dictI []) (dictI_new _) fun kn hkn => ?_
  repeat isplit
  refine Ev.dict (.dictI []) (dictI_new _) fun sz hsz' => ?_
  repeat isplit
  refine ⟨fun rs hrs => ?_, by simp⟩
  have S1 := S.setN (o' := .dictI []) hkn
  have S2 := S1.setN (o' := .dictI []) hsz'
  have S3 := S2.setN (o' := .list []) hrs
  have i3 := S3.inst
  repeat isplit
  refine Ev.im ?_
  repeat isplit
  refine (mk5_5 _ _ _ _ 279 rfl S3.inst (mk_meth (by kernel_rfl) (by kernel_rfl) (by kernel_rfl) (by kernel_rfl) (by kernel_rfl)) (by rfl) ?_)
  repeat isplit
  refine (globalise_ok S3 hl r.good ?_).at hc
  repeat isplit
  refine ⟨?_, by simp⟩
  repeat isplit
  refine ⟨fun wk hwk => ?_, by simp⟩
  have n1 := hkn
  have n2 : H sz = none := AH.set_none _ hsz'
  have n3 : H rs = none := AH.set_none _ (AH.set_none _ hrs)
  have n4 : H wk = none := AH.set_none _ (AH.set_none _ (AH.set_none _ hwk))
  have hne : ∀ {a b : Addr} {o : O} {G : AH}, (G.set a o) b = none → b ≠ a := fun e z => by first | exact clash e (AH.set_self _ _ _) z | exact clash e (AH.set_self _ _ _) z.symm
  have d1 : sz ≠ kn := hne hsz'
  have d2 : rs ≠ sz := hne hrs
  have d3 : rs ≠ kn := hne (AH.set_none _ hrs)
  have d4 : wk ≠ rs := hne hwk
  have d5 : wk ≠ sz := hne (AH.set_none _ hwk)
  have d6 : wk ≠ kn := hne (AH.set_none _ (AH.set_none _ hwk))
  have nh : ∀ {a : Addr} {o : O}, H a = none → ∀ b, H b = some o → a ≠ b := fun e b e' z => by first | exact clash e e' z | exact clash e' e z.symm
  have S4 := S3.setN (o' := .list [V.tup [.int 0, cv x.cell]]) hwk
  have th : TH k sy ⟨kn, sz, rs, wk, tb⟩ ((((H.set kn (.dictI [])).set sz (.dictI [])).set rs (.list [])).set wk (.list [V.tup [.int 0, cv x.cell]])) cs ([] ++ [vis x.cell]) [] [] [] [] ((((H.set kn (.dictI [])).set sz (.dictI [])).set rs (.list [])).set wk (.list [V.tup [.int 0, cv x.cell]])) :=
    ⟨S4, AH.other (Ne.symm d6) (AH.other (Ne.symm d3) (AH.other (Ne.symm d1) (AH.set_self ..))), AH.other (Ne.symm d5) (AH.other (Ne.symm d2) (AH.set_self ..)), AH.other (Ne.symm d4) (AH.set_self ..), AH.set_self ..,
      AH.other (nh n4 _ htb).symm (AH.other (nh n3 _ htb).symm (AH.other (nh n2 _ htb).symm (AH.other (nh n1 _ htb).symm htb))), .refl _ _⟩
  refine Exs.while_ (1 + x.steps) .never ?_
  refine take_loop (t := ⟨kn, sz, rs, wk, tb⟩) hc hs0 hl ⟨nh n1 _ S.hp, nh n2 _ S.hp, nh n3 _ S.hp, nh n4 _ S.hp, htne, Ne.symm d1, nh n1 _ htb, nh n2 _ htb, Ne.symm d4⟩ x [] [] [] [] [] _ _ 1
    (take_names (by one_item) (by one_item) (by one_item) (by one_item) (by one_item) (by one_item)) th r hnd (fun _ _ => rfl) (by simp; (first | lia | omega)) (by simp; (first | lia | omega)) (by simp; (first | lia | omega)) (by simp; (first | lia | omega)) (by simp; (first | lia | omega)) fun m' H' K' Z' L' h' _ _ _ _ _ _ => ?_
  have l1 := L'.wk
  have l2 := L'.rs
  show Tr _ _ _ _ _ _
  conv =>
    arg 3
    whnf
  repeat isplit
  refine Ev.lenL hc (by nest_cls) ?_
  repeat isplit
  refine (mk2_4 _ _ rfl h'.wk (by simp) ?_)
  repeat isplit
  refine Op2.int_gt ⟨_, rfl, ?_⟩
  rw [if_neg (by simp)]
  repeat isplit
  refine Ev.subL ?_
  repeat isplit
  refine (mk2_3 _ _ rfl h'.rs (Op2.item_list (k := 0) h'.rs rfl rfl (by simp) ?_))
  refine q H' fun a o e n => h'.off a o ?_ ?_
  · exact AH.other (nh n4 _ e).symm (AH.other (nh n3 _ e).symm (AH.other (nh n2 _ e).symm (AH.other (nh n1 _ e).symm e)))
  · simp only [TA.all, List.mem_cons, List.mem_nil_iff, or_false, not_or]
    simp only [List.mem_singleton] at n
    exact (mk0_5 ((nh n1 _ e).symm) ((nh n2 _ e).symm) ((nh n3 _ e).symm) ((nh n4 _ e).symm) n)
end
inductive Tm where
  | vr (n : Nat)
  | sy (n : Int)
  | nu (n : Int)
  | co (h t : Tm)
noncomputable def Tm.val : Tm → V
  | .vr n => tmV n
  | .sy n => tmA n
  | .nu n => tmI n
  | .co h t => tmC h.val t.val
noncomputable def Tm.nodes : Tm → Nat
  | .co h t => 1 + h.nodes + t.nodes
  | _ => 0
noncomputable def Tm.vars : Tm → List Nat
  | .vr n => [n]
  | .co h t => h.vars ++ t.vars
  | _ => []
inductive Sh : Tm → CT → Prop
  | vr (n a : Nat) : Sh (.vr n) (.vr a)
  | sy (n : Int) : Sh (.sy n) (.sy n)
  | nu (n : Int) : Sh (.nu n) (.nu n)
  | co {h t : Tm} {b : Nat} {x y : CT} : Sh h x → Sh t y → Sh (.co h t) (.co b x y)
noncomputable def CT.vars : CT → List Nat
  | .vr a => [a]
  | .co _ h t => h.vars ++ t.vars
  | _ => []
noncomputable abbrev Pend := Nat × Tm × Tm
noncomputable def put1 (cs : List (Int × Int)) (p : Nat) : Tm → List (Int × Int) × List Pend
  | .vr _ => (cs, [])
  | .sy n => (cs.set p (4, n), [])
  | .nu n => (cs.set p (5, n), [])
  | .co h t => ((cs ++ selfs cs.length 2).set p (3, (cs.length : Nat)), [(cs.length, h, t)])
noncomputable def putAll : Nat → List (Int × Int) → List Pend → List (Int × Int)
  | n + 1, cs, (p, h, t) :: P => putAll n (put1 (put1 cs p h).1 (p + 1) t).1 (P ++ (put1 cs p h).2 ++ (put1 (put1 cs p h).1 (p + 1) t).2)
  | _, cs, _ => cs
noncomputable def pnodes (P : List Pend) : Nat := (P.map fun x => 1 + x.2.1.nodes + x.2.2.nodes).sum
noncomputable def places (P : List Pend) : List Nat := P.flatMap fun x => [x.1, x.1 + 1]
noncomputable def Fresh (cs : List (Int × Int)) (P : List Pend) : Prop := (places P).Nodup ∧ ∀ a ∈ places P, cs[a]? = some (0, (a : Int))

theorem put1_length (cs : List (Int × Int)) (p : Nat) (t : Tm) : cs.length ≤ (put1 cs p t).1.length := by
  cases t <;> simp [put1, selfs]
theorem put1_len (cs : List (Int × Int)) (p : Nat) (t : Tm) : (put1 cs p t).1.length ≤ cs.length + 2 := by
  cases t <;> simp [put1, selfs]
theorem put1_len_eq (cs : List (Int × Int)) (p : Nat) (t : Tm) : (put1 cs p t).1.length = cs.length + 2 * (put1 cs p t).2.length := by
  cases t <;> simp [put1, selfs]
theorem put1_other {cs : List (Int × Int)} {p : Nat} (t : Tm) {a : Nat} (ha : a < cs.length) (hne : a ≠ p) : (put1 cs p t).1[a]? = cs[a]? := by
  cases t with
  | vr n => rfl
  | sy n => simp [put1, List.getElem?_set, Ne.symm hne]
  | nu n => simp [put1, List.getElem?_set, Ne.symm hne]
  | co h t => simp [put1, List.getElem?_set, Ne.symm hne, List.getElem?_append_left ha]
theorem put1_new (cs : List (Int × Int)) {p : Nat} (hp : p < cs.length) (t : Tm) : ∀ x ∈ (put1 cs p t).2, x.1 = cs.length ∧ (put1 cs p t).1[x.1]? = some (0, (x.1 : Int)) ∧ (put1 cs p t).1[x.1 + 1]? = some (0, ((x.1 + 1 : Nat) : Int)) ∧ (put1 cs p t).1.length = cs.length + 2 := by
  intro x hx
  cases t with
  | co h t =>
    simp only [put1, List.mem_singleton] at hx
    subst hx
    refine (mk0_4 rfl ?_ ?_ (by simp [put1, selfs]))
    · simp only [put1]
      rw [List.getElem?_set_ne (by (first | lia | omega)), List.getElem?_append_right (by (first | lia | omega))]
      simp [selfs]
    · simp only [put1]
      rw [List.getElem?_set_ne (by (first | lia | omega)), List.getElem?_append_right (by (first | lia | omega))]
      simp [selfs]
  | _ => simp [put1] at hx
noncomputable def blks (R : List (CT × CT)) : List Nat := R.flatMap fun r => r.1.blocks ++ r.2.blocks
noncomputable def vrs (R : List (CT × CT)) : List Nat := R.flatMap fun r => r.1.vars ++ r.2.vars
inductive PR (cs : List (Int × Int)) : List Pend → List (CT × CT) → Prop
  | nil : PR cs [] []
  | cons {p : Nat} {h t : Tm} {x y : CT} {P : List Pend} {R : List (CT × CT)} : Sh h x → Sh t y → cs[p]? = some x.cell → cs[p + 1]? = some y.cell → Rp cs x → Rp cs y → PR cs P R → PR cs ((p, h, t) :: P) ((x, y) :: R)
theorem PR.split {cs : List (Int × Int)} {P E : List Pend} {R : List (CT × CT)} (h : PR cs (P ++ E) R) : ∃ R1 R2, R = R1 ++ R2 ∧ PR cs P R1 ∧ PR cs E R2 := by
  induction P generalizing R with
  | nil => exact (mk2_3 [] R rfl .nil h)
  | cons a P ih =>
    cases h with
    | cons a1 a2 a3 a4 a5 a6 r =>
      refine el2_3 (ih r) fun R1 R2 z1 h1 h2 => ?_; subst z1
      exact (mk2_3 (_ :: R1) R2 rfl (.cons a1 a2 a3 a4 a5 a6 h1) h2)
noncomputable def hdB (l : Nat) : Tm → List Nat
  | .co _ _ => [l]
  | _ => []
noncomputable def hdV (p : Nat) : Tm → List Nat
  | .vr _ => [p]
  | _ => []
theorem item_done {cs cs' : List (Int × Int)} {p : Nat} {tm : Tm} {R : List (CT × CT)} (hp : p < cs.length) (h0 : cs[p]? = some (0, (p : Int))) (h : PR cs' (put1 cs p tm).2 R) (hk : cs'[p]? = (put1 cs p tm).1[p]?) :
    ∃ x, Sh tm x ∧ cs'[p]? = some x.cell ∧ Rp cs' x ∧ x.blocks = hdB cs.length tm ++ blks R ∧ x.vars = hdV p tm ++ vrs R := by
  cases tm with
  | vr n => cases h; exact (mk1_5 (.vr p) (.vr n p) (hk.trans h0) (hk.trans h0) rfl rfl)
  | sy n => cases h; exact (mk1_5 (.sy n) (.sy n) (hk.trans (by simp [put1, CT.cell, hp])) trivial rfl rfl)
  | nu n => cases h; exact (mk1_5 (.nu n) (.nu n) (hk.trans (by simp [put1, CT.cell, hp])) trivial rfl rfl)
  | co a b =>
    cases h with
    | cons a1 a2 a3 a4 a5 a6 r =>
      cases r
      refine (mk1_5 (.co cs.length _ _) (.co a1 a2) (hk.trans ?_) ⟨a3, a4, a5, a6⟩ (by simp [CT.blocks, hdB, blks]) (by simp [CT.vars, hdV, vrs]))
      simp only [put1, CT.cell]
      rw [List.getElem?_set_self (by simp; (first | lia | omega))]
theorem places_append (P E : List Pend) : places (P ++ E) = places P ++ places E := by simp [places]
theorem put1_places {cs : List (Int × Int)} {p : Nat} {tm : Tm} : ∀ a ∈ places (put1 cs p tm).2, cs.length ≤ a ∧ a < (put1 cs p tm).1.length := by
  intro a ha
  cases tm with
  | co x y => simp [put1, places, selfs] at ha ⊢; (first | lia | omega)
  | _ => simp [put1, places] at ha
theorem put1_nodup {cs : List (Int × Int)} {p : Nat} {tm : Tm} : (places (put1 cs p tm).2).Nodup := by
  cases tm <;> simp [put1, places]
theorem put1_fresh {cs : List (Int × Int)} {p : Nat} (hp : p < cs.length) {tm : Tm} : ∀ a ∈ places (put1 cs p tm).2, (put1 cs p tm).1[a]? = some (0, (a : Int)) := by
  intro a ha
  refine el1_2 (List.mem_flatMap.mp ha) fun x hx hax => ?_
  refine el0_4 (put1_new cs hp tm x hx) fun _ h2 h3 _ => ?_
  simp only [List.mem_cons, List.mem_nil_iff, or_false] at hax
  rcases hax with rfl | rfl
  · exact h2
  · exact h3
theorem put1_nodes (cs : List (Int × Int)) (p : Nat) (tm : Tm) : pnodes (put1 cs p tm).2 = tm.nodes := by
  cases tm <;> simp [put1, pnodes, Tm.nodes]
theorem pnodes_append (P E : List Pend) : pnodes (P ++ E) = pnodes P + pnodes E := by simp [pnodes]
theorem len_pnodes (P : List Pend) : P.length ≤ pnodes P := by
  induction P with
  | nil => simp [pnodes]
  | cons x P ih => simp [pnodes] at ih ⊢; (first | lia | omega)
theorem hdB_lt {l : Nat} {tm : Tm} : ∀ b ∈ hdB l tm, b = l := by cases tm <;> simp [hdB]
theorem hdV_eq {p : Nat} {tm : Tm} : ∀ b ∈ hdV p tm, b = p := by cases tm <;> simp [hdV]
theorem hdB_nodup {l : Nat} {tm : Tm} : (hdB l tm).Nodup := by cases tm <;> simp [hdB]
theorem hdV_nodup {p : Nat} {tm : Tm} : (hdV p tm).Nodup := by cases tm <;> simp [hdV]
theorem hdB_len {cs : List (Int × Int)} {p : Nat} {tm : Tm} : ∀ b ∈ hdB cs.length tm, b < (put1 cs p tm).1.length := by
  cases tm <;> simp [hdB, put1, selfs]
theorem blks_append (P E : List (CT × CT)) : blks (P ++ E) = blks P ++ blks E := by simp [blks]
theorem vrs_append (P E : List (CT × CT)) : vrs (P ++ E) = vrs P ++ vrs E := by simp [vrs]

theorem fresh_step {cs : List (Int × Int)} {p : Nat} {h t : Tm} {P : List Pend} (F : Fresh cs ((p, h, t) :: P)) : Fresh (put1 (put1 cs p h).1 (p + 1) t).1 (P ++ (put1 cs p h).2 ++ (put1 (put1 cs p h).1 (p + 1) t).2) := by
  refine el0_2 F fun Fn Fs => ?_; try clear F
  have ep : places ((p, h, t) :: P) = p :: (p + 1) :: places P := rfl
  rw [ep] at Fn Fs
  have p0 := Fs p (by simp)
  have p1 := Fs (p + 1) (by simp)
  have hp0 : p < cs.length := (List.getElem?_eq_some_iff.mp p0).1
  have hp1 : p + 1 < cs.length := (List.getElem?_eq_some_iff.mp p1).1
  simp only [List.nodup_cons, List.mem_cons, not_or] at Fn
  obtain ⟨⟨-, fp⟩, fp1, fP⟩ := Fn
  have L1 := put1_length cs p h
  have ltP : ∀ a ∈ places P, a < cs.length := fun a ha => (List.getElem?_eq_some_iff.mp (Fs a (by simp [ha]))).1
  have q1 : ∀ a ∈ places (put1 cs p h).2, cs.length ≤ a ∧ a < (put1 cs p h).1.length := put1_places
  have q2 : ∀ a ∈ places (put1 (put1 cs p h).1 (p + 1) t).2, (put1 cs p h).1.length ≤ a ∧ a < (put1 (put1 cs p h).1 (p + 1) t).1.length := put1_places
  refine ⟨?_, fun a ha => ?_⟩
  · rw [places_append, places_append]
    refine List.nodup_append.mpr ⟨List.nodup_append.mpr ⟨fP, put1_nodup, fun a ha b hb z => ?_⟩, put1_nodup, fun a ha b hb z => ?_⟩
    · have := ltP a ha; have := (q1 b hb).1; (first | lia | omega)
    · have h2 := (q2 b hb).1
      rcases List.mem_append.mp ha with ha | ha
      · have := ltP a ha; (first | lia | omega)
      · have := (q1 a ha).2; (first | lia | omega)
  · rw [places_append, places_append, List.mem_append, List.mem_append] at ha
    rcases ha with (ha | ha) | ha
    · have hl := ltP a ha
      rw [put1_other t (by (first | lia | omega)) (fun (z : a = p + 1) => fp1 (z ▸ ha)), put1_other h hl (fun (z : a = p) => fp (z ▸ ha))]
      exact Fs a (by simp [ha])
    · have hl := q1 a ha
      rw [put1_other t hl.2 (by (first | lia | omega))]
      exact put1_fresh hp0 a ha
    · exact put1_fresh (by (first | lia | omega)) a ha

theorem putAll_spec : ∀ (n : Nat) (cs : List (Int × Int)) (P : List Pend), pnodes P ≤ n → Fresh cs P → cs.length ≤ (putAll n cs P).length ∧ (putAll n cs P).length ≤ cs.length + 2 * (pnodes P - P.length) ∧
    (∀ a, a < cs.length → a ∉ places P → (putAll n cs P)[a]? = cs[a]?) ∧ ∃ R, PR (putAll n cs P) P R ∧ (blks R).Nodup ∧ (∀ b ∈ blks R, cs.length ≤ b) ∧ (vrs R).Nodup ∧ ∀ v ∈ vrs R, v ∈ places P ∨ cs.length ≤ v := by
  intro n
  induction n with
  | zero =>
    intro cs P hn F
    cases P with
    | nil => exact (mk0_4 (Nat.le_refl _) (by simp [putAll, pnodes]) (fun _ _ _ => rfl)  (mk1_5 [] .nil (by simp [blks]) (by simp [blks]) (by simp [vrs]) (by simp [vrs])))
    | cons x P => simp [pnodes] at hn
  | succ n ih =>
    intro cs P hn F
    cases P with
    | nil => exact (mk0_4 (Nat.le_refl _) (by simp [putAll, pnodes]) (fun _ _ _ => rfl)  (mk1_5 [] .nil (by simp [blks]) (by simp [blks]) (by simp [vrs]) (by simp [vrs])))
    | cons x P =>
      obtain ⟨p, h, t⟩ := x
      refine el0_2 F fun Fn Fs => ?_; try clear F
      have ep : places ((p, h, t) :: P) = p :: (p + 1) :: places P := rfl
      rw [ep] at Fn Fs
      have p0 := Fs p (by simp)
      have p1 := Fs (p + 1) (by simp)
      have hp0 : p < cs.length := (List.getElem?_eq_some_iff.mp p0).1
      have hp1 : p + 1 < cs.length := (List.getElem?_eq_some_iff.mp p1).1
      simp only [List.nodup_cons, List.mem_cons, not_or] at Fn
      obtain ⟨⟨-, fp⟩, fp1, fP⟩ := Fn
      have L1 := put1_length cs p h
      have L1' := put1_len cs p h
      generalize hr1 : put1 cs p h = r1 at L1 L1' ⊢
      have p1' : r1.1[p + 1]? = some (0, ((p + 1 : Nat) : Int)) := by rw [← hr1, put1_other h hp1 (by (first | lia | omega))]; exact p1
      have hp1' : p + 1 < r1.1.length := by (first | lia | omega)
      have L2 := put1_length r1.1 (p + 1) t
      generalize hr2 : put1 r1.1 (p + 1) t = r2 at L2 ⊢
      have e : putAll (n + 1) cs ((p, h, t) :: P) = putAll n r2.1 (P ++ r1.2 ++ r2.2) := by rw [putAll, hr1, hr2]
      rw [e]
      have nodes : pnodes (P ++ r1.2 ++ r2.2) + 1 = pnodes ((p, h, t) :: P) := by
        rw [pnodes_append, pnodes_append, ← hr1, ← hr2, put1_nodes, put1_nodes]; simp [pnodes]; (first | lia | omega)
      have ltP : ∀ a ∈ places P, a < cs.length := fun a ha => (List.getElem?_eq_some_iff.mp (Fs a (by simp [ha]))).1
      have q1 : ∀ a ∈ places r1.2, cs.length ≤ a ∧ a < r1.1.length := by rw [← hr1]; exact put1_places
      have q2 : ∀ a ∈ places r2.2, r1.1.length ≤ a ∧ a < r2.1.length := by rw [← hr2]; exact put1_places
      have keep1 : ∀ a, a < cs.length → a ≠ p → r1.1[a]? = cs[a]? := fun a ha hne => by rw [← hr1]; exact put1_other h ha hne
      have keep2 : ∀ a, a < r1.1.length → a ≠ p + 1 → r2.1[a]? = r1.1[a]? := fun a ha hne => by rw [← hr2]; exact put1_other t ha hne
      have F' : Fresh r2.1 (P ++ r1.2 ++ r2.2) := by
        refine ⟨?_, fun a ha => ?_⟩
        · rw [places_append, places_append]
          refine List.nodup_append.mpr ⟨List.nodup_append.mpr ⟨fP, by rw [← hr1]; exact put1_nodup, fun a ha b hb z => ?_⟩, by rw [← hr2]; exact put1_nodup, fun a ha b hb z => ?_⟩
          · have := ltP a ha; have := (q1 b hb).1; (first | lia | omega)
          · have h2 := (q2 b hb).1
            rcases List.mem_append.mp ha with ha | ha
            · have := ltP a ha; (first | lia | omega)
            · have := (q1 a ha).2; (first | lia | omega)
        · rw [places_append, places_append, List.mem_append, List.mem_append] at ha
          rcases ha with (ha | ha) | ha
          · have hl := ltP a ha
            rw [keep2 a (by (first | lia | omega)) (fun z => fp1 (z ▸ ha)), keep1 a hl (fun z => fp (z ▸ ha))]
            exact Fs a (by simp [ha])
          · have hl := q1 a ha
            rw [keep2 a hl.2 (by (first | lia | omega))]
            have := put1_fresh (tm := h) hp0 a
            rw [hr1] at this
            exact this ha
          · have := put1_fresh (tm := t) hp1' a
            rw [hr2] at this
            exact this ha
      obtain ⟨k1, k1', k2, R, hR, kb, kbl, kv, kvl⟩ := ih r2.1 (P ++ r1.2 ++ r2.2) (by (first | lia | omega)) F'
      refine el2_3 hR.split fun Rx R2 z2 hRx hR2 => ?_; subst z2
      refine el2_3 hRx.split fun R' R1 z3 hR' hR1 => ?_; subst z3
      have npx : ∀ {a : Nat}, a < cs.length → a ∉ places P → a ∉ places (P ++ r1.2 ++ r2.2) := fun {a} hl hP ha => by
        rw [places_append, places_append, List.mem_append, List.mem_append] at ha
        rcases ha with (ha | ha) | ha
        · exact hP ha
        · have := (q1 a ha).1; (first | lia | omega)
        · have := (q2 a ha).1; (first | lia | omega)
      have kp : (putAll n r2.1 (P ++ r1.2 ++ r2.2))[p]? = (put1 cs p h).1[p]? := by
        rw [k2 p (by (first | lia | omega)) (npx hp0 fp), keep2 p (by (first | lia | omega)) (by (first | lia | omega)), hr1]
      have kp1 : (putAll n r2.1 (P ++ r1.2 ++ r2.2))[p + 1]? = (put1 r1.1 (p + 1) t).1[p + 1]? := by
        rw [k2 (p + 1) (by (first | lia | omega)) (npx hp1 fp1), hr2]
      obtain ⟨x, x1, x2, x3, x4, x5⟩ := item_done (tm := h) hp0 p0 (by rw [hr1]; exact hR1) kp
      obtain ⟨y, y1, y2, y3, y4, y5⟩ := item_done (tm := t) hp1' p1' (by rw [hr2]; exact hR2) kp1
      have hlt1 : ∀ b ∈ hdB cs.length h, b < r1.1.length := by have := hdB_len (cs := cs) (p := p) (tm := h); rwa [hr1] at this
      have hlt2 : ∀ b ∈ hdB r1.1.length t, b < r2.1.length := by have := hdB_len (cs := r1.1) (p := p + 1) (tm := t); rwa [hr2] at this
      have e1 := put1_len_eq cs p h
      have e2 := put1_len_eq r1.1 (p + 1) t
      rw [hr1] at e1
      rw [hr2] at e2
      have np := len_pnodes (P ++ r1.2 ++ r2.2)
      have np2 : (P ++ r1.2 ++ r2.2).length = P.length + r1.2.length + r2.2.length := by simp; (first | lia | omega)
      refine (mk0_4 (by (first | lia | omega)) ?_ (fun a ha hn => ?_)  (mk1_5 ((x, y) :: R') (.cons x1 y1 x2 y2 x3 y3 hR') ?_ ?_ ?_ ?_))
      · simp only [List.length_cons]; (first | lia | omega)
      · simp only [ep, List.mem_cons, not_or] at hn
        rw [k2 a (by (first | lia | omega)) (npx ha hn.2.2), keep2 a (by (first | lia | omega)) hn.2.1, keep1 a ha hn.1]
      · have pm : (blks ((x, y) :: R')).Perm (hdB cs.length h ++ (hdB r1.1.length t ++ blks (R' ++ R1 ++ R2))) := by
          rw [List.perm_iff_count]
          intro a
          simp only [blks_append, show blks ((x, y) :: R') = x.blocks ++ y.blocks ++ blks R' from rfl, x4, y4, List.count_append]
          (first | lia | omega)
        refine pm.nodup_iff.mpr (List.nodup_append.mpr ⟨hdB_nodup, List.nodup_append.mpr ⟨hdB_nodup, kb, fun a ha b hb z => ?_⟩, fun a ha b hb z => ?_⟩)
        · have := hlt2 a ha; have := kbl b hb; (first | lia | omega)
        · have h1 := hlt1 a ha
          rcases List.mem_append.mp hb with hb | hb
          · have := hdB_lt b hb; (first | lia | omega)
          · have := kbl b hb; (first | lia | omega)
      · intro b hb
        simp only [show blks ((x, y) :: R') = x.blocks ++ y.blocks ++ blks R' from rfl, x4, y4, List.mem_append] at hb
        have all : b ∈ blks (R' ++ R1 ++ R2) → cs.length ≤ b := fun z => by have := kbl b z; (first | lia | omega)
        rcases hb with ((hb | hb) | (hb | hb)) | hb
        · have := hdB_lt b hb; (first | lia | omega)
        · exact all (by simp [blks_append, hb])
        · have := hdB_lt b hb; (first | lia | omega)
        · exact all (by simp [blks_append, hb])
        · exact all (by simp [blks_append, hb])
      · have pm : (vrs ((x, y) :: R')).Perm (hdV p h ++ (hdV (p + 1) t ++ vrs (R' ++ R1 ++ R2))) := by
          rw [List.perm_iff_count]
          intro a
          simp only [vrs_append, show vrs ((x, y) :: R') = x.vars ++ y.vars ++ vrs R' from rfl, x5, y5, List.count_append]
          (first | lia | omega)
        have no : ∀ b ∈ vrs (R' ++ R1 ++ R2), b ≠ p ∧ b ≠ p + 1 := fun b hb => by
          rcases kvl b hb with z | z
          · exact ⟨fun q => npx hp0 fp (q ▸ z), fun q => npx hp1 fp1 (q ▸ z)⟩
          · (first | lia | omega)
        refine pm.nodup_iff.mpr (List.nodup_append.mpr ⟨hdV_nodup, List.nodup_append.mpr ⟨hdV_nodup, kv, fun a ha b hb z => ?_⟩, fun a ha b hb z => ?_⟩)
        · have h1 := hdV_eq a ha; exact (no b hb).2 (z ▸ h1)
        · have h1 := hdV_eq a ha
          rcases List.mem_append.mp hb with hb | hb
          · have := hdV_eq b hb; (first | lia | omega)
          · exact (no b hb).1 (z ▸ h1)
      · intro b hb
        simp only [show vrs ((x, y) :: R') = x.vars ++ y.vars ++ vrs R' from rfl, x5, y5, List.mem_append] at hb
        have all : b ∈ vrs (R' ++ R1 ++ R2) → b ∈ places ((p, h, t) :: P) ∨ cs.length ≤ b := fun z => by
          rcases kvl b z with w | w
          · rw [places_append, places_append, List.mem_append, List.mem_append] at w
            rcases w with (w | w) | w
            · exact .inl (by rw [ep]; simp [w])
            · exact .inr (q1 b w).1
            · have := (q2 b w).1; exact .inr (by (first | lia | omega))
          · exact .inr (by (first | lia | omega))
        rcases hb with ((hb | hb) | (hb | hb)) | hb
        · exact .inl (by rw [ep, hdV_eq b hb]; simp)
        · exact all (by simp [vrs_append, hb])
        · exact .inl (by rw [ep, hdV_eq b hb]; simp)
        · exact all (by simp [vrs_append, hb])
        · exact all (by simp [vrs_append, hb])
section
variable {lv : Nat} {c : Cx} {E : ER} {m : Loc} {H : AH} {Q : V → AH → Prop} {np pos : Pos} {e : Expr}
theorem Ev.listD0 (hc : CxOk lv c) (hx : c.env.kindOf "list" = some .globalImplicit) (h : Ev c E e m H fun a H₁ => ∃ p, a = .ref p ∧ H₁ p = some (.dictI []) ∧ ∀ a, H₁ a = .none → Q (.ref a) (H₁.set a (.list [])))
    (he : eval (.Call (.Name "list" np) [e] [] pos) c.env = (do callWith pos (← eval (.Name "list" np) c.env) [] (backTo pos (starEach [e] c.env)) (backToKw pos (keywordEach [] c.env))) := by rfl)
    (hst : starEach [e] c.env = (false, eval e c.env) :: starEach [] c.env := by rfl) : Ev c E (.Call (.Name "list" np) [e] [] pos) m H Q := by
  refine Ev.call hc hx (gv_list _) (keep_type _) (Evs.cons (h.mono ?_) hst) (by decide) he hst rfl
  rintro _ H' ⟨p, rfl, hp, q⟩
  refine Evs.nil fun vs s r R => ?_
  cases r with | cons a r =>
    cases r; cases a
    refine el1_2 (R.objs p _ hp) fun rows hd rr => ?_
    have hr : rows = [] := by have := rr.length; simpa using this
    subst hr
    refine el1_1 hd.dictAt fun ep hat => ?_
    refine kdl_call (kdl_dict (knd := intKind pw c.w) (kvs := []) (ep := ep) (R.ne_mods hp)) hc.handled hat (by decide) fun h' tk acc' c' hk hD hacc => ?_
    have ha : acc' = #[] := by have := hacc.1; simpa using this
    subst ha
    exact R.hereN (o := .list []) hk (size_none s.heap) ⟨[], c', hD, .nil⟩ q
end
noncomputable def pendV (x : Pend) : V := .tup [.int x.1, .tup [x.2.1.val, x.2.2.val]]
noncomputable abbrev ptW : Stmt := nthS (fnBody (methS 31 3)) 8
noncomputable def Tm.head : Tm → List Nat
  | .vr n => [n]
  | _ => []
theorem val_str (tm : Tm) : ∃ s r, tm.val = .tup (.str s :: r) ∧ s = (match tm with | .vr _ => "v" | .sy _ => "a" | .nu _ => "i" | .co _ _ => "s" : Str) := by
  cases tm <;> exact (mk2_2 _ _ rfl rfl)
section
variable {k : StA} {sy : Addr} {tb wa : Addr} {H₀ : AH}
structure PH (k : StA) (sy tb wa : Addr) (H : AH) (cs : List (Int × Int)) (W : List V) (D : List (Int × V)) (H₀ : AH) : Prop where
  S : St k sy H cs
  hw : H wa = some (.list W)
  ht : H tb = some (.dictI D)
  off : ∀ a o, H₀ a = some o → a ≠ k.hp → a ≠ tb → a ≠ wa → H a = some o
theorem PH.putS {H : AH} {cs : List (Int × Int)} {W : List V} {D : List (Int × V)} (h : PH k sy tb wa H cs W D H₀) (h1 : wa ≠ k.hp) (h2 : tb ≠ k.hp) (ds : List (Int × Int)) : PH k sy tb wa (H.set k.hp (.list (ds.map cv))) ds W D H₀ :=
  ⟨h.S.put ds, AH.other h1 h.hw, AH.other h2 h.ht, fun a o e a1 a2 a3 => AH.other a1 (h.off a o e a1 a2 a3)⟩
theorem PH.putW {H : AH} {cs : List (Int × Int)} {W : List V} {D : List (Int × V)} (h : PH k sy tb wa H cs W D H₀) (h1 : wa ≠ k.hp) (h2 : tb ≠ wa) (W' : List V) : PH k sy tb wa (H.set wa (.list W')) cs W' D H₀ :=
  ⟨h.S.setP h.hw rfl h1, AH.set_self .., AH.other h2 h.ht, fun a o e a1 a2 a3 => AH.other a3 (h.off a o e a1 a2 a3)⟩
theorem PH.putD {H : AH} {cs : List (Int × Int)} {W : List V} {D : List (Int × V)} (h : PH k sy tb wa H cs W D H₀) (h1 : tb ≠ k.hp) (h2 : tb ≠ wa) (D' : List (Int × V)) : PH k sy tb wa (H.set tb (.dictI D')) cs W D' H₀ :=
  ⟨h.S.setP h.ht rfl h1, AH.other (Ne.symm h2) h.hw, AH.set_self .., fun a o e a1 a2 a3 => AH.other a2 (h.off a o e a1 a2 a3)⟩
theorem PH.same {H H' : AH} {cs cs' : List (Int × Int)} {W : List V} {D : List (Int × V)} (h : PH k sy tb wa H cs W D H₀) (h1 : wa ≠ k.hp) (h2 : tb ≠ k.hp) (hk : ∀ a, a ≠ k.hp → H' a = H a) (S : St k sy H' cs') : PH k sy tb wa H' cs' W D H₀ :=
  ⟨S, (hk _ h1).trans h.hw, (hk _ h2).trans h.ht, fun a o e a1 a2 a3 => (hk a a1).trans (h.off a o e a1 a2 a3)⟩
structure PL (k : StA) (tb wa : Addr) (m : Loc) : Prop where
  self : m "self" = some (.ref k.st)
  table : m "table" = some (.ref tb)
  waiting : m "waiting" = some (.ref wa)
noncomputable def putNames : List Str := ["self", "table", "waiting"]
theorem PL.set {m : Loc} (h : PL k tb wa m) {x : Str} {d : V} (hx : x ∉ putNames) : PL k tb wa (m.set x d) := by
  simp only [putNames, List.mem_cons, List.mem_nil_iff, or_false, not_or] at hx
  exact ⟨Loc.other (Ne.symm hx.1) h.self, Loc.other (Ne.symm hx.2.1) h.table, Loc.other (Ne.symm hx.2.2) h.waiting⟩
theorem put_item {c : Cx} (hc : CxOk 3 c) (hs : c.env.scope = fnScope (methS 31 3)) (n1 : wa ≠ k.hp) (n2 : tb ≠ k.hp) (n3 : tb ≠ wa) {cs : List (Int × Int)} (hl : cs.length + 2 ≤ 2000) {W : List V} (hW : W.length ≤ 900) {D : List (Int × V)} (hD : D.length ≤ 900) {m : Loc} {H : AH} (L : PL k tb wa m) (h : PH k sy tb wa H cs W D H₀)
    {p : Nat} (hp : cs[p]? = some (0, (p : Int))) {tm : Tm} (hpl : m "place" = some (.int (p : Nat))) (hit : m "item" = some tm.val) {at_ : V} (hat : m "at" = some at_) {mk : V} (hmk : m "made" = some mk) (hnv : ∀ v ∈ tm.vars, dget D (v : Int) = none) {Q : Fl → Loc → AH → Prop}
    (q : ∀ m' H' D', PL k tb wa m' → m' "place" = some (.int ((p + 1 : Nat) : Int)) → m' "at" = some at_ → m' "made" = some mk → PH k sy tb wa H' (put1 cs p tm).1 (W ++ (put1 cs p tm).2.map pendV) D' H₀ → D'.length ≤ D.length + 1 → (∀ v : Nat, v ∉ tm.head → dget D' (v : Int) = dget D (v : Int)) → Q .next m' H') :
    Exs c (fun _ _ => False) (bodyOf (nthS (bodyOf ptW) 2)) m H Q := by
  conv at hs =>
    rhs
    whnf
  conv =>
    arg 3
    whnf
  have l1 := L.self
  have l2 := L.table
  have l3 := L.waiting
  have i1 := h.S.inst
  have hpl' : p < cs.length := (List.getElem?_eq_some_iff.mp hp).1
  cases tm with
  | vr n =>
    have hn : dget D (n : Int) = none := hnv n (by simp [Tm.vars])
    repeat isplit
    refine Ev.subT ?_
    repeat isplit
    refine (mk1_2 _ rfl (Op2.item_tup (k := 0) (d := .str "v") rfl rfl (by simp) ?_))
    repeat isplit
    refine Op2.str_eq ⟨_, rfl, ?_⟩
    rw [if_pos (by decide +kernel)]
    repeat isplit
    refine Ev.subT ?_
    repeat isplit
    refine (mk1_2 _ rfl (Op2.item_tup (k := 1) (d := .int (n : Nat)) rfl rfl (by simp) ?_))
    repeat isplit
    refine Op2.in_ (k := (n : Int)) keyedI h.ht ⟨_, rfl, ?_⟩
    rw [hn, if_neg (by simp)]
    repeat isplit
    refine ⟨?_, by simp⟩
    repeat isplit
    refine Ev.subT ?_
    repeat isplit
    refine (mk1_2 _ rfl (Op2.item_tup (k := 1) (d := .int (n : Nat)) rfl rfl (by simp) ?_))
    refine Op3.set_dict (k := (n : Int)) keyedI h.ht (by (first | lia | omega)) ?_
    refine Exs.nil (Exs.nil ?_)
    refine Exs.augName hc (by nest_cls) (by one_item) ?_
    repeat isplit
    refine Op2.int_iadd ?_
    repeat isplit
    refine q _ _ _ ((L.set (by decide +kernel)).set (by decide +kernel)) (by one_item) (by one_item) (by one_item) ?_ (dput_length D (n : Int) (.tup [.int 0, .int (p : Nat)])) fun v hv => ?_
    · have z := h.putD n2 n3 (dput D (n : Int) (.tup [.int 0, .int (p : Nat)]))
      rw [show W ++ List.map pendV (put1 cs p (.vr n)).2 = W from List.append_nil W]
      exact z
    · rw [dget_dput, if_neg (by simp [Tm.head] at hv; (first | lia | omega))]
  | sy n =>
    repeat isplit
    refine Ev.subT ?_
    repeat isplit
    refine (mk1_2 _ rfl (Op2.item_tup (k := 0) (d := .str "a") rfl rfl (by simp) ?_))
    repeat isplit
    refine Op2.str_eq ⟨_, rfl, ?_⟩
    rw [if_neg (by decide +kernel)]
    repeat isplit
    refine Op2.str_eq ⟨_, rfl, ?_⟩
    rw [if_pos (by decide +kernel)]
    repeat isplit
    refine Ev.subT ?_
    repeat isplit
    refine (mk1_2 _ rfl (Op2.item_tup (k := 1) (d := .int n) rfl rfl (by simp) ?_))
    repeat isplit
    refine ⟨?_, by simp⟩
    repeat isplit
    refine Op3.set_list (k := p) (d := cv (4, n)) h.S.hp rfl (by simp; (first | lia | omega)) (by simp; (first | lia | omega)) ?_
    rw [map_set']
    have h' := h.putS n1 n2 (cs.set p (4, n))
    repeat isplit
    refine Exs.augName hc (by nest_cls) (by one_item) ?_
    repeat isplit
    refine Op2.int_iadd ?_
    repeat isplit
    exact q _ _ D ((L.set (by decide +kernel)).set (by decide +kernel)) (by one_item) (by one_item) (by one_item) (by simpa [put1] using h') (by (first | lia | omega)) fun v hv => rfl
  | nu n =>
    repeat isplit
    refine Ev.subT ?_
    repeat isplit
    refine (mk1_2 _ rfl (Op2.item_tup (k := 0) (d := .str "i") rfl rfl (by simp) ?_))
    repeat isplit
    refine Op2.str_eq ⟨_, rfl, ?_⟩
    rw [if_neg (by decide +kernel)]
    repeat isplit
    refine Op2.str_eq ⟨_, rfl, ?_⟩
    rw [if_neg (by decide +kernel)]
    repeat isplit
    refine Op2.str_eq ⟨_, rfl, ?_⟩
    rw [if_pos (by decide +kernel)]
    repeat isplit
    refine Ev.subT ?_
    repeat isplit
    refine (mk1_2 _ rfl (Op2.item_tup (k := 1) (d := .int n) rfl rfl (by simp) ?_))
    repeat isplit
    refine ⟨?_, by simp⟩
    repeat isplit
    refine Op3.set_list (k := p) (d := cv (5, n)) h.S.hp rfl (by simp; (first | lia | omega)) (by simp; (first | lia | omega)) ?_
    rw [map_set']
    have h' := h.putS n1 n2 (cs.set p (5, n))
    repeat isplit
    refine Exs.augName hc (by nest_cls) (by one_item) ?_
    repeat isplit
    refine Op2.int_iadd ?_
    repeat isplit
    exact q _ _ D ((L.set (by decide +kernel)).set (by decide +kernel)) (by one_item) (by one_item) (by one_item) (by simpa [put1] using h') (by (first | lia | omega)) fun v hv => rfl
  | co th tt =>
    repeat isplit
    refine Ev.subT ?_
    repeat isplit
    refine (mk1_2 _ rfl (Op2.item_tup (k := 0) (d := .str "s") rfl rfl (by simp) ?_))
    repeat isplit
    refine Op2.str_eq ⟨_, rfl, ?_⟩
    rw [if_neg (by decide +kernel)]
    repeat isplit
    refine Op2.str_eq ⟨_, rfl, ?_⟩
    rw [if_neg (by decide +kernel)]
    repeat isplit
    refine Op2.str_eq ⟨_, rfl, ?_⟩
    rw [if_neg (by decide +kernel)]
    repeat isplit
    refine Ev.im ?_
    repeat isplit
    refine (mk5_5 _ _ _ _ 342 rfl h.S.inst (mk_meth (by kernel_rfl) (by kernel_rfl) (by kernel_rfl) (by kernel_rfl) (by kernel_rfl)) (by rfl) ?_)
    repeat isplit
    refine Ev.subT ?_
    repeat isplit
    refine (mk1_2 _ rfl (Op2.item_tup (k := 1) (d := .int 0) rfl rfl (by simp) ?_))
    repeat isplit
    refine (new_block_ok h.S hl fun H' k' S' => ?_).at hc
    have es : selfs cs.length 2 = [(0, ((cs.length : Nat) : Int)), (0, ((cs.length + 1 : Nat) : Int))] := rfl
    rw [← es] at S'
    have h1 := h.same n1 n2 k' S'
    have i2 := h1.S.inst
    have ln : (cs ++ selfs cs.length 2).length = cs.length + 2 := by simp [selfs]
    repeat isplit
    refine Op3.set_list (k := p) (d := cv (3, (cs.length : Nat))) h1.S.hp rfl (by rw [List.length_map, ln]; (first | lia | omega)) (by rw [List.length_map, ln]; (first | lia | omega)) ?_
    rw [map_set']
    have h2 := h1.putS n1 n2 ((cs ++ selfs cs.length 2).set p (3, (cs.length : Nat)))
    have i3 := h2.S.inst
    repeat isplit
    refine Ev.append ?_
    repeat isplit
    refine (mk2_3 _ _ rfl h2.hw ?_)
    repeat isplit
    refine Ev.im ?_
    repeat isplit
    refine (mk5_5 _ _ _ _ 328 rfl h2.S.inst (mk_meth (by kernel_rfl) (by kernel_rfl) (by kernel_rfl) (by kernel_rfl) (by kernel_rfl)) (by rfl) ?_)
    repeat isplit
    refine (base_ok (a := ((cs.length : Nat) : Int)) ?_).at hc
    repeat isplit
    refine Ev.subT ?_
    repeat isplit
    refine (mk1_2 _ rfl (Op2.item_tup (k := 2) (d := .tup [th.val, tt.val]) rfl rfl (by simp) ?_))
    repeat isplit
    refine ⟨?_, by simp⟩
    refine (mk1_5 _ h2.hw (by (first | lia | omega)) nofun nofun ?_)
    have h3 := h2.putW n1 n3 (W ++ [pendV (cs.length, th, tt)])
    repeat isplit
    refine Exs.augName hc (by nest_cls) (by one_item) ?_
    repeat isplit
    refine Op2.int_iadd ?_
    repeat isplit
    exact q _ _ D (((L.set (by decide +kernel)).set (by decide +kernel)).set (by decide +kernel)) (by one_item) (by one_item) (by one_item) h3 (by (first | lia | omega)) fun v hv => rfl
end
noncomputable def pvars (P : List Pend) : List Nat := P.flatMap fun x => x.2.1.vars ++ x.2.2.vars
theorem pvars_append (P E : List Pend) : pvars (P ++ E) = pvars P ++ pvars E := by simp [pvars]
theorem put1_vars (cs : List (Int × Int)) (p : Nat) (tm : Tm) : tm.vars = tm.head ++ pvars (put1 cs p tm).2 := by
  cases tm <;> simp [put1, pvars, Tm.vars, Tm.head]
section
variable {k : StA} {sy : Addr} {tb wa : Addr} {H₀ : AH}
theorem put_loop {c : Cx} (hc : CxOk 3 c) (hs : c.env.scope = fnScope (methS 31 3)) (n1 : wa ≠ k.hp) (n2 : tb ≠ k.hp) (n3 : tb ≠ wa) {mk : V} {Q : Fl → Loc → AH → Prop} : ∀ (n : Nat) (P : List Pend) (cs : List (Int × Int)) (W : List V) (i : Nat) (D : List (Int × V)) (m : Loc) (H : AH),
    pnodes P ≤ n → Fresh cs P → W.drop i = P.map pendV → i ≤ W.length → PL k tb wa m → m "at" = some (.int (i : Nat)) → m "made" = some mk → PH k sy tb wa H cs W D H₀ → (pvars P).Nodup → (∀ v ∈ pvars P, dget D (v : Int) = none) →
    cs.length + 4 * n ≤ 1900 → W.length + 2 * n ≤ 900 → D.length + 2 * n ≤ 900 → (∀ m' H' W' D', PL k tb wa m' → m' "made" = some mk → PH k sy tb wa H' (putAll n cs P) W' D' H₀ → Q .next m' H') →
    Wh c (fun _ _ => False) (testOf ptW) (bodyOf ptW) (n + 1) m H Q := by
  have hs0 := hs
  conv at hs =>
    rhs
    whnf
  intro n
  induction n with
  | zero =>
    intro P cs W i D m H hn F hd hi L hat hmk h hv hD b1 b2 b3 q
    cases P with
    | cons x P => simp [pnodes] at hn
    | nil =>
      have hW : W.length = i := by have := List.drop_eq_nil_iff.mp hd; (first | lia | omega)
      have l3 := L.waiting
      show Tr _ _ _ _ _ _
      conv =>
        arg 3
        whnf
      repeat isplit
      refine Ev.lenL hc (by nest_cls) ?_
      repeat isplit
      refine (mk2_4 _ _ rfl h.hw (by (first | lia | omega)) ?_)
      refine Op2.int_lt ⟨_, rfl, ?_⟩
      rw [if_neg (by simp; (first | lia | omega))]
      exact q m H W D L hmk h
  | succ n ih =>
    intro P cs W i D m H hn F hd hi L hat hmk h hv hD b1 b2 b3 q
    have l3 := L.waiting
    cases P with
    | nil =>
      have hW : W.length = i := by have := List.drop_eq_nil_iff.mp hd; (first | lia | omega)
      show Tr _ _ _ _ _ _
      conv =>
        arg 3
        whnf
      repeat isplit
      refine Ev.lenL hc (by nest_cls) ?_
      repeat isplit
      refine (mk2_4 _ _ rfl h.hw (by (first | lia | omega)) ?_)
      refine Op2.int_lt ⟨_, rfl, ?_⟩
      rw [if_neg (by simp; (first | lia | omega))]
      exact q m H W D L hmk h
    | cons x P =>
      obtain ⟨p, th, tt⟩ := x
      have hi' : i < W.length := by
        rcases Nat.lt_or_ge i W.length with z | z
        · exact z
        · rw [List.drop_eq_nil_of_le z] at hd; cases hd
      rw [List.drop_eq_getElem_cons hi', List.map_cons, List.cons.injEq] at hd
      refine el0_2 hd fun hx hd' => ?_; try clear hd
      have hWi : W[i]? = some (pendV (p, th, tt)) := by rw [List.getElem?_eq_getElem hi', hx]
      have nodes : pnodes (P ++ (put1 cs p th).2 ++ (put1 (put1 cs p th).1 (p + 1) tt).2) + 1 = pnodes ((p, th, tt) :: P) := by
        rw [pnodes_append, pnodes_append, put1_nodes, put1_nodes]; simp [pnodes]; (first | lia | omega)
      have p0 := F.2 p (by simp [places])
      have p1 := F.2 (p + 1) (by simp [places])
      have hp0 := (List.getElem?_eq_some_iff.mp p0).1
      have hp1 := (List.getElem?_eq_some_iff.mp p1).1
      have e1 := put1_len cs p th
      have e1' := put1_len (put1 cs p th).1 (p + 1) tt
      have ev : pvars ((p, th, tt) :: P) = (th.head ++ pvars (put1 cs p th).2) ++ (tt.head ++ pvars (put1 (put1 cs p th).1 (p + 1) tt).2) ++ pvars P := by
        rw [← put1_vars, ← put1_vars]; rfl
      rw [ev] at hv hD
      show Tr _ _ _ _ _ _
      conv =>
        arg 3
        whnf
      repeat isplit
      refine Ev.lenL hc (by nest_cls) ?_
      repeat isplit
      refine (mk2_4 _ _ rfl h.hw (by (first | lia | omega)) ?_)
      refine Op2.int_lt ⟨_, rfl, ?_⟩
      rw [if_pos (by simp; (first | lia | omega))]
      conv =>
        arg 3
        whnf
      repeat isplit
      refine Ev.subL ?_
      repeat isplit
      refine (mk2_3 _ _ rfl h.hw (Op2.item_list (k := i) h.hw rfl hWi (by (first | lia | omega)) ?_))
      refine (mk2_2 _ _ rfl ?_)
      refine Exs.augName hc (by nest_cls) (by one_item) ?_
      repeat isplit
      refine Op2.int_iadd ?_
      refine Exs.cons (Ex.forT hc .never (by nest_cls) ?_)
      repeat isplit
      refine (mk1_2 [th.val, tt.val] rfl ?_)
      refine ⟨trivial, ?_⟩
      refine put_item hc hs0 n1 n2 n3 (by (first | lia | omega)) (by (first | lia | omega)) (by (first | lia | omega)) ((((L.set (by decide +kernel)).set (by decide +kernel)).set (by decide +kernel)).set (by decide +kernel)) h p0 (tm := th) (by one_item) (by one_item) (by one_item) (by one_item) (fun v hv' => hD v (by rw [← put1_vars]; simp [hv'])) fun m1 H1 D1 L1 a1 a2 a3 h1 d1 d2 => ?_
      refine ⟨trivial, ?_⟩
      have sep : ∀ v ∈ tt.vars, v ∉ th.head := fun v hv' hq => by
        rw [← put1_vars (put1 cs p th).1 (p + 1) tt] at hv
        have := (List.nodup_append.mp (List.nodup_append.mp hv).1).2.2 v (by simp [hq]) v hv'
        exact this rfl
      refine put_item hc hs0 n1 n2 n3 (by (first | lia | omega)) (by have e := put1_len_eq cs p th; simp; (first | lia | omega)) (by (first | lia | omega)) (L1.set (by decide +kernel)) h1 (tm := tt) (p := p + 1) (by rw [put1_other th hp1 (by (first | lia | omega))]; exact p1) (by one_item) (by one_item) (by one_item) (by one_item)
        (fun v hv' => by rw [d2 v (sep v hv')]; exact hD v (by rw [← put1_vars (put1 cs p th).1 (p + 1) tt]; simp [hv'])) fun m2 H2 D2 L2 b4 b5 b6 h2 d3 d4 => ?_
      refine ⟨trivial, ?_⟩
      repeat isplit
      have el1 := put1_len_eq cs p th
      have el2 := put1_len_eq (put1 cs p th).1 (p + 1) tt
      rw [show ((i : Nat) : Int) + 1 = ((i + 1 : Nat) : Int) by (first | lia | omega)] at b5
      have F' : Fresh (put1 (put1 cs p th).1 (p + 1) tt).1 (P ++ (put1 cs p th).2 ++ (put1 (put1 cs p th).1 (p + 1) tt).2) := fresh_step F
      refine ih (P ++ (put1 cs p th).2 ++ (put1 (put1 cs p th).1 (p + 1) tt).2) _ _ (i + 1) D2 m2 H2 (by (first | lia | omega)) F' ?_ (by simp; (first | lia | omega)) L2 b5 b6 h2 ?_ ?_ (by (first | lia | omega)) (by simp; (first | lia | omega)) (by (first | lia | omega)) fun m' H' W' D' L' mk' h' => q m' H' W' D' L' mk' h'
      · rw [List.append_assoc, List.drop_append_of_le_length (by (first | lia | omega)), hd']; simp
      · rw [pvars_append, pvars_append]
        refine (List.Perm.nodup_iff ?_).mp ((List.Sublist.nodup (l₁ := pvars (put1 cs p th).2 ++ pvars (put1 (put1 cs p th).1 (p + 1) tt).2 ++ pvars P) ?_) hv)
        · rw [List.perm_iff_count]; intro a; simp only [List.count_append]; (first | lia | omega)
        · exact ((List.sublist_append_right _ _).append (List.sublist_append_right _ _)).append (List.Sublist.refl _)
      · intro v hv'
        have nin : v ∉ th.head ∧ v ∉ tt.head := by
          rw [pvars_append, pvars_append, List.mem_append, List.mem_append] at hv'
          rw [List.nodup_append, List.nodup_append, List.nodup_append, List.nodup_append] at hv
          obtain ⟨⟨⟨-, -, x1⟩, ⟨-, -, x2⟩, x3⟩, -, x4⟩ := hv
          constructor
          · intro z
            rcases hv' with (w | w) | w
            · exact x4 v (by simp [z]) v w rfl
            · exact x1 v z v w rfl
            · exact x3 v (by simp [z]) v (by simp [w]) rfl
          · intro z
            rcases hv' with (w | w) | w
            · exact x4 v (by simp [z]) v w rfl
            · exact x3 v (by simp [w]) v (by simp [z]) rfl
            · exact x2 v z v w rfl
        rw [d4 v nin.2, d2 v nin.1]
        refine hD v ?_
        rw [pvars_append, pvars_append, List.mem_append, List.mem_append] at hv'
        rcases hv' with (w | w) | w <;> simp [w]
end
section
variable {k : StA} {sy : Addr} {H : AH} {cs : List (Int × Int)}
theorem put_term_ok {w : World} (S : St k sy H cs) {tm : Tm} (hl : cs.length + 4 * tm.nodes ≤ 1000) (hn : tm.nodes ≤ 100) (hv : tm.vars.Nodup) {tb : Addr} (htb : H tb = some (.dictI [])) (n2 : tb ≠ k.hp) {Q : V → AH → Prop}
    (q : ∀ H' cs' ct, Off [k.hp, tb] H H' → St k sy H' cs' → Sh tm ct → Rp cs' ct → ct.blocks.Nodup → ct.vars.Nodup → cs'.length ≤ cs.length + 2 * tm.nodes + 1 → (∀ a, a < cs.length → cs'[a]? = cs[a]?) → Q (cv ct.cell) H') : Fn 4 w (.ref 385) [.ref k.st, tm.val, .ref tb] H Q := by
  have i1 := S.inst
  refine Fn.p3 "self" "term" "table" ok385 (by intro a b c; kernel_rfl) (by decide +kernel) (by decide +kernel) (by decide +kernel) ?_
  intro c hw hc hs hcl
  have hs0 := hs
  conv =>
    arg 3
    whnf
  conv at hs =>
    rhs
    whnf
  subst hw
  refine Exs.cons (Ex.forL hc .never (by nest_cls) ?_)
  refine Ev.listD0 hc (by nest_cls) ?_
  repeat isplit
  refine (mk1_3 tb rfl htb (fun la hla => (mk2_3 la [] rfl (AH.set_self ..) ?_)))
  have S1 := S.setN (o' := .list []) hla
  have i2 := S1.inst
  have ne1 : tb ≠ la := fun z => by rw [← z, htb] at hla; cases hla
  have htb1 : (H.set la (.list [])) tb = some (.dictI []) := AH.other ne1 htb
  have off1 : Off [k.hp, tb] H (H.set la (.list [])) := .new hla
  refine ⟨AH.set_self .., ?_⟩
  cases tm with
  | vr n =>
    repeat isplit
    refine Ev.subT ?_
    repeat isplit
    refine (mk1_2 _ rfl (Op2.item_tup (k := 0) (d := .str "v") rfl rfl (by simp) ?_))
    repeat isplit
    refine Op2.str_eq ⟨_, rfl, ?_⟩
    rw [if_pos (by decide +kernel)]
    repeat isplit
    refine Ev.subT ?_
    repeat isplit
    refine (mk1_2 _ rfl (Op2.item_tup (k := 1) (d := .int (n : Nat)) rfl rfl (by simp) ?_))
    repeat isplit
    refine Op2.notIn (k := (n : Int)) keyedI htb1 ⟨_, rfl, ?_⟩
    rw [if_pos (by simp [dget])]
    isplit
    refine Ev.im0 ?_
    repeat isplit
    refine (mk5_5 _ _ _ _ 230 rfl S1.inst (mk_meth (by kernel_rfl) (by kernel_rfl) (by kernel_rfl) (by kernel_rfl) (by kernel_rfl)) (by rfl) ?_)
    refine (new_var_ok S1 (by (first | lia | omega)) ?_).at hc
    have S2 := S1.put (cs ++ [(0, ((cs.length : Nat) : Int))])
    have htb2 := AH.other (o := .list ((cs ++ [(0, ((cs.length : Nat) : Int))]).map cv)) n2 htb1
    repeat isplit
    refine Ev.subT ?_
    repeat isplit
    refine (mk1_2 _ rfl (Op2.item_tup (k := 1) (d := .int (n : Nat)) rfl rfl (by simp) ?_))
    refine Op3.set_dict (k := (n : Int)) keyedI htb2 (by simp) ?_
    have S3 := S2.setP (o' := .dictI (dput [] (n : Int) (cv (0, (cs.length : Nat))))) htb2 rfl n2
    have htb3 : (((H.set la (.list [])).set k.hp (.list ((cs ++ [(0, ((cs.length : Nat) : Int))]).map cv))).set tb (.dictI (dput [] (n : Int) (cv (0, (cs.length : Nat)))))) tb = _ := AH.set_self ..
    repeat isplit
    refine Ev.subD ?_
    repeat isplit
    refine Ev.subT ?_
    repeat isplit
    refine (mk1_2 _ rfl (Op2.item_tup (k := 1) (d := .int (n : Nat)) rfl rfl (by simp) ?_))
    refine (mk2_3 _ _ rfl htb3 (Op2.item_dict (k := (n : Int)) (d := cv (0, (cs.length : Nat))) keyedI htb3 (by rw [dget_dput, if_pos rfl]) ?_))
    refine q _ _ (.vr cs.length) ((off1.trans (.set (by simp))).trans (.set (by simp))) S3 (.vr ..) ?_ .nil (by simp [CT.vars]) (by simp) fun a ha => List.getElem?_append_left ha
    show (cs ++ _)[cs.length]? = _
    simp
  | sy n =>
    repeat isplit
    refine Ev.subT ?_
    repeat isplit
    refine (mk1_2 _ rfl (Op2.item_tup (k := 0) (d := .str "a") rfl rfl (by simp) ?_))
    repeat isplit
    refine Op2.str_eq ⟨_, rfl, ?_⟩
    rw [if_neg (by decide +kernel)]
    repeat isplit
    refine Op2.str_eq ⟨_, rfl, ?_⟩
    rw [if_pos (by decide +kernel)]
    repeat isplit
    refine Ev.subT ?_
    repeat isplit
    refine (mk1_2 _ rfl (Op2.item_tup (k := 1) (d := .int n) rfl rfl (by simp) ?_))
    repeat isplit
    exact ⟨q _ cs (.sy n) off1 S1 (.sy n) trivial .nil .nil (by (first | lia | omega)) fun _ _ => rfl, by simp⟩
  | nu n =>
    repeat isplit
    refine Ev.subT ?_
    repeat isplit
    refine (mk1_2 _ rfl (Op2.item_tup (k := 0) (d := .str "i") rfl rfl (by simp) ?_))
    repeat isplit
    refine Op2.str_eq ⟨_, rfl, ?_⟩
    rw [if_neg (by decide +kernel)]
    repeat isplit
    refine Op2.str_eq ⟨_, rfl, ?_⟩
    rw [if_neg (by decide +kernel)]
    repeat isplit
    refine Op2.str_eq ⟨_, rfl, ?_⟩
    rw [if_pos (by decide +kernel)]
    repeat isplit
    refine Ev.subT ?_
    repeat isplit
    refine (mk1_2 _ rfl (Op2.item_tup (k := 1) (d := .int n) rfl rfl (by simp) ?_))
    repeat isplit
    exact ⟨q _ cs (.nu n) off1 S1 (.nu n) trivial .nil .nil (by (first | lia | omega)) fun _ _ => rfl, by simp⟩
  | co th tt =>
    simp only [Tm.nodes] at hl hn
    repeat isplit
    refine Ev.subT ?_
    repeat isplit
    refine (mk1_2 _ rfl (Op2.item_tup (k := 0) (d := .str "s") rfl rfl (by simp) ?_))
    repeat isplit
    refine Op2.str_eq ⟨_, rfl, ?_⟩
    rw [if_neg (by decide +kernel)]
    repeat isplit
    refine Op2.str_eq ⟨_, rfl, ?_⟩
    rw [if_neg (by decide +kernel)]
    repeat isplit
    refine Op2.str_eq ⟨_, rfl, ?_⟩
    rw [if_neg (by decide +kernel)]
    repeat isplit
    refine Ev.im ?_
    repeat isplit
    refine (mk5_5 _ _ _ _ 342 rfl S1.inst (mk_meth (by kernel_rfl) (by kernel_rfl) (by kernel_rfl) (by kernel_rfl) (by kernel_rfl)) (by rfl) ?_)
    repeat isplit
    refine Ev.subT ?_
    repeat isplit
    refine (mk1_2 _ rfl (Op2.item_tup (k := 1) (d := .int 0) rfl rfl (by simp) ?_))
    repeat isplit
    refine (new_block_ok S1 (by (first | lia | omega)) fun H2 k2 S2 => ?_).at hc
    have es : selfs cs.length 2 = [(0, ((cs.length : Nat) : Int)), (0, ((cs.length + 1 : Nat) : Int))] := rfl
    rw [← es] at S2
    have i3 := S2.inst
    repeat isplit
    refine Ev.im ?_
    repeat isplit
    refine (mk5_5 _ _ _ _ 328 rfl S2.inst (mk_meth (by kernel_rfl) (by kernel_rfl) (by kernel_rfl) (by kernel_rfl) (by kernel_rfl)) (by rfl) ?_)
    repeat isplit
    refine (base_ok (a := ((cs.length : Nat) : Int)) ?_).at hc
    repeat isplit
    refine Ev.subT ?_
    repeat isplit
    refine (mk1_2 _ rfl (Op2.item_tup (k := 2) (d := .tup [th.val, tt.val]) rfl rfl (by simp) ?_))
    repeat isplit
    refine ⟨?_, by simp⟩
    repeat isplit
    refine ⟨fun wa hwa => ?_, by simp⟩
    have S3 := S2.setN (o' := .list [pendV (cs.length, th, tt)]) hwa
    have htb2 : H2 tb = some (.dictI []) := (k2 tb n2).trans htb1
    have n1 : wa ≠ k.hp := fun z => by first | exact clash hwa S2.hp z | exact clash S2.hp hwa z.symm
    have n3 : tb ≠ wa := fun z => by rw [← z, htb2] at hwa; cases hwa
    have ph : PH k sy tb wa (H2.set wa (.list [pendV (cs.length, th, tt)])) (cs ++ selfs cs.length 2) [pendV (cs.length, th, tt)] [] H2 := ⟨S3, AH.set_self .., AH.other n3 htb2, fun a o e _ _ a3 => AH.other a3 e⟩
    have ln : (cs ++ selfs cs.length 2).length = cs.length + 2 := by simp [selfs]
    have F : Fresh (cs ++ selfs cs.length 2) [(cs.length, th, tt)] := by
      refine ⟨by simp [places], fun a ha => ?_⟩
      simp only [places, List.flatMap_cons, List.flatMap_nil, List.append_nil, List.mem_cons, List.mem_nil_iff, or_false] at ha
      rcases ha with rfl | rfl
      · rw [List.getElem?_append_right (by (first | lia | omega))]; simp [selfs]
      · rw [List.getElem?_append_right (by (first | lia | omega))]; simp [selfs]
    have pn : pnodes [(cs.length, th, tt)] = 1 + th.nodes + tt.nodes := by simp [pnodes]
    repeat isplit
    refine Exs.while_ (pnodes [(cs.length, th, tt)] + 1) .never ?_
    refine put_loop hc hs0 n1 n2 n3 (mk := cv (3, (cs.length : Nat))) _ _ _ _ 0 _ _ _ (Nat.le_refl _) F rfl (Nat.zero_le _) ⟨by one_item, by one_item, by one_item⟩ (by one_item) (by one_item) ph (by simpa [pvars, Tm.vars] using hv) (fun _ _ => rfl) (by (first | lia | omega)) (by simp; (first | lia | omega)) (by simp; (first | lia | omega)) fun m' H' W' D' L' mk' h' => ?_
    refine el0_4 (putAll_spec (pnodes [(cs.length, th, tt)]) (cs ++ selfs cs.length 2) [(cs.length, th, tt)] (Nat.le_refl _) F) fun k1 k1' k3 z1 => ?_; refine el1_5 z1 fun R hR kb kbl kv kvl => ?_
    cases hR with
    | @cons _ _ _ x y _ _ a1 a2 a3 a4 a5 a6 r =>
      cases r
      repeat isplit
      simp only [blks, List.flatMap_cons, List.flatMap_nil, List.append_nil] at kb kbl
      simp only [vrs, List.flatMap_cons, List.flatMap_nil, List.append_nil] at kv kvl
      refine q H' _ (.co cs.length x y) (fun a o e n => ?_) h'.S (.co a1 a2) ⟨a3, a4, a5, a6⟩ ?_ kv ?_ fun a ha => ?_
      · simp only [List.mem_cons, List.mem_nil_iff, or_false, not_or] at n
        have e1 := off1 a o e (by simp [n])
        have e2 := (k2 a n.1).trans e1
        exact h'.off a o e2 n.1 n.2 (fun z => by first | exact clash e2 hwa z | exact clash hwa e2 z.symm)
      · rw [CT.blocks, List.nodup_cons]
        refine ⟨fun z => ?_, kb⟩
        have := kbl _ z
        (first | lia | omega)
      · simp only [Tm.nodes, List.length_cons, List.length_nil] at k1' ⊢
        (first | lia | omega)
      · rw [k3 a (by (first | lia | omega)) (by simp [places]; (first | lia | omega)), List.getElem?_append_left ha]
theorem Rp.mono {cs cs' : List (Int × Int)} (h : ∀ a, a < cs.length → cs'[a]? = cs[a]?) : ∀ {x : CT}, Rp cs x → Rp cs' x
  | .vr a, r => (h a (List.getElem?_eq_some_iff.mp r).1).trans r
  | .sy _, _ => trivial
  | .nu _, _ => trivial
  | .co b x y, ⟨a1, a2, a3, a4⟩ => (mk0_4 ((h _ (List.getElem?_eq_some_iff.mp a1).1).trans a1) ((h _ (List.getElem?_eq_some_iff.mp a2).1).trans a2) (Rp.mono h a3) (Rp.mono h a4))
end
structure WA where
  b : BkA
  s : StA
  ar : Addr
  ad : Addr
  fs : List (Str × V)
structure Wd (a : WA) (H : AH) (ts : List Str) (fn : List (List Int)) (cs : List (Int × Int)) : Prop where
  bk : Bk a.b H ts fn
  st : St a.s a.b.sy H cs
  ar : H a.ar = some (.inst 597 a.ad a.fs)
  ad : H a.ad = some (.aux a.ar)
  ht : a.s.hp ≠ a.b.t
  hf : a.s.hp ≠ a.b.f
structure WOk (a : WA) : Prop where
  store : a.fs.lookup ("store" : Str) = some (.ref a.s.st)
  symbols : a.fs.lookup ("symbols" : Str) = some (.ref a.b.sy)
  take : a.fs.lookup ("take" : Str) = Option.none
  put : a.fs.lookup ("put" : Str) = Option.none
section
variable {a : WA} {H H' : AH} {ts : List Str} {fn : List (List Int)} {cs : List (Int × Int)}
theorem Wd.same (W : Wd a H ts fn cs) (h : Off [] H H') : Wd a H' ts fn cs :=
  ⟨⟨h _ _ W.bk.inst (by simp), h _ _ W.bk.d (by simp), h _ _ W.bk.t (by simp), h _ _ W.bk.n (by simp), h _ _ W.bk.f (by simp), h _ _ W.bk.g (by simp), W.bk.tf⟩, W.st.same h, h _ _ W.ar (by simp), h _ _ W.ad (by simp), W.ht, W.hf⟩
theorem Wd.heap (W : Wd a H ts fn cs) {cs' : List (Int × Int)} (h : Off [a.s.hp] H H') (S : St a.s a.b.sy H' cs') : Wd a H' ts fn cs' := by
  have n : ∀ {b : Addr} {o : O}, H b = some o → (∀ xs, o ≠ .list xs) → b ≠ a.s.hp := fun e ho => ne_of_O e W.st.hp (fun z => ho _ z)
  exact ⟨⟨h _ _ W.bk.inst (by simpa using n W.bk.inst nofun), h _ _ W.bk.d (by simpa using n W.bk.d nofun), h _ _ W.bk.t (by simpa using W.ht.symm), h _ _ W.bk.n (by simpa using n W.bk.n nofun), h _ _ W.bk.f (by simpa using W.hf.symm), h _ _ W.bk.g (by simpa using n W.bk.g nofun), W.bk.tf⟩, S,
    h _ _ W.ar (by simpa using n W.ar nofun), h _ _ W.ad (by simpa using n W.ad nofun), W.ht, W.hf⟩
theorem Wd.book (W : Wd a H ts fn cs) {ts' : List Str} {fn' : List (List Int)} (h : Off a.b.all H H') (B : Bk a.b H' ts' fn') : Wd a H' ts' fn' cs := by
  have B0 := W.bk
  have nin : ∀ {b : Addr} {o : O}, H b = some o → (∀ d fs, o ≠ .inst 154 d fs) → o ≠ .aux a.b.sy → (∀ k, o ≠ .dictS k) → (∀ k, o ≠ .dictT k) → (b ≠ a.b.t) → (b ≠ a.b.f) → b ∉ a.b.all := fun {b o} e h1 h2 h3 h4 h5 h6 hm => by
    simp only [BkA.all, List.mem_cons, List.mem_nil_iff, or_false] at hm
    rcases hm with z | z | z | z | z | z
    · rw [z, B0.inst] at e; cases e; exact h1 _ _ rfl
    · rw [z, B0.d] at e; cases e; exact h2 rfl
    · exact h5 z
    · rw [z, B0.n] at e; cases e; exact h3 _ rfl
    · exact h6 z
    · rw [z, B0.g] at e; cases e; exact h4 _ rfl
  have n : ∀ {b : Addr} {o : O} {xs : List V} {c : Addr}, H b = some o → (∀ xs, o ≠ .list xs) → H c = some (.list xs) → b ≠ c := fun e ho e' => ne_of_O e e' (ho _)
  have sst : a.s.st ≠ a.b.sy := fun z => by have := W.st.inst; rw [z, B0.inst] at this; cases this
  have sar : a.ar ≠ a.b.sy := fun z => by have := W.ar; rw [z, B0.inst] at this; cases this
  exact ⟨B, ⟨h _ _ W.st.inst (nin W.st.inst nofun nofun nofun nofun (n W.st.inst nofun B0.t) (n W.st.inst nofun B0.f)), h _ _ W.st.d (nin W.st.d nofun (fun z => sst (O.aux.inj z)) nofun nofun (n W.st.d nofun B0.t) (n W.st.d nofun B0.f)), h _ _ W.st.hp (nin W.st.hp nofun nofun nofun nofun W.ht W.hf)⟩,
    h _ _ W.ar (nin W.ar nofun nofun nofun nofun (n W.ar nofun B0.t) (n W.ar nofun B0.f)), h _ _ W.ad (nin W.ad nofun (fun z => sar (O.aux.inj z)) nofun nofun (n W.ad nofun B0.t) (n W.ad nofun B0.f)), W.ht, W.hf⟩
theorem take_ok {w : World} (K : WOk a) (W : Wd a H ts fn cs) (hl : cs.length ≤ 2000) {x : CT} (r : Rp cs x) (hnd : x.blocks.Nodup) (hsz : x.size ≤ 250) {Q : V → AH → Prop} (q : ∀ H', Off [] H H' → Q (x.take []).1 H') : Fn 6 w (.ref 496) [.ref a.ar, cv x.cell] H Q := by
  refine Fn.p2 "self" "cell" ok496 (by intro a b; kernel_rfl) (by decide +kernel) (by decide +kernel) (by decide +kernel) ?_
  intro c hw hc hs hcl
  conv =>
    arg 3
    whnf
  conv at hs =>
    rhs
    whnf
  subst hw
  isplit
  refine Ev.im ?_
  refine Ev.attr ?_
  isplit
  refine (mk5_5 _ _ _ _ _ rfl W.ar (.of (by kernel_rfl) (by kernel_rfl) (by kernel_rfl)) K.store ?_)
  refine (mk5_5 _ _ _ _ 399 rfl W.st.inst (mk_meth (by kernel_rfl) (by kernel_rfl) (by kernel_rfl) (by kernel_rfl) (by kernel_rfl)) (by rfl) ?_)
  repeat isplit
  refine Ev.dict (.dictI []) (dictI_new _) fun tb htb => ?_
  repeat isplit
  refine (take_term_ok (W.st.setN htb) hl r hnd hsz (AH.set_self ..) (fun z => by first | exact clash htb W.st.hp z | exact clash W.st.hp htb z.symm) fun H' o => q H' fun b ob e _ => o b ob (AH.other (fun z => by first | exact clash e htb z | exact clash htb e z.symm) e) ?_).at hc
  simp only [List.mem_singleton]; rintro rfl; rw [htb] at e; cases e
theorem put_ok {w : World} (K : WOk a) (W : Wd a H ts fn cs) {tm : Tm} (hl : cs.length + 4 * tm.nodes ≤ 1000) (hn : tm.nodes ≤ 100) (hv : tm.vars.Nodup) {Q : V → AH → Prop}
    (q : ∀ H' cs' ct, Off [a.s.hp] H H' → Wd a H' ts fn cs' → Sh tm ct → Rp cs' ct → ct.blocks.Nodup → ct.vars.Nodup → cs'.length ≤ cs.length + 2 * tm.nodes + 1 → (∀ a, a < cs.length → cs'[a]? = cs[a]?) → Q (cv ct.cell) H') : Fn 5 w (.ref 503) [.ref a.ar, tm.val] H Q := by
  refine Fn.p2 "self" "term" ok503 (by intro a b; kernel_rfl) (by decide +kernel) (by decide +kernel) (by decide +kernel) ?_
  intro c hw hc hs hcl
  conv =>
    arg 3
    whnf
  conv at hs =>
    rhs
    whnf
  subst hw
  isplit
  refine Ev.im ?_
  refine Ev.attr ?_
  isplit
  refine (mk5_5 _ _ _ _ _ rfl W.ar (.of (by kernel_rfl) (by kernel_rfl) (by kernel_rfl)) K.store ?_)
  refine (mk5_5 _ _ _ _ 385 rfl W.st.inst (mk_meth (by kernel_rfl) (by kernel_rfl) (by kernel_rfl) (by kernel_rfl) (by kernel_rfl)) (by rfl) ?_)
  repeat isplit
  refine Ev.dict (.dictI []) (dictI_new _) fun tb htb => ?_
  repeat isplit
  refine (put_term_ok (W.st.setN htb) hl hn hv (AH.set_self ..) (fun z => by first | exact clash htb W.st.hp z | exact clash W.st.hp htb z.symm) fun H' cs' ct o S h1 h2 h3 h4 h5 h6 => ?_).at hc
  have off : Off [a.s.hp] H H' := fun b ob e nb => o b ob (AH.other (fun z => by first | exact clash e htb z | exact clash htb e z.symm) e) (by
    simp only [List.mem_singleton] at nb
    simp only [List.mem_cons, List.mem_nil_iff, or_false, not_or]
    exact ⟨nb, fun z => by first | exact clash e htb z | exact clash htb e z.symm⟩)
  exact q H' cs' ct off (W.heap off S) h1 h2 h3 h4 h5 h6
theorem is_free_ok {w : World} {p : Int × Int} {Q : V → AH → Prop} (q : Q (.bool (p.1 == 0 || p.1 == 1)) H) : Fn 1 w (.ref 411) [cv p] H Q := by
  refine Fn.p1 "cell" ok411 (by intro a; kernel_rfl) (by decide +kernel) (by decide +kernel) ?_
  intro c hw hc hs hcl
  conv =>
    arg 3
    whnf
  conv at hs =>
    rhs
    whnf
  subst hw
  repeat isplit
  refine Ev.subT ?_
  repeat isplit
  refine (mk1_2 _ rfl (Op2.item_tup (k := 0) rfl (tag_ p) (by simp) ?_))
  repeat isplit
  refine Op2.int_eq ⟨_, rfl, ?_⟩
  by_cases h : p.1 = 0
  · rw [if_pos (by simp [h])]
    have e : (p.1 == 0 || p.1 == 1) = true := by simp [h]
    rw [e] at q; exact q
  · rw [if_neg (by simpa using h)]
    refine Ev.cmp ?_
    refine Ev.subT ?_
    repeat isplit
    refine (mk1_2 _ rfl (Op2.item_tup (k := 0) rfl (tag_ p) (by simp) ?_))
    repeat isplit
    refine Op2.int_eq ?_
    have e : (p.1 == 0 || p.1 == 1) = (p.1 == 1) := by simp [h]
    rw [e] at q; exact q
theorem text_of_ok {w : World} (K : WOk a) (W : Wd a H ts fn cs) (hl : ts.length ≤ 1000) {tag : Int} {n : Nat} {x : Str} (hn : ts[n]? = some x) {Q : V → AH → Prop} (q : Q (.str x) H) : Fn 2 w (.ref 418) [.ref a.ar, cv (tag, n)] H Q := by
  refine Fn.p2 "m" "cell" ok418 (by intro a b; kernel_rfl) (by decide +kernel) (by decide +kernel) (by decide +kernel) ?_
  intro c hw hc hs hcl
  conv =>
    arg 3
    whnf
  conv at hs =>
    rhs
    whnf
  subst hw
  isplit
  refine Ev.im ?_
  refine Ev.attr ?_
  isplit
  refine (mk5_5 _ _ _ _ _ rfl W.ar (.of (by kernel_rfl) (by kernel_rfl) (by kernel_rfl)) K.symbols ?_)
  refine (mk5_5 _ _ _ _ 95 rfl W.bk.inst (mk_meth (by kernel_rfl) (by kernel_rfl) (by kernel_rfl) (by kernel_rfl) (by kernel_rfl)) (by rfl) ?_)
  repeat isplit
  refine Ev.subT ?_
  repeat isplit
  refine (mk1_2 _ rfl (Op2.item_tup (k := 1) rfl (val_ (tag, (n : Int))) (by simp) ?_))
  repeat isplit
  exact (text_ok W.bk hl hn q).at hc
end
noncomputable def numAll : List Str → List Str → List Nat × List Str
  | ts, [] => ([], ts)
  | ts, x :: r => (ix ts x :: (numAll (addK ts x) r).1, (numAll (addK ts x) r).2)
theorem numAll_snoc (ts : List Str) (xs : List Str) (x : Str) : numAll ts (xs ++ [x]) = ((numAll ts xs).1 ++ [ix (numAll ts xs).2 x], addK (numAll ts xs).2 x) := by
  induction xs generalizing ts with
  | nil => rfl
  | cons y r ih => simp [numAll, ih]
theorem numAll_length (ts : List Str) (xs : List Str) : (numAll ts xs).1.length = xs.length := by
  induction xs generalizing ts with
  | nil => rfl
  | cons y r ih => simp [numAll, ih]
theorem numAll_le (ts : List Str) (xs : List Str) : (numAll ts xs).2.length ≤ ts.length + xs.length := by
  induction xs generalizing ts with
  | nil => exact Nat.le_refl _
  | cons y r ih => have := ih (addK ts y); have h2 := addK_length ts y; simp [numAll]; (first | lia | omega)
noncomputable def charsOf (x : Str) : List Str := x.cps.toList.map fun n => ⟨#[n]⟩
theorem signs_chars (x : Str) : signs x = (charsOf x).map .str := by simp [signs, charsOf]
noncomputable def spellC (ts : List Str) (x : Str) (codes : Bool) : List (Int × Int) := if codes then x.cps.toList.map fun (n : Nat) => ((5 : Int), (n : Int)) else (numAll ts (charsOf x)).1.map fun (n : Nat) => ((4 : Int), (n : Int))
noncomputable def spellT (ts : List Str) (x : Str) (codes : Bool) : List Str := if codes then ts else (numAll ts (charsOf x)).2
section
variable {a : WA} {H : AH} {ts : List Str} {fn : List (List Int)} {cs : List (Int × Int)}
theorem Wd.setP (W : Wd a H ts fn cs) {b : Addr} {o o' : O} (hb : b ∉ a.b.all) (hs : b ∉ a.s.all) (h1 : b ≠ a.ar) (h2 : b ≠ a.ad) : Wd a (H.set b o') ts fn cs := by
  have B := W.bk
  have n : ∀ {x : Addr} {l : List Addr}, b ∉ l → x ∈ l → x ≠ b := fun h hx z => h (z ▸ hx)
  refine ⟨B.same fun x hx => AH.set_other _ _ (n hb hx), ⟨AH.other (n hs (by simp [StA.all])) W.st.inst, AH.other (n hs (by simp [StA.all])) W.st.d, AH.other (n hs (by simp [StA.all])) W.st.hp⟩, AH.other h1.symm W.ar, AH.other h2.symm W.ad, W.ht, W.hf⟩
noncomputable def WA.all (a : WA) : List Addr := a.b.all ++ a.s.all ++ [a.ar, a.ad]
theorem Wd.setF (W : Wd a H ts fn cs) {b : Addr} {o' : O} (hb : b ∉ a.all) : Wd a (H.set b o') ts fn cs := by
  simp only [WA.all, List.mem_append, List.mem_cons, List.mem_nil_iff, or_false, not_or] at hb
  exact W.setP (o := .aux 0) hb.1.1 hb.1.2 hb.2.1 hb.2.2
theorem Wd.there (W : Wd a H ts fn cs) {b : Addr} (hb : b ∈ a.all) : ∃ o, H b = some o := by
  simp only [WA.all, List.mem_append, StA.all, List.mem_cons, List.mem_nil_iff, or_false] at hb
  rcases hb with (hb | rfl | rfl | rfl) | rfl | rfl
  · exact W.bk.there hb
  · exact ⟨_, W.st.inst⟩
  · exact ⟨_, W.st.d⟩
  · exact ⟨_, W.st.hp⟩
  · exact ⟨_, W.ar⟩
  · exact ⟨_, W.ad⟩
theorem Wd.fresh (W : Wd a H ts fn cs) {b : Addr} (hb : H b = none) : b ∉ a.all := fun h => by
  refine el1_1 (W.there h) fun o e => ?_; rw [hb] at e; cases e
theorem WA.bk_all {b : Addr} (h : b ∈ a.b.all) : b ∈ a.all := by simp [WA.all, h]
theorem WA.st_all {b : Addr} (h : b ∈ a.s.all) : b ∈ a.all := by simp [WA.all, h]
theorem WA.hp_all : a.s.hp ∈ a.all := by simp [WA.all, StA.all]
theorem spelled_cell_ok {w : World} (K : WOk a) (W : Wd a H ts fn cs) {x : Str} (hts : ts.length + x.cps.size ≤ 1000) (hl : cs.length + 2 * x.cps.size ≤ 2000) {codes : Bool} {Q : V → AH → Prop}
    (q0 : x.cps.size = 0 → ∀ H', Off a.b.all H H' → Wd a H' ts fn cs → Q (cv (4, 0)) H')
    (q1 : x.cps.size ≠ 0 → ∀ H', Off (a.s.hp :: a.b.all) H H' → Wd a H' (spellT ts x codes) fn (cs ++ spine cs.length (4, 0) (spellC ts x codes)) → Q (cv (3, (cs.length : Nat))) H') : Fn 4 w (.ref 425) [.ref a.ar, .str x, .bool codes] H Q := by
  refine Fn.p3 "m" "text" "as_codes" ok425 (by intro a b c; kernel_rfl) (by decide +kernel) (by decide +kernel) (by decide +kernel) ?_
  intro c hw hc hs hcl
  conv =>
    arg 3
    whnf
  conv at hs =>
    rhs
    whnf
  subst hw
  repeat isplit
  refine ⟨fun ca hca => ?_, by simp⟩
  have fr := W.fresh hca
  refine Exs.cons (Ex.forS hc .never (by nest_cls) ?_)
  repeat isplit
  refine (mk1_2 x rfl ?_)
  rw [signs_chars]
  cases codes with
  | true =>
    refine For.inv (fun i m H₁ => m "m" = some (.ref a.ar) ∧ m "cells" = some (.ref ca) ∧ m "as_codes" = some (.bool true) ∧ Wd a H₁ ts fn cs ∧ H₁ ca = some (.list (((x.cps.toList.take i).map fun (n : Nat) => ((5 : Int), (n : Int))).map cv)) ∧ Off [] H H₁) _ ⟨by one_item, by one_item, by one_item, W.setF fr, AH.set_self .., .new hca⟩ ?_ ?_
    · rintro i d m H₁ hd ⟨h1, h2, h3, W₁, h5, o₁⟩
      have hi : i < x.cps.size := by have := (List.getElem?_eq_some_iff.mp hd).1; simpa [charsOf] using this
      have hch : (charsOf x)[i]? = some ⟨#[x.cps[i]]⟩ := by simp [charsOf, hi]
      rw [List.getElem?_map, hch, Option.map_some, Option.some.injEq] at hd
      subst hd
      refine ⟨trivial, ?_⟩
      refine Exs.if_ ?_
      refine Tr.ev ?_
      isplit
      refine (mk1_2 true rfl ?_)
      rw [if_pos rfl]
      isplit
      refine Ev.append ?_
      repeat isplit
      refine (mk2_3 _ _ rfl h5 ?_)
      repeat isplit
      refine Ev.ord hc (by nest_cls) ?_
      repeat isplit
      refine (mk1_3 _ rfl rfl ?_)
      repeat isplit
      refine ⟨?_, by simp⟩
      refine (mk1_5 _ h5 (by simp; (first | lia | omega)) nofun nofun ?_)
      repeat isplit
      refine (mk0_6 (by one_item) (by one_item) (by one_item) (W₁.setF fr) ?_ (fun b ob e n => AH.other (fun z => by first | exact clash e hca z | exact clash hca e z.symm) (o₁ b ob e n)))
      rw [AH.set_self, List.take_add_one]
      simp [hi, cv]
    · rintro m H₁ ⟨h1, h2, h3, W₁, h5, o₁⟩
      refine ⟨trivial, ?_⟩
      have hlen : ((charsOf x).map V.str).length = x.cps.size := by simp [charsOf]
      rw [hlen, List.take_of_length_le (by simp)] at h5
      repeat isplit
      refine Ev.im ?_
      refine Ev.attr ?_
      isplit
      refine (mk5_5 _ _ _ _ _ rfl W₁.ar (.of (by kernel_rfl) (by kernel_rfl) (by kernel_rfl)) K.store ?_)
      refine (mk5_5 _ _ _ _ 371 rfl W₁.st.inst (mk_meth (by kernel_rfl) (by kernel_rfl) (by kernel_rfl) (by kernel_rfl) (by kernel_rfl)) (by rfl) ?_)
      repeat isplit
      refine (build_list_ok W₁.st (by simp; (first | lia | omega)) h5 (fun z => fr (z ▸ WA.hp_all)) (fun p hp => ?_) (fun e H' o => ?_) fun e H' o S' => ?_).at hc
      · refine el1_2 (List.mem_map.mp hp) fun n _ z1 => ?_; subst z1
        exact ⟨by simp, fun z => by simp at z⟩
      · exact q0 (by simpa using e) H' ((o₁.trans o).mono nofun) (W₁.same o)
      · refine q1 (fun z => e (by simp [Array.eq_empty_of_size_eq_zero z])) H' ((o₁.mono nofun).trans (o.mono fun b hb => by simp at hb; simp [hb])) ?_
        exact W₁.heap o S'
  | false =>
    refine For.inv (fun i m H₁ => m "m" = some (.ref a.ar) ∧ m "cells" = some (.ref ca) ∧ m "as_codes" = some (.bool false) ∧ Wd a H₁ (numAll ts ((charsOf x).take i)).2 fn cs ∧ H₁ ca = some (.list (((numAll ts ((charsOf x).take i)).1.map fun (n : Nat) => ((4 : Int), (n : Int))).map cv)) ∧ Off a.b.all H H₁) _ ⟨by one_item, by one_item, by one_item, W.setF fr, AH.set_self .., .new hca⟩ ?_ ?_
    · rintro i d m H₁ hd ⟨h1, h2, h3, W₁, h5, o₁⟩
      have hi : i < x.cps.size := by have := (List.getElem?_eq_some_iff.mp hd).1; simpa [charsOf] using this
      have hch : (charsOf x)[i]? = some ⟨#[x.cps[i]]⟩ := by simp [charsOf, hi]
      rw [List.getElem?_map, hch, Option.map_some, Option.some.injEq] at hd
      subst hd
      have hle := numAll_le ts ((charsOf x).take i)
      have hle2 : ((charsOf x).take i).length ≤ i := by simp; (first | lia | omega)
      have hnl := numAll_length ts ((charsOf x).take i)
      refine ⟨trivial, ?_⟩
      refine Exs.if_ ?_
      refine Tr.ev ?_
      isplit
      refine (mk1_2 false rfl ?_)
      rw [if_neg Bool.false_ne_true]
      isplit
      refine Ev.append ?_
      repeat isplit
      refine (mk2_3 _ _ rfl h5 ?_)
      repeat isplit
      refine Ev.im ?_
      refine Ev.attr ?_
      isplit
      refine (mk5_5 _ _ _ _ _ rfl W₁.ar (.of (by kernel_rfl) (by kernel_rfl) (by kernel_rfl)) K.symbols ?_)
      refine (mk5_5 _ _ _ _ 88 rfl W₁.bk.inst (mk_meth (by kernel_rfl) (by kernel_rfl) (by kernel_rfl) (by kernel_rfl) (by kernel_rfl)) (by rfl) ?_)
      repeat isplit
      refine (atom_ok W₁.bk (by (first | lia | omega)) fun H₂ B₂ o₂ => ?_).at hc
      have W₂ := W₁.book o₂ B₂
      have h5' := o₂ ca _ h5 (fun z => fr (WA.bk_all z))
      repeat isplit
      refine ⟨?_, by simp⟩
      refine (mk1_5 _ h5' (by simp; (first | lia | omega)) nofun nofun ?_)
      repeat isplit
      have et : (charsOf x).take (i + 1) = (charsOf x).take i ++ [⟨#[x.cps[i]]⟩] := by rw [List.take_add_one, hch]; rfl
      refine (mk0_6 (by one_item) (by one_item) (by one_item) ?_ ?_ (fun b ob e n => AH.other (fun z => by first | exact clash e hca z | exact clash hca e z.symm) (o₂ b ob (o₁ b ob e n) n)))
      · rw [et, numAll_snoc]; exact W₂.setF fr
      · rw [AH.set_self, et, numAll_snoc]
        simp [cv]
    · rintro m H₁ ⟨h1, h2, h3, W₁, h5, o₁⟩
      refine ⟨trivial, ?_⟩
      have hlen : ((charsOf x).map V.str).length = (charsOf x).length := by simp
      have hcl' : (charsOf x).length = x.cps.size := by simp [charsOf]
      have hnl := numAll_length ts (charsOf x)
      rw [hlen, List.take_length] at h5 W₁
      repeat isplit
      refine Ev.im ?_
      refine Ev.attr ?_
      isplit
      refine (mk5_5 _ _ _ _ _ rfl W₁.ar (.of (by kernel_rfl) (by kernel_rfl) (by kernel_rfl)) K.store ?_)
      refine (mk5_5 _ _ _ _ 371 rfl W₁.st.inst (mk_meth (by kernel_rfl) (by kernel_rfl) (by kernel_rfl) (by kernel_rfl) (by kernel_rfl)) (by rfl) ?_)
      repeat isplit
      refine (build_list_ok W₁.st (by simp; (first | lia | omega)) h5 (fun z => fr (z ▸ WA.hp_all)) (fun p hp => ?_) (fun e H' o => ?_) fun e H' o S' => ?_).at hc
      · refine el1_2 (List.mem_map.mp hp) fun n _ z2 => ?_; subst z2
        exact ⟨by simp, fun z => by simp at z⟩
      · have hz : x.cps.size = 0 := by have := congrArg List.length e; simp only [List.length_map, List.length_nil] at this; (first | lia | omega)
        have hcx : charsOf x = [] := List.eq_nil_of_length_eq_zero (by (first | lia | omega))
        rw [hcx] at W₁
        exact q0 hz H' (o₁.trans (o.mono nofun)) (W₁.same o)
      · refine q1 (fun z => e ?_) H' ((o₁.mono fun b hb => .tail _ hb).trans (o.mono fun b hb => by simp at hb; simp [hb])) ?_
        · have : charsOf x = [] := List.eq_nil_of_length_eq_zero (by (first | lia | omega))
          rw [this]; rfl
        · exact W₁.heap o S'
end
theorem addK_pos {K : Type} [DecidableEq K] (ks : List K) (x : K) : 0 < (addK ks x).length := List.length_pos_of_mem (addK_mem ks x)
noncomputable def Short (ts : List Str) : Prop := ∀ x ∈ ts, x.length ≤ 100
theorem Short.add {ts : List Str} (h : Short ts) {x : Str} (hx : x.length ≤ 100) : Short (addK ts x) := by
  unfold addK
  split
  · exact h
  · intro y hy
    rcases List.mem_append.mp hy with hy | hy
    · exact h y hy
    · rw [List.mem_singleton.mp hy]; exact hx
noncomputable def rowV (p : Str × Int) : V := .tup [.str p.1, .int p.2]
noncomputable def EvD {α : Type} (f : α → V) (c : Cx) (m : Loc) (H : AH) (as : List α) (es : List Expr) (Q : List V → AH → Prop) : Prop := Evs c (fun _ _ => False) es m H fun r H' => Q (as.map f ++ r) H'
section
variable {α : Type} {f : α → V} {c : Cx} {m : Loc} {H : AH} {es : List Expr} {Q : List V → AH → Prop}
theorem EvD.go (f : α → V) (h : EvD f c m H [] es Q) : Evs c (fun _ _ => False) es m H Q := h
theorem EvD.nil {as : List α} (q : Q (as.map f) H) : EvD f c m H as [] Q := Evs.nil (by rw [List.append_nil]; exact q)
theorem EvD.one {as : List α} {a : α} {e : Expr} (h : ∀ {P}, P (f a) H → Ev c (fun _ _ => False) e m H P) (hs : starEach (e :: es) c.env = (false, eval e c.env) :: starEach es c.env) (q : EvD f c m H (as ++ [a]) es Q) : EvD f c m H as (e :: es) Q :=
  Evs.cons (h (by unfold EvD at q; simp only [List.map_append, List.append_assoc] at q; exact q)) hs
theorem EvD.str {as : List Str} {x : Str} {k : Nat} {p : Pos} (q : EvD V.str c m H (as ++ [x]) es Q) : EvD V.str c m H as (.Constant (.str x) k p :: es) Q := EvD.one (fun h => Ev.str h) rfl q
theorem EvD.row {as : List (Str × Int)} {x : Str} {i : Int} {k k' k'' : Nat} {p p' p'' : Pos} (q : EvD rowV c m H (as ++ [(x, i)]) es Q) : EvD rowV c m H as (.Tuple [.Constant (.str x) k p, .Constant (.int i) k' p'] k'' p'' :: es) Q :=
  EvD.one (a := (x, i)) (fun h => Ev.tuple (Evs.cons (Ev.str (Evs.cons (Ev.int (Evs.nil (mk0_2 h (Nat.le_of_ble_eq_true rfl)))))))) rfl q
end
theorem fixed_atoms_ok {w : World} {H : AH} {Q : V → AH → Prop} (q : ∀ xs : List Str, 0 < xs.length → xs.length ≤ 40 → Short xs → Q (.tup (xs.map .str)) H) : Fn 1 w (.ref 60) [] H Q := by
  refine Fn.p0 ok60 (by kernel_rfl) (by decide +kernel) ?_
  intro c hw hc hs hcl
  conv =>
    arg 3
    whnf
  isplit
  isplit
  with_reducible refine EvD.go V.str ?_
  repeat (with_reducible refine EvD.str ?_)
  exact EvD.nil (mk0_2 (q _ (by decide +kernel) (by decide +kernel) (by unfold Short; decide +kernel)) (by decide +kernel))
theorem fixed_functors_ok {w : World} {H : AH} {Q : V → AH → Prop} (q : ∀ xs : List (Str × Int), xs.length ≤ 40 → (∀ x ∈ xs, x.1.length ≤ 100) → Q (.tup (xs.map rowV)) H) : Fn 1 w (.ref 67) [] H Q := by
  refine Fn.p0 ok67 (by kernel_rfl) (by decide +kernel) ?_
  intro c hw hc hs hcl
  conv =>
    arg 3
    whnf
  isplit
  isplit
  with_reducible refine EvD.go rowV ?_
  repeat (with_reducible refine EvD.row ?_)
  exact EvD.nil (mk0_2 (q _ (by decide +kernel) (by decide +kernel)) (by decide +kernel))
theorem mk_set {w : World} {C : Addr} {name : Str} (h1 : findIn (KT w.params) (.ref C) "__setattr__" = some (some (.builtin "object.__setattr__"))) (h2 : plainOver (KT w.params) C = true) (h3 : takerIn (KT w.params) C name = some Option.none) (h4 : (clsIn (KT w.params) C).any (·.hasDict) = true) : SetOk w C name := ⟨h1, h2, h3, h4⟩
theorem Symbols_ok {w : World} {H : AH} {Q : V → AH → Prop} (q : ∀ (k : BkA) H' ts fn, Off [] H H' → Bk k H' ts fn → 0 < ts.length → ts.length ≤ 80 → fn.length ≤ 40 → Short ts → (∀ a ∈ k.all, H a = none) → Q (.ref k.sy) H') : Fn 5 w (.ref 154) [] H Q := by
  refine Fn.make (fI := 81) ⟨by kernel_rfl, by kernel_rfl, by kernel_rfl⟩ fun p d hp hd hpd => ?_
  refine Fn.p1 "self" ok81 (by intro a; kernel_rfl) (by decide +kernel) (by decide +kernel) ?_
  intro c hw hc hs hcl
  conv =>
    arg 3
    whnf
  conv at hs =>
    rhs
    whnf
  subst hw
  have P0 : ((H.set d (.aux p)).set p (.inst 154 d [])) p = some (.inst 154 d []) := AH.set_self ..
  have D0 : ((H.set d (.aux p)).set p (.inst 154 d [])) d = some (.aux p) := AH.other (Ne.symm hpd) (AH.set_self ..)
  have O0 : Off [] H ((H.set d (.aux p)).set p (.inst 154 d [])) := fun b ob e _ => AH.other (fun z => by first | exact clash e hp z | exact clash hp e z.symm) (AH.other (fun z => by first | exact clash e hd z | exact clash hd e z.symm) e)
  have none0 : ∀ {b : Addr}, ((H.set d (.aux p)).set p (.inst 154 d [])) b = none → H b = none := fun e => AH.set_none _ (AH.set_none _ e)
  generalize (H.set d (.aux p)).set p (.inst 154 d []) = G0 at P0 D0 O0 none0 ⊢
  repeat isplit
  refine ⟨fun t ht => ?_, by simp⟩
  have qt0 : t ≠ p := fun z => by first | exact clash ht P0 z | exact clash P0 ht z.symm
  have qt1 : t ≠ d := fun z => by first | exact clash ht D0 z | exact clash D0 ht z.symm
  repeat isplit
  refine (mk4_5 p 154 d [] rfl (AH.other (Ne.symm qt0) P0) (mk_set (by kernel_rfl) (by kernel_rfl) (by kernel_rfl) (by kernel_rfl)) (by simp) ?_)
  have P1 : ((G0.set t (.list [])).set p (.inst 154 d [("texts", .ref t)])) p = some (.inst 154 d [("texts", .ref t)]) := AH.set_self ..
  have D1 : ((G0.set t (.list [])).set p (.inst 154 d [("texts", .ref t)])) d = some (.aux p) := AH.other (Ne.symm hpd) (AH.other (Ne.symm qt1) D0)
  have K1t : ((G0.set t (.list [])).set p (.inst 154 d [("texts", .ref t)])) t = some (.list []) := AH.other qt0 (AH.set_self ..)
  have O1 : Off [] H ((G0.set t (.list [])).set p (.inst 154 d [("texts", .ref t)])) := fun b ob e n => AH.other (fun z => by first | exact clash e hp z | exact clash hp e z.symm) (AH.other (fun z => by first | exact clash e (none0 ht) z | exact clash (none0 ht) e z.symm) (O0 b ob e n))
  have none1 : ∀ {b : Addr}, ((G0.set t (.list [])).set p (.inst 154 d [("texts", .ref t)])) b = none → H b = none := fun e => none0 (AH.set_none _ (AH.set_none _ e))
  generalize (G0.set t (.list [])).set p (.inst 154 d [("texts", .ref t)]) = G1 at P1 D1 O1 none1 K1t ⊢
  repeat isplit
  refine Ev.dict (.dictS []) (dictS_new _) fun n hn => ?_
  have qn0 : n ≠ p := fun z => by first | exact clash hn P1 z | exact clash P1 hn z.symm
  have qn1 : n ≠ d := fun z => by first | exact clash hn D1 z | exact clash D1 hn z.symm
  have qnt : n ≠ t := fun z => by first | exact clash hn K1t z | exact clash K1t hn z.symm
  repeat isplit
  refine (mk4_5 p 154 d [("texts", .ref t)] rfl (AH.other (Ne.symm qn0) P1) (mk_set (by kernel_rfl) (by kernel_rfl) (by kernel_rfl) (by kernel_rfl)) (by simp) ?_)
  have P2 : ((G1.set n (.dictS [])).set p (.inst 154 d [("atom_numbers", .ref n), ("texts", .ref t)])) p = some (.inst 154 d [("atom_numbers", .ref n), ("texts", .ref t)]) := AH.set_self ..
  have D2 : ((G1.set n (.dictS [])).set p (.inst 154 d [("atom_numbers", .ref n), ("texts", .ref t)])) d = some (.aux p) := AH.other (Ne.symm hpd) (AH.other (Ne.symm qn1) D1)
  have K2t : ((G1.set n (.dictS [])).set p (.inst 154 d [("atom_numbers", .ref n), ("texts", .ref t)])) t = some (.list []) := AH.other qt0 (AH.other (Ne.symm qnt) K1t)
  have K2n : ((G1.set n (.dictS [])).set p (.inst 154 d [("atom_numbers", .ref n), ("texts", .ref t)])) n = some (.dictS []) := AH.other qn0 (AH.set_self ..)
  have O2 : Off [] H ((G1.set n (.dictS [])).set p (.inst 154 d [("atom_numbers", .ref n), ("texts", .ref t)])) := fun b ob e n => AH.other (fun z => by first | exact clash e hp z | exact clash hp e z.symm) (AH.other (fun z => by first | exact clash e (none1 hn) z | exact clash (none1 hn) e z.symm) (O1 b ob e n))
  have none2 : ∀ {b : Addr}, ((G1.set n (.dictS [])).set p (.inst 154 d [("atom_numbers", .ref n), ("texts", .ref t)])) b = none → H b = none := fun e => none1 (AH.set_none _ (AH.set_none _ e))
  generalize (G1.set n (.dictS [])).set p (.inst 154 d [("atom_numbers", .ref n), ("texts", .ref t)]) = G2 at P2 D2 O2 none2 K2t K2n ⊢
  repeat isplit
  refine ⟨fun f hf => ?_, by simp⟩
  have qf0 : f ≠ p := fun z => by first | exact clash hf P2 z | exact clash P2 hf z.symm
  have qf1 : f ≠ d := fun z => by first | exact clash hf D2 z | exact clash D2 hf z.symm
  have qft : f ≠ t := fun z => by first | exact clash hf K2t z | exact clash K2t hf z.symm
  have qfn : f ≠ n := fun z => by first | exact clash hf K2n z | exact clash K2n hf z.symm
  repeat isplit
  refine (mk4_5 p 154 d [("atom_numbers", .ref n), ("texts", .ref t)] rfl (AH.other (Ne.symm qf0) P2) (mk_set (by kernel_rfl) (by kernel_rfl) (by kernel_rfl) (by kernel_rfl)) (by simp) ?_)
  have P3 : ((G2.set f (.list [])).set p (.inst 154 d [("functors", .ref f), ("atom_numbers", .ref n), ("texts", .ref t)])) p = some (.inst 154 d [("functors", .ref f), ("atom_numbers", .ref n), ("texts", .ref t)]) := AH.set_self ..
  have D3 : ((G2.set f (.list [])).set p (.inst 154 d [("functors", .ref f), ("atom_numbers", .ref n), ("texts", .ref t)])) d = some (.aux p) := AH.other (Ne.symm hpd) (AH.other (Ne.symm qf1) D2)
  have K3t : ((G2.set f (.list [])).set p (.inst 154 d [("functors", .ref f), ("atom_numbers", .ref n), ("texts", .ref t)])) t = some (.list []) := AH.other qt0 (AH.other (Ne.symm qft) K2t)
  have K3n : ((G2.set f (.list [])).set p (.inst 154 d [("functors", .ref f), ("atom_numbers", .ref n), ("texts", .ref t)])) n = some (.dictS []) := AH.other qn0 (AH.other (Ne.symm qfn) K2n)
  have K3f : ((G2.set f (.list [])).set p (.inst 154 d [("functors", .ref f), ("atom_numbers", .ref n), ("texts", .ref t)])) f = some (.list []) := AH.other qf0 (AH.set_self ..)
  have O3 : Off [] H ((G2.set f (.list [])).set p (.inst 154 d [("functors", .ref f), ("atom_numbers", .ref n), ("texts", .ref t)])) := fun b ob e n => AH.other (fun z => by first | exact clash e hp z | exact clash hp e z.symm) (AH.other (fun z => by first | exact clash e (none2 hf) z | exact clash (none2 hf) e z.symm) (O2 b ob e n))
  have none3 : ∀ {b : Addr}, ((G2.set f (.list [])).set p (.inst 154 d [("functors", .ref f), ("atom_numbers", .ref n), ("texts", .ref t)])) b = none → H b = none := fun e => none2 (AH.set_none _ (AH.set_none _ e))
  generalize (G2.set f (.list [])).set p (.inst 154 d [("functors", .ref f), ("atom_numbers", .ref n), ("texts", .ref t)]) = G3 at P3 D3 O3 none3 K3t K3n K3f ⊢
  repeat isplit
  refine Ev.dict (.dictT []) (dictT_new _) fun g hg => ?_
  have qg0 : g ≠ p := fun z => by first | exact clash hg P3 z | exact clash P3 hg z.symm
  have qg1 : g ≠ d := fun z => by first | exact clash hg D3 z | exact clash D3 hg z.symm
  have qgt : g ≠ t := fun z => by first | exact clash hg K3t z | exact clash K3t hg z.symm
  have qgn : g ≠ n := fun z => by first | exact clash hg K3n z | exact clash K3n hg z.symm
  have qgf : g ≠ f := fun z => by first | exact clash hg K3f z | exact clash K3f hg z.symm
  repeat isplit
  refine (mk4_5 p 154 d [("functors", .ref f), ("atom_numbers", .ref n), ("texts", .ref t)] rfl (AH.other (Ne.symm qg0) P3) (mk_set (by kernel_rfl) (by kernel_rfl) (by kernel_rfl) (by kernel_rfl)) (by simp) ?_)
  have P4 : ((G3.set g (.dictT [])).set p (.inst 154 d [("functor_numbers", .ref g), ("functors", .ref f), ("atom_numbers", .ref n), ("texts", .ref t)])) p = some (.inst 154 d [("functor_numbers", .ref g), ("functors", .ref f), ("atom_numbers", .ref n), ("texts", .ref t)]) := AH.set_self ..
  have D4 : ((G3.set g (.dictT [])).set p (.inst 154 d [("functor_numbers", .ref g), ("functors", .ref f), ("atom_numbers", .ref n), ("texts", .ref t)])) d = some (.aux p) := AH.other (Ne.symm hpd) (AH.other (Ne.symm qg1) D3)
  have K4t : ((G3.set g (.dictT [])).set p (.inst 154 d [("functor_numbers", .ref g), ("functors", .ref f), ("atom_numbers", .ref n), ("texts", .ref t)])) t = some (.list []) := AH.other qt0 (AH.other (Ne.symm qgt) K3t)
  have K4n : ((G3.set g (.dictT [])).set p (.inst 154 d [("functor_numbers", .ref g), ("functors", .ref f), ("atom_numbers", .ref n), ("texts", .ref t)])) n = some (.dictS []) := AH.other qn0 (AH.other (Ne.symm qgn) K3n)
  have K4f : ((G3.set g (.dictT [])).set p (.inst 154 d [("functor_numbers", .ref g), ("functors", .ref f), ("atom_numbers", .ref n), ("texts", .ref t)])) f = some (.list []) := AH.other qf0 (AH.other (Ne.symm qgf) K3f)
  have K4g : ((G3.set g (.dictT [])).set p (.inst 154 d [("functor_numbers", .ref g), ("functors", .ref f), ("atom_numbers", .ref n), ("texts", .ref t)])) g = some (.dictT []) := AH.other qg0 (AH.set_self ..)
  have O4 : Off [] H ((G3.set g (.dictT [])).set p (.inst 154 d [("functor_numbers", .ref g), ("functors", .ref f), ("atom_numbers", .ref n), ("texts", .ref t)])) := fun b ob e n => AH.other (fun z => by first | exact clash e hp z | exact clash hp e z.symm) (AH.other (fun z => by first | exact clash e (none3 hg) z | exact clash (none3 hg) e z.symm) (O3 b ob e n))
  have none4 : ∀ {b : Addr}, ((G3.set g (.dictT [])).set p (.inst 154 d [("functor_numbers", .ref g), ("functors", .ref f), ("atom_numbers", .ref n), ("texts", .ref t)])) b = none → H b = none := fun e => none3 (AH.set_none _ (AH.set_none _ e))
  generalize (G3.set g (.dictT [])).set p (.inst 154 d [("functor_numbers", .ref g), ("functors", .ref f), ("atom_numbers", .ref n), ("texts", .ref t)]) = G4 at P4 D4 O4 none4 K4t K4n K4f K4g ⊢
  have B : Bk ⟨p, d, t, n, f, g⟩ G4 [] [] := ⟨P4, D4, K4t, K4n, K4f, K4g, Ne.symm qft⟩
  have hall : ∀ b ∈ (⟨p, d, t, n, f, g⟩ : BkA).all, H b = none := fun b hb => by
    simp only [BkA.all, List.mem_cons, List.mem_nil_iff, or_false] at hb
    rcases hb with rfl | rfl | rfl | rfl | rfl | rfl
    · exact hp
    · exact hd
    · exact none0 ht
    · exact none1 hn
    · exact none2 hf
    · exact none3 hg
  have offB : ∀ {G G' : AH}, Off [] H G → Off (⟨p, d, t, n, f, g⟩ : BkA).all G G' → Off [] H G' := fun {G G'} o o' b ob e _ => o' b ob (o b ob e (by simp)) fun hb => by rw [hall b hb] at e; cases e
  refine Exs.cons (Ex.forT hc .never (by nest_cls) ?_)
  refine Ev.call0 hc (by nest_cls) (gvG (by kernel_rfl : nsIn (KT c.w.params) mainGlobals "fixed_atoms" = some (some (.ref 60)))) (keep_ref (by kernel_rfl)) ?_
  refine (fixed_atoms_ok fun xs hx0 hx1 hx2 => ?_).at hc
  refine (mk1_2 _ rfl ?_)
  refine For.inv (fun i m G => m "self" = some (.ref p) ∧ ∃ ts, Bk ⟨p, d, t, n, f, g⟩ G ts [] ∧ Short ts ∧ ts.length ≤ i ∧ (0 < i → 0 < ts.length) ∧ Off [] H G) _ ⟨by one_item, [], B, nofun, by simp, by simp, O4⟩ ?_ ?_
  · rintro i d' m G hd' ⟨h1, ts, B1, sh1, l1, l2, o1⟩
    have hi : i < xs.length := by have := (List.getElem?_eq_some_iff.mp hd').1; simpa using this
    rw [List.getElem?_map, List.getElem?_eq_getElem hi, Option.map_some, Option.some.injEq] at hd'
    subst hd'
    refine ⟨trivial, ?_⟩
    isplit
    refine Ev.im ?_
    isplit
    refine (mk5_5 _ _ _ _ 88 rfl B1.inst (mk_meth (by kernel_rfl) (by kernel_rfl) (by kernel_rfl) (by kernel_rfl) (by kernel_rfl)) (by rfl) ?_)
    repeat isplit
    refine (atom_ok B1 (by (first | lia | omega)) fun G' B' o' => ?_).at hc
    refine ⟨nofun, nofun, ?_⟩
    repeat isplit
    have hl := addK_length ts xs[i]
    exact (mk0_2 (by one_item)  (mk1_5 _ B' (sh1.add (hx2 _ (List.getElem_mem hi))) (by (first | lia | omega)) (fun _ => addK_pos _ _) (offB o1 o')))
  · rintro m G ⟨h1, ts, B1, sh1, l1, l2, o1⟩
    rw [List.length_map] at l1 l2
    refine ⟨trivial, ?_⟩
    isplit
    refine Exs.cons (Ex.forT hc .never (by nest_cls) ?_)
    refine Ev.call0 hc (by nest_cls) (gvG (by kernel_rfl : nsIn (KT c.w.params) mainGlobals "fixed_functors" = some (some (.ref 67)))) (keep_ref (by kernel_rfl)) ?_
    refine (fixed_functors_ok fun rs hr hr2 => ?_).at hc
    refine (mk1_2 _ rfl ?_)
    refine For.inv (fun i m G => m "self" = some (.ref p) ∧ ∃ ts fn, Bk ⟨p, d, t, n, f, g⟩ G ts fn ∧ Short ts ∧ ts.length ≤ xs.length + i ∧ 0 < ts.length ∧ fn.length ≤ i ∧ Off [] H G) _ ⟨h1, ts, [], B1, sh1, by (first | lia | omega), l2 hx0, by simp, o1⟩ ?_ ?_
    · rintro i d' m G hd' ⟨h1, ts, fn, B1, sh1, l1, l2, l3, o1⟩
      have hi : i < rs.length := by have := (List.getElem?_eq_some_iff.mp hd').1; simpa using this
      rw [List.getElem?_map, List.getElem?_eq_getElem hi, Option.map_some, Option.some.injEq] at hd'
      subst hd'
      refine ⟨trivial, ?_⟩
      isplit
      refine Ev.im ?_
      isplit
      refine (mk5_5 _ _ _ _ 109 rfl B1.inst (mk_meth (by kernel_rfl) (by kernel_rfl) (by kernel_rfl) (by kernel_rfl) (by kernel_rfl)) (by rfl) ?_)
      repeat isplit
      refine Ev.subT ?_
      repeat isplit
      refine (mk1_2 _ rfl (Op2.item_tup (k := 0) (d := .str rs[i].1) rfl rfl (by simp) ?_))
      repeat isplit
      refine Ev.subT ?_
      repeat isplit
      refine (mk1_2 _ rfl (Op2.item_tup (k := 1) (d := .int rs[i].2) rfl rfl (by simp) ?_))
      repeat isplit
      refine (func_ok B1 (by (first | lia | omega)) (by (first | lia | omega)) fun G' B' o' => ?_).at hc
      refine ⟨nofun, nofun, ?_⟩
      repeat isplit
      have hl := addK_length ts rs[i].1
      have hl2 := addK_length fn [((ix ts rs[i].1 : Nat) : Int), rs[i].2]
      exact (mk0_2 (by one_item)  (mk2_6 _ _ B' (sh1.add (hr2 _ (List.getElem_mem hi))) (by (first | lia | omega)) (addK_pos _ _) (by (first | lia | omega)) (offB o1 o')))
    · rintro m G ⟨h1, ts, fn, B1, sh1, l1, l2, l3, o1⟩
      rw [List.length_map] at l1 l3
      refine ⟨trivial, ?_⟩
      repeat isplit
      exact ⟨rfl, q ⟨p, d, t, n, f, g⟩ G ts fn o1 B1 l2 (by (first | lia | omega)) (by (first | lia | omega)) sh1 hall⟩
theorem Store_ok {w : World} {H : AH} {sy : Addr} {Q : V → AH → Prop} (q : ∀ (k : StA) H', Off [] H H' → St k sy H' [] → (∀ a ∈ k.all, H a = none) → Q (.ref k.st) H') : Fn 3 w (.ref 402) [.ref sy, .int 2000] H Q := by
  refine Fn.make (fI := 216) ⟨by kernel_rfl, by kernel_rfl, by kernel_rfl⟩ fun p d hp hd hpd => ?_
  refine Fn.mkN (ds := [("self", .ref p), ("symbols", .ref sy), ("max_heap", .int 2000)]) ["self", "symbols", "max_heap"] ok216 (fun s vs X r => ?_) rfl (by decide +kernel) (by decide +kernel) (by decide +kernel) ?_
  · apply r.of3; intro v1 v2 v3 a b e
    exact (mk1_2 [("self", v1), ("symbols", v2), ("max_heap", v3)] (BindsTo.of_defaults (items := #[.int 100000 469]) (n := 0) rfl (X 209 (tupO [.int 100000 469] 0) (by kernel_rfl)) rfl rfl (by kernel_rfl))  ⟨rfl, .cons a (.cons b (.cons e .nil))⟩)
  intro c hw hc hs hcl
  conv =>
    arg 3
    whnf
  conv at hs =>
    rhs
    whnf
  subst hw
  show Exs _ _ _ (((Loc.nil.set "max_heap" (.int 2000)).set "symbols" (.ref sy)).set "self" (.ref p)) _ _
  have P0 : ((H.set d (.aux p)).set p (.inst 402 d [])) p = some (.inst 402 d []) := AH.set_self ..
  have D0 : ((H.set d (.aux p)).set p (.inst 402 d [])) d = some (.aux p) := AH.other (Ne.symm hpd) (AH.set_self ..)
  have O0 : Off [] H ((H.set d (.aux p)).set p (.inst 402 d [])) := fun b ob e _ => AH.other (fun z => by first | exact clash e hp z | exact clash hp e z.symm) (AH.other (fun z => by first | exact clash e hd z | exact clash hd e z.symm) e)
  have none0 : ∀ {b : Addr}, ((H.set d (.aux p)).set p (.inst 402 d [])) b = none → H b = none := fun e => AH.set_none _ (AH.set_none _ e)
  generalize (H.set d (.aux p)).set p (.inst 402 d []) = G0 at P0 D0 O0 none0 ⊢
  repeat isplit
  refine (mk4_5 p 402 d [] rfl P0 (mk_set (by kernel_rfl) (by kernel_rfl) (by kernel_rfl) (by kernel_rfl)) (by simp) ?_)
  have P1 : (G0.set p (.inst 402 d [("symbols", .ref sy)])) p = some (.inst 402 d [("symbols", .ref sy)]) := AH.set_self ..
  have D1 : (G0.set p (.inst 402 d [("symbols", .ref sy)])) d = some (.aux p) := AH.other (Ne.symm hpd) D0
  have O1 : Off [] H (G0.set p (.inst 402 d [("symbols", .ref sy)])) := fun b ob e n => AH.other (fun z => by first | exact clash e hp z | exact clash hp e z.symm) (O0 b ob e n)
  have none1 : ∀ {b : Addr}, (G0.set p (.inst 402 d [("symbols", .ref sy)])) b = none → H b = none := fun e => none0 (AH.set_none _ e)
  generalize (G0.set p (.inst 402 d [("symbols", .ref sy)])) = G1 at P1 D1 O1 none1  ⊢
  repeat isplit
  refine (mk4_5 p 402 d [("symbols", .ref sy)] rfl P1 (mk_set (by kernel_rfl) (by kernel_rfl) (by kernel_rfl) (by kernel_rfl)) (by simp) ?_)
  have P2 : (G1.set p (.inst 402 d [("max_heap", .int 2000), ("symbols", .ref sy)])) p = some (.inst 402 d [("max_heap", .int 2000), ("symbols", .ref sy)]) := AH.set_self ..
  have D2 : (G1.set p (.inst 402 d [("max_heap", .int 2000), ("symbols", .ref sy)])) d = some (.aux p) := AH.other (Ne.symm hpd) D1
  have O2 : Off [] H (G1.set p (.inst 402 d [("max_heap", .int 2000), ("symbols", .ref sy)])) := fun b ob e n => AH.other (fun z => by first | exact clash e hp z | exact clash hp e z.symm) (O1 b ob e n)
  have none2 : ∀ {b : Addr}, (G1.set p (.inst 402 d [("max_heap", .int 2000), ("symbols", .ref sy)])) b = none → H b = none := fun e => none1 (AH.set_none _ e)
  generalize (G1.set p (.inst 402 d [("max_heap", .int 2000), ("symbols", .ref sy)])) = G2 at P2 D2 O2 none2  ⊢
  repeat isplit
  refine ⟨fun he hhe => ?_, by simp⟩
  have qhep : he ≠ p := fun z => by first | exact clash hhe P2 z | exact clash P2 hhe z.symm
  have qhed : he ≠ d := fun z => by first | exact clash hhe D2 z | exact clash D2 hhe z.symm
  repeat isplit
  refine (mk4_5 p 402 d [("max_heap", .int 2000), ("symbols", .ref sy)] rfl (AH.other (Ne.symm qhep) P2) (mk_set (by kernel_rfl) (by kernel_rfl) (by kernel_rfl) (by kernel_rfl)) (by simp) ?_)
  have P3 : ((G2.set he (.list [])).set p (.inst 402 d [("heap", .ref he), ("max_heap", .int 2000), ("symbols", .ref sy)])) p = some (.inst 402 d [("heap", .ref he), ("max_heap", .int 2000), ("symbols", .ref sy)]) := AH.set_self ..
  have D3 : ((G2.set he (.list [])).set p (.inst 402 d [("heap", .ref he), ("max_heap", .int 2000), ("symbols", .ref sy)])) d = some (.aux p) := AH.other (Ne.symm hpd) (AH.other (Ne.symm qhed) D2)
  have K3he : ((G2.set he (.list [])).set p (.inst 402 d [("heap", .ref he), ("max_heap", .int 2000), ("symbols", .ref sy)])) he = some (.list []) := AH.other qhep (AH.set_self ..)
  have O3 : Off [] H ((G2.set he (.list [])).set p (.inst 402 d [("heap", .ref he), ("max_heap", .int 2000), ("symbols", .ref sy)])) := fun b ob e n => AH.other (fun z => by first | exact clash e hp z | exact clash hp e z.symm) (AH.other (fun z => by first | exact clash e (none2 hhe) z | exact clash (none2 hhe) e z.symm) (O2 b ob e n))
  have none3 : ∀ {b : Addr}, ((G2.set he (.list [])).set p (.inst 402 d [("heap", .ref he), ("max_heap", .int 2000), ("symbols", .ref sy)])) b = none → H b = none := fun e => none2 (AH.set_none _ (AH.set_none _ e))
  generalize ((G2.set he (.list [])).set p (.inst 402 d [("heap", .ref he), ("max_heap", .int 2000), ("symbols", .ref sy)])) = G3 at P3 D3 O3 none3 K3he ⊢
  repeat isplit
  refine ⟨fun sk hsk => ?_, by simp⟩
  have qskp : sk ≠ p := fun z => by first | exact clash hsk P3 z | exact clash P3 hsk z.symm
  have qskd : sk ≠ d := fun z => by first | exact clash hsk D3 z | exact clash D3 hsk z.symm
  have qskhe : sk ≠ he := fun z => by first | exact clash hsk K3he z | exact clash K3he hsk z.symm
  repeat isplit
  refine (mk4_5 p 402 d [("heap", .ref he), ("max_heap", .int 2000), ("symbols", .ref sy)] rfl (AH.other (Ne.symm qskp) P3) (mk_set (by kernel_rfl) (by kernel_rfl) (by kernel_rfl) (by kernel_rfl)) (by simp) ?_)
  have P4 : ((G3.set sk (.list [])).set p (.inst 402 d [("stack", .ref sk), ("heap", .ref he), ("max_heap", .int 2000), ("symbols", .ref sy)])) p = some (.inst 402 d [("stack", .ref sk), ("heap", .ref he), ("max_heap", .int 2000), ("symbols", .ref sy)]) := AH.set_self ..
  have D4 : ((G3.set sk (.list [])).set p (.inst 402 d [("stack", .ref sk), ("heap", .ref he), ("max_heap", .int 2000), ("symbols", .ref sy)])) d = some (.aux p) := AH.other (Ne.symm hpd) (AH.other (Ne.symm qskd) D3)
  have K4he : ((G3.set sk (.list [])).set p (.inst 402 d [("stack", .ref sk), ("heap", .ref he), ("max_heap", .int 2000), ("symbols", .ref sy)])) he = some (.list []) := AH.other qhep (AH.other (Ne.symm qskhe) K3he)
  have K4sk : ((G3.set sk (.list [])).set p (.inst 402 d [("stack", .ref sk), ("heap", .ref he), ("max_heap", .int 2000), ("symbols", .ref sy)])) sk = some (.list []) := AH.other qskp (AH.set_self ..)
  have O4 : Off [] H ((G3.set sk (.list [])).set p (.inst 402 d [("stack", .ref sk), ("heap", .ref he), ("max_heap", .int 2000), ("symbols", .ref sy)])) := fun b ob e n => AH.other (fun z => by first | exact clash e hp z | exact clash hp e z.symm) (AH.other (fun z => by first | exact clash e (none3 hsk) z | exact clash (none3 hsk) e z.symm) (O3 b ob e n))
  have none4 : ∀ {b : Addr}, ((G3.set sk (.list [])).set p (.inst 402 d [("stack", .ref sk), ("heap", .ref he), ("max_heap", .int 2000), ("symbols", .ref sy)])) b = none → H b = none := fun e => none3 (AH.set_none _ (AH.set_none _ e))
  generalize ((G3.set sk (.list [])).set p (.inst 402 d [("stack", .ref sk), ("heap", .ref he), ("max_heap", .int 2000), ("symbols", .ref sy)])) = G4 at P4 D4 O4 none4 K4he K4sk ⊢
  repeat isplit
  refine ⟨fun tr htr => ?_, by simp⟩
  have qtrp : tr ≠ p := fun z => by first | exact clash htr P4 z | exact clash P4 htr z.symm
  have qtrd : tr ≠ d := fun z => by first | exact clash htr D4 z | exact clash D4 htr z.symm
  have qtrhe : tr ≠ he := fun z => by first | exact clash htr K4he z | exact clash K4he htr z.symm
  have qtrsk : tr ≠ sk := fun z => by first | exact clash htr K4sk z | exact clash K4sk htr z.symm
  repeat isplit
  refine (mk4_5 p 402 d [("stack", .ref sk), ("heap", .ref he), ("max_heap", .int 2000), ("symbols", .ref sy)] rfl (AH.other (Ne.symm qtrp) P4) (mk_set (by kernel_rfl) (by kernel_rfl) (by kernel_rfl) (by kernel_rfl)) (by simp) ?_)
  have P5 : ((G4.set tr (.list [])).set p (.inst 402 d [("trail", .ref tr), ("stack", .ref sk), ("heap", .ref he), ("max_heap", .int 2000), ("symbols", .ref sy)])) p = some (.inst 402 d [("trail", .ref tr), ("stack", .ref sk), ("heap", .ref he), ("max_heap", .int 2000), ("symbols", .ref sy)]) := AH.set_self ..
  have D5 : ((G4.set tr (.list [])).set p (.inst 402 d [("trail", .ref tr), ("stack", .ref sk), ("heap", .ref he), ("max_heap", .int 2000), ("symbols", .ref sy)])) d = some (.aux p) := AH.other (Ne.symm hpd) (AH.other (Ne.symm qtrd) D4)
  have K5he : ((G4.set tr (.list [])).set p (.inst 402 d [("trail", .ref tr), ("stack", .ref sk), ("heap", .ref he), ("max_heap", .int 2000), ("symbols", .ref sy)])) he = some (.list []) := AH.other qhep (AH.other (Ne.symm qtrhe) K4he)
  have K5sk : ((G4.set tr (.list [])).set p (.inst 402 d [("trail", .ref tr), ("stack", .ref sk), ("heap", .ref he), ("max_heap", .int 2000), ("symbols", .ref sy)])) sk = some (.list []) := AH.other qskp (AH.other (Ne.symm qtrsk) K4sk)
  have K5tr : ((G4.set tr (.list [])).set p (.inst 402 d [("trail", .ref tr), ("stack", .ref sk), ("heap", .ref he), ("max_heap", .int 2000), ("symbols", .ref sy)])) tr = some (.list []) := AH.other qtrp (AH.set_self ..)
  have O5 : Off [] H ((G4.set tr (.list [])).set p (.inst 402 d [("trail", .ref tr), ("stack", .ref sk), ("heap", .ref he), ("max_heap", .int 2000), ("symbols", .ref sy)])) := fun b ob e n => AH.other (fun z => by first | exact clash e hp z | exact clash hp e z.symm) (AH.other (fun z => by first | exact clash e (none4 htr) z | exact clash (none4 htr) e z.symm) (O4 b ob e n))
  have none5 : ∀ {b : Addr}, ((G4.set tr (.list [])).set p (.inst 402 d [("trail", .ref tr), ("stack", .ref sk), ("heap", .ref he), ("max_heap", .int 2000), ("symbols", .ref sy)])) b = none → H b = none := fun e => none4 (AH.set_none _ (AH.set_none _ e))
  generalize ((G4.set tr (.list [])).set p (.inst 402 d [("trail", .ref tr), ("stack", .ref sk), ("heap", .ref he), ("max_heap", .int 2000), ("symbols", .ref sy)])) = G5 at P5 D5 O5 none5 K5he K5sk K5tr ⊢
  repeat isplit
  refine (mk4_5 p 402 d [("trail", .ref tr), ("stack", .ref sk), ("heap", .ref he), ("max_heap", .int 2000), ("symbols", .ref sy)] rfl P5 (mk_set (by kernel_rfl) (by kernel_rfl) (by kernel_rfl) (by kernel_rfl)) (by simp) ?_)
  have P6 : (G5.set p (.inst 402 d [("hb", .int 0), ("trail", .ref tr), ("stack", .ref sk), ("heap", .ref he), ("max_heap", .int 2000), ("symbols", .ref sy)])) p = some (.inst 402 d [("hb", .int 0), ("trail", .ref tr), ("stack", .ref sk), ("heap", .ref he), ("max_heap", .int 2000), ("symbols", .ref sy)]) := AH.set_self ..
  have D6 : (G5.set p (.inst 402 d [("hb", .int 0), ("trail", .ref tr), ("stack", .ref sk), ("heap", .ref he), ("max_heap", .int 2000), ("symbols", .ref sy)])) d = some (.aux p) := AH.other (Ne.symm hpd) D5
  have K6he : (G5.set p (.inst 402 d [("hb", .int 0), ("trail", .ref tr), ("stack", .ref sk), ("heap", .ref he), ("max_heap", .int 2000), ("symbols", .ref sy)])) he = some (.list []) := AH.other qhep K5he
  have K6sk : (G5.set p (.inst 402 d [("hb", .int 0), ("trail", .ref tr), ("stack", .ref sk), ("heap", .ref he), ("max_heap", .int 2000), ("symbols", .ref sy)])) sk = some (.list []) := AH.other qskp K5sk
  have K6tr : (G5.set p (.inst 402 d [("hb", .int 0), ("trail", .ref tr), ("stack", .ref sk), ("heap", .ref he), ("max_heap", .int 2000), ("symbols", .ref sy)])) tr = some (.list []) := AH.other qtrp K5tr
  have O6 : Off [] H (G5.set p (.inst 402 d [("hb", .int 0), ("trail", .ref tr), ("stack", .ref sk), ("heap", .ref he), ("max_heap", .int 2000), ("symbols", .ref sy)])) := fun b ob e n => AH.other (fun z => by first | exact clash e hp z | exact clash hp e z.symm) (O5 b ob e n)
  have none6 : ∀ {b : Addr}, (G5.set p (.inst 402 d [("hb", .int 0), ("trail", .ref tr), ("stack", .ref sk), ("heap", .ref he), ("max_heap", .int 2000), ("symbols", .ref sy)])) b = none → H b = none := fun e => none5 (AH.set_none _ e)
  generalize (G5.set p (.inst 402 d [("hb", .int 0), ("trail", .ref tr), ("stack", .ref sk), ("heap", .ref he), ("max_heap", .int 2000), ("symbols", .ref sy)])) = G6 at P6 D6 O6 none6 K6he K6sk K6tr ⊢
  repeat isplit
  refine (mk4_5 p 402 d [("hb", .int 0), ("trail", .ref tr), ("stack", .ref sk), ("heap", .ref he), ("max_heap", .int 2000), ("symbols", .ref sy)] rfl P6 (mk_set (by kernel_rfl) (by kernel_rfl) (by kernel_rfl) (by kernel_rfl)) (by simp) ?_)
  have P7 : (G6.set p (.inst 402 d [("bb", .int 0), ("hb", .int 0), ("trail", .ref tr), ("stack", .ref sk), ("heap", .ref he), ("max_heap", .int 2000), ("symbols", .ref sy)])) p = some (.inst 402 d [("bb", .int 0), ("hb", .int 0), ("trail", .ref tr), ("stack", .ref sk), ("heap", .ref he), ("max_heap", .int 2000), ("symbols", .ref sy)]) := AH.set_self ..
  have D7 : (G6.set p (.inst 402 d [("bb", .int 0), ("hb", .int 0), ("trail", .ref tr), ("stack", .ref sk), ("heap", .ref he), ("max_heap", .int 2000), ("symbols", .ref sy)])) d = some (.aux p) := AH.other (Ne.symm hpd) D6
  have K7he : (G6.set p (.inst 402 d [("bb", .int 0), ("hb", .int 0), ("trail", .ref tr), ("stack", .ref sk), ("heap", .ref he), ("max_heap", .int 2000), ("symbols", .ref sy)])) he = some (.list []) := AH.other qhep K6he
  have K7sk : (G6.set p (.inst 402 d [("bb", .int 0), ("hb", .int 0), ("trail", .ref tr), ("stack", .ref sk), ("heap", .ref he), ("max_heap", .int 2000), ("symbols", .ref sy)])) sk = some (.list []) := AH.other qskp K6sk
  have K7tr : (G6.set p (.inst 402 d [("bb", .int 0), ("hb", .int 0), ("trail", .ref tr), ("stack", .ref sk), ("heap", .ref he), ("max_heap", .int 2000), ("symbols", .ref sy)])) tr = some (.list []) := AH.other qtrp K6tr
  have O7 : Off [] H (G6.set p (.inst 402 d [("bb", .int 0), ("hb", .int 0), ("trail", .ref tr), ("stack", .ref sk), ("heap", .ref he), ("max_heap", .int 2000), ("symbols", .ref sy)])) := fun b ob e n => AH.other (fun z => by first | exact clash e hp z | exact clash hp e z.symm) (O6 b ob e n)
  have none7 : ∀ {b : Addr}, (G6.set p (.inst 402 d [("bb", .int 0), ("hb", .int 0), ("trail", .ref tr), ("stack", .ref sk), ("heap", .ref he), ("max_heap", .int 2000), ("symbols", .ref sy)])) b = none → H b = none := fun e => none6 (AH.set_none _ e)
  generalize (G6.set p (.inst 402 d [("bb", .int 0), ("hb", .int 0), ("trail", .ref tr), ("stack", .ref sk), ("heap", .ref he), ("max_heap", .int 2000), ("symbols", .ref sy)])) = G7 at P7 D7 O7 none7 K7he K7sk K7tr ⊢
  repeat isplit
  refine ⟨rfl, q ⟨p, d, he, sk, tr⟩ G7 O7 ⟨P7, D7, K7he⟩ ?_⟩
  intro a ha
  simp only [StA.all, List.mem_cons, List.mem_nil_iff, or_false] at ha
  rcases ha with rfl | rfl | rfl
  · exact hp
  · exact hd
  · exact none2 hhe
theorem reset_ok {w : World} {H : AH} {p d sy cd : Addr} (i1 : H p = some (.inst 597 d [("max_bits", .int 4096), ("occurs", .bool true), ("max_heap", .int 2000), ("code", .ref cd), ("symbols", .ref sy)])) (i2 : H d = some (.aux p)) (hpd : p ≠ d) {Q : V → AH → Prop} (q : ∀ (k : StA) fs G, St k sy G [] → (∀ a ∈ k.all, H a = none) → Off [p] H G → G p = some (.inst 597 d fs) → fs.lookup ("store" : Str) = some (.ref k.st) → fs.lookup ("symbols" : Str) = some (.ref sy) → fs.lookup ("take" : Str) = Option.none → fs.lookup ("put" : Str) = Option.none → Q .none G) : Fn 5 w (.ref 461) [.ref p] H Q := by
  refine Fn.p1 "self" ok461 (by intro a; kernel_rfl) (by decide +kernel) (by decide +kernel) ?_
  intro c hw hc hs hcl
  conv =>
    arg 3
    whnf
  conv at hs =>
    rhs
    whnf
  subst hw
  repeat isplit
  refine Ev.call hc (by nest_cls) (gvG (by kernel_rfl : nsIn (KT c.w.params) mainGlobals "Store" = some (some (.ref 402)))) (keep_ref (by kernel_rfl)) ?_
  repeat isplit
  refine (Store_ok fun k G0 O0 S0 none0 => ?_).at hc
  repeat isplit
  have P0 : G0 p = some (.inst 597 d [("max_bits", .int 4096), ("occurs", .bool true), ("max_heap", .int 2000), ("code", .ref cd), ("symbols", .ref sy)]) := O0 _ _ i1 (by simp)
  have D0 : G0 d = some (.aux p) := O0 _ _ i2 (by simp)
  have OO0 : Off [p] G0 G0 := fun b ob e _ => e
  refine (mk4_5 p 597 d [("max_bits", .int 4096), ("occurs", .bool true), ("max_heap", .int 2000), ("code", .ref cd), ("symbols", .ref sy)] rfl P0 (mk_set (by kernel_rfl) (by kernel_rfl) (by kernel_rfl) (by kernel_rfl)) (by simp) ?_)
  have P1 : (G0.set p (.inst 597 d [("store", .ref k.st), ("max_bits", .int 4096), ("occurs", .bool true), ("max_heap", .int 2000), ("code", .ref cd), ("symbols", .ref sy)])) p = some (.inst 597 d [("store", .ref k.st), ("max_bits", .int 4096), ("occurs", .bool true), ("max_heap", .int 2000), ("code", .ref cd), ("symbols", .ref sy)]) := AH.set_self ..
  have OO1 : Off [p] G0 (G0.set p (.inst 597 d [("store", .ref k.st), ("max_bits", .int 4096), ("occurs", .bool true), ("max_heap", .int 2000), ("code", .ref cd), ("symbols", .ref sy)])) := fun b ob e n => AH.other (fun z => n (by simp [z])) (OO0 b ob e n)
  generalize (G0.set p (.inst 597 d [("store", .ref k.st), ("max_bits", .int 4096), ("occurs", .bool true), ("max_heap", .int 2000), ("code", .ref cd), ("symbols", .ref sy)])) = G1 at P1 OO1 ⊢
  repeat isplit
  refine Ev.glob hc (by nest_cls) (gvG (by kernel_rfl : nsIn (KT c.w.params) mainGlobals "VOID" = some (some (.ref 201)))) (fun _ _ => .ref 201) ?_
  repeat isplit
  refine ⟨fun a2 ha2 => ?_, by simp⟩
  have qa2 : a2 ≠ p := fun z => by first | exact clash ha2 P1 z | exact clash P1 ha2 z.symm
  repeat isplit
  refine (mk4_5 p 597 d [("store", .ref k.st), ("max_bits", .int 4096), ("occurs", .bool true), ("max_heap", .int 2000), ("code", .ref cd), ("symbols", .ref sy)] rfl (AH.other (Ne.symm qa2) P1) (mk_set (by kernel_rfl) (by kernel_rfl) (by kernel_rfl) (by kernel_rfl)) (by simp) ?_)
  have P2 : ((G1.set a2 (.list [.ref 201])).set p (.inst 597 d [("x", .ref a2), ("store", .ref k.st), ("max_bits", .int 4096), ("occurs", .bool true), ("max_heap", .int 2000), ("code", .ref cd), ("symbols", .ref sy)])) p = some (.inst 597 d [("x", .ref a2), ("store", .ref k.st), ("max_bits", .int 4096), ("occurs", .bool true), ("max_heap", .int 2000), ("code", .ref cd), ("symbols", .ref sy)]) := AH.set_self ..
  have OO2 : Off [p] G0 ((G1.set a2 (.list [.ref 201])).set p (.inst 597 d [("x", .ref a2), ("store", .ref k.st), ("max_bits", .int 4096), ("occurs", .bool true), ("max_heap", .int 2000), ("code", .ref cd), ("symbols", .ref sy)])) := fun b ob e n => AH.other (fun z => n (by simp [z])) (AH.other (fun z => by rw [z] at e; have e2 := OO1 _ _ e (by simpa using qa2); rw [ha2] at e2; cases e2) (OO1 b ob e n))
  generalize ((G1.set a2 (.list [.ref 201])).set p (.inst 597 d [("x", .ref a2), ("store", .ref k.st), ("max_bits", .int 4096), ("occurs", .bool true), ("max_heap", .int 2000), ("code", .ref cd), ("symbols", .ref sy)])) = G2 at P2 OO2 ⊢
  repeat isplit
  refine (mk4_5 p 597 d [("x", .ref a2), ("store", .ref k.st), ("max_bits", .int 4096), ("occurs", .bool true), ("max_heap", .int 2000), ("code", .ref cd), ("symbols", .ref sy)] rfl P2 (mk_set (by kernel_rfl) (by kernel_rfl) (by kernel_rfl) (by kernel_rfl)) (by simp) ?_)
  have P3 : (G2.set p (.inst 597 d [("p", .int 0), ("x", .ref a2), ("store", .ref k.st), ("max_bits", .int 4096), ("occurs", .bool true), ("max_heap", .int 2000), ("code", .ref cd), ("symbols", .ref sy)])) p = some (.inst 597 d [("p", .int 0), ("x", .ref a2), ("store", .ref k.st), ("max_bits", .int 4096), ("occurs", .bool true), ("max_heap", .int 2000), ("code", .ref cd), ("symbols", .ref sy)]) := AH.set_self ..
  have OO3 : Off [p] G0 (G2.set p (.inst 597 d [("p", .int 0), ("x", .ref a2), ("store", .ref k.st), ("max_bits", .int 4096), ("occurs", .bool true), ("max_heap", .int 2000), ("code", .ref cd), ("symbols", .ref sy)])) := fun b ob e n => AH.other (fun z => n (by simp [z])) (OO2 b ob e n)
  generalize (G2.set p (.inst 597 d [("p", .int 0), ("x", .ref a2), ("store", .ref k.st), ("max_bits", .int 4096), ("occurs", .bool true), ("max_heap", .int 2000), ("code", .ref cd), ("symbols", .ref sy)])) = G3 at P3 OO3 ⊢
  repeat isplit
  refine (mk4_5 p 597 d [("p", .int 0), ("x", .ref a2), ("store", .ref k.st), ("max_bits", .int 4096), ("occurs", .bool true), ("max_heap", .int 2000), ("code", .ref cd), ("symbols", .ref sy)] rfl P3 (mk_set (by kernel_rfl) (by kernel_rfl) (by kernel_rfl) (by kernel_rfl)) (by simp) ?_)
  have P4 : (G3.set p (.inst 597 d [("cp", .int 0), ("p", .int 0), ("x", .ref a2), ("store", .ref k.st), ("max_bits", .int 4096), ("occurs", .bool true), ("max_heap", .int 2000), ("code", .ref cd), ("symbols", .ref sy)])) p = some (.inst 597 d [("cp", .int 0), ("p", .int 0), ("x", .ref a2), ("store", .ref k.st), ("max_bits", .int 4096), ("occurs", .bool true), ("max_heap", .int 2000), ("code", .ref cd), ("symbols", .ref sy)]) := AH.set_self ..
  have OO4 : Off [p] G0 (G3.set p (.inst 597 d [("cp", .int 0), ("p", .int 0), ("x", .ref a2), ("store", .ref k.st), ("max_bits", .int 4096), ("occurs", .bool true), ("max_heap", .int 2000), ("code", .ref cd), ("symbols", .ref sy)])) := fun b ob e n => AH.other (fun z => n (by simp [z])) (OO3 b ob e n)
  generalize (G3.set p (.inst 597 d [("cp", .int 0), ("p", .int 0), ("x", .ref a2), ("store", .ref k.st), ("max_bits", .int 4096), ("occurs", .bool true), ("max_heap", .int 2000), ("code", .ref cd), ("symbols", .ref sy)])) = G4 at P4 OO4 ⊢
  repeat isplit
  refine (mk4_5 p 597 d [("cp", .int 0), ("p", .int 0), ("x", .ref a2), ("store", .ref k.st), ("max_bits", .int 4096), ("occurs", .bool true), ("max_heap", .int 2000), ("code", .ref cd), ("symbols", .ref sy)] rfl P4 (mk_set (by kernel_rfl) (by kernel_rfl) (by kernel_rfl) (by kernel_rfl)) (by simp) ?_)
  have P5 : (G4.set p (.inst 597 d [("e", .int (-1)), ("cp", .int 0), ("p", .int 0), ("x", .ref a2), ("store", .ref k.st), ("max_bits", .int 4096), ("occurs", .bool true), ("max_heap", .int 2000), ("code", .ref cd), ("symbols", .ref sy)])) p = some (.inst 597 d [("e", .int (-1)), ("cp", .int 0), ("p", .int 0), ("x", .ref a2), ("store", .ref k.st), ("max_bits", .int 4096), ("occurs", .bool true), ("max_heap", .int 2000), ("code", .ref cd), ("symbols", .ref sy)]) := AH.set_self ..
  have OO5 : Off [p] G0 (G4.set p (.inst 597 d [("e", .int (-1)), ("cp", .int 0), ("p", .int 0), ("x", .ref a2), ("store", .ref k.st), ("max_bits", .int 4096), ("occurs", .bool true), ("max_heap", .int 2000), ("code", .ref cd), ("symbols", .ref sy)])) := fun b ob e n => AH.other (fun z => n (by simp [z])) (OO4 b ob e n)
  generalize (G4.set p (.inst 597 d [("e", .int (-1)), ("cp", .int 0), ("p", .int 0), ("x", .ref a2), ("store", .ref k.st), ("max_bits", .int 4096), ("occurs", .bool true), ("max_heap", .int 2000), ("code", .ref cd), ("symbols", .ref sy)])) = G5 at P5 OO5 ⊢
  repeat isplit
  refine (mk4_5 p 597 d [("e", .int (-1)), ("cp", .int 0), ("p", .int 0), ("x", .ref a2), ("store", .ref k.st), ("max_bits", .int 4096), ("occurs", .bool true), ("max_heap", .int 2000), ("code", .ref cd), ("symbols", .ref sy)] rfl P5 (mk_set (by kernel_rfl) (by kernel_rfl) (by kernel_rfl) (by kernel_rfl)) (by simp) ?_)
  have P6 : (G5.set p (.inst 597 d [("b", .int (-1)), ("e", .int (-1)), ("cp", .int 0), ("p", .int 0), ("x", .ref a2), ("store", .ref k.st), ("max_bits", .int 4096), ("occurs", .bool true), ("max_heap", .int 2000), ("code", .ref cd), ("symbols", .ref sy)])) p = some (.inst 597 d [("b", .int (-1)), ("e", .int (-1)), ("cp", .int 0), ("p", .int 0), ("x", .ref a2), ("store", .ref k.st), ("max_bits", .int 4096), ("occurs", .bool true), ("max_heap", .int 2000), ("code", .ref cd), ("symbols", .ref sy)]) := AH.set_self ..
  have OO6 : Off [p] G0 (G5.set p (.inst 597 d [("b", .int (-1)), ("e", .int (-1)), ("cp", .int 0), ("p", .int 0), ("x", .ref a2), ("store", .ref k.st), ("max_bits", .int 4096), ("occurs", .bool true), ("max_heap", .int 2000), ("code", .ref cd), ("symbols", .ref sy)])) := fun b ob e n => AH.other (fun z => n (by simp [z])) (OO5 b ob e n)
  generalize (G5.set p (.inst 597 d [("b", .int (-1)), ("e", .int (-1)), ("cp", .int 0), ("p", .int 0), ("x", .ref a2), ("store", .ref k.st), ("max_bits", .int 4096), ("occurs", .bool true), ("max_heap", .int 2000), ("code", .ref cd), ("symbols", .ref sy)])) = G6 at P6 OO6 ⊢
  repeat isplit
  refine (mk4_5 p 597 d [("b", .int (-1)), ("e", .int (-1)), ("cp", .int 0), ("p", .int 0), ("x", .ref a2), ("store", .ref k.st), ("max_bits", .int 4096), ("occurs", .bool true), ("max_heap", .int 2000), ("code", .ref cd), ("symbols", .ref sy)] rfl P6 (mk_set (by kernel_rfl) (by kernel_rfl) (by kernel_rfl) (by kernel_rfl)) (by simp) ?_)
  have P7 : (G6.set p (.inst 597 d [("b0", .int (-1)), ("b", .int (-1)), ("e", .int (-1)), ("cp", .int 0), ("p", .int 0), ("x", .ref a2), ("store", .ref k.st), ("max_bits", .int 4096), ("occurs", .bool true), ("max_heap", .int 2000), ("code", .ref cd), ("symbols", .ref sy)])) p = some (.inst 597 d [("b0", .int (-1)), ("b", .int (-1)), ("e", .int (-1)), ("cp", .int 0), ("p", .int 0), ("x", .ref a2), ("store", .ref k.st), ("max_bits", .int 4096), ("occurs", .bool true), ("max_heap", .int 2000), ("code", .ref cd), ("symbols", .ref sy)]) := AH.set_self ..
  have OO7 : Off [p] G0 (G6.set p (.inst 597 d [("b0", .int (-1)), ("b", .int (-1)), ("e", .int (-1)), ("cp", .int 0), ("p", .int 0), ("x", .ref a2), ("store", .ref k.st), ("max_bits", .int 4096), ("occurs", .bool true), ("max_heap", .int 2000), ("code", .ref cd), ("symbols", .ref sy)])) := fun b ob e n => AH.other (fun z => n (by simp [z])) (OO6 b ob e n)
  generalize (G6.set p (.inst 597 d [("b0", .int (-1)), ("b", .int (-1)), ("e", .int (-1)), ("cp", .int 0), ("p", .int 0), ("x", .ref a2), ("store", .ref k.st), ("max_bits", .int 4096), ("occurs", .bool true), ("max_heap", .int 2000), ("code", .ref cd), ("symbols", .ref sy)])) = G7 at P7 OO7 ⊢
  repeat isplit
  refine (mk4_5 p 597 d [("b0", .int (-1)), ("b", .int (-1)), ("e", .int (-1)), ("cp", .int 0), ("p", .int 0), ("x", .ref a2), ("store", .ref k.st), ("max_bits", .int 4096), ("occurs", .bool true), ("max_heap", .int 2000), ("code", .ref cd), ("symbols", .ref sy)] rfl P7 (mk_set (by kernel_rfl) (by kernel_rfl) (by kernel_rfl) (by kernel_rfl)) (by simp) ?_)
  have P8 : (G7.set p (.inst 597 d [("mode", .str "read"), ("b0", .int (-1)), ("b", .int (-1)), ("e", .int (-1)), ("cp", .int 0), ("p", .int 0), ("x", .ref a2), ("store", .ref k.st), ("max_bits", .int 4096), ("occurs", .bool true), ("max_heap", .int 2000), ("code", .ref cd), ("symbols", .ref sy)])) p = some (.inst 597 d [("mode", .str "read"), ("b0", .int (-1)), ("b", .int (-1)), ("e", .int (-1)), ("cp", .int 0), ("p", .int 0), ("x", .ref a2), ("store", .ref k.st), ("max_bits", .int 4096), ("occurs", .bool true), ("max_heap", .int 2000), ("code", .ref cd), ("symbols", .ref sy)]) := AH.set_self ..
  have OO8 : Off [p] G0 (G7.set p (.inst 597 d [("mode", .str "read"), ("b0", .int (-1)), ("b", .int (-1)), ("e", .int (-1)), ("cp", .int 0), ("p", .int 0), ("x", .ref a2), ("store", .ref k.st), ("max_bits", .int 4096), ("occurs", .bool true), ("max_heap", .int 2000), ("code", .ref cd), ("symbols", .ref sy)])) := fun b ob e n => AH.other (fun z => n (by simp [z])) (OO7 b ob e n)
  generalize (G7.set p (.inst 597 d [("mode", .str "read"), ("b0", .int (-1)), ("b", .int (-1)), ("e", .int (-1)), ("cp", .int 0), ("p", .int 0), ("x", .ref a2), ("store", .ref k.st), ("max_bits", .int 4096), ("occurs", .bool true), ("max_heap", .int 2000), ("code", .ref cd), ("symbols", .ref sy)])) = G8 at P8 OO8 ⊢
  repeat isplit
  refine (mk4_5 p 597 d [("mode", .str "read"), ("b0", .int (-1)), ("b", .int (-1)), ("e", .int (-1)), ("cp", .int 0), ("p", .int 0), ("x", .ref a2), ("store", .ref k.st), ("max_bits", .int 4096), ("occurs", .bool true), ("max_heap", .int 2000), ("code", .ref cd), ("symbols", .ref sy)] rfl P8 (mk_set (by kernel_rfl) (by kernel_rfl) (by kernel_rfl) (by kernel_rfl)) (by simp) ?_)
  have P9 : (G8.set p (.inst 597 d [("s", .int 0), ("mode", .str "read"), ("b0", .int (-1)), ("b", .int (-1)), ("e", .int (-1)), ("cp", .int 0), ("p", .int 0), ("x", .ref a2), ("store", .ref k.st), ("max_bits", .int 4096), ("occurs", .bool true), ("max_heap", .int 2000), ("code", .ref cd), ("symbols", .ref sy)])) p = some (.inst 597 d [("s", .int 0), ("mode", .str "read"), ("b0", .int (-1)), ("b", .int (-1)), ("e", .int (-1)), ("cp", .int 0), ("p", .int 0), ("x", .ref a2), ("store", .ref k.st), ("max_bits", .int 4096), ("occurs", .bool true), ("max_heap", .int 2000), ("code", .ref cd), ("symbols", .ref sy)]) := AH.set_self ..
  have OO9 : Off [p] G0 (G8.set p (.inst 597 d [("s", .int 0), ("mode", .str "read"), ("b0", .int (-1)), ("b", .int (-1)), ("e", .int (-1)), ("cp", .int 0), ("p", .int 0), ("x", .ref a2), ("store", .ref k.st), ("max_bits", .int 4096), ("occurs", .bool true), ("max_heap", .int 2000), ("code", .ref cd), ("symbols", .ref sy)])) := fun b ob e n => AH.other (fun z => n (by simp [z])) (OO8 b ob e n)
  generalize (G8.set p (.inst 597 d [("s", .int 0), ("mode", .str "read"), ("b0", .int (-1)), ("b", .int (-1)), ("e", .int (-1)), ("cp", .int 0), ("p", .int 0), ("x", .ref a2), ("store", .ref k.st), ("max_bits", .int 4096), ("occurs", .bool true), ("max_heap", .int 2000), ("code", .ref cd), ("symbols", .ref sy)])) = G9 at P9 OO9 ⊢
  repeat isplit
  refine Ev.glob hc (by nest_cls) (gvG (by kernel_rfl : nsIn (KT c.w.params) mainGlobals "VOID" = some (some (.ref 201)))) (fun _ _ => .ref 201) ?_
  repeat isplit
  refine (mk4_5 p 597 d [("s", .int 0), ("mode", .str "read"), ("b0", .int (-1)), ("b", .int (-1)), ("e", .int (-1)), ("cp", .int 0), ("p", .int 0), ("x", .ref a2), ("store", .ref k.st), ("max_bits", .int 4096), ("occurs", .bool true), ("max_heap", .int 2000), ("code", .ref cd), ("symbols", .ref sy)] rfl P9 (mk_set (by kernel_rfl) (by kernel_rfl) (by kernel_rfl) (by kernel_rfl)) (by simp) ?_)
  have P10 : (G9.set p (.inst 597 d [("guard", .ref 201), ("s", .int 0), ("mode", .str "read"), ("b0", .int (-1)), ("b", .int (-1)), ("e", .int (-1)), ("cp", .int 0), ("p", .int 0), ("x", .ref a2), ("store", .ref k.st), ("max_bits", .int 4096), ("occurs", .bool true), ("max_heap", .int 2000), ("code", .ref cd), ("symbols", .ref sy)])) p = some (.inst 597 d [("guard", .ref 201), ("s", .int 0), ("mode", .str "read"), ("b0", .int (-1)), ("b", .int (-1)), ("e", .int (-1)), ("cp", .int 0), ("p", .int 0), ("x", .ref a2), ("store", .ref k.st), ("max_bits", .int 4096), ("occurs", .bool true), ("max_heap", .int 2000), ("code", .ref cd), ("symbols", .ref sy)]) := AH.set_self ..
  have OO10 : Off [p] G0 (G9.set p (.inst 597 d [("guard", .ref 201), ("s", .int 0), ("mode", .str "read"), ("b0", .int (-1)), ("b", .int (-1)), ("e", .int (-1)), ("cp", .int 0), ("p", .int 0), ("x", .ref a2), ("store", .ref k.st), ("max_bits", .int 4096), ("occurs", .bool true), ("max_heap", .int 2000), ("code", .ref cd), ("symbols", .ref sy)])) := fun b ob e n => AH.other (fun z => n (by simp [z])) (OO9 b ob e n)
  generalize (G9.set p (.inst 597 d [("guard", .ref 201), ("s", .int 0), ("mode", .str "read"), ("b0", .int (-1)), ("b", .int (-1)), ("e", .int (-1)), ("cp", .int 0), ("p", .int 0), ("x", .ref a2), ("store", .ref k.st), ("max_bits", .int 4096), ("occurs", .bool true), ("max_heap", .int 2000), ("code", .ref cd), ("symbols", .ref sy)])) = G10 at P10 OO10 ⊢
  repeat isplit
  refine ⟨fun a11 ha11 => ?_, by simp⟩
  have qa11 : a11 ≠ p := fun z => by first | exact clash ha11 P10 z | exact clash P10 ha11 z.symm
  repeat isplit
  refine (mk4_5 p 597 d [("guard", .ref 201), ("s", .int 0), ("mode", .str "read"), ("b0", .int (-1)), ("b", .int (-1)), ("e", .int (-1)), ("cp", .int 0), ("p", .int 0), ("x", .ref a2), ("store", .ref k.st), ("max_bits", .int 4096), ("occurs", .bool true), ("max_heap", .int 2000), ("code", .ref cd), ("symbols", .ref sy)] rfl (AH.other (Ne.symm qa11) P10) (mk_set (by kernel_rfl) (by kernel_rfl) (by kernel_rfl) (by kernel_rfl)) (by simp) ?_)
  have P11 : ((G10.set a11 (.list [])).set p (.inst 597 d [("roots", .ref a11), ("guard", .ref 201), ("s", .int 0), ("mode", .str "read"), ("b0", .int (-1)), ("b", .int (-1)), ("e", .int (-1)), ("cp", .int 0), ("p", .int 0), ("x", .ref a2), ("store", .ref k.st), ("max_bits", .int 4096), ("occurs", .bool true), ("max_heap", .int 2000), ("code", .ref cd), ("symbols", .ref sy)])) p = some (.inst 597 d [("roots", .ref a11), ("guard", .ref 201), ("s", .int 0), ("mode", .str "read"), ("b0", .int (-1)), ("b", .int (-1)), ("e", .int (-1)), ("cp", .int 0), ("p", .int 0), ("x", .ref a2), ("store", .ref k.st), ("max_bits", .int 4096), ("occurs", .bool true), ("max_heap", .int 2000), ("code", .ref cd), ("symbols", .ref sy)]) := AH.set_self ..
  have OO11 : Off [p] G0 ((G10.set a11 (.list [])).set p (.inst 597 d [("roots", .ref a11), ("guard", .ref 201), ("s", .int 0), ("mode", .str "read"), ("b0", .int (-1)), ("b", .int (-1)), ("e", .int (-1)), ("cp", .int 0), ("p", .int 0), ("x", .ref a2), ("store", .ref k.st), ("max_bits", .int 4096), ("occurs", .bool true), ("max_heap", .int 2000), ("code", .ref cd), ("symbols", .ref sy)])) := fun b ob e n => AH.other (fun z => n (by simp [z])) (AH.other (fun z => by rw [z] at e; have e2 := OO10 _ _ e (by simpa using qa11); rw [ha11] at e2; cases e2) (OO10 b ob e n))
  generalize ((G10.set a11 (.list [])).set p (.inst 597 d [("roots", .ref a11), ("guard", .ref 201), ("s", .int 0), ("mode", .str "read"), ("b0", .int (-1)), ("b", .int (-1)), ("e", .int (-1)), ("cp", .int 0), ("p", .int 0), ("x", .ref a2), ("store", .ref k.st), ("max_bits", .int 4096), ("occurs", .bool true), ("max_heap", .int 2000), ("code", .ref cd), ("symbols", .ref sy)])) = G11 at P11 OO11 ⊢
  repeat isplit
  refine Ev.dict (.dictI []) (dictI_new _) fun a12 ha12 => ?_
  have qa12 : a12 ≠ p := fun z => by first | exact clash ha12 P11 z | exact clash P11 ha12 z.symm
  repeat isplit
  refine (mk4_5 p 597 d [("roots", .ref a11), ("guard", .ref 201), ("s", .int 0), ("mode", .str "read"), ("b0", .int (-1)), ("b", .int (-1)), ("e", .int (-1)), ("cp", .int 0), ("p", .int 0), ("x", .ref a2), ("store", .ref k.st), ("max_bits", .int 4096), ("occurs", .bool true), ("max_heap", .int 2000), ("code", .ref cd), ("symbols", .ref sy)] rfl (AH.other (Ne.symm qa12) P11) (mk_set (by kernel_rfl) (by kernel_rfl) (by kernel_rfl) (by kernel_rfl)) (by simp) ?_)
  have P12 : ((G11.set a12 (.dictI [])).set p (.inst 597 d [("bags", .ref a12), ("roots", .ref a11), ("guard", .ref 201), ("s", .int 0), ("mode", .str "read"), ("b0", .int (-1)), ("b", .int (-1)), ("e", .int (-1)), ("cp", .int 0), ("p", .int 0), ("x", .ref a2), ("store", .ref k.st), ("max_bits", .int 4096), ("occurs", .bool true), ("max_heap", .int 2000), ("code", .ref cd), ("symbols", .ref sy)])) p = some (.inst 597 d [("bags", .ref a12), ("roots", .ref a11), ("guard", .ref 201), ("s", .int 0), ("mode", .str "read"), ("b0", .int (-1)), ("b", .int (-1)), ("e", .int (-1)), ("cp", .int 0), ("p", .int 0), ("x", .ref a2), ("store", .ref k.st), ("max_bits", .int 4096), ("occurs", .bool true), ("max_heap", .int 2000), ("code", .ref cd), ("symbols", .ref sy)]) := AH.set_self ..
  have OO12 : Off [p] G0 ((G11.set a12 (.dictI [])).set p (.inst 597 d [("bags", .ref a12), ("roots", .ref a11), ("guard", .ref 201), ("s", .int 0), ("mode", .str "read"), ("b0", .int (-1)), ("b", .int (-1)), ("e", .int (-1)), ("cp", .int 0), ("p", .int 0), ("x", .ref a2), ("store", .ref k.st), ("max_bits", .int 4096), ("occurs", .bool true), ("max_heap", .int 2000), ("code", .ref cd), ("symbols", .ref sy)])) := fun b ob e n => AH.other (fun z => n (by simp [z])) (AH.other (fun z => by rw [z] at e; have e2 := OO11 _ _ e (by simpa using qa12); rw [ha12] at e2; cases e2) (OO11 b ob e n))
  generalize ((G11.set a12 (.dictI [])).set p (.inst 597 d [("bags", .ref a12), ("roots", .ref a11), ("guard", .ref 201), ("s", .int 0), ("mode", .str "read"), ("b0", .int (-1)), ("b", .int (-1)), ("e", .int (-1)), ("cp", .int 0), ("p", .int 0), ("x", .ref a2), ("store", .ref k.st), ("max_bits", .int 4096), ("occurs", .bool true), ("max_heap", .int 2000), ("code", .ref cd), ("symbols", .ref sy)])) = G12 at P12 OO12 ⊢
  repeat isplit
  refine (mk4_5 p 597 d [("bags", .ref a12), ("roots", .ref a11), ("guard", .ref 201), ("s", .int 0), ("mode", .str "read"), ("b0", .int (-1)), ("b", .int (-1)), ("e", .int (-1)), ("cp", .int 0), ("p", .int 0), ("x", .ref a2), ("store", .ref k.st), ("max_bits", .int 4096), ("occurs", .bool true), ("max_heap", .int 2000), ("code", .ref cd), ("symbols", .ref sy)] rfl P12 (mk_set (by kernel_rfl) (by kernel_rfl) (by kernel_rfl) (by kernel_rfl)) (by simp) ?_)
  have P13 : (G12.set p (.inst 597 d [("collect_wanted", .bool false), ("bags", .ref a12), ("roots", .ref a11), ("guard", .ref 201), ("s", .int 0), ("mode", .str "read"), ("b0", .int (-1)), ("b", .int (-1)), ("e", .int (-1)), ("cp", .int 0), ("p", .int 0), ("x", .ref a2), ("store", .ref k.st), ("max_bits", .int 4096), ("occurs", .bool true), ("max_heap", .int 2000), ("code", .ref cd), ("symbols", .ref sy)])) p = some (.inst 597 d [("collect_wanted", .bool false), ("bags", .ref a12), ("roots", .ref a11), ("guard", .ref 201), ("s", .int 0), ("mode", .str "read"), ("b0", .int (-1)), ("b", .int (-1)), ("e", .int (-1)), ("cp", .int 0), ("p", .int 0), ("x", .ref a2), ("store", .ref k.st), ("max_bits", .int 4096), ("occurs", .bool true), ("max_heap", .int 2000), ("code", .ref cd), ("symbols", .ref sy)]) := AH.set_self ..
  have OO13 : Off [p] G0 (G12.set p (.inst 597 d [("collect_wanted", .bool false), ("bags", .ref a12), ("roots", .ref a11), ("guard", .ref 201), ("s", .int 0), ("mode", .str "read"), ("b0", .int (-1)), ("b", .int (-1)), ("e", .int (-1)), ("cp", .int 0), ("p", .int 0), ("x", .ref a2), ("store", .ref k.st), ("max_bits", .int 4096), ("occurs", .bool true), ("max_heap", .int 2000), ("code", .ref cd), ("symbols", .ref sy)])) := fun b ob e n => AH.other (fun z => n (by simp [z])) (OO12 b ob e n)
  generalize (G12.set p (.inst 597 d [("collect_wanted", .bool false), ("bags", .ref a12), ("roots", .ref a11), ("guard", .ref 201), ("s", .int 0), ("mode", .str "read"), ("b0", .int (-1)), ("b", .int (-1)), ("e", .int (-1)), ("cp", .int 0), ("p", .int 0), ("x", .ref a2), ("store", .ref k.st), ("max_bits", .int 4096), ("occurs", .bool true), ("max_heap", .int 2000), ("code", .ref cd), ("symbols", .ref sy)])) = G13 at P13 OO13 ⊢
  repeat isplit
  refine q k _ G13 (S0.off OO13 fun a ha z => ?_) none0 (fun b ob e n => OO13 b ob (O0 b ob e (by simp)) n) P13 rfl rfl rfl rfl
  rw [List.mem_singleton] at z
  have := none0 a ha
  rw [z, i1] at this; cases this
theorem Areas_ok {w : World} {b : BkA} {H : AH} {ts : List Str} {fn : List (List Int)} {cd : Addr} (B : Bk b H ts fn) {Q : V → AH → Prop} (q : ∀ (k : StA) (ar ad : Addr) fs G, Wd ⟨b, k, ar, ad, fs⟩ G ts fn [] → WOk ⟨b, k, ar, ad, fs⟩ → (∀ a ∈ k.all, H a = none) → H ar = none → H ad = none → Off [] H G → Q (.ref ar) G) : Fn 7 w (.ref 597) [.ref b.sy, .ref cd, .int 2000, .bool true] H Q := by
  refine Fn.make (fI := 454) ⟨by kernel_rfl, by kernel_rfl, by kernel_rfl⟩ fun p d hp hd hpd => ?_
  refine Fn.mkN (ds := [("self", .ref p), ("symbols", .ref b.sy), ("code", .ref cd), ("max_heap", .int 2000), ("occurs", .bool true), ("max_bits", .int 4096)]) ["self", "symbols", "code", "max_heap", "occurs", "max_bits"] ok454 (fun s vs X r => ?_) rfl (by decide +kernel) (by decide +kernel) (by decide +kernel) ?_
  · apply r.of5; intro v1 v2 v3 v4 v5 a b e f g
    exact (mk1_2 [("self", v1), ("symbols", v2), ("code", v3), ("max_heap", v4), ("occurs", v5), ("max_bits", .int 4096 821)] (BindsTo.of_defaults (items := #[.int 100000 820, .bool true, .int 4096 821]) (n := 0) rfl (X 447 (tupO [.int 100000 820, .bool true, .int 4096 821] 0) (by kernel_rfl)) rfl rfl (by kernel_rfl))  ⟨rfl, .cons a (.cons b (.cons e (.cons f (.cons g (.cons (.int ..) .nil)))))⟩)
  intro c hw hc hs hcl
  conv =>
    arg 3
    whnf
  conv at hs =>
    rhs
    whnf
  subst hw
  have P0 : ((H.set d (.aux p)).set p (.inst 597 d [])) p = some (.inst 597 d []) := AH.set_self ..
  have D0 : ((H.set d (.aux p)).set p (.inst 597 d [])) d = some (.aux p) := AH.other (Ne.symm hpd) (AH.set_self ..)
  have O0 : Off [] H ((H.set d (.aux p)).set p (.inst 597 d [])) := fun b ob e _ => AH.other (fun z => by first | exact clash e hp z | exact clash hp e z.symm) (AH.other (fun z => by first | exact clash e hd z | exact clash hd e z.symm) e)
  have none0 : ∀ {b : Addr}, ((H.set d (.aux p)).set p (.inst 597 d [])) b = none → H b = none := fun e => AH.set_none _ (AH.set_none _ e)
  generalize (H.set d (.aux p)).set p (.inst 597 d []) = G0 at P0 D0 O0 none0 ⊢
  have OO0 : Off [p] G0 G0 := fun b ob e _ => e
  repeat isplit
  refine (mk4_5 p 597 d [] rfl P0 (mk_set (by kernel_rfl) (by kernel_rfl) (by kernel_rfl) (by kernel_rfl)) (by simp) ?_)
  have P1 : (G0.set p (.inst 597 d [("symbols", .ref b.sy)])) p = some (.inst 597 d [("symbols", .ref b.sy)]) := AH.set_self ..
  have OO1 : Off [p] G0 (G0.set p (.inst 597 d [("symbols", .ref b.sy)])) := fun b ob e n => AH.other (fun z => n (by simp [z])) (OO0 b ob e n)
  generalize (G0.set p (.inst 597 d [("symbols", .ref b.sy)])) = G1 at P1 OO1 ⊢
  repeat isplit
  refine (mk4_5 p 597 d [("symbols", .ref b.sy)] rfl P1 (mk_set (by kernel_rfl) (by kernel_rfl) (by kernel_rfl) (by kernel_rfl)) (by simp) ?_)
  have P2 : (G1.set p (.inst 597 d [("code", .ref cd), ("symbols", .ref b.sy)])) p = some (.inst 597 d [("code", .ref cd), ("symbols", .ref b.sy)]) := AH.set_self ..
  have OO2 : Off [p] G0 (G1.set p (.inst 597 d [("code", .ref cd), ("symbols", .ref b.sy)])) := fun b ob e n => AH.other (fun z => n (by simp [z])) (OO1 b ob e n)
  generalize (G1.set p (.inst 597 d [("code", .ref cd), ("symbols", .ref b.sy)])) = G2 at P2 OO2 ⊢
  repeat isplit
  refine (mk4_5 p 597 d [("code", .ref cd), ("symbols", .ref b.sy)] rfl P2 (mk_set (by kernel_rfl) (by kernel_rfl) (by kernel_rfl) (by kernel_rfl)) (by simp) ?_)
  have P3 : (G2.set p (.inst 597 d [("max_heap", .int 2000), ("code", .ref cd), ("symbols", .ref b.sy)])) p = some (.inst 597 d [("max_heap", .int 2000), ("code", .ref cd), ("symbols", .ref b.sy)]) := AH.set_self ..
  have OO3 : Off [p] G0 (G2.set p (.inst 597 d [("max_heap", .int 2000), ("code", .ref cd), ("symbols", .ref b.sy)])) := fun b ob e n => AH.other (fun z => n (by simp [z])) (OO2 b ob e n)
  generalize (G2.set p (.inst 597 d [("max_heap", .int 2000), ("code", .ref cd), ("symbols", .ref b.sy)])) = G3 at P3 OO3 ⊢
  repeat isplit
  refine (mk4_5 p 597 d [("max_heap", .int 2000), ("code", .ref cd), ("symbols", .ref b.sy)] rfl P3 (mk_set (by kernel_rfl) (by kernel_rfl) (by kernel_rfl) (by kernel_rfl)) (by simp) ?_)
  have P4 : (G3.set p (.inst 597 d [("occurs", .bool true), ("max_heap", .int 2000), ("code", .ref cd), ("symbols", .ref b.sy)])) p = some (.inst 597 d [("occurs", .bool true), ("max_heap", .int 2000), ("code", .ref cd), ("symbols", .ref b.sy)]) := AH.set_self ..
  have OO4 : Off [p] G0 (G3.set p (.inst 597 d [("occurs", .bool true), ("max_heap", .int 2000), ("code", .ref cd), ("symbols", .ref b.sy)])) := fun b ob e n => AH.other (fun z => n (by simp [z])) (OO3 b ob e n)
  generalize (G3.set p (.inst 597 d [("occurs", .bool true), ("max_heap", .int 2000), ("code", .ref cd), ("symbols", .ref b.sy)])) = G4 at P4 OO4 ⊢
  repeat isplit
  refine (mk4_5 p 597 d [("occurs", .bool true), ("max_heap", .int 2000), ("code", .ref cd), ("symbols", .ref b.sy)] rfl P4 (mk_set (by kernel_rfl) (by kernel_rfl) (by kernel_rfl) (by kernel_rfl)) (by simp) ?_)
  have P5 : (G4.set p (.inst 597 d [("max_bits", .int 4096), ("occurs", .bool true), ("max_heap", .int 2000), ("code", .ref cd), ("symbols", .ref b.sy)])) p = some (.inst 597 d [("max_bits", .int 4096), ("occurs", .bool true), ("max_heap", .int 2000), ("code", .ref cd), ("symbols", .ref b.sy)]) := AH.set_self ..
  have OO5 : Off [p] G0 (G4.set p (.inst 597 d [("max_bits", .int 4096), ("occurs", .bool true), ("max_heap", .int 2000), ("code", .ref cd), ("symbols", .ref b.sy)])) := fun b ob e n => AH.other (fun z => n (by simp [z])) (OO4 b ob e n)
  generalize (G4.set p (.inst 597 d [("max_bits", .int 4096), ("occurs", .bool true), ("max_heap", .int 2000), ("code", .ref cd), ("symbols", .ref b.sy)])) = G5 at P5 OO5 ⊢
  repeat isplit
  refine Ev.im0 ?_
  isplit
  refine (mk5_5 _ _ _ _ 461 rfl P5 (mk_meth (by kernel_rfl) (by kernel_rfl) (by kernel_rfl) (by kernel_rfl) (by kernel_rfl)) (by rfl) ?_)
  have D5 : G5 d = some (.aux p) := OO5 _ _ D0 (by simpa using Ne.symm hpd)
  refine (reset_ok P5 D5 hpd fun k fs G S kn OG PG l1 l2 l3 l4 => ?_).at hc
  refine ⟨nofun, nofun, ?_⟩
  repeat isplit
  have OH : Off [] H G := fun b ob e n => by
    have hb : b ∉ [p] := fun z => by rw [List.mem_singleton] at z; rw [z, hp] at e; cases e
    exact OG b ob (OO5 b ob (O0 b ob e (by simp)) hb) hb
  have kH : ∀ a ∈ k.all, H a = none := fun a ha => by
    cases e : H a with
    | none => rfl
    | some o => 
      have e2 := kn a ha
      by_cases hb : a ∈ [p]
      · rw [List.mem_singleton] at hb; rw [hb, P5] at e2; cases e2
      · rw [OO5 a o (O0 a o e (by simp)) hb] at e2; cases e2
  have B' : Bk b G ts fn := ⟨OH _ _ B.inst (by simp), OH _ _ B.d (by simp), OH _ _ B.t (by simp), OH _ _ B.n (by simp), OH _ _ B.f (by simp), OH _ _ B.g (by simp), B.tf⟩
  have hk : H k.hp = none := kH _ (by simp [StA.all])
  have DG : G d = some (.aux p) := OG _ _ D5 (by simpa using Ne.symm hpd)
  exact ⟨rfl, q k p d fs G ⟨B', S, PG, DG, (fun z => by rw [show k.hp = b.t from z, B.t] at hk; cases hk), (fun z => by rw [show k.hp = b.f from z, B.f] at hk; cases hk)⟩ ⟨l1, l2, l3, l4⟩ kH hp hd OH⟩
noncomputable def O.calm : O → Bool
  | .exc .. => false
  | .tb _ => false
  | _ => true
noncomputable def ExtC (H H' : AH) : Prop := ∀ b o, H b = some o → o.calm = true → H' b = some o
theorem ExtC.refl (H : AH) : ExtC H H := fun _ _ e _ => e
theorem ExtC.trans {H H' H'' : AH} (x : ExtC H H') (y : ExtC H' H'') : ExtC H H'' := fun b o e q => y b o (x b o e q) q
theorem ExtC.new {H : AH} {a : Addr} {o : O} (h : H a = none) : ExtC H (H.set a o) := fun b ob e _ => AH.other (by rintro rfl; rw [h] at e; cases e) e
theorem ExtC.upd {H : AH} {a : Addr} {o o' : O} (h : H a = some o) (hc : o.calm = false) : ExtC H (H.set a o') := fun b ob e q => AH.other (by rintro rfl; rw [h] at e; cases e; rw [hc] at q; cases q) e

section
variable {c : Cx} {H : AH} {s : Shared}
theorem RelH.slots (R : RelH c H s) {h' : Heap} (hs : Heap.SlotsOnly (c.Fs.filterMap (·.frame)) s.heap h') : RelH c H { s with heap := h' } ∧ Moves H s.heap h' := by
  have off : ∀ a o, H a = some o → h'.get? a = s.heap.get? a := fun a o e => hs.2.1 a fun q => by rw [R.offF a q] at e; cases e
  have m : Moves H s.heap h' := fun b o e n => by
    by_cases q : b ∈ c.Fs.filterMap (·.frame)
    · refine el3_2 (R.dfr b q) fun o' es k e' hd => ?_
      rw [e] at e'; cases e'
      refine el1_1 (hs.2.2 b o e) fun sl h1 => ?_
      exact (mk1_2 _ h1  ⟨⟨rfl, rfl, rfl⟩, .inl ⟨es, k, hd⟩⟩)
    · exact (mk1_2 o ((hs.2.1 b q).trans e) (.refl _))
  have T := R.tups m
  refine ⟨R.next (tk := s.toks) m (.refl ..) (fun b o e => (hs.2.1 b fun q => by rw [(R.frames.mem q).1] at e; cases e).trans (R.base b o e)) (fun a o e => ?_) R.offB, m⟩
  have r := R.objs a o e
  exact r.mono (off a o e) T fun d q => ⟨off d _ (r.dct q).2, rfl⟩
theorem RelH.updE (R : RelH c H s) {h' : Heap} {a : Addr} {o o' : O} (ha : H a = some o) (hp : ∀ b, o ≠ .aux b) (hs : Heap.SameBut a s.heap h')
    (ho : ∀ T : Tups s.heap h', OR c.w h' (H.set a o') a o') : RelH c (H.set a o') { s with heap := h' } ∧ Moves H s.heap h' ∧ Grow H (H.set a o') s.heap := by
  have m : Moves H s.heap h' := fun b ob e n => (mk1_2 ob ((hs.2 b (by rintro rfl; rw [ha] at n; cases n)).trans e) (.refl _))
  have g : Grow H (H.set a o') s.heap := ⟨fun b ob e n => by
    rw [AH.set_other H o' (by rintro rfl; rw [ha] at n; cases n)]; exact n, fun b ob e => by
    by_cases q : b = a
    · subst q; exact ⟨o', AH.set_self ..⟩
    · exact ⟨ob, by rw [AH.set_other H o' q]; exact e⟩⟩
  have T := R.tups m
  refine ⟨R.next (tk := s.toks) m g (fun b ob e => (hs.2 b (by rintro rfl; have := R.offB b o ha; rw [this] at e; cases e)).trans (R.base b ob e)) (fun b ob e => ?_) (fun b ob e => ?_), m, g⟩
  · by_cases q : b = a
    · subst q; rw [AH.set_self] at e; cases e; exact ho T
    · rw [AH.set_other H o' q] at e
      have r := R.objs b ob e
      refine r.mono (hs.2 b q) T fun d q' => ?_
      refine el0_2 (r.dct q') fun _ e6 => ?_
      have hda : d ≠ a := by rintro rfl; rw [ha] at e6; cases e6; exact hp _ rfl
      exact ⟨hs.2 d hda, AH.set_other H o' hda⟩
  · by_cases q : b = a
    · subst q; exact R.offB b o ha
    · rw [AH.set_other H o' q] at e; exact R.offB b ob e
theorem RelH.none_of_new (R : RelH c H s) {a : Addr} (hn : s.heap.get? a = none) : H a = none := by
  cases q : H a with
  | none => rfl
  | some o => refine el1_2 ((R.objs a o q).there) fun ob e _ => ?_; rw [hn] at e; cases e
theorem RelH.noDct (R : RelH c H s) {a : Addr} (hn : s.heap.get? a = none) : ∀ a' o', H a' = some o' → o'.dct ≠ some a := fun a' o' e q => by
  refine el0_2 ((R.objs a' _ e).dct q) fun z1 _ => ?_; refine el2_1 z1 fun _ _ e5 => ?_
  rw [hn] at e5; cases e5

theorem dict_mapFields (f : Array Value → Array Value) (o : Obj) : (o.mapFields f).dict = o.dict := by
  unfold Obj.mapFields
  split <;> rfl
structure Flew (c : Cx) (H : AH) (s : Shared) (H' : AH) (s' : Shared) : Prop where
  rel : RelH c H' s'
  mv : Moves H s.heap s'.heap
  gr : Grow H H' s.heap
  ext : ExtC H H'
theorem Flew.trans {H₁ H₂ : AH} {s₁ s₂ : Shared} (x : Flew c H s H₁ s₁) (y : Flew c H₁ s₁ H₂ s₂) : Flew c H s H₂ s₂ := ⟨y.rel, x.mv.trans x.gr y.mv, x.gr.trans x.mv y.gr, x.ext.trans y.ext⟩
variable {A : Around} {E : ER} {outer : List Env} {L a C : Addr} {d : Option Addr} {fs : List (Str × V)} {tb : Option Addr}
theorem entryE {head : Value} {hadNext : Bool} (hfr : A.frames = some c.Fs) (hFs : c.Fs = c.env :: outer) (hf : c.env.frame = some L) (R : RelH c H s) (ha : H a = some (.exc C d fs tb)) {Q : Unit → Shared → Prop}
    (q : ∀ T H' s', H' T = some (.tb (rawInt L)) → H' a = some (.exc C d fs (some T)) → Flew c H s H' s' → Q () s') :
    wpAny (M c.w) A (do let b ← frameOf c.env; let pl ← entryPlaceOf L hadNext; let t ← EntryCells.newEntry head b .none (rawInt L) .none pl; setField (.ref a) 1 t) Q E s := by
  refine wpAny_bind (wpAny_frameOf_fun (base := c.B) (hfr.trans (congrArg some hFs)) (hFs ▸ R.frames) hf fun h₁ hs₁ => ?_)
  obtain ⟨R1, m1⟩ := R.slots (by rw [hFs]; exact hs₁)
  refine wpAny_bind (wpAny_entryPlaceOf fun pl hpl => ?_)
  unfold EntryCells.newEntry newFields
  refine wpAny_bind (wpAny_newObj_type ?_ (hpl.sizeOk5 _ _ _ _ _))
  generalize hTo : ({ cls := .type "traceback", dict := none, data := .fields ([head, .ref L, .none, rawInt L, .none] ++ (if pl.isEmpty then List.replicate 6 Value.none else pl)).toArray } : Obj) = To
  have hTd : To.data = .fields ([head, .ref L, .none, rawInt L, .none] ++ (if pl.isEmpty then List.replicate 6 Value.none else pl)).toArray := by rw [← hTo]
  have hTc : To.cls = .type "traceback" := by rw [← hTo]
  have hTf : To.isFreed = false := Obj.isFreed_of_fields hTd
  have k2 : ∀ b o, h₁.get? b = some o → (h₁.push To).get? b = some o := fun b o e => Heap.get?_push_of_some _ e
  have hn := size_none h₁
  have hT3 : (([head, .ref L, .none, rawInt L, .none] ++ (if pl.isEmpty then List.replicate 6 Value.none else pl)).toArray)[3]? = some (rawInt L) := by
    first | (simp; done) | (rcases hpl with rfl | ⟨_, _, _, _, _, _, _, rfl⟩ <;> simp)
  refine el0_3 (R1.new (tk := s.toks) (o := .tb (rawInt L)) k2 hn ⟨To, _, Heap.get?_push_size _ hTf, hTc, hTd, hT3⟩ (R1.noDct hn)) fun R2 m2 g2 => ?_
  have hTa : h₁.objs.size ≠ a := by rintro e; have := R1.none_of_new hn; rw [e, ha] at this; cases this
  have hHT := R1.none_of_new hn
  generalize h₁.objs.size = T at *
  have ha2 : (H.set T (.tb (rawInt L))) a = some (.exc C d fs tb) := AH.other (Ne.symm hTa) ha
  refine el0_2 (R2.objs a _ ha2) fun z2 kd => ?_; refine el2_5 z2 fun oe vs he hcls hdict hd h1 => ?_
  have hsz : 1 < vs.size := (Array.getElem?_eq_some_iff.mp h1).1
  have hd3 := Obj.data_mapFields hd (·.setIfInBounds 1 (Value.ref T))
  have he3 := Heap.get?_update_self (Obj.mapFields (·.setIfInBounds 1 (Value.ref T))) he (Obj.isFreed_of_fields hd3)
  refine wpAny_setField he hd hsz ?_
  have sb : Heap.SameBut a (h₁.push To) ((h₁.push To).update a (Obj.mapFields (·.setIfInBounds 1 (Value.ref T)))) := Heap.SameBut.update ..
  obtain ⟨R3, m3, g3⟩ := R2.updE (o' := .exc C d fs (some T)) ha2 nofun sb fun TT => by
    refine ⟨⟨_, _, he3, (Obj.cls_mapFields _ _).trans hcls, (dict_mapFields _ _).trans hdict, hd3, by simp [hsz]⟩, fun d' q => ?_⟩
    refine el0_2 (kd d' q) fun x1 z3 => ?_; refine el2_2 z3 fun es n x2 z4 => ?_; obtain ⟨x3, x4, x5⟩ := z4
    have hda : d' ≠ a := by rintro rfl; rw [ha2] at x1; cases x1
    exact (mk0_2 ((AH.set_other _ _ hda).trans x1)  (mk2_2 es n ((sb.2 d' hda).trans x2)  ⟨fun x y z => by refine el1_2 (x3 x y z) fun v p q => ?_; exact (mk1_2 v p (q.mono TT)), x4, x5⟩))
  have F1 : Flew c H s H { s with heap := h₁ } := ⟨R1, m1, .refl _ _, .refl _⟩
  have F2 : Flew c H { s with heap := h₁ } _ { s with heap := h₁.push To } := ⟨R2, m2, g2, .new hHT⟩
  have F3 : Flew c _ { s with heap := h₁.push To } _ { s with heap := (h₁.push To).update a (Obj.mapFields (·.setIfInBounds 1 (Value.ref T))) } := ⟨R3, m3, g3, .upd ha2 rfl⟩
  exact q T _ _ (AH.other hTa (AH.set_self ..)) (AH.set_self ..) ((F1.trans F2).trans F3)
theorem noteE (hfr : A.frames = some c.Fs) (hFs : c.Fs = c.env :: outer) (hf : c.env.frame = some L) (R : RelH c H s) (ha : H a = some (.exc C d fs tb)) (ht : ∀ T, tb = some T → H T = some (.tb .none)) {Q : Unit → Shared → Prop}
    (q : ∀ T H' s', H' T = some (.tb (rawInt L)) → H' a = some (.exc C d fs (some T)) → Flew c H s H' s' → Q () s') : wpAny (M c.w) A (noteFrame (.ref a) c.env) Q E s := by
  refine el0_2 (R.objs a _ ha) fun z5 kd => ?_; refine el2_5 z5 fun oe vs he hcls hdict hd h1 => ?_
  unfold noteFrame
  simp only [hf]
  cases tb with
  | none =>
    refine wpAny_bind (wpAny_field he hd (x := Value.none) h1 ?_)
    rw [if_neg (by decide)]
    exact entryE hfr hFs hf R ha q
  | some T₀ =>
    refine el2_4 (R.objs T₀ _ (ht T₀ rfl)) fun oT ts hT hTc hdT h3 => ?_
    refine wpAny_bind (wpAny_field he hd (x := Value.ref T₀) h1 ?_)
    rw [if_pos (show (Value.ref T₀ != Value.none) = true from by simp)]
    refine wpAny_bind (wpAny_field hT hdT h3 ?_)
    rw [if_neg (show ¬ ((Value.none == rawInt L) = true) from by simp [rawInt])]
    have hsz : 3 < ts.size := (Array.getElem?_eq_some_iff.mp h3).1
    refine wpAny_bind (wpAny_setField hT hdT hsz ?_)
    have hd3 := Obj.data_mapFields hdT (·.setIfInBounds 3 Value.none)
    obtain ⟨R1, m1, g1⟩ := R.updE (o' := .tb .none) (ht T₀ rfl) nofun (Heap.SameBut.update ..) fun _ => (mk2_4 _ _ (Heap.get?_update_self (Obj.mapFields (·.setIfInBounds 3 Value.none)) hT (Obj.isFreed_of_fields hd3)) ((Obj.cls_mapFields _ _).trans hTc) hd3 (by simp [hsz]))
    have hTa : a ≠ T₀ := by rintro rfl; have := ht _ rfl; rw [ha] at this; cases this
    refine entryE hfr hFs hf R1 (AH.other hTa ha) fun T H' s' x1 x2 F => q T H' s' x1 x2 (Flew.trans ⟨R1, m1, g1, .upd (ht T₀ rfl) rfl⟩ F)
theorem landE {T : Addr} {fl : Value} (R : RelH c H s) (ha : H a = some (.exc C d fs (some T))) (hT : H T = some (.tb fl)) {Q : Unit → Shared → Prop}
    (q : ∀ H' s', H' T = some (.tb .none) → H' a = some (.exc C d fs (some T)) → Flew c H s H' s' → Q () s') : wpAny (M c.w) A (setFlight (.ref a) none) Q E s := by
  refine el0_2 (R.objs a _ ha) fun z6 kd => ?_; refine el2_5 z6 fun oe vs he hcls hdict hd h1 => ?_
  refine el2_4 (R.objs T _ hT) fun oT ts hT' hTc hdT h3 => ?_
  have hsz : 3 < ts.size := (Array.getElem?_eq_some_iff.mp h3).1
  unfold setFlight
  refine wpAny_bind (wpAny_field he hd (x := Value.ref T) h1 ?_)
  rw [if_pos (show (Value.ref T != Value.none) = true from by simp)]
  refine wpAny_setField hT' hdT hsz ?_
  have hd3 := Obj.data_mapFields hdT (·.setIfInBounds 3 ((none : Option Addr).elim Value.none fun f => rawInt f))
  obtain ⟨R1, m1, g1⟩ := R.updE (o' := .tb .none) hT nofun (Heap.SameBut.update ..) fun _ => (mk2_4 _ _ (Heap.get?_update_self (Obj.mapFields (·.setIfInBounds 3 ((none : Option Addr).elim Value.none fun f => rawInt f))) hT' (Obj.isFreed_of_fields hd3)) ((Obj.cls_mapFields _ _).trans hTc) hd3 (by simp [hsz]))
  have hTa : a ≠ T := by rintro rfl; rw [ha] at hT; cases hT
  exact q _ _ (AH.set_self ..) (AH.other hTa ha) ⟨R1, m1, g1, .upd hT rfl⟩
theorem leaveE (hfr : A.frames = some c.Fs) (hFs : c.Fs = c.env :: outer) (hf : c.env.frame = some L) (R : RelH c H s) (ha : H a = some (.exc C d fs tb)) (ht : ∀ T, tb = some T → H T = some (.tb .none)) {Q : Unit → Shared → Prop}
    (q : ∀ T H' s', H' T = some (.tb .none) → H' a = some (.exc C d fs (some T)) → Flew c H s H' s' → Q () s') : wpAny (M c.w) A (leaving c.env (.ref a)) Q E s := by
  unfold leaving
  refine wpAny_bind (noteE hfr hFs hf R ha ht fun T H₁ s₁ x1 x2 F => ?_)
  exact landE F.rel x2 x1 fun H₂ s₂ y1 y2 G => q T H₂ s₂ y1 y2 (F.trans G)
end
section
open Builtin Builtin.ObjectAttr
theorem isExc_in {K : Frag} {h : Heap} {w : World} {C : Addr} (X : K.In h) {a : Addr} {ox : Obj} {od : Option Obj} (I : InstAt h a ox C od) (hs : subIn K (.ref C) (.type "BaseException") = some true) : Looks (M w) h (isInstance (.ref a) (.type "BaseException")) true :=
  I.type.andThen (looks_subIn X hs)

theorem getExc {w : World} {A : Around} {E : ER} {s : Shared} {K : Frag} {x C : Addr} {ox : Obj} {od : Option Obj} {name : Str} {expr : Bool} {v : Value} {Q : Value → Shared → Prop} (X : K.In s.heap) (I : InstAt s.heap x ox C od)
    (hga : findIn K (.ref C) "__getattribute__" = some (some (.builtin "BaseException.__getattribute__"))) (hgt : findIn K (.ref C) "__getattr__" = some none) (hb : subIn K (.ref C) (.type "BaseException") = some true)
    (hf : findObj K C od name = some (.value v)) (hh : handedIn v = true) (h : Q v { s with toks := s.toks + 1 }) : wpAny (M w) A (getAttr (.ref x) name expr) Q E s := by
  obtain ⟨hp, g, d, t, os⟩ := s
  have L0 := I.type (M := M w)
  have L1 := looks_findIn (M := M w) X hga
  have L2 := looks_findIn (M := M w) X hgt
  have L3 := looks_find (M := M w) X I hf
  have hx0 : (expr && onTheHeap (Value.builtin "BaseException.__getattribute__")) = false := by cases expr <;> rfl
  have hx2 : (Value.builtin "BaseException.__getattribute__" == Value.builtin "object.__getattribute__") = false := by decide +kernel
  have hx1 : (onTheHeap (Value.ref C) && Value.builtin "BaseException.__getattribute__" == Value.builtin "object.__getattribute__") = false := by rw [hx2]; rfl
  have f3 := PySem.F.attr_Exception.ga.bind (.ref x)
  have hk : builtinKind "BaseException.__getattribute__" = some .slot := by decide +kernel
  have hsplit : splitId "BaseException.__getattribute__" = some ("BaseException", "__getattribute__") := by decide +kernel
  unfold getAttr getAttrBy
  refine wpAny_bind (wpAny_mkText (wpAny_holding (wpAny_bind (L0.at (wpAny_bind (L1.at ?_))))))
  generalize hgg : Value.builtin "BaseException.__getattribute__" = ga at *
  dsimp only
  rw [hx1, if_neg Bool.false_ne_true]
  unfold getAttrByItsOwn
  refine wpAny_bind ?_
  unfold hookBefore
  rw [if_pos (by rfl)]
  refine L2.at ?_
  refine wpAny_bind (wpAny_attempt (wpAny_holding ?_))
  unfold callGetattribute
  rw [hx0, if_neg Bool.false_ne_true]
  unfold boundAndCalled
  subst hgg
  rw [f3]
  refine wpAny_bind (wpAny_pure (wpAny_call ?_))
  show codeAny _ _ (.call (.builtin "BaseException.__getattribute__") ⟨[.ref x, .str name t], []⟩) _ _
  have hi := isExc_in (w := w) X I hb
  refine codeAny_call_builtin PySem.F.attr_Exception.ga.plain F.entry_bexc_ga (@check_slot (M w) _ _ _ "BaseException.__getattribute__" "BaseException" "__getattribute__" (.ref x) [.str name t] [] _ hk hsplit hi (F.args_bexc_ga (.ref x) (.str name t)) ?_)
  unfold Builtin.«object.__getattribute__»
  repeat (first | lk | wp_step)
  show wpAny _ _ (handedOut v) _ _ _
  rw [handedOut_of hh]; exact wpAny_pure h

theorem refuse51 (a : Addr) : refuseLoop (.ref a) "__setattr__" [.ref 51, .ref 31, .type "Exception", .type "BaseException", .type "object"] = pure () := by kernel_rfl
theorem hC51 {w : World} {h : Heap} (X : (KT w.params).In h) : h.get? 51 = some (excClassObj "PrologError" "PrologError" 51 50 [.ref 31] [.ref 31, .type "Exception", .type "BaseException", .type "object"] true [] [] false none none (some (.ref 35)) none (some (.str "PrologError" 216)) (some (.str "PrologError" 224)) (some (.bool true)) "Exception.__new__") :=
  X 51 _ (by kernel_rfl)
theorem tail51 {w : World} {h : Heap} (X : (KT w.params).In h) : OwnTail h [.type "Exception", .type "BaseException", .type "object"] [.ref 31, .type "Exception", .type "BaseException", .type "object"] := by
  have hA := X 31 (clsO [some (.ref 22), none, some (.str "ClausemillError" 196), some (.str "ClausemillError" 204), some (.builtin "Exception.__new__"), some (.bool true)] "ClausemillError" [(.type "Exception")] [(.ref 31), (.type "Exception"), (.type "BaseException"), (.type "object")] 30 [(.ref 51)]) (by kernel_rfl)
  exact .own hA (.of_isNs (isNs_of_in (N := 30) X (by kernel_rfl))) (nsMap_none_of_in X (by kernel_rfl) (by kernel_rfl)) .base

theorem setExc {w : World} {A : Around} {s : Shared} {x : Addr} {ox : Obj} {name : Str} {tk : Tok} {v : Value} {R : Result → Shared → Prop} (X : (KT w.params).In s.heap) (hx : s.heap.get? x = some ox) (hcl : ox.cls = .ref 51) (hdi : ox.dict = none) {vs : Array Value} (hda : ox.data = .fields vs)
    (ht : takerIn (KT w.params) 51 name = some none)
    (h : ∀ h' D, s.heap.get? D = none → (∀ b o, b ≠ x → s.heap.get? b = some o → h'.get? b = some o) → h'.get? x = some { ox with dict := some D } → h'.get? D = some (dictOf (putL name (PyData.keyHash w.params name) (.str name s.toks) v []) (putN name [] 0)) → R (.ok (.ret .none)) { s with heap := h', toks := s.toks + 1 }) :
    codeAny (M w) A (.call (.builtin "object.__setattr__") ⟨[.ref x, .str name tk, v], []⟩) R s := by
  have SF := PySem.F.store_object
  have I : InstAt s.heap x ox 51 none := ⟨hx, hcl, by unfold notCls; rw [hda], by rw [hdi]; trivial⟩
  have sub : Looks (M w) s.heap (isInstance (.ref x) (.type "object")) true := I.type.andThen (looks_subIn X (by kernel_rfl))
  refine codeAny_call_builtin SF.slot.plain SF.entry (@check_slot (M w) _ _ s "object.__setattr__" "object" "__setattr__" (.ref x) [.str name tk, v] [] _ SF.kind SF.split sub (SF.args (.ref x) (.str name tk) v) ?_)
  refine el1_2 (Option.bind_eq_some_iff.mp ht) fun attr ha hr => ?_
  obtain ⟨cd, hc, hm, hh⟩ : ∃ cd, clsIn (KT w.params) 51 = some cd ∧ cd.mro = [.ref 51, .ref 31, .type "Exception", .type "BaseException", .type "object"] ∧ cd.hasDict = true := ⟨{ name := "PrologError", bases := [.ref 31], mro := [.ref 51, .ref 31, .type "Exception", .type "BaseException", .type "object"], ns := 50, qualname := "PrologError", hasDict := true, slotNames := [], subclasses := [], abstract := false, collection := none, hasDel := false }, by kernel_rfl, rfl, rfl⟩
  have hmr : Looks (M w) s.heap (mroOf (.ref 51)) cd.mro := (looks_clsIn X hc).andThen .now
  have L3 : Looks (M w) s.heap (storeTaker? attr) none := by
    cases attr with
    | none => exact .now
    | some a =>
      refine el1_2 (Option.map_eq_some_iff.mp hr) fun b hb hb' => ?_
      refine (looks_takesIn X hb).andThen ?_
      cases b with
      | true => cases hb'
      | false => exact .now
  rw [osa_eq, refuse_eq]
  refine wpAny_bind (wpAny_bind (I.type.here (wpAny_bind (hmr.here ?_))))
  rw [hm, refuse51]
  refine wpAny_pure (wpAny_bind (I.type.here (wpAny_bind ((looks_findIn X ha).here (wpAny_bind (L3.here ?_))))))
  obtain ⟨oc, odi, oda, osl⟩ := ox
  dsimp only at hcl hdi hda
  subst hcl hdi hda
  have hD0 := Heap.get?_push_size s.heap (o := emptyDict) rfl
  have hx1 := Heap.get?_push_of_some emptyDict hx
  have hDx : s.heap.objs.size ≠ x := Nat.ne_of_gt (Heap.lt_size hx)
  have hx2 := Heap.get?_update_self (fun o => { o with dict := some s.heap.objs.size }) hx1 rfl
  have hD2 := (Heap.get?_update_other (s.heap.push emptyDict) (fun o => { o with dict := some s.heap.objs.size }) (Ne.symm hDx)).trans hD0
  have hD3 : (((s.heap.push emptyDict).update x fun o => { o with dict := some s.heap.objs.size }).update s.heap.objs.size (Obj.putName name (PyData.keyHash w.params name) (.str name s.toks) v)).get? s.heap.objs.size = some (dictOf (putL name (PyData.keyHash w.params name) (.str name s.toks) v []) (putN name [] 0)) := by
    rw [← putName_dict]
    exact Heap.get?_update_self _ hD2 (by rw [putName_dict]; rfl)
  refine wpAny_bind (wpAny_pure (wpAny_bind (wpAny_bind (wpAny_loadPart hx (wpAny_bind ((looks_clsIn X hc).here ?_))))))
  rw [hh]
  refine wpAny_bind (wpAny_alloc (wpAny_bind (wpAny_update hx1 (wpAny_pure (wpAny_bind (wpAny_pure (wpAny_bind ?_)))))))
  unfold nsSet
  refine wpAny_bind (wpAny_bind (wpAny_askSetting (wpAny_pure (wpAny_bind (wpAny_mkText (wpAny_bind (wpAny_loadPart hD2 ?_)))))))
  dsimp only
  rw [aRefKeyMayBeTheName_at]
  rw [if_neg (by simp)]
  refine wpAny_updatePart hD2 ?_
  refine wpAny_bind (wpAny_lookBehind hD3 (by show (Data.dict _ _).pastItsLine = none; exact pastItsLine_dict (by rw [List.size_toArray, sizeLine_eq]; have := putL_length name (PyData.keyHash w.params name) (.str name s.toks) v []; simp at this; (first | lia | omega))) ?_)
  refine wpAny_pure (h _ _ (size_none s.heap) (fun b o hb e => ?_) ?_ hD3)
  · have hbD : s.heap.objs.size ≠ b := Nat.ne_of_gt (Heap.lt_size e)
    rw [Heap.get?_update_other _ _ hbD, Heap.get?_update_other _ _ (Ne.symm hb)]
    exact Heap.get?_push_of_some _ e
  · rw [Heap.get?_update_other _ _ hDx]
    exact hx2

theorem bornExc {w : World} {A : Around} {R : Result → Shared → Prop} {h : Heap} {g : Array GenState} {d : Drawn} {t : Nat} {os : OsState} {rest : List Value} (X : (KT w.params).In h)
    (hq : codeAny (M w) (A.under (.builtin "type.__call__" ⟨.ref 51 :: rest, []⟩)) (.call (.ref 48) ⟨.ref (h.objs.size + 1) :: rest, []⟩) (InitBack (h.objs.size + 1) R)
      ⟨(h.push { cls := .type "tuple", data := .seq rest.toArray }).push { cls := .ref 51, data := .fields #[.ref h.objs.size, .none, .none, .none, .bool false, .none] }, g, d, t, os⟩) (hrest : rest.length ≤ sizeLine := by size_fits) :
    codeAny (M w) A (.call (.ref 51) ⟨rest, []⟩) R ⟨h, g, d, t, os⟩ := by
  have hC := hC51 X
  have T := tail51 X
  have FB := PySem.F.excBase_Exception
  have f1 := tc_lookup
  have f2 := tc_bind (.ref 51)
  have hT : (⟨h, g, d, t, os⟩ : Shared).TypeIs (.ref 51) "type" := ⟨_, hC, rfl⟩
  refine codeAny_of_tree ?_
  show wpAny _ _ (callAny (.ref 51) _) _ _ _
  repeat (any_goals (first | assumption | with_reducible refine wpAny_loadPart_at hC ?_ | wp_step))
  refine ⟨rfl, ?_⟩
  refine codeAny_call_builtin_at (Code.quiet_builtin _ (by decide +kernel)) entry_typeCall (wpAny_check_type_call_sub hC ?_)
  unfold Builtin.«type.__call__»
  repeat (first | with_reducible refine wpAny_loadPart_at hC ?_ | with_reducible refine wpAny_madeBy_exc hC ?_ | wp_step)
  refine codeAny_call_builtin_code (Code.quiet_builtin _ FB.quiet) (wpAny_check_new_subU FB (by decide +kernel) T hC ?_)
  refine codeAny_exc_new_subU FB (by decide +kernel) FB T hC ?_ hrest
  show wpAny _ _ _ _ _ _
  have k : ∀ b o, h.get? b = some o → ((h.push { cls := .type "tuple", data := .seq rest.toArray }).push { cls := .ref 51, data := .fields #[.ref h.objs.size, .none, .none, .none, .bool false, .none] }).get? b = some o := fun b o e => Heap.get?_push_of_some _ (Heap.get?_push_of_some _ e)
  have X₁ : (KT w.params).In ((h.push { cls := .type "tuple", data := .seq rest.toArray }).push { cls := .ref 51, data := .fields #[.ref h.objs.size, .none, .none, .none, .bool false, .none] }) := X.keeps k
  have hC₁ := hC51 X₁
  have hget : ((h.push { cls := .type "tuple", data := .seq rest.toArray }).push { cls := .ref 51, data := .fields #[.ref h.objs.size, .none, .none, .none, .bool false, .none] }).get? (h.objs.size + 1) = some
      { cls := .ref 51, data := .fields #[.ref h.objs.size, .none, .none, .none, .bool false, .none] } := by heap_get
  unfold isInstance
  repeat (first | with_reducible refine wpAny_loadPart_at hget ?_ | wp_step)
  dsimp only
  have hsub := looks_subIn (M := M w) X₁ (by kernel_rfl : subIn (KT w.params) (.ref 51) (.ref 51) = some true)
  refine hsub.here ?_
  repeat (first | with_reducible refine wpAny_loadPart_at hget ?_ | wp_step)
  show wpAny _ _ (typeLookup (.ref 51) _) _ _ _
  refine (looks_findIn X₁ (by kernel_rfl : findIn (KT w.params) (.ref 51) "__init__" = some (some (.ref 48)))).here ?_
  refine wpAny_holding (wpAny_bind ((bind_fn X₁ _ (by kernel_rfl)).here ?_))
  refine wpAny_bind (wpAny_call (codeAny_mono hq fun r s' z => ?_))
  rcases r with e | (v | _ | _ | _) <;> first | exact z | exact z.elim | skip
  obtain ⟨rfl, z⟩ := z
  wp_walk
  exact z
end
section
open Builtin Builtin.ObjectAttr
noncomputable def FrOk (c : Cx) : Prop := ∃ outer L, c.Fs = c.env :: outer ∧ c.env.frame = some L
noncomputable def Thrown (P : V → AH → Prop) (v : Value) (H : AH) : Prop := ∃ a d T ball, v = .ref a ∧ H a = some (.exc 51 (some d) [("ball", ball)] (some T)) ∧ H T = some (.tb .none) ∧ P ball H
noncomputable def Ready (P : V → AH → Prop) (v : Value) (H : AH) : Prop := ∃ a d tb ball, v = .ref a ∧ H a = some (.exc 51 (some d) [("ball", ball)] tb) ∧ (∀ T, tb = some T → H T = some (.tb .none)) ∧ P ball H
theorem Thrown.ready {P : V → AH → Prop} {v : Value} {H : AH} (x : Thrown P v H) : Ready P v H := by
  refine el4_4 x fun a d T ball z1 h1 h2 p => ?_; try clear x; subst z1
  exact (mk4_4 a d (some T) ball rfl h1 (fun T' e => by cases e; exact h2) p)
noncomputable def Stb (P : V → AH → Prop) : Prop := ∀ v H H', ExtC H H' → P v H → P v H'
noncomputable def LeftP (c : Cx) (P : V → AH → Prop) (e : Value) (s : Shared) : Prop := ∃ H', Thrown P e H' ∧ RelH c H' s
noncomputable def FE (c : Cx) (P : V → AH → Prop) : ER := fun e s' => wpAny (M c.w) c.A (leaving c.env e) (fun _ s'' => LeftP c P e s'') (fun _ _ => False) s'
theorem FE.passes {c : Cx} {P : V → AH → Prop} : PassesOwn (M c.w) c.A c.env (FE c P) := PassesOwn.leaving (Q₁ := LeftP c P) (E₁ := fun _ _ => False)
theorem FE.of {lv : Nat} {c : Cx} {P : V → AH → Prop} {H : AH} {s : Shared} {v : Value} (hc : CxOk lv c) (hf : FrOk c) (S : Stb P) (R : RelH c H s) (r : Ready P v H) : FE c P v s := by
  refine el4_4 r fun a d tb ball z2 ha ht p => ?_; try clear r; subst z2
  refine el2_2 hf fun outer L h1 h2 => ?_; try clear hf
  exact leaveE hc.frames h1 h2 R ha ht fun T H' s' x1 x2 F => (mk1_2 H' ⟨a, d, T, ball, rfl, x2, x1, S _ _ _ F.ext p⟩ F.rel)

noncomputable def FlyP (c : Cx) (m : Loc) (H : AH) (P : V → AH → Prop) (s : Shared) (e : Value) (s' : Shared) : Prop := ∃ H', Thrown P e H' ∧ Rel c m H' s' ∧ Moves H s.heap s'.heap ∧ Grow H H' s.heap
noncomputable def RetX (c : Cx) (m : Loc) (H : AH) (Q P : V → AH → Prop) (s : Shared) (r : Result) (s' : Shared) : Prop := match r with
  | .ok (.ret v) => EvP c m H Q s v s'
  | .ok _ => False
  | .error e => FlyP c m H P s e s'
noncomputable def FnX (lv : Nat) (w : World) (f : Value) (as : List V) (H : AH) (Q P : V → AH → Prop) : Prop :=
  ∀ c m, c.w = w → CxOk lv c → ∀ vs s, VRs s.heap vs as → Rel c m H s → codeAny (M c.w) c.A (.call f ⟨vs, []⟩) (RetX c m H Q P s) s

section
variable {lv : Nat} {c : Cx} {E : ER} {m : Loc} {H : AH} {s : Shared}
theorem callee_backH {H' : AH} {s' : Shared} {env : Env} (R : Rel c m H s) (R' : RelH (calleeCx c s H env) H' s') : Rel c m H' s' ∧ Moves H s.heap s'.heap ∧ Grow H H' s.heap := by
  have mv : Moves H s.heap s'.heap := R'.since
  have g : Grow H H' s.heap := R'.grow
  have up : ∀ L, L ∈ c.Fs.filterMap (·.frame) → L ∈ (calleeCx c s H env).Fs.filterMap (·.frame) := fun L hL => by
    show L ∈ (env :: c.Fs).filterMap (·.frame)
    rw [List.filterMap_cons]
    split
    · exact hL
    · exact .tail _ hL
  exact ⟨R.next ⟨R'.gens, R'.os, R.hb, R'.base, R.since.trans R.grow mv, R.grow.trans R.since g, R'.objs, R'.offB, R'.frames.2.2, fun L hL => R'.dfr L (up L hL), fun L hL => R'.offF L (up L hL)⟩ mv g, mv, g⟩
theorem FnX.mk {w : World} {f : Addr} {name qual : Str} {st : Stmt} {dV md : Value} {cd : Addr} {as : List V} {ds : List (Str × V)} {H : AH} {Q P : V → AH → Prop} (F : FnOk w f name qual st dV md cd)
    (hb : ∀ s vs, (KT w.params).In s.heap → VRs s.heap vs as → ∃ bs, BindsTo s (fnData name qual st dV md (.ref cd)) ⟨vs, []⟩ bs ∧ BndR s.heap bs ds)
    (hloc : ∀ y ∈ ds.map (·.1), (fnScope st).names.lookup y = some .local) (hcell : ∀ x ∈ (fnScope st).names, x.2 ≠ .cell) (hnd : (ds.map (·.1)).Nodup)
    (body : ∀ c, c.w = w → CxOk lv c → FrOk c → c.env.scope = fnScope st → c.env.cells = [] → Exs c (FE c P) (fnBody st) (locOf ds) H (RetQ Q)) : FnX (lv + 1) w (.ref f) as H Q P := by
  intro c m hw hc vs s r R
  subst hw
  refine el1_2 (hb s vs R.K r) fun bs hB hR => ?_
  have hroom : c.A.depth < recursionLimit := by have := hc.depth; (first | lia | omega)
  refine codeAny_call_def (fd := fnData name qual st dV md (.ref cd)) (body := fnBody st) hroom (R.K _ _ F.at_) rfl R.nolimit ((codeRec_of R.hb F.code).keeps R.base) rfl hB hcell (fun x hx => ?_) (fun h' hns hkp => ?_) F.co F.gen F.kind
  · exact hloc _ (by rw [← hR.1]; exact List.mem_map_of_mem hx)
  · have R' := callee_rel (m' := locOf ds) (tk := s.toks + bs.length) R (env := callEnv (fnData name qual st dV md (.ref cd)) s.heap.objs.size f) rfl rfl F.kind hns hkp (fun x d e => by
      refine el1_2 (hR.lookup (locOf_lookup e)) fun v e' r' => ?_
      exact (mk1_2 v (by rw [lookup_reverse (by rw [hR.1]; exact hnd)]; exact e') (r'.mono (.of_keeps hkp)))) rfl
    have hc' := callee_ok (s := s) (H := H) (env := callEnv (fnData name qual st dV md (.ref cd)) s.heap.objs.size f) hc F.kind rfl rfl F.gen F.co
    have hf' : FrOk (calleeCx c s H (callEnv (fnData name qual st dV md (.ref cd)) s.heap.objs.size f)) := ⟨c.Fs, _, rfl, rfl⟩
    refine wpAny_mono (body (calleeCx c s H (callEnv (fnData name qual st dV md (.ref cd)) s.heap.objs.size f)) rfl hc' hf' rfl rfl _ R') (fun fo s' z3 => el3_4 z3 fun fl m' H' q rf R'' _ => ?_) fun e s' he => ?_
    · refine el0_3 (callee_back R R'') fun R₂ mv g => ?_
      cases fo <;> cases fl <;> first | exact rf.elim | exact q.elim | skip
      · exact (mk2_5 .none H' q .none R₂ mv g)
      · exact (mk2_5 _ H' q rf R₂ mv g)
    · refine wpAny_mono he (fun _ s'' z4 => el1_2 z4 fun H' t R'' => ?_) fun _ _ x => x.elim
      refine el0_3 (callee_backH R R'') fun R₂ mv g => ?_
      exact (mk1_4 H' t R₂ mv g)
theorem FnX.plain {w : World} {f : Addr} {name qual : Str} {st : Stmt} {dV md : Value} {cd : Addr} {as : List V} {H : AH} {Q P : V → AH → Prop} (ps : List Str) (F : FnOk w f name qual st dV md cd)
    (hb : ∀ vs : List Value, vs.length = ps.length → bindArgs (fnData name qual st dV md (.ref cd)) ⟨vs, []⟩ = pure (ps.zip vs)) (hl : as.length = ps.length)
    (hloc : ∀ y ∈ ps, (fnScope st).names.lookup y = some .local) (hcell : ∀ x ∈ (fnScope st).names, x.2 ≠ .cell) (hnd : ps.Nodup)
    (body : ∀ c, c.w = w → CxOk lv c → FrOk c → c.env.scope = fnScope st → c.env.cells = [] → Exs c (FE c P) (fnBody st) (locOf (ps.zip as)) H (RetQ Q)) : FnX (lv + 1) w (.ref f) as H Q P :=
  have e : (ps.zip as).map (·.1) = ps := List.map_fst_zip (by (first | lia | omega))
  FnX.mk F (fun _ _ _ r => binds_plain hb r hl) (by rw [e]; exact hloc) hcell (by rw [e]; exact hnd) body
theorem FnX.at {lv' : Nat} {f : Value} {as : List V} {Q P P' : V → AH → Prop} (h : FnX lv c.w f as H Q P) (hc : CxOk lv' c) (hf : FrOk c) (S : Stb P') (k : ∀ v H, P v H → P' v H) (hl : lv ≤ lv' := by (first | lia | omega)) : OpN c (FE c P') (fun vs => call f vs) as m H Q := fun vs s r R =>
  wpAny_call (codeAny_mono (h c m rfl (hc.mono hl) vs s r R) fun x s' z => by
    rcases x with e | (v | _ | _ | _) <;> first | exact z.elim | exact z | skip
    refine el1_3 z fun H' t R' _ => ?_; try clear z
    refine el4_4 t.ready fun a d tb ball e1 e2 e3 p => ?_
    exact FE.of hc hf S R'.toRelH ⟨a, d, tb, ball, e1, e2, e3, k _ _ p⟩)

theorem Exs.raise {e : Expr} {pos : Pos} {rest : List Stmt} {Q : Fl → Loc → AH → Prop} (hc : CxOk lv c)
    (h : Ev c E e m H fun v H' => ∃ a d fs, v = .ref a ∧ H' a = some (.exc 51 d fs none) ∧ ∀ s', Rel c m H' s' → E (.ref a) s') : Exs c E (.Raise (some e) none pos :: rest) m H Q := Exs.cons fun s R => by
  show wpAny _ _ (do standAt pos; raiseStmt c.env (some (do let v ← eval e c.env; standAt pos; pure v)) none) _ _ s
  refine wpAny_bind (wpAny_standAt ?_)
  unfold raiseStmt
  dsimp only
  refine wpAny_bind (wpAny_bind (wpAny_mono (h s R) (fun v s₁ h₁ => wpAny_bind (wpAny_standAt (wpAny_pure ?_))) fun _ _ x => x))
  refine el2_5 h₁ fun v' H₁ z5 rv R₁ m₁ g₁ => ?_; try clear h₁; refine el3_3 z5 fun a d fs z6 ha hE => ?_; subst z6
  cases rv
  refine el0_2 (R₁.objs a _ ha) fun z7 _ => ?_; refine el2_5 z7 fun ox vs e1 e2 e3 e4 e5 => ?_
  have hT : Looks (M c.w) s₁.heap (typeOf (.ref a)) (.ref 51) := e2 ▸ (Looks.ld e1).andThen .now
  have hI : Looks (M c.w) s₁.heap (isInstance (.ref a) (.type "BaseException")) true := hT.andThen (looks_subIn R₁.K (by kernel_rfl))
  have hTT : Looks (M c.w) s₁.heap (typeOf (.ref 51)) (.type "type") := looks_typeIn R₁.K (by kernel_rfl)
  have hnt : ∀ {Q' : Bool → Shared → Prop}, Q' false s₁ → wpAny (M c.w) c.A (isType (.ref a)) Q' E s₁ := by
    intro Q' hq
    simp only [isType, loadHead]
    refine wpAny_bind (wpAny_loadPart e1 ?_)
    rw [e4]; exact wpAny_pure hq
  refine wpAny_bind (wpAny_pure ?_)
  dsimp only
  refine wpAny_bind (wpAny_holding ?_)
  unfold excFromValue isExcClass
  refine wpAny_bind (wpAny_bind (hnt ?_))
  simp only [Bool.false_eq_true, if_false]
  refine wpAny_pure ?_
  simp only [Bool.false_eq_true, if_false]
  refine wpAny_bind (hI.here ?_)
  simp only [if_true]
  refine wpAny_pure ?_
  refine wpAny_bind (hnt ?_)
  simp only [Bool.false_eq_true, if_false]
  unfold raisedInstance
  refine wpAny_bind (wpAny_bind (hT.here (wpAny_bind (hTT.here ?_))))
  rw [if_pos (by decide)]
  refine wpAny_pure ?_
  unfold setFlight
  refine wpAny_bind (wpAny_bind (wpAny_field e1 e4 (x := Value.none) e5 ?_))
  rw [if_neg (by decide)]
  refine wpAny_pure (wpAny_raiseNew_none hc.handled (hE s₁ R₁))

theorem RelH.dictNew (R : RelH c H s) {h' : Heap} {tk : Nat} {x D : Addr} {ox : Obj} {tb : Option Addr} {es : List DictEntry} {n : Nat} {fs : List (Str × V)} (hx : H x = some (.exc 51 none [] tb)) (hn : s.heap.get? D = none) (e0 : s.heap.get? x = some ox)
    (k : ∀ b o, b ≠ x → s.heap.get? b = some o → h'.get? b = some o) (hx' : h'.get? x = some { ox with dict := some D }) (hD : h'.get? D = some (dictOf es n)) (f : Tups s.heap h' → FldR h' es fs) :
    RelH c ((H.set D (.aux x)).set x (.exc 51 (some D) fs tb)) { s with heap := h', toks := tk } ∧ Moves H s.heap h' ∧ Grow H ((H.set D (.aux x)).set x (.exc 51 (some D) fs tb)) s.heap := by
  refine el0_2 (R.objs x _ hx) fun z8 _ => ?_; refine el2_5 z8 fun ox' vs e1 e2 e3 e4 e5 => ?_
  rw [e0] at e1; cases e1
  have hDx : D ≠ x := by rintro rfl; rw [hn] at e0; cases e0
  have hHD : H D = none := R.none_of_new hn
  have m : Moves H s.heap h' := fun b ob e n => (mk1_2 ob (k b ob (by rintro rfl; rw [hx] at n; cases n) e) (.refl _))
  have T := R.tups m
  have g : Grow H ((H.set D (.aux x)).set x (.exc 51 (some D) fs tb)) s.heap := ⟨fun b ob e n => by
    rw [AH.set_other _ _ (by rintro rfl; rw [hx] at n; cases n), AH.set_other _ _ (by rintro rfl; rw [hn] at e; cases e)]; exact n, fun b ob e => by
    by_cases q : b = x
    · subst q; exact ⟨_, AH.set_self ..⟩
    · rw [AH.set_other _ _ q]
      by_cases q' : b = D
      · subst q'; exact ⟨_, AH.set_self ..⟩
      · exact ⟨ob, by rw [AH.set_other _ _ q']; exact e⟩⟩
  have notB : c.B.get? x = none := R.offB _ _ hx
  refine ⟨R.next m g (fun b o e => k b o (by rintro rfl; rw [notB] at e; cases e) (R.base b o e)) (fun b ob e => ?_) (fun b ob e => ?_), m, g⟩
  · by_cases q : b = x
    · subst q
      rw [AH.set_self] at e; cases e
      refine ⟨⟨_, vs, hx', e2, rfl, e4, e5⟩, fun d' hd' => ?_⟩
      cases hd'
      exact (mk0_2 ((AH.set_other _ _ hDx).trans (AH.set_self ..))  (mk2_2 es n hD (f T)))
    · rw [AH.set_other _ _ q] at e
      by_cases q' : b = D
      · subst q'
        rw [AH.set_self] at e; cases e
        exact (mk2_1 es n hD)
      · rw [AH.set_other _ _ q'] at e
        have r := R.objs b ob e
        refine el1_2 r.there fun ob' f1 _ => ?_
        refine r.mono ((k b ob' q f1).trans f1.symm) T fun d qd => ?_
        refine el0_2 (r.dct qd) fun z9 f3 => ?_; refine el2_1 z9 fun es' n' f2 => ?_
        have d1 : d ≠ x := by rintro rfl; rw [hx] at f3; cases f3
        have d2 : d ≠ D := by rintro rfl; rw [hn] at f2; cases f2
        exact ⟨(k d _ d1 f2).trans f2.symm, (AH.set_other _ _ d1).trans (AH.set_other _ _ d2)⟩
  · by_cases q : b = x
    · subst q; exact notB
    · rw [AH.set_other _ _ q] at e
      by_cases q' : b = D
      · subst q'
        cases z : c.B.get? b with
        | none => rfl
        | some o => rw [R.base b o z] at hn; cases hn
      · rw [AH.set_other _ _ q'] at e; exact R.offB b ob e
theorem Exs.setAttrX {o e : Expr} {name : Str} {p pos : Pos} {rest : List Stmt} {Q : Fl → Loc → AH → Prop} (ht : takerIn (KT c.w.params) 51 name = some none)
    (h : Ev c E e m H fun v H₁ => Ev c E o m H₁ fun a H₂ => ∃ p tb, a = .ref p ∧ H₂ p = some (.exc 51 none [] tb) ∧ ∀ D, H₂ D = none → Exs c E rest m ((H₂.set D (.aux p)).set p (.exc 51 (some D) [(name, v)] tb)) Q)
    (hs : swapsWith e (some (.Attribute o name p)) pos.line c.env = pure false := by rfl) : Exs c E (.Assign [.Attribute o name p] e pos :: rest) m H Q := Exs.cons fun s R => by
  refine plainObj_wpAny_Assign_Attribute (wpAny_mono (h s R) (fun vv s₁ z10 => el2_5 z10 fun v H₁ h₁ r₁ R₁ m₁ g₁ => ?_) fun _ _ x => x) hs
  refine wpAny_mono (h₁ s₁ R₁) (fun vo s₂ z11 => el2_5 z11 fun a H₂ z12 r₂ R₂ m₂ g₂ => el2_3 z12 fun p tb ea hp q => ?_) fun _ _ x => x
  apply r₂.refQ ea
  refine el0_2 (R₂.objs p _ hp) fun z13 _ => ?_; refine el2_5 z13 fun ox vs e1 e2 e3 e4 e5 => ?_
  have I : InstAt s₂.heap p ox 51 none := ⟨e1, e2, by unfold notCls; rw [e4], by rw [e3]; trivial⟩
  refine set_plain R₂.K I (by kernel_rfl) (setExc (s := { s₂ with toks := s₂.toks + 1 }) R₂.K e1 e2 e3 e4 ht fun h' D hn k hx' hD => ?_)
  have rv := r₁.mono (R₁.tups m₂)
  refine el0_3 (R₂.toRelH.dictNew (tk := s₂.toks + 1 + 1) hp hn e1 k hx' hD fun T => FldR.put (es := []) (fs := []) ⟨fun _ _ z => (nomatch z), fun _ _ => rfl, Nat.le_refl _⟩ T (rv.mono T)) fun R₃ m₃ g₃ => ?_
  exact (mk3_4 .next m _ (q D (R₂.toRelH.none_of_new hn)) trivial (R₂.next R₃ m₃ g₃) (((Step.of R m₁ g₁).trans (Step.of R₁ m₂ g₂)).trans (Step.of R₂ m₃ g₃)))
theorem Fn.born {w : World} {as : List V} {Q : V → AH → Prop} (hl : as.length ≤ 100)
    (h : ∀ p, H p = none → Fn lv w (.ref 48) (.ref p :: as) (H.set p (.exc 51 none [] none)) fun v H' => v = .none ∧ Q (.ref p) H') : Fn (lv + 1) w (.ref 51) as H Q := by
  intro c m hw hc vs s r R
  subst hw
  obtain ⟨hh, g, d, t, os⟩ := s
  have k1 : ∀ b o, hh.get? b = some o → (hh.push { cls := .type "tuple", data := .seq vs.toArray }).get? b = some o := fun b o e => Heap.get?_push_of_some _ e
  have R1 := R.ext (tk := t) k1
  have hn2 : (hh.push { cls := .type "tuple", data := .seq vs.toArray }).get? (hh.objs.size + 1) = none := by have := size_none (hh.push { cls := .type "tuple", data := .seq vs.toArray }); rwa [Heap.size_push] at this
  have k2 : ∀ b o, (hh.push { cls := .type "tuple", data := .seq vs.toArray }).get? b = some o → ((hh.push { cls := .type "tuple", data := .seq vs.toArray }).push { cls := .ref 51, data := .fields #[.ref hh.objs.size, .none, .none, .none, .bool false, .none] }).get? b = some o := fun b o e => Heap.get?_push_of_some _ e
  have hX : ((hh.push { cls := .type "tuple", data := .seq vs.toArray }).push { cls := .ref 51, data := .fields #[.ref hh.objs.size, .none, .none, .none, .bool false, .none] }).get? (hh.objs.size + 1) = some { cls := .ref 51, data := .fields #[.ref hh.objs.size, .none, .none, .none, .bool false, .none] } := by
    have := Heap.get?_push_size (hh.push { cls := .type "tuple", data := .seq vs.toArray }) (o := { cls := .ref 51, data := .fields #[.ref hh.objs.size, .none, .none, .none, .bool false, .none] }) rfl
    rwa [Heap.size_push] at this
  refine el0_3 (R1.toRelH.new (tk := t) (a := hh.objs.size + 1) (o := .exc 51 none [] none) k2 hn2 ⟨⟨_, _, hX, rfl, rfl, rfl, rfl⟩, fun _ e => nomatch e⟩ (noInst R1 hn2)) fun R2 m2 g2 => ?_
  have R2' := R1.next R2 m2 g2
  refine bornExc R.K ?_ (by rw [r.length, sizeLine_eq]; (first | lia | omega))
  have z := h (hh.objs.size + 1) (none_of_new R1 hn2) (underCx c (.builtin "type.__call__" ⟨.ref 51 :: vs, []⟩)) m rfl (under_ok hc) (.ref (hh.objs.size + 1) :: vs) _
    (.cons (.ref _) (((r.mono (.of_keeps k1)).mono (.of_keeps k2)))) (R2'.under _)
  refine codeAny_mono z fun x s' y => ?_
  rcases x with e | (v | _ | _ | _) <;> first | exact y.elim | skip
  refine el2_5 y fun d' H' z14 rv R' mv gr => ?_; try clear y; refine el0_2 z14 fun z15 q => ?_; subst z15
  cases rv
  have mA : Moves H hh _ := Moves.trans (.of_keeps k1) (.refl _ _) m2
  have gA : Grow H _ hh := Grow.trans (.refl _ _) (.of_keeps k1) g2
  exact (mk0_2 rfl  ⟨_, H', q, .ref _, R'.notUnder, mA.trans gA mv, gA.trans mA gr⟩)
theorem Ev.attrX {value : Expr} {attr : Str} {pos : Pos} {Q : V → AH → Prop} (hf : findIn (KT c.w.params) (.ref 51) attr = some Option.none)
    (h : Ev c E value m H fun a H₁ => ∃ p d fs tb v, a = .ref p ∧ H₁ p = some (.exc 51 (some d) fs tb) ∧ fs.lookup attr = some v ∧ Q v H₁)
    (he : eval (.Attribute value attr pos) c.env = (do
      let o ← eval value c.env
      standAt pos.atName
      let r ← holding [o] (getAttr o attr true)
      letTemporaryGo value o r
      pure r) := by rfl) : Ev c E (.Attribute value attr pos) m H Q := fun s R => by
  refine Attribute_any_ (wpAny_mono (h s R) (fun va s₁ z16 => el2_5 z16 fun a H₁ z17 r₁ R₁ m₁ g₁ => el5_4 z17 fun p d fs tb v ea hp hl q => ?_) fun _ _ x => x) he
  apply r₁.refQ ea
  refine el0_2 (R₁.objs p _ hp) fun z18 k => ?_; refine el2_5 z18 fun ox vs e1 e2 e3 e4 e5 => ?_
  refine el0_2 (k d rfl) fun _ z19 => ?_; refine el2_2 z19 fun es n k2 f => ?_
  have I : InstAt s₁.heap p ox 51 (some (dictOf es n)) := ⟨e1, e2, by unfold notCls; rw [e4], by rw [e3]; exact k2⟩
  refine el1_2 (f.1 _ _ hl) fun u hu ru => ?_
  exact getExc R₁.K I (by kernel_rfl) (by kernel_rfl) (by kernel_rfl) (findObj_own (by kernel_rfl) hf rfl (by rw [lookIn_dict]; exact hu)) (handed ru) (EvP.trans m₁ g₁ (R₁.here q ru))
end
end
noncomputable def Loc.del (m : Loc) (x : Str) : Loc := fun y => if y = x then none else m y
noncomputable def atCx (c : Cx) (A : Around) : Cx := { c with A := A }
section
variable {lv : Nat} {c : Cx} {E : ER} {m : Loc} {H : AH} {s : Shared}
theorem Rel.at (R : Rel c m H s) (A : Around) : Rel (atCx c A) m H s :=
  { gens := R.gens, os := R.os, hb := R.hb, base := R.base, since := R.since, grow := R.grow, objs := R.objs, offB := R.offB, frames := R.frames, dfr := R.dfr, offF := R.offF, locs := R.locs, offL := R.offL, newL := R.newL, baseL := R.baseL, cells := R.cells }
theorem Rel.notAt {A : Around} (R : Rel (atCx c A) m H s) : Rel c m H s :=
  { gens := R.gens, os := R.os, hb := R.hb, base := R.base, since := R.since, grow := R.grow, objs := R.objs, offB := R.offB, frames := R.frames, dfr := R.dfr, offF := R.offF, locs := R.locs, offL := R.offL, newL := R.newL, baseL := R.baseL, cells := R.cells }
theorem Step.at {H' : AH} {h h' : Heap} {A : Around} (x : Step (atCx c A) H H' h h') : Step c H H' h h' := ⟨x.mv, x.gr, x.there, x.tups⟩

theorem Rel.names (R : Rel c m H s) {h' : Heap} {tk : Nat} {m' : Loc} {mc' : Str → Option Value} (sb : Heap.SameBut c.env.locals s.heap h') (hn' : h'.Ns c.env.locals mc')
    (hl : ∀ x d, m' x = some d → c.env.kindOf x = some .local → ∃ v, mc' x = some v ∧ VR s.heap v d) (ho : ∀ x d, m' x = some d → (c.env.kindOf x = some .cell ∨ c.env.kindOf x = some .free) → m x = some d) :
    Rel c m' H { s with heap := h', toks := tk } ∧ Step c H H s.heap h' := by
  refine el1_2 R.locs fun mc hn k => ?_
  refine el3_3 (id hn) fun oL esL epL eL dL _ => ?_
  refine el3_3 (id hn') fun oL' esL' epL' eL' dL' _ => ?_
  obtain ⟨R', T⟩ := R.toRelH.off (a := c.env.locals) (h' := h') (tk := tk) (fun b o hb e => (sb.2 b hb).trans e) R.offL R.newL R.baseL (fun _ => (mk3_2 oL' _ _ eL' dL'))
    (fun o e _ vs n q => by rw [eL] at e; cases e; rw [dL] at q; cases q)
  refine ⟨⟨R', ⟨_, hn', fun y dy e hy => ?_⟩, R.offL, R.newL, R.baseL, fun y a e => ?_⟩, ⟨fun b o e _ hb _ => (mk1_2 o ((sb.2 b hb).trans e) (.refl _)), .refl _ _, fun b o e _ => ?_, T⟩⟩
  · refine el1_2 (hl y dy e hy) fun u e' r' => ?_
    exact (mk1_2 u e' (r'.mono T))
  · refine el0_5 (R.cells y a e) fun h1 h2 h3 h4 z3 => ?_; refine el2_3 z3 fun u o h5 h6 h7 => ?_
    refine (mk0_5 h1 h2 h3 h4  (mk2_3 u o ((sb.2 a h4).trans h5) h6 (fun dy hd hky => ?_)))
    refine el1_2 (h7 dy (ho y dy hd hky) hky) fun v' e1 r1 => ?_
    exact (mk1_2 v' e1 (r1.mono T))
  · by_cases q : b = c.env.locals
    · exact ⟨oL', by rw [q]; exact eL'⟩
    · exact ⟨o, (sb.2 b q).trans e⟩
theorem storeA {A : Around} (hkd : c.env.scope.kind = .function) (R : Rel c m H s) {x : Str} (hk : c.env.kindOf x = some .local) {v : Value} {d : V} (r : VR s.heap v d) {Q : Unit → Shared → Prop} (h : ∀ s', Rel c (m.set x d) H s' → Step c H H s.heap s'.heap → Q () s') :
    wpAny (M c.w) A (storeName c.env x v) Q E s := by
  refine el1_2 R.locs fun mc hn k => ?_
  refine wpAny_storeName_local hk hn (fun h' hn' sb => ?_) (by rw [hkd]; rfl)
  obtain ⟨R', st⟩ := R.names (tk := s.toks + 1) (m' := m.set x d) sb hn' (fun y dy e hy => by
    unfold Loc.set at e
    by_cases q : y = x
    · rw [if_pos q] at e; cases e; exact (mk1_2 v (if_pos q) r)
    · rw [if_neg q] at e
      refine el1_2 (k y dy e hy) fun u e' r' => ?_
      exact (mk1_2 u ((if_neg q).trans e') r')) (fun y dy e hy => by
    have hyx : y ≠ x := by rintro rfl; rw [hk] at hy; rcases hy with z | z <;> cases z
    unfold Loc.set at e; rwa [if_neg hyx] at e)
  exact h _ R' st
theorem goesA {A : Around} (hkd : c.env.scope.kind = .function) (R : Rel c m H s) {x : Str} {pos : Pos} (hk : c.env.kindOf x = some .local) {Q : Unit → Shared → Prop} (h : ∀ s', Rel c (m.del x) H s' → Step c H H s.heap s'.heap → Q () s') :
    wpAny (M c.w) A (do bindName c.env x .none; unbindBehindTheSuite c.env x pos) Q E s := by
  refine el1_2 R.locs fun mc hn k => ?_
  refine wpAny_nameGoes_keeps hk hn (by rw [hkd]; rfl) fun h' v hn' sb => ?_
  obtain ⟨R', st⟩ := R.names (tk := s.toks + 1) (m' := m.del x) sb hn' (fun y dy e hy => by
    unfold Loc.del at e
    by_cases q : y = x
    · rw [if_pos q] at e; cases e
    · rw [if_neg q] at e
      refine el1_2 (k y dy e hy) fun u e' r' => ?_
      exact (mk1_2 u ((if_neg q).trans e') r')) (fun y dy e hy => by
    unfold Loc.del at e
    by_cases q : y = x
    · rw [if_pos q] at e; cases e
    · rwa [if_neg q] at e)
  exact h _ R' st
theorem Ev.nameK {x : Str} {pos : Pos} {d : V} {Q : V → AH → Prop} (hkd : c.env.scope.kind = .function) (hx : m x = some d) (hk : c.env.kindOf x = some .local) (q : Q d H) (hd : (x == ("__debug__" : Str)) = false := by decide) : Ev c E (.Name x pos) m H Q := fun s R => by
  refine el1_2 R.locs fun mc hn k => ?_
  refine el1_2 (k x d hx hk) fun v e r => ?_
  exact wpAny_Name (wpAny_loadName_local hkd hk hn e (R.here (tk := s.toks) q r)) hd
theorem Exs.assignK {x : Str} {p pos : Pos} {e : Expr} {rest : List Stmt} {Q : Fl → Loc → AH → Prop} (hkd : c.env.scope.kind = .function) (hk : c.env.kindOf x = some .local) (h : Ev c E e m H fun d H' => Exs c E rest (m.set x d) H' Q)
    (hs : swapsWith e (some (.Name x p)) pos.line c.env = pure false := by rfl) : Exs c E (.Assign [.Name x p] e pos :: rest) m H Q := Exs.cons fun s R =>
  wpAny_Assign_Name (wpAny_mono (h s R) (fun _ _ z4 => el2_5 z4 fun d H₁ h₁ r₁ R₁ m₁ g₁ => storeA hkd R₁ hk r₁ fun _ R₂ st₂ => (mk3_4 .next _ H₁ h₁ trivial R₂ ((Step.of R m₁ g₁).trans st₂))) fun _ _ x => x) hs
theorem Ev.ball {n : Str} {np pos : Pos} {a d : Addr} {tb : Option Addr} {ball : V} {Q : V → AH → Prop} (hkd : c.env.scope.kind = .function) (hx : m n = some (.ref a)) (hk : c.env.kindOf n = some .local) (ha : H a = some (.exc 51 (some d) [("ball", ball)] tb)) (q : Q ball H) (hd : (n == ("__debug__" : Str)) = false := by decide)
    (he : eval (.Attribute (.Name n np) "ball" pos) c.env = (do
      let o ← eval (.Name n np) c.env
      standAt pos.atName
      let r ← holding [o] (getAttr o "ball" true)
      letTemporaryGo (.Name n np) o r
      pure r) := by rfl) : Ev c E (.Attribute (.Name n np) "ball" pos) m H Q :=
  Ev.attrX (by kernel_rfl) (Ev.nameK hkd hx hk ⟨a, d, _, tb, ball, rfl, ha, rfl, q⟩ hd) he

noncomputable def EvA (c : Cx) (e : Expr) (m : Loc) (H : AH) (Q P : V → AH → Prop) : Prop := ∀ s, Rel c m H s → wpAny (M c.w) c.A (eval e c.env) (EvP c m H Q s) (FlyP c m H P s) s
theorem Evs.noRaise {es : List Expr} {Q : List V → AH → Prop} (h : Evs c (fun _ _ => False) es m H Q) : Evs c E es m H Q := fun pos s R => wpAny_noRaise (h pos s R)
theorem EvA.call {lv' : Nat} {x : Str} {np pos : Pos} {f : Value} {e : Expr} {rest : List Expr} {Q P : V → AH → Prop} (hc : CxOk lv c) (hx : c.env.kindOf x = some .globalImplicit) (g : GV c.w x f) (k : KeepOk c.w f)
    (h : Evs c (fun _ _ => False) (e :: rest) m H fun as H₁ => FnX lv' c.w f as H₁ Q P) (hl : lv' ≤ lv := by (first | lia | omega)) (hd : (x == ("__debug__" : Str)) = false := by decide)
    (he : eval (.Call (.Name x np) (e :: rest) [] pos) c.env = (do callWith pos (← eval (.Name x np) c.env) [] (backTo pos (starEach (e :: rest) c.env)) (backToKw pos (keywordEach [] c.env))) := by rfl)
    (hst : starEach (e :: rest) c.env = (false, eval e c.env) :: starEach rest c.env := by rfl) (hplain : (backTo pos (starEach rest c.env)).any (·.1) = false := by rfl) :
    EvA c (.Call (.Name x np) (e :: rest) [] pos) m H Q P := fun s R =>
  Call_ (nameF hc hx g hd R (callArgsR k R h.noRaise (fun as H₁ vs s₁ hF r R₁ m₁ g₁ => wpAny_call (codeAny_mono (hF c m rfl (hc.mono hl) vs s₁ r R₁) fun x s' z => by
    rcases x with e | (v | _ | _ | _) <;> first | exact z.elim | exact z.trans m₁ g₁ | skip
    refine el1_4 z fun H' t R' m' g' => ?_; try clear z
    exact (mk1_4 H' t R' (m₁.trans g₁ m') (g₁.trans m₁ g')))) hst hplain)) he

theorem Ex.try_ {body hs : List Stmt} {b₀ : Stmt} {n : Str} {tp hpos pos : Pos} {Q : Fl → Loc → AH → Prop} {P : V → AH → Prop} (hc : CxOk lv c) (hf : FrOk c) (S : Stb P) (hn : c.env.kindOf n = some .local) (hp : c.env.kindOf "PrologError" = some .globalImplicit) (hg : GV c.w "PrologError" (.ref 51))
    (hb : ∀ s, Rel c m H s → wpAny (M c.w) c.A (execs body c.env) (ExP c H Q s) (FlyP c m H P s) s)
    (hh : ∀ A a d T ball H', H' a = some (.exc 51 (some d) [("ball", ball)] (some T)) → P ball H' → Exs (atCx c A) (fun _ _ => False) (b₀ :: hs) (m.set n (.ref a)) H' fun fl m' H'' => Q fl (m'.del n) H'') :
    Ex c E (.Try body [.ExceptHandler (some (.Name "PrologError" tp)) (some n) (b₀ :: hs) hpos] [] [] pos) m H Q := fun s R => by
  refine wpAny_Try_except (wpAny_mono (hb s R) (fun f s₁ h₁ => ?_) fun e s₁ h₁ => ?_)
  · cases f with
    | next => exact wpAny_execs_nil h₁
    | _ => exact h₁
  · refine el1_4 h₁ fun H₁ z5 R₁ m₁ g₁ => ?_; try clear h₁; obtain ⟨a, d, T, ball, rfl, ha, hT, p⟩ := z5
    refine el2_2 hf fun outer L f1 f2 => ?_; try clear hf
    refine noteE hc.frames f1 f2 R₁.toRelH ha (fun T' e => by cases e; exact hT) fun T₂ H₂ s₂ x1 x2 F₂ => ?_
    refine landE F₂.rel x2 x1 fun H₃ s₃ y1 y2 F₃ => ?_
    have R₃ : Rel c m H₃ s₃ := (R₁.next F₂.rel F₂.mv F₂.gr).next F₃.rel F₃.mv F₃.gr
    have mA := (m₁.trans g₁ F₂.mv).trans (g₁.trans m₁ F₂.gr) F₃.mv
    have gA := (g₁.trans m₁ F₂.gr).trans (m₁.trans g₁ F₂.mv) F₃.gr
    have pA := S _ _ _ F₃.ext (S _ _ _ F₂.ext p)
    refine wpAny_handleBy_cons (codeAny_handlers_test (Name_function_global hc.kind hp ?_ (by decide))) (by intro q; cases q)
    refine el3_1 R₃.hb.top fun mg mb mean TT => ?_
    have G : s₃.heap.Ns mainGlobals mg := TT.g.keeps R₃.base
    have lg : ∀ {Q : Value → Shared → Prop} {E : ER}, Q (.ref 51) s₃ → wpAny (M c.w) (c.A.mark (some (.ref a))) (loadGlobal c.env "PrologError") Q E s₃ := fun {Q E} q => by
      rcases hg with e | ⟨e, hv, hn⟩
      · exact loadGlobal_global (mg := mg) (by rw [hc.globals]; exact G) (mg_of R₃.K G e) q
      · cases (show some (some (Value.ref 51)) = some none from (by kernel_rfl : some (some (Value.ref 51)) = nsIn (KT c.w.params) mainGlobals "PrologError").trans e)
    refine lg ?_
    refine el0_2 (R₃.objs a _ y2) fun z6 _ => ?_; refine el2_5 z6 fun ox vs e1 e2 e3 e4 e5 => ?_
    obtain ⟨hp₃, g₃, dr₃, t₃, o₃⟩ := s₃
    refine wpAny_excMatches_sub_self (hC51 R₃.K) e1 e2 (by decide +kernel) ?_
    refine codeAny_handlers_suite_as ?_
    refine landE R₃.toRelH y2 y1 fun H₄ s₄ z1 z2 F₄ => ?_
    have R₄ : Rel c m H₄ s₄ := R₃.next F₄.rel F₄.mv F₄.gr
    have m4 := mA.trans gA F₄.mv
    have g4 := gA.trans mA F₄.gr
    refine storeA hc.kind R₄ hn (.ref a) fun s₅ R₅ st₅ => ?_
    refine wpAny_mono (hh (c.A.mark (some (.ref a))) a d T₂ ball H₄ z2 (S _ _ _ F₄.ext pA) s₅ (R₅.at _)) (fun f s₆ h₆ => ?_) fun _ _ x => x.elim
    refine el3_4 h₆ fun fl m' H' q rf R₆ st₆ => ?_; try clear h₆
    refine goesA hc.kind R₆.notAt hn fun s₇ R₇ st₇ => ?_
    exact (mk3_4 fl _ H' q (rf.mono st₇.tups) R₇ ((((Step.of R m4 g4).trans st₅).trans st₆.at).trans st₇))
theorem try_assign {x : Str} {px apos : Pos} {e : Expr} {Q : Fl → Loc → AH → Prop} {P : V → AH → Prop} (hc : CxOk lv c) (hk : c.env.kindOf x = some .local) (h : EvA c e m H (fun d H' => Q .next (m.set x d) H') P)
    (hs : swapsWith e (some (.Name x px)) apos.line c.env = pure false := by rfl) : ∀ s, Rel c m H s → wpAny (M c.w) c.A (execs [.Assign [.Name x px] e apos] c.env) (ExP c H Q s) (FlyP c m H P s) s := fun s R =>
  wpAny_execs_cons (wpAny_Assign_Name (wpAny_mono (h s R) (fun _ _ z7 => el2_5 z7 fun d H₁ h₁ r₁ R₁ m₁ g₁ => storeA hc.kind R₁ hk r₁ fun _ R₂ st₂ => wpAny_execs_nil ⟨.next, _, H₁, h₁, trivial, R₂, (Step.of R m₁ g₁).trans st₂⟩) fun _ _ x => x) hs)
theorem try_return {rpos : Pos} {e : Expr} {Q : Fl → Loc → AH → Prop} {P : V → AH → Prop} (h : EvA c e m H (fun d H' => Q (.ret d) m H') P) :
    ∀ s, Rel c m H s → wpAny (M c.w) c.A (execs [.Return (some e) rpos] c.env) (ExP c H Q s) (FlyP c m H P s) s := fun s R =>
  wpAny_execs_cons (wpAny_Return_some (wpAny_mono (h s R) (fun _ _ z8 => el2_5 z8 fun d H₁ h₁ r₁ R₁ m₁ g₁ => (mk3_4 (.ret d) m H₁ h₁ r₁ R₁ (Step.of R m₁ g₁))) fun _ _ x => x))
end
theorem gv_PrologError (w : World) : GV w "PrologError" (.ref 51) := gvG (by kernel_rfl)
theorem gv_system_error (w : World) : GV w "system_error" (.ref 165) := gvG (by kernel_rfl)
theorem gv_formal_of (w : World) : GV w "formal_of" (.ref 172) := gvG (by kernel_rfl)
theorem kf51 {w : World} : KeepOk w (.ref 51) := keep_ref (by kernel_rfl)
theorem kf165 {w : World} : KeepOk w (.ref 165) := keep_ref (by kernel_rfl)
theorem kf172 {w : World} : KeepOk w (.ref 172) := keep_ref (by kernel_rfl)
noncomputable def errBall (formal : V) : V := .tup [.str "s", .int 16, .tup [formal, .tup [.str "a", .int 25]]]

theorem init48_ok {w : World} {p : Addr} {ball : V} {H : AH} {tb : Option Addr} (hp : H p = some (.exc 51 none [] tb)) {Q : V → AH → Prop} (q : ∀ D, H D = none → Q .none ((H.set D (.aux p)).set p (.exc 51 (some D) [("ball", ball)] tb))) : Fn 1 w (.ref 48) [.ref p, ball] H Q := by
  refine Fn.p2 "self" "ball" ok48 (by intro a b; kernel_rfl) (by decide +kernel) (by decide +kernel) (by decide +kernel) ?_
  intro c hw hc hs hcl
  conv =>
    arg 3
    whnf
  conv at hs =>
    rhs
    whnf
  subst hw
  refine Exs.setAttrX (by kernel_rfl) ?_
  isplit
  isplit
  refine (mk2_3 _ _ rfl hp (fun D hD => ?_))
  isplit
  exact q D hD
theorem perr_ok {w : World} {ball : V} {H : AH} {Q : V → AH → Prop} (q : ∀ a d H', H' a = some (.exc 51 (some d) [("ball", ball)] none) → Off [] H H' → Q (.ref a) H') : Fn 2 w (.ref 51) [ball] H Q := by
  refine Fn.born (by simp) fun p hp => init48_ok (AH.set_self ..) fun D hD => ⟨rfl, q p D _ (AH.set_self ..) fun b o e _ => ?_⟩
  have hD' : H D = none := AH.set_none H hD
  have hbp : b ≠ p := by rintro rfl; rw [hp] at e; cases e
  have hbD : b ≠ D := by rintro rfl; rw [hD'] at e; cases e
  exact AH.other hbp (AH.other hbD (AH.other hbp e))
theorem system_error_ok {w : World} {formal : V} {H : AH} {Q : V → AH → Prop} (q : ∀ a d H', H' a = some (.exc 51 (some d) [("ball", errBall formal)] none) → Off [] H H' → Q (.ref a) H') : Fn 3 w (.ref 165) [formal] H Q := by
  refine Fn.p1 "formal" ok165 (by intro a; kernel_rfl) (by decide +kernel) (by decide +kernel) ?_
  intro c hw hc hs hcl
  conv =>
    arg 3
    whnf
  conv at hs =>
    rhs
    whnf
  subst hw
  isplit
  refine Ev.call hc (by nest_cls) (gv_PrologError _) kf51 ?_
  repeat (first | isplit | refine And.intro ?_ (by simp; done))
  exact (perr_ok q).at hc
inductive Pt where
  | s (x : Str)
  | t (ds : List V)
noncomputable def Pt.val : Pt → V
  | .s x => .str x
  | .t ds => .tup ds
noncomputable def Pt.get (ts : List Str) : Pt → V
  | .s x => tmA (ix ts x : Nat)
  | .t ds => .tup ds
noncomputable def Pt.add (ts : List Str) : Pt → List Str
  | .s x => addK ts x
  | .t _ => ts
noncomputable def foldP : List Str → List Pt → List V × List Str
  | ts, [] => ([], ts)
  | ts, p :: r => (p.get ts :: (foldP (p.add ts) r).1, (foldP (p.add ts) r).2)
theorem foldP_snoc (ts : List Str) (l : List Pt) (p : Pt) : foldP ts (l ++ [p]) = ((foldP ts l).1 ++ [p.get (foldP ts l).2], p.add (foldP ts l).2) := by
  induction l generalizing ts with
  | nil => rfl
  | cons y r ih => simp [foldP, ih]
theorem foldP_length (ts : List Str) (l : List Pt) : (foldP ts l).1.length = l.length := by
  induction l generalizing ts with
  | nil => rfl
  | cons y r ih => simp [foldP, ih]
theorem Pt.add_le (ts : List Str) (p : Pt) : (p.add ts).length ≤ ts.length + 1 := by
  cases p with
  | s x => exact addK_length ts x
  | t ds => exact Nat.le_succ _
theorem foldP_le (ts : List Str) (l : List Pt) : (foldP ts l).2.length ≤ ts.length + l.length := by
  induction l generalizing ts with
  | nil => exact Nat.le_refl _
  | cons y r ih => have := ih (y.add ts); have h2 := y.add_le ts; simp [foldP]; (first | lia | omega)
noncomputable def formT (ts : List Str) (name : Str) (l : List Pt) : List Str := addK (foldP ts l).2 name
noncomputable def formF (ts : List Str) (fn : List (List Int)) (name : Str) (l : List Pt) : List (List Int) := addK fn [((ix (foldP ts l).2 name : Nat) : Int), ((l.length : Nat) : Int)]
noncomputable def formV (ts : List Str) (fn : List (List Int)) (name : Str) (l : List Pt) : V := .tup [.str "s", .int (ix fn [((ix (foldP ts l).2 name : Nat) : Int), ((l.length : Nat) : Int)] : Nat), .tup (foldP ts l).1]
section
variable {k : BkA} {H : AH} {ts : List Str} {fn : List (List Int)}
theorem formal_of_ok {w : World} (B : Bk k H ts fn) {name : Str} {l : List Pt} (hl : ts.length + l.length ≤ 900) (hf : fn.length ≤ 900) {Q : V → AH → Prop}
    (q : ∀ H', Bk k H' (formT ts name l) (formF ts fn name l) → Off k.all H H' → Q (formV ts fn name l) H') : Fn 3 w (.ref 172) [.ref k.sy, .str name, .tup (l.map Pt.val)] H Q := by
  have i1 := B.inst
  refine Fn.p3 "symbols" "name" "parts" ok172 (by intro a b c; kernel_rfl) (by decide +kernel) (by decide +kernel) (by decide +kernel) ?_
  intro c hw hc hs hcl
  conv =>
    arg 3
    whnf
  conv at hs =>
    rhs
    whnf
  subst hw
  repeat isplit
  refine ⟨fun p hp => ?_, by simp⟩
  have pk : p ∉ k.all := fun h => by refine el1_1 (B.there h) fun o e => ?_; rw [hp] at e; cases e
  refine Exs.cons (Ex.forT hc .never (by nest_cls) ?_)
  repeat isplit
  refine (mk1_2 _ rfl ?_)
  refine For.inv (fun i m H₁ => m "symbols" = some (.ref k.sy) ∧ m "name" = some (.str name) ∧ m "args" = some (.ref p) ∧ Bk k H₁ (foldP ts (l.take i)).2 fn ∧ H₁ p = some (.list (foldP ts (l.take i)).1) ∧ Off k.all H H₁) _
    ⟨by one_item, by one_item, by one_item, B.same fun a ha => AH.set_other _ _ (by rintro rfl; exact pk ha), AH.set_self .., .new hp⟩ ?_ ?_
  · rintro i d m H₁ hd ⟨h1, h2, h3, B₁, h5, o₁⟩
    rw [List.getElem?_map, Option.map_eq_some_iff] at hd
    refine el1_2 hd fun pt hpt z1 => ?_; try clear hd; subst z1
    have hi : i < l.length := (List.getElem?_eq_some_iff.mp hpt).1
    have hle := foldP_le ts (l.take i)
    have hle2 : (l.take i).length ≤ l.length := by simp; (first | lia | omega)
    have hnl := foldP_length ts (l.take i)
    have et : l.take (i + 1) = l.take i ++ [pt] := by rw [List.take_add_one, hpt]; rfl
    refine ⟨trivial, ?_⟩
    isplit
    refine Ev.append ?_
    repeat isplit
    refine (mk2_3 _ _ rfl h5 ?_)
    repeat isplit
    refine Tr.ev (Ev.call hc (by nest_cls) (gv_isinstance _) (keep_builtin _) ?_)
    repeat isplit
    cases pt with
    | s x =>
      refine OpN.isStr_str ⟨true, rfl, ?_⟩
      rw [if_pos rfl]
      repeat isplit
      refine Ev.im ?_
      isplit
      refine (mk5_5 _ _ _ _ 88 rfl B₁.inst (mk_meth (by kernel_rfl) (by kernel_rfl) (by kernel_rfl) (by kernel_rfl) (by kernel_rfl)) (by rfl) ?_)
      repeat isplit
      refine (atom_ok B₁ (by (first | lia | omega)) fun H₂ B₂ o₂ => ?_).at hc
      have h5' := o₂ p _ h5 pk
      repeat isplit
      refine ⟨?_, by simp⟩
      refine (mk1_5 _ h5' (by (first | lia | omega)) nofun nofun ?_)
      repeat isplit
      refine (mk0_6 (by one_item) (by one_item) (by one_item) ?_ ?_ (fun b ob e n => AH.other (fun z => by first | exact clash e hp z | exact clash hp e z.symm) (o₂ b ob (o₁ b ob e n) n)))
      · rw [et, foldP_snoc]; exact B₂.same fun a ha => AH.set_other _ _ (by rintro rfl; exact pk ha)
      · rw [AH.set_self, et, foldP_snoc]; rfl
    | t ds =>
      refine OpN.isStr_tup ⟨false, rfl, ?_⟩
      rw [if_neg Bool.false_ne_true]
      repeat isplit
      refine (mk1_5 _ h5 (by (first | lia | omega)) nofun nofun ?_)
      repeat isplit
      refine (mk0_6 (by one_item) (by one_item) (by one_item) ?_ ?_ (fun b ob e n => AH.other (fun z => by first | exact clash e hp z | exact clash hp e z.symm) (o₁ b ob e n)))
      · rw [et, foldP_snoc]; exact B₁.same fun a ha => AH.set_other _ _ (by rintro rfl; exact pk ha)
      · rw [AH.set_self, et, foldP_snoc]; rfl
  · rintro m H₁ ⟨h1, h2, h3, B₁, h5, o₁⟩
    refine ⟨trivial, ?_⟩
    rw [List.length_map, List.take_length] at h5 B₁
    have hle := foldP_le ts l
    have hnl := foldP_length ts l
    repeat isplit
    refine Ev.im ?_
    isplit
    refine (mk5_5 _ _ _ _ 109 rfl B₁.inst (mk_meth (by kernel_rfl) (by kernel_rfl) (by kernel_rfl) (by kernel_rfl) (by kernel_rfl)) (by rfl) ?_)
    repeat isplit
    refine Ev.lenL hc (by nest_cls) ?_
    isplit
    refine (mk2_4 _ _ rfl h5 (by (first | lia | omega)) ?_)
    repeat isplit
    rw [hnl]
    refine (func_ok B₁ (by (first | lia | omega)) (by (first | lia | omega)) fun H₂ B₂ o₂ => ?_).at hc
    have h5' := o₂ p _ h5 pk
    repeat isplit
    refine Ev.tupleL hc (by nest_cls) ?_
    isplit
    refine (mk2_4 _ _ rfl h5' (by (first | lia | omega)) ?_)
    repeat isplit
    refine ⟨?_, by simp⟩
    exact q _ B₂ (o₁.trans o₂)
end
theorem Bk.off {k : BkA} {H H' : AH} {ts : List Str} {fs : List (List Int)} (B : Bk k H ts fs) (o : Off [] H H') : Bk k H' ts fs := B.same fun a ha => by
  refine el1_1 (B.there ha) fun ob e => ?_
  rw [e]; exact o a ob e (by simp)
noncomputable def untup : V → List V
  | .tup ds => ds
  | _ => []
noncomputable def ballT (ts : List Str) (name : Str) : List Pt → List Str
  | [] => addK ts name
  | p :: l => formT ts name (p :: l)
noncomputable def ballF (ts : List Str) (fn : List (List Int)) (name : Str) : List Pt → List (List Int)
  | [] => fn
  | p :: l => formF ts fn name (p :: l)
noncomputable def ballV (ts : List Str) (fn : List (List Int)) (name : Str) : List Pt → V
  | [] => errBall (tmA (ix ts name : Nat))
  | p :: l => errBall (formV ts fn name (p :: l))
section
variable {k : BkA} {H : AH} {ts : List Str} {fn : List (List Int)}
theorem type_error_ok {w : World} (B : Bk k H ts fn) {kind : Str} {ds : List V} (hl : ts.length ≤ 800) (hf : fn.length ≤ 800) {Q : V → AH → Prop}
    (q : ∀ a d H', H' a = some (.exc 51 (some d) [("ball", ballV ts fn "type_error" [.s kind, .t ds])] none) → Bk k H' (ballT ts "type_error" [.s kind, .t ds]) (ballF ts fn "type_error" [.s kind, .t ds]) → Off k.all H H' → Q (.ref a) H') : Fn 4 w (.ref 186) [.ref k.sy, .str kind, .tup ds] H Q := by
  refine Fn.p3 "symbols" "kind" "culprit" ok186 (by intro a b c; kernel_rfl) (by decide +kernel) (by decide +kernel) (by decide +kernel) ?_
  intro c hw hc hs hcl
  conv =>
    arg 3
    whnf
  conv at hs =>
    rhs
    whnf
  subst hw
  isplit
  refine Ev.call hc (by nest_cls) (gv_system_error _) kf165 ?_
  isplit
  refine Ev.call hc (by nest_cls) (gv_formal_of _) kf172 ?_
  repeat (first | isplit | refine And.intro ?_ (by simp; done))
  refine (formal_of_ok B (name := "type_error") (l := [.s kind, .t ds]) (by simp; (first | lia | omega)) (by (first | lia | omega)) fun H' B' o => ?_).at hc
  repeat isplit
  exact (system_error_ok fun a d H'' h o' => q a d H'' h (B'.off o') (o.trans (o'.mono nofun))).at hc
theorem representation_error_ok {w : World} (B : Bk k H ts fn) {what : Str} (hl : ts.length ≤ 800) (hf : fn.length ≤ 800) {Q : V → AH → Prop}
    (q : ∀ a d H', H' a = some (.exc 51 (some d) [("ball", ballV ts fn "representation_error" [.s what])] none) → Bk k H' (ballT ts "representation_error" [.s what]) (ballF ts fn "representation_error" [.s what]) → Off k.all H H' → Q (.ref a) H') : Fn 4 w (.ref 193) [.ref k.sy, .str what] H Q := by
  refine Fn.p2 "symbols" "what" ok193 (by intro a b; kernel_rfl) (by decide +kernel) (by decide +kernel) (by decide +kernel) ?_
  intro c hw hc hs hcl
  conv =>
    arg 3
    whnf
  conv at hs =>
    rhs
    whnf
  subst hw
  isplit
  refine Ev.call hc (by nest_cls) (gv_system_error _) kf165 ?_
  isplit
  refine Ev.call hc (by nest_cls) (gv_formal_of _) kf172 ?_
  repeat (first | isplit | refine And.intro ?_ (by simp; done))
  refine (formal_of_ok B (name := "representation_error") (l := [.s what]) (by simp; (first | lia | omega)) (by (first | lia | omega)) fun H' B' o => ?_).at hc
  repeat isplit
  exact (system_error_ok fun a d H'' h o' => q a d H'' h (B'.off o') (o.trans (o'.mono nofun))).at hc
theorem instantiation_error_ok {w : World} (B : Bk k H ts fn) (hl : ts.length ≤ 800) {Q : V → AH → Prop}
    (q : ∀ a d H', H' a = some (.exc 51 (some d) [("ball", ballV ts fn "instantiation_error" [])] none) → Bk k H' (ballT ts "instantiation_error" []) (ballF ts fn "instantiation_error" []) → Off k.all H H' → Q (.ref a) H') : Fn 4 w (.ref 179) [.ref k.sy] H Q := by
  have i1 := B.inst
  refine Fn.p1 "symbols" ok179 (by intro a; kernel_rfl) (by decide +kernel) (by decide +kernel) ?_
  intro c hw hc hs hcl
  conv =>
    arg 3
    whnf
  conv at hs =>
    rhs
    whnf
  subst hw
  isplit
  refine Ev.call hc (by nest_cls) (gv_system_error _) kf165 ?_
  repeat isplit
  refine Ev.im ?_
  isplit
  refine (mk5_5 _ _ _ _ 88 rfl B.inst (mk_meth (by kernel_rfl) (by kernel_rfl) (by kernel_rfl) (by kernel_rfl) (by kernel_rfl)) (by rfl) ?_)
  repeat isplit
  refine (atom_ok B (by (first | lia | omega)) fun H₂ B₂ o₂ => ?_).at hc
  repeat (first | isplit | refine And.intro ?_ (by simp; done))
  exact (system_error_ok fun a d H'' h o' => q a d H'' h (B₂.off o') (o₂.trans (o'.mono nofun))).at hc
end

noncomputable def signT (ts : List Str) (codes : Bool) : Tm → Option Str
  | .nu i => if codes && decide (0 ≤ i) && decide (i ≤ 1114111) then some ⟨#[i.toNat]⟩ else none
  | .sy n => if codes then none else (ts[n.toNat]?).bind fun x => if x.length = 1 then some x else none
  | _ => none
noncomputable def faultT (codes : Bool) : Tm → Str × List Pt
  | .nu i => if codes then ("representation_error", [.s "character_code"]) else ("type_error", [.s "character", .t (untup (tmI i))])
  | t => ("type_error", [.s (if codes then "integer" else "character"), .t (untup t.val)])
noncomputable def Tm.known (ts : List Str) : Tm → Prop
  | .sy n => ∃ m : Nat, n = m ∧ m < ts.length
  | .co h t => h.known ts ∧ t.known ts
  | _ => True
theorem Sh.closed {tm : Tm} {ct : CT} (h : Sh tm ct) : tm.vars = [] → ∀ tb, (ct.take tb).1 = tm.val ∧ (ct.take tb).2 = tb := by
  induction h with
  | vr n a => intro e; simp [Tm.vars] at e
  | sy n => intro _ tb; exact ⟨rfl, rfl⟩
  | nu n => intro _ tb; exact ⟨rfl, rfl⟩
  | co h1 h2 i1 i2 =>
    intro e tb
    simp only [Tm.vars, List.append_eq_nil_iff] at e
    refine el0_2 (i1 e.1 tb) fun a1 a2 => ?_
    refine el0_2 (i2 e.2 tb) fun b1 b2 => ?_
    simp only [CT.take, Tm.val, a1, a2, b1, b2, and_self]
theorem Tm.val_tup (tm : Tm) : V.tup (untup tm.val) = tm.val := by cases tm <;> rfl
theorem gv_text_of (w : World) : GV w "text_of" (.ref 418) := gvG (by kernel_rfl)
theorem gv_type_error (w : World) : GV w "type_error" (.ref 186) := gvG (by kernel_rfl)
theorem gv_representation_error (w : World) : GV w "representation_error" (.ref 193) := gvG (by kernel_rfl)
theorem gv_instantiation_error (w : World) : GV w "instantiation_error" (.ref 179) := gvG (by kernel_rfl)
theorem kf418 {w : World} : KeepOk w (.ref 418) := keep_ref (by kernel_rfl)
theorem kf186 {w : World} : KeepOk w (.ref 186) := keep_ref (by kernel_rfl)
theorem kf193 {w : World} : KeepOk w (.ref 193) := keep_ref (by kernel_rfl)
theorem kf179 {w : World} : KeepOk w (.ref 179) := keep_ref (by kernel_rfl)
section
variable {a : WA} {H : AH} {ts : List Str} {fn : List (List Int)} {cs : List (Int × Int)} {tm : Tm} {ct : CT}
theorem raise_type {lv : Nat} {c : Cx} {m : Loc} {rest : List Stmt} {Q : Fl → Loc → AH → Prop} {P : V → AH → Prop} {kind : Str} {kk : Nat} {p1 p2 p3 p4 p5 p6 p7 p8 p9 p10 : Pos} (hc : CxOk lv c) (hlv : 6 ≤ lv) (hf : FrOk c) (S : Stb P)
    (hm : m "m" = some (.ref a.ar)) (hcl : m "cell" = some (cv ct.cell)) (k1 : c.env.kindOf "m" = some .local) (k2 : c.env.kindOf "cell" = some .local) (k3 : c.env.kindOf "type_error" = some .globalImplicit)
    (K : WOk a) (W : Wd a H ts fn cs) (hl : cs.length ≤ 2000) (r : Rp cs ct) (hnd : ct.blocks.Nodup) (hsz : ct.size ≤ 250) (hts : ts.length ≤ 700) (hfn : fn.length ≤ 700) {ds : List V} (hd : (ct.take []).1 = .tup ds)
    (p : ∀ H', Off a.b.all H H' → Wd a H' (ballT ts "type_error" [.s kind, .t ds]) (ballF ts fn "type_error" [.s kind, .t ds]) cs → P (ballV ts fn "type_error" [.s kind, .t ds]) H') {pl : Sem Bool}
    (he : eval (.Call (.Attribute (.Name "m" p5) "take" p6) [.Name "cell" p7] [] p8) c.env = (do
      let ov ← eval (.Name "m" p5) c.env
      standAt p6.atName
      let (f, first) ← holding [ov] (getMethod ov "take" pl)
      callWith p8 f first (backTo p8 (starEach [.Name "cell" p7] c.env)) []) := by rfl) :
    Exs c (FE c P) (.Raise (some (.Call (.Name "type_error" p1) [.Attribute (.Name "m" p2) "symbols" p3, .Constant (.str kind) kk p4, .Call (.Attribute (.Name "m" p5) "take" p6) [.Name "cell" p7] [] p8] [] p9)) none p10 :: rest) m H Q := by
  refine Exs.raise hc ?_
  refine Ev.call hc k3 (gv_type_error _) kf186 ?_
  refine Evs.cons (Ev.attr ?_)
  refine Ev.name hc hm k1 ?_
  refine (mk5_5 _ _ _ _ _ rfl W.ar (.of (by kernel_rfl) (by kernel_rfl) (by kernel_rfl)) K.symbols ?_)
  refine Evs.cons (Ev.str ?_)
  refine Evs.cons (Ev.im (pl := pl) ?_ he)
  refine Ev.name hc hm k1 ?_
  refine (mk5_5 _ _ _ _ 496 rfl W.ar (mk_meth (by kernel_rfl) (by kernel_rfl) (by kernel_rfl) (by kernel_rfl) (by kernel_rfl)) K.take ?_)
  refine Evs.cons (Ev.name hc hcl k2 ?_)
  refine Evs.nil ?_
  refine (take_ok K W hl r hnd hsz fun H₁ o₁ => ?_).at hc
  rw [hd]
  refine Evs.nil ?_
  refine (type_error_ok (W.bk.off o₁) (by (first | lia | omega)) (by (first | lia | omega)) fun e d H₂ he B₂ o₂ => ?_).at hc
  have o := (o₁.mono nofun).trans o₂
  exact (mk3_3 e (some d) _ rfl he (fun s' R => FE.of hc hf S R.toRelH ⟨e, d, none, _, rfl, he, nofun, p H₂ o (W.book o B₂)⟩))
theorem raise_repr {lv : Nat} {c : Cx} {m : Loc} {rest : List Stmt} {Q : Fl → Loc → AH → Prop} {P : V → AH → Prop} {what : Str} {kk : Nat} {p1 p2 p3 p4 p9 p10 : Pos} (hc : CxOk lv c) (hlv : 6 ≤ lv) (hf : FrOk c) (S : Stb P)
    (hm : m "m" = some (.ref a.ar)) (k1 : c.env.kindOf "m" = some .local) (k3 : c.env.kindOf "representation_error" = some .globalImplicit)
    (K : WOk a) (W : Wd a H ts fn cs) (hts : ts.length ≤ 700) (hfn : fn.length ≤ 700)
    (p : ∀ H', Off a.b.all H H' → Wd a H' (ballT ts "representation_error" [.s what]) (ballF ts fn "representation_error" [.s what]) cs → P (ballV ts fn "representation_error" [.s what]) H') :
    Exs c (FE c P) (.Raise (some (.Call (.Name "representation_error" p1) [.Attribute (.Name "m" p2) "symbols" p3, .Constant (.str what) kk p4] [] p9)) none p10 :: rest) m H Q := by
  refine Exs.raise hc ?_
  refine Ev.call hc k3 (gv_representation_error _) kf193 ?_
  refine Evs.cons (Ev.attr ?_)
  refine Ev.name hc hm k1 ?_
  refine (mk5_5 _ _ _ _ _ rfl W.ar (.of (by kernel_rfl) (by kernel_rfl) (by kernel_rfl)) K.symbols ?_)
  refine Evs.cons (Ev.str ?_)
  refine Evs.nil ?_
  refine (representation_error_ok W.bk (by (first | lia | omega)) (by (first | lia | omega)) fun e d H₂ he B₂ o₂ => ?_).at hc
  exact (mk3_3 e (some d) _ rfl he (fun s' R => FE.of hc hf S R.toRelH ⟨e, d, none, _, rfl, he, nofun, p H₂ o₂ (W.book o₂ B₂)⟩))
section
variable {lv : Nat} {w : World} {f : Addr} {name qual : Str} {st : Stmt} {dV md : Value} {cd : Addr} {Q P : V → AH → Prop}
theorem FnX.p3 {a b d : V} (p q r : Str) (F : FnOk w f name qual st dV md cd) (hb : ∀ a b c, bindArgs (fnData name qual st dV md (.ref cd)) ⟨[a, b, c], []⟩ = pure [(p, a), (q, b), (r, c)])
    (hloc : ∀ y ∈ [p, q, r], (fnScope st).names.lookup y = some .local) (hcell : ∀ x ∈ (fnScope st).names, x.2 ≠ .cell) (hnd : [p, q, r].Nodup)
    (body : ∀ c, c.w = w → CxOk lv c → FrOk c → c.env.scope = fnScope st → c.env.cells = [] → Exs c (FE c P) (fnBody st) (((Loc.nil.set r d).set q b).set p a) H (RetQ Q)) : FnX (lv + 1) w (.ref f) [a, b, d] H Q P :=
  FnX.plain [p, q, r] F (bind3 hb) rfl hloc hcell hnd body
theorem FnX.p4 {a b d e : V} (p q r t : Str) (F : FnOk w f name qual st dV md cd) (hb : ∀ a b c d, bindArgs (fnData name qual st dV md (.ref cd)) ⟨[a, b, c, d], []⟩ = pure [(p, a), (q, b), (r, c), (t, d)])
    (hloc : ∀ y ∈ [p, q, r, t], (fnScope st).names.lookup y = some .local) (hcell : ∀ x ∈ (fnScope st).names, x.2 ≠ .cell) (hnd : [p, q, r, t].Nodup)
    (body : ∀ c, c.w = w → CxOk lv c → FrOk c → c.env.scope = fnScope st → c.env.cells = [] → Exs c (FE c P) (fnBody st) ((((Loc.nil.set t e).set r d).set q b).set p a) H (RetQ Q)) : FnX (lv + 1) w (.ref f) [a, b, d, e] H Q P :=
  FnX.plain [p, q, r, t] F (bind4 hb) rfl hloc hcell hnd body
end
theorem element_ok {w : World} (K : WOk a) (W : Wd a H ts fn cs) (hl : cs.length ≤ 2000) (sh : Sh tm ct) (hv : tm.vars = []) (hk : tm.known ts) (st : Short ts) (r : Rp cs ct) (hnd : ct.blocks.Nodup) (hsz : ct.size ≤ 250) (hts : ts.length ≤ 700) (hfn : fn.length ≤ 700) {codes : Bool} {Q P : V → AH → Prop} (S : Stb P)
    (q : ∀ x, signT ts codes tm = some x → Q (.str x) H)
    (p : ∀ H', signT ts codes tm = none → Off a.b.all H H' → Wd a H' (ballT ts (faultT codes tm).1 (faultT codes tm).2) (ballF ts fn (faultT codes tm).1 (faultT codes tm).2) cs → P (ballV ts fn (faultT codes tm).1 (faultT codes tm).2) H') : FnX 7 w (.ref 432) [.ref a.ar, cv ct.cell, .bool codes] H Q P := by
  have hd : (ct.take []).1 = .tup (untup tm.val) := by rw [(sh.closed hv []).1, Tm.val_tup]
  refine FnX.p3 "m" "cell" "as_codes" ok432 (by intro a b c; kernel_rfl) (by decide +kernel) (by decide +kernel) (by decide +kernel) ?_
  intro c hw hc hf hs hcl
  conv =>
    arg 3
    whnf
  conv at hs =>
    rhs
    whnf
  subst hw
  cases codes with
  | true =>
    refine Exs.if_ ?_
    refine Tr.ev ?_
    isplit
    refine (mk1_2 true rfl ?_)
    rw [if_pos rfl]
    refine Exs.if_ ?_
    isplit
    refine Ev.subT ?_
    repeat isplit
    refine (mk1_2 _ rfl (Op2.item_tup (k := 0) rfl (tag_ ct.cell) (by simp) ?_))
    repeat isplit
    refine Op2.int_ne ⟨_, rfl, ?_⟩
    by_cases h5 : ct.cell.1 = 5
    · cases sh with
      | nu i =>
        rw [if_neg (by simp [CT.cell])]
        isplit
        isplit
        refine Exs.if_ ?_
        isplit
        isplit
        isplit
        refine Ev.subT ?_
        repeat isplit
        refine (mk1_2 _ rfl (Op2.item_tup (k := 1) rfl (val_ (CT.nu i).cell) (by simp) ?_))
        repeat isplit
        refine Op2.int_lt ⟨_, rfl, ?_⟩
        have bad : ¬ (0 ≤ i ∧ i ≤ 1114111) → signT ts true (.nu i) = none := fun h => by
          simp only [signT, Bool.true_and, Bool.and_eq_true, decide_eq_true_eq]
          rw [if_neg h]
        by_cases hneg : i < 0
        · rw [if_pos (decide_eq_true (p := (CT.nu i).cell.2 < 0) hneg), if_pos rfl]
          exact raise_repr hc (by (first | lia | omega)) hf S (by one_item) (by nest_cls) (by nest_cls) K W hts hfn fun H' o W' => p H' (bad (by (first | lia | omega))) o W'
        · rw [if_neg (ne_true_of_eq_false (decide_eq_false (p := (CT.nu i).cell.2 < 0) hneg))]
          isplit
          isplit
          refine Ev.subT ?_
          repeat isplit
          refine (mk1_2 _ rfl (Op2.item_tup (k := 1) rfl (val_ (CT.nu i).cell) (by simp) ?_))
          repeat isplit
          refine Op2.int_gt ⟨_, rfl, ?_⟩
          by_cases hbig : 1114111 < i
          · rw [if_pos (decide_eq_true (p := 1114111 < (CT.nu i).cell.2) hbig), if_pos rfl]
            exact raise_repr hc (by (first | lia | omega)) hf S (by one_item) (by nest_cls) (by nest_cls) K W hts hfn fun H' o W' => p H' (bad (by (first | lia | omega))) o W'
          · rw [if_neg (ne_true_of_eq_false (decide_eq_false (p := 1114111 < (CT.nu i).cell.2) hbig))]
            isplit
            rw [if_neg Bool.false_ne_true]
            isplit
            isplit
            isplit
            refine Ev.chr hc (by nest_cls) ?_
            refine Ev.subT ?_
            repeat isplit
            refine (mk1_2 _ rfl (Op2.item_tup (k := 1) rfl (val_ (CT.nu i).cell) (by simp) ?_))
            refine (mk1_4 i rfl (by (first | lia | omega)) (by (first | lia | omega)) (q _ ?_))
            simp only [signT, Bool.true_and, Bool.and_eq_true, decide_eq_true_eq]
            rw [if_pos ⟨by (first | lia | omega), by (first | lia | omega)⟩]
      | _ => simp [CT.cell] at h5
    · rw [if_pos (by simpa using h5)]
      refine raise_type hc (by (first | lia | omega)) hf S (by one_item) (by one_item) (by nest_cls) (by nest_cls) (by nest_cls) K W hl r hnd hsz hts hfn hd ?_
      have hs : signT ts true tm = none ∧ faultT true tm = (("type_error" : Str), [Pt.s "integer", Pt.t (untup tm.val)]) := by
        cases sh with
        | nu i => simp [CT.cell] at h5
        | _ => exact ⟨rfl, rfl⟩
      rw [hs.2] at p
      exact fun H' o W' => p H' hs.1 o W'
  | false =>
    refine Exs.if_ ?_
    refine Tr.ev ?_
    isplit
    refine (mk1_2 false rfl ?_)
    rw [if_neg Bool.false_ne_true]
    isplit
    isplit
    refine Exs.if_ ?_
    isplit
    isplit
    isplit
    refine Ev.subT ?_
    repeat isplit
    refine (mk1_2 _ rfl (Op2.item_tup (k := 0) rfl (tag_ ct.cell) (by simp) ?_))
    repeat isplit
    refine Op2.int_ne ⟨_, rfl, ?_⟩
    have bad : signT ts false tm = none → faultT false tm = (("type_error" : Str), [Pt.s "character", Pt.t (untup tm.val)]) := fun _ => by
      cases tm <;> rfl
    by_cases h4 : ct.cell.1 = 4
    · cases sh with
      | sy n =>
        refine el1_2 hk fun mm z1 hmm => ?_; try clear hk; subst z1
        have hx : ts[mm]? = some ts[mm] := List.getElem?_eq_getElem hmm
        have hsx : ts[mm].length ≤ 100 := st _ (List.getElem_mem hmm)
        rw [if_neg (by simp [CT.cell])]
        isplit
        isplit
        refine Ev.lenS hc (by nest_cls) ?_
        refine Ev.call hc (by nest_cls) (gv_text_of _) kf418 ?_
        repeat isplit
        refine (text_of_ok K W (by (first | lia | omega)) hx ?_).at hc
        refine (mk1_3 _ rfl (by (first | lia | omega)) ?_)
        repeat isplit
        refine Op2.int_ne ⟨_, rfl, ?_⟩
        by_cases h1 : ts[mm].length = 1
        · rw [if_neg (by simp [h1])]
          isplit
          rw [if_neg Bool.false_ne_true]
          repeat isplit
          refine Ev.call hc (by nest_cls) (gv_text_of _) kf418 ?_
          repeat isplit
          refine (text_of_ok K W (by (first | lia | omega)) hx ?_).at hc
          exact q _ (by simp [signT, hx, h1])
        · rw [if_pos (by simp; (first | lia | omega)), if_pos rfl]
          have hsn : signT ts false (.sy mm) = none := by simp [signT, hx, h1]
          refine raise_type hc (by (first | lia | omega)) hf S (by one_item) (by one_item) (by nest_cls) (by nest_cls) (by nest_cls) K W hl r hnd hsz hts hfn hd ?_
          rw [bad hsn] at p
          exact fun H' o W' => p H' hsn o W'
      | _ => simp [CT.cell] at h4
    · rw [if_pos (by simpa using h4), if_pos rfl]
      have hsn : signT ts false tm = none := by
        cases sh with
        | sy n => simp [CT.cell] at h4
        | _ => rfl
      refine raise_type hc (by (first | lia | omega)) hf S (by one_item) (by one_item) (by nest_cls) (by nest_cls) (by nest_cls) K W hl r hnd hsz hts hfn hd ?_
      rw [bad hsn] at p
      exact fun H' o W' => p H' hsn o W'
end
section
variable {lv : Nat} {c : Cx} {E : ER} {m : Loc} {H : AH} {Q : V → AH → Prop} {b : Bool}
theorem Op1.not_bool (q : Q (.bool (!b)) H) : Op1 c E (unaryOp .Not) (.bool b) m H Q := fun va s ra R => by
  cases ra
  exact not_of (wpAny_truthy_bool (R.here (tk := s.toks) q (.bool ..)))
end
noncomputable def Tm.free : Tm → Bool
  | .vr _ => true
  | _ => false
noncomputable def chars (ts : List Str) (codes : Bool) : List Tm → Except Tm (List Str)
  | [] => .ok []
  | t :: r => if t.free then chars ts codes r else match signT ts codes t with
    | none => .error t
    | some x => match chars ts codes r with
      | .ok xs => .ok (x :: xs)
      | .error f => .error f
theorem chars_cons (ts : List Str) (codes : Bool) (t : Tm) (r : List Tm) : chars ts codes (t :: r) = if t.free then chars ts codes r else match signT ts codes t with
    | none => .error t
    | some x => match chars ts codes r with
      | .ok xs => .ok (x :: xs)
      | .error f => .error f := rfl
theorem chars_append {ts : List Str} {codes : Bool} {l r : List Tm} {xs : List Str} (h : chars ts codes l = .ok xs) : chars ts codes (l ++ r) = match chars ts codes r with
    | .ok ys => .ok (xs ++ ys)
    | .error f => .error f := by
  induction l generalizing xs with
  | nil => simp only [chars, Except.ok.injEq] at h; subst h; simp only [List.nil_append]; cases chars ts codes r <;> rfl
  | cons t l ih =>
    rw [List.cons_append]
    rw [chars_cons] at h ⊢
    by_cases hf : t.free = true
    · rw [if_pos hf] at h ⊢; exact ih h
    · rw [if_neg hf] at h ⊢
      cases hs : signT ts codes t with
      | none => rw [hs] at h; cases h
      | some x =>
        rw [hs] at h
        dsimp only at h ⊢
        cases hc : chars ts codes l with
        | error f => rw [hc] at h; cases h
        | ok ys =>
          rw [hc] at h
          dsimp only at h
          cases h
          rw [ih hc]
          cases chars ts codes r <;> rfl
theorem chars_snoc_free {ts : List Str} {codes : Bool} {l : List Tm} {t : Tm} {xs : List Str} (h : chars ts codes l = .ok xs) (hf : t.free = true) : chars ts codes (l ++ [t]) = .ok xs := by
  rw [chars_append h]; simp [chars, hf]
theorem chars_snoc {ts : List Str} {codes : Bool} {l : List Tm} {t : Tm} {xs : List Str} {x : Str} (h : chars ts codes l = .ok xs) (hf : t.free = false) (hs : signT ts codes t = some x) : chars ts codes (l ++ [t]) = .ok (xs ++ [x]) := by
  rw [chars_append h]; simp [chars, hf, hs]
theorem chars_wrong {ts : List Str} {codes : Bool} {l r : List Tm} {t : Tm} {xs : List Str} (h : chars ts codes l = .ok xs) (hf : t.free = false) (hs : signT ts codes t = none) : chars ts codes (l ++ t :: r) = .error t := by
  rw [chars_append h]; simp [chars, hf, hs]
theorem signT_one {ts : List Str} {codes : Bool} {t : Tm} {x : Str} (h : signT ts codes t = some x) : x.length = 1 := by
  cases t with
  | nu i =>
    simp only [signT] at h
    split at h
    · cases h; rfl
    · cases h
  | sy n =>
    simp only [signT] at h
    split at h
    · cases h
    · refine el1_2 (Option.bind_eq_some_iff.mp h) fun y hy h => ?_
      split at h
      · cases h; assumption
      · cases h
  | _ => cases h
theorem chars_ones {ts : List Str} {codes : Bool} {l : List Tm} {xs : List Str} (h : chars ts codes l = .ok xs) : (xs.map (·.length)).sum = xs.length ∧ xs.length ≤ l.length := by
  induction l generalizing xs with
  | nil => cases h; exact ⟨rfl, Nat.le_refl _⟩
  | cons t l ih =>
    rw [chars_cons] at h
    split at h
    · refine el0_2 (ih h) fun a b => ?_; exact ⟨a, by simp; (first | lia | omega)⟩
    · split at h
      · cases h
      · rename_i x hs
        split at h
        · rename_i ys hc
          cases h
          refine el0_2 (ih hc) fun a b => ?_
          exact ⟨by simp [a, signT_one hs]; (first | lia | omega), by simp; (first | lia | omega)⟩
        · cases h
noncomputable def cat (xs : List Str) : Str := Txt.join ⟨#[]⟩ xs
theorem cat_eq (xs : List Str) : cat xs = Str.join ⟨#[]⟩ xs := eq_of_beq (join_plain_closes _ _)
theorem cat_cons (x : Str) (xs : List Str) : cat (x :: xs) = x ++ cat xs := by
  rw [cat_eq, cat_eq]; exact join_nil_cons x xs
theorem append_nil_str (x : Str) : x ++ (⟨#[]⟩ : Str) = x := by
  obtain ⟨a⟩ := x
  show (⟨a ++ #[]⟩ : Str) = _
  rw [Array.append_empty]
theorem nil_append_str (x : Str) : (⟨#[]⟩ : Str) ++ x = x := by
  obtain ⟨a⟩ := x
  show (⟨#[] ++ a⟩ : Str) = _
  rw [Array.empty_append]
theorem append_assoc_str (x y z : Str) : x ++ y ++ z = x ++ (y ++ z) := by
  obtain ⟨a⟩ := x; obtain ⟨b⟩ := y; obtain ⟨d⟩ := z
  show (⟨a ++ b ++ d⟩ : Str) = ⟨a ++ (b ++ d)⟩
  rw [Array.append_assoc]
theorem cat_snoc (xs : List Str) (x : Str) : cat (xs ++ [x]) = cat xs ++ x := by
  induction xs with
  | nil => rw [List.nil_append, cat_cons]; show x ++ (⟨#[]⟩ : Str) = (⟨#[]⟩ : Str) ++ x; rw [append_nil_str, nil_append_str]
  | cons y r ih => rw [List.cons_append, cat_cons, cat_cons, ih, append_assoc_str]
inductive Out where
  | val (v : V)
  | err (name : Str) (l : List Pt)
noncomputable def Tm.isNil : Tm → Bool
  | .sy n => n == 0
  | _ => false
noncomputable def lackT (L : List Tm) (e : Tm) : Bool := e.free || L.any Tm.free
noncomputable def out (ts : List Str) (L : List Tm) (e : Tm) (whole : V) (codes known : Bool) : Out :=
  if !e.free && !e.isNil then .err "type_error" [.s "list", .t (untup whole)]
  else if lackT L e && !known then .err "instantiation_error" []
  else match chars ts codes L with
    | .error t => .err (faultT codes t).1 (faultT codes t).2
    | .ok xs => .val (if lackT L e then .none else .str (cat xs))

structure Itm (cs : List (Int × Int)) (ts : List Str) (p : Tm × CT) : Prop where
  sh : Sh p.1 p.2
  fr : p.1.free = false → p.1.vars = []
  kn : p.1.known ts
  rp : Rp cs p.2
  nd : p.2.blocks.Nodup
  sz : p.2.size ≤ 250
theorem Sh.free {t : Tm} {x : CT} (h : Sh t x) : (x.cell.1 == 0 || x.cell.1 == 1) = t.free := by cases h <;> rfl
theorem gv_is_free (w : World) : GV w "is_free" (.ref 411) := gvG (by kernel_rfl)
theorem gv_element_text (w : World) : GV w "element_text" (.ref 432) := gvG (by kernel_rfl)
theorem kf411 {w : World} : KeepOk w (.ref 411) := keep_ref (by kernel_rfl)
theorem kf432 {w : World} : KeepOk w (.ref 432) := keep_ref (by kernel_rfl)
section
variable {lv : Nat} {c : Cx} {E : ER} {m : Loc} {H : AH}
theorem Tr.mono {t : Expr} {Q Q' : Bool → AH → Prop} (h : Tr c E t m H Q) (k : ∀ b H', Q b H' → Q' b H') : Tr c E t m H Q' := fun s R =>
  wpAny_mono (h s R) (fun _ _ z1 => el1_2 z1 fun H' q r => (mk1_2 H' (k _ _ q) r)) fun _ _ x => x
end
theorem tag_nil {t : Tm} {x : CT} (h : Sh t x) (hf : t.free = false) : (cv x.cell = cv (4, 0)) ↔ t.isNil = true := by
  cases h with
  | vr n a => cases hf
  | sy n => simp [cv, CT.cell, Tm.isNil]
  | nu n => simp [cv, CT.cell, Tm.isNil]
  | co _ _ => simp [cv, CT.cell, Tm.isNil]
section
variable {a : WA} {H : AH} {ts : List Str} {fn : List (List Int)} {cs : List (Int × Int)} {ct : CT}
theorem spelled_ok {w : World} (K : WOk a) (W : Wd a H ts fn cs) (hl : cs.length ≤ 2000) (st : Short ts) (hts : ts.length ≤ 700) (hfn : fn.length ≤ 700)
    {L : List (Tm × CT)} {e : Tm × CT} {as : List Nat} (hL : ∀ p ∈ L, Itm cs ts p) (he : Sh e.1 e.2) (hnl : L.length ≤ 100) (la : LA cs ct.cell (L.map fun p => p.2.cell) e.2.cell as) (hgd : Good cs ct.cell) (hand : as.Nodup)
    (r : Rp cs ct) (hnd : ct.blocks.Nodup) (hsz : ct.size ≤ 250) {ds : List V} (hd : (ct.take []).1 = .tup ds) {codes known : Bool} {Q P : V → AH → Prop} (S : Stb P)
    (q : ∀ v H', out ts (L.map (·.1)) e.1 (.tup ds) codes known = .val v → Off [] H H' → Q v H')
    (p : ∀ n l H', out ts (L.map (·.1)) e.1 (.tup ds) codes known = .err n l → Off a.b.all H H' → Wd a H' (ballT ts n l) (ballF ts fn n l) cs → P (ballV ts fn n l) H') : FnX 8 w (.ref 439) [.ref a.ar, cv ct.cell, .bool codes, .bool known] H Q P := by
  refine FnX.p4 "m" "cell" "as_codes" "known" ok439 (by intro a b c d; kernel_rfl) (by decide +kernel) (by decide +kernel) (by decide +kernel) ?_
  intro c hw hc hf hs hcl
  conv =>
    arg 3
    whnf
  conv at hs =>
    rhs
    whnf
  subst hw
  isplit
  refine Ev.im ?_
  refine Ev.attr ?_
  isplit
  refine (mk5_5 _ _ _ _ _ rfl W.ar (.of (by kernel_rfl) (by kernel_rfl) (by kernel_rfl)) K.store ?_)
  refine (mk5_5 _ _ _ _ 378 rfl W.st.inst (mk_meth (by kernel_rfl) (by kernel_rfl) (by kernel_rfl) (by kernel_rfl) (by kernel_rfl)) (by rfl) ?_)
  repeat isplit
  refine (list_cells_ok W.st hl la hgd hand (by simp; (first | lia | omega)) fun fa H₁ hfa hfa1 o₁ => ?_).at hc
  have W₁ := W.same o₁
  refine (mk2_2 _ _ rfl ?_)
  refine Exs.if_ (Tr.mono (Q := fun b H' => b = (!e.1.free && !e.1.isNil) ∧ H' = H₁) ?_ ?_)
  · isplit
    isplit
    isplit
    refine Tr.ev (Ev.call hc (by nest_cls) (gv_is_free _) kf411 ?_)
    repeat isplit
    refine (is_free_ok ⟨_, rfl, ?_⟩).at hc
    rw [he.free]
    cases hfree : e.1.free with
    | true => exact ⟨rfl, rfl⟩
    | false =>
      rw [if_pos (show (!false) = true from rfl)]
      isplit
      isplit
      repeat (first | isplit | refine And.intro ?_ (by simp; done))
      refine Op2.ne hc (cv_ok _) (cv_ok (4, 0)) (by (first | lia | omega)) (by (first | lia | omega)) fun t ht => (mk1_2 t rfl ?_)
      have h1 := tag_nil he hfree
      have ht' : t = !e.1.isNil := by
        rw [Bool.eq_iff_iff, ht]
        simp only [Bool.not_eq_true', ne_eq]
        rw [← Bool.not_eq_true]
        exact not_congr h1
      subst ht'
      split
      · isplit
        rename_i h; exact ⟨by simp [h], rfl⟩
      · rename_i h; exact ⟨by simpa using h, rfl⟩
  rintro b H' ⟨hb, rfl⟩
  cases b with
  | true =>
    rw [if_pos rfl]
    refine raise_type hc (by (first | lia | omega)) hf S (by one_item) (by one_item) (by nest_cls) (by nest_cls) (by nest_cls) K W₁ hl r hnd hsz hts hfn hd ?_
    have ho : out ts (L.map (·.1)) e.1 (.tup ds) codes known = .err "type_error" [.s "list", .t ds] := by
      unfold out; rw [← hb, if_pos rfl]; rfl
    exact fun H' o W' => p _ _ H' ho ((o₁.mono nofun).trans o) W'
  | false =>
    rw [if_neg Bool.false_ne_true]
    repeat isplit
    refine Ev.call hc (by nest_cls) (gv_is_free _) kf411 ?_
    repeat isplit
    refine (is_free_ok ?_).at hc
    rw [he.free]
    refine Op1.not_bool ?_
    refine Exs.cons (Ex.forL hc FE.passes (by nest_cls) ?_)
    repeat isplit
    refine (mk2_3 _ _ rfl hfa1 ?_)
    refine For.inv (fun i m H₂ => H₂ = H' ∧ m "m" = some (.ref a.ar) ∧ m "as_codes" = some (.bool codes) ∧ m "known" = some (.bool known) ∧ m "items" = some (.ref fa) ∧ m "complete" = some (.bool (!(e.1.free || (L.take i).any fun p => p.1.free)))) _
      ⟨rfl, by one_item, by one_item, by one_item, by one_item, by rw [List.take_zero, List.any_nil, Bool.or_false]; one_item⟩ ?_ ?_
    · rintro i d m H₂ hd ⟨rfl, h1, h2, h3, h4, h5⟩
      rw [List.getElem?_map, List.getElem?_map, Option.map_map, Option.map_eq_some_iff] at hd
      refine el1_2 hd fun pp hpp z2 => ?_; try clear hd; subst z2
      have et : L.take (i + 1) = L.take i ++ [pp] := by rw [List.take_add_one, hpp]; rfl
      have hI := hL pp (List.mem_of_getElem? hpp)
      refine ⟨hfa1, ?_⟩
      refine Exs.if_ ?_
      refine Tr.ev (Ev.call hc (by nest_cls) (gv_is_free _) kf411 ?_)
      repeat isplit
      refine (is_free_ok ⟨_, rfl, ?_⟩).at hc
      rw [hI.sh.free]
      cases hfr : pp.1.free with
      | true =>
        rw [if_pos rfl]
        repeat isplit
        refine (mk0_6 rfl (by one_item) (by one_item) (by one_item) (by one_item) ?_)
        rw [et, List.any_append]
        simp only [List.any_cons, hfr, List.any_nil, Bool.true_or, Bool.or_true, Bool.not_true]
        one_item
      | false =>
        rw [if_neg Bool.false_ne_true]
        repeat isplit
        refine (mk0_6 rfl (by one_item) (by one_item) (by one_item) (by one_item) ?_)
        rw [et, List.any_append]
        simp only [List.any_cons, hfr, List.any_nil, Bool.or_false]
        one_item
    · rintro m H₂ ⟨rfl, h1, h2, h3, h4, h5⟩
      rw [List.length_map, List.length_map, List.take_length] at h5
      have hlk : (e.1.free || L.any fun p => p.1.free) = lackT (L.map (·.1)) e.1 := by unfold lackT; rw [List.any_map]; rfl
      rw [hlk] at h5
      refine ⟨hfa1, ?_⟩
      isplit
      refine Exs.if_ (Tr.mono (Q := fun b H' => b = (lackT (L.map (·.1)) e.1 && !known) ∧ H' = H₂) ?_ ?_)
      · isplit
        isplit
        isplit
        isplit
        isplit
        refine (mk1_2 _ rfl ?_)
        cases lackT (L.map (·.1)) e.1 with
        | false => exact ⟨rfl, rfl⟩
        | true =>
          rw [if_pos (show (!(!true)) = true from rfl)]
          isplit
          isplit
          isplit
          isplit
          refine (mk1_2 _ rfl ?_)
          cases known with
          | true => exact ⟨rfl, rfl⟩
          | false =>
            rw [if_pos (show (!false) = true from rfl)]
            isplit
            exact ⟨rfl, rfl⟩
      rintro b H' ⟨hb2, rfl⟩
      cases b with
      | true =>
        rw [if_pos rfl]
        have ho : out ts (L.map (·.1)) e.1 (.tup ds) codes known = .err "instantiation_error" [] := by
          unfold out; rw [← hb, if_neg Bool.false_ne_true, ← hb2, if_pos rfl]
        refine Exs.raise hc ?_
        refine Ev.call hc (by nest_cls) (gv_instantiation_error _) kf179 ?_
        isplit
        refine Ev.attr ?_
        isplit
        refine (mk5_5 _ _ _ _ _ rfl W₁.ar (.of (by kernel_rfl) (by kernel_rfl) (by kernel_rfl)) K.symbols ?_)
        repeat isplit
        refine (instantiation_error_ok W₁.bk (by (first | lia | omega)) fun x d H₂ hx B₂ o₂ => ?_).at hc
        exact (mk3_3 x (some d) _ rfl hx (fun s' R => FE.of hc hf S R.toRelH ⟨x, d, none, _, rfl, hx, nofun, p _ _ H₂ ho ((o₁.mono nofun).trans o₂) (W₁.book o₂ B₂)⟩))
      | false =>
        rw [if_neg Bool.false_ne_true]
        have ho : out ts (L.map (·.1)) e.1 (.tup ds) codes known = match chars ts codes (L.map (·.1)) with
            | .error t => .err (faultT codes t).1 (faultT codes t).2
            | .ok xs => .val (if lackT (L.map (·.1)) e.1 then .none else .str (cat xs)) := by
          unfold out; rw [← hb, if_neg Bool.false_ne_true, ← hb2, if_neg Bool.false_ne_true]
          all_goals (cases chars ts codes (L.map (·.1)) <;> rfl)
        repeat isplit
        refine ⟨fun ch hch => ?_, by simp⟩
        have hfc : fa ≠ ch := fun z => by first | exact clash hfa1 hch z | exact clash hch hfa1 z.symm
        refine Exs.cons (Ex.forL hc FE.passes (by nest_cls) ?_)
        repeat isplit
        refine (mk2_3 _ _ rfl (AH.other hfc hfa1) ?_)
        refine For.inv (fun i m H₂ => ∃ xs, chars ts codes ((L.take i).map (·.1)) = .ok xs ∧ m "m" = some (.ref a.ar) ∧ m "as_codes" = some (.bool codes) ∧ m "complete" = some (.bool (!lackT (L.map (·.1)) e.1)) ∧ m "chars" = some (.ref ch) ∧
          H₂ ch = some (.list (xs.map .str)) ∧ H₂ fa = some (.list ((L.map fun p => p.2.cell).map cv)) ∧ Off [] H' H₂) _
          ⟨[], rfl, by one_item, by one_item, by one_item, by one_item, AH.set_self .., AH.other hfc hfa1, .new hch⟩ ?_ ?_
        · rintro i d m H₂ hd ⟨xs, g0, g1, g2, g3, g4, g5, g6, o₂⟩
          rw [List.getElem?_map, List.getElem?_map, Option.map_map, Option.map_eq_some_iff] at hd
          refine el1_2 hd fun pp hpp z3 => ?_; try clear hd; subst z3
          have hi : i < L.length := (List.getElem?_eq_some_iff.mp hpp).1
          have et : L.take (i + 1) = L.take i ++ [pp] := by rw [List.take_add_one, hpp]; rfl
          have hI := hL pp (List.mem_of_getElem? hpp)
          have W₂ := W₁.same o₂
          have hxl := (chars_ones g0).2
          simp only [List.length_map, List.length_take] at hxl
          refine ⟨g6, ?_⟩
          refine Exs.if_ ?_
          refine Tr.not ?_
          refine Tr.ev (Ev.call hc (by nest_cls) (gv_is_free _) kf411 ?_)
          repeat isplit
          refine (is_free_ok ⟨_, rfl, ?_⟩).at hc
          rw [hI.sh.free]
          cases hfr : pp.1.free with
          | true =>
            rw [if_neg (show ¬ ((!true) = true) from Bool.false_ne_true)]
            repeat isplit
            exact (mk1_8 xs (by rw [et, List.map_append]; exact chars_snoc_free g0 hfr) (by one_item) (by one_item) (by one_item) (by one_item) g5 g6 o₂)
          | false =>
            rw [if_pos (show (!false) = true from rfl)]
            isplit
            refine Ev.append ?_
            repeat isplit
            refine (mk2_3 _ _ rfl g5 ?_)
            refine Ev.call hc (by nest_cls) (gv_element_text _) kf432 ?_
            repeat isplit
            refine (element_ok K W₂ hl hI.sh (hI.fr hfr) hI.kn st hI.rp hI.nd hI.sz hts hfn S (fun x hx => ?_) fun H₃ hn o₃ W₃ => ?_).at hc hf S fun _ _ z => z
            · refine (mk1_5 _ g5 (by simp; (first | lia | omega)) nofun nofun ?_)
              repeat isplit
              refine (mk1_8 (xs ++ [x]) (by rw [et, List.map_append]; exact chars_snoc g0 hfr hx) (by one_item) (by one_item) (by one_item) (by one_item) ?_ (AH.other hfc g6) (fun b ob e n => AH.other (fun z => by first | exact clash e hch z | exact clash hch e z.symm) (o₂ b ob e n)))
              rw [AH.set_self]; simp
            · have hw : chars ts codes (L.map (·.1)) = .error pp.1 := by
                have : L.map (·.1) = (L.take i).map (·.1) ++ pp.1 :: (L.drop (i + 1)).map (·.1) := by
                  rw [← List.map_cons, ← List.map_append]
                  congr 1
                  have h2 := List.getElem?_eq_some_iff.mp hpp
                  obtain ⟨h3, h4⟩ := h2
                  rw [← h4, List.getElem_cons_drop, List.take_append_drop]
                rw [this]; exact chars_wrong g0 hfr hn
              rw [hw] at ho
              exact p _ _ H₃ ho (((o₁.trans o₂).mono nofun).trans o₃) W₃
        · rintro m H₂ ⟨xs, g0, g1, g2, g3, g4, g5, g6, o₂⟩
          rw [List.length_map, List.length_map, List.take_length] at g0
          rw [g0] at ho
          have hxl := chars_ones g0
          refine ⟨g6, ?_⟩
          isplit
          refine Exs.if_ ?_
          refine Tr.ev ?_
          isplit
          refine (mk1_2 _ rfl ?_)
          cases hlk2 : lackT (L.map (·.1)) e.1 with
          | true =>
            rw [hlk2] at ho
            rw [if_neg (show ¬ ((!true) = true) from Bool.false_ne_true)]
            repeat isplit
            exact q _ _ ho (o₁.trans o₂)
          | false =>
            rw [hlk2] at ho
            rw [if_pos (show (!false) = true from rfl)]
            isplit
            refine Ev.join ?_
            repeat isplit
            refine (mk1_2 _ rfl ?_)
            isplit
            refine (mk2_4 _ xs rfl g5 ?_ (q _ _ ho (o₁.trans o₂)))
            have h2 := hxl.2
            simp only [List.length_map] at h2
            rw [hxl.1]
            show xs.length + xs.length * 0 ≤ _
            (first | lia | omega)
end
noncomputable def OffC (l : List Addr) (H H' : AH) : Prop := ∀ b o, H b = some o → o.calm = true → b ∉ l → H' b = some o
theorem Off.toC {l : List Addr} {H H' : AH} (x : Off l H H') : OffC l H H' := fun b o e _ n => x b o e n
theorem OffC.refl (l : List Addr) (H : AH) : OffC l H H := fun _ _ e _ _ => e
theorem OffC.trans {l : List Addr} {H H' H'' : AH} (x : OffC l H H') (y : OffC l H' H'') : OffC l H H'' := fun a o e q n => y a o (x a o e q n) q n
theorem OffC.mono {l l' : List Addr} {H H' : AH} (x : OffC l H H') (h : ∀ a ∈ l, a ∈ l') : OffC l' H H' := fun a o e q n => x a o e q fun z => n (h a z)
theorem OffC.ext {l : List Addr} {H H' H'' : AH} (x : OffC l H H') (y : ExtC H' H'') : OffC l H H'' := fun a o e q n => y a o (x a o e q n) q
section
variable {a : WA} {H H' : AH} {ts : List Str} {fn : List (List Int)} {cs : List (Int × Int)}
theorem Wd.agree (W : Wd a H ts fn cs) (h : ∀ b o, b ∈ a.all → H b = some o → o.calm = true → H' b = some o) : Wd a H' ts fn cs := by
  have B := W.bk
  exact ⟨⟨h _ _ (WA.bk_all (by simp [BkA.all])) B.inst rfl, h _ _ (WA.bk_all (by simp [BkA.all])) B.d rfl, h _ _ (WA.bk_all (by simp [BkA.all])) B.t rfl, h _ _ (WA.bk_all (by simp [BkA.all])) B.n rfl, h _ _ (WA.bk_all (by simp [BkA.all])) B.f rfl, h _ _ (WA.bk_all (by simp [BkA.all])) B.g rfl, B.tf⟩,
    ⟨h _ _ (WA.st_all (by simp [StA.all])) W.st.inst rfl, h _ _ (WA.st_all (by simp [StA.all])) W.st.d rfl, h _ _ (WA.st_all (by simp [StA.all])) W.st.hp rfl⟩,
    h _ _ (by simp [WA.all]) W.ar rfl, h _ _ (by simp [WA.all]) W.ad rfl, W.ht, W.hf⟩
theorem Wd.ext (W : Wd a H ts fn cs) (h : ExtC H H') : Wd a H' ts fn cs := W.agree fun b o _ e q => h b o e q
theorem Wd.offC (W : Wd a H ts fn cs) {l : List Addr} (h : OffC l H H') (hl : ∀ b ∈ l, b ∉ a.all) : Wd a H' ts fn cs := W.agree fun b o hb e q => h b o e q fun z => hl b z hb
theorem Wd.bookL (W : Wd a H ts fn cs) {ts' : List Str} {fn' : List (List Int)} {l : List Addr} (h : OffC l H H') (hl : ∀ b ∈ l, b ∈ a.all → b ∈ a.b.all) (B : Bk a.b H' ts' fn') : Wd a H' ts' fn' cs := by
  have inall : ∀ {b}, b ∈ a.b.all → b ∈ a.all := WA.bk_all
  let G : AH := fun b => if b ∈ a.all then H' b else H b
  have gin : ∀ {b}, b ∈ a.all → G b = H' b := fun {b} hb => if_pos hb
  have W1 : Wd a G ts' fn' cs := W.book (fun b o e n => by
    by_cases hb : b ∈ a.all
    · rw [gin hb]
      have calm : o.calm = true := by
        have W' := W
        simp only [WA.all, List.mem_append, StA.all, List.mem_cons, List.mem_nil_iff, or_false] at hb
        rcases hb with (hb | rfl | rfl | rfl) | rfl | rfl
        · exact absurd hb n
        · rw [W.st.inst] at e; cases e; rfl
        · rw [W.st.d] at e; cases e; rfl
        · rw [W.st.hp] at e; cases e; rfl
        · rw [W.ar] at e; cases e; rfl
        · rw [W.ad] at e; cases e; rfl
      exact h b o e calm fun z => n (hl b z hb)
    · show (if b ∈ a.all then H' b else H b) = _
      rw [if_neg hb]; exact e) (B.same fun b hb => gin (inall hb))
  exact W1.agree fun b o hb e _ => by rw [gin hb] at e; exact e
noncomputable def Out.v (ts : List Str) (fn : List (List Int)) : Out → V
  | .val v => v
  | .err n l => ballV ts fn n l
noncomputable def Out.t (ts : List Str) : Out → List Str
  | .val _ => ts
  | .err n l => ballT ts n l
noncomputable def Out.f (ts : List Str) (fn : List (List Int)) : Out → List (List Int)
  | .val _ => fn
  | .err n l => ballF ts fn n l
theorem Fn.ofX {lv : Nat} {w : World} {f : Value} {as : List V} {H : AH} {Q : V → AH → Prop} (h : FnX lv w f as H Q fun _ _ => False) : Fn lv w f as H Q := fun c m hw hc vs s r R => codeAny_mono (h c m hw hc vs s r R) fun x s' z => by
  rcases x with e | (v | _ | _ | _) <;> first | exact z.elim | exact z | skip
  refine el1_2 z fun _ z1 _ => ?_; try clear z; obtain ⟨_, _, _, _, _, _, _, p⟩ := z1
  exact p.elim
theorem gv_spelled_text (w : World) : GV w "spelled_text" (.ref 439) := gvG (by kernel_rfl)
theorem kf439 {w : World} : KeepOk w (.ref 439) := keep_ref (by kernel_rfl)
theorem law_read_ok {w : World} (K : WOk a) (W : Wd a H ts fn cs) {ct : CT} (hl : cs.length ≤ 2000) (st : Short ts) (hts : ts.length ≤ 700) (hfn : fn.length ≤ 700)
    {L : List (Tm × CT)} {e : Tm × CT} {as : List Nat} (hL : ∀ p ∈ L, Itm cs ts p) (he : Sh e.1 e.2) (hnl : L.length ≤ 100) (la : LA cs ct.cell (L.map fun p => p.2.cell) e.2.cell as) (hgd : Good cs ct.cell) (hand : as.Nodup)
    (r : Rp cs ct) (hnd : ct.blocks.Nodup) (hsz : ct.size ≤ 250) {ds : List V} (hd : (ct.take []).1 = .tup ds) {codes known : Bool} {Q : V → AH → Prop}
    (q : ∀ H', OffC a.b.all H H' → Wd a H' ((out ts (L.map (·.1)) e.1 (.tup ds) codes known).t ts) ((out ts (L.map (·.1)) e.1 (.tup ds) codes known).f ts fn) cs → Q ((out ts (L.map (·.1)) e.1 (.tup ds) codes known).v ts fn) H') : Fn 9 w (.ref 646) [.ref a.ar, cv ct.cell, .bool codes, .bool known] H Q := by
  refine Fn.ofX (FnX.p4 "areas" "cell" "as_codes" "known" ok646 (by intro a b c d; kernel_rfl) (by decide +kernel) (by decide +kernel) (by decide +kernel) ?_)
  intro c hw hc hf hs hcl
  conv =>
    arg 3
    whnf
  conv at hs =>
    rhs
    whnf
  subst hw
  have S : Stb fun v H' => ∃ n l, out ts (L.map (·.1)) e.1 (.tup ds) codes known = .err n l ∧ v = ballV ts fn n l ∧ OffC a.b.all H H' ∧ Wd a H' (ballT ts n l) (ballF ts fn n l) cs := fun v G G' x z2 => el2_4 z2 fun n l h1 h2 h3 h4 => (mk2_4 n l h1 h2 (h3.ext x) (h4.ext x))
  refine Exs.cons (Ex.try_ hc hf S (by nest_cls) (by nest_cls) (gv_PrologError _) (try_return (EvA.call (lv' := 8) hc (by nest_cls) (gv_spelled_text _) kf439 ?_)) fun A b d T ball H' hb hp => ?_)
  · repeat isplit
    refine spelled_ok K W hl st hts hfn hL he hnl la hgd hand r hnd hsz hd S (fun v H' ho o => ?_) fun n l H' ho o W' => (mk2_4 n l ho rfl o.toC W')
    rw [ho] at q
    exact q H' (o.mono nofun).toC (W.same o)
  · refine el2_4 hp fun n l h1 z3 h3 h4 => ?_; try clear hp; subst z3
    rw [h1] at q
    exact Exs.ret (Ev.ball hc.kind (by one_item) (kind_of (by assumption) (by kernel_rfl)) hb (q H' h3 h4))
end
noncomputable def Pot (p nl : Addr) (H : AH) : Prop := p ≠ nl ∧ ∃ (k : Nat) (ns : List Int), 0 < ns.length ∧ ns.length ≤ 20 ∧ H p = some (.list [.int k, .ref nl]) ∧ H nl = some (.list (ns.map .int))
theorem Pot.off {p nl : Addr} {H H' : AH} (x : Pot p nl H) {l : List Addr} (h : OffC l H H') (h1 : p ∉ l) (h2 : nl ∉ l) : Pot p nl H' := by
  refine el0_2 x fun ne z1 => ?_; try clear x; refine el2_4 z1 fun k ns a b e1 e2 => ?_
  exact (mk0_2 ne  (mk2_4 k ns a b (h _ _ e1 rfl h1) (h _ _ e2 rfl h2)))
theorem fmod_nat (k n : Nat) (h : 0 < n) : Int.fmod (k : Int) (n : Int) = ((k % n : Nat) : Int) := by
  rw [Int.fmod_eq_emod_of_nonneg _ (by (first | lia | omega))]; rfl
section
variable {p nl : Addr} {H : AH}
theorem digit_ok {w : World} (hp : Pot p nl H) {lim : Int} (hlim : 0 < lim) {Q : V → AH → Prop} (q : ∀ d H', 0 ≤ d → d < lim → Pot p nl H' → Off [p, nl] H H' → Q (.int d) H') : Fn 1 w (.ref 608) [.ref p, .int lim] H Q := by
  refine el0_2 hp fun ne z2 => ?_; try clear hp; refine el2_4 z2 fun k ns n0 n1 e1 e2 => ?_
  refine Fn.p2 "pot" "limit" ok608 (by intro a b; kernel_rfl) (by decide +kernel) (by decide +kernel) (by decide +kernel) ?_
  intro c hw hc hs hcl
  conv =>
    arg 3
    whnf
  conv at hs =>
    rhs
    whnf
  subst hw
  isplit
  refine Ev.subL ?_
  repeat isplit
  refine (mk2_3 _ _ rfl e1 (Op2.item_list (k := 1) e1 rfl rfl (by simp) ?_))
  repeat isplit
  refine Ev.subL ?_
  repeat isplit
  refine (mk2_3 _ _ rfl e1 (Op2.item_list (k := 0) e1 rfl rfl (by simp) ?_))
  refine Ev.lenL hc (by nest_cls) ?_
  isplit
  refine (mk2_4 _ _ rfl e2 (by simp; (first | lia | omega)) ?_)
  rw [List.length_map]
  refine Op2.int_mod (by (first | lia | omega)) ?_
  rw [fmod_nat k ns.length n0]
  have hs : k % ns.length < ns.length := Nat.mod_lt _ n0
  generalize k % ns.length = sp at hs ⊢
  refine Exs.augSub ?_
  repeat isplit
  refine Op2.item_list (k := 0) e1 rfl rfl (by simp) ?_
  repeat isplit
  refine Op2.int_iadd ?_
  refine Op3.set_list (k := 0) e1 rfl (by simp) (by simp) ?_
  have f1 : H.set p (.list ([.int k, .ref nl].set 0 (.int ((k : Int) + 1)))) p = some (.list [.int ((k + 1 : Nat) : Int), .ref nl]) := by rw [AH.set_self]; rfl
  have f2 : H.set p (.list ([.int k, .ref nl].set 0 (.int ((k : Int) + 1)))) nl = some (.list (ns.map .int)) := AH.other (Ne.symm ne) e2
  have fo : Off [p, nl] H (H.set p (.list ([.int k, .ref nl].set 0 (.int ((k : Int) + 1))))) := .set (by simp)
  generalize H.set p (.list ([.int k, .ref nl].set 0 (.int ((k : Int) + 1)))) = G at f1 f2 fo ⊢
  have hx : (ns.map V.int)[sp]? = some (.int ns[sp]) := by rw [List.getElem?_map, List.getElem?_eq_getElem hs]; rfl
  repeat isplit
  refine Ev.subL ?_
  repeat isplit
  refine (mk2_3 _ _ rfl f2 (Op2.item_list (k := sp) f2 rfl hx (by simp; (first | lia | omega)) ?_))
  repeat isplit
  refine Op2.int_mod (by (first | lia | omega)) ?_
  repeat isplit
  refine Ev.subL ?_
  repeat isplit
  refine (mk2_3 _ _ rfl f2 (Op2.item_list (k := sp) f2 rfl hx (by simp; (first | lia | omega)) ?_))
  repeat isplit
  refine Op2.int_floordiv hc (by (first | lia | omega)) ?_
  refine Ev.subL ?_
  repeat isplit
  refine (mk2_3 _ _ rfl f1 (Op2.item_list (k := 0) f1 rfl rfl (by simp) ?_))
  refine Op2.int_add ?_
  repeat isplit
  refine Op3.set_list (k := sp) f2 rfl (by simp; (first | lia | omega)) (by simp; (first | lia | omega)) ?_
  repeat isplit
  refine q _ _ (by rw [Int.fmod_eq_emod_of_nonneg _ (by (first | lia | omega))]; exact Int.emod_nonneg _ (by (first | lia | omega))) (by rw [Int.fmod_eq_emod_of_nonneg _ (by (first | lia | omega))]; exact Int.emod_lt_of_pos _ hlim) ?_ (fo.trans (.set (by simp)))
  refine (mk0_2 ne  (mk2_4 (k + 1) (ns.set sp (ns[sp].fdiv lim + ((k + 1 : Nat) : Int))) (by simpa using n0) (by simpa using n1) (AH.other ne f1) ?_))
  rw [AH.set_self, List.map_set]
end
theorem addK_pre {K : Type} [DecidableEq K] (ks : List K) (x : K) : ks <+: addK ks x := by
  unfold addK; split
  · exact List.prefix_refl _
  · exact List.prefix_append _ _
theorem addK_lt {K : Type} [DecidableEq K] (ks : List K) (x : K) : ix ks x < (addK ks x).length := (List.getElem?_eq_some_iff.mp (addK_idx ks x)).1
structure El (number : Nat) (ts : List Str) (tm : Tm) : Prop where
  vr : tm.free = true → tm = .vr number
  cl : tm.free = false → tm.vars = []
  kn : tm.known ts
  nd : tm.nodes ≤ 1
theorem Bk.offL {k : BkA} {H H' : AH} {ts : List Str} {fs : List (List Int)} (B : Bk k H ts fs) {l : List Addr} (o : Off l H H') (h : ∀ b ∈ l, b ∉ k.all) : Bk k H' ts fs := B.same fun a ha => by
  refine el1_1 (B.there ha) fun ob e => ?_
  rw [e]; exact o a ob e fun z => h a z ha
theorem gv_law_digit (w : World) : GV w "_law_digit" (.ref 608) := gvG (by kernel_rfl)
theorem kf608 {w : World} : KeepOk w (.ref 608) := keep_ref (by kernel_rfl)
section
variable {p nl : Addr} {k : BkA} {H : AH} {ts : List Str} {fn : List (List Int)}
theorem law_element_ok {w : World} (hp : Pot p nl H) (B : Bk k H ts fn) (hp1 : p ∉ k.all) (hp2 : nl ∉ k.all) (hts : ts.length ≤ 900) (st : Short ts) (h0 : 0 < ts.length) {number : Nat} {Q : V → AH → Prop}
    (q : ∀ tm ts' H', El number ts' tm → ts <+: ts' → ts'.length ≤ ts.length + 1 → Short ts' → Pot p nl H' → Bk k H' ts' fn → Off (p :: nl :: k.all) H H' → Q tm.val H') : Fn 2 w (.ref 615) [.ref p, .ref k.sy, .int number] H Q := by
  refine Fn.p3 "pot" "book" "number" ok615 (by intro a b c; kernel_rfl) (by decide +kernel) (by decide +kernel) (by decide +kernel) ?_
  intro c hw hc hs hcl
  conv =>
    arg 3
    whnf
  conv at hs =>
    rhs
    whnf
  subst hw
  have sub2 : ∀ b ∈ [p, nl], b ∈ p :: nl :: k.all := fun b hb => by simp only [List.mem_cons, List.mem_nil_iff, or_false] at hb ⊢; rcases hb with h | h <;> simp [h]
  have subk : ∀ b ∈ k.all, b ∈ p :: nl :: k.all := fun b hb => by simp [hb]
  have dis : ∀ b ∈ [p, nl], b ∉ k.all := fun b hb => by simp only [List.mem_cons, List.mem_nil_iff, or_false] at hb; rcases hb with rfl | rfl <;> assumption
  isplit
  refine Ev.call hc (by nest_cls) (gv_law_digit _) kf608 ?_
  repeat isplit
  refine (digit_ok hp (by decide) fun kd H₁ k0 k1 P₁ o₁ => ?_).at hc
  have B₁ := B.offL o₁ dis
  repeat isplit
  refine Ev.call hc (by nest_cls) (gv_law_digit _) kf608 ?_
  repeat isplit
  refine (digit_ok P₁ (by decide) fun cd H₂ c0 c1 P₂ o₂ => ?_).at hc
  have B₂ := B₁.offL o₂ dis
  have o12 := (o₁.mono sub2).trans (o₂.mono sub2)
  -- i
  refine Exs.if_ (Tr.mono (Q := fun b H' => b = decide (kd = 0 ∨ kd = 1) ∧ H' = H₂) ?_ ?_)
  · repeat isplit
    refine Op2.int_eq ⟨_, rfl, ?_⟩
    by_cases h : kd = 0
    · rw [if_pos (by simp [h])]; exact ⟨by simp [h], rfl⟩
    · rw [if_neg (by simp [h])]
      repeat isplit
      refine Op2.int_eq ⟨_, rfl, ?_⟩
      by_cases h' : kd = 1
      · rw [if_pos (by simp [h'])]; exact ⟨by simp [h'], rfl⟩
      · rw [if_neg (by simp [h'])]
        isplit
        exact ⟨by simp [h, h'], rfl⟩
  rintro b H' ⟨hb, rfl⟩
  cases b with
  | true =>
    rw [if_pos rfl]
    repeat (first | isplit | refine And.intro ?_ (by simp; done))
    exact q (.nu cd) ts H' ⟨nofun, fun _ => rfl, trivial, by simp [Tm.nodes]⟩ (List.prefix_refl _) (by (first | lia | omega)) st P₂ B₂ o12
  | false =>
    rw [if_neg Bool.false_ne_true]
    isplit
    isplit
    -- i, out of bounds
    refine Exs.if_ (Tr.mono (Q := fun b H'' => b = decide (kd = 2) ∧ H'' = H') ?_ ?_)
    · repeat isplit
      refine Op2.int_eq ⟨_, rfl, ?_⟩
      exact ⟨by rw [Bool.eq_iff_iff]; simp, rfl⟩
    rintro b H'' ⟨hb2, rfl⟩
    cases b with
    | true =>
      rw [if_pos rfl]
      repeat isplit
      refine Ev.subL ?_
      repeat isplit
      refine Op2.int_sub ?_
      repeat isplit
      refine Op2.int_add ?_
      repeat isplit
      refine ⟨fun l hl => ?_, by simp⟩
      repeat isplit
      refine Op2.int_mod (by decide) ?_
      have L0 : (H''.set l (.list [.int (-1 - cd), .int (1114112 + cd)])) l = some (.list [.int (-1 - cd), .int (1114112 + cd)]) := AH.set_self ..
      have lo : Off [] H'' (H''.set l (.list [.int (-1 - cd), .int (1114112 + cd)])) := .new hl
      have Pl := P₂.off lo.toC (by simp) (by simp)
      have Bl := B₂.off lo
      have ol := o12.trans (lo.mono nofun)
      generalize H''.set l (.list [.int (-1 - cd), .int (1114112 + cd)]) = G at L0 Pl Bl ol ⊢
      obtain ⟨j, hj, hj2⟩ : ∃ j : Nat, cd.fmod 2 = j ∧ j < 2 := ⟨(cd.fmod 2).toNat, by rw [Int.fmod_eq_emod_of_nonneg _ (by decide)]; (first | lia | omega), by rw [Int.fmod_eq_emod_of_nonneg _ (by decide)]; (first | lia | omega)⟩
      rw [hj]
      have fin : ∀ i : Int, (V.tup [.str "i", .int i] = (Tm.nu i).val) → Q (.tup [.str "i", .int i]) G := fun i e => by
        rw [e]; exact q (.nu i) ts G ⟨nofun, fun _ => rfl, trivial, by simp [Tm.nodes]⟩ (List.prefix_refl _) (by (first | lia | omega)) st Pl Bl ol
      match j, hj2 with
      | 0, _ =>
        refine (mk2_3 _ _ rfl L0 (Op2.item_list (k := 0) L0 rfl rfl (by simp) ?_))
        repeat (first | isplit | refine And.intro ?_ (by simp; done))
        exact fin _ rfl
      | 1, _ =>
        refine (mk2_3 _ _ rfl L0 (Op2.item_list (k := 1) L0 rfl rfl (by simp) ?_))
        repeat (first | isplit | refine And.intro ?_ (by simp; done))
        exact fin _ rfl
    | false =>
      rw [if_neg Bool.false_ne_true]
      isplit
      isplit
      refine Exs.if_ (Tr.mono (Q := fun b H' => b = decide (kd = 3 ∨ kd = 4) ∧ H' = H'') ?_ ?_)
      · repeat isplit
        refine Op2.int_eq ⟨_, rfl, ?_⟩
        by_cases h : kd = 3
        · rw [if_pos (by simp [h])]; exact ⟨by simp [h], rfl⟩
        · rw [if_neg (by simp [h])]
          repeat isplit
          refine Op2.int_eq ⟨_, rfl, ?_⟩
          by_cases h' : kd = 4
          · rw [if_pos (by simp [h'])]; exact ⟨by simp [h'], rfl⟩
          · rw [if_neg (by simp [h'])]
            isplit
            exact ⟨by simp [h, h'], rfl⟩
      rintro b H₄ ⟨hb3, rfl⟩
      cases b with
      | true =>
        rw [if_pos rfl]
        repeat isplit
        refine Ev.im ?_
        isplit
        refine (mk5_5 _ _ _ _ 88 rfl B₂.inst (mk_meth (by kernel_rfl) (by kernel_rfl) (by kernel_rfl) (by kernel_rfl) (by kernel_rfl)) (by rfl) ?_)
        isplit
        refine Ev.chr hc (by nest_cls) ?_
        isplit
        refine (mk1_4 _ rfl c0 (by (first | lia | omega)) ?_)
        repeat isplit
        refine (atom_ok B₂ (by (first | lia | omega)) fun H₅ B₅ o₅ => ?_).at hc
        repeat (first | isplit | refine And.intro ?_ (by simp; done))
        have hlen := addK_length ts ⟨#[cd.toNat]⟩
        exact q (.sy (ix ts ⟨#[cd.toNat]⟩ : Nat)) _ H₅ ⟨nofun, fun _ => rfl, ⟨_, rfl, addK_lt ..⟩, by simp [Tm.nodes]⟩ (addK_pre ..) hlen (st.add (by show (1 : Nat) ≤ 100; (first | lia | omega))) (P₂.off o₅.toC hp1 hp2) B₅ (o12.trans (o₅.mono subk))
      | false =>
        rw [if_neg Bool.false_ne_true]
        isplit
        isplit
        refine Exs.if_ (Tr.mono (Q := fun b H' => H' = H₄) ?_ ?_)
        · repeat isplit
          exact Op2.int_eq ⟨_, rfl, rfl⟩
        rintro b H₅ rfl
        cases b with
        | true =>
          rw [if_pos rfl]
          repeat isplit
          refine Ev.subL ?_
          repeat (first | isplit | refine And.intro ?_ (by simp; done))
          refine Ev.im ?_
          isplit
          refine (mk5_5 _ _ _ _ 88 rfl B₂.inst (mk_meth (by kernel_rfl) (by kernel_rfl) (by kernel_rfl) (by kernel_rfl) (by kernel_rfl)) (by rfl) ?_)
          repeat isplit
          refine (atom_ok B₂ (by (first | lia | omega)) fun H₆ B₆ o₆ => ?_).at hc
          repeat (first | isplit | refine And.intro ?_ (by simp; done))
          intro l hl
          repeat isplit
          refine Op2.int_mod (by decide) ?_
          have hlen := addK_length ts (Str.ofString "")
          have L0 : (H₆.set l (.list [tmA 0, tmA (ix ts (Str.ofString "") : Nat), tmC (tmI 97) (tmA 0)])) l = some (.list [tmA 0, tmA (ix ts (Str.ofString "") : Nat), tmC (tmI 97) (tmA 0)]) := AH.set_self ..
          have lo : Off [] H₆ (H₆.set l (.list [tmA 0, tmA (ix ts (Str.ofString "") : Nat), tmC (tmI 97) (tmA 0)])) := .new hl
          have Pl := (P₂.off o₆.toC hp1 hp2).off lo.toC (by simp) (by simp)
          have Bl := B₆.off lo
          have ol := (o12.trans (o₆.mono subk)).trans (lo.mono nofun)
          obtain ⟨j, hj, hj2⟩ : ∃ j : Nat, cd.fmod 3 = j ∧ j < 3 := ⟨(cd.fmod 3).toNat, by rw [Int.fmod_eq_emod_of_nonneg _ (by decide)]; (first | lia | omega), by rw [Int.fmod_eq_emod_of_nonneg _ (by decide)]; (first | lia | omega)⟩
          rw [hj]
          have sh6 : Short (addK ts (Str.ofString "")) := st.add (by decide)
          have hpos : 0 < (addK ts (Str.ofString "")).length := by have := addK_pos ts (Str.ofString ""); (first | lia | omega)
          match j, hj2 with
          | 0, _ => exact (mk2_3 _ _ rfl (AH.set_self ..) (Op2.item_list (k := 0) L0 rfl rfl (by simp) (q (.sy 0) _ _ ⟨nofun, fun _ => rfl, ⟨0, rfl, hpos⟩, by simp [Tm.nodes]⟩ (addK_pre ..) hlen sh6 Pl Bl ol)))
          | 1, _ => exact (mk2_3 _ _ rfl (AH.set_self ..) (Op2.item_list (k := 1) L0 rfl rfl (by simp) (q (.sy (ix ts (Str.ofString "") : Nat)) _ _ ⟨nofun, fun _ => rfl, ⟨_, rfl, addK_lt ..⟩, by simp [Tm.nodes]⟩ (addK_pre ..) hlen sh6 Pl Bl ol)))
          | 2, _ => exact (mk2_3 _ _ rfl (AH.set_self ..) (Op2.item_list (k := 2) L0 rfl rfl (by simp) (q (.co (.nu 97) (.sy 0)) _ _ ⟨nofun, fun _ => rfl, ⟨trivial, 0, rfl, hpos⟩, by simp [Tm.nodes]⟩ (addK_pre ..) hlen sh6 Pl Bl ol)))
        | false =>
          rw [if_neg Bool.false_ne_true]
          repeat (first | isplit | refine And.intro ?_ (by simp; done))
          exact q (.vr number) ts H₅ ⟨fun _ => rfl, nofun, trivial, by simp [Tm.nodes]⟩ (List.prefix_refl _) (by (first | lia | omega)) st P₂ B₂ o12
end
theorem bindL_lookup (k : Str → Option NameKind) : ∀ (bs : List (Str × Value)) (m : Str → Option Value) (x : Str), (bs.map (·.1)).Nodup → k x = some .local → bindL k bs m x = (bs.lookup x).or (m x)
  | [], m, x, _, _ => by simp [bindL]
  | (n, v) :: r, m, x, hn, hk => by
    rw [List.map_cons, List.nodup_cons] at hn
    rw [bindL, bindL_lookup k r _ x hn.2 hk, List.lookup_cons]
    by_cases e : x = n
    · subst e
      rw [lookup_none hn.1]
      simp [hk]
    · have e' : (x == n) = false := by simpa using e
      rw [e']
      split <;> simp [e]
theorem bindC_lookup (k : Str → Option NameKind) : ∀ (bs : List (Str × Value)) (m : Str → Option Value) (x : Str), (bs.map (·.1)).Nodup → k x ≠ some .local → bindC k bs m x = (bs.lookup x).or (m x)
  | [], m, x, _, _ => by simp [bindC]
  | (n, v) :: r, m, x, hn, hk => by
    rw [List.map_cons, List.nodup_cons] at hn
    rw [bindC, bindC_lookup k r _ x hn.2 hk, List.lookup_cons]
    by_cases e : x = n
    · subst e
      rw [lookup_none hn.1]
      simp [hk]
    · have e' : (x == n) = false := by simpa using e
      rw [e']
      split <;> simp [e]

section
variable {lv : Nat} {c : Cx} {E : ER} {m : Loc} {H : AH} {s : Shared}
theorem RelH.noB (R : RelH c H s) {a : Addr} (hn : s.heap.get? a = none) : c.B.get? a = none := by
  cases q : c.B.get? a with
  | none => rfl
  | some o => have := R.base a o q; rw [hn] at this; cases this
theorem calleeC_rel (R : RelH c H s) {env : Env} {mc cm : Str → Option Value} {s₁ : Shared} {m' : Loc} (x : InCallC s env.locals mc env.cells cm s₁) (hL : env.locals = s.heap.objs.size) (hfr : env.frame = some env.locals) (hk : env.scope.kind = .function)
    (hm : ∀ x d, m' x = some d → env.kindOf x = some .local → ∃ v, mc x = some v ∧ VR s₁.heap v d) (hm2 : ∀ x d, m' x = some d → (env.kindOf x = some .cell ∨ env.kindOf x = some .free) → ∃ v, cm x = some v ∧ VR s₁.heap v d) :
    Rel (calleeCx c s H env) m' H s₁ := by
  obtain ⟨⟨⟨h₁, tk, rfl⟩, hns, hkp, _⟩, hcell, hap, habove⟩ := x
  have hn : s.heap.get? env.locals = none := hL ▸ size_none s.heap
  have RH := R.ext (h' := h₁) (tk := tk) hkp
  refine el3_3 (id hns) fun oL es ep eL dL _ => ?_
  have fr : ∀ a, s.heap.get? a = none → H a = none := fun a hn => R.none_of_new hn
  exact { gens := R.gens, os := R.os, hb := R.hb, base := RH.base, since := .of_keeps hkp, grow := .refl _ _, objs := RH.objs, offB := R.offB
          frames := ⟨by rw [hk]; exact nofun, ⟨_, oL, hfr, R.noB hn, eL, fun vs q => by rw [dL] at q; cases q⟩, RH.frames⟩
          dfr := fun L hm => by
            rw [show (calleeCx c s H env).Fs = env :: c.Fs from rfl, List.filterMap_cons, hfr] at hm
            rcases List.mem_cons.mp hm with rfl | hm
            · exact (mk3_2 _ _ _ eL dL)
            · exact RH.dfr L hm
          offF := fun L hm => by
            rw [show (calleeCx c s H env).Fs = env :: c.Fs from rfl, List.filterMap_cons, hfr] at hm
            rcases List.mem_cons.mp hm with rfl | hm
            · exact fr _ hn
            · exact R.offF L hm
          locs := ⟨mc, hns, hm⟩
          offL := fr _ hn, newL := hn, baseL := R.noB hn
          cells := fun x a e => by
            have hgt := habove x a (mem_of_lookup e)
            have ha : s.heap.get? a = none := Heap.get?_none_of_le (Nat.le_of_lt (hL ▸ hgt))
            refine el1_2 (hcell x a e) fun o eo do_ => ?_
            exact (mk0_5 (fr _ ha) ha (R.noB ha) (Nat.ne_of_gt hgt)  (mk2_3 _ o eo do_ (fun d hd hk => hm2 x d hd hk))) }

theorem FnX.mkC {w : World} {f : Addr} {name qual : Str} {st : Stmt} {dV md : Value} {cd : Addr} {as : List V} {ds : List (Str × V)} {Q P : V → AH → Prop} (F : FnOk w f name qual st dV md cd)
    (hb : ∀ h vs, VRs h vs as → ∃ bs, bindArgs (fnData name qual st dV md (.ref cd)) ⟨vs, []⟩ = pure bs ∧ BndR h bs ds)
    (hkind : ∀ L, ∀ y ∈ ds.map (·.1), (fnScope st).names.lookup y = some .local ∨ ((fnScope st).names.lookup y = some .cell ∧ ((cellsFrom (L + 1) (fnScope st).names []).lookup y).isSome = true)) (hnd : (ds.map (·.1)).Nodup)
    (body : ∀ c L, c.w = w → CxOk lv c → FrOk c → c.env.scope = fnScope st → c.env.cells = cellsFrom (L + 1) (fnScope st).names [] → (c.env.cells.Pairwise fun x y => x.2 ≠ y.2) → Exs c (FE c P) (fnBody st) (locOf ds) H (RetQ Q)) : FnX (lv + 1) w (.ref f) as H Q P := by
  intro c m hw hc vs s r R
  subst hw
  refine el1_2 (hb s.heap vs r) fun bs hB hR => ?_
  have hroom : c.A.depth < recursionLimit := by have := hc.depth; (first | lia | omega)
  refine codeAny_call_cells (fd := fnData name qual st dV md (.ref cd)) (body := fnBody st) hroom (R.K _ _ F.at_) rfl R.nolimit ((codeRec_of R.hb F.code).keeps R.base) rfl hB rfl (fun x hx => ?_) (fun s₁ X => ?_) F.co F.gen F.kind
  · exact hkind _ _ (by rw [← hR.1]; exact List.mem_map_of_mem hx)
  · have hnb : (bs.map (·.1)).Nodup := by rw [hR.1]; exact hnd
    have T : Tups s.heap s₁.heap := .of_keeps X.toInCall.keep
    have R' := calleeC_rel (m' := locOf ds) R.toRelH (env := callEnvC (fnData name qual st dV md (.ref cd)) s.heap.objs.size f) X rfl rfl F.kind
      (fun x d e hk => by
        refine el1_2 (hR.lookup (locOf_lookup e)) fun v e' r' => ?_
        exact (mk1_2 v (by rw [bindL_lookup _ _ _ _ hnb hk, e']; rfl) (r'.mono T)))
      (fun x d e hk => by
        refine el1_2 (hR.lookup (locOf_lookup e)) fun v e' r' => ?_
        exact (mk1_2 v (by rw [bindC_lookup _ _ _ _ hnb (by rcases hk with z | z <;> rw [z] <;> exact nofun), e']; rfl) (r'.mono T)))
    have hc' := callee_ok (s := s) (H := H) (env := callEnvC (fnData name qual st dV md (.ref cd)) s.heap.objs.size f) hc F.kind rfl rfl F.gen F.co
    have hf' : FrOk (calleeCx c s H (callEnvC (fnData name qual st dV md (.ref cd)) s.heap.objs.size f)) := ⟨c.Fs, _, rfl, rfl⟩
    refine wpAny_mono (body (calleeCx c s H (callEnvC (fnData name qual st dV md (.ref cd)) s.heap.objs.size f)) s.heap.objs.size rfl hc' hf' rfl rfl X.apart _ R') (fun fo s' z1 => el3_4 z1 fun fl m' H' q rf R'' _ => ?_) fun e s' he => ?_
    · refine el0_3 (callee_back R R'') fun R₂ mv g => ?_
      cases fo <;> cases fl <;> first | exact rf.elim | exact q.elim | skip
      · exact (mk2_5 .none H' q .none R₂ mv g)
      · exact (mk2_5 _ H' q rf R₂ mv g)
    · refine wpAny_mono he (fun _ s'' z2 => el1_2 z2 fun H' t R'' => ?_) fun _ _ x => x.elim
      refine el0_3 (callee_backH R R'') fun R₂ mv g => ?_
      exact (mk1_4 H' t R₂ mv g)

noncomputable def CellAt (c : Cx) (x : Str) : Prop := c.env.kindOf x = some .cell ∧ ∃ a, c.env.cells.lookup x = some a ∧ ∀ y, c.env.cells.lookup y = some a → y = x
theorem CellAt.of {x : Str} {a : Addr} (hk : c.env.kindOf x = some .cell) (ha : c.env.cells.lookup x = some a) (hap : c.env.cells.Pairwise fun x y => x.2 ≠ y.2) : CellAt c x :=
  ⟨hk, a, ha, fun _ hy => name_of_addr hap (mem_of_lookup hy) (mem_of_lookup ha)⟩
theorem store_cell (hkd : c.env.scope.kind = .function) (R : Rel c m H s) {x : Str} (hx : CellAt c x) {v : Value} {d : V} (r : VR s.heap v d) {Q : Unit → Shared → Prop} (h : ∀ s', Rel c (m.set x d) H s' → Step c H H s.heap s'.heap → Q () s') :
    wpAny (M c.w) c.A (storeName c.env x v) Q E s := by
  refine el0_2 hx fun hk z3 => ?_; try clear hx; refine el1_2 z3 fun a ha hinj => ?_
  refine el0_5 (R.cells x a ha) fun h1 h2 h3 h4 z4 => ?_; refine el2_3 z4 fun u o h5 h6 h7 => ?_
  refine wpAny_storeName_cell hkd hk ha ⟨o, h5, h6⟩ fun h' hc' sb => ?_
  refine el1_2 hc' fun o' e' d' => ?_; try clear hc'
  have notF : a ∉ c.Fs.filterMap (·.frame) := fun q => by
    refine el3_2 (R.dfr a q) fun of es n ef df => ?_
    rw [h5] at ef; cases ef; rw [h6] at df; cases df
  obtain ⟨R', T⟩ := R.toRelH.off (a := a) (h' := h') (tk := s.toks) (fun b o hb e => (sb.2 b hb).trans e) h1 h2 h3 (fun q => absurd q notF) (fun ob e _ vs n q => by rw [h5] at e; cases e; rw [h6] at q; cases q)
  refine el1_2 R.locs fun mc z5 k => ?_; obtain ⟨oL, es, ep, eL, rL⟩ := z5
  refine h _ ⟨R', ⟨mc, ⟨oL, es, ep, (sb.2 _ (Ne.symm h4)).trans eL, rL⟩, fun y dy e hy => ?_⟩, R.offL, R.newL, R.baseL, fun y b e => ?_⟩ ⟨fun b ob e _ _ hb => (mk1_2 ob ((sb.2 b (fun z => hb x hk (z ▸ ha))).trans e) (.refl _)), .refl _ _, fun b ob e _ => ?_, T⟩
  · unfold Loc.set at e
    by_cases q : y = x
    · subst q; rw [hk] at hy; cases hy
    · rw [if_neg q] at e
      refine el1_2 (k y dy e hy) fun z e1 r1 => ?_
      exact (mk1_2 z e1 (r1.mono T))
  · by_cases q : b = a
    · subst q
      obtain rfl := hinj y e
      exact (mk0_5 h1 h2 h3 h4  (mk2_3 _ o' e' d' (fun dy hd _ => by
        unfold Loc.set at hd; rw [if_pos rfl] at hd; cases hd; exact (mk1_2 v rfl (r.mono T)))))
    · refine el0_5 (R.cells y b e) fun k1 k2 k3 k4 z6 => ?_; refine el2_3 z6 fun z ob k5 k6 k7 => ?_
      have hyx : y ≠ x := by rintro rfl; rw [ha] at e; cases e; exact q rfl
      exact (mk0_5 k1 k2 k3 k4  (mk2_3 z ob ((sb.2 b q).trans k5) k6 (fun dy hd hky => by
        unfold Loc.set at hd; rw [if_neg hyx] at hd
        refine el1_2 (k7 dy hd hky) fun v' e1 r1 => ?_
        exact (mk1_2 v' e1 (r1.mono T)))))
  · by_cases q : b = a
    · exact ⟨o', by rw [q]; exact e'⟩
    · exact ⟨ob, (sb.2 b q).trans e⟩
theorem Exs.assignC {x : Str} {p pos : Pos} {e : Expr} {rest : List Stmt} {Q : Fl → Loc → AH → Prop} (hc : CxOk lv c) (hx : CellAt c x) (h : Ev c E e m H fun d H' => Exs c E rest (m.set x d) H' Q)
    (hs : swapsWith e (some (.Name x p)) pos.line c.env = pure false := by rfl) : Exs c E (.Assign [.Name x p] e pos :: rest) m H Q := Exs.cons fun s R =>
  wpAny_Assign_Name (wpAny_mono (h s R) (fun _ _ z7 => el2_5 z7 fun d H₁ h₁ r₁ R₁ m₁ g₁ => store_cell hc.kind R₁ hx r₁ fun _ R₂ st₂ => (mk3_4 .next _ H₁ h₁ trivial R₂ ((Step.of R m₁ g₁).trans st₂))) fun _ _ x => x) hs
theorem Ev.cellA {x : Str} {pos : Pos} {d : V} {Q : V → AH → Prop} (hc : CxOk lv c) (hx : CellAt c x) (e : m x = some d) (q : Q d H) (hd : (x == ("__debug__" : Str)) = false := by decide) : Ev c E (.Name x pos) m H Q := by
  refine el0_2 hx fun hk z8 => ?_; try clear hx; refine el1_2 z8 fun a ha _ => ?_
  exact Ev.cell hc e hk ha q hd
theorem Ex.forLC {x : Str} {xp pos : Pos} {iter : Expr} {body : List Stmt} {Q : Fl → Loc → AH → Prop} (hc : CxOk lv c) (hE : PassesOwn (M c.w) c.A c.env E) (hk : CellAt c x)
    (h : Ev c E iter m H fun a H₁ => ∃ p xs, a = .ref p ∧ H₁ p = some (.list xs) ∧ For c E (fun H => H p = some (.list xs)) x body xs m H₁ Q)
    (hs : ∀ y, foldedSetIterable iter c.env y = pure y := by intro _; rfl) : Ex c E (.For (.Name x xp) iter body [] pos) m H Q := fun s R => by
  refine wpAny_For (wpAny_mono (h s R) (fun va s₁ z9 => el2_5 z9 fun a H₁' z10 r₁ R₁' m₁ g₁ => el2_3 z10 fun p xs ea hp hF' => ?_) fun _ _ x => x) hs
  apply r₁.refQ ea
  refine el2_2 (R₁'.objs p _ hp) fun vs₀ n₀ e₀ _ => ?_
  refine wpAny_pyIter_list ⟨_, e₀, rfl, n₀, rfl⟩ ?_
  refine el5_8 (forAt_push (o := { cls := .type "list_iterator", data := .fields #[.ref p, rawInt 0] }) (x := x) (body := body) (E := E) (Q := Q) R R₁' m₁ g₁ (Nx.list hc.handled (Nat.ne_of_lt (Heap.lt_size e₀))) ⟨_, Heap.get?_push_size _ rfl, rfl, rfl⟩ hF') fun I H₁ P ds St hI' N st0 hnI f0 R₁ stp hF => ?_
  cases hI'
  generalize s₁.heap.objs.size = I at *
  have pre : ∀ b, (∃ o, s.heap.get? b = some o) → b ≠ I := by rintro b ⟨o, e⟩ rfl; rw [hnI] at e; cases e
  refine codeAny_forLoop (fun n s' => ∃ i m' H', n + i = ds.length + 1 ∧ i ≤ ds.length ∧ For c E P x body (ds.drop i) m' H' Q ∧ St i s'.heap ∧ Free c H' I ∧ Rel c m' H' s' ∧ Step c H H' s.heap s'.heap) (fun n s' h' => ?_) (ds.length + 1)
    ⟨0, m, H₁, rfl, Nat.zero_le _, hF, st0, f0, R₁, stp⟩
  refine el3_7 h' fun i m' H' hn hi hF st f R' stp' => ?_; try clear h'
  refine el1_3 (N.at_ i _ st) fun oI eI cI dI => ?_
  have ht : ∀ o, s'.heap.get? I = some o → o.cls ≠ .type "tuple" := fun o e => by rw [eI] at e; cases e; exact cI
  have stepI : ∀ {h' : Heap} {tk : Nat}, (∀ b o, b ≠ I → s'.heap.get? b = some o → h'.get? b = some o) → Step c H H' s.heap h' ∧ Rel c m' H' { s' with heap := h', toks := tk } ∧ Tups s'.heap h' := fun {h'} {tk} k => by
    refine el0_2 (R'.offI (tk := tk) f k ht) fun R₂ T => ?_
    refine ⟨⟨fun b o e n h1 h2 => ?_, stp'.gr, fun b o e n => ?_, stp'.tups.trans T⟩, R₂, T⟩
    · refine el1_2 (stp'.mv b o e n h1 h2) fun o' e' sm => ?_
      exact (mk1_2 o' (k b o' (pre b ⟨o, e⟩) e') sm)
    · refine el1_1 (stp'.there b o e n) fun o' e' => ?_
      exact ⟨o', k b o' (pre b ⟨o, e⟩) e'⟩
  by_cases hlt : i < ds.length
  · have hd : ds[i]? = some ds[i] := List.getElem?_eq_getElem hlt
    rw [List.drop_eq_getElem_cons hlt] at hF
    refine el0_2 hF fun hP hF => ?_
    refine N.item i s' m' H' _ _ _ R' hP st hd fun v h₁ tk r₁ st₁ k₁ => ?_
    refine el0_3 (stepI (tk := tk) k₁) fun stp₂ R₂ T₂ => ?_
    refine wpAny_assign_Name (store_cell hc.kind R₂ hk (r₁.mono T₂) fun s₃ R₃ st₃ => ?_)
    refine el1_3 (N.at_ _ _ st₁) fun oI' eI' _ dI' => ?_
    have e3 : s₃.heap.get? I = h₁.get? I := by
      refine el1_2 (st₃.mv I oI' eI' f.H f.loc fun y _ => f.cell y) fun o' e' sm => ?_
      rw [e', sm.eq dI']; exact eI'.symm
    have hst₃ : St (i + 1) s₃.heap := N.frame _ _ _ st₁ e3 st₃.tups
    refine wpAny_passesOwn hE (wpAny_mono (hF s₃ R₃) (fun fo s₄ z11 => el3_4 z11 fun fl m₄ H₄ h₄ r₄ R₄ st₄ => ?_) fun _ _ x => x)
    have stA := (stp₂.trans st₃).trans st₄
    have eI3 : s₃.heap.get? I = some oI' := e3.trans eI'
    have e4 : s₄.heap.get? I = s₃.heap.get? I := by
      refine el1_2 (st₄.mv I oI' eI3 f.H f.loc fun y _ => f.cell y) fun o' e' sm => ?_
      rw [e', sm.eq dI']; exact eI3.symm
    have f₄ : Free c H₄ I := f.grow st₄.gr eI3
    cases fo <;> cases fl <;> first | exact r₄.elim | skip
    · exact (mk1_2 (n - 1) (by (first | lia | omega))  (mk3_7 (i + 1) m₄ H₄ (by (first | lia | omega)) (by (first | lia | omega)) h₄ (N.frame _ _ _ hst₃ e4 st₄.tups) f₄ R₄ stA))
    · exact (mk3_4 .next m₄ H₄ h₄ trivial R₄ stA)
    · exact (mk1_2 (n - 1) (by (first | lia | omega))  (mk3_7 (i + 1) m₄ H₄ (by (first | lia | omega)) (by (first | lia | omega)) h₄ (N.frame _ _ _ hst₃ e4 st₄.tups) f₄ R₄ stA))
    · exact (mk3_4 (.ret _) m₄ H₄ h₄ r₄ R₄ stA)
  · obtain rfl : i = ds.length := by (first | lia | omega)
    rw [List.drop_eq_nil_of_le (Nat.le_refl _)] at hF
    refine N.done s' m' H' _ _ R' hF.1 st fun h₁ tk k₁ => ?_
    refine el0_3 (stepI (tk := tk) k₁) fun stp₂ R₂ _ => ?_
    exact wpAny_execs_nil ⟨.next, m', H', hF.2, trivial, R₂, stp₂⟩
end
theorem gv_law_sign (w : World) : GV w "_law_sign" (.ref 622) := gvG (by kernel_rfl)
theorem gv_law_fault (w : World) : GV w "_law_fault" (.ref 629) := gvG (by kernel_rfl)
theorem gv_law_ball (w : World) : GV w "_law_ball" (.ref 634) := gvG (by kernel_rfl)
theorem kf622 {w : World} : KeepOk w (.ref 622) := keep_ref (by kernel_rfl)
theorem kf629 {w : World} : KeepOk w (.ref 629) := keep_ref (by kernel_rfl)
theorem kf634 {w : World} : KeepOk w (.ref 634) := keep_ref (by kernel_rfl)
noncomputable def signV (ts : List Str) (codes : Bool) (tm : Tm) : V := match signT ts codes tm with
  | some x => .str x
  | none => .none
noncomputable def codeOk (codes : Bool) : Tm → Bool
  | .nu i => codes && (decide (0 ≤ i) && decide (i ≤ 1114111))
  | _ => false
noncomputable def oneOk (ts : List Str) (codes : Bool) : Tm → Bool
  | .sy n => !codes && ((ts[n.toNat]?).any fun x => x.length == 1)
  | _ => false
section
variable {k : BkA} {H : AH} {ts : List Str} {fn : List (List Int)}
theorem law_sign_ok {w : World} (B : Bk k H ts fn) (hts : ts.length ≤ 900) (st : Short ts) {tm : Tm} (kn : tm.known ts) {codes : Bool} {Q : V → AH → Prop} (q : Q (signV ts codes tm) H) : Fn 2 w (.ref 622) [.ref k.sy, tm.val, .bool codes] H Q := by
  refine Fn.p3 "book" "item" "as_codes" ok622 (by intro a b c; kernel_rfl) (by decide +kernel) (by decide +kernel) (by decide +kernel) ?_
  intro c hw hc hs hcl
  conv =>
    arg 3
    whnf
  conv at hs =>
    rhs
    whnf
  subst hw
  refine Exs.if_ (Tr.mono (Q := fun b H' => b = codeOk codes tm ∧ H' = H) ?_ ?_)
  · isplit
    isplit
    refine Tr.ev ?_
    isplit
    refine (mk1_2 _ rfl ?_)
    cases codes with
    | false => rw [if_neg Bool.false_ne_true]; exact ⟨by cases tm <;> rfl, rfl⟩
    | true =>
      rw [if_pos rfl]
      isplit
      isplit
      cases tm with
      | nu i =>
        refine Ev.subT ?_
        repeat isplit
        refine (mk1_2 _ rfl (Op2.item_tup (k := 0) rfl rfl (by simp) ?_))
        repeat isplit
        refine Op2.str_eq ⟨_, rfl, ?_⟩
        rw [if_pos (by decide +kernel)]
        isplit
        isplit
        repeat isplit
        refine Ev.subT ?_
        repeat isplit
        refine (mk1_2 _ rfl (Op2.item_tup (k := 1) rfl rfl (by simp) ?_))
        refine Op2.int_le ⟨_, rfl, ?_⟩
        by_cases h1 : 0 ≤ i
        · rw [if_pos (decide_eq_true h1)]
          isplit
          isplit
          refine Ev.subT ?_
          repeat isplit
          refine (mk1_2 _ rfl (Op2.item_tup (k := 1) rfl rfl (by simp) ?_))
          repeat isplit
          refine Op2.int_le ⟨_, rfl, ?_⟩
          by_cases h2 : i ≤ 1114111
          · rw [if_pos (decide_eq_true h2)]
            isplit
            exact ⟨by simp [codeOk, h1, h2], rfl⟩
          · rw [if_neg (by simpa using h2)]
            exact ⟨by simp [codeOk, h2], rfl⟩
        · rw [if_neg (by simpa using h1)]
          exact ⟨by simp [codeOk, h1], rfl⟩
      | vr n =>
        refine Ev.subT ?_
        repeat isplit
        refine (mk1_2 _ rfl (Op2.item_tup (k := 0) rfl rfl (by simp) ?_))
        repeat isplit
        refine Op2.str_eq ⟨_, rfl, ?_⟩
        rw [if_neg (by decide +kernel)]
        exact ⟨rfl, rfl⟩
      | sy n =>
        refine Ev.subT ?_
        repeat isplit
        refine (mk1_2 _ rfl (Op2.item_tup (k := 0) rfl rfl (by simp) ?_))
        repeat isplit
        refine Op2.str_eq ⟨_, rfl, ?_⟩
        rw [if_neg (by decide +kernel)]
        exact ⟨rfl, rfl⟩
      | co h t =>
        refine Ev.subT ?_
        repeat isplit
        refine (mk1_2 _ rfl (Op2.item_tup (k := 0) rfl rfl (by simp) ?_))
        repeat isplit
        refine Op2.str_eq ⟨_, rfl, ?_⟩
        rw [if_neg (by decide +kernel)]
        exact ⟨rfl, rfl⟩
  rintro b H' ⟨hb, rfl⟩
  cases b with
  | true =>
    rw [if_pos rfl]
    cases tm with
    | nu i =>
      simp only [codeOk, Bool.true_eq, Bool.and_eq_true, decide_eq_true_eq] at hb
      refine el0_3 hb fun z1 h1 h2 => ?_; try clear hb; subst z1
      repeat isplit
      refine Ev.chr hc (by nest_cls) ?_
      refine Ev.subT ?_
      repeat isplit
      refine (mk1_2 _ rfl (Op2.item_tup (k := 1) rfl rfl (by simp) ?_))
      refine (mk1_4 i rfl h1 h2 ?_)
      have e : signV ts true (.nu i) = .str ⟨#[i.toNat]⟩ := by simp [signV, signT, h1, h2]
      rw [e] at q
      exact q
    | _ => cases hb
  | false =>
    rw [if_neg Bool.false_ne_true]
    isplit
    isplit
    refine Exs.if_ (Tr.mono (Q := fun b H'' => b = oneOk ts codes tm ∧ H'' = H') ?_ ?_)
    · isplit
      isplit
      isplit
      isplit
      isplit
      refine (mk1_2 _ rfl ?_)
      cases codes with
      | true => exact ⟨by cases tm <;> rfl, rfl⟩
      | false =>
        rw [if_pos (show (!false) = true from rfl)]
        isplit
        isplit
        cases tm with
        | sy n =>
          refine el1_2 kn fun mm z2 hmm => ?_; try clear kn; subst z2
          have hx : ts[mm]? = some ts[mm] := List.getElem?_eq_getElem hmm
          have hsx : ts[mm].length ≤ 100 := st _ (List.getElem_mem hmm)
          refine Ev.subT ?_
          repeat isplit
          refine (mk1_2 _ rfl (Op2.item_tup (k := 0) rfl rfl (by simp) ?_))
          repeat isplit
          refine Op2.str_eq ⟨_, rfl, ?_⟩
          rw [if_pos (by decide +kernel)]
          isplit
          isplit
          refine Ev.lenS hc (by nest_cls) ?_
          refine Ev.im ?_
          isplit
          refine (mk5_5 _ _ _ _ 95 rfl B.inst (mk_meth (by kernel_rfl) (by kernel_rfl) (by kernel_rfl) (by kernel_rfl) (by kernel_rfl)) (by rfl) ?_)
          isplit
          refine Ev.subT ?_
          repeat isplit
          refine (mk1_2 _ rfl (Op2.item_tup (k := 1) rfl rfl (by simp) ?_))
          repeat isplit
          refine (text_ok B (by (first | lia | omega)) hx ?_).at hc
          refine (mk1_3 _ rfl (by (first | lia | omega)) ?_)
          repeat isplit
          refine Op2.int_eq ⟨_, rfl, ?_⟩
          have e1 : ((ts[mm].length : Int) == 1) = (ts[mm].length == 1) := by
            rw [Bool.eq_iff_iff]; simp only [beq_iff_eq]; (first | lia | omega)
          rw [e1]
          cases h1 : (ts[mm].length == 1) with
          | true =>
            rw [if_pos rfl]
            isplit
            exact ⟨by simp [oneOk, hx] at h1 ⊢; exact h1, rfl⟩
          | false =>
            rw [if_neg Bool.false_ne_true]
            exact ⟨by simp [oneOk, hx] at h1 ⊢; exact h1, rfl⟩
        | vr n =>
          refine Ev.subT ?_
          repeat isplit
          refine (mk1_2 _ rfl (Op2.item_tup (k := 0) rfl rfl (by simp) ?_))
          repeat isplit
          refine Op2.str_eq ⟨_, rfl, ?_⟩
          rw [if_neg (by decide +kernel)]
          exact ⟨rfl, rfl⟩
        | nu n =>
          refine Ev.subT ?_
          repeat isplit
          refine (mk1_2 _ rfl (Op2.item_tup (k := 0) rfl rfl (by simp) ?_))
          repeat isplit
          refine Op2.str_eq ⟨_, rfl, ?_⟩
          rw [if_neg (by decide +kernel)]
          exact ⟨rfl, rfl⟩
        | co h t =>
          refine Ev.subT ?_
          repeat isplit
          refine (mk1_2 _ rfl (Op2.item_tup (k := 0) rfl rfl (by simp) ?_))
          repeat isplit
          refine Op2.str_eq ⟨_, rfl, ?_⟩
          rw [if_neg (by decide +kernel)]
          exact ⟨rfl, rfl⟩
    rintro b H'' ⟨hb2, rfl⟩
    cases b with
    | true =>
      rw [if_pos rfl]
      cases tm with
      | sy n =>
        refine el1_2 kn fun mm z3 hmm => ?_; try clear kn; subst z3
        have hx : ts[mm]? = some ts[mm] := List.getElem?_eq_getElem hmm
        simp only [oneOk, Bool.true_eq, Bool.and_eq_true, Bool.not_eq_true'] at hb2
        refine el0_2 hb2 fun z4 h1 => ?_; try clear hb2; subst z4
        have h1' : ts[mm].length = 1 := by simpa [hx] using h1
        have e : signV ts false (.sy mm) = .str ts[mm] := by simp [signV, signT, hx, h1']
        rw [e] at q
        repeat isplit
        refine Ev.im ?_
        isplit
        refine (mk5_5 _ _ _ _ 95 rfl B.inst (mk_meth (by kernel_rfl) (by kernel_rfl) (by kernel_rfl) (by kernel_rfl) (by kernel_rfl)) (by rfl) ?_)
        isplit
        refine Ev.subT ?_
        repeat isplit
        refine (mk1_2 _ rfl (Op2.item_tup (k := 1) rfl rfl (by simp) ?_))
        repeat isplit
        exact (text_ok B (by (first | lia | omega)) hx q).at hc
      | _ => cases hb2
    | false =>
      rw [if_neg Bool.false_ne_true]
      repeat isplit
      have e : signV ts codes tm = .none := by
        cases tm with
        | nu i =>
          have : ¬ ((codes && decide (0 ≤ i) && decide (i ≤ 1114111)) = true) := by
            rw [Bool.and_assoc]; intro z
            have hb' : false = (codes && (decide (0 ≤ i) && decide (i ≤ 1114111))) := hb
            rw [z] at hb'; cases hb'
          simp only [signV, signT]; rw [if_neg this]
        | sy n =>
          cases codes with
          | true => rfl
          | false =>
            cases hx : ts[n.toNat]? with
            | none => simp [signV, signT, hx]
            | some x =>
              have : x.length ≠ 1 := by
                intro h; simp [oneOk, hx, h] at hb2
              simp [signV, signT, hx, this]
        | _ => rfl
      rw [e] at q
      exact q
theorem law_fault_ok {w : World} {tm : Tm} {codes : Bool} {Q : V → AH → Prop} (q : ∀ lp H', H lp = none → H' lp = some (.list ((faultT codes tm).2.map Pt.val)) → Off [] H H' → Q (.tup [.str (faultT codes tm).1, .ref lp]) H') : Fn 1 w (.ref 629) [tm.val, .bool codes] H Q := by
  refine Fn.p2 "item" "as_codes" ok629 (by intro a b; kernel_rfl) (by decide +kernel) (by decide +kernel) (by decide +kernel) ?_
  intro c hw hc hs hcl
  conv =>
    arg 3
    whnf
  conv at hs =>
    rhs
    whnf
  subst hw
  refine Exs.if_ (Tr.mono (Q := fun b H' => b = (codes && match tm with | .nu _ => true | _ => false) ∧ H' = H) ?_ ?_)
  · isplit
    isplit
    refine Tr.ev ?_
    isplit
    refine (mk1_2 _ rfl ?_)
    cases codes with
    | false => rw [if_neg Bool.false_ne_true]; exact ⟨rfl, rfl⟩
    | true =>
      rw [if_pos rfl]
      isplit
      isplit
      cases tm with
      | nu i =>
        refine Ev.subT ?_
        repeat isplit
        refine (mk1_2 _ rfl (Op2.item_tup (k := 0) rfl rfl (by simp) ?_))
        repeat isplit
        refine Op2.str_eq ⟨_, rfl, ?_⟩
        rw [if_pos (by decide +kernel)]
        isplit
        exact ⟨rfl, rfl⟩
      | vr n =>
        refine Ev.subT ?_
        repeat isplit
        refine (mk1_2 _ rfl (Op2.item_tup (k := 0) rfl rfl (by simp) ?_))
        repeat isplit
        refine Op2.str_eq ⟨_, rfl, ?_⟩
        rw [if_neg (by decide +kernel)]
        exact ⟨rfl, rfl⟩
      | sy n =>
        refine Ev.subT ?_
        repeat isplit
        refine (mk1_2 _ rfl (Op2.item_tup (k := 0) rfl rfl (by simp) ?_))
        repeat isplit
        refine Op2.str_eq ⟨_, rfl, ?_⟩
        rw [if_neg (by decide +kernel)]
        exact ⟨rfl, rfl⟩
      | co h t =>
        refine Ev.subT ?_
        repeat isplit
        refine (mk1_2 _ rfl (Op2.item_tup (k := 0) rfl rfl (by simp) ?_))
        repeat isplit
        refine Op2.str_eq ⟨_, rfl, ?_⟩
        rw [if_neg (by decide +kernel)]
        exact ⟨rfl, rfl⟩
  rintro b H' ⟨hb, rfl⟩
  cases b with
  | true =>
    rw [if_pos rfl]
    obtain ⟨rfl, i, rfl⟩ : codes = true ∧ ∃ i, tm = .nu i := by
      cases codes <;> cases tm <;> first | (cases hb; done) | exact (mk0_2 rfl  (mk1_1 _ rfl))
    repeat isplit
    refine ⟨fun lp hlp => ?_, by simp⟩
    isplit
    refine ⟨?_, by simp⟩
    exact q lp _ hlp (AH.set_self ..) (.new hlp)
  | false =>
    rw [if_neg Bool.false_ne_true]
    have e : faultT codes tm = (("type_error" : Str), [Pt.s (if codes then "integer" else "character"), Pt.t (untup tm.val)]) := by
      cases codes <;> cases tm <;> first | (cases hb; done) | rfl
    rw [e] at q
    repeat isplit
    refine (mk1_2 _ rfl ?_)
    cases codes with
    | true =>
      rw [if_pos rfl]
      repeat isplit
      refine ⟨fun lp hlp => ?_, by simp⟩
      isplit
      refine ⟨?_, by simp⟩
      refine q lp _ hlp ?_ (.new hlp)
      rw [AH.set_self]
      simp only [List.map_cons, List.map_nil, Pt.val, Tm.val_tup]; rfl
    | false =>
      rw [if_neg Bool.false_ne_true]
      repeat isplit
      refine ⟨fun lp hlp => ?_, by simp⟩
      isplit
      refine ⟨?_, by simp⟩
      refine q lp _ hlp ?_ (.new hlp)
      rw [AH.set_self]
      simp only [List.map_cons, List.map_nil, Pt.val, Tm.val_tup]; rfl
end
theorem Cmp.TrsAll.mono {c : Cx} {ifs : List Expr} {m : Loc} {H : AH} {Q Q' : Bool → AH → Prop} (h : Cmp.TrsAll c ifs m H Q) (k : ∀ b H', Q b H' → Q' b H') : Cmp.TrsAll c ifs m H Q' := by
  match ifs, h with
  | [], h => exact k _ _ h
  | [t], h => exact Tr.mono h k
theorem Cmp.inv {c : Cx} {P : AH → Prop} {x : Str} {ifs : List Expr} {elt : Expr} {m : Loc} {D : Addr} {Q : AH → Prop} {H : AH} (I : Nat → AH → Prop) (ds : List V) (h0 : I 0 H)
    (step : ∀ i d H', ds[i]? = some d → I i H' → P H' ∧ Cmp.TrsAll c ifs (m.set x d) H' fun b H₁ => if b = true then Ev c (fun _ _ => False) elt (m.set x d) H₁ fun y H₂ => ∃ ys, H₂ D = some (.list ys) ∧ ys.length ≤ 100000 ∧ I (i + 1) (H₂.set D (.list (ys ++ [y]))) else I (i + 1) H₁)
    (fin : ∀ H', I ds.length H' → P H' ∧ Q H') : Cmp c P x ifs elt m D ds H Q := by
  have go : ∀ (r : List V) (i : Nat) (H : AH), i ≤ ds.length → ds.drop i = r → I i H → Cmp c P x ifs elt m D r H Q := by
    intro r
    induction r with
    | nil =>
      intro i H hl hd hI
      have hi : ds.length ≤ i := List.drop_eq_nil_iff.mp hd
      have hl : i = ds.length := by (first | lia | omega)
      exact fin H (hl ▸ hI)
    | cons d r ih =>
      intro i H hl hd hI
      have hlt : i < ds.length := by
        rcases Nat.lt_or_ge i ds.length with h | h
        · exact h
        · rw [List.drop_eq_nil_of_le h] at hd; cases hd
      have hd' : ds[i]? = some d := by
        have := congrArg (fun l => l[0]?) hd
        simpa using this
      have hr : ds.drop (i + 1) = r := by rw [← List.drop_drop, hd]; rfl
      refine el0_2 (step i d H hd' hI) fun hP hT => ?_
      refine ⟨hP, hT.mono fun b H₁ h₁ => ?_⟩
      cases b with
      | false => rw [if_neg Bool.false_ne_true] at h₁ ⊢; exact ih (i + 1) H₁ hlt hr h₁
      | true =>
        rw [if_pos rfl] at h₁ ⊢
        exact h₁.mono fun y H₂ z1 => el1_3 z1 fun ys e1 e2 e3 => (mk1_3 ys e1 e2 (ih (i + 1) _ hlt hr e3))
  exact go ds 0 H (Nat.zero_le _) rfl h0
theorem Cmp.inv0 {c : Cx} {P : AH → Prop} {x : Str} {elt : Expr} {m : Loc} {D : Addr} {Q : AH → Prop} {H : AH} (I : Nat → AH → Prop) (ds : List V) (h0 : I 0 H)
    (step : ∀ i d H', ds[i]? = some d → I i H' → P H' ∧ Ev c (fun _ _ => False) elt (m.set x d) H' fun y H₂ => ∃ ys, H₂ D = some (.list ys) ∧ ys.length ≤ 100000 ∧ I (i + 1) (H₂.set D (.list (ys ++ [y]))))
    (fin : ∀ H', I ds.length H' → P H' ∧ Q H') : Cmp c P x [] elt m D ds H Q :=
  Cmp.inv I ds h0 (fun i d H' hd hI => ⟨(step i d H' hd hI).1, by show (if true = true then Ev c (fun _ _ => False) elt (m.set x d) H' _ else I (i + 1) H'); rw [if_pos rfl]; exact (step i d H' hd hI).2⟩) fin
theorem vOk_str (n : Nat) (x : Str) : vOk n (.str x) = PyData.strOk x := by cases n <;> rfl
theorem vOk_int (n : Nat) (i : Int) : vOk n (.int i) = true := by cases n <;> rfl
theorem vOk_tmA {n : Nat} (h : 1 ≤ n) (i : Int) : vOk n (tmA i) = true := by
  obtain ⟨n', rfl⟩ : ∃ n', n = n' + 1 := ⟨n - 1, by (first | lia | omega)⟩
  show ([V.str "a", V.int i].all (vOk n')) = true
  simp only [List.all_cons, List.all_nil, vOk_str, vOk_int, Bool.and_true]
  decide +kernel
theorem vOk_tmI {n : Nat} (h : 1 ≤ n) (i : Int) : vOk n (tmI i) = true := by
  obtain ⟨n', rfl⟩ : ∃ n', n = n' + 1 := ⟨n - 1, by (first | lia | omega)⟩
  show ([V.str "i", V.int i].all (vOk n')) = true
  simp only [List.all_cons, List.all_nil, vOk_str, vOk_int, Bool.and_true]
  decide +kernel
theorem vOk_tmV {n : Nat} (h : 1 ≤ n) (i : Nat) : vOk n (tmV i) = true := by
  obtain ⟨n', rfl⟩ : ∃ n', n = n' + 1 := ⟨n - 1, by (first | lia | omega)⟩
  show ([V.str "v", V.int i].all (vOk n')) = true
  simp only [List.all_cons, List.all_nil, vOk_str, vOk_int, Bool.and_true]
  decide +kernel
theorem vOk_tmC {n : Nat} {a b : V} (ha : vOk n a = true) (hb : vOk n b = true) : vOk (n + 2) (tmC a b) = true := by
  show ([V.str "s", V.int 0, V.tup [a, b]].all (vOk (n + 1))) = true
  have : vOk (n + 1) (.tup [a, b]) = true := by show ([a, b].all (vOk n)) = true; simp [ha, hb]
  simp only [List.all_cons, List.all_nil, vOk_str, vOk_int, this, Bool.and_true]
  decide +kernel
theorem vOk_up : ∀ (n : Nat) (d : V), vOk n d = true → vOk (n + 1) d = true
  | _, .none, _ => by rw [vOk]
  | _, .int _, _ => vOk_int _ _
  | _, .str x, h => by rw [vOk_str] at h ⊢; exact h
  | n, .bool _, h => by cases n <;> cases h
  | n, .ref _, h => by cases n <;> cases h
  | n, .ty _, h => by cases n <;> cases h
  | 0, .tup _, h => nomatch h
  | n + 1, .tup vs, h => by
    have h : vs.all (vOk n) = true := h
    show vs.all (vOk (n + 1)) = true
    rw [List.all_eq_true] at h ⊢
    exact fun d hd => vOk_up n d (h d hd)
theorem vOk_mono {n k : Nat} (h : n ≤ k) {d : V} (e : vOk n d = true) : vOk k d = true := by
  induction h with
  | refl => exact e
  | step _ ih => exact vOk_up _ _ ih
theorem Tm.vOk (tm : Tm) : Mine.vOk (2 * tm.nodes + 1) tm.val = true := by
  induction tm with
  | vr n => exact vOk_tmV (by (first | lia | omega)) n
  | sy n => exact vOk_tmA (by (first | lia | omega)) n
  | nu n => exact vOk_tmI (by (first | lia | omega)) n
  | co h t ih1 ih2 =>
    have := vOk_tmC (vOk_mono (k := 2 * h.nodes + 2 * t.nodes + 1) (by (first | lia | omega)) ih1) (vOk_mono (k := 2 * h.nodes + 2 * t.nodes + 1) (by (first | lia | omega)) ih2)
    exact vOk_mono (by simp only [Tm.nodes]; (first | lia | omega)) this
theorem foldP_ok {n : Nat} (h1 : 1 ≤ n) : ∀ (l : List Pt) (ts : List Str), (∀ p ∈ l, ∀ ds, p = .t ds → vOk n (.tup ds) = true) → ∀ d ∈ (foldP ts l).1, vOk n d = true
  | [], _, _, d, hd => nomatch hd
  | p :: r, ts, hok, d, hd => by
    rcases List.mem_cons.mp hd with rfl | hd
    · cases p with
      | s x => exact vOk_tmA h1 _
      | t ds => exact hok _ (.head _) ds rfl
    · exact foldP_ok h1 r _ (fun p hp => hok p (.tail _ hp)) d hd
section
variable {k : BkA} {H : AH} {ts : List Str} {fn : List (List Int)}
theorem law_ball_ok {w : World} (B : Bk k H ts fn) {name : Str} {l : List Pt} {lp : Addr} (hl : ts.length + l.length ≤ 900) (hf : fn.length ≤ 900) (hlp : H lp = some (.list (l.map Pt.val))) (hlk : lp ∉ k.all) {n : Nat} (hn0 : 1 ≤ n) (hn : n ≤ 50) (hok : ∀ p ∈ l, ∀ ds, p = .t ds → vOk n (.tup ds) = true) {Q : V → AH → Prop}
    (q : ∀ H', Bk k H' (ballT ts name l) (ballF ts fn name l) → Off k.all H H' → Q (ballV ts fn name l) H') : Fn 4 w (.ref 634) [.ref k.sy, .str name, .ref lp] H Q := by
  have i1 := B.inst
  refine Fn.ofX (FnX.mkC (ds := [("book", .ref k.sy), ("called", .str name), ("parts", .ref lp)]) ok634 (fun h vs r => ?_) (fun L y hy => ?_) (by show (["book", "called", "parts"] : List Str).Nodup; decide +kernel) ?_)
  · apply r.of3; intro v1 v2 v3 a b d
    exact (mk1_2 [("book", v1), ("called", v2), ("parts", v3)] (by kernel_rfl)  ⟨rfl, .cons a (.cons b (.cons d .nil))⟩)
  · simp only [List.map_cons, List.map_nil, List.mem_cons, List.mem_nil_iff, or_false] at hy
    rcases hy with rfl | rfl | rfl
    · exact .inr ⟨by decide +kernel, by rfl⟩
    · exact .inl (by decide +kernel)
    · exact .inl (by decide +kernel)
  intro c L hw hc hf' hs hcl hap
  conv =>
    arg 3
    whnf
  conv at hs =>
    rhs
    whnf
  subst hw
  show Exs _ _ _ (((Loc.nil.set "parts" (.ref lp)).set "called" (.str name)).set "book" (.ref k.sy)) _ _
  have hbk : CellAt c "book" := CellAt.of (kind_of (by assumption) (by kernel_rfl)) (a := L + 1) (by rw [hcl]; rfl) hap
  have hcl' : c.env.cells = ([("book", L + 1)] : List (Str × Addr)) := by rw [hcl]; rfl
  refine Exs.assignComp ([("book", L + 1)] : List (Str × Addr)) (swaps_yes hs (by kernel_rfl)) (by nest_cls) hc rfl (by decide +kernel) (by decide +kernel) (by decide +kernel) (fun x b e => ⟨by rw [hcl']; exact e, ?_⟩) (by unfold closureFor cellOf; rw [hcl']; kernel_rfl) (compL ?_)
  · have := mem_of_lookup e
    simp only [List.mem_singleton, Prod.mk.injEq] at this
    rw [this.1]; exact .inl hbk.1
  isplit
  refine (mk2_3 _ _ rfl hlp (fun C D hD hc' => ?_))
  generalize hcc : compCx c _ _ C = c' at hc' ⊢
  have hcs := (congrArg (fun x : Cx => x.env.scope) hcc).symm
  dsimp only [compCx, compEnvC] at hcs
  rw [relabel_eq, hs] at hcs
  have hce : c'.env.cells = ([("book", L + 1)] : List (Str × Addr)) := by rw [← hcc]; rfl
  have kb : c'.env.kindOf "book" = some .cell := kind_of hcs (by kernel_rfl)
  have hmb : compLoc c' (((Loc.nil.set "parts" (.ref lp)).set "called" (.str name)).set "book" (.ref k.sy)) "book" = some (.ref k.sy) := compLoc_cell kb nofun (by one_item)
  have Dk : D ∉ k.all := fun h => by refine el1_1 (B.there h) fun o e => ?_; rw [hD] at e; cases e
  refine Cmp.inv0 (fun i G => Bk k G (foldP ts (l.take i)).2 fn ∧ G D = some (.list (foldP ts (l.take i)).1) ∧ Off k.all H G) _ ⟨B.same fun a ha => AH.set_other _ _ (by rintro rfl; exact Dk ha), AH.set_self .., .new hD⟩ ?_ ?_
  · rintro i d G hd ⟨B₁, h5, o₁⟩
    rw [List.getElem?_map, Option.map_eq_some_iff] at hd
    refine el1_2 hd fun pt hpt z2 => ?_; try clear hd; subst z2
    have hi : i < l.length := (List.getElem?_eq_some_iff.mp hpt).1
    have hle := foldP_le ts (l.take i)
    have hle2 : (l.take i).length ≤ l.length := by simp; (first | lia | omega)
    have hnl := foldP_length ts (l.take i)
    have et : l.take (i + 1) = l.take i ++ [pt] := by rw [List.take_add_one, hpt]; rfl
    refine ⟨o₁ lp _ hlp hlk, ?_⟩
    isplit
    refine Tr.ev (Ev.call hc' (by nest_cls) (gv_isinstance _) (keep_builtin _) ?_)
    isplit
    isplit
    isplit
    refine Ev.gty hc' (by nest_cls) (gv_str _) ?_
    isplit
    cases pt with
    | s x =>
      refine OpN.isStr_str ⟨true, rfl, ?_⟩
      rw [if_pos rfl]
      isplit
      isplit
      isplit
      isplit
      refine Ev.im ?_
      refine Ev.cell hc' (Loc.other (by decide +kernel) hmb) kb (by rw [hce]; rfl) ?_
      refine (mk5_5 _ _ _ _ 88 rfl B₁.inst (mk_meth (by kernel_rfl) (by kernel_rfl) (by kernel_rfl) (by kernel_rfl) (by kernel_rfl)) (by rfl) ?_)
      repeat isplit
      refine (atom_ok B₁ (by (first | lia | omega)) fun H₂ B₂ o₂ => ?_).at hc'
      have h5' := o₂ D _ h5 Dk
      repeat isplit
      refine ⟨?_, by simp⟩
      refine (mk1_5 _ h5' (by (first | lia | omega)) ?_ ?_ (fun b ob e n => AH.other (fun z => by first | exact clash e hD z | exact clash hD e z.symm) (o₂ b ob (o₁ b ob e n) n)))
      · rw [et, foldP_snoc]; exact B₂.same fun a ha => AH.set_other _ _ (by rintro rfl; exact Dk ha)
      · rw [AH.set_self, et, foldP_snoc]; rfl
    | t ds =>
      refine OpN.isStr_tup ⟨false, rfl, ?_⟩
      rw [if_neg Bool.false_ne_true]
      isplit
      refine (mk1_5 _ h5 (by (first | lia | omega)) ?_ ?_ (fun b ob e n => AH.other (fun z => by first | exact clash e hD z | exact clash hD e z.symm) (o₁ b ob e n)))
      · rw [et, foldP_snoc]; exact B₁.same fun a ha => AH.set_other _ _ (by rintro rfl; exact Dk ha)
      · rw [AH.set_self, et, foldP_snoc]; rfl
  · rintro G ⟨B₁, h5, o₁⟩
    rw [List.length_map, List.take_length] at h5 B₁
    have hle := foldP_le ts l
    have hnl := foldP_length ts l
    refine ⟨o₁ lp _ hlp hlk, ?_⟩
    isplit
    isplit
    isplit
    isplit
    isplit
    isplit
    refine ⟨fun e he => ?_, by simp⟩
    have eD : D ≠ e := fun z => by first | exact clash h5 he z | exact clash he h5 z.symm
    refine Op2.ne_list hc (AH.other eD h5) (AH.set_self ..) (foldP_ok hn0 l ts hok) (by simp) (n := n) (k := 1) (by (first | lia | omega)) (by (first | lia | omega)) fun t ht => (mk1_2 t rfl ?_)
    have B₃ : Bk k (G.set e (.list [])) (foldP ts l).2 fn := B₁.off (.new he)
    have o₃ : Off k.all H (G.set e (.list [])) := o₁.trans (.new he)
    have h5' : (G.set e (.list [])) D = some (.list (foldP ts l).1) := AH.other eD h5
    generalize G.set e (.list []) = G' at B₃ o₃ h5' ⊢
    cases l with
    | nil =>
      have ht' : t = false := by
        rw [← Bool.not_eq_true, ht]; simp [foldP]
      subst ht'
      rw [if_neg Bool.false_ne_true]
      isplit
      isplit
      isplit
      isplit
      refine Ev.im ?_
      refine Ev.cellA hc hbk (by one_item) ?_
      refine (mk5_5 _ _ _ _ 88 rfl B₃.inst (mk_meth (by kernel_rfl) (by kernel_rfl) (by kernel_rfl) (by kernel_rfl) (by kernel_rfl)) (by rfl) ?_)
      repeat isplit
      refine (atom_ok B₃ (by simp [foldP]; (first | lia | omega)) fun H₂ B₂ o₂ => ?_).at hc
      repeat (first | isplit | refine And.intro ?_ (by simp; done))
      exact q _ B₂ (o₃.trans o₂)
    | cons p r =>
      have ht' : t = true := by
        rw [ht]; simp [foldP]
      subst ht'
      rw [if_pos rfl]
      isplit
      isplit
      isplit
      isplit
      refine Ev.im ?_
      refine Ev.cellA hc hbk (by one_item) ?_
      refine (mk5_5 _ _ _ _ 109 rfl B₃.inst (mk_meth (by kernel_rfl) (by kernel_rfl) (by kernel_rfl) (by kernel_rfl) (by kernel_rfl)) (by rfl) ?_)
      repeat isplit
      refine Ev.lenL hc (by nest_cls) ?_
      isplit
      refine (mk2_4 _ _ rfl h5' (by (first | lia | omega)) ?_)
      repeat isplit
      rw [hnl]
      refine (func_ok B₃ (by (first | lia | omega)) (by (first | lia | omega)) fun H₂ B₂ o₂ => ?_).at hc
      have h6 := o₂ D _ h5' Dk
      repeat isplit
      refine Ev.tupleL hc (by nest_cls) ?_
      isplit
      refine (mk2_4 _ _ rfl h6 (by (first | lia | omega)) ?_)
      repeat (first | isplit | refine And.intro ?_ (by simp; done))
      exact q _ B₂ (o₃.trans o₂)
end
theorem length_append_str (x y : Str) : (x ++ y).length = x.length + y.length := by
  obtain ⟨a⟩ := x; obtain ⟨b⟩ := y
  exact Array.size_append
theorem cat_len (xs : List Str) : (cat xs).length = (xs.map (·.length)).sum := by
  induction xs with
  | nil => rfl
  | cons x r ih => rw [cat_cons, length_append_str, ih]; rfl
theorem Tm.tag0 (tm : Tm) : ∃ t ds, tm.val = .tup (.str t :: ds) ∧ ds.length ≤ 5 ∧ (t = "v" ↔ tm.free = true) := by
  cases tm with
  | vr n => exact (mk2_3 _ _ rfl (by simp) (by simp [Tm.free]))
  | sy n => exact (mk2_3 _ _ rfl (by simp) ⟨fun h => absurd h (by decide +kernel), fun h => by cases h⟩)
  | nu n => exact (mk2_3 _ _ rfl (by simp) ⟨fun h => absurd h (by decide +kernel), fun h => by cases h⟩)
  | co h t => exact (mk2_3 _ _ rfl (by simp) ⟨fun h => absurd h (by decide +kernel), fun h => by cases h⟩)
section
variable {lv : Nat} {c : Cx} {E : ER} {m : Loc} {H : AH} {k : BkA} {ts : List Str} {fn : List (List Int)}
theorem Op2.item_tupE {a d : V} {ds : List V} {i : Int} {n : Nat} {Q : V → AH → Prop} (ha : a = .tup ds) (hi : i = (n : Int)) (hd : ds[n]? = some d) (hs : ds.length ≤ 100000) (q : Q d H) : Op2 c E getItem a (.int i) m H Q := by
  subst ha; exact Op2.item_tup hi hd hs q
theorem Tr.isV {x : Str} {p1 p2 p3 p4 p5 : Pos} {k1 k2 : Nat} {tm : Tm} {Q : Bool → AH → Prop} (hc : CxOk lv c) (hx : m x = some tm.val) (hk : c.env.kindOf x = some .local) (q : Q tm.free H) (hd : (x == ("__debug__" : Str)) = false)
    (h : ∀ {Q : V → AH → Prop}, (Ev c E (.Name x p1) m H fun a H₁ => Ev c E (.Constant (.int 0) k1 p2) m H₁ fun b H₂ => ∃ ds, a = .tup ds ∧ Op2 c E getItem a b m H₂ Q) → Ev c E (.Subscript (.Name x p1) (.Constant (.int 0) k1 p2) p3) m H Q) :
    Tr c E (.Compare (.Subscript (.Name x p1) (.Constant (.int 0) k1 p2) p3) [.Eq] [.Constant (.str "v") k2 p4] p5) m H Q := by
  refine el2_3 tm.tag0 fun t ds e hl hf => ?_
  rw [e] at hx
  refine Tr.cmp (h (Ev.name hc hx hk (Ev.int ⟨_, rfl, Op2.item_tup (k := 0) rfl rfl (by simp; (first | lia | omega)) (Ev.str (Op2.str_eq ⟨_, rfl, ?_⟩))⟩) hd))
  have : (t == ("v" : Str)) = tm.free := by rw [Bool.eq_iff_iff, beq_iff_eq, hf]
  rw [this]; exact q
end
section
variable {k : BkA} {H : AH} {ts : List Str} {fn : List (List Int)}
theorem law_due_ok {w : World} (B : Bk k H ts fn) (hts : ts.length ≤ 700) (hfn : fn.length ≤ 700) (st : Short ts) {L : List Tm} {e whole : Tm} {ia : Addr} (hia : H ia = some (.list (L.map Tm.val))) (hik : ia ∉ k.all) (hkn : ∀ t ∈ L, t.known ts) (hnd : ∀ t ∈ L, t.nodes ≤ 1) (hL : L.length ≤ 100)
    (he : e.free = true ∨ ∃ n, e = .sy n) (hw : whole.nodes ≤ 20) {codes known : Bool} {Q : V → AH → Prop}
    (q : ∀ H', Bk k H' ((out ts L e whole.val codes known).t ts) ((out ts L e whole.val codes known).f ts fn) → Off k.all H H' → Q ((out ts L e whole.val codes known).v ts fn) H') : Fn 5 w (.ref 639) [.ref k.sy, .ref ia, e.val, whole.val, .bool codes, .bool known] H Q := by
  refine Fn.mkN (ds := [("book", .ref k.sy), ("items", .ref ia), ("end", e.val), ("whole", whole.val), ("as_codes", .bool codes), ("known", .bool known)]) ["book", "items", "end", "whole", "as_codes", "known"] ok639 (fun s vs X r => ?_) rfl (by decide +kernel) (by decide +kernel) (by decide +kernel) ?_
  · apply r.of6; intro v1 v2 v3 v4 v5 v6 a b e f g h
    exact (mk1_2 [("book", v1), ("items", v2), ("end", v3), ("whole", v4), ("as_codes", v5), ("known", v6)] (BindsTo.of_eq (by kernel_rfl))  ⟨rfl, .cons a (.cons b (.cons e (.cons f (.cons g (.cons h .nil)))))⟩)
  intro c hw hc hs hcl
  conv =>
    arg 3
    whnf
  conv at hs =>
    rhs
    whnf
  subst hw
  show Exs _ _ _ ((((((Loc.nil.set "known" (.bool known)).set "as_codes" (.bool codes)).set "whole" whole.val).set "end" e.val).set "items" (.ref ia)).set "book" (.ref k.sy)) _ _
  refine Exs.if_ (Tr.mono (Q := fun b H' => b = (!e.free && !e.isNil) ∧ H' = H) ?_ ?_)
  · isplit
    isplit
    isplit
    rcases he with hf | ⟨n, rfl⟩
    · cases e with
      | vr n =>
        refine Ev.subT ?_
        repeat isplit
        refine (mk1_2 _ rfl (Op2.item_tup (k := 0) rfl rfl (by simp) ?_))
        repeat isplit
        refine Op2.str_eq ⟨_, rfl, ?_⟩
        rw [if_neg (by decide +kernel)]
        exact ⟨rfl, rfl⟩
      | _ => cases hf
    · refine Ev.subT ?_
      repeat isplit
      refine (mk1_2 _ rfl (Op2.item_tup (k := 0) rfl rfl (by simp) ?_))
      repeat isplit
      refine Op2.str_eq ⟨_, rfl, ?_⟩
      rw [if_pos (by decide +kernel)]
      isplit
      isplit
      refine Ev.subT ?_
      repeat isplit
      refine (mk1_2 _ rfl (Op2.item_tup (k := 1) rfl rfl (by simp) ?_))
      repeat isplit
      refine Op2.int_ne ⟨_, rfl, ?_⟩
      have e1 : ((n : Int) != 0) = (!(Tm.sy n).free && !(Tm.sy n).isNil) := rfl
      rw [e1]
      split
      · rename_i h; isplit; exact ⟨h.symm, rfl⟩
      · rename_i h; exact ⟨by rw [Bool.not_eq_true] at h; exact h.symm, rfl⟩
  rintro b H' ⟨hb, rfl⟩
  cases b with
  | true =>
    rw [if_pos rfl]
    have ho : out ts L e whole.val codes known = .err "type_error" [.s "list", .t (untup whole.val)] := by
      unfold out; rw [← hb, if_pos rfl]
    rw [ho] at q
    isplit
    refine Ev.call hc (by nest_cls) (gv_law_ball _) kf634 ?_
    repeat isplit
    refine ⟨fun lp hlp => ?_, by simp⟩
    have lk : lp ∉ k.all := fun h => by refine el1_1 (B.there h) fun o e => ?_; rw [hlp] at e; cases e
    repeat isplit
    refine (law_ball_ok (B.off (.new hlp)) (name := "type_error") (l := [.s "list", .t (untup whole.val)]) (n := 41) (by simp; (first | lia | omega)) (by (first | lia | omega)) (by rw [AH.set_self]; simp [Pt.val, Tm.val_tup]) lk (by (first | lia | omega)) (by (first | lia | omega)) (fun p hp ds hd => ?_) fun H₂ B₂ o₂ => ?_).at hc
    · subst hd
      simp only [List.mem_cons, Pt.t.injEq, List.mem_nil_iff, or_false, reduceCtorEq, false_or] at hp
      rw [hp, Tm.val_tup]
      exact vOk_mono (by (first | lia | omega)) (Tm.vOk whole)
    · exact q H₂ B₂ ((Off.new hlp).trans o₂)
  | false =>
    rw [if_neg Bool.false_ne_true]
    isplit
    isplit
    refine el2_3 e.tag0 fun te de ee hle hfe => ?_
    have tv : (te == ("v" : Str)) = e.free := by rw [Bool.eq_iff_iff, beq_iff_eq, hfe]
    refine Exs.assign hc (by nest_cls) (Ev.mono (Q := fun v G => v = .bool (lackT L e) ∧ Off [] H' G) ?_ ?_)
    · refine Ev.or2 ?_
      isplit
      refine Ev.subT ?_
      isplit
      isplit
      refine (mk1_2 (.str te :: de) ee (Op2.item_tupE (n := 0) ee rfl rfl (Nat.le_trans (Nat.succ_le_succ hle) (by (first | lia | omega))) ?_))
      isplit
      refine Op2.str_eq ⟨_, rfl, ?_⟩
      rw [tv]
      cases hf : e.free with
      | true => rw [if_pos rfl]; exact ⟨by simp [lackT, hf], .refl _ _⟩
      | false =>
        rw [if_neg Bool.false_ne_true]
        isplit
        refine Ev.comp [] hc rfl (by decide +kernel) (by decide +kernel) (by decide +kernel) nofun (by kernel_rfl) (compL ?_)
        isplit
        refine (mk2_3 _ _ rfl hia (fun C D hD hc' => ?_))
        generalize hcc : compCx c _ _ C = c' at hc' ⊢
        have hcs := (congrArg (fun x : Cx => x.env.scope) hcc).symm
        dsimp only [compCx, compEnvC] at hcs
        rw [relabel_eq, hs] at hcs
        have hDi : ia ≠ D := fun z => by first | exact clash hia hD z | exact clash hD hia z.symm
        have ki : c'.env.kindOf "item" = some .local := kind_of hcs (by kernel_rfl)
        refine Cmp.inv (fun i G => G D = some (.list (((L.take i).filter Tm.free).map Tm.val)) ∧ Off [] H' G) _ ⟨AH.set_self .., .new hD⟩ ?_ ?_
        · rintro i d G hd ⟨g1, o₁⟩
          rw [List.getElem?_map, Option.map_eq_some_iff] at hd
          refine el1_2 hd fun tm htm z1 => ?_; try clear hd; subst z1
          have hi : i < L.length := (List.getElem?_eq_some_iff.mp htm).1
          have et : L.take (i + 1) = L.take i ++ [tm] := by rw [List.take_add_one, htm]; rfl
          have hfl : ((L.take i).filter Tm.free).length ≤ 100 := Nat.le_trans (List.length_filter_le _ _) (by rw [List.length_take]; (first | lia | omega))
          refine ⟨o₁ ia _ hia (by simp), ?_⟩
          refine Tr.isV (tm := tm) hc' (Loc.self _ _ _) ki ?_ (by decide) (fun z => Ev.subT z)
          cases hft : tm.free with
          | true =>
            rw [if_pos rfl]
            refine Ev.name hc' (Loc.self _ _ _) ki ⟨_, g1, by simp; (first | lia | omega), ?_, fun b ob e n => AH.other (fun z => by first | exact clash e hD z | exact clash hD e z.symm) (o₁ b ob e n)⟩
            rw [AH.set_self, et, List.filter_append]; simp [hft]
          | false =>
            rw [if_neg Bool.false_ne_true]
            refine ⟨?_, o₁⟩
            rw [g1, et, List.filter_append]; simp [hft]
        · rintro G ⟨g1, o₁⟩
          rw [List.length_map, List.take_length] at g1
          refine ⟨o₁ ia _ hia (by simp), ?_⟩
          isplit
          isplit
          refine ⟨fun e2 he2 => ?_, by simp⟩
          have De : D ≠ e2 := fun z => by first | exact clash g1 he2 z | exact clash he2 g1 z.symm
          refine Op2.ne_list hc (AH.other De g1) (AH.set_self ..) (n := 3) (k := 1) (fun d hd => ?_) (by simp) (by (first | lia | omega)) (by (first | lia | omega)) fun t ht => ⟨?_, o₁.trans (.new he2)⟩
          · refine el1_2 (List.mem_map.mp hd) fun tm htm z2 => ?_; subst z2
            exact vOk_mono (by have := hnd tm ((List.mem_filter.mp htm).1); (first | lia | omega)) (Tm.vOk tm)
          · congr 1
            rw [Bool.eq_iff_iff, ht]
            simp [lackT, hf, List.filter_eq_nil_iff]
    rintro v G ⟨rfl, o₁⟩
    have B₁ := B.off o₁
    have hia₁ := o₁ ia _ hia (by simp)
    refine Exs.if_ (Tr.mono (Q := fun b G' => b = (lackT L e && !known) ∧ G' = G) ?_ ?_)
    · isplit
      isplit
      isplit
      isplit
      refine (mk1_2 _ rfl ?_)
      cases lackT L e with
      | false => rw [if_neg Bool.false_ne_true]; exact ⟨rfl, rfl⟩
      | true =>
        rw [if_pos rfl]
        isplit
        isplit
        isplit
        isplit
        refine (mk1_2 _ rfl ?_)
        cases known with
        | true => rw [if_neg (show ¬ ((!true) = true) from Bool.false_ne_true)]; exact ⟨rfl, rfl⟩
        | false =>
          rw [if_pos (show (!false) = true from rfl)]
          isplit
          exact ⟨rfl, rfl⟩
    rintro b G' ⟨hb2, rfl⟩
    cases b with
    | true =>
      rw [if_pos rfl]
      have ho : out ts L e whole.val codes known = .err "instantiation_error" [] := by
        unfold out; rw [← hb, if_neg Bool.false_ne_true, ← hb2, if_pos rfl]
      rw [ho] at q
      isplit
      refine Ev.call hc (by nest_cls) (gv_law_ball _) kf634 ?_
      repeat isplit
      refine ⟨fun lp hlp => ?_, by simp⟩
      have lk : lp ∉ k.all := fun h => by refine el1_1 (B₁.there h) fun o e => ?_; rw [hlp] at e; cases e
      repeat isplit
      refine (law_ball_ok (B₁.off (.new hlp)) (name := "instantiation_error") (l := []) (n := 1) (by simp; (first | lia | omega)) (by (first | lia | omega)) (by rw [AH.set_self]; rfl) lk (by (first | lia | omega)) (by (first | lia | omega)) nofun fun H₂ B₂ o₂ => ?_).at hc
      exact q H₂ B₂ (((o₁.trans (.new hlp)).mono nofun).trans o₂)
    | false =>
      rw [if_neg Bool.false_ne_true]
      have ho : out ts L e whole.val codes known = match chars ts codes L with
          | .error t => .err (faultT codes t).1 (faultT codes t).2
          | .ok xs => .val (if lackT L e then .none else .str (cat xs)) := by
        unfold out; rw [← hb, if_neg Bool.false_ne_true, ← hb2, if_neg Bool.false_ne_true]
        all_goals (cases chars ts codes L <;> rfl)
      repeat isplit
      refine Exs.cons (Ex.forL hc .never (by nest_cls) ?_)
      isplit
      refine (mk2_3 _ _ rfl hia₁ ?_)
      refine For.inv (fun i m G => G = G' ∧ ∃ xs, chars ts codes (L.take i) = .ok xs ∧ m "book" = some (.ref k.sy) ∧ m "as_codes" = some (.bool codes) ∧ m "lacking" = some (.bool (lackT L e)) ∧ m "text" = some (.str (cat xs))) _
        ⟨rfl, [], rfl, by one_item, by one_item, by one_item, by one_item⟩ ?_ ?_
      · rintro i d m G hd ⟨rfl, xs, g0, g1, g2, g3, g4⟩
        rw [List.getElem?_map, Option.map_eq_some_iff] at hd
        refine el1_2 hd fun tm htm z3 => ?_; try clear hd; subst z3
        have hi : i < L.length := (List.getElem?_eq_some_iff.mp htm).1
        have et : L.take (i + 1) = L.take i ++ [tm] := by rw [List.take_add_one, htm]; rfl
        have hmem := List.mem_of_getElem? htm
        refine el2_3 tm.tag0 fun tt dt e5 hl5 hf5 => ?_
        have tv5 : (tt != ("v" : Str)) = !tm.free := by rw [bne, Bool.not_inj_iff, Bool.eq_iff_iff, beq_iff_eq, hf5]
        have hxl := chars_ones g0
        simp only [List.length_take] at hxl
        refine ⟨hia₁, ?_⟩
        refine Exs.if_ ?_
        isplit
        refine Ev.subT ?_
        isplit
        isplit
        refine (mk1_2 (.str tt :: dt) e5 (Op2.item_tupE (n := 0) e5 rfl rfl (Nat.le_trans (Nat.succ_le_succ hl5) (by (first | lia | omega))) ?_))
        isplit
        refine Op2.str_ne ⟨_, rfl, ?_⟩
        rw [tv5]
        cases hft : tm.free with
        | true =>
          rw [if_neg (show ¬ ((!true) = true) from Bool.false_ne_true)]
          repeat isplit
          exact (mk0_2 rfl  (mk1_5 xs (by rw [et]; exact chars_snoc_free g0 hft) (by one_item) (by one_item) (by one_item) (by one_item)))
        | false =>
          rw [if_pos (show (!false) = true from rfl)]
          isplit
          refine Ev.call hc (by nest_cls) (gv_law_sign _) kf622 ?_
          repeat isplit
          refine (law_sign_ok B₁ (by (first | lia | omega)) st (hkn tm hmem) ?_).at hc
          refine Exs.if_ ?_
          isplit
          isplit
          isplit
          refine Op2.is_none ?_
          cases hsg : signT ts codes tm with
          | none =>
            have e6 : signV ts codes tm = .none := by simp [signV, hsg]
            rw [e6]
            refine (mk1_2 _ rfl ?_)
            rw [if_pos rfl]
            have hw2 : chars ts codes L = .error tm := by
              have : L = L.take i ++ tm :: L.drop (i + 1) := by
                obtain ⟨h3, h4⟩ := List.getElem?_eq_some_iff.mp htm
                rw [← h4, List.getElem_cons_drop, List.take_append_drop]
              rw [this]; exact chars_wrong g0 hft hsg
            rw [hw2] at ho
            rw [ho] at q
            isplit
            refine Ev.call hc (by nest_cls) (gv_law_fault _) kf629 ?_
            repeat isplit
            refine (law_fault_ok fun lp H₂ hlp hlp2 o₂ => ?_).at hc
            refine (mk2_2 _ _ rfl ?_)
            have lk : lp ∉ k.all := fun h => by refine el1_1 (B₁.there h) fun o e => ?_; rw [hlp] at e; cases e
            isplit
            refine Ev.call hc (by nest_cls) (gv_law_ball _) kf634 ?_
            repeat isplit
            have hlen2 : (faultT codes tm).2.length ≤ 2 := by
              cases tm <;> cases codes <;> simp [faultT]
            refine (law_ball_ok (B₁.off o₂) (n := 5) (by (first | lia | omega)) (by (first | lia | omega)) hlp2 lk (by (first | lia | omega)) (by (first | lia | omega)) (fun p hp ds hd => ?_) fun H₃ B₃ o₃ => ?_).at hc
            · subst hd
              have : V.tup ds = tm.val := by
                cases tm <;> cases codes <;> simp [faultT] at hp <;> subst hp <;> rfl
              rw [this]
              exact vOk_mono (by have := hnd tm hmem; (first | lia | omega)) (Tm.vOk tm)
            · exact q H₃ B₃ (((o₁.trans o₂).mono nofun).trans o₃)
          | some x =>
            have e6 : signV ts codes tm = .str x := by simp [signV, hsg]
            rw [e6]
            refine (mk1_2 _ rfl ?_)
            rw [if_neg Bool.false_ne_true]
            repeat isplit
            refine Op2.str_add (by rw [cat_len, hxl.1, signT_one hsg]; (first | lia | omega)) ?_
            repeat isplit
            exact (mk0_2 rfl  (mk1_5 (xs ++ [x]) (by rw [et]; exact chars_snoc g0 hft hsg) (by one_item) (by one_item) (by one_item) (by rw [cat_snoc]; one_item)))
      · rintro m G ⟨rfl, xs, g0, g1, g2, g3, g4⟩
        rw [List.length_map, List.take_length] at g0
        rw [g0] at ho
        rw [ho] at q
        refine ⟨hia₁, ?_⟩
        isplit
        isplit
        isplit
        isplit
        isplit
        refine (mk1_2 _ rfl ?_)
        have fin := q G B₁ (o₁.mono nofun)
        cases hlk : lackT L e with
        | true =>
          rw [if_pos rfl]
          isplit
          rw [hlk] at fin; exact fin
        | false =>
          rw [if_neg Bool.false_ne_true]
          isplit
          rw [hlk] at fin; exact fin
end
noncomputable def wholeT (L : List Tm) (e : Tm) : Tm := L.foldr Tm.co e
theorem wholeT_cons (t : Tm) (L : List Tm) (e : Tm) : wholeT (t :: L) e = .co t (wholeT L e) := rfl
theorem wholeT_nodes (L : List Tm) (e : Tm) (h : ∀ t ∈ L, t.nodes ≤ 1) : (wholeT L e).nodes ≤ 2 * L.length + e.nodes := by
  induction L with
  | nil => simp [wholeT]
  | cons t r ih =>
    rw [wholeT_cons]
    have h1 := h t (.head _)
    have h2 := ih fun t ht => h t (.tail _ ht)
    simp only [Tm.nodes, List.length_cons]; (first | lia | omega)
theorem wholeT_vars (L : List Tm) (e : Tm) : (wholeT L e).vars = L.flatMap Tm.vars ++ e.vars := by
  induction L with
  | nil => rfl
  | cons t r ih => rw [wholeT_cons, Tm.vars, ih]; simp
theorem Sh.size {t : Tm} {x : CT} (h : Sh t x) : x.size = 2 * t.nodes + 1 := by
  induction h with
  | co _ _ i1 i2 => simp only [CT.size, Tm.nodes, i1, i2]; (first | lia | omega)
  | _ => rfl
theorem Sh.vlen {t : Tm} {x : CT} (h : Sh t x) : x.vars.length = t.vars.length := by
  induction h with
  | co _ _ i1 i2 => simp [CT.vars, Tm.vars, i1, i2]
  | _ => rfl
theorem split_list {cs : List (Int × Int)} {e : Tm} (he : e.nodes = 0) : ∀ (L : List Tm) (ct : CT), Sh (wholeT L e) ct → Rp cs ct → ct.blocks.Nodup →
    ∃ (P : List (Tm × CT)) (ec : CT) (as : List Nat), P.map (·.1) = L ∧ Sh e ec ∧ LA cs ct.cell (P.map fun p => p.2.cell) ec.cell as ∧ as.Nodup ∧ (∀ b ∈ as, b ∈ ct.blocks) ∧ ∀ p ∈ P, Sh p.1 p.2 ∧ Rp cs p.2 ∧ p.2.blocks.Nodup ∧ ∀ v ∈ p.2.vars, v ∈ ct.vars := by
  intro L
  induction L with
  | nil =>
    intro ct h r nd
    refine (mk3_6 [] ct [] rfl h (.nil ?_) .nil nofun nofun)
    cases h with
    | co _ _ => simp [wholeT, Tm.nodes] at he
    | _ => simp [CT.cell]
  | cons t L ih =>
    intro ct h r nd
    rw [wholeT_cons] at h
    cases h with
    | co h1 h2 =>
      rename_i b x y
      refine el0_4 r fun r1 r2 rx ry => ?_; try clear r
      simp only [CT.blocks, List.nodup_cons, List.mem_append, not_or] at nd
      refine el0_2 nd fun z1 nd2 => ?_; try clear nd; refine el0_2 z1 fun nb1 nb2 => ?_
      rw [List.nodup_append] at nd2
      refine el0_3 nd2 fun ndx ndy dis => ?_; try clear nd2
      refine el3_6 (ih y h2 ry ndy) fun P ec as e1 e2 e3 e4 e5 e6 => ?_
      refine (mk3_6 ((t, x) :: P) ec (b :: as) (by rw [List.map_cons, e1]) e2 (.cons r1 r2 rx.good ry.good e3) (List.nodup_cons.mpr ⟨fun z => nb2 (e5 b z), e4⟩) ?_ ?_)
      · intro b' hb'
        rcases List.mem_cons.mp hb' with rfl | hb'
        · simp [CT.blocks]
        · simp [CT.blocks, e5 b' hb']
      · intro p hp
        rcases List.mem_cons.mp hp with rfl | hp
        · exact (mk0_4 h1 rx ndx (fun v hv => by simp [CT.vars, hv]))
        · refine el0_4 (e6 p hp) fun a1 a2 a3 a4 => ?_
          exact (mk0_4 a1 a2 a3 (fun v hv => by simp [CT.vars, a4 v hv]))
theorem take_canon {t : Tm} {x : CT} (h : Sh t x) : ∀ tb : List Int, t.vars = List.range' tb.length t.vars.length → x.vars.Nodup → (∀ v ∈ x.vars, (v : Int) ∉ tb) → (x.take tb).1 = t.val ∧ (x.take tb).2 = tb ++ x.vars.map fun v => ((v : Nat) : Int) := by
  induction h with
  | vr n a =>
    intro tb hv _ hd
    have hv' : n = tb.length := by simpa [Tm.vars, List.range'] using hv
    have hn : (a : Int) ∉ tb := hd a (by simp [CT.vars])
    refine ⟨?_, ?_⟩
    · show tmV (ix tb (a : Int)) = tmV n
      rw [idxOf_new hn, hv']
    · show addK tb (a : Int) = _
      rw [addK_new hn]; rfl
  | sy n => intro tb _ _ _; exact ⟨rfl, by simp [CT.take, CT.vars]⟩
  | nu n => intro tb _ _ _; exact ⟨rfl, by simp [CT.take, CT.vars]⟩
  | co h1 h2 i1 i2 =>
    rename_i h t b x y
    intro tb hv hnd hd
    simp only [Tm.vars, List.length_append] at hv
    rw [← List.range'_append_1] at hv
    have hl : h.vars.length = (List.range' tb.length h.vars.length).length := by simp
    refine el0_2 (List.append_inj hv hl) fun v1 v2 => ?_
    simp only [CT.vars, List.nodup_append] at hnd
    refine el0_3 hnd fun n1 n2 n3 => ?_; try clear hnd
    obtain ⟨a1, a2⟩ := i1 tb v1 n1 fun v hv => hd v (by simp [CT.vars, hv])
    have hlen : (x.take tb).2.length = tb.length + h.vars.length := by rw [a2]; simp [h1.vlen]
    obtain ⟨b1, b2⟩ := i2 (x.take tb).2 (by rw [hlen]; exact v2) n2 fun v hv => by
      rw [a2, List.mem_append, not_or]
      refine ⟨hd v (by simp [CT.vars, hv]), fun hm => ?_⟩
      refine el1_2 (List.mem_map.mp hm) fun u hu e => ?_
      exact n3 u hu v hv (by (first | lia | omega))
    refine ⟨?_, ?_⟩
    · show tmC (x.take tb).1 (y.take (x.take tb).2).1 = _
      rw [a1, b1]; rfl
    · show (y.take (x.take tb).2).2 = _
      rw [b2, a2]; simp [CT.vars]
noncomputable def spineT (a : Nat) : List CT → CT
  | [] => .sy 0
  | c :: r => .co a c (spineT (a + 2) r)
noncomputable def CT.plain : CT → Prop
  | .sy _ => True
  | .nu _ => True
  | _ => False
theorem spineT_Rp {cs : List (Int × Int)} : ∀ (C : List CT) (a : Nat), (∀ c ∈ C, c.plain) → (∀ i p, (spine a (4, 0) (C.map CT.cell))[i]? = some p → cs[a + i]? = some p) → Rp cs (spineT a C)
  | [], _, _, _ => trivial
  | [c], a, hp, h => by
    refine (mk0_4 (h 0 _ rfl) (h 1 _ rfl) ?_ trivial)
    have := hp c (.head _)
    cases c <;> first | exact this.elim | trivial
  | c :: q :: r, a, hp, h => by
    refine (mk0_4 (h 0 _ rfl) (h 1 _ rfl) ?_ ?_)
    · have := hp c (.head _)
      cases c <;> first | exact this.elim | trivial
    · refine spineT_Rp (q :: r) (a + 2) (fun c hc => hp c (.tail _ hc)) fun i p hi => ?_
      have := h (i + 2) p (by simpa [spine] using hi)
      rw [← this]; congr 1; (first | lia | omega)
theorem spineT_blocks : ∀ (C : List CT) (a : Nat), (∀ c ∈ C, c.plain) → (spineT a C).blocks.Nodup ∧ ∀ b ∈ (spineT a C).blocks, a ≤ b
  | [], _, _ => ⟨.nil, nofun⟩
  | c :: r, a, hp => by
    refine el0_2 (spineT_blocks r (a + 2) fun c hc => hp c (.tail _ hc)) fun h1 h2 => ?_
    have hc : c.blocks = [] := by
      have := hp c (.head _)
      cases c <;> first | exact this.elim | rfl
    simp only [spineT, CT.blocks, hc, List.nil_append]
    refine ⟨List.nodup_cons.mpr ⟨fun z => ?_, h1⟩, fun b hb => ?_⟩
    · have := h2 a z; (first | lia | omega)
    · rcases List.mem_cons.mp hb with rfl | hb
      · (first | lia | omega)
      · have := h2 b hb; (first | lia | omega)
theorem spineT_sh : ∀ (L : List (Tm × CT)) (a : Nat), (∀ p ∈ L, Sh p.1 p.2) → Sh (wholeT (L.map (·.1)) (.sy 0)) (spineT a (L.map (·.2)))
  | [], _, _ => .sy 0
  | p :: r, a, h => .co (h p (.head _)) (spineT_sh r (a + 2) fun p hp => h p (.tail _ hp))

-- the book
theorem ix_pre {K : Type} [DecidableEq K] {ts ts' : List K} (h : ts <+: ts') {x : K} (hx : x ∈ ts) : ix ts' x = ix ts x := by
  refine el1_1 h fun r z2 => ?_; try clear h; subst z2
  induction ts with
  | nil => cases hx
  | cons k ks ih =>
    simp only [List.cons_append, ix]
    by_cases e : k = x
    · simp [e]
    · rw [if_neg e, if_neg e]
      rcases List.mem_cons.mp hx with q | q
      · exact absurd q.symm e
      · rw [ih q]
theorem ix_addK2 {K : Type} [DecidableEq K] (ts : List K) (x : K) : ix (addK ts x) x = ix ts x := by
  by_cases h : x ∈ ts
  · rw [addK_of h]
  · rw [addK_new h, idxOf_new h]
    have : ∀ l : List K, x ∉ l → ix (l ++ [x]) x = l.length := by
      intro l
      induction l with
      | nil => intro _; simp [ix]
      | cons k ks ih =>
        intro hl
        rw [List.mem_cons, not_or] at hl
        simp only [List.cons_append, ix, List.length_cons]
        rw [if_neg (fun z => hl.1 z.symm), ih hl.2]
    exact this ts h
theorem pre_mem {K : Type} {ts ts' : List K} (h : ts <+: ts') {x : K} (hx : x ∈ ts) : x ∈ ts' := h.subset hx
theorem foldP_pre (l : List Pt) : ∀ ts, ts <+: (foldP ts l).2 := by
  induction l with
  | nil => exact fun ts => List.prefix_refl _
  | cons p r ih =>
    intro ts
    refine List.IsPrefix.trans ?_ (ih _)
    cases p with
    | s x => exact addK_pre ts x
    | t ds => exact List.prefix_refl _
theorem foldP_again (l : List Pt) : ∀ ts ts', (foldP ts l).2 <+: ts' → foldP ts' l = ((foldP ts l).1, ts') := by
  induction l with
  | nil => intro ts ts' _; rfl
  | cons p r ih =>
    intro ts ts' h
    cases p with
    | s x =>
      have h1 : addK ts x <+: ts' := (foldP_pre r _).trans h
      have hx : x ∈ ts' := pre_mem h1 (addK_mem ts x)
      have e1 : ix ts' x = ix ts x := by rw [ix_pre h1 (addK_mem ts x), ix_addK2]
      have := ih (addK ts x) ts' h
      show (tmA (ix ts' x : Nat) :: (foldP (addK ts' x) r).1, (foldP (addK ts' x) r).2) = (tmA (ix ts x : Nat) :: (foldP (addK ts x) r).1, ts')
      rw [addK_of hx, this, e1]
    | t ds =>
      have := ih ts ts' h
      show (V.tup ds :: (foldP ts' r).1, (foldP ts' r).2) = (V.tup ds :: (foldP ts r).1, ts')
      rw [this]
theorem ballV_again (ts : List Str) (fn : List (List Int)) (name : Str) (l : List Pt) : ballV (ballT ts name l) (ballF ts fn name l) name l = ballV ts fn name l := by
  cases l with
  | nil =>
    show errBall (tmA (ix (addK ts name) name : Nat)) = errBall (tmA (ix ts name : Nat))
    rw [ix_addK2]
  | cons p r =>
    show errBall (formV (formT ts name (p :: r)) (formF ts fn name (p :: r)) name (p :: r)) = errBall (formV ts fn name (p :: r))
    have h1 := foldP_again (p :: r) ts (formT ts name (p :: r)) (addK_pre _ _)
    have h2 : ix (formT ts name (p :: r)) name = ix (foldP ts (p :: r)).2 name := ix_addK2 _ _
    unfold formV
    rw [h1]
    dsimp only
    rw [h2]
    unfold formF
    rw [ix_addK2]
theorem ballT_pre (ts : List Str) (name : Str) (l : List Pt) : ts <+: ballT ts name l := by
  cases l with
  | nil => exact addK_pre _ _
  | cons p r => exact (foldP_pre _ _).trans (addK_pre _ _)
theorem ballT_le (ts : List Str) (name : Str) (l : List Pt) : (ballT ts name l).length ≤ ts.length + l.length + 1 := by
  cases l with
  | nil => exact addK_length _ _
  | cons p r => have := addK_length (foldP ts (p :: r)).2 name; have h2 := foldP_le ts (p :: r); simp only [ballT, formT]; (first | lia | omega)
theorem ballF_le (ts : List Str) (fn : List (List Int)) (name : Str) (l : List Pt) : (ballF ts fn name l).length ≤ fn.length + 1 := by
  cases l with
  | nil => exact Nat.le_succ _
  | cons p r => exact addK_length _ _
noncomputable def ptShort : Pt → Prop
  | .s x => x.length ≤ 100
  | .t _ => True
theorem foldP_short (l : List Pt) : ∀ ts, Short ts → (∀ p ∈ l, ptShort p) → Short (foldP ts l).2 := by
  induction l with
  | nil => exact fun ts h _ => h
  | cons p r ih =>
    intro ts h hp
    refine ih _ ?_ fun p hp' => hp p (.tail _ hp')
    have := hp p (.head _)
    cases p with
    | s x => exact h.add this
    | t ds => exact h
theorem ballT_short {ts : List Str} {name : Str} {l : List Pt} (h : Short ts) (hn : name.length ≤ 100) (hl : ∀ p ∈ l, ptShort p) : Short (ballT ts name l) := by
  cases l with
  | nil => exact h.add hn
  | cons p r => exact (foldP_short _ _ h hl).add hn
theorem pre_at {α : Type} {l l' : List α} (h : l <+: l') {i : Nat} (hi : i < l.length) : l'[i]? = l[i]? := by
  refine el1_1 h fun r z1 => ?_; try clear h; subst z1
  exact List.getElem?_append_left hi
theorem Tm.known_pre {ts ts' : List Str} (h : ts <+: ts') : ∀ {t : Tm}, t.known ts → t.known ts'
  | .vr _, _ => trivial
  | .nu _, _ => trivial
  | .sy n, ⟨m, e, hm⟩ => (mk1_2 m e (Nat.lt_of_lt_of_le hm h.length_le))
  | .co _ _, ⟨a, b⟩ => ⟨Tm.known_pre h a, Tm.known_pre h b⟩
theorem signT_pre {ts ts' : List Str} (h : ts <+: ts') {t : Tm} (hk : t.known ts) (codes : Bool) : signT ts' codes t = signT ts codes t := by
  cases t with
  | sy n =>
    refine el1_2 hk fun m z2 hm => ?_; try clear hk; subst z2
    simp only [signT, Int.toNat_natCast, pre_at h hm]
  | _ => rfl
theorem chars_pre {ts ts' : List Str} (h : ts <+: ts') (codes : Bool) : ∀ {L : List Tm}, (∀ t ∈ L, t.known ts) → chars ts' codes L = chars ts codes L
  | [], _ => rfl
  | t :: r, hk => by
    rw [chars_cons, chars_cons, signT_pre h (hk t (.head _)), chars_pre h codes fun t ht => hk t (.tail _ ht)]
theorem out_pre {ts ts' : List Str} (h : ts <+: ts') {L : List Tm} (hk : ∀ t ∈ L, t.known ts) (e : Tm) (w : V) (codes known : Bool) : out ts' L e w codes known = out ts L e w codes known := by
  unfold out; rw [chars_pre h codes hk]
theorem out_whole (ts : List Str) (L : List Tm) {e : Tm} {w w' : V} (h : e.free = true ∨ w = w') (codes known : Bool) : out ts L e w codes known = out ts L e w' codes known := by
  rcases h with h | rfl
  · unfold out; rw [h]; rfl
  · rfl
theorem Out.v_again (o : Out) (ts : List Str) (fn : List (List Int)) : o.v (o.t ts) (o.f ts fn) = o.v ts fn := by
  cases o with
  | val v => rfl
  | err n l => exact ballV_again ts fn n l
noncomputable def Out.fine : Out → Prop
  | .val _ => True
  | .err n l => n.length ≤ 100 ∧ l.length ≤ 2 ∧ ∀ p ∈ l, ptShort p
theorem fault_fine (codes : Bool) (t : Tm) : (faultT codes t).1.length ≤ 100 ∧ (faultT codes t).2.length ≤ 2 ∧ ∀ p ∈ (faultT codes t).2, ptShort p := by
  have k : ∀ (x : Str) (ds : List V), x.length ≤ 100 → ∀ p ∈ [Pt.s x, Pt.t ds], ptShort p := fun x ds hx p hp => by
    rcases List.mem_cons.mp hp with rfl | hp
    · exact hx
    · rw [List.mem_singleton.mp hp]; trivial
  have k1 : ∀ (x : Str), x.length ≤ 100 → ∀ p ∈ [Pt.s x], ptShort p := fun x hx p hp => by rw [List.mem_singleton.mp hp]; exact hx
  have i1 : (Str.ofString "integer").length ≤ 100 := by decide +kernel
  have i2 : (Str.ofString "character").length ≤ 100 := by decide +kernel
  have e : faultT codes t = (("representation_error" : Str), [Pt.s "character_code"]) ∨ ∃ (x : Str) (ds : List V), x.length ≤ 100 ∧ faultT codes t = (("type_error" : Str), [Pt.s x, Pt.t ds]) := by
    cases t <;> cases codes <;> first
      | exact .inr ⟨_, _, i1, rfl⟩
      | exact .inr ⟨_, _, i2, rfl⟩
      | exact .inl rfl
  rcases e with e | ⟨x, ds, hx, e⟩
  · rw [e]; exact ⟨by decide +kernel, by decide, k1 _ (by decide +kernel)⟩
  · rw [e]; exact ⟨by show (Str.ofString "type_error").length ≤ 100; decide +kernel, Nat.le_refl _, k _ _ hx⟩
theorem out_fine (ts : List Str) (L : List Tm) (e : Tm) (w : V) (codes known : Bool) : (out ts L e w codes known).fine := by
  unfold out
  split
  · refine ⟨by show (Str.ofString "type_error").length ≤ 100; decide +kernel, Nat.le_refl _, fun p hp => ?_⟩
    rcases List.mem_cons.mp hp with rfl | hp
    · show (Str.ofString "list").length ≤ 100; decide +kernel
    · rw [List.mem_singleton.mp hp]; trivial
  · split
    · exact ⟨by decide +kernel, by decide, nofun⟩
    · split
      · exact fault_fine _ _
      · trivial
theorem Out.pre (o : Out) (ts : List Str) : ts <+: o.t ts := by
  cases o with
  | val v => exact List.prefix_refl _
  | err n l => exact ballT_pre ts n l
theorem Out.tle {o : Out} (h : o.fine) (ts : List Str) : (o.t ts).length ≤ ts.length + 3 := by
  cases o with
  | val v => exact Nat.le_add_right _ _
  | err n l => have := ballT_le ts n l; have := h.2.1; simp only [Out.t]; (first | lia | omega)
theorem Out.fle (o : Out) (ts : List Str) (fn : List (List Int)) : (o.f ts fn).length ≤ fn.length + 1 := by
  cases o with
  | val v => exact Nat.le_succ _
  | err n l => exact ballF_le ts fn n l
theorem Out.short {o : Out} (h : o.fine) {ts : List Str} (hs : Short ts) : Short (o.t ts) := by
  cases o with
  | val v => exact hs
  | err n l => exact ballT_short hs h.1 h.2.2
-- the text
theorem numAll_pre (xs : List Str) : ∀ ts, ts <+: (numAll ts xs).2 := by
  induction xs with
  | nil => exact fun ts => List.prefix_refl _
  | cons x r ih => exact fun ts => (addK_pre ts x).trans (ih _)
theorem numAll_short (xs : List Str) : ∀ ts, Short ts → (∀ x ∈ xs, x.length ≤ 100) → Short (numAll ts xs).2 := by
  induction xs with
  | nil => exact fun ts h _ => h
  | cons x r ih => exact fun ts h hx => ih _ (h.add (hx x (.head _))) fun y hy => hx y (.tail _ hy)
theorem numAll_again (xs : List Str) : ∀ ts ts', (numAll ts xs).2 <+: ts' → numAll ts' xs = ((numAll ts xs).1, ts') := by
  induction xs with
  | nil => intro ts ts' _; rfl
  | cons x r ih =>
    intro ts ts' h
    have h1 : addK ts x <+: ts' := (numAll_pre r _).trans h
    have hx : x ∈ ts' := pre_mem h1 (addK_mem ts x)
    have e1 : ix ts' x = ix ts x := by rw [ix_pre h1 (addK_mem ts x), ix_addK2]
    have := ih (addK ts x) ts' h
    show (ix ts' x :: (numAll (addK ts' x) r).1, (numAll (addK ts' x) r).2) = (ix ts x :: (numAll (addK ts x) r).1, ts')
    rw [addK_of hx, this, e1]
theorem numAll_at (xs : List Str) : ∀ (ts : List Str) (i : Nat) (x : Str), xs[i]? = some x → ∃ n, (numAll ts xs).1[i]? = some n ∧ (numAll ts xs).2[n]? = some x := by
  induction xs with
  | nil => intro ts i x h; simp at h
  | cons y r ih =>
    intro ts i x h
    cases i with
    | zero =>
      simp only [List.getElem?_cons_zero, Option.some.injEq] at h
      subst h
      refine (mk1_2 (ix ts y) rfl ?_)
      have h1 := addK_idx ts y
      have hlt := addK_lt ts y
      show (numAll (addK ts y) r).2[ix ts y]? = some y
      rw [pre_at (numAll_pre r _) hlt, h1]
    | succ i => exact ih (addK ts y) i x (by simpa using h)
noncomputable def chs (S : List Nat) : List Str := S.map fun n => ⟨#[n]⟩
noncomputable def textOf (S : List Nat) : Str := ⟨S.toArray⟩
theorem cat_chs (S : List Nat) : cat (chs S) = textOf S := by rw [cat_eq]; exact join_ones S
theorem charsOf_text (S : List Nat) : charsOf (textOf S) = chs S := by simp [charsOf, textOf, chs]
noncomputable def rowP (ts : List Str) (S : List Nat) (codes : Bool) : List (Tm × CT) := if codes then S.map fun (n : Nat) => (Tm.nu n, CT.nu n) else (numAll ts (chs S)).1.map fun (n : Nat) => (Tm.sy n, CT.sy n)
theorem rowP_cells (ts : List Str) (S : List Nat) (codes : Bool) : (rowP ts S codes).map (fun p => p.2.cell) = spellC ts (textOf S) codes := by
  cases codes with
  | true => simp [rowP, spellC, textOf, CT.cell]
  | false => simp [rowP, spellC, charsOf_text, CT.cell]
theorem rowP_length (ts : List Str) (S : List Nat) (codes : Bool) : (rowP ts S codes).length = S.length := by
  cases codes with
  | true => simp [rowP]
  | false => simp [rowP, numAll_length, chs]
theorem rowP_again (ts : List Str) (S : List Nat) (codes : Bool) : rowP (spellT ts (textOf S) codes) S codes = rowP ts S codes ∧ spellT (spellT ts (textOf S) codes) (textOf S) codes = spellT ts (textOf S) codes := by
  cases codes with
  | true => exact ⟨rfl, rfl⟩
  | false =>
    have := numAll_again (chs S) ts (numAll ts (chs S)).2 (List.prefix_refl _)
    refine ⟨?_, ?_⟩
    · simp only [rowP, spellT, charsOf_text, Bool.false_eq_true, if_false]; rw [this]
    · simp only [spellT, charsOf_text, Bool.false_eq_true, if_false]; rw [this]
theorem spellT_pre (ts : List Str) (S : List Nat) (codes : Bool) : ts <+: spellT ts (textOf S) codes := by
  cases codes with
  | true => exact List.prefix_refl _
  | false => exact numAll_pre _ _
theorem spellT_le (ts : List Str) (S : List Nat) (codes : Bool) : (spellT ts (textOf S) codes).length ≤ ts.length + S.length := by
  cases codes with
  | true => exact Nat.le_add_right _ _
  | false => have := numAll_le ts (charsOf (textOf S)); rw [charsOf_text] at this; simp only [spellT, charsOf_text]; simpa [chs] using this
theorem spellT_short {ts : List Str} (h : Short ts) (S : List Nat) (codes : Bool) : Short (spellT ts (textOf S) codes) := by
  cases codes with
  | true => exact h
  | false =>
    refine numAll_short _ _ h fun x hx => ?_
    rw [charsOf_text] at hx
    refine el1_2 (List.mem_map.mp hx) fun n _ z3 => ?_; subst z3
    show (1 : Nat) ≤ 100; (first | lia | omega)
theorem rowP_mem {ts : List Str} {S : List Nat} {codes : Bool} {p : Tm × CT} (hp : p ∈ rowP ts S codes) : Sh p.1 p.2 ∧ p.2.plain ∧ p.1.free = false ∧ p.1.vars = [] := by
  cases codes with
  | true => refine el1_2 (List.mem_map.mp hp) fun n _ z4 => ?_; subst z4; exact (mk0_4 (.nu n) trivial rfl rfl)
  | false => refine el1_2 (List.mem_map.mp hp) fun n _ z5 => ?_; subst z5; exact (mk0_4 (.sy n) trivial rfl rfl)
theorem rowP_at {ts : List Str} {S : List Nat} {codes : Bool} (hS : ∀ n ∈ S, n ≤ 1114111) {i : Nat} {n : Nat} (hi : S[i]? = some n) : ∃ p, (rowP ts S codes)[i]? = some p ∧ p.1.known (spellT ts (textOf S) codes) ∧ signT (spellT ts (textOf S) codes) codes p.1 = some ⟨#[n]⟩ := by
  cases codes with
  | true =>
    refine (mk1_3 (.nu n, .nu n) (by simp [rowP, hi]) trivial ?_)
    have := hS n (List.mem_of_getElem? hi)
    simp only [signT, Bool.true_and, Bool.and_eq_true, decide_eq_true_eq, Int.toNat_natCast]
    rw [if_pos ⟨by (first | lia | omega), by (first | lia | omega)⟩]
  | false =>
    have hc : (chs S)[i]? = some ⟨#[n]⟩ := by simp [chs, hi]
    refine el1_2 (numAll_at (chs S) ts i _ hc) fun m h1 h2 => ?_
    refine (mk1_3 (.sy m, .sy m) (by simp [rowP, h1]) ⟨m, rfl, ?_⟩ ?_)
    · simp only [spellT, charsOf_text]; exact (List.getElem?_eq_some_iff.mp h2).1
    · simp only [signT, spellT, charsOf_text, Bool.false_eq_true, if_false, Int.toNat_natCast, h2, Option.bind_some]
      rfl
theorem rowP_known {ts : List Str} {S : List Nat} {codes : Bool} (hS : ∀ n ∈ S, n ≤ 1114111) {p : Tm × CT} (hp : p ∈ rowP ts S codes) : p.1.known (spellT ts (textOf S) codes) := by
  refine el1_1 (List.getElem?_of_mem hp) fun i hi => ?_
  have hl := (List.getElem?_eq_some_iff.mp hi).1
  rw [rowP_length] at hl
  refine el1_3 (rowP_at (ts := ts) (codes := codes) hS (List.getElem?_eq_getElem hl)) fun q h1 h2 _ => ?_
  rw [hi] at h1; cases h1; exact h2
theorem rowP_chars (ts : List Str) (S : List Nat) (codes : Bool) (hS : ∀ n ∈ S, n ≤ 1114111) : chars (spellT ts (textOf S) codes) codes ((rowP ts S codes).map (·.1)) = .ok (chs S) := by
  have go : ∀ k, k ≤ S.length → chars (spellT ts (textOf S) codes) codes (((rowP ts S codes).map (·.1)).take k) = .ok ((chs S).take k) := by
    intro k
    induction k with
    | zero => intro _; rfl
    | succ k ih =>
      intro hk
      have hk' : k < S.length := hk
      refine el1_3 (rowP_at (ts := ts) (codes := codes) hS (List.getElem?_eq_getElem hk')) fun p h1 _ h3 => ?_
      have hfr := (rowP_mem (List.mem_of_getElem? h1)).2.2.1
      have e1 : ((rowP ts S codes).map (·.1)).take (k + 1) = ((rowP ts S codes).map (·.1)).take k ++ [p.1] := by
        rw [List.take_add_one, List.getElem?_map, h1]; rfl
      have e2 : (chs S).take (k + 1) = (chs S).take k ++ [⟨#[S[k]]⟩] := by
        rw [List.take_add_one]; simp [chs, hk']
      rw [e1, e2]
      exact chars_snoc (ih (by (first | lia | omega))) hfr h3
  have := go S.length (Nat.le_refl _)
  rwa [List.take_of_length_le (by simp [rowP_length]), List.take_of_length_le (by simp [chs])] at this
theorem rowP_out (ts : List Str) (S : List Nat) (codes known : Bool) (hS : ∀ n ∈ S, n ≤ 1114111) (w : V) : out (spellT ts (textOf S) codes) ((rowP ts S codes).map (·.1)) (.sy 0) w codes known = .val (.str (textOf S)) := by
  have hl : lackT ((rowP ts S codes).map (·.1)) (.sy 0) = false := by
    show (false || ((rowP ts S codes).map (·.1)).any Tm.free) = false
    rw [Bool.false_or, List.any_eq_false]
    intro t ht
    refine el1_2 (List.mem_map.mp ht) fun p hp z6 => ?_; subst z6
    rw [(rowP_mem hp).2.2.1]; exact Bool.false_ne_true
  unfold out
  rw [rowP_chars ts S codes hS, hl]
  show Out.val (.str (cat (chs S))) = _
  rw [cat_chs]
theorem vOk_text (n : Nat) (x : Str) : vOk n (.str x) = PyData.strOk x := vOk_str n x
theorem vOk_err {n : Nat} (h : 1 ≤ n) {v : V} (e : vOk n v = true) : vOk (n + 2) (errBall v) = true := by
  show ([V.str "s", V.int 16, V.tup [v, .tup [.str "a", .int 25]]].all (vOk (n + 1))) = true
  have : vOk (n + 1) (.tup [v, .tup [.str "a", .int 25]]) = true := by
    show ([v, .tup [.str "a", .int 25]].all (vOk n)) = true
    have := vOk_tmA h 25
    simp only [List.all_cons, List.all_nil, e, Bool.and_true, Bool.true_and]
    exact this
  simp only [List.all_cons, List.all_nil, vOk_str, vOk_int, this, Bool.and_true]
  decide +kernel
theorem vOk_ball {n : Nat} (h : 1 ≤ n) (ts : List Str) (fn : List (List Int)) (name : Str) (l : List Pt) (hok : ∀ p ∈ l, ∀ ds, p = .t ds → vOk n (.tup ds) = true) : vOk (n + 4) (ballV ts fn name l) = true := by
  cases l with
  | nil => exact vOk_mono (by (first | lia | omega)) (vOk_err h (vOk_tmA h _))
  | cons p r =>
    refine vOk_err (n := n + 2) (by (first | lia | omega)) ?_
    show ([V.str "s", V.int _, V.tup (foldP ts (p :: r)).1].all (vOk (n + 1))) = true
    have : vOk (n + 1) (.tup (foldP ts (p :: r)).1) = true := by
      show ((foldP ts (p :: r)).1.all (vOk n)) = true
      rw [List.all_eq_true]
      exact foldP_ok h _ ts hok
    simp only [List.all_cons, List.all_nil, vOk_str, vOk_int, this, Bool.and_true]
    decide +kernel
theorem fault_ok (codes : Bool) {t : Tm} (hn : t.nodes ≤ 1) : ∀ p ∈ (faultT codes t).2, ∀ ds, p = .t ds → vOk 3 (.tup ds) = true := fun p hp ds e => by
  subst e
  have : V.tup ds = t.val := by
    cases t <;> cases codes <;> simp [faultT] at hp <;> subst hp <;> rfl
  rw [this]
  exact vOk_mono (by (first | lia | omega)) (Tm.vOk t)
theorem out_cases (ts : List Str) (fn : List (List Int)) (L : List Tm) (e : Tm) (whole : Tm) (codes known : Bool) (hL : ∀ t ∈ L, t.nodes ≤ 1) (hw : whole.nodes ≤ 20) : (∃ x, (out ts L e whole.val codes known).v ts fn = .str x) ∨ vOk 50 ((out ts L e whole.val codes known).v ts fn) = true := by
  unfold out
  split
  · refine .inr ?_
    show Mine.vOk 50 (ballV ts fn "type_error" [.s "list", .t (untup whole.val)]) = true
    refine vOk_mono (n := 45) (by (first | lia | omega)) (vOk_ball (n := 41) (by (first | lia | omega)) _ _ _ _ fun p hp ds e => ?_)
    subst e
    simp only [List.mem_cons, Pt.t.injEq, List.mem_nil_iff, or_false, reduceCtorEq, false_or] at hp
    rw [hp, Tm.val_tup]
    exact vOk_mono (by (first | lia | omega)) (Tm.vOk whole)
  · split
    · refine .inr ?_
      show Mine.vOk 50 (ballV ts fn "instantiation_error" []) = true
      exact vOk_mono (n := 5) (by (first | lia | omega)) (vOk_ball (n := 1) (by (first | lia | omega)) _ _ _ _ fun p hp => nomatch hp)
    · split
      · rename_i t ht
        refine .inr ?_
        show Mine.vOk 50 (ballV ts fn (faultT codes t).1 (faultT codes t).2) = true
        refine vOk_mono (n := 7) (by (first | lia | omega)) (vOk_ball (n := 3) (by (first | lia | omega)) _ _ _ _ (fault_ok codes ?_))
        have : ∀ (l : List Tm), (∀ t ∈ l, t.nodes ≤ 1) → chars ts codes l = .error t → t.nodes ≤ 1 := by
          intro l
          induction l with
          | nil => intro _ h; cases h
          | cons u r ih =>
            intro hl h
            rw [chars_cons] at h
            split at h
            · exact ih (fun t ht => hl t (.tail _ ht)) h
            · split at h
              · cases h; exact hl _ (.head _)
              · split at h
                · cases h
                · rename_i h'; cases h; exact ih (fun t ht => hl t (.tail _ ht)) h'
        exact this L hL ht
      · cases lackT L e with
        | true => exact .inr rfl
        | false => exact .inl ⟨_, rfl⟩
theorem Loc.delO {m : Loc} {x y : Str} {d : V} (h : y ≠ x) (e : m y = some d) : m.del x y = some d := (if_neg h).trans e
theorem item_val {t : Tm} {x : CT} (h : Sh t x) (hc : t.free = false → t.vars = []) : ∃ t' : Tm, (x.take []).1 = t'.val ∧ t'.free = t.free ∧ (t.free = false → t' = t) := by
  cases hf : t.free with
  | false => exact (mk1_3 t ((h.closed (hc hf) []).1) hf (fun _ => rfl))
  | true =>
    cases h with
    | vr n b => exact (mk1_3 (.vr (ix [] (b : Int))) rfl rfl nofun)
    | _ => cases hf
theorem plain_facts {t : Tm} {x : CT} (h : Sh t x) (hp : x.plain) : t.nodes = 0 ∧ x.blocks = [] ∧ ∀ cs, Rp cs x := by
  cases h with
  | vr n a => exact hp.elim
  | co _ _ => exact hp.elim
  | sy n => exact ⟨rfl, rfl, fun _ => trivial⟩
  | nu n => exact ⟨rfl, rfl, fun _ => trivial⟩
theorem Cmp.mono {c : Cx} {P : AH → Prop} {x : Str} {ifs : List Expr} {elt : Expr} {m : Loc} {D : Addr} {Q Q' : AH → Prop} (k : ∀ G, Q G → Q' G) : ∀ (ds : List V) (H : AH), Cmp c P x ifs elt m D ds H Q → Cmp c P x ifs elt m D ds H Q'
  | [], _, h => ⟨h.1, k _ h.2⟩
  | d :: ds, H, h => ⟨h.1, h.2.mono fun b H₁ h₁ => by
      cases b with
      | false => rw [if_neg Bool.false_ne_true] at h₁ ⊢; exact Cmp.mono k ds _ h₁
      | true => rw [if_pos rfl] at h₁ ⊢; exact h₁.mono fun y H₂ z1 => el1_3 z1 fun ys e1 e2 e3 => (mk1_3 ys e1 e2 (Cmp.mono k ds _ e3))⟩
theorem spineT_LA {cs : List (Int × Int)} : ∀ (C : List CT) (a : Nat), (∀ c ∈ C, c.plain) → Rp cs (spineT a C) → ∃ as, LA cs (spineT a C).cell (C.map CT.cell) (4, 0) as ∧ as.Nodup ∧ ∀ b ∈ as, a ≤ b
  | [], a, _, _ => (mk1_3 [] (.nil (by show (4 : Int) ≠ 3; decide)) .nil nofun)
  | c :: r, a, hp, h => by
    refine el0_4 h fun h1 h2 h3 h4 => ?_; try clear h
    refine el1_3 (spineT_LA r (a + 2) (fun c hc => hp c (.tail _ hc)) h4) fun as k1 k2 k3 => ?_
    refine (mk1_3 (a :: as) (.cons h1 h2 h3.good h4.good k1) (List.nodup_cons.mpr ⟨fun z => ?_, k2⟩) (fun b hb => ?_))
    · have := k3 a z; (first | lia | omega)
    · rcases List.mem_cons.mp hb with rfl | hb
      · (first | lia | omega)
      · have := k3 b hb; (first | lia | omega)
theorem Good.mono {cs cs' : List (Int × Int)} (h : ∀ a, a < cs.length → cs'[a]? = cs[a]?) {c : Int × Int} (g : Good cs c) : Good cs' c :=
  ⟨g.1, fun z => by refine el1_2 (g.2 z) fun n e hn => ?_; exact (mk1_2 n e ((h n (List.getElem?_eq_some_iff.mp hn).1).trans hn))⟩
theorem LA.mono {cs cs' : List (Int × Int)} (h : ∀ a, a < cs.length → cs'[a]? = cs[a]?) {p t : Int × Int} {es : List (Int × Int)} {as : List Nat} (l : LA cs p es t as) : LA cs' p es t as := by
  induction l with
  | nil x => exact .nil x
  | cons h1 h2 g1 g2 _ ih => exact .cons ((h _ (List.getElem?_eq_some_iff.mp h1).1).trans h1) ((h _ (List.getElem?_eq_some_iff.mp h2).1).trans h2) (g1.mono h) (g2.mono h) ih
structure LC (c : Cx) (L : Nat) : Prop where
  hc : CxOk 9 c
  hf : FrOk c
  hs : c.env.scope = fnScope (topS 49)
  cells : c.env.cells = ([("as_codes", L + 4), ("areas", L + 3), ("book", L + 2), ("pot", L + 1)] : List (Str × Addr))
  apart : c.env.cells.Pairwise fun x y => x.2 ≠ y.2
theorem LC.cell {c : Cx} {L : Nat} (h : LC c L) {x : Str} {a : Addr} (hk : (fnScope (topS 49)).names.lookup x = some .cell) (ha : ([("as_codes", L + 4), ("areas", L + 3), ("book", L + 2), ("pot", L + 1)] : List (Str × Addr)).lookup x = some a) : CellAt c x :=
  CellAt.of (kind_of h.hs hk) (by rw [h.cells]; exact ha) h.apart
structure LF where
  S : List Nat
  P : List (Tm × CT)
  e : Tm × CT
  ct : CT
  as : List Nat
  sa : Addr
  ia : Addr
  known : Bool
  ds : List V
noncomputable def LF.L (f : LF) : List Tm := f.P.map (·.1)
structure LFok (f : LF) : Prop where
  hS : ∀ n ∈ f.S, n ≤ 1114111
  lS : f.S.length ≤ 5
  lP : f.P.length ≤ 4
  sh : ∀ p ∈ f.P, Sh p.1 p.2 ∧ (p.1.free = false → p.1.vars = []) ∧ p.1.nodes ≤ 1 ∧ p.2.blocks.Nodup
  he : Sh f.e.1 f.e.2
  he2 : f.e.1.free = true ∨ ∃ n, f.e.1 = .sy n
  nd : f.ct.blocks.Nodup
  sz : f.ct.size ≤ 250
  and_ : f.as.Nodup
  ds : (f.ct.take []).1 = .tup f.ds
  wh : f.e.1.free = true ∨ V.tup f.ds = (wholeT f.L f.e.1).val
structure LD (a : WA) (f : LF) (H : AH) (ts : List Str) (fn : List (List Int)) (cs : List (Int × Int)) : Prop where
  W : Wd a H ts fn cs
  st : Short ts
  kn : ∀ p ∈ f.P, p.1.known ts
  rp : Rp cs f.ct
  rpp : ∀ p ∈ f.P, Rp cs p.2
  la : LA cs f.ct.cell (f.P.map fun p => p.2.cell) f.e.2.cell f.as
  sa : H f.sa = some (.list ((chs f.S).map .str))
  ia : H f.ia = some (.list (f.L.map Tm.val))
theorem LD.off {a : WA} {f : LF} {H H' : AH} {ts ts' : List Str} {fn fn' : List (List Int)} {cs : List (Int × Int)} (D : LD a f H ts fn cs) (ha : f.sa ∉ a.all) (hi : f.ia ∉ a.all) (o : OffC a.b.all H H') (W : Wd a H' ts' fn' cs) (hp : ts <+: ts') (st : Short ts') : LD a f H' ts' fn' cs :=
  ⟨W, st, fun p h => Tm.known_pre hp (D.kn p h), D.rp, D.rpp, D.la, o _ _ D.sa rfl fun h => ha (WA.bk_all h), o _ _ D.ia rfl fun h => hi (WA.bk_all h)⟩
theorem LD.itm {a : WA} {f : LF} {H : AH} {ts : List Str} {fn : List (List Int)} {cs : List (Int × Int)} (D : LD a f H ts fn cs) (F : LFok f) : ∀ p ∈ f.P, Itm cs ts p := fun p hp => by
  refine el0_4 (F.sh p hp) fun h1 h2 h3 h4 => ?_
  exact ⟨h1, h2, D.kn p hp, D.rpp p hp, h4, by rw [h1.size]; (first | lia | omega)⟩
theorem gv_spelled_cell (w : World) : GV w "spelled_cell" (.ref 425) := gvG (by kernel_rfl)
theorem gv_law_read (w : World) : GV w "_law_read" (.ref 646) := gvG (by kernel_rfl)
theorem gv_law_due (w : World) : GV w "_law_due" (.ref 639) := gvG (by kernel_rfl)
theorem kf425 {w : World} : KeepOk w (.ref 425) := keep_ref (by kernel_rfl)
theorem kf646 {w : World} : KeepOk w (.ref 646) := keep_ref (by kernel_rfl)
theorem kf639 {w : World} : KeepOk w (.ref 639) := keep_ref (by kernel_rfl)
structure LN (a : WA) (f : LF) (m : Loc) : Prop where
  book : m "book" = some (.ref a.b.sy)
  areas : m "areas" = some (.ref a.ar)
  signs : m "signs" = some (.ref f.sa)
  items : m "items" = some (.ref f.ia)
  end_ : m "end" = some f.e.1.val
  known : m "known" = some (.bool f.known)
  whole : m "whole" = some (wholeT f.L f.e.1).val
  cell : m "cell" = some (cv f.ct.cell)
  text : m "text" = some (.str (textOf f.S))
theorem turn_ok {c : Cx} {L : Nat} (lc : LC c L) {a : WA} (K : WOk a) {f : LF} (F : LFok f) (sa : f.sa ∉ a.all) (ia : f.ia ∉ a.all) {H : AH} {ts : List Str} {fn : List (List Int)} {cs : List (Int × Int)} (D : LD a f H ts fn cs) (hts : ts.length ≤ 400) (hfn : fn.length ≤ 400) (hcs : cs.length ≤ 200)
    {m : Loc} {codes : Bool} (N : LN a f m) (hac : m "as_codes" = some (.bool codes)) {Q : Fl → Loc → AH → Prop}
    (q : ∀ m' H' ts' fn' cs', LN a f m' → LD a f H' ts' fn' cs' → ts'.length ≤ ts.length + 100 → fn'.length ≤ fn.length + 50 → cs'.length ≤ cs.length + 10 → OffC (a.s.hp :: a.b.all) H H' → Q .next m' H') : Exs c (fun _ _ => False) (bodyOf (nthS (fnBody (topS 49)) 13)) m H Q := by
  conv =>
    arg 3
    whnf
  have hc := lc.hc
  have hs := lc.hs
  conv at hs =>
    rhs
    whnf
  have hB : CellAt c "book" := lc.cell (by kernel_rfl) rfl
  have hA : CellAt c "areas" := lc.cell (by kernel_rfl) rfl
  have hC : CellAt c "as_codes" := lc.cell (by kernel_rfl) rfl
  obtain ⟨n1, n2, n3, n4, n5, n6, n7, n8, n9⟩ := N
  refine Exs.assignComp ([("book", L + 2), ("as_codes", L + 4)] : List (Str × Addr)) (swaps_yes hs (by kernel_rfl)) (by nest_cls) hc rfl (by decide +kernel) (by decide +kernel) (by decide +kernel) (fun x b e => ?_) (by unfold closureFor cellOf; rw [lc.cells]; kernel_rfl) (compL ?_)
  · have := mem_of_lookup e
    simp only [List.mem_cons, Prod.mk.injEq, List.mem_nil_iff, or_false] at this
    rcases this with ⟨rfl, rfl⟩ | ⟨rfl, rfl⟩
    · exact ⟨by rw [lc.cells]; rfl, .inl hB.1⟩
    · exact ⟨by rw [lc.cells]; rfl, .inl hC.1⟩
  isplit
  refine (mk2_3 _ _ rfl D.sa (fun C DD hD hc' => ?_))
  generalize hcc : compCx c _ _ C = c' at hc' ⊢
  have hcs' := (congrArg (fun x : Cx => x.env.scope) hcc).symm
  dsimp only [compCx, compEnvC] at hcs'
  rw [relabel_eq, hs] at hcs'
  have hce : c'.env.cells = ([("book", L + 2), ("as_codes", L + 4)] : List (Str × Addr)) := by rw [← hcc]; rfl
  have kb : c'.env.kindOf "book" = some .cell := kind_of hcs' (by kernel_rfl)
  have ka : c'.env.kindOf "as_codes" = some .cell := kind_of hcs' (by kernel_rfl)
  have ks : c'.env.kindOf "sign" = some .local := kind_of hcs' (by kernel_rfl)
  have hmb : compLoc c' m "book" = some (.ref a.b.sy) := compLoc_cell kb nofun n1
  have hma : compLoc c' m "as_codes" = some (.bool codes) := compLoc_cell ka nofun hac
  have B := D.W.bk
  have Dk : DD ∉ a.all := D.W.fresh hD
  have Dkb : DD ∉ a.b.all := fun h => Dk (WA.bk_all h)
  have Ds : f.sa ≠ DD := fun z => by have := D.sa; rw [z, hD] at this; cases this
  refine Cmp.mono (Q := fun G => G DD = some (.list ((rowP ts f.S codes).map fun p => p.1.val)) ∧ Bk a.b G (spellT ts (textOf f.S) codes) fn ∧ Off a.b.all H G) ?_ _ _ ?_
  case refine_2 =>
    have sgn : ∀ (i : Nat) (d : V), ((chs f.S).map V.str)[i]? = some d → ∃ n : Nat, f.S[i]? = some n ∧ d = .str ⟨#[n]⟩ ∧ (chs f.S)[i]? = some ⟨#[n]⟩ := fun i d hd => by
      simp only [chs, List.map_map, List.getElem?_map, Option.map_eq_some_iff, Function.comp] at hd ⊢
      refine el1_2 hd fun n hn z2 => ?_; try clear hd; subst z2
      exact (mk1_3 n hn rfl  (mk1_2 n hn rfl))
    have lS := F.lS
    have lc2 : (chs f.S).length = f.S.length := by simp [chs]
    cases codes with
    | true =>
      refine Cmp.inv0 (fun i G => G DD = some (.list ((f.S.take i).map fun (n : Nat) => tmI (n : Int))) ∧ Off [] H G) _ ⟨AH.set_self .., .new hD⟩ ?_ ?_
      · rintro i d G hd ⟨g1, o⟩
        refine el1_3 (sgn i d hd) fun n hn z3 _ => ?_; subst z3
        have et : f.S.take (i + 1) = f.S.take i ++ [n] := by rw [List.take_add_one, hn]; rfl
        refine ⟨o _ _ D.sa (by simp), ?_⟩
        isplit
        refine Tr.ev (Ev.cell hc' (Loc.other (by decide +kernel) hma) ka (by rw [hce]; rfl) ⟨true, rfl, ?_⟩)
        rw [if_pos rfl]
        isplit
        isplit
        isplit
        isplit
        refine Ev.ord hc' (by nest_cls) ?_
        isplit
        refine (mk1_3 _ rfl rfl ?_)
        repeat isplit
        refine ⟨?_, by simp⟩
        refine (mk1_4 _ g1 (by simp; (first | lia | omega)) ?_ (fun b ob e nn => AH.other (fun z => by first | exact clash e hD z | exact clash hD e z.symm) (o b ob e nn)))
        rw [AH.set_self, et]; simp [tmI]
      · rintro G ⟨g1, o⟩
        rw [List.length_map, lc2, List.take_length] at g1
        refine (mk0_4 (o _ _ D.sa (by simp)) ?_ (B.off o) (o.mono nofun))
        rw [g1]; simp [rowP, Tm.val]
    | false =>
      refine Cmp.inv0 (fun i G => Bk a.b G (numAll ts ((chs f.S).take i)).2 fn ∧ G DD = some (.list ((numAll ts ((chs f.S).take i)).1.map fun (n : Nat) => tmA n)) ∧ Off a.b.all H G) _ ⟨B.same fun b hb => AH.set_other _ _ (by rintro rfl; exact Dkb hb), AH.set_self .., .new hD⟩ ?_ ?_
      · rintro i d G hd ⟨B₁, g1, o⟩
        refine el1_3 (sgn i d hd) fun n hn z4 hch => ?_; subst z4
        have hi : i < f.S.length := (List.getElem?_eq_some_iff.mp hn).1
        have et : (chs f.S).take (i + 1) = (chs f.S).take i ++ [⟨#[n]⟩] := by rw [List.take_add_one, hch]; rfl
        have hle := numAll_le ts ((chs f.S).take i)
        have hnl := numAll_length ts ((chs f.S).take i)
        simp only [List.length_take] at hle hnl
        refine ⟨o _ _ D.sa (fun h => sa (WA.bk_all h)), ?_⟩
        isplit
        refine Tr.ev (Ev.cell hc' (Loc.other (by decide +kernel) hma) ka (by rw [hce]; rfl) ⟨false, rfl, ?_⟩)
        rw [if_neg Bool.false_ne_true]
        isplit
        isplit
        isplit
        isplit
        refine Ev.im ?_
        refine Ev.cell hc' (Loc.other (by decide +kernel) hmb) kb (by rw [hce]; rfl) ?_
        refine (mk5_5 _ _ _ _ 88 rfl B₁.inst (mk_meth (by kernel_rfl) (by kernel_rfl) (by kernel_rfl) (by kernel_rfl) (by kernel_rfl)) (by rfl) ?_)
        repeat isplit
        refine (atom_ok B₁ (by (first | lia | omega)) fun H₂ B₂ o₂ => ?_).at hc'
        have g2 := o₂ DD _ g1 Dkb
        repeat isplit
        refine ⟨?_, by simp⟩
        refine (mk1_5 _ g2 (by simp; (first | lia | omega)) ?_ ?_ (fun b ob e nn => AH.other (fun z => by first | exact clash e hD z | exact clash hD e z.symm) (o₂ b ob (o b ob e nn) nn)))
        · rw [et, numAll_snoc]; exact B₂.same fun b hb => AH.set_other _ _ (by rintro rfl; exact Dkb hb)
        · rw [AH.set_self, et, numAll_snoc]; simp [tmA]
      · rintro G ⟨B₁, g1, o⟩
        rw [List.length_map, List.take_length] at g1 B₁
        refine (mk0_4 (o _ _ D.sa (fun h => sa (WA.bk_all h))) ?_ (by simp only [spellT, charsOf_text]; exact B₁) o)
        rw [g1]; simp [rowP, Tm.val]
  rintro G ⟨gD, B₁, o₁⟩
  have W₁ := D.W.book o₁ B₁
  have st₁ := spellT_short D.st f.S codes
  have hp₁ := spellT_pre ts f.S codes
  have hle₁ := spellT_le ts f.S codes
  have D₁ := D.off sa ia o₁.toC W₁ hp₁ st₁
  have lS := F.lS
  have hra := rowP_again ts f.S codes
  have hrl := rowP_length ts f.S codes
  have hout := fun k w => rowP_out ts f.S codes k F.hS w
  have hrk := fun p hp => rowP_known (ts := ts) (codes := codes) F.hS (p := p) hp
  have hrc := rowP_cells ts f.S codes
  clear hcs' hce kb ka ks hmb hma hc' hcc
  generalize hT : spellT ts (textOf f.S) codes = ts₁ at *
  generalize hR : rowP ts f.S codes = R at *
  have hRm : ∀ p ∈ R, Sh p.1 p.2 ∧ p.2.plain ∧ p.1.free = false ∧ p.1.vars = [] := fun p hp => rowP_mem (hR ▸ hp)
  refine Exs.assign hc (by nest_cls) (Ev.call hc (by nest_cls) (gv_spelled_cell _) kf425 ?_)
  isplit
  refine Ev.cellA hc hA (by one_item) ?_
  isplit
  isplit
  isplit
  refine Ev.cellA hc hC (by one_item) ?_
  isplit
  have hsz : (textOf f.S).cps.size = f.S.length := by simp [textOf]
  have hsc : spellC ts₁ (textOf f.S) codes = R.map fun p => p.2.cell := by rw [← rowP_cells ts₁, hra.1]
  have hpl : ∀ c ∈ R.map (·.2), c.plain := fun c hc => by refine el1_2 (List.mem_map.mp hc) fun p hp z5 => ?_; subst z5; exact (hRm p hp).2.1
  have hmm : (R.map (·.2)).map CT.cell = R.map fun p => p.2.cell := by rw [List.map_map]; rfl
  generalize hmct : spineT cs.length (R.map (·.2)) = mct
  generalize hcs2 : cs ++ spine cs.length (4, 0) (R.map fun p => p.2.cell) = cs₂
  have hlen2 : cs₂.length ≤ cs.length + 10 := by
    rw [← hcs2, List.length_append]
    have : ∀ (l : List (Int × Int)) (n : Nat), (spine n (4, 0) l).length ≤ 2 * l.length := by
      intro l
      induction l with
      | nil => intro n; exact Nat.zero_le _
      | cons p r ih => cases r with
        | nil => intro n; simp [spine]
        | cons q r => intro n; have := ih (n + 2); simp only [spine, List.length_cons] at this ⊢; (first | lia | omega)
    have := this (R.map fun p => p.2.cell) cs.length
    rw [List.length_map] at this
    (first | lia | omega)
  refine OpN.mono (Q := fun d G' => d = cv mct.cell ∧ Off (a.s.hp :: a.b.all) G G' ∧ Wd a G' ts₁ fn cs₂) ?_ ?_
  · refine (spelled_cell_ok K W₁ (by (first | lia | omega)) (by (first | lia | omega)) (fun h0 H' o W' => ?_) fun h1 H' o W' => ?_).at hc
    · have hR0 : R = [] := List.eq_nil_of_length_eq_zero (by (first | lia | omega))
      subst hR0
      have e1 : cs₂ = cs := by rw [← hcs2]; simp [spine]
      have e2 : mct = .sy 0 := by rw [← hmct]; rfl
      rw [e1, e2]
      exact ⟨rfl, o.mono fun b hb => .tail _ hb, W'⟩
    · have e2 : mct.cell = (3, (cs.length : Int)) := by
        cases R with
        | nil => exact absurd (by simp at hrl; (first | lia | omega)) h1
        | cons p r => rw [← hmct]; rfl
      rw [hra.2, hsc, hcs2] at W'
      exact ⟨by rw [e2], o, W'⟩
  rintro _ H₂ ⟨rfl, o₂, W₂⟩
  have hpre : ∀ b, b < cs.length → cs₂[b]? = cs[b]? := fun b hb => by rw [← hcs2]; exact List.getElem?_append_left hb
  have hmr : Rp cs₂ mct := by
    rw [← hmct]
    refine spineT_Rp _ _ hpl fun i p hi => ?_
    rw [← hcs2, List.getElem?_append_right (by (first | lia | omega)), Nat.add_sub_cancel_left, ← hmm]; exact hi
  obtain ⟨mas, mla, mnd, _⟩ := spineT_LA (cs := cs₂) (R.map (·.2)) cs.length hpl (by rw [hmct]; exact hmr)
  rw [hmct, hmm] at mla
  have hsh : Sh (wholeT (R.map (·.1)) (.sy 0)) mct := by rw [← hmct]; exact spineT_sh R cs.length fun p hp => (hRm p hp).1
  have hmb : mct.blocks.Nodup := by rw [← hmct]; exact (spineT_blocks _ _ hpl).1
  have hnodes : ∀ t ∈ R.map (·.1), t.nodes ≤ 1 := fun t ht => by
    refine el1_2 (List.mem_map.mp ht) fun p hp z6 => ?_; subst z6
    rw [(plain_facts (hRm p hp).1 (hRm p hp).2.1).1]; (first | lia | omega)
  have hmsz : mct.size ≤ 250 := by
    rw [hsh.size]
    have := wholeT_nodes (R.map (·.1)) (.sy 0) hnodes
    rw [List.length_map] at this
    simp only [Tm.nodes] at this
    (first | lia | omega)
  have sub1 : ∀ b ∈ a.s.hp :: a.b.all, b ∈ a.all := fun b hb => by
    rcases List.mem_cons.mp hb with rfl | hb
    · exact WA.hp_all
    · exact WA.bk_all hb
  have D₂ : LD a f H₂ ts₁ fn cs₂ := ⟨W₂, st₁, D₁.kn, D.rp.mono hpre, fun p hp => (D.rpp p hp).mono hpre, D.la.mono hpre, o₂ _ _ D₁.sa fun h => sa (sub1 _ h), o₂ _ _ D₁.ia fun h => ia (sub1 _ h)⟩
  have gD₂ := o₂ _ _ gD fun h => Dk (sub1 _ h)
  have oA : OffC (a.s.hp :: a.b.all) H H₂ := (o₁.mono fun b hb => .tail _ hb).toC.trans o₂.toC
  -- kept
  refine Exs.assign hc (by nest_cls) (Ev.listL hc (by nest_cls) ?_)
  refine Ev.attr ?_
  refine Ev.attr ?_
  refine Ev.cellA hc hA (by one_item) ?_
  refine (mk5_5 _ _ _ _ _ rfl W₂.ar (.of (by kernel_rfl) (by kernel_rfl) (by kernel_rfl)) K.store ?_)
  refine (mk5_5 _ _ _ _ _ rfl W₂.st.inst (.of (by kernel_rfl) (by kernel_rfl) (by kernel_rfl)) (by rfl) ?_)
  refine (mk2_4 _ _ rfl W₂.st.hp (by simp; (first | lia | omega)) (fun ka hka => ?_))
  have hk₃ : (H₂.set ka (.list (cs₂.map cv))) ka = some (.list (cs₂.map cv)) := AH.set_self ..
  have o₃ : Off [] H₂ (H₂.set ka (.list (cs₂.map cv))) := .new hka
  have kD : ka ∉ a.all := W₂.fresh hka
  generalize H₂.set ka (.list (cs₂.map cv)) = H₃ at hk₃ o₃ ⊢
  have W₃ := W₂.same o₃
  -- listed, rest
  isplit
  refine Ev.im ?_
  refine Ev.attr ?_
  refine Ev.cellA hc hA (by one_item) ?_
  refine (mk5_5 _ _ _ _ _ rfl W₃.ar (.of (by kernel_rfl) (by kernel_rfl) (by kernel_rfl)) K.store ?_)
  refine (mk5_5 _ _ _ _ 378 rfl W₃.st.inst (mk_meth (by kernel_rfl) (by kernel_rfl) (by kernel_rfl) (by kernel_rfl) (by kernel_rfl)) (by rfl) ?_)
  repeat isplit
  refine (list_cells_ok W₃.st (by (first | lia | omega)) mla hmr.good mnd (by simp; (first | lia | omega)) fun fa H₄ hfa hfa1 o₄ => ?_).at hc
  refine (mk2_2 _ _ rfl ?_)
  have W₄ := W₃.same o₄
  have o24 := o₃.trans o₄
  have gD₄ := o24 _ _ gD₂ (by simp)
  have hk₄ := o₄ _ _ hk₃ (by simp)
  refine Exs.if_ (Tr.mono (Q := fun b G' => b = false ∧ Off [] H₄ G') ?_ ?_)
  · isplit
    isplit
    isplit
    refine Ev.comp ([("areas", L + 3)] : List (Str × Addr)) hc rfl (by decide +kernel) (by decide +kernel) (by decide +kernel) (fun x b e => ?_) (by unfold closureFor cellOf; rw [lc.cells]; kernel_rfl) (compL ?_)
    · have := mem_of_lookup e
      simp only [List.mem_singleton, Prod.mk.injEq] at this
      refine el0_2 this fun z7 z8 => ?_; try clear this; subst z7; subst z8
      exact ⟨by rw [lc.cells]; rfl, .inl hA.1⟩
    isplit
    refine (mk2_3 _ _ rfl hfa1 (fun C2 D2 hD2 hc' => ?_))
    generalize hcc : compCx c _ _ C2 = c' at hc' ⊢
    have hcs' := (congrArg (fun x : Cx => x.env.scope) hcc).symm
    dsimp only [compCx, compEnvC] at hcs'
    rw [relabel_eq, hs] at hcs'
    have hce : c'.env.cells = ([("areas", L + 3)] : List (Str × Addr)) := by rw [← hcc]; rfl
    have kar : c'.env.kindOf "areas" = some .cell := kind_of hcs' (by kernel_rfl)
    have hmar : ∀ {m' : Loc}, m' "areas" = some (.ref a.ar) → compLoc c' m' "areas" = some (.ref a.ar) := fun h => compLoc_cell kar nofun h
    have far : fa ≠ D2 := fun z => by first | exact clash hfa1 hD2 z | exact clash hD2 hfa1 z.symm
    refine Cmp.inv0 (fun i G => G D2 = some (.list ((R.take i).map fun p => p.1.val)) ∧ Off [] H₄ G) _ ⟨AH.set_self .., .new hD2⟩ ?_ ?_
    · rintro i d G' hd ⟨g1, o⟩
      rw [List.getElem?_map, List.getElem?_map, Option.map_map, Option.map_eq_some_iff] at hd
      refine el1_2 hd fun pp hpp z9 => ?_; try clear hd; subst z9
      have hi : i < R.length := (List.getElem?_eq_some_iff.mp hpp).1
      have et : R.take (i + 1) = R.take i ++ [pp] := by rw [List.take_add_one, hpp]; rfl
      refine el0_4 (hRm pp (List.mem_of_getElem? hpp)) fun q1 q2 q3 q4 => ?_
      have W₅ := W₄.same o
      refine ⟨o _ _ hfa1 (by simp), ?_⟩
      refine Ev.im ?_
      refine Ev.cell hc' (Loc.other (by decide +kernel) (hmar (by one_item))) kar (by rw [hce]; rfl) ?_
      refine (mk5_5 _ _ _ _ 496 rfl W₅.ar (mk_meth (by kernel_rfl) (by kernel_rfl) (by kernel_rfl) (by kernel_rfl) (by kernel_rfl)) K.take ?_)
      isplit
      refine Ev.name hc' (Loc.self _ _ _) (kind_of hcs' (by kernel_rfl)) ?_
      isplit
      refine el0_3 (plain_facts q1 q2) fun _ pf2 pf3 => ?_
      refine (take_ok K W₅ (by (first | lia | omega)) (pf3 cs₂) (by rw [pf2]; exact .nil) (by rw [q1.size]; have := hnodes _ (List.mem_map_of_mem (List.mem_of_getElem? hpp)); (first | lia | omega)) fun H₆ o₆ => ?_).at hc'
      rw [(q1.closed q4 []).1]
      have g2 := o₆ _ _ g1 (by simp)
      refine (mk1_4 _ g2 (by simp; (first | lia | omega)) ?_ (fun b ob e nn => AH.other (fun z => by first | exact clash e hD2 z | exact clash hD2 e z.symm) ((o.trans o₆) b ob e nn)))
      rw [AH.set_self, et]; simp
    · rintro G' ⟨g1, o⟩
      rw [List.length_map, List.length_map, List.take_length] at g1
      refine ⟨o _ _ hfa1 (by simp), ?_⟩
      isplit
      have vk : ∀ d ∈ R.map (fun p => p.1.val), vOk 3 d = true := fun d hd => by
        refine el1_2 (List.mem_map.mp hd) fun p hp z10 => ?_; subst z10
        exact vOk_mono (by have := hnodes _ (List.mem_map_of_mem hp); (first | lia | omega)) (Tm.vOk p.1)
      refine Op2.ne_list hc g1 (o _ _ gD₄ (by simp)) (n := 3) (k := 3) vk vk (by (first | lia | omega)) (by (first | lia | omega)) fun t ht => (mk1_2 t rfl ?_)
      have ht' : t = false := by rw [← Bool.not_eq_true, ht]; simp
      subst ht'
      rw [if_neg Bool.false_ne_true]
      have W₅ := W₄.same o
      isplit
      isplit
      refine Ev.im ?_
      refine Ev.cellA hc hA (by one_item) ?_
      refine (mk5_5 _ _ _ _ 496 rfl W₅.ar (mk_meth (by kernel_rfl) (by kernel_rfl) (by kernel_rfl) (by kernel_rfl) (by kernel_rfl)) K.take ?_)
      repeat isplit
      refine (take_ok K W₅ (x := .sy 0) (by (first | lia | omega)) trivial .nil (by decide) fun H₆ o₆ => ?_).at hc
      repeat (first | isplit | refine And.intro ?_ (by simp; done))
      refine Op2.ne hc (vOk_tmA (n := 1) (by (first | lia | omega)) 0) (vOk_tmA (n := 1) (by (first | lia | omega)) 0) (by (first | lia | omega)) (by (first | lia | omega)) fun t ht => (mk1_2 t rfl ?_)
      have ht' : t = false := by rw [← Bool.not_eq_true, ht]; exact fun z => z rfl
      subst ht'
      rw [if_neg Bool.false_ne_true]
      isplit
      exact ⟨rfl, o.trans o₆⟩
  rintro b H₅ ⟨rfl, o₅⟩
  rw [if_neg Bool.false_ne_true]
  have W₅ := W₄.same o₅
  have o25 := o24.trans o₅
  have D₅ : LD a f H₅ ts₁ fn cs₂ := D₂.off sa ia (o25.mono nofun).toC W₅ (List.prefix_refl _) st₁
  have hk₅ := o₅ _ _ hk₄ (by simp)
  have oB : OffC (a.s.hp :: a.b.all) H H₅ := oA.trans (o25.mono nofun).toC
  isplit
  isplit
  have hmv : (wholeT (R.map (·.1)) (.sy 0)).vars = [] := by
    rw [wholeT_vars]
    simp only [Tm.vars, List.append_nil, List.flatMap_eq_nil_iff]
    intro t ht
    refine el1_2 (List.mem_map.mp ht) fun p hp z11 => ?_; subst z11
    exact (hRm p hp).2.2.2
  have hmd : (mct.take []).1 = .tup (untup (wholeT (R.map (·.1)) (.sy 0)).val) := by rw [(hsh.closed hmv []).1, Tm.val_tup]
  have hIt : ∀ p ∈ R, Itm cs₂ ts₁ p := fun p hp => by
    refine el0_4 (hRm p hp) fun q1 q2 q3 q4 => ?_
    refine el0_3 (plain_facts q1 q2) fun f1 f2 f3 => ?_
    exact ⟨q1, fun _ => q4, hrk p hp, f3 _, by rw [f2]; exact .nil, by rw [q1.size, f1]; (first | lia | omega)⟩
  refine Exs.if_ (Tr.mono (Q := fun b G' => b = false ∧ OffC a.b.all H₅ G' ∧ Wd a G' ts₁ fn cs₂) ?_ ?_)
  · isplit
    refine Ev.call hc (by nest_cls) (gv_law_read _) kf646 ?_
    isplit
    refine Ev.cellA hc hA (by one_item) ?_
    isplit
    isplit
    isplit
    refine Ev.cellA hc hC (by one_item) ?_
    isplit
    isplit
    isplit
    refine (law_read_ok K W₅ (by (first | lia | omega)) st₁ (by (first | lia | omega)) (by (first | lia | omega)) (L := R) (e := (.sy 0, .sy 0)) (as := mas) hIt (.sy 0) (by (first | lia | omega)) mla hmr.good mnd hmr hmb hmsz hmd fun G' o W' => ?_).at hc
    rw [hout] at W' ⊢
    isplit
    refine Op2.str_ne ⟨_, rfl, ?_⟩
    exact ⟨by simp, o, W'⟩
  rintro b H₆ ⟨rfl, o₆, W₆⟩
  rw [if_neg Bool.false_ne_true]
  have D₆ := D₅.off sa ia o₆ W₆ (List.prefix_refl _) st₁
  have ka_ : ka ∉ a.b.all := fun h => kD (WA.bk_all h)
  have hk₆ := o₆ _ _ hk₅ rfl ka_
  isplit
  isplit
  -- the list itself
  have hLn : ∀ t ∈ f.L, t.nodes ≤ 1 := fun t ht => by refine el1_2 (List.mem_map.mp ht) fun p hp z12 => ?_; subst z12; exact (F.sh p hp).2.2.1
  have hLk : ∀ t ∈ f.L, t.known ts₁ := fun t ht => by refine el1_2 (List.mem_map.mp ht) fun p hp z13 => ?_; subst z13; exact D₆.kn p hp
  have hLl : f.L.length = f.P.length := by simp [LF.L]
  have hwn : (wholeT f.L f.e.1).nodes ≤ 20 := by
    have := wholeT_nodes f.L f.e.1 hLn
    have he0 : f.e.1.nodes = 0 := by
      have h2 := F.he2
      generalize f.e.1 = e1 at h2 ⊢
      rcases h2 with h | ⟨n, rfl⟩
      · cases e1 <;> first | rfl | cases h
      · rfl
    have := F.lP
    (first | lia | omega)
  generalize hO : out ts₁ f.L f.e.1 (.tup f.ds) codes f.known = O
  have hOf : O.fine := by rw [← hO]; exact out_fine _ _ _ _ _ _
  have hO2 : out ts₁ f.L f.e.1 (wholeT f.L f.e.1).val codes f.known = O := by
    rw [← hO]; exact out_whole _ _ (F.wh.imp id Eq.symm) _ _
  have lP := F.lP
  refine Exs.if_ (Tr.mono (Q := fun b G' => b = false ∧ ∃ ts₃ fn₃, OffC a.b.all H₆ G' ∧ Wd a G' ts₃ fn₃ cs₂ ∧ ts₁ <+: ts₃ ∧ Short ts₃ ∧ ts₃.length ≤ ts₁.length + 6 ∧ fn₃.length ≤ fn.length + 2) ?_ ?_)
  · isplit
    refine Ev.call hc (by nest_cls) (gv_law_read _) kf646 ?_
    isplit
    refine Ev.cellA hc hA (by one_item) ?_
    isplit
    isplit
    isplit
    refine Ev.cellA hc hC (by one_item) ?_
    isplit
    isplit
    isplit
    refine (law_read_ok K W₆ (by (first | lia | omega)) st₁ (by (first | lia | omega)) (by (first | lia | omega)) (D₆.itm F) F.he (by (first | lia | omega)) D₆.la D₆.rp.good F.and_ D₆.rp F.nd F.sz F.ds fun G' o W' => ?_).at hc
    rw [show f.P.map (·.1) = f.L from rfl, hO] at W' ⊢
    have oI := o _ _ D₆.ia rfl fun h => ia (WA.bk_all h)
    have tl := Out.tle hOf ts₁
    have fl := O.fle ts₁ fn
    have hpre3 := O.pre ts₁
    have heq : out (O.t ts₁) f.L f.e.1 (wholeT f.L f.e.1).val codes f.known = O := by rw [out_pre hpre3 hLk, hO2]
    refine Ev.call hc (by nest_cls) (gv_law_due _) kf639 ?_
    isplit
    refine Ev.cellA hc hB (by one_item) ?_
    isplit
    isplit
    isplit
    isplit
    isplit
    isplit
    isplit
    refine Ev.cellA hc hC (by one_item) ?_
    isplit
    isplit
    isplit
    refine (law_due_ok W'.bk (by (first | lia | omega)) (by (first | lia | omega)) (Out.short hOf st₁) oI (fun h => ia (WA.bk_all h)) (fun t ht => Tm.known_pre hpre3 (hLk t ht)) hLn (by (first | lia | omega)) F.he2 hwn fun G2 B2 o2 => ?_).at hc
    rw [heq] at B2 ⊢
    rw [O.v_again ts₁ fn]
    have tl2 := Out.tle hOf (O.t ts₁)
    have fl2 := O.fle (O.t ts₁) (O.f ts₁ fn)
    have fin : false = false ∧ ∃ ts₃ fn₃, OffC a.b.all H₆ G2 ∧ Wd a G2 ts₃ fn₃ cs₂ ∧ ts₁ <+: ts₃ ∧ Short ts₃ ∧ ts₃.length ≤ ts₁.length + 6 ∧ fn₃.length ≤ fn.length + 2 :=
      ⟨rfl, O.t (O.t ts₁), O.f (O.t ts₁) (O.f ts₁ fn), o.trans o2.toC, W'.book o2 B2, hpre3.trans (O.pre _), Out.short hOf (Out.short hOf st₁), by (first | lia | omega), by (first | lia | omega)⟩
    rcases out_cases ts₁ fn f.L f.e.1 (wholeT f.L f.e.1) codes f.known hLn hwn with ⟨x, hx⟩ | hv
    · rw [hO2] at hx
      rw [hx]
      refine Op2.str_ne ⟨_, rfl, ?_⟩
      have : (x != x) = false := by simp
      rw [this]; exact fin
    · rw [hO2] at hv
      refine Op2.ne hc hv hv (by (first | lia | omega)) (by (first | lia | omega)) fun t ht => (mk1_2 t rfl ?_)
      have ht' : t = false := by rw [← Bool.not_eq_true, ht]; exact fun z => z rfl
      rw [ht']; exact fin
  rintro b H₇ ⟨rfl, ts₃, fn₃, o₇, W₇, hp₇, st₇, lt₇, lf₇⟩
  rw [if_neg Bool.false_ne_true]
  have D₇ := D₆.off sa ia o₇ W₇ hp₇ st₇
  have hk₇ := o₇ _ _ hk₆ rfl ka_
  have oC : OffC (a.s.hp :: a.b.all) H H₇ := (oB.trans (o₆.mono fun b hb => .tail _ hb)).trans (o₇.mono fun b hb => .tail _ hb)
  isplit
  isplit
  refine Exs.cons (Ex.forL hc .never (by nest_cls) ?_)
  refine Ev.subT ?_
  refine Ev.im ?_
  refine Ev.attr ?_
  refine Ev.cellA hc hA (by one_item) ?_
  refine (mk5_5 _ _ _ _ _ rfl W₇.ar (.of (by kernel_rfl) (by kernel_rfl) (by kernel_rfl)) K.store ?_)
  refine (mk5_5 _ _ _ _ 378 rfl W₇.st.inst (mk_meth (by kernel_rfl) (by kernel_rfl) (by kernel_rfl) (by kernel_rfl) (by kernel_rfl)) (by rfl) ?_)
  repeat isplit
  refine (list_cells_ok W₇.st (by (first | lia | omega)) D₇.la D₇.rp.good F.and_ (by simp; (first | lia | omega)) fun fb H₈ hfb hfb1 o₈ => ?_).at hc
  repeat isplit
  refine (mk1_2 _ rfl (Op2.item_tup (k := 0) rfl rfl (by simp) ?_))
  refine (mk2_3 _ _ rfl hfb1 ?_)
  have fbD : fb ∉ a.all := W₇.fresh hfb
  have fb_ : fb ∉ a.b.all := fun h => fbD (WA.bk_all h)
  refine For.inv (fun i m' G => LN a f m' ∧ m' "as_codes" = some (.bool codes) ∧ m' "kept" = some (.ref ka) ∧ G ka = some (.list (cs₂.map cv)) ∧ G fb = some (.list ((f.P.map fun p => p.2.cell).map cv)) ∧ OffC (a.s.hp :: a.b.all) H G ∧
      ∃ ts' fn', LD a f G ts' fn' cs₂ ∧ ts'.length ≤ ts₃.length + 8 * i ∧ fn'.length ≤ fn₃.length + 2 * i) _
    ⟨⟨by one_item, by one_item, by one_item, by one_item, by one_item, by one_item, by one_item, by one_item, by one_item⟩, by one_item, by one_item, o₈ _ _ hk₇ (by simp), hfb1, oC.trans (o₈.mono nofun).toC, ts₃, fn₃, D₇.off sa ia (o₈.mono nofun).toC (W₇.same o₈) (List.prefix_refl _) st₇, by (first | lia | omega), by (first | lia | omega)⟩ ?_ ?_
  · rintro i d m' G hd ⟨⟨b1, b2, b3, b4, b5, b6, b7, b8, b9⟩, hac', hkp', hk', hf', o', ts', fn', D', l1, l2⟩
    rw [List.getElem?_map, List.getElem?_map, Option.map_map, Option.map_eq_some_iff] at hd
    refine el1_2 hd fun pp hpp z14 => ?_; try clear hd; subst z14
    have hi : i < f.P.length := (List.getElem?_eq_some_iff.mp hpp).1
    have hmem := List.mem_of_getElem? hpp
    have itm := D'.itm F pp hmem
    have hnd1 := (F.sh pp hmem).2.2.1
    refine el1_3 (item_val itm.sh itm.fr) fun tm' etm hfr heq' => ?_
    refine ⟨hf', ?_⟩
    isplit
    refine Ev.im ?_
    refine Ev.cellA hc hA (by one_item) ?_
    refine (mk5_5 _ _ _ _ 496 rfl D'.W.ar (mk_meth (by kernel_rfl) (by kernel_rfl) (by kernel_rfl) (by kernel_rfl) (by kernel_rfl)) K.take ?_)
    repeat isplit
    refine (take_ok K D'.W (by (first | lia | omega)) itm.rp itm.nd itm.sz fun G2 o2 => ?_).at hc
    rw [etm]
    have D2 := D'.off sa ia (o2.mono nofun).toC (D'.W.same o2) (List.prefix_refl _) D'.st
    have hk2 := o2 _ _ hk' (by simp)
    have hf2 := o2 _ _ hf' (by simp)
    have oo2 := o'.trans (o2.mono nofun).toC
    refine el2_3 tm'.tag0 fun tt dt e5 hl5 hf5 => ?_
    have tv5 : (tt != ("v" : Str)) = !pp.1.free := by rw [← hfr, bne, Bool.not_inj_iff, Bool.eq_iff_iff, beq_iff_eq, hf5]
    refine Exs.if_ ?_
    isplit
    refine Ev.subT ?_
    isplit
    isplit
    refine (mk1_2 (.str tt :: dt) e5 (Op2.item_tupE (n := 0) e5 rfl rfl (Nat.le_trans (Nat.succ_le_succ hl5) (by (first | lia | omega))) ?_))
    isplit
    refine Op2.str_ne ⟨_, rfl, ?_⟩
    rw [tv5]
    cases hft : pp.1.free with
    | true =>
      rw [if_neg (show ¬ ((!true) = true) from Bool.false_ne_true)]
      repeat isplit
      exact (mk0_7 ⟨by one_item, by one_item, by one_item, by one_item, by one_item, by one_item, by one_item, by one_item, by one_item⟩ (by one_item) (by one_item) hk2 hf2 oo2  (mk2_3 ts' fn' D2 (by (first | lia | omega)) (by (first | lia | omega))))
    | false =>
      rw [if_pos (show (!false) = true from rfl)]
      have etp := heq' hft
      subst etp
      have S : Stb fun v G3 => v = ballV ts' fn' (faultT codes pp.1).1 (faultT codes pp.1).2 ∧ signT ts' codes pp.1 = none ∧ OffC a.b.all G2 G3 ∧ Wd a G3 (ballT ts' (faultT codes pp.1).1 (faultT codes pp.1).2) (ballF ts' fn' (faultT codes pp.1).1 (faultT codes pp.1).2) cs₂ :=
        fun v G3 G4 x z15 => el0_4 z15 fun h1 h2 h3 h4 => (mk0_4 h1 h2 (h3.ext x) (h4.ext x))
      refine Exs.cons (Ex.try_ hc lc.hf S (by nest_cls) (by nest_cls) (gv_PrologError _) (try_assign hc (by nest_cls) (EvA.call (lv' := 7) hc (by nest_cls) (gv_element_text _) kf432 ?_)) fun A b dd T ball H' hb hp => ?_)
      · isplit
        refine Ev.cellA hc hA (by one_item) ?_
        isplit
        isplit
        isplit
        refine Ev.cellA hc hC (by one_item) ?_
        isplit
        refine element_ok K D2.W (by (first | lia | omega)) itm.sh (itm.fr hft) itm.kn D2.st itm.rp itm.nd itm.sz (by (first | lia | omega)) (by (first | lia | omega)) S (fun x hx => ?_) fun G3 hn o3 W3 => (mk0_4 rfl hn o3.toC W3)
        isplit
        isplit
        refine Ev.call hc (by nest_cls) (gv_law_sign _) kf622 ?_
        isplit
        refine Ev.cellA hc hB (by one_item) ?_
        isplit
        isplit
        isplit
        refine Ev.cellA hc hC (by one_item) ?_
        isplit
        refine (law_sign_ok D2.W.bk (by (first | lia | omega)) D2.st itm.kn ?_).at hc
        have e6 : signV ts' codes pp.1 = .str x := by simp [signV, hx]
        rw [e6]
        refine Exs.if_ ?_
        isplit
        isplit
        isplit
        refine Op2.is_none ⟨_, rfl, ?_⟩
        rw [if_neg Bool.false_ne_true]
        repeat isplit
        refine Op2.str_ne ⟨_, rfl, ?_⟩
        rw [if_neg (by simp)]
        repeat isplit
        exact (mk0_7 ⟨by one_item, by one_item, by one_item, by one_item, by one_item, by one_item, by one_item, by one_item, by one_item⟩ (by one_item) (by one_item) hk2 hf2 oo2  (mk2_3 ts' fn' D2 (by (first | lia | omega)) (by (first | lia | omega))))
      · refine el0_4 hp fun z16 hn o3 W3 => ?_; try clear hp; subst z16
        refine Exs.assignK hc.kind (kind_of hs (by kernel_rfl)) (Ev.ball hc.kind (Loc.self _ _ _) (kind_of hs (by kernel_rfl)) hb (Exs.nil ?_))
        show Exs c _ _ _ _ _
        have fine := fault_fine codes pp.1
        have sh3 := ballT_short (name := (faultT codes pp.1).1) (l := (faultT codes pp.1).2) D2.st fine.1 fine.2.2
        have pr3 := ballT_pre ts' (faultT codes pp.1).1 (faultT codes pp.1).2
        have le3 := ballT_le ts' (faultT codes pp.1).1 (faultT codes pp.1).2
        have lf3 := ballF_le ts' fn' (faultT codes pp.1).1 (faultT codes pp.1).2
        have l2p := fine.2.1
        have hbal := ballV_again ts' fn' (faultT codes pp.1).1 (faultT codes pp.1).2
        have vball := vOk_ball (n := 3) (by (first | lia | omega)) ts' fn' (faultT codes pp.1).1 (faultT codes pp.1).2 (fault_ok codes hnd1)
        have D3 := D2.off sa ia o3 W3 pr3 sh3
        have hk3 := o3 _ _ hk2 rfl ka_
        have hf3 := o3 _ _ hf2 rfl fb_
        have oo3 := oo2.trans (o3.mono fun b hb => .tail _ hb)
        have hsn : signV (ballT ts' (faultT codes pp.1).1 (faultT codes pp.1).2) codes pp.1 = .none := by
          unfold signV; rw [signT_pre pr3 itm.kn, hn]
        generalize ballT ts' (faultT codes pp.1).1 (faultT codes pp.1).2 = ts4 at *
        generalize ballF ts' fn' (faultT codes pp.1).1 (faultT codes pp.1).2 = fn4 at *
        generalize ballV ts' fn' (faultT codes pp.1).1 (faultT codes pp.1).2 = bal at *
        generalize hm4 : Loc.del _ "fault" = m4
        have d1 : m4 "book" = some (.ref a.b.sy) := by rw [← hm4]; exact Loc.delO (by decide +kernel) (by one_item)
        have d2 : m4 "areas" = some (.ref a.ar) := by rw [← hm4]; exact Loc.delO (by decide +kernel) (by one_item)
        have d3 : m4 "signs" = some (.ref f.sa) := by rw [← hm4]; exact Loc.delO (by decide +kernel) (by one_item)
        have d4 : m4 "items" = some (.ref f.ia) := by rw [← hm4]; exact Loc.delO (by decide +kernel) (by one_item)
        have d5 : m4 "end" = some f.e.1.val := by rw [← hm4]; exact Loc.delO (by decide +kernel) (by one_item)
        have d6 : m4 "known" = some (.bool f.known) := by rw [← hm4]; exact Loc.delO (by decide +kernel) (by one_item)
        have d7 : m4 "whole" = some (wholeT f.L f.e.1).val := by rw [← hm4]; exact Loc.delO (by decide +kernel) (by one_item)
        have d8 : m4 "cell" = some (cv f.ct.cell) := by rw [← hm4]; exact Loc.delO (by decide +kernel) (by one_item)
        have d9 : m4 "text" = some (.str (textOf f.S)) := by rw [← hm4]; exact Loc.delO (by decide +kernel) (by one_item)
        have d10 : m4 "as_codes" = some (.bool codes) := by rw [← hm4]; exact Loc.delO (by decide +kernel) (by one_item)
        have d11 : m4 "kept" = some (.ref ka) := by rw [← hm4]; exact Loc.delO (by decide +kernel) (by one_item)
        have d12 : m4 "item" = some pp.1.val := by rw [← hm4]; exact Loc.delO (by decide +kernel) (by one_item)
        have d13 : m4 "told" = some bal := by rw [← hm4]; exact Loc.delO (by decide +kernel) (by one_item)
        clear hm4
        isplit
        refine Ev.call hc (by nest_cls) (gv_law_sign _) kf622 ?_
        isplit
        refine Ev.cellA hc hB (by one_item) ?_
        isplit
        isplit
        isplit
        refine Ev.cellA hc hC (by one_item) ?_
        isplit
        refine (law_sign_ok D3.W.bk (by (first | lia | omega)) D3.st (Tm.known_pre pr3 itm.kn) ?_).at hc
        rw [hsn]
        refine Exs.if_ ?_
        isplit
        isplit
        isplit
        refine Op2.is_none ⟨_, rfl, ?_⟩
        rw [if_pos rfl]
        isplit
        refine Ev.call hc (by nest_cls) (gv_law_fault _) kf629 ?_
        isplit
        isplit
        isplit
        refine Ev.cellA hc hC (by one_item) ?_
        isplit
        refine (law_fault_ok fun lp G4 hlp hlp2 o4 => ?_).at hc
        refine (mk2_2 _ _ rfl ?_)
        have lpD : lp ∉ a.all := D3.W.fresh hlp
        isplit
        refine Ev.call hc (by nest_cls) (gv_law_ball _) kf634 ?_
        isplit
        refine Ev.cellA hc hB (by one_item) ?_
        repeat isplit
        refine (law_ball_ok (D3.W.bk.off o4) (n := 3) (by (first | lia | omega)) (by (first | lia | omega)) hlp2 (fun h => lpD (WA.bk_all h)) (by (first | lia | omega)) (by (first | lia | omega)) (fault_ok codes hnd1) fun G5 B5 o5 => ?_).at hc
        rw [hbal]
        have W4 := D3.W.same o4
        have pr5 := ballT_pre ts4 (faultT codes pp.1).1 (faultT codes pp.1).2
        have le5 := ballT_le ts4 (faultT codes pp.1).1 (faultT codes pp.1).2
        have lf5 := ballF_le ts4 fn4 (faultT codes pp.1).1 (faultT codes pp.1).2
        have sh5 := ballT_short (name := (faultT codes pp.1).1) (l := (faultT codes pp.1).2) sh3 fine.1 fine.2.2
        have o45 := (o4.mono (l' := a.b.all) nofun).trans o5
        have D5 := D3.off sa ia o45.toC (W4.book o5 B5) pr5 sh5
        have hk5 := o45.toC _ _ hk3 rfl ka_
        have hf5' := o45.toC _ _ hf3 rfl fb_
        have oo5 := oo3.trans (o45.toC.mono fun b hb => .tail _ hb)
        repeat isplit
        refine Op2.ne hc vball vball (by (first | lia | omega)) (by (first | lia | omega)) fun t ht => (mk1_2 t rfl ?_)
        have ht' : t = false := by rw [← Bool.not_eq_true, ht]; exact fun z => z rfl
        subst ht'
        rw [if_neg Bool.false_ne_true]
        repeat isplit
        exact (mk0_7 ⟨by one_item, by one_item, by one_item, by one_item, by one_item, by one_item, by one_item, by one_item, by one_item⟩ (by one_item) (by one_item) hk5 hf5' oo5  (mk2_3 _ _ D5 (by (first | lia | omega)) (by (first | lia | omega))))
  · rintro m' G ⟨N', hac', hkp', hk', hf', o', ts', fn', D', l1, l2⟩
    simp only [List.length_map] at l1 l2
    refine ⟨hf', ?_⟩
    isplit
    refine Exs.if_ ?_
    isplit
    refine Ev.attr ?_
    refine Ev.attr ?_
    refine Ev.cellA hc hA N'.areas ?_
    refine (mk5_5 _ _ _ _ _ rfl D'.W.ar (.of (by kernel_rfl) (by kernel_rfl) (by kernel_rfl)) K.store ?_)
    refine (mk5_5 _ _ _ _ _ rfl D'.W.st.inst (.of (by kernel_rfl) (by kernel_rfl) (by kernel_rfl)) (by rfl) ?_)
    isplit
    have vk : ∀ d ∈ cs₂.map cv, vOk 1 d = true := fun d hd => by refine el1_2 (List.mem_map.mp hd) fun p _ z17 => ?_; subst z17; exact cv_ok p
    refine Op2.ne_list hc D'.W.st.hp hk' (n := 1) (k := 1) vk vk (by (first | lia | omega)) (by (first | lia | omega)) fun t ht => (mk1_2 t rfl ?_)
    have ht' : t = false := by rw [← Bool.not_eq_true, ht]; exact fun z => z rfl
    subst ht'
    rw [if_neg Bool.false_ne_true]
    repeat isplit
    exact q m' G ts' fn' cs₂ N' D' (by (first | lia | omega)) (by (first | lia | omega)) (by (first | lia | omega)) o'
noncomputable def BL (c : Cx) (l : Addr) (ns : List Int) : Prop := ∃ vs, c.B.IsList l (vs : List Value).toArray ∧ IntsAre vs ns
theorem Pot.setO {p nl D : Addr} {H : AH} {o : O} (x : Pot p nl H) (h1 : D ≠ p) (h2 : D ≠ nl) : Pot p nl (H.set D o) := by
  refine el0_2 x fun ne z10 => ?_; try clear x; refine el2_4 z10 fun k ns a b e1 e2 => ?_
  exact (mk0_2 ne  (mk2_4 k ns a b (AH.other (Ne.symm h1) e1) (AH.other (Ne.symm h2) e2)))
theorem ints_vrs {h : Heap} {vs : List Value} {ns : List Int} (x : IntsAre vs ns) : VRs h vs (ns.map .int) := by
  induction x with
  | nil => exact .nil
  | cons n t _ ih => exact .cons (.int n t) ih
theorem ints_len {vs : List Value} {ns : List Int} (x : IntsAre vs ns) : vs.length = ns.length := by
  induction x with
  | nil => rfl
  | cons n t _ ih => simp [ih]
section
variable {lv : Nat} {c : Cx} {E : ER} {m : Loc} {H : AH} {l : Addr} {ns : List Int} {Q : V → AH → Prop} {x : Str} {xp np sp kp pos : Pos} {kk : Nat}
theorem Rel.isList {s : Shared} (R : Rel c m H s) {items : Array Value} (h : c.B.IsList l items) : s.heap.IsList l items := by
  refine el1_2 h fun o e r => ?_; try clear h
  exact (mk1_2 o (R.base l o e) r)
theorem Ev.lenB (hc : CxOk lv c) (hl : BL c l ns) (hn : ns.length ≤ 63) (hx : m x = some (.ref l)) (hk : c.env.kindOf x = some .local) (hlen : c.env.kindOf "len" = some .globalImplicit) (q : Q (.int ns.length) H) (hd : (x == ("__debug__" : Str)) = false)
    (he : eval (.Call (.Name "len" np) [.Name x xp] [] pos) c.env = (do callWith pos (← eval (.Name "len" np) c.env) [] (backTo pos (starEach [.Name x xp] c.env)) (backToKw pos (keywordEach [] c.env))) := by rfl)
    (hst : starEach [.Name x xp] c.env = (false, eval (.Name x xp) c.env) :: starEach [] c.env := by rfl) : Ev c E (.Call (.Name "len" np) [.Name x xp] [] pos) m H Q := by
  refine Ev.call hc hlen (gv_len _) (keep_builtin _) (Evs.cons (Ev.name hc hx hk (Evs.nil fun vs s r R => ?_) hd) hst) (by decide) he hst rfl
  refine el1_2 hl fun ws hw hi => ?_; try clear hl
  cases r with | cons a r =>
    cases r; cases a
    have := ints_len hi
    refine PySem.Calls.call_len_list (R.isList hw) (by rw [List.size_toArray]; (first | lia | omega)) (R.here ?_ (.int ..))
    rw [List.size_toArray, this]; exact q
theorem Ev.sliceB (hc : CxOk lv c) (hl : BL c l ns) (hn : ns.length ≤ 63) (hx : m x = some (.ref l)) (hk : c.env.kindOf x = some .local) (hd : (x == ("__debug__" : Str)) = false) {b : Nat} (q : ∀ a, H a = .none → Q (.ref a) (H.set a (.list ((ns.take b).map .int)))) :
    Ev c E (.Subscript (.Name x xp) (.Slice Option.none (some (.Constant (.int b) kk kp)) Option.none sp) pos) m H Q := fun s R => by
  refine el1_2 hl fun ws hw hi => ?_; try clear hl
  have hln := ints_len hi
  refine wpAny_Subscript_list_slice (wpAny_mono (Ev.name (Q := fun a H' => a = .ref l ∧ H' = H) hc hx hk ⟨rfl, rfl⟩ hd s R) (fun va s₁ z11 => el2_5 z11 fun a H₁ z12 r₁ R₁ m₁ g₁ => el0_2 z12 fun ea eH => ?_) fun _ _ x => x)
  subst ea eH
  cases r₁
  rw [evalPart_none, evalPart_some]
  refine wpAny_pure (wpAny_Constant_int ?_)
  refine (mk4_6 l ws.toArray Option.none (some (b : Int)) rfl ?_ (by rw [List.size_toArray, sizeLine_eq]; (first | lia | omega)) .none (.int _ _) ?_)
  · refine el1_2 (R₁.isList hw) fun o e r => ?_
    exact (mk1_2 o e r)
  rw [slicePick_upto']
  have k1 : ∀ o, ∀ b ob, s₁.heap.get? b = some ob → (s₁.heap.push o).get? b = some ob := fun o b ob e => Heap.get?_push_of_some _ e
  have R₃ := R₁.ext (tk := s₁.toks + 1) (k1 { cls := .type "slice", data := .fields #[.none, .int b s₁.toks, .none] })
  have z := R₃.hereN (Q := Q) (tk := s₁.toks + 1) (o := .list ((ns.take b).map .int)) (h' := (s₁.heap.push { cls := .type "slice", data := .fields #[.none, .int b s₁.toks, .none] }).push { cls := .type "list", data := .seq (ws.take b).toArray }) (a := s₁.heap.objs.size + 1)
    (fun b ob e => Heap.get?_push_of_some _ e) (by have := size_none (s₁.heap.push { cls := .type "slice", data := .fields #[.none, .int b s₁.toks, .none] }); rwa [Heap.size_push] at this)
    ⟨ws.take b, 0, by have := Heap.get?_push_size (s₁.heap.push { cls := .type "slice", data := .fields #[.none, .int b s₁.toks, .none] }) (o := { cls := .type "list", data := .seq (ws.take b).toArray }) rfl; rwa [Heap.size_push] at this, by rw [List.map_take]; exact vrs_take (ints_vrs hi) b⟩ q
  have z2 := EvP.trans (s₁ := { s₁ with heap := s₁.heap.push { cls := .type "slice", data := .fields #[.none, .int b s₁.toks, .none] }, toks := s₁.toks + 1 }) (.of_keeps (k1 _)) (.refl _ _) z
  exact z2.trans m₁ g₁
end
theorem gv_Symbols (w : World) : GV w "Symbols" (.ref 154) := gvG (by kernel_rfl)
theorem gv_Areas (w : World) : GV w "Areas" (.ref 597) := gvG (by kernel_rfl)
theorem gv_law_element (w : World) : GV w "_law_element" (.ref 615) := gvG (by kernel_rfl)
theorem kf154 {w : World} : KeepOk w (.ref 154) := keep_ref (by kernel_rfl)
theorem kf597 {w : World} : KeepOk w (.ref 597) := keep_ref (by kernel_rfl)
theorem kf615 {w : World} : KeepOk w (.ref 615) := keep_ref (by kernel_rfl)
theorem CT.take_tup (x : CT) (tb : List Int) : ∃ ds, (x.take tb).1 = .tup ds := by cases x <;> exact ⟨_, rfl⟩
theorem chs_sum (S : List Nat) : ((chs S).map (·.length)).sum = S.length := by
  induction S with
  | nil => rfl
  | cons n r ih =>
    show (1 : Nat) + ((chs r).map (·.length)).sum = r.length + 1
    rw [ih]; (first | lia | omega)
theorem law_body {c : Cx} {L : Nat} (lc : LC c L) {l : Addr} {ns : List Int} (hl : BL c l ns) (hn : ns.length ≤ 63) {m : Loc} (hm : m "script" = some (.ref l)) :
    Exs c (fun _ _ => False) (fnBody (topS 49)) m (fun _ => none) (RetQ fun v _ => v = .bool true) := by
  conv =>
    arg 3
    whnf
  have hc := lc.hc
  have hs := lc.hs
  conv at hs =>
    rhs
    whnf
  have hP : CellAt c "pot" := lc.cell (by kernel_rfl) rfl
  have hB : CellAt c "book" := lc.cell (by kernel_rfl) rfl
  have hA : CellAt c "areas" := lc.cell (by kernel_rfl) rfl
  have hC : CellAt c "as_codes" := lc.cell (by kernel_rfl) rfl
  refine Exs.assignC hc hP ?_
  refine Ev.mono (Q := fun v G => ∃ p nl, v = .ref p ∧ Pot p nl G) ?_ ?_
  · isplit
    isplit
    isplit
    isplit
    isplit
    isplit
    refine Ev.lenB hc hl hn hm (by nest_cls) (by nest_cls) ?_ (by decide)
    isplit
    refine Op2.int_gt ⟨_, rfl, ?_⟩
    cases ns with
    | nil =>
      rw [if_neg (by simp)]
      repeat isplit
      refine ⟨fun nl hnl => ?_, by simp⟩
      isplit
      refine ⟨fun p hp => (mk2_2 p nl rfl ?_), by simp⟩
      have ne : p ≠ nl := fun z => by first | exact clash hp (AH.set_self _ _ _) z | exact clash hp (AH.set_self _ _ _) z.symm
      exact (mk0_2 ne  (mk2_4 0 [0] (by simp) (by simp) (AH.set_self ..) (AH.other (Ne.symm ne) (AH.set_self ..))))
    | cons n0 nr =>
      rw [if_pos (by simp)]
      refine Ev.listL hc (by nest_cls) (Ev.sliceB (b := 20) hc hl hn hm (by nest_cls) (by decide) fun s0 hs0 => ?_)
      refine (mk2_4 _ _ rfl (AH.set_self ..) (by simp; (first | lia | omega)) (fun nl hnl => ?_))
      isplit
      refine ⟨fun p hp => (mk2_2 p nl rfl ?_), by simp⟩
      have ne : p ≠ nl := fun z => by first | exact clash hp (AH.set_self _ _ _) z | exact clash hp (AH.set_self _ _ _) z.symm
      exact (mk0_2 ne  (mk2_4 0 ((n0 :: nr).take 20) (by simp) (by simp; (first | lia | omega)) (AH.set_self ..) (AH.other (Ne.symm ne) (AH.set_self ..))))
  rintro v G0 ⟨p, nl, rfl, P0⟩
  -- book
  refine Exs.assignC hc hB (Ev.call0 hc (by nest_cls) (gv_Symbols _) kf154 ?_)
  refine (Symbols_ok fun k G1 ts fn o1 B1 h0 hl1 hl2 sh1 hall => ?_).at hc
  have P1 := P0.off o1.toC (by simp) (by simp)
  have pin : ∀ {G : AH}, Pot p nl G → (∃ o, G p = some o) ∧ ∃ o, G nl = some o := fun z13 => el0_2 z13 fun _ z14 => el2_4 z14 fun _ _ _ _ e1 e2 => (mk0_2 ⟨_, e1⟩  (mk1_1 _ e2))
  have hpk : p ∉ k.all := fun h => by refine el0_2 (pin P0) fun z15 _ => ?_; refine el1_1 z15 fun o e => ?_; rw [hall _ h] at e; cases e
  have hnk : nl ∉ k.all := fun h => by refine el0_2 (pin P0) fun _ z16 => ?_; refine el1_1 z16 fun o e => ?_; rw [hall _ h] at e; cases e
  -- areas
  refine Exs.assignC hc hA (Ev.call hc (by nest_cls) (gv_Areas _) kf597 ?_)
  isplit
  refine Ev.cellA hc hB (by one_item) ?_
  repeat isplit
  refine ⟨fun cd hcd => ?_, by simp⟩
  repeat isplit
  have B2 := B1.off (Off.new (o := .list []) hcd)
  have P2 := P1.off (Off.new (l := []) (o := .list []) hcd).toC (by simp) (by simp)
  refine (Areas_ok B2 fun st ar ad fs G3 W3 K hst har had o3 => ?_).at hc
  have P3 := P2.off o3.toC (by simp) (by simp)
  generalize ha : (⟨k, st, ar, ad, fs⟩ : WA) = a at W3 K
  have hak : a.b = k := by rw [← ha]
  have hpa : p ∉ a.all ∧ nl ∉ a.all := by
    refine el0_2 (pin P2) fun z17 z18 => ?_; refine el1_1 z18 fun o' e' => ?_; refine el1_1 z17 fun o e => ?_
    rw [← ha]
    simp only [WA.all, List.mem_append, List.mem_cons, List.mem_nil_iff, or_false, not_or]
    refine (mk0_4 ⟨⟨hpk, fun h => ?_⟩, fun h => ?_, fun h => ?_⟩ ⟨hnk, fun h => ?_⟩ (fun h => ?_) (fun h => ?_))
    · rw [hst _ h] at e; cases e
    · rw [h, har] at e; cases e
    · rw [h, had] at e; cases e
    · rw [hst _ h] at e'; cases e'
    · rw [h, har] at e'; cases e'
    · rw [h, had] at e'; cases e'
  refine el0_2 hpa fun hpA hnA => ?_; try clear hpa
  have har' : ar = a.ar := by rw [← ha]
  have hsy' : k.sy = a.b.sy := by rw [← ha]
  rw [hsy', har']
  clear ha hst har had B1 B2 hall
  have dis : ∀ b ∈ [p, nl], b ∉ a.all := fun b hb => by simp only [List.mem_cons, List.mem_nil_iff, or_false] at hb; rcases hb with rfl | rfl <;> assumption
  -- signs
  refine Exs.assignComp ([("pot", L + 1)] : List (Str × Addr)) (swaps_yes hs (by kernel_rfl)) (by nest_cls) hc rfl (by decide +kernel) (by decide +kernel) (by decide +kernel) (fun x b e => ?_) (by unfold closureFor cellOf; rw [lc.cells]; kernel_rfl) (compR hc (by nest_cls) ?_)
  · have := mem_of_lookup e
    simp only [List.mem_singleton, Prod.mk.injEq] at this
    refine el0_2 this fun z19 z20 => ?_; try clear this; subst z19; subst z20
    exact ⟨by rw [lc.cells]; rfl, .inl hP.1⟩
  refine Ev.call hc (by nest_cls) (gv_law_digit _) kf608 ?_
  isplit
  refine Ev.cellA hc hP (by one_item) ?_
  repeat isplit
  refine (digit_ok P3 (by decide) fun d G4 d0 d1 P4 o4 => ?_).at hc
  obtain ⟨N, rfl⟩ : ∃ N : Nat, d = N := ⟨d.toNat, by (first | lia | omega)⟩
  have W4 : Wd a G4 ts fn [] := W3.offC o4.toC dis
  refine (mk1_3 N rfl (by (first | lia | omega)) (fun C DD hD hc' => ?_))
  generalize hcc : compCx c _ _ C = c' at hc' ⊢
  have hcs' := (congrArg (fun x : Cx => x.env.scope) hcc).symm
  dsimp only [compCx, compEnvC] at hcs'
  rw [relabel_eq, hs] at hcs'
  have hce : c'.env.cells = ([("pot", L + 1)] : List (Str × Addr)) := by rw [← hcc]; rfl
  have kpt : c'.env.kindOf "pot" = some .cell := kind_of hcs' (by kernel_rfl)
  have hmp : ∀ {m' : Loc}, m' "pot" = some (.ref p) → compLoc c' m' "pot" = some (.ref p) := fun h => compLoc_cell kpt nofun h
  have hDp : DD ≠ p ∧ DD ≠ nl := by
    refine el0_2 (pin P4) fun z21 z22 => ?_; refine el1_1 z22 fun o' e' => ?_; refine el1_1 z21 fun o e => ?_
    exact ⟨fun z => (by rw [← z, hD] at e; cases e), fun z => (by rw [← z, hD] at e'; cases e')⟩
  have DA : DD ∉ a.all := W4.fresh hD
  refine Cmp.inv0 (fun i G => Pot p nl G ∧ Off [p, nl] G4 G ∧ ∃ S : List Nat, S.length = i ∧ (∀ n ∈ S, n ≤ 1114111) ∧ G DD = some (.list ((chs S).map .str))) _ ⟨P4.off (Off.new (l := []) hD).toC (by simp) (by simp), .new hD, [], rfl, nofun, AH.set_self ..⟩ ?_ ?_
  · rintro i d G hd ⟨Pi, oi, S, hSi, hS, gi⟩
    have hi : i < N := by have := (List.getElem?_eq_some_iff.mp hd).1; simpa [ranged] using this
    refine ⟨trivial, ?_⟩
    refine Ev.chr hc' (by nest_cls) ?_
    refine Ev.call hc' (by nest_cls) (gv_law_digit _) kf608 ?_
    isplit
    refine Ev.cell hc' (Loc.other (by decide +kernel) (hmp (by one_item))) kpt (by rw [hce]; rfl) ?_
    isplit
    isplit
    isplit
    refine (digit_ok Pi (by decide) fun d G5 d0 d1 P5 o5 => ?_).at hc'
    refine (mk1_4 d rfl d0 (by (first | lia | omega)) ?_)
    have g5 := o5 _ _ gi (by simp [hDp.1, hDp.2])
    refine (mk1_5 _ g5 (by simp [chs]; (first | lia | omega)) (P5.setO hDp.1 hDp.2) (fun b ob e nn => AH.other (fun z => by first | exact clash e hD z | exact clash hD e z.symm) (o5 b ob (oi b ob e nn) nn))  (mk1_3 (S ++ [d.toNat]) (by simp [hSi]) (fun n hn => ?_) ?_))
    · rcases List.mem_append.mp hn with h | h
      · exact hS n h
      · rw [List.mem_singleton.mp h]; (first | lia | omega)
    · rw [AH.set_self]; simp [chs]
  · rintro G ⟨Pi, oi, S, hSi, hS, gi⟩
    refine ⟨trivial, ?_⟩
    have lenS : S.length ≤ 5 := by rw [hSi]; simp [ranged]; (first | lia | omega)
    have W5 : Wd a G ts fn [] := W4.offC oi.toC dis
    have oA : Off [] G4 G4 := .refl _ _
    clear hcs' hce kpt hmp hc' hcc
    -- items, loose
    isplit
    isplit
    isplit
    refine ⟨fun ia hia => ?_, by simp⟩
    repeat isplit
    have iaA : ia ∉ a.all := W5.fresh hia
    have iap : ia ≠ p ∧ ia ≠ nl := by
      refine el0_2 (pin Pi) fun z23 z24 => ?_; refine el1_1 z24 fun o' e' => ?_; refine el1_1 z23 fun o e => ?_
      exact ⟨fun z => (by rw [← z, hia] at e; cases e), fun z => (by rw [← z, hia] at e'; cases e')⟩
    have iaD : DD ≠ ia := fun z => by first | exact clash gi hia z | exact clash hia gi z.symm
    refine Exs.cons (Ex.forR hc .never (by nest_cls) (by nest_cls) ?_)
    refine Ev.call hc (by nest_cls) (gv_law_digit _) kf608 ?_
    isplit
    refine Ev.cellA hc hP (by one_item) ?_
    isplit
    isplit
    isplit
    refine (digit_ok (Pi.setO iap.1 iap.2) (by decide) fun d G6 d0 d1 P6 o6 => ?_).at hc
    obtain ⟨N2, rfl⟩ : ∃ N : Nat, d = N := ⟨d.toNat, by (first | lia | omega)⟩
    have W6 : Wd a G6 ts fn [] := (W5.same (Off.new (o := .list []) hia)).offC o6.toC dis
    have gi6 : G6 DD = some (.list ((chs S).map .str)) := o6 _ _ (AH.other iaD gi) (by simp [hDp.1, hDp.2])
    have gia6 : G6 ia = some (.list []) := o6 _ _ (AH.set_self ..) (by simp [iap.1, iap.2])
    refine (mk1_3 N2 rfl (by (first | lia | omega)) ?_)
    refine For.inv (fun i m' G => m' "pot" = some (.ref p) ∧ m' "book" = some (.ref a.b.sy) ∧ m' "areas" = some (.ref a.ar) ∧ m' "signs" = some (.ref DD) ∧ m' "items" = some (.ref ia) ∧ ∃ (k : Nat) (Lm : List Tm) (ts' : List Str), m' "loose" = some (.int k) ∧
        G ia = some (.list (Lm.map Tm.val)) ∧ Lm.length = i ∧ Pot p nl G ∧ Wd a G ts' fn [] ∧ Short ts' ∧ 0 < ts'.length ∧ ts'.length ≤ 80 + i ∧ (∀ t ∈ Lm, t.known ts' ∧ t.nodes ≤ 1 ∧ (t.free = false → t.vars = [])) ∧ Lm.flatMap Tm.vars = List.range k ∧ k ≤ i ∧ G DD = some (.list ((chs S).map .str))) _
      ⟨by one_item, by rw [← hsy']; one_item, by rw [← har']; one_item, by one_item, by one_item, 0, [], ts, by one_item, gia6, rfl, P6, W6, sh1, h0, by (first | lia | omega), nofun, rfl, Nat.le_refl _, gi6⟩ ?_ ?_
    · rintro i d m' G hd ⟨c1, c2, c3, c4, c5, k, Lm, ts', c6, g1, g2, Pk, Wk, shk, h0k, lk, hLm, hvars, hk, gs⟩
      have hi : i < N2 := by have := (List.getElem?_eq_some_iff.mp hd).1; simpa [ranged] using this
      refine ⟨trivial, ?_⟩
      isplit
      refine Ev.call hc (by nest_cls) (gv_law_element _) kf615 ?_
      isplit
      refine Ev.cellA hc hP (by one_item) ?_
      isplit
      refine Ev.cellA hc hB (by one_item) ?_
      isplit
      isplit
      isplit
      refine (law_element_ok Pk Wk.bk (fun h => hpA (WA.bk_all h)) (fun h => hnA (WA.bk_all h)) (by (first | lia | omega)) shk h0k (number := k) fun tm ts2 G7 el pre le sh2 P7 B7 o7 => ?_).at hc
      have W7 : Wd a G7 ts2 fn [] := Wk.bookL o7.toC (fun b hb hba => by
        rcases List.mem_cons.mp hb with rfl | hb
        · exact absurd hba hpA
        · rcases List.mem_cons.mp hb with rfl | hb
          · exact absurd hba hnA
          · exact hb) B7
      have pl := pre.length_le
      have nin : ∀ {x : Addr}, x ∉ a.all → x ≠ p → x ≠ nl → x ∉ p :: nl :: a.b.all := fun h1 h2 h3 => by
        simp only [List.mem_cons, not_or]; exact ⟨h2, h3, fun h => h1 (WA.bk_all h)⟩
      have g7 := o7 _ _ g1 (nin iaA iap.1 iap.2)
      have gs7 := o7 _ _ gs (nin DA hDp.1 hDp.2)
      isplit
      refine Ev.append ?_
      repeat isplit
      refine (mk2_3 _ _ rfl g7 ?_)
      repeat isplit
      refine (mk1_5 _ g7 (by simp; (first | lia | omega)) nofun nofun ?_)
      have W8 : Wd a (G7.set ia (.list (Lm.map Tm.val ++ [tm.val]))) ts2 fn [] := W7.setF iaA
      have P8 : Pot p nl (G7.set ia (.list (Lm.map Tm.val ++ [tm.val]))) := P7.setO iap.1 iap.2
      have g8 : (G7.set ia (.list (Lm.map Tm.val ++ [tm.val]))) ia = some (.list ((Lm ++ [tm]).map Tm.val)) := by rw [AH.set_self]; simp
      have gs8 : (G7.set ia (.list (Lm.map Tm.val ++ [tm.val]))) DD = some (.list ((chs S).map .str)) := AH.other iaD gs7
      generalize G7.set ia (.list (Lm.map Tm.val ++ [tm.val])) = G8 at W8 P8 g8 gs8 ⊢
      have hL2 : ∀ t ∈ Lm ++ [tm], t.known ts2 ∧ t.nodes ≤ 1 ∧ (t.free = false → t.vars = []) := fun t ht => by
        rcases List.mem_append.mp ht with h | h
        · refine el0_3 (hLm t h) fun q1 q2 q3 => ?_
          exact ⟨Tm.known_pre pre q1, q2, q3⟩
        · rw [List.mem_singleton.mp h]; exact ⟨el.kn, el.nd, el.cl⟩
      refine el2_3 tm.tag0 fun tt dt e5 hl5 hf5 => ?_
      have tv5 : (tt == ("v" : Str)) = tm.free := by rw [Bool.eq_iff_iff, beq_iff_eq, hf5]
      refine Exs.if_ ?_
      isplit
      refine Ev.subT ?_
      isplit
      isplit
      refine (mk1_2 (.str tt :: dt) e5 (Op2.item_tupE (n := 0) e5 rfl rfl (Nat.le_trans (Nat.succ_le_succ hl5) (by (first | lia | omega))) ?_))
      isplit
      refine Op2.str_eq ⟨_, rfl, ?_⟩
      rw [tv5]
      cases hft : tm.free with
      | true =>
        have e6 := el.vr hft
        rw [if_pos rfl]
        refine Exs.augName hc (by nest_cls) (by one_item) ?_
        isplit
        refine Op2.int_iadd ?_
        repeat isplit
        refine (mk0_6 (by one_item) (by one_item) (by one_item) (by one_item) (by one_item)  (mk3_12 (k + 1) (Lm ++ [tm]) ts2 (by one_item) g8 (by simp [g2]) P8 W8 sh2 (by (first | lia | omega)) (by (first | lia | omega)) hL2 ?_ (by (first | lia | omega)) gs8))
        rw [List.flatMap_append, hvars, e6]
        simp [Tm.vars, List.range_succ]
      | false =>
        rw [if_neg Bool.false_ne_true]
        repeat isplit
        refine (mk0_6 (by one_item) (by one_item) (by one_item) (by one_item) (by one_item)  (mk3_12 k (Lm ++ [tm]) ts2 (by one_item) g8 (by simp [g2]) P8 W8 sh2 (by (first | lia | omega)) (by (first | lia | omega)) hL2 ?_ (by (first | lia | omega)) gs8))
        rw [List.flatMap_append, hvars]
        simp [el.cl hft]
    · rintro m' G ⟨c1, c2, c3, c4, c5, k, Lm, ts', c6, g1, g2, Pk, Wk, shk, h0k, lk, hLm, hvars, hk, gs⟩
      have hr : (ranged 0 1 N2).length = N2 := by simp [ranged]
      rw [hr] at g2 lk hk
      refine ⟨trivial, ?_⟩
      isplit
      -- end
      isplit
      refine Ev.subL ?_
      repeat (first | isplit | refine And.intro ?_ (by simp; done))
      refine Ev.im ?_
      refine Ev.cellA hc hB (by one_item) ?_
      refine (mk5_5 _ _ _ _ 88 rfl Wk.bk.inst (mk_meth (by kernel_rfl) (by kernel_rfl) (by kernel_rfl) (by kernel_rfl) (by kernel_rfl)) (by rfl) ?_)
      repeat isplit
      refine (atom_ok Wk.bk (by (first | lia | omega)) fun G9 B9 o9 => ?_).at hc
      have W9 := Wk.book o9 B9
      have P9 := Pk.off o9.toC (fun h => hpA (WA.bk_all h)) (fun h => hnA (WA.bk_all h))
      have g9 := o9 _ _ g1 fun h => iaA (WA.bk_all h)
      have gs9 := o9 _ _ gs fun h => DA (WA.bk_all h)
      repeat (first | isplit | refine And.intro ?_ (by simp; done))
      intro el hel
      refine Ev.call hc (by nest_cls) (gv_law_digit _) kf608 ?_
      isplit
      refine Ev.cellA hc hP (by one_item) ?_
      isplit
      isplit
      isplit
      have hll := addK_length ts' (Str.ofString "foo")
      have kll := addK_lt ts' (Str.ofString "foo")
      have pr9 := addK_pre ts' (Str.ofString "foo")
      have sh9 : Short (addK ts' (Str.ofString "foo")) := shk.add (by decide)
      have hLm9 : ∀ t ∈ Lm, t.known (addK ts' (Str.ofString "foo")) ∧ t.nodes ≤ 1 ∧ (t.free = false → t.vars = []) := fun t ht => by
        refine el0_3 (hLm t ht) fun q1 q2 q3 => ?_
        exact ⟨Tm.known_pre pr9 q1, q2, q3⟩
      generalize ix ts' (Str.ofString "foo") = foo at kll ⊢
      generalize addK ts' (Str.ofString "foo") = ts9 at hll kll sh9 hLm9 W9 B9 pr9
      have elp : el ≠ p ∧ el ≠ nl := by
        refine el0_2 (pin P9) fun z25 z26 => ?_; refine el1_1 z26 fun o' e' => ?_; refine el1_1 z25 fun o e => ?_
        exact ⟨fun z => (by rw [← z, hel] at e; cases e), fun z => (by rw [← z, hel] at e'; cases e')⟩
      have elA : el ∉ a.all := W9.fresh hel
      have eli : ia ≠ el := fun z => by first | exact clash g9 hel z | exact clash hel g9 z.symm
      have elD : DD ≠ el := fun z => by first | exact clash gs9 hel z | exact clash hel gs9 z.symm
      refine (digit_ok (P9.setO elp.1 elp.2) (by decide) fun d GA d0 d1 PA oA => ?_).at hc
      have gel := oA _ _ (AH.set_self ..) (by simp [elp.1, elp.2])
      have WA' : Wd a GA ts9 fn [] := (W9.setF elA).offC oA.toC dis
      have giA := oA _ _ (AH.other eli g9) (by simp [iap.1, iap.2])
      have gsA := oA _ _ (AH.other elD gs9) (by simp [hDp.1, hDp.2])
      obtain ⟨j, rfl⟩ : ∃ j : Nat, d = j := ⟨d.toNat, by (first | lia | omega)⟩
      refine (mk2_3 _ _ rfl gel ?_)
      obtain ⟨e, hje, he2, hek, hev⟩ : ∃ e : Tm, ([V.tup [.str "a", .int 0], .tup [.str "v", .int 9], .tup [.str "a", .int foo], .tup [.str "a", .int 0]] : List V)[j]? = some e.val ∧ (e.free = true ∨ ∃ n, e = .sy n) ∧ e.nodes = 0 ∧ (e.vars = [] ∧ e.free = false ∨ e.vars = [9] ∧ e.free = true) := by
        match j, d1 with
        | 0, _ => exact (mk1_4 (.sy 0) rfl (.inr ⟨_, rfl⟩) rfl (.inl ⟨rfl, rfl⟩))
        | 1, _ => exact (mk1_4 (.vr 9) rfl (.inl rfl) rfl (.inr ⟨rfl, rfl⟩))
        | 2, _ => exact (mk1_4 (.sy foo) rfl (.inr ⟨_, rfl⟩) rfl (.inl ⟨rfl, rfl⟩))
        | 3, _ => exact (mk1_4 (.sy 0) rfl (.inr ⟨_, rfl⟩) rfl (.inl ⟨rfl, rfl⟩))
        | j + 4, h => (first | lia | omega)
      refine Op2.item_list (k := j) gel rfl hje (by simp) ?_
      clear gel hje
      -- known
      isplit
      isplit
      refine Ev.call hc (by nest_cls) (gv_law_digit _) kf608 ?_
      isplit
      refine Ev.cellA hc hP (by one_item) ?_
      isplit
      isplit
      isplit
      refine (digit_ok PA (by decide) fun d2 GB _ _ PB oB => ?_).at hc
      have WB : Wd a GB ts9 fn [] := WA'.offC oB.toC dis
      have giB := oB _ _ giA (by simp [iap.1, iap.2])
      have gsB := oB _ _ gsA (by simp [hDp.1, hDp.2])
      isplit
      refine Op2.int_eq ?_
      generalize hkn : (d2 == 1) = known
      isplit
      isplit
      -- whole
      refine Exs.cons (Ex.forL hc .never (by nest_cls) (Ev.sliceRev ?_))
      isplit
      refine (mk2_4 _ _ rfl giB (by simp; (first | lia | omega)) (fun ra hra => (mk2_3 _ _ rfl (AH.set_self ..) ?_)))
      have giC : (GB.set ra (.list (Lm.map Tm.val).reverse)) ia = some (.list (Lm.map Tm.val)) := AH.other (fun z => by first | exact clash giB hra z | exact clash hra giB z.symm) giB
      have gsC : (GB.set ra (.list (Lm.map Tm.val).reverse)) DD = some (.list ((chs S).map .str)) := AH.other (fun z => by first | exact clash gsB hra z | exact clash hra gsB z.symm) gsB
      have WC : Wd a (GB.set ra (.list (Lm.map Tm.val).reverse)) ts9 fn [] := WB.same (.new hra)
      have raC : (GB.set ra (.list (Lm.map Tm.val).reverse)) ra = some (.list (Lm.map Tm.val).reverse) := AH.set_self ..
      generalize GB.set ra (.list (Lm.map Tm.val).reverse) = GC at giC gsC WC raC ⊢
      refine For.inv (fun i m2 G => G = GC ∧ m2 "book" = some (.ref a.b.sy) ∧ m2 "areas" = some (.ref a.ar) ∧ m2 "signs" = some (.ref DD) ∧ m2 "items" = some (.ref ia) ∧ m2 "end" = some e.val ∧ m2 "known" = some (.bool known) ∧
          m2 "whole" = some (wholeT (Lm.reverse.take i).reverse e).val) _
        ⟨rfl, by one_item, by one_item, by one_item, by one_item, by one_item, by one_item, by rw [List.take_zero]; one_item⟩ ?_ ?_
      · rintro i d m2 G hd ⟨rfl, e1, e2, e3, e4, e5, e6, e7⟩
        rw [← List.map_reverse, List.getElem?_map, Option.map_eq_some_iff] at hd
        refine el1_2 hd fun tm htm z27 => ?_; try clear hd; subst z27
        refine ⟨raC, ?_⟩
        repeat (first | isplit | refine And.intro ?_ (by simp; done))
        refine (mk0_8 rfl (by one_item) (by one_item) (by one_item) (by one_item) (by one_item) (by one_item) ?_)
        have : (wholeT (Lm.reverse.take (i + 1)).reverse e).val = .tup [.str "s", .int 0, .tup [tm.val, (wholeT (Lm.reverse.take i).reverse e).val]] := by
          rw [List.take_add_one, htm]
          simp only [Option.toList_some, List.reverse_append, List.reverse_cons, List.reverse_nil, List.nil_append, List.cons_append, wholeT_cons]
          rfl
        rw [this]
        one_item
      · rintro m2 G ⟨rfl, e1, e2, e3, e4, e5, e6, e7⟩
        rw [List.length_reverse, List.length_map, ← List.length_reverse (as := Lm), List.take_length, List.reverse_reverse] at e7
        refine ⟨raC, ?_⟩
        -- put
        have hwn : (wholeT Lm e).nodes ≤ 8 := by
          have := wholeT_nodes Lm e fun t ht => (hLm9 t ht).2.1
          (first | lia | omega)
        have hwv : (wholeT Lm e).vars = List.range k ++ e.vars := by rw [wholeT_vars, hvars]
        have hwvn : (wholeT Lm e).vars.Nodup := by
          rw [hwv]
          rcases hev with ⟨h, _⟩ | ⟨h, _⟩
          · rw [h, List.append_nil]; exact List.nodup_range
          · rw [h, List.nodup_append]
            refine ⟨List.nodup_range, by simp, fun x hx y hy => ?_⟩
            rw [List.mem_singleton.mp hy]
            have := List.mem_range.mp hx
            (first | lia | omega)
        repeat isplit
        refine Ev.im ?_
        refine Ev.cellA hc hA e2 ?_
        refine (mk5_5 _ _ _ _ 503 rfl WC.ar (mk_meth (by kernel_rfl) (by kernel_rfl) (by kernel_rfl) (by kernel_rfl) (by kernel_rfl)) K.put ?_)
        repeat isplit
        refine (put_ok K WC (tm := wholeT Lm e) (by simp; (first | lia | omega)) (by (first | lia | omega)) hwvn fun GD cs ct oD WD sht rp bn vn hlen _ => ?_).at hc
        have giD := oD _ _ giC (by rw [List.mem_singleton]; rintro rfl; exact iaA WA.hp_all)
        have gsD := oD _ _ gsC (by rw [List.mem_singleton]; rintro rfl; exact DA WA.hp_all)
        refine el3_6 (split_list hek Lm ct sht rp bn) fun P ec as s1 s2 s3 s4 s5 s6 => ?_
        refine el1_1 (ct.take_tup []) fun ds hds => ?_
        -- text
        isplit
        refine Ev.join ?_
        isplit
        refine (mk1_2 _ rfl ?_)
        isplit
        refine (mk2_4 _ (chs S) rfl gsD ?_ ?_)
        · rw [chs_sum, show (chs S).length = S.length from List.length_map _]
          show S.length + S.length * 0 ≤ _
          (first | lia | omega)
        have htx : Txt.join (Str.ofString "") (chs S) = textOf S := cat_chs S
        rw [htx]
        have FO : LFok ⟨S, P, (e, ec), ct, as, DD, ia, known, ds⟩ := by
          refine ⟨hS, lenS, ?_, fun pp hpp => ?_, s2, he2, bn, ?_, s4, hds, ?_⟩
          · have := congrArg List.length s1
            rw [List.length_map] at this
            show P.length ≤ 4
            (first | lia | omega)
          · refine el0_4 (s6 pp hpp) fun q1 q2 q3 _ => ?_
            have hm9 : pp.1 ∈ Lm := by rw [← s1]; exact List.mem_map_of_mem hpp
            exact (mk0_4 q1 ((hLm9 _ hm9).2.2) ((hLm9 _ hm9).2.1) q3)
          · show ct.size ≤ 250
            rw [sht.size]; (first | lia | omega)
          · show e.free = true ∨ V.tup ds = (wholeT (P.map (·.1)) e).val
            rw [s1]
            rcases hev with ⟨h, hf⟩ | ⟨_, hf⟩
            · refine .inr ?_
              rw [← hds]
              refine (take_canon sht [] ?_ vn fun _ _ => by simp).1
              rw [hwv, h, List.append_nil, List.length_range]
              exact List.range_eq_range'
            · exact .inl hf
        have LD0 : LD a ⟨S, P, (e, ec), ct, as, DD, ia, known, ds⟩ GD ts9 fn cs := by
          refine ⟨WD, sh9, fun pp hpp => ?_, rp, fun pp hpp => (s6 pp hpp).2.1, s3, gsD, ?_⟩
          · have hm9 : pp.1 ∈ Lm := by rw [← s1]; exact List.mem_map_of_mem hpp
            exact (hLm9 _ hm9).1
          · show GD ia = some (.list ((P.map (·.1)).map Tm.val))
            rw [s1]; exact giD
        have LN0 : ∀ {m' : Loc}, m' "book" = some (.ref a.b.sy) → m' "areas" = some (.ref a.ar) → m' "signs" = some (.ref DD) → m' "items" = some (.ref ia) → m' "end" = some e.val → m' "known" = some (.bool known) → m' "whole" = some (wholeT Lm e).val → m' "cell" = some (cv ct.cell) → m' "text" = some (.str (textOf S)) →
            LN a ⟨S, P, (e, ec), ct, as, DD, ia, known, ds⟩ m' := fun z1 z2 z3 z4 z5 z6 z7 z8 z9 => ⟨z1, z2, z3, z4, z5, z6, by show _ = some (wholeT (P.map (·.1)) e).val; rw [s1]; exact z7, z8, z9⟩
        have hcs : cs.length ≤ 20 := by simp at hlen; (first | lia | omega)
        refine Exs.cons (Ex.forLC hc .never hC ?_)
        repeat isplit
        refine ⟨fun rb hrb => ?_, by simp⟩
        have rbA : rb ∉ a.all := WD.fresh hrb
        have rb_ : rb ∉ a.s.hp :: a.b.all := fun h => by
          rcases List.mem_cons.mp h with rfl | h
          · exact rbA WA.hp_all
          · exact rbA (WA.bk_all h)
        refine (mk2_3 _ _ rfl (AH.set_self ..)  ⟨AH.set_self .., ?_⟩)
        have LD1 := LD0.off DA iaA (Off.new (l := a.b.all) (o := .list [.bool true, .bool false]) hrb).toC (WD.same (Off.new hrb)) (List.prefix_refl _) sh9
        have rb1 : (GD.set rb (.list [.bool true, .bool false])) rb = some (.list [.bool true, .bool false]) := AH.set_self ..
        generalize GD.set rb (.list [.bool true, .bool false]) = GE at LD1 rb1 ⊢
        refine turn_ok lc K FO DA iaA LD1 (by (first | lia | omega)) (by (first | lia | omega)) (by (first | lia | omega)) (LN0 (by one_item) (by one_item) (by one_item) (by one_item) (by one_item) (by one_item) (by one_item) (by one_item) (by one_item)) (by one_item) fun m5 GF ts5 fn5 cs5 N5 D5 l5 f5 k5 o5 => ?_
        have rb5 := o5 _ _ rb1 rfl rb_
        refine ⟨rb5, ?_⟩
        refine turn_ok lc K FO DA iaA D5 (by (first | lia | omega)) (by (first | lia | omega)) (by (first | lia | omega)) (LN0 (Loc.other (by decide +kernel) N5.book) (Loc.other (by decide +kernel) N5.areas) (Loc.other (by decide +kernel) N5.signs) (Loc.other (by decide +kernel) N5.items) (Loc.other (by decide +kernel) N5.end_) (Loc.other (by decide +kernel) N5.known) (Loc.other (by decide +kernel) (by rw [N5.whole]; show some (wholeT (P.map (·.1)) e).val = _; rw [s1])) (Loc.other (by decide +kernel) N5.cell) (Loc.other (by decide +kernel) N5.text)) (Loc.self _ _ _) fun m6 GG ts6 fn6 cs6 N6 D6 l6 f6 k6 o6 => ?_
        refine ⟨o6 _ _ rb5 rfl rb_, ?_⟩
        show Exs c _ _ _ _ _
        exact Exs.ret (Ev.bool rfl)
noncomputable def topCx (w : World) (s : Shared) (env : Env) : Cx := { w := w, A := callerA, env := env, B := s.heap, Fs := [], h₀ := s.heap, H₀ := fun _ => none, g₀ := s.gens, o₀ := s.os }
theorem top_rel {w : World} {s : Shared} {env : Env} (hb : HB w s.heap) : RelH (topCx w s env) (fun _ => none) s where
  gens := rfl
  os := rfl
  hb := hb
  base := fun _ _ e => e
  since := .refl _ _
  grow := .refl _ _
  objs := fun _ _ e => noSome e
  offB := fun _ _ e => noSome e
  frames := trivial
  dfr := fun _ h => notIn h
  offF := fun _ h => notIn h
theorem law_called (w : World) (s : Shared) (l : Addr) (vs : List Value) (ns : List Int) (hb : HB w s.heap) (hg : s.gens = #[]) (hl : s.heap.IsList l vs.toArray) (hi : IntsAre vs ns) (hn : ns.length ≤ 63) :
    wpAny (model pw w) callerA (PySem.call (.ref 651) [.ref l]) (fun v s' => v = .bool true ∧ (∀ b o, s.heap.get? b = some o → s'.heap.get? b = some o) ∧ s'.os = s.os ∧ s'.gens = #[]) (fun _ _ => False) s := by
  have F := ok651 (w := w)
  have hroom : callerA.depth < recursionLimit := by decide +kernel
  refine wpAny_call (codeAny_call_cells (fd := fnData "law" "law" (topS 49) .none (.str "law_sa0161_01" 1016) (.ref 650)) (body := fnBody (topS 49)) (binds := [("script", .ref l)]) hroom (hb.k _ _ F.at_) rfl hb.nolimit (codeRec_of hb F.code) rfl (by kernel_rfl) rfl (fun x hx => ?_) (fun s₁ X => ?_) F.co F.gen F.kind)
  · rw [List.mem_singleton.mp hx]; exact .inl (show (fnScope (topS 49)).names.lookup ("script" : Str) = some NameKind.local by decide +kernel)
  · have hnb : ([(("script" : Str), Value.ref l)].map (·.1)).Nodup := by simp
    generalize henv : callEnvC (fnData "law" "law" (topS 49) .none (.str "law_sa0161_01" 1016) (.ref 650)) s.heap.objs.size 651 = env at X ⊢
    have hloc : env.locals = s.heap.objs.size := by rw [← henv]; rfl
    have hfr : env.frame = some env.locals := by rw [← henv]; rfl
    have hsc : env.scope = fnScope (topS 49) := by rw [← henv]; rfl
    have hcl : env.cells = ([("as_codes", s.heap.objs.size + 4), ("areas", s.heap.objs.size + 3), ("book", s.heap.objs.size + 2), ("pot", s.heap.objs.size + 1)] : List (Str × Addr)) := by rw [← henv]; rfl
    have hgl : env.globals = mainGlobals := by rw [← henv]; rfl
    have hbi : env.builtins = builtinsNs := by rw [← henv]; rfl
    have hkd : env.scope.kind = .function := by rw [hsc]; exact F.kind
    have ksc : env.kindOf "script" = some .local := kind_of hsc (by kernel_rfl)
    have R' := calleeC_rel (m' := Loc.nil.set "script" (.ref l)) (top_rel (env := env) hb) X hloc hfr hkd
      (fun x d e hk => by
        unfold Loc.set at e
        by_cases q : x = "script"
        · rw [if_pos q] at e; cases e; subst q
          exact (mk1_2 (.ref l) (by rw [bindL_lookup _ _ _ _ hnb hk]; rfl) (.ref l))
        · rw [if_neg q] at e; cases e)
      (fun x d e hk => by
        unfold Loc.set at e
        by_cases q : x = "script"
        · subst q; rcases hk with z | z <;> rw [ksc] at z <;> cases z
        · rw [if_neg q] at e; cases e)
    have hc : CxOk 9 (calleeCx (topCx w s env) s (fun _ => none) env) :=
      ⟨hkd, hgl, hbi, rfl, by show callerA.depth + 1 + 5 * 9 + 100 < _; decide +kernel, by show callerA.units + 3 + 20 * 9 + 500 < _; decide +kernel, rfl, env, [], rfl, by rw [hsc]; exact F.gen, by rw [hsc]; exact F.co, hgl, hbi⟩
    have lc : LC (calleeCx (topCx w s env) s (fun _ => none) env) s.heap.objs.size := ⟨hc, ⟨[], _, rfl, hfr⟩, hsc, hcl, X.apart⟩
    refine wpAny_mono (law_body lc (l := l) (ns := ns) ⟨vs, hl, hi⟩ hn (Loc.self _ _ _) s₁ R') (fun fo s' z1 => el3_4 z1 fun fl m' H' q rf R'' _ => ?_) fun _ _ x => x.elim
    have k : ∀ b o, s.heap.get? b = some o → s'.heap.get? b = some o := R''.base
    cases fo <;> cases fl <;> first | exact rf.elim | exact q.elim | cases q
    cases rf
    exact (mk0_4 rfl k R''.os (R''.gens.trans hg))
end Mine
theorem PySem.Challenge.cw_sa0161_01_holds : PySem.Challenge.rw_sa0161_01.Holds :=
  Mine.head Mine.law_called
