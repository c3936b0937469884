import PyProof.Rows.All
import Wide.All
import Open.Line
import OpenK.AllK
import Wide.FinOn
import Lean
import PySem.Challenge.RW_pf0055_01
set_option Elab.async false
set_option compiler.extract_closed false
set_option genSizeOf false
set_option maxRecDepth 100000
set_option linter.unusedVariables false
set_option maxHeartbeats 8000000
open PySem PySem.W PyProof.Rows
namespace Mine
theorem ws : PySem.Challenge.rw_pf0055_01.wellSaid = true := by
 unfold OpenLaw.wellSaid OpenRow.wellSaid OpenRow.partSaid looksOpen
 repeat' (with_reducible refine look_both ?_ ?_)
 all_goals decide +kernel
end Mine
namespace Mine
noncomputable def qv : Program := { PySem.Challenge.pw_pf0055_01 with main := { PySem.Challenge.pw_pf0055_01.main with body := PySem.Challenge.pw_pf0055_01.main.body.filter fun s => Nat.beq s.ctorIdx 0 || Nat.beq s.ctorIdx 2 || (if h : s.ctorIdx = 5 then Stmt.Assign.elim s h fun xs _ _ => xs.any fun e => if h : e.ctorIdx = 23 then Expr.Name.elim e h fun n _ => n == ("R0" : Str) || n == ("R1" : Str) else false else false) } }
theorem left : LeftO PySem.Challenge.rw_pf0055_01.row.prog qv [] (fun _ => true) (fun _ => ()) (fun _ => ()) 4500 := by
 intro w
 kernel_rfl
end Mine
namespace Mine
theorem ob02 {p q : Prop} {G : Prop} (h : p ∧ q) (k : p → q → G) : G := k h.1 h.2
theorem ob03 {p q r : Prop} {G : Prop} (h : p ∧ q ∧ r) (k : p → q → r → G) : G := ob02 h.2 (k h.1)
theorem ob04 {p q r s : Prop} {G : Prop} (h : p ∧ q ∧ r ∧ s) (k : p → q → r → s → G) : G := ob03 h.2 (k h.1)
theorem ob05 {p q r s t : Prop} {G : Prop} (h : p ∧ q ∧ r ∧ s ∧ t) (k : p → q → r → s → t → G) : G := ob04 h.2 (k h.1)
theorem ob06 {p q r s t u : Prop} {G : Prop} (h : p ∧ q ∧ r ∧ s ∧ t ∧ u) (k : p → q → r → s → t → u → G) : G := ob05 h.2 (k h.1)
theorem ob07 {p q r s t u v : Prop} {G : Prop} (h : p ∧ q ∧ r ∧ s ∧ t ∧ u ∧ v) (k : p → q → r → s → t → u → v → G) : G := ob06 h.2 (k h.1)
theorem ob08 {p q r s t u v w : Prop} {G : Prop} (h : p ∧ q ∧ r ∧ s ∧ t ∧ u ∧ v ∧ w) (k : p → q → r → s → t → u → v → w → G) : G := ob07 h.2 (k h.1)
theorem ob11 {A : Type} {p : A → Prop} {G : Prop} (h : ∃ a, p a) (k : ∀ a, p a → G) : G := h.elim k
theorem ob12 {A : Type} {p q : A → Prop} {G : Prop} (h : ∃ a, p a ∧ q a) (k : ∀ a, p a → q a → G) : G := h.elim fun x h => ob02 h (k x)
theorem ob13 {A : Type} {p q r : A → Prop} {G : Prop} (h : ∃ a, p a ∧ q a ∧ r a) (k : ∀ a, p a → q a → r a → G) : G := h.elim fun x h => ob03 h (k x)
theorem ob14 {A : Type} {p q r s : A → Prop} {G : Prop} (h : ∃ a, p a ∧ q a ∧ r a ∧ s a) (k : ∀ a, p a → q a → r a → s a → G) : G := h.elim fun x h => ob04 h (k x)
theorem ob15 {A : Type} {p q r s t : A → Prop} {G : Prop} (h : ∃ a, p a ∧ q a ∧ r a ∧ s a ∧ t a) (k : ∀ a, p a → q a → r a → s a → t a → G) : G := h.elim fun x h => ob05 h (k x)
theorem ob16 {A : Type} {p q r s t u : A → Prop} {G : Prop} (h : ∃ a, p a ∧ q a ∧ r a ∧ s a ∧ t a ∧ u a) (k : ∀ a, p a → q a → r a → s a → t a → u a → G) : G := h.elim fun x h => ob06 h (k x)
theorem ob17 {A : Type} {p q r s t u v : A → Prop} {G : Prop} (h : ∃ a, p a ∧ q a ∧ r a ∧ s a ∧ t a ∧ u a ∧ v a) (k : ∀ a, p a → q a → r a → s a → t a → u a → v a → G) : G := h.elim fun x h => ob07 h (k x)
theorem ob18 {A : Type} {p q r s t u v w : A → Prop} {G : Prop} (h : ∃ a, p a ∧ q a ∧ r a ∧ s a ∧ t a ∧ u a ∧ v a ∧ w a) (k : ∀ a, p a → q a → r a → s a → t a → u a → v a → w a → G) : G := h.elim fun x h => ob08 h (k x)
theorem ob21 {A B : Type} {p : A → B → Prop} {G : Prop} (h : ∃ a b, p a b) (k : ∀ a b, p a b → G) : G := h.elim fun x h => ob11 h (k x)
theorem ob22 {A B : Type} {p q : A → B → Prop} {G : Prop} (h : ∃ a b, p a b ∧ q a b) (k : ∀ a b, p a b → q a b → G) : G := h.elim fun x h => ob12 h (k x)
theorem ob23 {A B : Type} {p q r : A → B → Prop} {G : Prop} (h : ∃ a b, p a b ∧ q a b ∧ r a b) (k : ∀ a b, p a b → q a b → r a b → G) : G := h.elim fun x h => ob13 h (k x)
theorem ob24 {A B : Type} {p q r s : A → B → Prop} {G : Prop} (h : ∃ a b, p a b ∧ q a b ∧ r a b ∧ s a b) (k : ∀ a b, p a b → q a b → r a b → s a b → G) : G := h.elim fun x h => ob14 h (k x)
theorem ob25 {A B : Type} {p q r s t : A → B → Prop} {G : Prop} (h : ∃ a b, p a b ∧ q a b ∧ r a b ∧ s a b ∧ t a b) (k : ∀ a b, p a b → q a b → r a b → s a b → t a b → G) : G := h.elim fun x h => ob15 h (k x)
theorem ob26 {A B : Type} {p q r s t u : A → B → Prop} {G : Prop} (h : ∃ a b, p a b ∧ q a b ∧ r a b ∧ s a b ∧ t a b ∧ u a b) (k : ∀ a b, p a b → q a b → r a b → s a b → t a b → u a b → G) : G := h.elim fun x h => ob16 h (k x)
theorem ob27 {A B : Type} {p q r s t u v : A → B → Prop} {G : Prop} (h : ∃ a b, p a b ∧ q a b ∧ r a b ∧ s a b ∧ t a b ∧ u a b ∧ v a b) (k : ∀ a b, p a b → q a b → r a b → s a b → t a b → u a b → v a b → G) : G := h.elim fun x h => ob17 h (k x)
theorem ob28 {A B : Type} {p q r s t u v w : A → B → Prop} {G : Prop} (h : ∃ a b, p a b ∧ q a b ∧ r a b ∧ s a b ∧ t a b ∧ u a b ∧ v a b ∧ w a b) (k : ∀ a b, p a b → q a b → r a b → s a b → t a b → u a b → v a b → w a b → G) : G := h.elim fun x h => ob18 h (k x)
theorem ob32 {A B C : Type} {p q : A → B → C → Prop} {G : Prop} (h : ∃ a b c, p a b c ∧ q a b c) (k : ∀ a b c, p a b c → q a b c → G) : G := h.elim fun x h => ob22 h (k x)
theorem ob33 {A B C : Type} {p q r : A → B → C → Prop} {G : Prop} (h : ∃ a b c, p a b c ∧ q a b c ∧ r a b c) (k : ∀ a b c, p a b c → q a b c → r a b c → G) : G := h.elim fun x h => ob23 h (k x)
theorem ob34 {A B C : Type} {p q r s : A → B → C → Prop} {G : Prop} (h : ∃ a b c, p a b c ∧ q a b c ∧ r a b c ∧ s a b c) (k : ∀ a b c, p a b c → q a b c → r a b c → s a b c → G) : G := h.elim fun x h => ob24 h (k x)
theorem ob35 {A B C : Type} {p q r s t : A → B → C → Prop} {G : Prop} (h : ∃ a b c, p a b c ∧ q a b c ∧ r a b c ∧ s a b c ∧ t a b c) (k : ∀ a b c, p a b c → q a b c → r a b c → s a b c → t a b c → G) : G := h.elim fun x h => ob25 h (k x)
theorem ob36 {A B C : Type} {p q r s t u : A → B → C → Prop} {G : Prop} (h : ∃ a b c, p a b c ∧ q a b c ∧ r a b c ∧ s a b c ∧ t a b c ∧ u a b c) (k : ∀ a b c, p a b c → q a b c → r a b c → s a b c → t a b c → u a b c → G) : G := h.elim fun x h => ob26 h (k x)
theorem ob37 {A B C : Type} {p q r s t u v : A → B → C → Prop} {G : Prop} (h : ∃ a b c, p a b c ∧ q a b c ∧ r a b c ∧ s a b c ∧ t a b c ∧ u a b c ∧ v a b c) (k : ∀ a b c, p a b c → q a b c → r a b c → s a b c → t a b c → u a b c → v a b c → G) : G := h.elim fun x h => ob27 h (k x)
theorem ob38 {A B C : Type} {p q r s t u v w : A → B → C → Prop} {G : Prop} (h : ∃ a b c, p a b c ∧ q a b c ∧ r a b c ∧ s a b c ∧ t a b c ∧ u a b c ∧ v a b c ∧ w a b c) (k : ∀ a b c, p a b c → q a b c → r a b c → s a b c → t a b c → u a b c → v a b c → w a b c → G) : G := h.elim fun x h => ob28 h (k x)
theorem ob42 {A B C D : Type} {p q : A → B → C → D → Prop} {G : Prop} (h : ∃ a b c d, p a b c d ∧ q a b c d) (k : ∀ a b c d, p a b c d → q a b c d → G) : G := h.elim fun x h => ob32 h (k x)
theorem ob43 {A B C D : Type} {p q r : A → B → C → D → Prop} {G : Prop} (h : ∃ a b c d, p a b c d ∧ q a b c d ∧ r a b c d) (k : ∀ a b c d, p a b c d → q a b c d → r a b c d → G) : G := h.elim fun x h => ob33 h (k x)
theorem ob44 {A B C D : Type} {p q r s : A → B → C → D → Prop} {G : Prop} (h : ∃ a b c d, p a b c d ∧ q a b c d ∧ r a b c d ∧ s a b c d) (k : ∀ a b c d, p a b c d → q a b c d → r a b c d → s a b c d → G) : G := h.elim fun x h => ob34 h (k x)
theorem ob45 {A B C D : Type} {p q r s t : A → B → C → D → Prop} {G : Prop} (h : ∃ a b c d, p a b c d ∧ q a b c d ∧ r a b c d ∧ s a b c d ∧ t a b c d) (k : ∀ a b c d, p a b c d → q a b c d → r a b c d → s a b c d → t a b c d → G) : G := h.elim fun x h => ob35 h (k x)
theorem ob46 {A B C D : Type} {p q r s t u : A → B → C → D → Prop} {G : Prop} (h : ∃ a b c d, p a b c d ∧ q a b c d ∧ r a b c d ∧ s a b c d ∧ t a b c d ∧ u a b c d) (k : ∀ a b c d, p a b c d → q a b c d → r a b c d → s a b c d → t a b c d → u a b c d → G) : G := h.elim fun x h => ob36 h (k x)
theorem ob47 {A B C D : Type} {p q r s t u v : A → B → C → D → Prop} {G : Prop} (h : ∃ a b c d, p a b c d ∧ q a b c d ∧ r a b c d ∧ s a b c d ∧ t a b c d ∧ u a b c d ∧ v a b c d) (k : ∀ a b c d, p a b c d → q a b c d → r a b c d → s a b c d → t a b c d → u a b c d → v a b c d → G) : G := h.elim fun x h => ob37 h (k x)
theorem ob48 {A B C D : Type} {p q r s t u v w : A → B → C → D → Prop} {G : Prop} (h : ∃ a b c d, p a b c d ∧ q a b c d ∧ r a b c d ∧ s a b c d ∧ t a b c d ∧ u a b c d ∧ v a b c d ∧ w a b c d) (k : ∀ a b c d, p a b c d → q a b c d → r a b c d → s a b c d → t a b c d → u a b c d → v a b c d → w a b c d → G) : G := h.elim fun x h => ob38 h (k x)
theorem ob52 {A B C D E : Type} {p q : A → B → C → D → E → Prop} {G : Prop} (h : ∃ a b c d e, p a b c d e ∧ q a b c d e) (k : ∀ a b c d e, p a b c d e → q a b c d e → G) : G := h.elim fun x h => ob42 h (k x)
theorem ob53 {A B C D E : Type} {p q r : A → B → C → D → E → Prop} {G : Prop} (h : ∃ a b c d e, p a b c d e ∧ q a b c d e ∧ r a b c d e) (k : ∀ a b c d e, p a b c d e → q a b c d e → r a b c d e → G) : G := h.elim fun x h => ob43 h (k x)
theorem ob54 {A B C D E : Type} {p q r s : A → B → C → D → E → Prop} {G : Prop} (h : ∃ a b c d e, p a b c d e ∧ q a b c d e ∧ r a b c d e ∧ s a b c d e) (k : ∀ a b c d e, p a b c d e → q a b c d e → r a b c d e → s a b c d e → G) : G := h.elim fun x h => ob44 h (k x)
theorem ob56 {A B C D E : Type} {p q r s t u : A → B → C → D → E → Prop} {G : Prop} (h : ∃ a b c d e, p a b c d e ∧ q a b c d e ∧ r a b c d e ∧ s a b c d e ∧ t a b c d e ∧ u a b c d e) (k : ∀ a b c d e, p a b c d e → q a b c d e → r a b c d e → s a b c d e → t a b c d e → u a b c d e → G) : G := h.elim fun x h => ob46 h (k x)
theorem ob57 {A B C D E : Type} {p q r s t u v : A → B → C → D → E → Prop} {G : Prop} (h : ∃ a b c d e, p a b c d e ∧ q a b c d e ∧ r a b c d e ∧ s a b c d e ∧ t a b c d e ∧ u a b c d e ∧ v a b c d e) (k : ∀ a b c d e, p a b c d e → q a b c d e → r a b c d e → s a b c d e → t a b c d e → u a b c d e → v a b c d e → G) : G := h.elim fun x h => ob47 h (k x)
theorem ob58 {A B C D E : Type} {p q r s t u v w : A → B → C → D → E → Prop} {G : Prop} (h : ∃ a b c d e, p a b c d e ∧ q a b c d e ∧ r a b c d e ∧ s a b c d e ∧ t a b c d e ∧ u a b c d e ∧ v a b c d e ∧ w a b c d e) (k : ∀ a b c d e, p a b c d e → q a b c d e → r a b c d e → s a b c d e → t a b c d e → u a b c d e → v a b c d e → w a b c d e → G) : G := h.elim fun x h => ob48 h (k x)
theorem ob62 {A B C D E F : Type} {p q : A → B → C → D → E → F → Prop} {G : Prop} (h : ∃ a b c d e f, p a b c d e f ∧ q a b c d e f) (k : ∀ a b c d e f, p a b c d e f → q a b c d e f → G) : G := h.elim fun x h => ob52 h (k x)
theorem ob64 {A B C D E F : Type} {p q r s : A → B → C → D → E → F → Prop} {G : Prop} (h : ∃ a b c d e f, p a b c d e f ∧ q a b c d e f ∧ r a b c d e f ∧ s a b c d e f) (k : ∀ a b c d e f, p a b c d e f → q a b c d e f → r a b c d e f → s a b c d e f → G) : G := h.elim fun x h => ob54 h (k x)
theorem ob67 {A B C D E F : Type} {p q r s t u v : A → B → C → D → E → F → Prop} {G : Prop} (h : ∃ a b c d e f, p a b c d e f ∧ q a b c d e f ∧ r a b c d e f ∧ s a b c d e f ∧ t a b c d e f ∧ u a b c d e f ∧ v a b c d e f) (k : ∀ a b c d e f, p a b c d e f → q a b c d e f → r a b c d e f → s a b c d e f → t a b c d e f → u a b c d e f → v a b c d e f → G) : G := h.elim fun x h => ob57 h (k x)
theorem ob68 {A B C D E F : Type} {p q r s t u v w : A → B → C → D → E → F → Prop} {G : Prop} (h : ∃ a b c d e f, p a b c d e f ∧ q a b c d e f ∧ r a b c d e f ∧ s a b c d e f ∧ t a b c d e f ∧ u a b c d e f ∧ v a b c d e f ∧ w a b c d e f) (k : ∀ a b c d e f, p a b c d e f → q a b c d e f → r a b c d e f → s a b c d e f → t a b c d e f → u a b c d e f → v a b c d e f → w a b c d e f → G) : G := h.elim fun x h => ob58 h (k x)
theorem ob72 {A B C D E F H : Type} {p q : A → B → C → D → E → F → H → Prop} {G : Prop} (h : ∃ a b c d e f x, p a b c d e f x ∧ q a b c d e f x) (k : ∀ a b c d e f x, p a b c d e f x → q a b c d e f x → G) : G := h.elim fun x h => ob62 h (k x)
theorem ob77 {A B C D E F H : Type} {p q r s t u v : A → B → C → D → E → F → H → Prop} {G : Prop} (h : ∃ a b c d e f x, p a b c d e f x ∧ q a b c d e f x ∧ r a b c d e f x ∧ s a b c d e f x ∧ t a b c d e f x ∧ u a b c d e f x ∧ v a b c d e f x) (k : ∀ a b c d e f x, p a b c d e f x → q a b c d e f x → r a b c d e f x → s a b c d e f x → t a b c d e f x → u a b c d e f x → v a b c d e f x → G) : G := h.elim fun x h => ob67 h (k x)
theorem ob78 {A B C D E F H : Type} {p q r s t u v w : A → B → C → D → E → F → H → Prop} {G : Prop} (h : ∃ a b c d e f x, p a b c d e f x ∧ q a b c d e f x ∧ r a b c d e f x ∧ s a b c d e f x ∧ t a b c d e f x ∧ u a b c d e f x ∧ v a b c d e f x ∧ w a b c d e f x) (k : ∀ a b c d e f x, p a b c d e f x → q a b c d e f x → r a b c d e f x → s a b c d e f x → t a b c d e f x → u a b c d e f x → v a b c d e f x → w a b c d e f x → G) : G := h.elim fun x h => ob68 h (k x)
theorem ob82 {A B C D E F H I : Type} {p q : A → B → C → D → E → F → H → I → Prop} {G : Prop} (h : ∃ a b c d e f x y, p a b c d e f x y ∧ q a b c d e f x y) (k : ∀ a b c d e f x y, p a b c d e f x y → q a b c d e f x y → G) : G := h.elim fun x h => ob72 h (k x)
theorem ob87 {A B C D E F H I : Type} {p q r s t u v : A → B → C → D → E → F → H → I → Prop} {G : Prop} (h : ∃ a b c d e f x y, p a b c d e f x y ∧ q a b c d e f x y ∧ r a b c d e f x y ∧ s a b c d e f x y ∧ t a b c d e f x y ∧ u a b c d e f x y ∧ v a b c d e f x y) (k : ∀ a b c d e f x y, p a b c d e f x y → q a b c d e f x y → r a b c d e f x y → s a b c d e f x y → t a b c d e f x y → u a b c d e f x y → v a b c d e f x y → G) : G := h.elim fun x h => ob77 h (k x)
theorem ob88 {A B C D E F H I : Type} {p q r s t u v w : A → B → C → D → E → F → H → I → Prop} {G : Prop} (h : ∃ a b c d e f x y, p a b c d e f x y ∧ q a b c d e f x y ∧ r a b c d e f x y ∧ s a b c d e f x y ∧ t a b c d e f x y ∧ u a b c d e f x y ∧ v a b c d e f x y ∧ w a b c d e f x y) (k : ∀ a b c d e f x y, p a b c d e f x y → q a b c d e f x y → r a b c d e f x y → s a b c d e f x y → t a b c d e f x y → u a b c d e f x y → v a b c d e f x y → w a b c d e f x y → G) : G := h.elim fun x h => ob78 h (k x)
theorem ob92 {A B C D E F H I J : Type} {p q : A → B → C → D → E → F → H → I → J → Prop} {G : Prop} (h : ∃ a b c d e f x y z, p a b c d e f x y z ∧ q a b c d e f x y z) (k : ∀ a b c d e f x y z, p a b c d e f x y z → q a b c d e f x y z → G) : G := h.elim fun x h => ob82 h (k x)
theorem ob97 {A B C D E F H I J : Type} {p q r s t u v : A → B → C → D → E → F → H → I → J → Prop} {G : Prop} (h : ∃ a b c d e f x y z, p a b c d e f x y z ∧ q a b c d e f x y z ∧ r a b c d e f x y z ∧ s a b c d e f x y z ∧ t a b c d e f x y z ∧ u a b c d e f x y z ∧ v a b c d e f x y z) (k : ∀ a b c d e f x y z, p a b c d e f x y z → q a b c d e f x y z → r a b c d e f x y z → s a b c d e f x y z → t a b c d e f x y z → u a b c d e f x y z → v a b c d e f x y z → G) : G := h.elim fun x h => ob87 h (k x)
theorem ob98 {A B C D E F H I J : Type} {p q r s t u v w : A → B → C → D → E → F → H → I → J → Prop} {G : Prop} (h : ∃ a b c d e f x y z, p a b c d e f x y z ∧ q a b c d e f x y z ∧ r a b c d e f x y z ∧ s a b c d e f x y z ∧ t a b c d e f x y z ∧ u a b c d e f x y z ∧ v a b c d e f x y z ∧ w a b c d e f x y z) (k : ∀ a b c d e f x y z, p a b c d e f x y z → q a b c d e f x y z → r a b c d e f x y z → s a b c d e f x y z → t a b c d e f x y z → u a b c d e f x y z → v a b c d e f x y z → w a b c d e f x y z → G) : G := h.elim fun x h => ob88 h (k x)
theorem mx02 {p q : Prop} (i : p) (j : q) : p ∧ q := ⟨i, j⟩
theorem mx03 {p q r : Prop} (i : p) (j : q) (l : r) : p ∧ q ∧ r := ⟨i, j, l⟩
theorem mx04 {p q r s : Prop} (i : p) (j : q) (l : r) (m : s) : p ∧ q ∧ r ∧ s := ⟨i, j, l, m⟩
theorem mx05 {p q r s t : Prop} (i : p) (j : q) (l : r) (m : s) (n : t) : p ∧ q ∧ r ∧ s ∧ t := ⟨i, j, l, m, n⟩
theorem mx06 {p q r s t u : Prop} (i : p) (j : q) (l : r) (m : s) (n : t) (o : u) : p ∧ q ∧ r ∧ s ∧ t ∧ u := ⟨i, j, l, m, n, o⟩
theorem mx07 {p q r s t u v : Prop} (i : p) (j : q) (l : r) (m : s) (n : t) (o : u) (g : v) : p ∧ q ∧ r ∧ s ∧ t ∧ u ∧ v := ⟨i, j, l, m, n, o, g⟩
theorem mx08 {p q r s t u v w : Prop} (i : p) (j : q) (l : r) (m : s) (n : t) (o : u) (g : v) (k : w) : p ∧ q ∧ r ∧ s ∧ t ∧ u ∧ v ∧ w := ⟨i, j, l, m, n, o, g, k⟩
theorem mx11 {A : Type} {p : A → Prop} (a : A) (i : p a) : ∃ a, p a := ⟨a, i⟩
theorem mx12 {A : Type} {p q : A → Prop} (a : A) (i : p a) (j : q a) : ∃ a, p a ∧ q a := ⟨a, mx02 i j⟩
theorem mx13 {A : Type} {p q r : A → Prop} (a : A) (i : p a) (j : q a) (l : r a) : ∃ a, p a ∧ q a ∧ r a := ⟨a, mx03 i j l⟩
theorem mx14 {A : Type} {p q r s : A → Prop} (a : A) (i : p a) (j : q a) (l : r a) (m : s a) : ∃ a, p a ∧ q a ∧ r a ∧ s a := ⟨a, mx04 i j l m⟩
theorem mx15 {A : Type} {p q r s t : A → Prop} (a : A) (i : p a) (j : q a) (l : r a) (m : s a) (n : t a) : ∃ a, p a ∧ q a ∧ r a ∧ s a ∧ t a := ⟨a, mx05 i j l m n⟩
theorem mx16 {A : Type} {p q r s t u : A → Prop} (a : A) (i : p a) (j : q a) (l : r a) (m : s a) (n : t a) (o : u a) : ∃ a, p a ∧ q a ∧ r a ∧ s a ∧ t a ∧ u a := ⟨a, mx06 i j l m n o⟩
theorem mx17 {A : Type} {p q r s t u v : A → Prop} (a : A) (i : p a) (j : q a) (l : r a) (m : s a) (n : t a) (o : u a) (g : v a) : ∃ a, p a ∧ q a ∧ r a ∧ s a ∧ t a ∧ u a ∧ v a := ⟨a, mx07 i j l m n o g⟩
theorem mx18 {A : Type} {p q r s t u v w : A → Prop} (a : A) (i : p a) (j : q a) (l : r a) (m : s a) (n : t a) (o : u a) (g : v a) (k : w a) : ∃ a, p a ∧ q a ∧ r a ∧ s a ∧ t a ∧ u a ∧ v a ∧ w a := ⟨a, mx08 i j l m n o g k⟩
theorem mx21 {A B : Type} {p : A → B → Prop} (a : A) (b : B) (i : p a b) : ∃ a b, p a b := ⟨a, mx11 b i⟩
theorem mx22 {A B : Type} {p q : A → B → Prop} (a : A) (b : B) (i : p a b) (j : q a b) : ∃ a b, p a b ∧ q a b := ⟨a, mx12 b i j⟩
theorem mx23 {A B : Type} {p q r : A → B → Prop} (a : A) (b : B) (i : p a b) (j : q a b) (l : r a b) : ∃ a b, p a b ∧ q a b ∧ r a b := ⟨a, mx13 b i j l⟩
theorem mx24 {A B : Type} {p q r s : A → B → Prop} (a : A) (b : B) (i : p a b) (j : q a b) (l : r a b) (m : s a b) : ∃ a b, p a b ∧ q a b ∧ r a b ∧ s a b := ⟨a, mx14 b i j l m⟩
theorem mx25 {A B : Type} {p q r s t : A → B → Prop} (a : A) (b : B) (i : p a b) (j : q a b) (l : r a b) (m : s a b) (n : t a b) : ∃ a b, p a b ∧ q a b ∧ r a b ∧ s a b ∧ t a b := ⟨a, mx15 b i j l m n⟩
theorem mx26 {A B : Type} {p q r s t u : A → B → Prop} (a : A) (b : B) (i : p a b) (j : q a b) (l : r a b) (m : s a b) (n : t a b) (o : u a b) : ∃ a b, p a b ∧ q a b ∧ r a b ∧ s a b ∧ t a b ∧ u a b := ⟨a, mx16 b i j l m n o⟩
theorem mx27 {A B : Type} {p q r s t u v : A → B → Prop} (a : A) (b : B) (i : p a b) (j : q a b) (l : r a b) (m : s a b) (n : t a b) (o : u a b) (g : v a b) : ∃ a b, p a b ∧ q a b ∧ r a b ∧ s a b ∧ t a b ∧ u a b ∧ v a b := ⟨a, mx17 b i j l m n o g⟩
theorem mx28 {A B : Type} {p q r s t u v w : A → B → Prop} (a : A) (b : B) (i : p a b) (j : q a b) (l : r a b) (m : s a b) (n : t a b) (o : u a b) (g : v a b) (k : w a b) : ∃ a b, p a b ∧ q a b ∧ r a b ∧ s a b ∧ t a b ∧ u a b ∧ v a b ∧ w a b := ⟨a, mx18 b i j l m n o g k⟩
theorem mx33 {A B C : Type} {p q r : A → B → C → Prop} (a : A) (b : B) (c : C) (i : p a b c) (j : q a b c) (l : r a b c) : ∃ a b c, p a b c ∧ q a b c ∧ r a b c := ⟨a, mx23 b c i j l⟩
theorem mx34 {A B C : Type} {p q r s : A → B → C → Prop} (a : A) (b : B) (c : C) (i : p a b c) (j : q a b c) (l : r a b c) (m : s a b c) : ∃ a b c, p a b c ∧ q a b c ∧ r a b c ∧ s a b c := ⟨a, mx24 b c i j l m⟩
theorem mx35 {A B C : Type} {p q r s t : A → B → C → Prop} (a : A) (b : B) (c : C) (i : p a b c) (j : q a b c) (l : r a b c) (m : s a b c) (n : t a b c) : ∃ a b c, p a b c ∧ q a b c ∧ r a b c ∧ s a b c ∧ t a b c := ⟨a, mx25 b c i j l m n⟩
theorem mx36 {A B C : Type} {p q r s t u : A → B → C → Prop} (a : A) (b : B) (c : C) (i : p a b c) (j : q a b c) (l : r a b c) (m : s a b c) (n : t a b c) (o : u a b c) : ∃ a b c, p a b c ∧ q a b c ∧ r a b c ∧ s a b c ∧ t a b c ∧ u a b c := ⟨a, mx26 b c i j l m n o⟩
theorem mx37 {A B C : Type} {p q r s t u v : A → B → C → Prop} (a : A) (b : B) (c : C) (i : p a b c) (j : q a b c) (l : r a b c) (m : s a b c) (n : t a b c) (o : u a b c) (g : v a b c) : ∃ a b c, p a b c ∧ q a b c ∧ r a b c ∧ s a b c ∧ t a b c ∧ u a b c ∧ v a b c := ⟨a, mx27 b c i j l m n o g⟩
theorem mx38 {A B C : Type} {p q r s t u v w : A → B → C → Prop} (a : A) (b : B) (c : C) (i : p a b c) (j : q a b c) (l : r a b c) (m : s a b c) (n : t a b c) (o : u a b c) (g : v a b c) (k : w a b c) : ∃ a b c, p a b c ∧ q a b c ∧ r a b c ∧ s a b c ∧ t a b c ∧ u a b c ∧ v a b c ∧ w a b c := ⟨a, mx28 b c i j l m n o g k⟩
theorem mx43 {A B C D : Type} {p q r : A → B → C → D → Prop} (a : A) (b : B) (c : C) (d : D) (i : p a b c d) (j : q a b c d) (l : r a b c d) : ∃ a b c d, p a b c d ∧ q a b c d ∧ r a b c d := ⟨a, mx33 b c d i j l⟩
theorem mx45 {A B C D : Type} {p q r s t : A → B → C → D → Prop} (a : A) (b : B) (c : C) (d : D) (i : p a b c d) (j : q a b c d) (l : r a b c d) (m : s a b c d) (n : t a b c d) : ∃ a b c d, p a b c d ∧ q a b c d ∧ r a b c d ∧ s a b c d ∧ t a b c d := ⟨a, mx35 b c d i j l m n⟩
theorem mx46 {A B C D : Type} {p q r s t u : A → B → C → D → Prop} (a : A) (b : B) (c : C) (d : D) (i : p a b c d) (j : q a b c d) (l : r a b c d) (m : s a b c d) (n : t a b c d) (o : u a b c d) : ∃ a b c d, p a b c d ∧ q a b c d ∧ r a b c d ∧ s a b c d ∧ t a b c d ∧ u a b c d := ⟨a, mx36 b c d i j l m n o⟩
theorem mx47 {A B C D : Type} {p q r s t u v : A → B → C → D → Prop} (a : A) (b : B) (c : C) (d : D) (i : p a b c d) (j : q a b c d) (l : r a b c d) (m : s a b c d) (n : t a b c d) (o : u a b c d) (g : v a b c d) : ∃ a b c d, p a b c d ∧ q a b c d ∧ r a b c d ∧ s a b c d ∧ t a b c d ∧ u a b c d ∧ v a b c d := ⟨a, mx37 b c d i j l m n o g⟩
theorem mx48 {A B C D : Type} {p q r s t u v w : A → B → C → D → Prop} (a : A) (b : B) (c : C) (d : D) (i : p a b c d) (j : q a b c d) (l : r a b c d) (m : s a b c d) (n : t a b c d) (o : u a b c d) (g : v a b c d) (k : w a b c d) : ∃ a b c d, p a b c d ∧ q a b c d ∧ r a b c d ∧ s a b c d ∧ t a b c d ∧ u a b c d ∧ v a b c d ∧ w a b c d := ⟨a, mx38 b c d i j l m n o g k⟩
theorem mx53 {A B C D E : Type} {p q r : A → B → C → D → E → Prop} (a : A) (b : B) (c : C) (d : D) (e : E) (i : p a b c d e) (j : q a b c d e) (l : r a b c d e) : ∃ a b c d e, p a b c d e ∧ q a b c d e ∧ r a b c d e := ⟨a, mx43 b c d e i j l⟩
theorem mx55 {A B C D E : Type} {p q r s t : A → B → C → D → E → Prop} (a : A) (b : B) (c : C) (d : D) (e : E) (i : p a b c d e) (j : q a b c d e) (l : r a b c d e) (m : s a b c d e) (n : t a b c d e) : ∃ a b c d e, p a b c d e ∧ q a b c d e ∧ r a b c d e ∧ s a b c d e ∧ t a b c d e := ⟨a, mx45 b c d e i j l m n⟩
theorem mx56 {A B C D E : Type} {p q r s t u : A → B → C → D → E → Prop} (a : A) (b : B) (c : C) (d : D) (e : E) (i : p a b c d e) (j : q a b c d e) (l : r a b c d e) (m : s a b c d e) (n : t a b c d e) (o : u a b c d e) : ∃ a b c d e, p a b c d e ∧ q a b c d e ∧ r a b c d e ∧ s a b c d e ∧ t a b c d e ∧ u a b c d e := ⟨a, mx46 b c d e i j l m n o⟩
theorem mx57 {A B C D E : Type} {p q r s t u v : A → B → C → D → E → Prop} (a : A) (b : B) (c : C) (d : D) (e : E) (i : p a b c d e) (j : q a b c d e) (l : r a b c d e) (m : s a b c d e) (n : t a b c d e) (o : u a b c d e) (g : v a b c d e) : ∃ a b c d e, p a b c d e ∧ q a b c d e ∧ r a b c d e ∧ s a b c d e ∧ t a b c d e ∧ u a b c d e ∧ v a b c d e := ⟨a, mx47 b c d e i j l m n o g⟩
theorem mx58 {A B C D E : Type} {p q r s t u v w : A → B → C → D → E → Prop} (a : A) (b : B) (c : C) (d : D) (e : E) (i : p a b c d e) (j : q a b c d e) (l : r a b c d e) (m : s a b c d e) (n : t a b c d e) (o : u a b c d e) (g : v a b c d e) (k : w a b c d e) : ∃ a b c d e, p a b c d e ∧ q a b c d e ∧ r a b c d e ∧ s a b c d e ∧ t a b c d e ∧ u a b c d e ∧ v a b c d e ∧ w a b c d e := ⟨a, mx48 b c d e i j l m n o g k⟩
theorem mx65 {A B C D E F : Type} {p q r s t : A → B → C → D → E → F → Prop} (a : A) (b : B) (c : C) (d : D) (e : E) (f : F) (i : p a b c d e f) (j : q a b c d e f) (l : r a b c d e f) (m : s a b c d e f) (n : t a b c d e f) : ∃ a b c d e f, p a b c d e f ∧ q a b c d e f ∧ r a b c d e f ∧ s a b c d e f ∧ t a b c d e f := ⟨a, mx55 b c d e f i j l m n⟩
theorem mx66 {A B C D E F : Type} {p q r s t u : A → B → C → D → E → F → Prop} (a : A) (b : B) (c : C) (d : D) (e : E) (f : F) (i : p a b c d e f) (j : q a b c d e f) (l : r a b c d e f) (m : s a b c d e f) (n : t a b c d e f) (o : u a b c d e f) : ∃ a b c d e f, p a b c d e f ∧ q a b c d e f ∧ r a b c d e f ∧ s a b c d e f ∧ t a b c d e f ∧ u a b c d e f := ⟨a, mx56 b c d e f i j l m n o⟩
theorem mx67 {A B C D E F : Type} {p q r s t u v : A → B → C → D → E → F → Prop} (a : A) (b : B) (c : C) (d : D) (e : E) (f : F) (i : p a b c d e f) (j : q a b c d e f) (l : r a b c d e f) (m : s a b c d e f) (n : t a b c d e f) (o : u a b c d e f) (g : v a b c d e f) : ∃ a b c d e f, p a b c d e f ∧ q a b c d e f ∧ r a b c d e f ∧ s a b c d e f ∧ t a b c d e f ∧ u a b c d e f ∧ v a b c d e f := ⟨a, mx57 b c d e f i j l m n o g⟩
theorem mx68 {A B C D E F : Type} {p q r s t u v w : A → B → C → D → E → F → Prop} (a : A) (b : B) (c : C) (d : D) (e : E) (f : F) (i : p a b c d e f) (j : q a b c d e f) (l : r a b c d e f) (m : s a b c d e f) (n : t a b c d e f) (o : u a b c d e f) (g : v a b c d e f) (k : w a b c d e f) : ∃ a b c d e f, p a b c d e f ∧ q a b c d e f ∧ r a b c d e f ∧ s a b c d e f ∧ t a b c d e f ∧ u a b c d e f ∧ v a b c d e f ∧ w a b c d e f := ⟨a, mx58 b c d e f i j l m n o g k⟩
theorem mx75 {A B C D E F H : Type} {p q r s t : A → B → C → D → E → F → H → Prop} (a : A) (b : B) (c : C) (d : D) (e : E) (f : F) (x : H) (i : p a b c d e f x) (j : q a b c d e f x) (l : r a b c d e f x) (m : s a b c d e f x) (n : t a b c d e f x) : ∃ a b c d e f x, p a b c d e f x ∧ q a b c d e f x ∧ r a b c d e f x ∧ s a b c d e f x ∧ t a b c d e f x := ⟨a, mx65 b c d e f x i j l m n⟩
theorem mx76 {A B C D E F H : Type} {p q r s t u : A → B → C → D → E → F → H → Prop} (a : A) (b : B) (c : C) (d : D) (e : E) (f : F) (x : H) (i : p a b c d e f x) (j : q a b c d e f x) (l : r a b c d e f x) (m : s a b c d e f x) (n : t a b c d e f x) (o : u a b c d e f x) : ∃ a b c d e f x, p a b c d e f x ∧ q a b c d e f x ∧ r a b c d e f x ∧ s a b c d e f x ∧ t a b c d e f x ∧ u a b c d e f x := ⟨a, mx66 b c d e f x i j l m n o⟩
theorem mx77 {A B C D E F H : Type} {p q r s t u v : A → B → C → D → E → F → H → Prop} (a : A) (b : B) (c : C) (d : D) (e : E) (f : F) (x : H) (i : p a b c d e f x) (j : q a b c d e f x) (l : r a b c d e f x) (m : s a b c d e f x) (n : t a b c d e f x) (o : u a b c d e f x) (g : v a b c d e f x) : ∃ a b c d e f x, p a b c d e f x ∧ q a b c d e f x ∧ r a b c d e f x ∧ s a b c d e f x ∧ t a b c d e f x ∧ u a b c d e f x ∧ v a b c d e f x := ⟨a, mx67 b c d e f x i j l m n o g⟩
theorem mx78 {A B C D E F H : Type} {p q r s t u v w : A → B → C → D → E → F → H → Prop} (a : A) (b : B) (c : C) (d : D) (e : E) (f : F) (x : H) (i : p a b c d e f x) (j : q a b c d e f x) (l : r a b c d e f x) (m : s a b c d e f x) (n : t a b c d e f x) (o : u a b c d e f x) (g : v a b c d e f x) (k : w a b c d e f x) : ∃ a b c d e f x, p a b c d e f x ∧ q a b c d e f x ∧ r a b c d e f x ∧ s a b c d e f x ∧ t a b c d e f x ∧ u a b c d e f x ∧ v a b c d e f x ∧ w a b c d e f x := ⟨a, mx68 b c d e f x i j l m n o g k⟩
theorem mx86 {A B C D E F H I : Type} {p q r s t u : A → B → C → D → E → F → H → I → Prop} (a : A) (b : B) (c : C) (d : D) (e : E) (f : F) (x : H) (y : I) (i : p a b c d e f x y) (j : q a b c d e f x y) (l : r a b c d e f x y) (m : s a b c d e f x y) (n : t a b c d e f x y) (o : u a b c d e f x y) : ∃ a b c d e f x y, p a b c d e f x y ∧ q a b c d e f x y ∧ r a b c d e f x y ∧ s a b c d e f x y ∧ t a b c d e f x y ∧ u a b c d e f x y := ⟨a, mx76 b c d e f x y i j l m n o⟩
theorem mx87 {A B C D E F H I : Type} {p q r s t u v : A → B → C → D → E → F → H → I → Prop} (a : A) (b : B) (c : C) (d : D) (e : E) (f : F) (x : H) (y : I) (i : p a b c d e f x y) (j : q a b c d e f x y) (l : r a b c d e f x y) (m : s a b c d e f x y) (n : t a b c d e f x y) (o : u a b c d e f x y) (g : v a b c d e f x y) : ∃ a b c d e f x y, p a b c d e f x y ∧ q a b c d e f x y ∧ r a b c d e f x y ∧ s a b c d e f x y ∧ t a b c d e f x y ∧ u a b c d e f x y ∧ v a b c d e f x y := ⟨a, mx77 b c d e f x y i j l m n o g⟩
theorem mx88 {A B C D E F H I : Type} {p q r s t u v w : A → B → C → D → E → F → H → I → Prop} (a : A) (b : B) (c : C) (d : D) (e : E) (f : F) (x : H) (y : I) (i : p a b c d e f x y) (j : q a b c d e f x y) (l : r a b c d e f x y) (m : s a b c d e f x y) (n : t a b c d e f x y) (o : u a b c d e f x y) (g : v a b c d e f x y) (k : w a b c d e f x y) : ∃ a b c d e f x y, p a b c d e f x y ∧ q a b c d e f x y ∧ r a b c d e f x y ∧ s a b c d e f x y ∧ t a b c d e f x y ∧ u a b c d e f x y ∧ v a b c d e f x y ∧ w a b c d e f x y := ⟨a, mx78 b c d e f x y i j l m n o g k⟩
theorem mx97 {A B C D E F H I J : Type} {p q r s t u v : A → B → C → D → E → F → H → I → J → Prop} (a : A) (b : B) (c : C) (d : D) (e : E) (f : F) (x : H) (y : I) (z : J) (i : p a b c d e f x y z) (j : q a b c d e f x y z) (l : r a b c d e f x y z) (m : s a b c d e f x y z) (n : t a b c d e f x y z) (o : u a b c d e f x y z) (g : v a b c d e f x y z) : ∃ a b c d e f x y z, p a b c d e f x y z ∧ q a b c d e f x y z ∧ r a b c d e f x y z ∧ s a b c d e f x y z ∧ t a b c d e f x y z ∧ u a b c d e f x y z ∧ v a b c d e f x y z := ⟨a, mx87 b c d e f x y z i j l m n o g⟩
theorem mx98 {A B C D E F H I J : Type} {p q r s t u v w : A → B → C → D → E → F → H → I → J → Prop} (a : A) (b : B) (c : C) (d : D) (e : E) (f : F) (x : H) (y : I) (z : J) (i : p a b c d e f x y z) (j : q a b c d e f x y z) (l : r a b c d e f x y z) (m : s a b c d e f x y z) (n : t a b c d e f x y z) (o : u a b c d e f x y z) (g : v a b c d e f x y z) (k : w a b c d e f x y z) : ∃ a b c d e f x y z, p a b c d e f x y z ∧ q a b c d e f x y z ∧ r a b c d e f x y z ∧ s a b c d e f x y z ∧ t a b c d e f x y z ∧ u a b c d e f x y z ∧ v a b c d e f x y z ∧ w a b c d e f x y z := ⟨a, mx88 b c d e f x y z i j l m n o g k⟩
theorem sA (a b : Nat) : a ≤ a - b + b := Nat.le_add_of_sub_le (Nat.le_refl _)
theorem eL {a b : Nat} (h : a = b) : a ≤ b := Nat.le_of_eq h
theorem eG {a b : Nat} (h : a = b) : b ≤ a := Nat.le_of_eq h.symm
theorem nL {a b : Nat} (h : ¬ a ≤ b) : b + 1 ≤ a := Nat.lt_of_not_le h
theorem nG {a b : Nat} (h : ¬ a < b) : b ≤ a := Nat.le_of_not_lt h
theorem n0 {a : Nat} (h : ¬ a = 0) : 1 ≤ a := Nat.pos_of_ne_zero h
theorem sL {a b : Nat} (h : b ≤ a) : a - b + b ≤ a := Nat.le_of_eq (Nat.sub_add_cancel h)
theorem kM (k : Nat) {a b : Nat} (h : a ≤ b) : k * a ≤ k * b := Nat.mul_le_mul_left k h
theorem aA {a b c d : Nat} (h : a ≤ b) (k : c ≤ d) : a + c ≤ b + d := Nat.add_le_add h k
theorem nF {G : Prop} (h : 1 ≤ 0) : G := absurd h (Nat.not_succ_le_zero 0)
theorem cN {a b : Nat} (h : a ≤ b) : (a : Int) ≤ b := Int.ofNat_le.2 h
theorem cL {a b : Nat} (h : a < b) : (a : Int) + 1 ≤ b := Int.ofNat_lt.2 h
theorem c0 (a : Nat) : (0 : Int) ≤ a := Int.natCast_nonneg a
theorem nC {a b : Nat} (h : (a : Int) ≤ b) : a ≤ b := Int.ofNat_le.1 h
theorem nD {a b : Nat} (h : (a : Int) < b) : a < b := Int.ofNat_lt.1 h
theorem iL {a b : Int} (h : a = b) : a ≤ b := Int.le_of_eq h
theorem iG {a b : Int} (h : a = b) : b ≤ a := Int.le_of_eq h.symm
theorem jL {a b : Int} (h : ¬ a ≤ b) : b + 1 ≤ a := Int.lt_of_not_ge h
theorem jG {a b : Int} (h : ¬ a < b) : b ≤ a := Int.not_lt.1 h
theorem jM (k : Nat) {a b : Int} (h : a ≤ b) : (k : Int) * a ≤ (k : Int) * b := Int.mul_le_mul_of_nonneg_left h (Int.natCast_nonneg k)
theorem jA {a b c d : Int} (h : a ≤ b) (k : c ≤ d) : a + c ≤ b + d := Int.add_le_add h k
theorem jF {G : Prop} (h : (1 : Int) ≤ 0) : G := absurd h (by decide)
theorem tL {i : Int} (h : 0 ≤ i) : (i.toNat : Int) ≤ i := Int.le_of_eq (Int.toNat_of_nonneg h)
theorem tG (i : Int) : i ≤ (i.toNat : Int) := Int.self_le_toNat i
theorem li0 {e f : Nat} (h : e ≤ f := by simp +arith only) : e ≤ f := h
theorem li1 {a b e f : Nat} (h1 : a ≤ b) (h : e + b ≤ f + a := by simp +arith only) : e ≤ f := Nat.le_of_add_le_add_right (Nat.le_trans h (Nat.add_le_add_left h1 f))
theorem li2 {a b c d e f : Nat} (h1 : a ≤ b) (h2 : c ≤ d) (h : e + (b + d) ≤ f + (a + c) := by simp +arith only) : e ≤ f := li1 (aA h1 h2) h
theorem li3 {a b c d a' b' e f : Nat} (h1 : a ≤ b) (h2 : c ≤ d) (h3 : a' ≤ b') (h : e + (b + (d + b')) ≤ f + (a + (c + a')) := by simp +arith only) : e ≤ f := li1 (aA h1 (aA h2 h3)) h
theorem li4 {a b c d a' b' c' d' e f : Nat} (h1 : a ≤ b) (h2 : c ≤ d) (h3 : a' ≤ b') (h4 : c' ≤ d') (h : e + (b + (d + (b' + d'))) ≤ f + (a + (c + (a' + c'))) := by simp +arith only) : e ≤ f := li1 (aA h1 (aA h2 (aA h3 h4))) h
theorem il0 {e f : Int} (h : e ≤ f := by simp +arith only [Int.natCast_add, Int.natCast_mul, Int.cast_ofNat_Int] <;> decide) : e ≤ f := h
theorem il1 {a b e f : Int} (h1 : a ≤ b) (h : e + b ≤ f + a := by simp +arith only [Int.natCast_add, Int.natCast_mul, Int.cast_ofNat_Int] <;> decide) : e ≤ f := Int.le_of_add_le_add_right (Int.le_trans h (Int.add_le_add_left h1 f))
theorem il2 {a b c d e f : Int} (h1 : a ≤ b) (h2 : c ≤ d) (h : e + (b + d) ≤ f + (a + c) := by simp +arith only [Int.natCast_add, Int.natCast_mul, Int.cast_ofNat_Int] <;> decide) : e ≤ f := il1 (jA h1 h2) h
theorem il3 {a b c d a' b' e f : Int} (h1 : a ≤ b) (h2 : c ≤ d) (h3 : a' ≤ b') (h : e + (b + (d + b')) ≤ f + (a + (c + a')) := by simp +arith only [Int.natCast_add, Int.natCast_mul, Int.cast_ofNat_Int] <;> decide) : e ≤ f := il1 (jA h1 (jA h2 h3)) h
theorem il4 {a b c d a' b' c' d' e f : Int} (h1 : a ≤ b) (h2 : c ≤ d) (h3 : a' ≤ b') (h4 : c' ≤ d') (h : e + (b + (d + (b' + d'))) ≤ f + (a + (c + (a' + c'))) := by simp +arith only [Int.natCast_add, Int.natCast_mul, Int.cast_ofNat_Int] <;> decide) : e ≤ f := il1 (jA h1 (jA h2 (jA h3 h4))) h
end Mine
open PySem PySem.W PySem.Calls PyProof.Rows
namespace Mine
@[elab_as_elim] theorem lt2 {P : Nat → Prop} {i : Nat} (h : i < 2) (a : P 0) (b : P 1) : P i := by
 cases i with
 | zero => exact a
 | succ i => cases i with
   | zero => exact b
   | succ i => exact absurd h (Nat.not_lt.mpr (Nat.le_add_left 2 i))
@[elab_as_elim] theorem lt3 {P : Nat → Prop} {i : Nat} (h : i < 3) (a : P 0) (b : P 1) (c : P 2) : P i := by
 cases i with
 | zero => exact a
 | succ i => exact lt2 (P := fun i => P (i + 1)) (Nat.lt_of_succ_lt_succ h) b c
@[elab_as_elim] theorem lt4 {P : Nat → Prop} {i : Nat} (h : i < 4) (a : P 0) (b : P 1) (c : P 2) (d : P 3) : P i := by
 cases i with
 | zero => exact a
 | succ i => exact lt3 (P := fun i => P (i + 1)) (Nat.lt_of_succ_lt_succ h) b c d
inductive V where
 | none
 | bool (b : Bool)
 | int (i : Int)
 | str (x : Str)
 | tup (xs : List V)
 | lst (xs : List V)
 | dct (p : List (List Int × Rat))
 | ref (a : Addr)
noncomputable abbrev Poly := List (List Int × Rat)
noncomputable abbrev Fz := Addr → Option Obj
noncomputable abbrev Sg := Addr → Option (V × Obj)
noncomputable def itup (ks : List Int) : V := .tup (ks.map .int)
noncomputable def rv (r : Rat) : V := .tup [.int r.num, .int r.den]
noncomputable def TupI (g : Fz) (ks : List Int) (v : Value) : Prop :=
 ∃ a o items n, v = .ref a ∧ g a = some o ∧ o.cls = .type "tuple" ∧ o.data = .seq items n ∧ IntsAre items.toList ks
noncomputable def khash (ks : List Int) : Int := reduceHash (Builtin.Tuple.tupleHashOf (ks.map hashInt))
structure EntR (g : Fz) (x : List Int × Rat) (e : DictEntry) : Prop where
 hash : e.hash = khash x.1
 key : TupI g x.1 e.key
 val : TupI g [x.2.num, (x.2.den : Int)] e.val
inductive EntRs (g : Fz) : Poly → List DictEntry → Prop
 | nil : EntRs g [] []
 | cons {x e p es} : EntR g x e → EntRs g p es → EntRs g (x :: p) (e :: es)
structure DR (g : Fz) (p : Poly) (o : Obj) : Prop where
 exact : o.ExactDict
 data : ∃ es n, o.data = .dict es n ∧ EntRs g p es.toList
 nodup : (p.map (·.1)).Nodup
mutual
inductive VR (g : Fz) : V → Value → Prop
 | none : VR g .none .none
 | bool (b) : VR g (.bool b) (.bool b)
 | int (i t) : VR g (.int i) (.int i t)
 | str (x t) : VR g (.str x) (.str x t)
 | ref (a) : VR g (.ref a) (.ref a)
 | tup {xs a o items n} : g a = some o → o.cls = .type "tuple" → o.data = .seq items n → VRs g xs items.toList → VR g (.tup xs) (.ref a)
 | lst {xs a o items n} : g a = some o → o.cls = .type "list" → o.data = .seq items n → VRs g xs items.toList → VR g (.lst xs) (.ref a)
 | dct {p a o} : a ≠ sysModules → g a = some o → DR g p o → VR g (.dct p) (.ref a)
inductive VRs (g : Fz) : List V → List Value → Prop
 | nil : VRs g [] []
 | cons {x u xs us} : VR g x u → VRs g xs us → VRs g (x :: xs) (u :: us)
end
@[elab_as_elim] theorem VR.ci {g : Fz} {i u} {P : Value → Prop} (h : VR g (.int i) u) (k : ∀ t, P (.int i t)) : P u := by cases h; exact k _
@[elab_as_elim] theorem VR.cb {g : Fz} {i u} {P : Value → Prop} (h : VR g (.bool i) u) (k : P (.bool i)) : P u := by cases h; exact k
@[elab_as_elim] theorem VR.cn {g : Fz} {u} {P : Value → Prop} (h : VR g .none u) (k : P .none) : P u := by cases h; exact k
@[elab_as_elim] theorem VR.cs {g : Fz} {x u} {P : Value → Prop} (h : VR g (.str x) u) (k : ∀ t, P (.str x t)) : P u := by cases h; exact k _
@[elab_as_elim] theorem VR.cr {g : Fz} {a u} {P : Value → Prop} (h : VR g (.ref a) u) (k : P (.ref a)) : P u := by cases h; exact k
@[elab_as_elim] theorem VR.ct {g : Fz} {xs u} {P : Value → Prop} (h : VR g (.tup xs) u) (k : ∀ a o items n, g a = some o → o.cls = .type "tuple" → o.data = .seq items n → VRs g xs items.toList → P (.ref a)) : P u := by
 cases h with | tup a b c d => exact k _ _ _ _ a b c d
@[elab_as_elim] theorem VR.cl {g : Fz} {xs u} {P : Value → Prop} (h : VR g (.lst xs) u) (k : ∀ a o items n, g a = some o → o.cls = .type "list" → o.data = .seq items n → VRs g xs items.toList → P (.ref a)) : P u := by
 cases h with | lst a b c d => exact k _ _ _ _ a b c d
@[elab_as_elim] theorem VR.cd {g : Fz} {p u} {P : Value → Prop} (h : VR g (.dct p) u) (k : ∀ a o, a ≠ sysModules → g a = some o → DR g p o → P (.ref a)) : P u := by
 cases h with | dct a b c => exact k _ _ a b c
@[elab_as_elim] theorem VRs.c0 {g : Fz} {us} {P : List Value → Prop} (h : VRs g [] us) (k : P []) : P us := by cases h; exact k
@[elab_as_elim] theorem VRs.c1 {g : Fz} {x xs us} {P : List Value → Prop} (h : VRs g (x :: xs) us) (k : ∀ u us, VR g x u → VRs g xs us → P (u :: us)) : P us := by
 cases h with | cons a b => exact k _ _ a b
theorem VRs.one {g : Fz} {v us} (h : VRs g [v] us) : ∃ u, us = [u] ∧ VR g v u := h.c1 fun u _ a b => b.c0 (mx12 u rfl a)
theorem VRs.two {g : Fz} {v w us} (h : VRs g [v, w] us) : ∃ u x, us = [u, x] ∧ VR g v u ∧ VR g w x := h.c1 fun u _ a b => b.c1 fun w _ b c => c.c0 (mx23 u w rfl a b)
theorem VRs.three {g : Fz} {v w z us} (h : VRs g [v, w, z] us) : ∃ u x y, us = [u, x, y] ∧ VR g v u ∧ VR g w x ∧ VR g z y := h.c1 fun u _ a b => b.c1 fun w _ b c => c.c1 fun z _ c d => d.c0 (mx34 u w z rfl a b c)
inductive OR (g : Fz) : V → Obj → Prop
 | lst {xs items n} : VRs g xs items.toList → OR g (.lst xs) { cls := .type "list", data := .seq items n }
 | dct {p o} : DR g p o → OR g (.dct p) o
noncomputable def Le (g g' : Fz) : Prop := ∀ a o, g a = some o → g' a = some o
theorem Le.refl (g : Fz) : Le g g := fun _ _ e => e
theorem Le.trans {a b c : Fz} (h : Le a b) (k : Le b c) : Le a c := fun x o e => k x o (h x o e)
theorem TupI.mono {g g' : Fz} (L : Le g g') {ks v} (x : TupI g ks v) : TupI g' ks v := by
 refine ob43 x ?_; clear x; rintro a o items n e ho r
 exact ⟨a, o, items, n, e, L _ _ ho, r⟩
theorem EntR.mono {g g' : Fz} (L : Le g g') {x e} (h : EntR g x e) : EntR g' x e := ⟨h.hash, h.key.mono L, h.val.mono L⟩
theorem EntRs.mono {g g' : Fz} (L : Le g g') {p es} (h : EntRs g p es) : EntRs g' p es := by
 induction h with
 | nil => exact .nil
 | cons a _ ih => exact .cons (a.mono L) ih
theorem DR.mono {g g' : Fz} (L : Le g g') {p o} (h : DR g p o) : DR g' p o := by
 obtain ⟨a, ⟨es, n, d, r⟩, c⟩ := h
 exact ⟨a, (mx22 es n d (r.mono L)), c⟩
theorem VR.mono {g g' : Fz} (L : Le g g') {v u} (h : VR g v u) : VR g' v u :=
 VR.rec (motive_1 := fun v u _ => VR g' v u) (motive_2 := fun vs us _ => VRs g' vs us) .none .bool .int .str .ref (fun ho hc hd _ ih => .tup (L _ _ ho) hc hd ih) (fun ho hc hd _ ih => .lst (L _ _ ho) hc hd ih) (fun hn ho hd => .dct hn (L _ _ ho) (hd.mono L)) .nil (fun _ _ a b => .cons a b) h
theorem VRs.mono {g g' : Fz} (L : Le g g') {vs us} (h : VRs g vs us) : VRs g' vs us := by
 induction us generalizing vs with
 | nil => cases h; exact .nil
 | cons u us ih => cases h with | cons a b => exact .cons (a.mono L) (ih b)
theorem OR.mono {g g' : Fz} (L : Le g g') {v o} (h : OR g v o) : OR g' v o := by
 cases h with
 | lst c => exact .lst (c.mono L)
 | dct a => exact .dct (a.mono L)
theorem VRs.length {g : Fz} {vs us} (h : VRs g vs us) : vs.length = us.length := by
 induction us generalizing vs with
 | nil => cases h; rfl
 | cons u us ih => cases h with | cons _ b => simp [ih b]
theorem VRs.get {g : Fz} {vs us} (h : VRs g vs us) {i : Nat} {v : V} (e : vs[i]? = some v) : ∃ u, us[i]? = some u ∧ VR g v u := by
 induction us generalizing vs i with
 | nil => cases h; simp at e
 | cons u us ih =>
   cases h with
   | cons a b =>
     cases i with
     | zero => simp only [List.getElem?_cons_zero, Option.some.injEq] at e; subst e; exact (mx12 u rfl a)
     | succ i => simpa using ih b (by simpa using e)
theorem VRs.get' {g : Fz} {vs us} (h : VRs g vs us) {i : Nat} {u : Value} (e : us[i]? = some u) : ∃ v, vs[i]? = some v ∧ VR g v u := by
 induction us generalizing vs i with
 | nil => simp at e
 | cons u' us ih =>
   cases h with
   | cons a b =>
     cases i with
     | zero => simp only [List.getElem?_cons_zero, Option.some.injEq] at e; subst e; exact (mx12 _ rfl a)
     | succ i => simpa using ih b (by simpa using e)
theorem VRs.append {g : Fz} {vs us vs' us'} (h : VRs g vs us) (h' : VRs g vs' us') : VRs g (vs ++ vs') (us ++ us') := by
 induction us generalizing vs with
 | nil => cases h; exact h'
 | cons u us ih => cases h with | cons a b => exact .cons a (ih b)
theorem VRs.take {g : Fz} {vs us} (n : Nat) (h : VRs g vs us) : VRs g (vs.take n) (us.take n) := by
 induction us generalizing vs n with
 | nil => cases h; simp; exact .nil
 | cons u us ih =>
   cases h with
   | cons a b =>
     cases n with
     | zero => exact .nil
     | succ n => simp only [List.take_succ_cons]; exact .cons a (ih n b)
theorem VRs.drop {g : Fz} {vs us} (n : Nat) (h : VRs g vs us) : VRs g (vs.drop n) (us.drop n) := by
 induction us generalizing vs n with
 | nil => cases h; simp; exact .nil
 | cons u us ih =>
   cases h with
   | cons a b =>
     cases n with
     | zero => exact .cons a b
     | succ n => simp only [List.drop_succ_cons]; exact ih n b
theorem VRs.set {g : Fz} {vs us} (h : VRs g vs us) (i : Nat) {v u} (x : VR g v u) : VRs g (vs.set i v) (us.set i u) := by
 induction us generalizing vs i with
 | nil => cases h; exact .nil
 | cons u us ih =>
   cases h with
   | cons a b =>
     cases i with
     | zero => exact .cons x b
     | succ i => exact .cons a (ih b i)
theorem VRs.ofInts {g : Fz} {us : List Value} {ks : List Int} (h : IntsAre us ks) : VRs g (ks.map .int) us := by
 induction h with
 | nil => exact .nil
 | cons n t _ ih => exact .cons (.int n t) ih
theorem VRs.toInts {g : Fz} {us : List Value} {ks : List Int} (h : VRs g (ks.map .int) us) : IntsAre us ks := by
 induction us generalizing ks with
 | nil => cases ks with
   | nil => exact .nil
   | cons => (exfalso; cases h)
 | cons u us ih =>
   cases ks with
   | nil => (exfalso; cases h)
   | cons k ks =>
     rw [List.map_cons] at h
     cases h with
     | cons a b => cases a with | int _ t => exact .cons k t (ih b)
theorem TupI.vr {g : Fz} {ks v} (h : TupI g ks v) : VR g (itup ks) v := by
 refine ob45 h ?_; clear h; rintro a o items n rfl ho hc hd hi
 exact .tup ho hc hd (.ofInts hi)
theorem VR.tupI {g : Fz} {ks v} (h : VR g (itup ks) v) : TupI g ks v := by
 exact h.ct fun a o items n ho hc hd hs => ⟨a, o, items, n, rfl, ho, hc, hd, hs.toInts⟩
theorem rv_itup (r : Rat) : rv r = itup [r.num, (r.den : Int)] := rfl
structure Cx where
 prog : Program
 w : World
 h₀ : Heap
 mg : Str → Option Value
 mb : Str → Option Value
 hg : h₀.Ns mainGlobals mg
 hb : h₀.Ns builtinsNs mb
 lim : h₀.NoLimit
structure SR (C : Cx) (g : Fz) (σ : Sg) (h : Heap) : Prop where
 base : ∀ a o, C.h₀.get? a = some o → g a = some o
 sub : ∀ a o, g a = some o → h.get? a = some o
 own : ∀ a v o, σ a = some (v, o) → g a = none ∧ a ≠ sysModules ∧ h.get? a = some o ∧ OR g v o
structure Ext (g : Fz) (σ : Sg) (s : Shared) (g' : Fz) (σ' : Sg) (s' : Shared) : Prop where
 le : Le g g'
 keep : ∀ a o, s.heap.get? a = some o → σ a = none → s'.heap.get? a = some o
 alive : ∀ a o, s.heap.get? a = some o → ∃ o', s'.heap.get? a = some o'
 sig : ∀ a o, s.heap.get? a = some o → σ a = none → σ' a = none
 frz : ∀ a o, s.heap.get? a = some o → σ a = none → g a = none → g' a = none
 gens : s'.gens = s.gens
 os : s'.os = s.os
theorem Ext.refl (g : Fz) (σ : Sg) (s : Shared) : Ext g σ s g σ s :=
 ⟨.refl _, fun _ _ e _ => e, fun _ o e => ⟨o, e⟩, fun _ _ _ e => e, fun _ _ _ _ e => e, rfl, rfl⟩
theorem Ext.toks (g : Fz) (σ : Sg) (s : Shared) (t d) : Ext g σ s g σ { s with toks := t, drawn := d } :=
 ⟨.refl _, fun _ _ e _ => e, fun _ o e => ⟨o, e⟩, fun _ _ _ e => e, fun _ _ _ _ e => e, rfl, rfl⟩
theorem Ext.trans {g g' g'' : Fz} {σ σ' σ'' : Sg} {s s' s'' : Shared} (x : Ext g σ s g' σ' s') (y : Ext g' σ' s' g'' σ'' s'') : Ext g σ s g'' σ'' s'' where
 le := x.le.trans y.le
 keep := fun a o e n => y.keep a o (x.keep a o e n) (x.sig a o e n)
 alive := fun a o e => let ⟨o', e'⟩ := x.alive a o e; y.alive a o' e'
 sig := fun a o e n => y.sig a o (x.keep a o e n) (x.sig a o e n)
 frz := fun a o e n k => y.frz a o (x.keep a o e n) (x.sig a o e n) (x.frz a o e n k)
 gens := y.gens.trans x.gens
 os := y.os.trans x.os
structure Room (A : Around) (n : Nat) : Prop where
 handled : A.handled = none
 depth : A.depth + n < 1000
 units : A.units + 20 * n + 16 < cLine
structure RoomC (A : Around) (n : Nat) : Prop where
 handled : A.handled = none
 depth : A.depth + n < 1000
 units : A.units + 20 * n < cLine
theorem Room.call {A : Around} {n m : Nat} (x : Room A n) (h : m ≤ n) : RoomC A m := ⟨x.handled, by have := x.depth; exact li2 h this, by have := x.units; exact li2 (kM 20 h) this⟩
theorem RoomC.body {A : Around} {n : Nat} (x : RoomC A (n + 1)) (env : Env) : Room (A.deeper env) n :=
 ⟨x.handled, by have := x.depth; show A.depth + 1 + n < 1000; exact li1 this, by have := x.units; show A.units + 3 + 20 * n + 16 < cLine; exact li1 this⟩
theorem Room.lt {A : Around} {n : Nat} (x : Room A n) : A.units < cLine := by have := x.units; exact li1 this
theorem Room.lt1 {A : Around} {n : Nat} (x : Room A n) : A.units + 1 < cLine := by have := x.units; exact li1 this
variable {C : Cx}
theorem SR.at {g : Fz} {σ : Sg} {h : Heap} (x : SR C g σ h) {a o} (e : C.h₀.get? a = some o) : h.get? a = some o := x.sub _ _ (x.base _ _ e)
theorem SR.lo {g : Fz} {σ : Sg} {h : Heap} (x : SR C g σ h) : 2 ≤ h.objs.size := by
 refine ob32 C.hg ?_; rintro o _ _ ho _
 have : mainGlobals < h.objs.size := Heap.lt_size (x.at ho)
 have this : (3 : Nat) < h.objs.size := this
 exact li1 this
theorem SR.nolimit {g : Fz} {σ : Sg} {h : Heap} (x : SR C g σ h) : h.NoLimit := C.lim.keeps fun _ _ e => x.at e
theorem SR.sys {g : Fz} {σ : Sg} {h : Heap} (x : SR C g σ h) : h.objs.size ≠ sysModules := by have := x.lo; intro e; rw [e] at this; exact absurd this (by decide)
theorem SR.grow {g g' : Fz} {σ : Sg} {h h' : Heap} (x : SR C g σ h) (L : Le g g') (k : ∀ a o, h.get? a = some o → h'.get? a = some o)
   (n : ∀ a o, g' a = some o → g a = some o ∨ (h.objs.size ≤ a ∧ h'.get? a = some o)) : SR C g' σ h' where
 base := fun a o e => L _ _ (x.base a o e)
 sub := fun a o e => (n a o e).elim (fun q => k _ _ (x.sub _ _ q)) fun q => q.2
 own := fun a v o e => by
   refine ob04 (x.own a v o e) ?_; rintro p q ho r
   refine (mx04 ?_ q (k _ _ ho) (r.mono L))
   cases hq : g' a with
   | none => rfl
   | some o' =>
     rcases n a o' hq with q | q
     · rw [p] at q; (exfalso; cases q)
     · exact absurd (Heap.lt_size ho) (Nat.not_lt.mpr q.1)
noncomputable def put (g : Fz) (a : Addr) (o : Obj) : Fz := fun b => if b = a then some o else g b
theorem put_same (g : Fz) (a o) : put g a o a = some o := by simp [put]
theorem put_ne (g : Fz) {a b : Addr} (o) (h : b ≠ a) : put g a o b = g b := by simp [put, h]
theorem Le.put {g : Fz} {a : Addr} (h : g a = none) (o) : Le g (put g a o) := fun b x e => by
 have : b ≠ a := fun q => by rw [q, h] at e; cases e
 rw [put_ne _ _ this]; exact e
noncomputable def upd (σ : Sg) (a : Addr) (v : V) (o : Obj) : Sg := fun b => if b = a then some (v, o) else σ b
@[simp] theorem upd_same (σ : Sg) (a v o) : upd σ a v o a = some (v, o) := by simp [upd]
theorem upd_ne (σ : Sg) {a b : Addr} (v o) (h : b ≠ a) : upd σ a v o b = σ b := by simp [upd, h]
@[simp] theorem upd_upd (σ : Sg) (a v o v' o') : upd (upd σ a v o) a v' o' = upd σ a v' o' := by funext b; simp only [upd]; split <;> rfl
noncomputable def del (σ : Sg) (a : Addr) : Sg := fun b => if b = a then none else σ b
theorem del_upd {σ : Sg} {a : Addr} (v o) (h : σ a = none) : del (upd σ a v o) a = σ := by
 funext b; simp only [del, upd]; split
 · rename_i e; rw [e, h]
 · rfl
theorem SR.new {g : Fz} {σ : Sg} {s : Shared} (x : SR C g σ s.heap) (o : Obj) (hf : o.isFreed = false) (t) :
   Ext g σ s (put g s.heap.objs.size o) σ { s with heap := s.heap.push o, toks := t } ∧ SR C (put g s.heap.objs.size o) σ (s.heap.push o) ∧ put g s.heap.objs.size o s.heap.objs.size = some o := by
 have hn : g s.heap.objs.size = none := by
   cases q : g s.heap.objs.size with
   | none => rfl
   | some o' => exact absurd (Heap.lt_size (x.sub _ _ q)) (Nat.lt_irrefl _)
 refine (mx03 (⟨.put hn o, fun a o' e _ => Heap.get?_push_of_some _ e, fun a o' e => ⟨o', Heap.get?_push_of_some _ e⟩, fun _ _ _ e => e, fun a _ l _ e => ?_, rfl, rfl⟩) ?_ (put_same ..))
 · rw [put_ne _ _ (Nat.ne_of_lt (Heap.lt_size l))]; exact e
 · refine x.grow (.put hn o) (fun _ _ e => Heap.get?_push_of_some _ e) fun a o' e => ?_
   by_cases q : a = s.heap.objs.size
   · subst q; rw [put_same] at e; cases e; exact .inr ⟨Nat.le_refl _, Heap.get?_push_size _ hf⟩
   · rw [put_ne _ _ q] at e; exact .inl e
theorem SR.newOwn {g : Fz} {σ : Sg} {s : Shared} (x : SR C g σ s.heap) {v : V} (o : Obj) (hf : o.isFreed = false) (hv : OR g v o) (t) :
   σ s.heap.objs.size = none ∧ Ext g σ s g (upd σ s.heap.objs.size v o) { s with heap := s.heap.push o, toks := t } ∧ SR C g (upd σ s.heap.objs.size v o) (s.heap.push o) := by
 have hn : g s.heap.objs.size = none := by
   cases q : g s.heap.objs.size with
   | none => rfl
   | some o' => exact absurd (Heap.lt_size (x.sub _ _ q)) (Nat.lt_irrefl _)
 have hσ : σ s.heap.objs.size = none := by
   cases q : σ s.heap.objs.size with
   | none => rfl
   | some p => refine ob04 (x.own _ p.1 p.2 q) ?_; rintro _ _ ho _; exact absurd (Heap.lt_size ho) (Nat.lt_irrefl _)
 refine (mx03 hσ (⟨.refl _, fun a o' e _ => Heap.get?_push_of_some _ e, fun a o' e => ⟨o', Heap.get?_push_of_some _ e⟩, fun a _ l e => ?_, fun _ _ _ _ e => e, rfl, rfl⟩) ⟨x.base, fun a o' e => Heap.get?_push_of_some _ (x.sub _ _ e), fun a v' o' e => ?_⟩)
 · rw [upd_ne _ _ _ (Nat.ne_of_lt (Heap.lt_size l))]; exact e
 · by_cases q : a = s.heap.objs.size
   · subst q; rw [upd_same] at e; cases e; exact (mx04 hn x.sys (Heap.get?_push_size _ hf) hv)
   · rw [upd_ne _ _ _ q] at e
     refine ob04 (x.own a v' o' e) ?_; rintro p r ho' t
     exact (mx04 p r (Heap.get?_push_of_some _ ho') t)
theorem SR.change {g : Fz} {σ : Sg} {s : Shared} (x : SR C g σ s.heap) {a : Addr} {v v' : V} {o₀ : Obj} {h' : Heap} (e : σ a = some (v, o₀)) (hs : Heap.SameBut a s.heap h')
   {o : Obj} (ho : h'.get? a = some o) (hv : OR g v' o) (t) : Ext g σ s g (upd σ a v' o) { s with heap := h', toks := t } ∧ SR C g (upd σ a v' o) h' := by
 refine ob04 (x.own a v _ e) ?_; rintro gn ns hoa _
 refine ⟨⟨.refl _, fun b o' q n => ?_, fun b o' q => if z : b = a then ⟨o, z ▸ ho⟩ else ⟨o', (hs.2 b z).trans q⟩, fun b _ _ n => ?_, fun _ _ _ _ q => q, rfl, rfl⟩, ⟨x.base, fun b o' q => ?_, fun b v'' o'' q => ?_⟩⟩
 · have : b ≠ a := fun z => by rw [z, e] at n; cases n
   exact (hs.2 b this).trans q
 · have : b ≠ a := fun z => by rw [z, e] at n; cases n
   rw [upd_ne _ _ _ this]; exact n
 · have : b ≠ a := fun z => by rw [z, gn] at q; cases q
   exact (hs.2 b this).trans (x.sub _ _ q)
 · by_cases z : b = a
   · subst z; rw [upd_same] at q; cases q; exact (mx04 gn ns ho hv)
   · rw [upd_ne _ _ _ z] at q
     refine ob04 (x.own b v'' o'' q) ?_; rintro p r ho' t
     exact (mx04 p r ((hs.2 b z).trans ho') t)
theorem SR.freeze {g : Fz} {σ : Sg} {s : Shared} (x : SR C g σ s.heap) {a : Addr} {v : V} {oa : Obj} (e : σ a = some (v, oa)) :
   ∃ g', Ext g σ s g' (del σ a) s ∧ SR C g' (del σ a) s.heap ∧ VR g' v (.ref a) ∧ Le g g' := by
 refine ob04 (x.own a v _ e) ?_; rintro gn ns hoa ho
 have L : Le g (put g a oa) := .put gn oa
 refine (mx14 (put g a oa) (⟨L, fun b o' q n => q, fun b o' q => ⟨o', q⟩, fun b _ _ n => ?_, fun b _ _ n q => ?_, rfl, rfl⟩) ⟨fun b o q => L _ _ (x.base b o q), fun b o q => ?_, fun b v' o' q => ?_⟩ ?_ L)
 · simp only [del]; split <;> first | rfl | exact n
 · have : b ≠ a := fun z => by rw [z, e] at n; cases n
   rw [put_ne _ _ this]; exact q
 · by_cases z : b = a
   · subst z; rw [put_same] at q; cases q; exact hoa
   · rw [put_ne _ _ z] at q; exact x.sub _ _ q
 · have z : b ≠ a := fun z => by simp [del, z] at q
   simp only [del, if_neg z] at q
   refine ob04 (x.own b v' o' q) ?_; rintro p r ho' t
   exact (mx04 (by rw [put_ne _ _ z]; exact p) r ho' (t.mono L))
 · cases ho with
   | lst hs => exact .lst (put_same ..) rfl rfl (hs.mono L)
   | dct hd => exact .dct ns (put_same ..) (hd.mono L)
end Mine
namespace Mine
variable {C : Cx}
inductive Slot where
 | un
 | val (v : V)
 | fn
 | bi (u : Value)
 | con (v : V)
noncomputable abbrev Vars := List (Str × Slot)
noncomputable def IsFn (C : Cx) (x : Str) : Prop := ∃ a o fd, C.mg x = some (.ref a) ∧ C.h₀.get? a = some o ∧ o.data = .func fd
noncomputable def Own (env : Env) (x : Str) : Prop := env.kindOf x = some .local ∨ (env.kindOf x = some .cell ∧ ∃ c, env.cells.lookup x = some c)
noncomputable def GlIs (C : Cx) (x : Str) : Slot → Prop
 | .fn => IsFn C x
 | .bi u => C.mg x = none ∧ C.mb x = some u
 | .con v => ∃ u, C.mg x = some u ∧ ∀ g : Fz, (∀ a o, C.h₀.get? a = some o → g a = some o) → VR g v u
 | _ => False
noncomputable def SlotOk (C : Cx) (env : Env) (x : Str) : Slot → Prop
 | .un => Own env x
 | .val _ => Own env x
 | s => env.kindOf x = some .globalImplicit ∧ GlIs C x s
structure FR (C : Cx) (env : Env) (e : Vars) (g : Fz) (σ : Sg) (h : Heap) : Prop where
 kind : env.scope.kind = .function
 globals : env.globals = mainGlobals
 builtins : env.builtins = builtinsNs
 nd : (e.map (·.1)).Nodup
 dbg : ∀ x ∈ e.map (·.1), (x == ("__debug__" : Str)) = false
 kinds : ∀ x t, (x, t) ∈ e → SlotOk C env x t
 ns : ∃ m, h.Ns env.locals m ∧ ∀ x v, (x, .val v) ∈ e →
   (env.kindOf x = some .local → ∃ u, m x = some u ∧ VR g v u) ∧ (∀ c, env.kindOf x = some .cell → env.cells.lookup x = some c → ∃ u, h.IsCell c (some u) ∧ VR g v u)
 loc : σ env.locals = none ∧ g env.locals = none
 cell : ∀ x c, env.cells.lookup x = some c → σ c = none ∧ g c = none ∧ c ≠ env.locals ∧ ∃ v, h.IsCell c v
 apart : ∀ x y c, env.cells.lookup x = some c → env.cells.lookup y = some c → x = y
theorem Heap.IsCell.of {h h' : Heap} {c : Addr} {v : Option Value} (x : h.IsCell c v) (k : ∀ o, h.get? c = some o → h'.get? c = some o) : h'.IsCell c v :=
 let ⟨o, ho, hd⟩ := x; ⟨o, k o ho, hd⟩
theorem FR.ext {env : Env} {e : Vars} {g g' : Fz} {σ σ' : Sg} {s s' : Shared} (F : FR C env e g σ s.heap) (X : Ext g σ s g' σ' s') : FR C env e g' σ' s'.heap := by
 obtain ⟨k, gl, bu, nd, db, ki, ⟨m, hn, hv⟩, lo, ce, ap⟩ := F
 obtain ⟨oL, hL⟩ : ∃ o, s.heap.get? env.locals = some o := let ⟨o, _, _, q, _⟩ := hn; ⟨o, q⟩
 refine ⟨k, gl, bu, nd, db, ki, (mx12 m (hn.at' fun o q => X.keep _ o q lo.1) (fun x v hx => ⟨fun hl => ?_, fun c hc hcl => ?_⟩)), ⟨X.sig _ _ hL lo.1, X.frz _ _ hL lo.1 lo.2⟩, fun x c hc => ?_, ap⟩
 · refine ob12 ((hv x v hx).1 hl) ?_; rintro u a b; exact (mx12 u a (b.mono X.le))
 · refine ob12 ((hv x v hx).2 c hc hcl) ?_; rintro u a b
   exact (mx12 u (Heap.IsCell.of a fun o q => X.keep _ o q (ce x c hcl).1) (b.mono X.le))
 · refine ob04 (ce x c hc) ?_; rintro a b d z1; refine ob11 z1 ?_; clear z1; rintro v i
   refine ob12 (id i) ?_; rintro oc hoc _
   exact ⟨X.sig _ _ hoc a, X.frz _ _ hoc a b, d, v, Heap.IsCell.of i fun o q => X.keep _ o q a⟩
inductive Pst (C : Cx) (g : Fz) (σ : Sg) (s : Shared) (Q : V → Sg → Prop) (u : Value) (s' : Shared) : Prop
 | mk (g' : Fz) (v : V) (σ' : Sg) (X : Ext g σ s g' σ' s') (S : SR C g' σ' s'.heap) (W : VR g' v u) (q : Q v σ') : Pst C g σ s Q u s'
noncomputable abbrev noE : Value → Shared → Prop := fun _ _ => False
noncomputable def EV (C : Cx) (n : Nat) (env : Env) (e : Vars) (t : Sem Value) (σ : Sg) (Q : V → Sg → Prop) : Prop :=
 ∀ A g s, Room A n → SR C g σ s.heap → FR C env e g σ s.heap → wpAny (model C.prog C.w) A t (Pst C g σ s Q) noE s
noncomputable abbrev EE (C : Cx) (n : Nat) (env : Env) (e : Vars) (x : Expr) (σ : Sg) (Q : V → Sg → Prop) : Prop := EV C n env e (eval x env) σ Q
noncomputable def Op1 (C : Cx) (n : Nat) (f : Value → Sem Value) (a : V) (σ : Sg) (Q : V → Sg → Prop) : Prop :=
 ∀ A g s u, Room A n → SR C g σ s.heap → VR g a u → wpAny (model C.prog C.w) A (f u) (Pst C g σ s Q) noE s
noncomputable def Op2 (C : Cx) (n : Nat) (f : Value → Value → Sem Value) (a b : V) (σ : Sg) (Q : V → Sg → Prop) : Prop :=
 ∀ A g s u v, Room A n → SR C g σ s.heap → VR g a u → VR g b v → wpAny (model C.prog C.w) A (f u v) (Pst C g σ s Q) noE s
inductive PstB (C : Cx) (g : Fz) (σ : Sg) (s : Shared) (Q : Bool → Sg → Prop) (b : Bool) (s' : Shared) : Prop
 | mk (g' : Fz) (σ' : Sg) (X : Ext g σ s g' σ' s') (S : SR C g' σ' s'.heap) (q : Q b σ') : PstB C g σ s Q b s'
noncomputable def TE (C : Cx) (n : Nat) (env : Env) (e : Vars) (x : Expr) (σ : Sg) (Q : Bool → Sg → Prop) : Prop :=
 ∀ A g s, Room A n → SR C g σ s.heap → FR C env e g σ s.heap → wpAny (model C.prog C.w) A (isTrue x env (eval x env)) (PstB C g σ s Q) noE s
theorem Pst.then {g g₁ : Fz} {σ σ₁ : Sg} {s s₁ : Shared} {Q : V → Sg → Prop} (X : Ext g σ s g₁ σ₁ s₁) {u s'} (h : Pst C g₁ σ₁ s₁ Q u s') : Pst C g σ s Q u s' := by
 obtain ⟨g', v, σ', Y, S, V, q⟩ := h
 exact ⟨g', v, σ', X.trans Y, S, V, q⟩
theorem PstB.then {g g₁ : Fz} {σ σ₁ : Sg} {s s₁ : Shared} {Q : Bool → Sg → Prop} (X : Ext g σ s g₁ σ₁ s₁) {u s'} (h : PstB C g₁ σ₁ s₁ Q u s') : PstB C g σ s Q u s' := by
 obtain ⟨g', σ', Y, S, q⟩ := h
 exact ⟨g', σ', X.trans Y, S, q⟩
section
variable {n : Nat} {env : Env} {e : Vars} {σ : Sg}
theorem EV.mono {t : Sem Value} {Q Q' : V → Sg → Prop} (h : EV C n env e t σ Q) (k : ∀ v σ', Q v σ' → Q' v σ') : EV C n env e t σ Q' := fun A g s R S F =>
 wpAny_mono (h A g s R S F) (fun _ _ h => by obtain ⟨g', v, σ', X, S', V, q⟩ := h; exact ⟨g', v, σ', X, S', V, k _ _ q⟩) fun _ _ x => x
theorem E_name {x : Str} {pos : Pos} {v : V} {Q : V → Sg → Prop} (hx : (x, .val v) ∈ e) (h : Q v σ) : EE C n env e (.Name x pos) σ Q := fun A g s R S F => by
 have hd := F.dbg x (List.mem_map.mpr (mx12 _ hx rfl))
 refine ob12 F.ns ?_; rintro m hn hv
 rcases F.kinds x _ hx with hl | ⟨hc, c, hcl⟩
 · refine ob12 ((hv x v hx).1 hl) ?_; rintro u hu V
   exact wpAny_Name (wpAny_loadName_local F.kind hl hn hu ⟨g, v, σ, .refl .., S, V, h⟩) hd
 · refine ob12 ((hv x v hx).2 c hc hcl) ?_; rintro u hu V
   exact wpAny_Name (wpAny_loadName_cell F.kind hc hcl hu ⟨g, v, σ, .refl .., S, V, h⟩) hd
theorem E_con {x : Str} {pos : Pos} {v : V} {Q : V → Sg → Prop} (hx : (x, .con v) ∈ e) (h : Q v σ) : EE C n env e (.Name x pos) σ Q := fun A g s R S F => by
 have hd := F.dbg x (List.mem_map.mpr (mx12 _ hx rfl))
 refine ob02 (F.kinds x _ hx) ?_; rintro hk z1; refine ob12 z1 ?_; clear z1; rintro u hu V
 refine Calls.Name_function_global F.kind hk (Calls.loadGlobal_global (mg := C.mg) ?_ hu ⟨g, v, σ, .refl .., S, V g S.base, h⟩) hd
 rw [F.globals]; exact C.hg.keeps fun b o q => S.at q
theorem name_fn {M : Model} {A : Around} {E : Value → Shared → Prop} {x : Str} {pos : Pos} {g : Fz} {s : Shared} {a : Addr} {Q : Value → Shared → Prop} (hx : (x, .fn) ∈ e) (S : SR C g σ s.heap) (F : FR C env e g σ s.heap)
   (ha : C.mg x = some (.ref a)) (h : Q (.ref a) s) : wpAny M A (eval (.Name x pos) env) Q E s := by
 have hd := F.dbg x (List.mem_map.mpr (mx12 _ hx rfl))
 refine Calls.Name_function_global F.kind (F.kinds x _ hx).1 (Calls.loadGlobal_global (mg := C.mg) ?_ ha h) hd
 rw [F.globals]; exact C.hg.keeps fun b o q => S.at q
theorem name_bi {M : Model} {A : Around} {E : Value → Shared → Prop} {x : Str} {pos : Pos} {g : Fz} {s : Shared} {u : Value} {Q : Value → Shared → Prop} (hx : (x, .bi u) ∈ e) (S : SR C g σ s.heap) (F : FR C env e g σ s.heap)
   (h : Q u s) : wpAny M A (eval (.Name x pos) env) Q E s := by
 have hd := F.dbg x (List.mem_map.mpr (mx12 _ hx rfl))
 refine ob03 (F.kinds x _ hx) ?_; rintro hk h1 h2
 refine Calls.Name_function_global F.kind hk (Calls.loadGlobal_builtin (mg := C.mg) (mb := C.mb) ?_ h1 ?_ h2 h) hd
 · rw [F.globals]; exact C.hg.keeps fun b o q => S.at q
 · rw [F.builtins]; exact C.hb.keeps fun b o q => S.at q
theorem E_int {i : Int} {k pos} {Q : V → Sg → Prop} (h : Q (.int i) σ) : EE C n env e (.Constant (.int i) k pos) σ Q := fun _ g s _ S _ =>
 wpAny_Constant_int ⟨g, .int i, σ, .toks .., S, .int _ _, h⟩
theorem E_str {x : Str} {k pos} {Q : V → Sg → Prop} (h : Q (.str x) σ) : EE C n env e (.Constant (.str x) k pos) σ Q := fun _ g s _ S _ =>
 Calls.Constant_str ⟨g, .str x, σ, .toks .., S, .str _ _, h⟩
theorem E_bool {b : Bool} {k pos} {Q : V → Sg → Prop} (h : Q (.bool b) σ) : EE C n env e (.Constant (.bool b) k pos) σ Q := fun _ g s _ S _ =>
 wpAny_pure ⟨g, .bool b, σ, .refl .., S, .bool _, h⟩
theorem E_none {k pos} {Q : V → Sg → Prop} (h : Q .none σ) : EE C n env e (.Constant .none k pos) σ Q := fun _ g s _ S _ =>
 wpAny_pure ⟨g, .none, σ, .refl .., S, .none, h⟩
noncomputable abbrev KOp (C : Cx) (n : Nat) (f : Value → Value → Sem Value) (a : V) (Q : V → Sg → Prop) : V → Sg → Prop := fun b σ₂ => Op2 C n f a b σ₂ Q
noncomputable abbrev KArg (C : Cx) (n : Nat) (env : Env) (e : Vars) (r : Expr) (f : Value → Value → Sem Value) (Q : V → Sg → Prop) : V → Sg → Prop := fun a σ₁ => EE C n env e r σ₁ (KOp C n f a Q)
inductive KBool (Q : Bool → Sg → Prop) (v : V) (σ : Sg) : Prop
 | mk (c : Bool) (h : v = .bool c) (q : Q c σ) : KBool Q v σ
noncomputable abbrev KNot (Q : Bool → Sg → Prop) : Bool → Sg → Prop := fun b σ' => Q (!b) σ'
inductive KOr (C : Cx) (n : Nat) (env : Env) (e : Vars) (y : Expr) (Q : Bool → Sg → Prop) (b : Bool) (σ : Sg) : Prop
 | mk (t : b = true → Q true σ) (f : b = false → TE C n env e y σ Q) : KOr C n env e y Q b σ
inductive KAnd (C : Cx) (n : Nat) (env : Env) (e : Vars) (y : Expr) (Q : Bool → Sg → Prop) (b : Bool) (σ : Sg) : Prop
 | mk (t : b = true → TE C n env e y σ Q) (f : b = false → Q false σ) : KAnd C n env e y Q b σ
inductive KIfe (C : Cx) (n : Nat) (env : Env) (e : Vars) (x y : Expr) (Q : V → Sg → Prop) (c : Bool) (σ : Sg) : Prop
 | mk (t : c = true → EE C n env e x σ Q) (f : c = false → EE C n env e y σ Q) : KIfe C n env e x y Q c σ
theorem E_bin {l op r pos} {Q : V → Sg → Prop} (h : EE C n env e l σ (KArg C n env e r (binaryOp op) Q)) : EE C n env e (.BinOp l op r pos) σ Q := fun A g s R S F => by
 refine wpAny_BinOp (wpAny_mono (h A g s R S F) ?_ fun _ _ x => x)
 rintro u s₁ ⟨g₁, a, σ₁, X₁, S₁, Va, h₁⟩
 refine wpAny_mono (h₁ A g₁ s₁ R S₁ (F.ext X₁)) ?_ fun _ _ x => x
 rintro v s₂ ⟨g₂, b, σ₂, X₂, S₂, Vb, h₂⟩
 exact wpAny_mono (h₂ A g₂ s₂ u v R S₂ (Va.mono X₂.le) Vb) (fun _ _ p => (p.then X₂).then X₁) fun _ _ x => x
theorem E_cmp {l op r pos} {Q : V → Sg → Prop} (hm : behindInMarks op r = false) (h : EE C n env e l σ (KArg C n env e r (compareOp op) Q)) :
   EE C n env e (.Compare l [op] [r] pos) σ Q := fun A g s R S F => by
 refine wpAny_Compare1 (wpAny_mono (h A g s R S F) ?_ fun _ _ x => x) hm
 rintro u s₁ ⟨g₁, a, σ₁, X₁, S₁, Va, h₁⟩
 refine wpAny_mono (h₁ A g₁ s₁ R S₁ (F.ext X₁)) ?_ fun _ _ x => x
 rintro v s₂ ⟨g₂, b, σ₂, X₂, S₂, Vb, h₂⟩
 exact wpAny_mono (h₂ A g₂ s₂ u v R S₂ (Va.mono X₂.le) Vb) (fun _ _ p => (p.then X₂).then X₁) fun _ _ x => x
theorem T_cmp {l op r pos} {Q : Bool → Sg → Prop} (hm : behindInMarks op r = false)
   (h : EE C n env e l σ (KArg C n env e r (compareOp op) (KBool Q))) :
   TE C n env e (.Compare l [op] [r] pos) σ Q := fun A g s R S F => by
 refine wpAny_isTrue_Compare1 (wpAny_mono (h A g s R S F) ?_ fun _ _ x => x) hm
 rintro u s₁ ⟨g₁, a, σ₁, X₁, S₁, Va, h₁⟩
 refine wpAny_mono (h₁ A g₁ s₁ R S₁ (F.ext X₁)) ?_ fun _ _ x => x
 rintro v s₂ ⟨g₂, b, σ₂, X₂, S₂, Vb, h₂⟩
 refine wpAny_mono (h₂ A g₂ s₂ u v R S₂ (Va.mono X₂.le) Vb) ?_ fun _ _ x => x
 rintro w s₃ ⟨g₃, b, σ₃, X₃, S₃, Vc, c, rfl, q⟩
 refine Vc.cb ?_
 exact wpAny_truthy_bool ⟨g₃, σ₃, X₁.trans (X₂.trans X₃), S₃, q⟩
theorem T_not {x pos} {Q : Bool → Sg → Prop} (h : TE C n env e x σ (KNot Q)) : TE C n env e (.UnaryOp .Not x pos) σ Q := fun A g s R S F => by
 show wpAny _ A (isTrue x env (eval x env) >>= fun b => pure (!b)) _ _ s
 exact wpAny_bind (wpAny_mono (h A g s R S F) (fun _ _ h => by obtain ⟨g', σ', X, S', q⟩ := h; exact wpAny_pure ⟨g', σ', X, S', q⟩) fun _ _ x => x)
theorem T_or {x y pos} {Q : Bool → Sg → Prop} (h : TE C n env e x σ (KOr C n env e y Q)) : TE C n env e (.BoolOp .Or [x, y] pos) σ Q := fun A g s R S F => by
 show wpAny _ A (isTrue x env (eval x env) >>= _) _ _ s
 refine wpAny_bind (wpAny_mono (h A g s R S F) ?_ fun _ _ x => x)
 rintro b s₁ ⟨g₁, σ₁, X₁, S₁, h1, h2⟩
 cases b with
 | true => exact wpAny_pure ⟨g₁, σ₁, X₁, S₁, h1 rfl⟩
 | false =>
   show wpAny _ A (isTrue y env (eval y env) >>= _) _ _ s₁
   refine wpAny_bind (wpAny_mono (h2 rfl A g₁ s₁ R S₁ (F.ext X₁)) ?_ fun _ _ x => x)
   rintro b s₂ ⟨g₂, σ₂, X₂, S₂, q⟩
   cases b with
   | true => exact wpAny_pure ⟨g₂, σ₂, X₁.trans X₂, S₂, q⟩
   | false => exact wpAny_pure ⟨g₂, σ₂, X₁.trans X₂, S₂, q⟩
theorem T_or3 {x y z pos} {Q : Bool → Sg → Prop} (h : TE C n env e x σ (KOr C n env e (.BoolOp .Or [y, z] pos) Q)) : TE C n env e (.BoolOp .Or [x, y, z] pos) σ Q := fun A g s R S F => by
 show wpAny _ A (isTrue x env (eval x env) >>= _) _ _ s
 refine wpAny_bind (wpAny_mono (h A g s R S F) ?_ fun _ _ x => x)
 rintro b s₁ ⟨g₁, σ₁, X₁, S₁, h1, h2⟩
 cases b with
 | true => exact wpAny_pure ⟨g₁, σ₁, X₁, S₁, h1 rfl⟩
 | false => exact wpAny_mono (h2 rfl A g₁ s₁ R S₁ (F.ext X₁)) (fun _ _ p => p.then X₁) fun _ _ x => x
theorem T_and {x y pos} {Q : Bool → Sg → Prop} (h : TE C n env e x σ (KAnd C n env e y Q)) : TE C n env e (.BoolOp .And [x, y] pos) σ Q := fun A g s R S F => by
 show wpAny _ A (isTrue x env (eval x env) >>= _) _ _ s
 refine wpAny_bind (wpAny_mono (h A g s R S F) ?_ fun _ _ x => x)
 rintro b s₁ ⟨g₁, σ₁, X₁, S₁, h1, h2⟩
 cases b with
 | false => exact wpAny_pure ⟨g₁, σ₁, X₁, S₁, h2 rfl⟩
 | true =>
   show wpAny _ A (isTrue y env (eval y env) >>= _) _ _ s₁
   refine wpAny_bind (wpAny_mono (h1 rfl A g₁ s₁ R S₁ (F.ext X₁)) ?_ fun _ _ x => x)
   rintro b s₂ ⟨g₂, σ₂, X₂, S₂, q⟩
   cases b with
   | true => exact wpAny_pure ⟨g₂, σ₂, X₁.trans X₂, S₂, q⟩
   | false => exact wpAny_pure ⟨g₂, σ₂, X₁.trans X₂, S₂, q⟩
theorem T_call {f as ks pos} {Q : Bool → Sg → Prop} (h : EE C n env e (.Call f as ks pos) σ (KBool Q)) : TE C n env e (.Call f as ks pos) σ Q := fun A g s R S F => by
 show wpAny _ A (eval (.Call f as ks pos) env >>= _) _ _ s
 refine wpAny_bind (wpAny_mono (h A g s R S F) ?_ fun _ _ x => x)
 rintro u s₁ ⟨g₁, v, σ₁, X₁, S₁, V, c, rfl, q⟩
 refine V.cb ?_
 exact wpAny_bind (wpAny_standAt (wpAny_holding (wpAny_truthy_bool ⟨g₁, σ₁, X₁, S₁, q⟩)))
theorem E_ifexp {t b o pos} {Q : V → Sg → Prop} (h : TE C n env e t σ (KIfe C n env e b o Q)) : EE C n env e (.IfExp t b o pos) σ Q := fun A g s R S F => by
 show wpAny _ A (isTrue t env (eval t env) >>= _) _ _ s
 refine wpAny_bind (wpAny_mono (h A g s R S F) ?_ fun _ _ x => x)
 rintro c s₁ ⟨g₁, σ₁, X₁, S₁, h1, h2⟩
 cases c with
 | true => exact wpAny_mono (h1 rfl A g₁ s₁ R S₁ (F.ext X₁)) (fun _ _ p => p.then X₁) fun _ _ x => x
 | false => exact wpAny_mono (h2 rfl A g₁ s₁ R S₁ (F.ext X₁)) (fun _ _ p => p.then X₁) fun _ _ x => x
inductive PstS (C : Cx) (g : Fz) (σ : Sg) (s : Shared) (Q : List V → Sg → Prop) (us : List Value) (s' : Shared) : Prop
 | mk (g' : Fz) (vs : List V) (σ' : Sg) (X : Ext g σ s g' σ' s') (S : SR C g' σ' s'.heap) (W : VRs g' vs us) (q : Q vs σ') : PstS C g σ s Q us s'
noncomputable def EEs (C : Cx) (n : Nat) (env : Env) (e : Vars) (xs : List Expr) (σ : Sg) (Q : List V → Sg → Prop) : Prop :=
 ∀ A g s pos, Room A n → SR C g σ s.heap → FR C env e g σ s.heap → wpAny (model C.prog C.w) A (spliced (backTo pos (starEach xs env))) (PstS C g σ s Q) noE s
theorem starEach_cons {x : Expr} {xs : List Expr} (h : isStarred x = false) : starEach (x :: xs) env = (false, eval x env) :: starEach xs env := by
 cases x <;> first | rfl | (exfalso; cases h)
theorem Es_nil {Q : List V → Sg → Prop} (h : Q [] σ) : EEs C n env e [] σ Q := fun _ g s _ _ S _ =>
 spliced_nil ⟨g, [], σ, .refl .., S, .nil, h⟩
noncomputable abbrev KsC (v : V) (Q : List V → Sg → Prop) : List V → Sg → Prop := fun vs σ₂ => Q (v :: vs) σ₂
noncomputable abbrev KsH (C : Cx) (n : Nat) (env : Env) (e : Vars) (xs : List Expr) (Q : List V → Sg → Prop) : V → Sg → Prop := fun v σ₁ => EEs C n env e xs σ₁ (KsC v Q)
inductive KTup (Q : V → Sg → Prop) (vs : List V) (σ : Sg) : Prop
 | mk (h : vs.length ≤ sizeLine) (q : Q (.tup vs) σ) : KTup Q vs σ
inductive KLst (Q : V → Sg → Prop) (vs : List V) (σ : Sg) : Prop
 | mk (h : vs.length ≤ sizeLine) (q : Q (.lst vs) σ) : KLst Q vs σ
theorem Es_cons {x : Expr} {xs : List Expr} {Q : List V → Sg → Prop} (hs : isStarred x = false) (h : EE C n env e x σ (KsH C n env e xs Q)) : EEs C n env e (x :: xs) σ Q := fun A g s pos R S F => by
 rw [starEach_cons hs]
 refine spliced_cons (wpAny_mono (h A g s R S F) ?_ fun _ _ x => x)
 rintro u s₁ ⟨g₁, v, σ₁, X₁, S₁, V₁, h₁⟩
 refine wpAny_mono (h₁ A g₁ s₁ pos R S₁ (F.ext X₁)) ?_ fun _ _ x => x
 rintro us s₂ ⟨g₂, vs, σ₂, X₂, S₂, V₂, h₂⟩
 exact ⟨g₂, v :: vs, σ₂, X₁.trans X₂, S₂, .cons (V₁.mono X₂.le) V₂, h₂⟩
theorem E_tuple {xs k pos} {Q : V → Sg → Prop} (h : EEs C n env e xs σ (KTup Q)) : EE C n env e (.Tuple xs k pos) σ Q := fun A g s R S F => by
 refine PyProof.Rows.Tuple_ (wpAny_mono (h A g s pos R S F) ?_ fun _ _ x => x)
 rintro us s₁ ⟨g₁, vs, σ₁, X₁, S₁, V₁, hl, q⟩
 refine ob03 (S₁.new { cls := .type "tuple", data := .seq us.toArray } rfl s₁.toks) ?_; rintro X₂ S₂ p
 refine wpAny_newObj_type ⟨_, .tup vs, _, X₁.trans X₂, S₂, .tup p rfl rfl (V₁.mono X₂.le), q⟩ ?_
 show us.toArray.size ≤ sizeLine
 rw [List.size_toArray, ← V₁.length]; exact hl
theorem E_list {xs pos} {Q : V → Sg → Prop} (h : EEs C n env e xs σ (KLst Q)) : EE C n env e (.List xs pos) σ Q := fun A g s R S F => by
 refine PyProof.Rows.List_ (wpAny_mono (h A g s pos R S F) ?_ fun _ _ x => x)
 rintro us s₁ ⟨g₁, vs, σ₁, X₁, S₁, V₁, hl, q⟩
 refine ob03 (S₁.new { cls := .type "list", data := .seq us.toArray } rfl s₁.toks) ?_; rintro X₂ S₂ p
 refine wpAny_newObj_type ⟨_, .lst vs, _, X₁.trans X₂, S₂, .lst p rfl rfl (V₁.mono X₂.le), q⟩ ?_
 show us.toArray.size ≤ sizeLine
 rw [List.size_toArray, ← V₁.length]; exact hl
theorem E_list_own {xs pos} {Q : V → Sg → Prop} (h : EEs C n env e xs σ fun vs σ' => vs.length ≤ sizeLine ∧ ∀ a o, σ' a = none → Q (.ref a) (upd σ' a (.lst vs) o)) : EE C n env e (.List xs pos) σ Q := fun A g s R S F => by
 refine PyProof.Rows.List_ (wpAny_mono (h A g s pos R S F) ?_ fun _ _ x => x)
 rintro us s₁ ⟨g₁, vs, σ₁, X₁, S₁, V₁, hl, q⟩
 refine ob03 (S₁.newOwn (v := .lst vs) { cls := .type "list", data := .seq us.toArray } rfl (.lst V₁) s₁.toks) ?_; rintro p X₂ S₂
 refine wpAny_newObj_type ⟨_, .ref _, _, X₁.trans X₂, S₂, .ref _, q _ _ p⟩ ?_
 show us.toArray.size ≤ sizeLine
 rw [List.size_toArray, ← V₁.length]; exact hl
end
end Mine
namespace Mine
variable {C : Cx}
inductive Up : Vars → Str → V → Vars → Prop
 | un {x e v} : Up ((x, .un) :: e) x v ((x, .val v) :: e)
 | val {x w e v} : Up ((x, .val w) :: e) x v ((x, .val v) :: e)
 | there {p e x v e'} : Up e x v e' → Up (p :: e) x v (p :: e')
theorem Up.names {e x v e'} (h : Up e x v e') : e'.map (·.1) = e.map (·.1) := by
 induction h with
 | un => rfl
 | val => rfl
 | there _ ih => simp only [List.map_cons, ih]
theorem Up.mem {e x v e'} (h : Up e x v e') : x ∈ e.map (·.1) := by
 induction h with
 | un => exact List.mem_cons_self
 | val => exact List.mem_cons_self
 | there _ ih => exact List.mem_cons_of_mem _ ih
theorem Up.own {e x v e'} (h : Up e x v e') {env : Env} (k : ∀ x t, (x, t) ∈ e → SlotOk C env x t) : Own env x := by
 induction h with
 | un => exact k _ _ List.mem_cons_self
 | val => exact k _ _ List.mem_cons_self
 | there _ ih => exact ih fun x t m => k x t (List.mem_cons_of_mem _ m)
theorem Up.kinds {e x v e'} (h : Up e x v e') {env : Env} (k : ∀ x t, (x, t) ∈ e → SlotOk C env x t) : ∀ x t, (x, t) ∈ e' → SlotOk C env x t := by
 have ho := h.own k
 induction h with
 | @un x e v =>
   intro y t m
   rcases List.mem_cons.mp m with q | q
   · cases q; exact ho
   · exact k y t (List.mem_cons_of_mem _ q)
 | @val x w e v =>
   intro y t m
   rcases List.mem_cons.mp m with q | q
   · cases q; exact ho
   · exact k y t (List.mem_cons_of_mem _ q)
 | @there p e x v e' h ih =>
   intro y t m
   rcases List.mem_cons.mp m with q | q
   · exact k y t (by rw [q]; exact List.mem_cons_self)
   · exact ih (fun x t m => k x t (List.mem_cons_of_mem _ m)) ho y t q
theorem Up.cases {e x v e'} (h : Up e x v e') (nd : (e.map (·.1)).Nodup) {y w} (hm : (y, .val w) ∈ e') : (y = x ∧ w = v) ∨ (y ≠ x ∧ (y, .val w) ∈ e) := by
 have here : ∀ {x e v} {o : Slot}, ((x, o) :: e : Vars).map (·.1) |>.Nodup → (y, Slot.val w) ∈ ((x, .val v) :: e : Vars) → (y = x ∧ w = v) ∨ (y ≠ x ∧ (y, Slot.val w) ∈ ((x, o) :: e : Vars)) := by
   intro x e v o nd hm
   rcases List.mem_cons.mp hm with q | q
   · cases q; exact .inl ⟨rfl, rfl⟩
   · refine .inr ⟨fun z => ?_, List.mem_cons_of_mem _ q⟩
     rw [List.map_cons, List.nodup_cons] at nd
     exact nd.1 (z ▸ List.mem_map.mpr (mx12 _ q rfl))
 induction h with
 | un => exact here nd hm
 | val => exact here nd hm
 | @there p e x v e' h ih =>
   rw [List.map_cons, List.nodup_cons] at nd
   rcases List.mem_cons.mp hm with q | q
   · refine .inr ⟨fun z => ?_, by rw [q]; exact List.mem_cons_self⟩
     have := h.mem
     rw [← z] at this
     exact nd.1 (by rw [← q]; exact this)
   · exact (ih nd.2 q).imp id fun ⟨a, b⟩ => ⟨a, List.mem_cons_of_mem _ b⟩
noncomputable def Foot (env : Env) (a : Addr) : Prop := a = env.locals ∨ ∃ x, env.cells.lookup x = some a
structure ExtF (F : Addr → Prop) (g : Fz) (σ : Sg) (s : Shared) (g' : Fz) (σ' : Sg) (s' : Shared) : Prop where
 le : Le g g'
 keep : ∀ a o, s.heap.get? a = some o → σ a = none → ¬ F a → s'.heap.get? a = some o
 alive : ∀ a o, s.heap.get? a = some o → ∃ o', s'.heap.get? a = some o'
 sig : ∀ a o, s.heap.get? a = some o → σ a = none → σ' a = none
 frz : ∀ a o, s.heap.get? a = some o → σ a = none → g a = none → g' a = none
 gens : s'.gens = s.gens
 os : s'.os = s.os
theorem Ext.toF {g σ s g' σ' s'} (F) (x : Ext g σ s g' σ' s') : ExtF F g σ s g' σ' s' := ⟨x.le, fun a o e n _ => x.keep a o e n, x.alive, x.sig, x.frz, x.gens, x.os⟩
theorem ExtF.trans {F} {g g' g'' : Fz} {σ σ' σ'' : Sg} {s s' s'' : Shared} (x : ExtF F g σ s g' σ' s') (y : ExtF F g' σ' s' g'' σ'' s'') : ExtF F g σ s g'' σ'' s'' where
 le := x.le.trans y.le
 keep := fun a o e n f => y.keep a o (x.keep a o e n f) (x.sig a o e n) f
 alive := fun a o e => let ⟨o', e'⟩ := x.alive a o e; y.alive a o' e'
 sig := fun a o e n => let ⟨o', e'⟩ := x.alive a o e; y.sig a o' e' (x.sig a o e n)
 frz := fun a o e n k => let ⟨o', e'⟩ := x.alive a o e; y.frz a o' e' (x.sig a o e n) (x.frz a o e n k)
 gens := y.gens.trans x.gens
 os := y.os.trans x.os
inductive Fl where
 | next | brk | cont
 | ret (v : V)
inductive FlR (g : Fz) : Fl → Flow → Prop
 | next : FlR g .next .next
 | brk : FlR g .brk .brk
 | cont : FlR g .cont .cont
 | ret {v u} : VR g v u → FlR g (.ret v) (.ret u)
inductive PstF (C : Cx) (env : Env) (g : Fz) (σ : Sg) (s : Shared) (Q : Fl → Vars → Sg → Prop) (f : Flow) (s' : Shared) : Prop
 | mk (g' : Fz) (fl : Fl) (e' : Vars) (σ' : Sg) (X : ExtF (Foot env) g σ s g' σ' s') (S : SR C g' σ' s'.heap) (F : FR C env e' g' σ' s'.heap) (W : FlR g' fl f) (q : Q fl e' σ') : PstF C env g σ s Q f s'
noncomputable def SX (C : Cx) (n : Nat) (env : Env) (e : Vars) (t : Sem Flow) (σ : Sg) (Q : Fl → Vars → Sg → Prop) : Prop :=
 ∀ A g s, Room A n → SR C g σ s.heap → FR C env e g σ s.heap → wpAny (model C.prog C.w) A t (PstF C env g σ s Q) noE s
noncomputable abbrev SB (C : Cx) (n : Nat) (env : Env) (e : Vars) (b : List Stmt) (σ : Sg) (Q : Fl → Vars → Sg → Prop) : Prop := SX C n env e (execs b env) σ Q
noncomputable abbrev SS (C : Cx) (n : Nat) (env : Env) (e : Vars) (b : Stmt) (σ : Sg) (Q : Fl → Vars → Sg → Prop) : Prop := SX C n env e (exec b env) σ Q
theorem PstF.then {env : Env} {g g₁ : Fz} {σ σ₁ : Sg} {s s₁ : Shared} {Q : Fl → Vars → Sg → Prop} (X : ExtF (Foot env) g σ s g₁ σ₁ s₁) {u s'} (h : PstF C env g₁ σ₁ s₁ Q u s') : PstF C env g σ s Q u s' := by
 obtain ⟨g', fl, e', σ', Y, a, b, c, d⟩ := h
 exact ⟨g', fl, e', σ', X.trans Y, a, b, c, d⟩
section
variable {n : Nat} {env : Env} {e : Vars} {σ : Sg} {A : Around} {g : Fz} {s : Shared}
theorem SX.mono {t : Sem Flow} {Q Q' : Fl → Vars → Sg → Prop} (h : SX C n env e t σ Q) (k : ∀ f e' σ', Q f e' σ' → Q' f e' σ') : SX C n env e t σ Q' := fun A g s R S F =>
 wpAny_mono (h A g s R S F) (fun _ _ h => by obtain ⟨g', fl, e', σ', X, S', F', V, q⟩ := h; exact ⟨g', fl, e', σ', X, S', F', V, k _ _ _ q⟩) fun _ _ x => x
theorem SR.frame {env : Env} {e : Vars} {h h' : Heap} {b : Addr} (S : SR C g σ h) (hs : Heap.SameBut b h h') (hb : σ b = none) (gb : g b = none) : SR C g σ h' where
 base := S.base
 sub := fun a o e => (hs.2 a (fun q => by rw [q, gb] at e; cases e)).trans (S.sub a o e)
 own := fun a v o q => by
   refine ob04 (S.own a v o q) ?_; rintro x y ho r
   exact (mx04 x y ((hs.2 a (fun z => by rw [z, hb] at q; cases q)).trans ho) r)
theorem sb_alive {h h' : Heap} {b : Addr} (hs : Heap.SameBut b h h' ∧ ∃ o, h'.get? b = some o) : ∀ a o, h.get? a = some o → ∃ o', h'.get? a = some o' := fun a o e => by
 by_cases q : a = b
 · rw [q]; exact hs.2
 · exact ⟨o, (hs.1.2 a q).trans e⟩
theorem store_ {M : Model} {E : Value → Shared → Prop} {x : Str} {v : V} {u : Value} {e' : Vars} {Q : Unit → Shared → Prop} (S : SR C g σ s.heap) (F : FR C env e g σ s.heap) (V : VR g v u) (hU : Up e x v e')
   (h : ∀ s', ExtF (Foot env) g σ s g σ s' → SR C g σ s'.heap → FR C env e' g σ s'.heap → Q () s') : wpAny M A (storeName env x u) Q E s := by
 refine ob12 F.ns ?_; rintro m hn hv
 rcases hU.own F.kinds with hl | ⟨hc, c, hcl⟩
 · refine wpAny_storeName_local hl hn (fun h' hn' hs => h _ ⟨.refl _, fun a o q n f => (hs.2 a (fun z => f (.inl z))).trans q, sb_alive ⟨hs, (let ⟨o, _, _, q, _⟩ := hn'; ⟨o, q⟩)⟩, fun _ _ _ q => q, fun _ _ _ _ q => q, rfl, rfl⟩ (S.frame (env := env) (e := e) hs F.loc.1 F.loc.2) ?_) (by rw [F.kind]; rfl)
   refine ⟨F.kind, F.globals, F.builtins, by rw [hU.names]; exact F.nd, by rw [hU.names]; exact F.dbg, hU.kinds F.kinds, (mx12 _ hn' (fun y w hy => ?_)), F.loc, fun y c hc => ?_, F.apart⟩
   · rcases hU.cases F.nd hy with ⟨rfl, rfl⟩ | ⟨ne, hy⟩
     · exact ⟨fun _ => (mx12 u (by simp) V), fun c hc => by rw [hl] at hc; (exfalso; cases hc)⟩
     · refine ⟨fun hl' => ?_, fun c hc hcl => ?_⟩
       · refine ob12 ((hv y w hy).1 hl') ?_; rintro u' a b
         exact (mx12 u' (by simp [ne, a]) b)
       · refine ob12 ((hv y w hy).2 c hc hcl) ?_; rintro u' a b
         exact (mx12 u' (a.sameBut hs (F.cell y c hcl).2.2.1) b)
   · refine ob04 (F.cell y c hc) ?_; rintro a b d z1; refine ob11 z1 ?_; clear z1; rintro v' i
     exact ⟨a, b, d, v', i.sameBut hs d⟩
 · refine ob04 (F.cell x c hcl) ?_; rintro c1 c2 c3 z1; refine ob11 z1 ?_; clear z1; rintro v₀ ci
   refine wpAny_storeName_cell F.kind hc hcl ci fun h' hc' hs => h _ ⟨.refl _, fun a o q n f => (hs.2 a (fun z => f (.inr ⟨x, z ▸ hcl⟩))).trans q, sb_alive ⟨hs, (let ⟨o, q, _⟩ := hc'; ⟨o, q⟩)⟩, fun _ _ _ q => q, fun _ _ _ _ q => q, rfl, rfl⟩ (S.frame (env := env) (e := e) hs c1 c2) ?_
   refine ⟨F.kind, F.globals, F.builtins, by rw [hU.names]; exact F.nd, by rw [hU.names]; exact F.dbg, hU.kinds F.kinds, (mx12 m (hn.sameBut hs (Ne.symm c3)) (fun y w hy => ?_)), F.loc, fun y d hd => ?_, F.apart⟩
   · rcases hU.cases F.nd hy with ⟨rfl, rfl⟩ | ⟨ne, hy⟩
     · exact ⟨fun hl => (by rw [hl] at hc; (exfalso; cases hc)), fun d _ hd => (by rw [hcl] at hd; cases hd; exact (mx12 u hc' V))⟩
     · refine ⟨fun hl' => (hv y w hy).1 hl', fun d hd hdl => ?_⟩
       refine ob12 ((hv y w hy).2 d hd hdl) ?_; rintro u' a b
       exact (mx12 u' (a.sameBut hs fun z => ne (F.apart y x c (z ▸ hdl) hcl)) b)
   · refine ob04 (F.cell y d hd) ?_; rintro a b k z1; refine ob11 z1 ?_; clear z1; rintro v' i
     refine (mx04 a b k ?_)
     by_cases z : d = c
     · subst z; exact ⟨_, hc'⟩
     · exact ⟨v', i.sameBut hs z⟩
theorem S_nil {Q : Fl → Vars → Sg → Prop} (h : Q .next e σ) : SB C n env e [] σ Q := fun A g s R S F =>
 wpAny_execs_nil ⟨g, .next, e, σ, (Ext.refl ..).toF _, S, F, .next, h⟩
noncomputable abbrev KSeq (C : Cx) (n : Nat) (env : Env) (rest : List Stmt) (Q : Fl → Vars → Sg → Prop) : Fl → Vars → Sg → Prop := fun fl e₁ σ₁ => match fl with | .next => SB C n env e₁ rest σ₁ Q | fl => Q fl e₁ σ₁
noncomputable abbrev KRet (e : Vars) (Q : Fl → Vars → Sg → Prop) : V → Sg → Prop := fun v σ' => Q (.ret v) e σ'
inductive KAsg (x : Str) (e : Vars) (Q : Fl → Vars → Sg → Prop) (v : V) (σ : Sg) : Prop
 | mk (e' : Vars) (u : Up e x v e') (q : Q .next e' σ) : KAsg x e Q v σ
inductive KIf (C : Cx) (n : Nat) (env : Env) (e : Vars) (b o : List Stmt) (Q : Fl → Vars → Sg → Prop) (c : Bool) (σ : Sg) : Prop
 | mk (t : c = true → SB C n env e b σ Q) (f : c = false → SB C n env e o σ Q) : KIf C n env e b o Q c σ
noncomputable abbrev KAug (C : Cx) (n : Nat) (x : Str) (e : Vars) (f : Value → Value → Sem Value) (a : V) (Q : Fl → Vars → Sg → Prop) : V → Sg → Prop := fun v σ₁ => Op2 C n f a v σ₁ (KAsg x e Q)
theorem S_cons {st rest} {Q : Fl → Vars → Sg → Prop} (h : SS C n env e st σ (KSeq C n env rest Q)) : SB C n env e (st :: rest) σ Q := fun A g s R S F => by
 refine wpAny_execs_cons (wpAny_mono (h A g s R S F) ?_ fun _ _ x => x)
 rintro f s₁ ⟨g₁, fl, e₁, σ₁, X₁, S₁, F₁, V, q⟩
 cases V with
 | next => exact wpAny_mono (q A g₁ s₁ R S₁ F₁) (fun _ _ p => p.then X₁) fun _ _ x => x
 | brk => exact ⟨g₁, .brk, e₁, σ₁, X₁, S₁, F₁, .brk, q⟩
 | cont => exact ⟨g₁, .cont, e₁, σ₁, X₁, S₁, F₁, .cont, q⟩
 | ret V => exact ⟨g₁, .ret _, e₁, σ₁, X₁, S₁, F₁, .ret V, q⟩
theorem FR.extT {g' : Fz} {σ' : Sg} {s' : Shared} (F : FR C env e g σ s.heap) (X : Ext g σ s g' σ' s') : FR C env e g' σ' s'.heap := F.ext X
theorem S_ret {x pos} {Q : Fl → Vars → Sg → Prop} (h : EE C n env e x σ (KRet e Q)) : SS C n env e (.Return (some x) pos) σ Q := fun A g s R S F => by
 refine wpAny_Return_some (wpAny_mono (h A g s R S F) ?_ fun _ _ x => x)
 rintro u s₁ ⟨g₁, v, σ₁, X₁, S₁, V, q⟩
 exact ⟨g₁, .ret v, e, σ₁, X₁.toF _, S₁, F.ext X₁, .ret V, q⟩
theorem S_cont {pos} {Q : Fl → Vars → Sg → Prop} (h : Q .cont e σ) : SS C n env e (.Continue pos) σ Q := fun A g s R S F =>
 wpAny_bind (wpAny_standAt (wpAny_pure ⟨g, .cont, e, σ, (Ext.refl ..).toF _, S, F, .cont, h⟩))
theorem S_if {t b o pos} {Q : Fl → Vars → Sg → Prop} (h : TE C n env e t σ (KIf C n env e b o Q)) : SS C n env e (.If t b o pos) σ Q := fun A g s R S F => by
 refine wpAny_If (wpAny_mono (h A g s R S F) ?_ fun _ _ x => x)
 rintro c s₁ ⟨g₁, σ₁, X₁, S₁, h1, h2⟩
 cases c with
 | true => exact wpAny_mono (h1 rfl A g₁ s₁ R S₁ (F.ext X₁)) (fun _ _ p => p.then (X₁.toF _)) fun _ _ x => x
 | false => exact wpAny_mono (h2 rfl A g₁ s₁ R S₁ (F.ext X₁)) (fun _ _ p => p.then (X₁.toF _)) fun _ _ x => x
theorem S_assign {x px value pos} {Q : Fl → Vars → Sg → Prop} (hs : swapsWith value (some (.Name x px)) pos.line env = pure false)
   (h : EE C n env e value σ (KAsg x e Q)) : SS C n env e (.Assign [.Name x px] value pos) σ Q := fun A g s R S F => by
 refine wpAny_Assign_Name (wpAny_mono (h A g s R S F) ?_ fun _ _ x => x) hs
 rintro u s₁ ⟨g₁, v, σ₁, X₁, S₁, V, e', hU, q⟩
 exact store_ S₁ (F.ext X₁) V hU fun s' X' S' F' => ⟨g₁, .next, e', σ₁, (X₁.toF _).trans X', S', F', .next, q⟩
theorem S_aug {x px op value pos} {v₀ : V} {Q : Fl → Vars → Sg → Prop} (hx : (x, .val v₀) ∈ e)
   (h : EE C n env e value σ (KAug C n x e (inplaceOp op) v₀ Q)) : SS C n env e (.AugAssign (.Name x px) op value pos) σ Q := fun A g s R S F => by
 refine ob12 F.ns ?_; rintro m hn hv
 have go : ∀ u, VR g v₀ u → wpAny (model C.prog C.w) A (eval value env) (fun v s₂ => wpAny (model C.prog C.w) A (inplaceOp op u v) (fun r s₃ => wpAny (model C.prog C.w) A (storeName env x r) (fun _ => PstF C env g σ s Q .next) noE s₃) noE s₂) noE s := by
   intro u V
   refine wpAny_mono (h A g s R S F) ?_ fun _ _ x => x
   rintro uv s₁ ⟨g₁, v, σ₁, X₁, S₁, V₁, h₁⟩
   refine wpAny_mono (h₁ A g₁ s₁ u uv R S₁ (V.mono X₁.le) V₁) ?_ fun _ _ x => x
   rintro ur s₂ ⟨g₂, w, σ₂, X₂, S₂, V₂, e', hU, q⟩
   exact store_ S₂ (F.ext (X₁.trans X₂)) V₂ hU fun s' X' S' F' => ⟨g₂, .next, e', σ₂, ((X₁.trans X₂).toF _).trans X', S', F', .next, q⟩
 refine wpAny_AugAssign_Name ?_
 rcases F.kinds x _ hx with hl | ⟨hc, c, hcl⟩
 · refine ob12 ((hv x v₀ hx).1 hl) ?_; rintro u hu V
   exact wpAny_loadName_local F.kind hl hn hu (go u V)
 · refine ob12 ((hv x v₀ hx).2 c hc hcl) ?_; rintro u hu V
   exact wpAny_loadName_cell F.kind hc hcl hu (go u V)
theorem S_expr {x pos} {Q : Fl → Vars → Sg → Prop} (hi : interactive env = false) (hs : swapsWith x none pos.line env = pure false)
   (h : EE C n env e x σ fun v σ' => v = .none ∧ Q .next e σ') : SS C n env e (.Expr x pos) σ Q := fun A g s R S F => by
 refine wpAny_Expr (wpAny_mono (h A g s R S F) ?_ fun _ _ x => x) hi hs
 rintro u s₁ ⟨g₁, v, σ₁, X₁, S₁, V, rfl, q⟩
 refine V.cn ?_
 exact ⟨g₁, .next, e, σ₁, X₁.toF _, S₁, F.ext X₁, .next, q⟩
end
inductive Sub (a : Addr) (v : V) : Vars → Vars → Prop
 | nil : Sub a v [] []
 | same {p e e'} : Sub a v e e' → Sub a v (p :: e) (p :: e')
 | hit {x e e'} : Sub a v e e' → Sub a v ((x, .val (.ref a)) :: e) ((x, .val v) :: e')
theorem Sub.names {a v e e'} (h : Sub a v e e') : e'.map (·.1) = e.map (·.1) := by
 induction h with
 | nil => rfl
 | same _ ih => simp [ih]
 | hit _ ih => simp [ih]
theorem Sub.mem {a v e e'} (h : Sub a v e e') {x t} (hm : (x, t) ∈ e') : (x, t) ∈ e ∨ ((x, .val (.ref a)) ∈ e ∧ t = .val v) := by
 induction h with
 | nil => (exfalso; cases hm)
 | @same p e e' _ ih =>
   rcases List.mem_cons.mp hm with q | q
   · exact .inl (by rw [q]; exact List.mem_cons_self)
   · exact (ih q).imp (List.mem_cons_of_mem _) fun ⟨a, b⟩ => ⟨List.mem_cons_of_mem _ a, b⟩
 | @hit y e e' _ ih =>
   rcases List.mem_cons.mp hm with q | q
   · cases q; exact .inr ⟨List.mem_cons_self, rfl⟩
   · exact (ih q).imp (List.mem_cons_of_mem _) fun ⟨a, b⟩ => ⟨List.mem_cons_of_mem _ a, b⟩
theorem FR.freeze {env : Env} {e e' : Vars} {g g' : Fz} {σ : Sg} {s : Shared} {a : Addr} {v : V} (F : FR C env e g σ s.heap) (X : Ext g σ s g' (del σ a) s) (V : VR g' v (.ref a)) (hS : Sub a v e e') : FR C env e' g' (del σ a) s.heap := by
 have F' := F.ext X
 refine ob12 F'.ns ?_; rintro m hn hv
 refine ⟨F'.kind, F'.globals, F'.builtins, by rw [hS.names]; exact F'.nd, by rw [hS.names]; exact F'.dbg, fun x t hm => (hS.mem hm).elim (F'.kinds x t) (fun ⟨q, e⟩ => by rw [e]; exact (F'.kinds x (.val (.ref a)) q : Own env x)), (mx12 m hn (fun x w hx => ?_)), F'.loc, F'.cell, F'.apart⟩
 rcases hS.mem hx with q | ⟨q, q'⟩
 · exact hv x w q
 · cases q'; refine ⟨fun hl => ?_, fun c hc hcl => ?_⟩
   · refine ob12 ((hv x _ q).1 hl) ?_; rintro u hu r
     cases r; exact (mx12 _ hu V)
   · refine ob12 ((hv x _ q).2 c hc hcl) ?_; rintro u hu r
     cases r; exact (mx12 _ hu V)
theorem SX.freeze {n : Nat} {env : Env} {e e' : Vars} {σ : Sg} {t : Sem Flow} {Q : Fl → Vars → Sg → Prop} (a : Addr) {v : V} {o : Obj} (ha : σ a = some (v, o)) (hS : Sub a v e e') (h : SX C n env e' t (del σ a) Q) : SX C n env e t σ Q := fun A g s R S F => by
 refine ob14 (S.freeze ha) ?_; rintro g' X S' V L
 exact wpAny_mono (h A g' s R S' (F.freeze X V hS)) (fun _ _ p => p.then (X.toF _)) fun _ _ x => x
theorem EV.freeze {n : Nat} {env : Env} {e e' : Vars} {σ : Sg} {t : Sem Value} {Q : V → Sg → Prop} (a : Addr) {v : V} {o : Obj} (ha : σ a = some (v, o)) (hS : Sub a v e e') (h : EV C n env e' t (del σ a) Q) : EV C n env e t σ Q := fun A g s R S F => by
 refine ob14 (S.freeze ha) ?_; rintro g' X S' V L
 exact wpAny_mono (h A g' s R S' (F.freeze X V hS)) (fun _ _ p => p.then X) fun _ _ x => x
theorem EV.frz {n : Nat} {env : Env} {e : Vars} {σ : Sg} {t : Sem Value} {Q : V → Sg → Prop} (h : EV C n env e t σ fun v σ' => Q v σ' ∨ ∃ a x o, v = .ref a ∧ σ' a = some (x, o) ∧ Q x (del σ' a)) : EV C n env e t σ Q := fun A g s R S F => by
 refine wpAny_mono (h A g s R S F) ?_ fun _ _ x => x
 rintro u s' ⟨g', v, σ', X, S', V, q | ⟨a, x, o, rfl, ha, q⟩⟩
 · exact ⟨g', v, σ', X, S', V, q⟩
 · refine V.cr ?_
   refine ob14 (S'.freeze ha) ?_; rintro g'' Y S'' V' L
   exact ⟨g'', x, _, X.trans Y, S'', V', q⟩
end Mine
namespace Mine
variable {C : Cx}
theorem lookup_zip : ∀ {ps : List Str} {us : List Value}, ps.Nodup → us.length = ps.length → (ps.filterMap fun n => ((ps.zip us).lookup n).map (n, ·)) = ps.zip us
 | [], [], _, _ => rfl
 | [], _ :: _, _, h => by simp at h
 | _ :: _, [], _, h => by simp at h
 | p :: ps, u :: us, nd, h => by
   rw [List.nodup_cons] at nd
   have ih := lookup_zip nd.2 (by simpa using h)
   rw [List.zip_cons_cons, List.filterMap_cons]
   simp only [List.lookup_cons, BEq.rfl, Option.map_some]
   congr 1
   have : ∀ (l : List Str), (∀ q ∈ l, q ≠ p) → (l.filterMap fun n => (match n == p with | true => some u | false => (ps.zip us).lookup n).map (n, ·)) = l.filterMap fun n => ((ps.zip us).lookup n).map (n, ·) := by
     intro l hl
     induction l with
     | nil => rfl
     | cons q l ihl =>
       have e : (q == p) = false := beq_eq_false_iff_ne.mpr (hl q List.mem_cons_self)
       simp only [List.filterMap_cons, e]
       rw [ihl fun z hz => hl z (List.mem_cons_of_mem _ hz)]
   exact (this ps fun q hq z => nd.1 (z ▸ hq)).trans ih
theorem lookup_zip_some {ps : List Str} {us : List Value} (h : us.length = ps.length) {x} (hx : x ∈ ps) : ((ps.zip us).lookup x).isSome = true := by
 induction ps generalizing us with
 | nil => (exfalso; cases hx)
 | cons p ps ih =>
   cases us with
   | nil => simp at h
   | cons u us =>
     rw [List.zip_cons_cons, List.lookup_cons]
     cases q : x == p with
     | true => rfl
     | false =>
       have : x ≠ p := beq_eq_false_iff_ne.mp q
       exact ih (by simpa using h) ((List.mem_cons.mp hx).resolve_left this)
theorem bind_plain {fd : FuncData} {as : List Arg} {us : List Value} (hp : fd.params = ⟨[], as, none, [], [], none, []⟩) (hd : fd.defaults = .none) (nd : (as.map (·.arg)).Nodup) (hl : us.length = (as.map (·.arg)).length) :
   bindArgs fd ⟨us, []⟩ = pure ((as.map (·.arg)).zip us) := by
 have hm : ((List.take (as.map (·.arg)).length (as.map (·.arg))).filter fun n => (List.lookup n ((as.map (·.arg)).zip us)).isNone) = [] := by
   rw [List.take_length, List.filter_eq_nil_iff]
   intro x hx
   have := lookup_zip_some hl hx
   simpa using this
 have hg : ¬ (us.length > (as.map (·.arg)).length) := by exact Nat.not_lt_of_le (li1 (eL hl))
 cases fd
 dsimp only at hp hd
 subst hp hd
 unfold bindArgs
 refine (pure_bind _ _).trans ?_
 refine (pure_bind _ _).trans ?_
 refine (if_neg (c := _ = true) (fun h => hg (of_decide_eq_true ((Bool.and_eq_true _ _).mp h).1))).trans ?_
 have ed : ∀ n, List.drop n ([] : List Value) = [] := fun n => List.drop_nil
 dsimp only [List.map_nil, List.nil_append, Option.getD_none]
 rw [ed]
 refine (if_neg (c := _ = true) (fun h => Bool.false_ne_true ((congrArg (fun l => !List.isEmpty l) hm).symm.trans h))).trans ?_
 rw [List.zip_nil_right]
 refine (pure_bind _ _).trans ((pure_bind _ _).trans ((if_neg Bool.false_ne_true).trans ?_))
 show pure (List.filterMap _ (List.map (fun x => x.arg) as ++ [])) = _
 rw [List.append_nil]
 exact congrArg pure (lookup_zip nd hl)
noncomputable def FnAt (C : Cx) (x : Str) (ps : List Str) (body : List Stmt) (scope : Scope) : Prop :=
 ∃ a o fd as, C.mg x = some (.ref a) ∧ C.h₀.get? a = some o ∧ o.data = .func fd ∧ C.h₀.CodeRec fd.code fd.qualname ∧ fd.params = ⟨[], as, none, [], [], none, []⟩ ∧ as.map (·.arg) = ps ∧
   fd.body = .stmts body ∧ fd.scope = scope ∧ fd.defaults = .none ∧ fd.closure = [] ∧ fd.globals = mainGlobals ∧ fd.builtins = builtinsNs
theorem FnAt.isFn {x ps body scope} (h : FnAt C x ps body scope) : IsFn C x := by
 refine ob44 h ?_; clear h; rintro a o fd _ h1 h2 h3 _
 exact ⟨a, o, fd, h1, h2, h3⟩
noncomputable def okScope (sc : Scope) : Bool :=
 decide (sc.kind = .function) && decide (sc.isCoroutine = false) && decide (sc.isGenerator = false) && decide ((sc.names.map (·.1)).Nodup) && sc.names.all fun x => !(x.1 == ("__debug__" : Str))
inductive Init (C : Cx) : List (Str × NameKind) → List Str → List V → Vars → Prop
 | nil : Init C [] [] [] []
 | parL {x ns ps v vs e} : Init C ns ps vs e → Init C ((x, .local) :: ns) (x :: ps) (v :: vs) ((x, .val v) :: e)
 | parC {x ns ps v vs e} : Init C ns ps vs e → Init C ((x, .cell) :: ns) (x :: ps) (v :: vs) ((x, .val v) :: e)
 | locL {x ns e} : Init C ns [] [] e → Init C ((x, .local) :: ns) [] [] ((x, .un) :: e)
 | locC {x ns e} : Init C ns [] [] e → Init C ((x, .cell) :: ns) [] [] ((x, .un) :: e)
 | fn {x ns e} : GlIs C x .fn → Init C ns [] [] e → Init C ((x, .globalImplicit) :: ns) [] [] ((x, .fn) :: e)
 | bi {x u ns e} : GlIs C x (.bi u) → Init C ns [] [] e → Init C ((x, .globalImplicit) :: ns) [] [] ((x, .bi u) :: e)
 | con {x v ns e} : GlIs C x (.con v) → Init C ns [] [] e → Init C ((x, .globalImplicit) :: ns) [] [] ((x, .con v) :: e)
 | skip {x k ns e} : Init C ns [] [] e → Init C ((x, k) :: ns) [] [] e
theorem Init.names {ns ps vs e} (h : Init C ns ps vs e) : (e.map (·.1)).Sublist (ns.map (·.1)) := by
 induction h with
 | nil => exact .slnil
 | skip _ ih => exact .cons _ ih
 | _ => rename_i ih; exact .cons_cons _ ih
theorem Init.len {ns ps vs e} (h : Init C ns ps vs e) : ps.length = vs.length := by
 induction h <;> simp_all
theorem Init.pars {ns ps vs e} (h : Init C ns ps vs e) : ∀ x ∈ ps, (x, .local) ∈ ns ∨ (x, .cell) ∈ ns := by
 induction h with
 | parL _ ih => intro y hy; rcases List.mem_cons.mp hy with rfl | hy; exact .inl List.mem_cons_self; exact (ih y hy).imp (List.mem_cons_of_mem _) (List.mem_cons_of_mem _)
 | parC _ ih => intro y hy; rcases List.mem_cons.mp hy with rfl | hy; exact .inr List.mem_cons_self; exact (ih y hy).imp (List.mem_cons_of_mem _) (List.mem_cons_of_mem _)
 | _ => intro y hy; (exfalso; cases hy)
theorem Init.slot {ns ps vs e} (h : Init C ns ps vs e) : ∀ x t, (x, t) ∈ e → (((t = .un ∨ ∃ v, t = .val v) ∧ ((x, .local) ∈ ns ∨ (x, .cell) ∈ ns)) ∨ ((∀ v, t ≠ .val v) ∧ t ≠ .un ∧ (x, .globalImplicit) ∈ ns ∧ GlIs C x t)) := by
 have more : ∀ {p : Str × NameKind} {ns : List (Str × NameKind)} {x t}, (((t = Slot.un ∨ ∃ v, t = .val v) ∧ ((x, .local) ∈ ns ∨ (x, .cell) ∈ ns)) ∨ ((∀ v, t ≠ .val v) ∧ t ≠ .un ∧ (x, .globalImplicit) ∈ ns ∧ GlIs C x t)) →
     (((t = Slot.un ∨ ∃ v, t = .val v) ∧ ((x, .local) ∈ p :: ns ∨ (x, .cell) ∈ p :: ns)) ∨ ((∀ v, t ≠ .val v) ∧ t ≠ .un ∧ (x, .globalImplicit) ∈ p :: ns ∧ GlIs C x t)) := by
   intro p ns x t h
   rcases h with ⟨a, b⟩ | ⟨a, b, c, d⟩
   · exact .inl ⟨a, b.imp (List.mem_cons_of_mem _) (List.mem_cons_of_mem _)⟩
   · exact .inr (mx04 a b (List.mem_cons_of_mem _ c) d)
 induction h with
 | nil => intro x t m; (exfalso; cases m)
 | parL _ ih => intro y t m; rcases List.mem_cons.mp m with q | q; cases q; exact .inl ⟨.inr ⟨_, rfl⟩, .inl List.mem_cons_self⟩; exact more (ih y t q)
 | parC _ ih => intro y t m; rcases List.mem_cons.mp m with q | q; cases q; exact .inl ⟨.inr ⟨_, rfl⟩, .inr List.mem_cons_self⟩; exact more (ih y t q)
 | locL _ ih => intro y t m; rcases List.mem_cons.mp m with q | q; cases q; exact .inl ⟨.inl rfl, .inl List.mem_cons_self⟩; exact more (ih y t q)
 | locC _ ih => intro y t m; rcases List.mem_cons.mp m with q | q; cases q; exact .inl ⟨.inl rfl, .inr List.mem_cons_self⟩; exact more (ih y t q)
 | fn hg _ ih => intro y t m; rcases List.mem_cons.mp m with q | q; cases q; exact .inr (mx04 (fun v => by simp) (by simp) List.mem_cons_self hg); exact more (ih y t q)
 | bi hg _ ih => intro y t m; rcases List.mem_cons.mp m with q | q; cases q; exact .inr (mx04 (fun v => by simp) (by simp) List.mem_cons_self hg); exact more (ih y t q)
 | con hg _ ih => intro y t m; rcases List.mem_cons.mp m with q | q; cases q; exact .inr (mx04 (fun v => by simp) (by simp) List.mem_cons_self hg); exact more (ih y t q)
 | skip _ ih => intro y t m; exact more (ih y t m)
theorem Init.vals {ns ps vs e} (h : Init C ns ps vs e) : ∀ x v, (x, .val v) ∈ e → ∃ i : Nat, ps[i]? = some x ∧ vs[i]? = some v := by
 induction h with
 | nil => intro x v m; (exfalso; cases m)
 | parL _ ih => intro y v m; rcases List.mem_cons.mp m with q | q; cases q; exact (mx12 0 rfl rfl); refine ob12 (ih y v q) ?_; rintro i a b; exact (mx12 (i + 1) a b)
 | parC _ ih => intro y v m; rcases List.mem_cons.mp m with q | q; cases q; exact (mx12 0 rfl rfl); refine ob12 (ih y v q) ?_; rintro i a b; exact (mx12 (i + 1) a b)
 | locL _ ih => intro y v m; rcases List.mem_cons.mp m with q | q; (exfalso; cases q); exact ih y v q
 | locC _ ih => intro y v m; rcases List.mem_cons.mp m with q | q; (exfalso; cases q); exact ih y v q
 | fn hg _ ih => intro y v m; rcases List.mem_cons.mp m with q | q; (exfalso; cases q); exact ih y v q
 | bi hg _ ih => intro y v m; rcases List.mem_cons.mp m with q | q; (exfalso; cases q); exact ih y v q
 | con hg _ ih => intro y v m; rcases List.mem_cons.mp m with q | q; (exfalso; cases q); exact ih y v q
 | skip _ ih => intro y v m; exact ih y v m
theorem lookup_of_mem {α : Type} {x : Str} {k : α} : ∀ {l : List (Str × α)}, (l.map (·.1)).Nodup → (x, k) ∈ l → l.lookup x = some k
 | (y, j) :: r, nd, hm => by
   rw [List.map_cons, List.nodup_cons] at nd
   rw [List.lookup_cons]
   rcases List.mem_cons.mp hm with q | q
   · cases q; simp
   · have : (x == y) = false := beq_eq_false_iff_ne.mpr fun z => nd.1 (z ▸ List.mem_map.mpr (mx12 _ q rfl))
     rw [this]; exact lookup_of_mem nd.2 q
theorem bindL_out {kindOf : Str → Option NameKind} {x : Str} : ∀ {binds : List (Str × Value)} {m : Str → Option Value}, x ∉ binds.map (·.1) → bindL kindOf binds m x = m x
 | [], _, _ => rfl
 | (y, v) :: r, m, h => by
   simp only [List.map_cons, List.mem_cons, not_or] at h
   unfold bindL
   rw [bindL_out h.2]
   split
   · simp [h.1]
   · rfl
theorem bindL_of {kindOf : Str → Option NameKind} {x : Str} {u : Value} (hk : kindOf x = some .local) : ∀ {binds : List (Str × Value)} {m : Str → Option Value}, (binds.map (·.1)).Nodup → (x, u) ∈ binds → bindL kindOf binds m x = some u
 | (y, v) :: r, m, nd, hm => by
   rw [List.map_cons, List.nodup_cons] at nd
   unfold bindL
   rcases List.mem_cons.mp hm with q | q
   · cases q; rw [bindL_out nd.1, if_pos hk]; simp
   · exact bindL_of hk nd.2 q
theorem bindC_out {kindOf : Str → Option NameKind} {x : Str} : ∀ {binds : List (Str × Value)} {m : Str → Option Value}, x ∉ binds.map (·.1) → bindC kindOf binds m x = m x
 | [], _, _ => rfl
 | (y, v) :: r, m, h => by
   simp only [List.map_cons, List.mem_cons, not_or] at h
   unfold bindC
   rw [bindC_out h.2]
   split
   · rfl
   · simp [h.1]
theorem bindC_of {kindOf : Str → Option NameKind} {x : Str} {u : Value} (hk : ¬ kindOf x = some .local) : ∀ {binds : List (Str × Value)} {m : Str → Option Value}, (binds.map (·.1)).Nodup → (x, u) ∈ binds → bindC kindOf binds m x = some u
 | (y, v) :: r, m, nd, hm => by
   rw [List.map_cons, List.nodup_cons] at nd
   unfold bindC
   rcases List.mem_cons.mp hm with q | q
   · cases q; rw [bindC_out nd.1, if_neg hk]; simp
   · exact bindC_of hk nd.2 q
theorem zip_keys : ∀ {ps : List Str} {us : List Value}, us.length = ps.length → (ps.zip us).map (·.1) = ps
 | [], [], _ => rfl
 | _ :: _, [], h => by simp at h
 | [], _ :: _, h => by simp at h
 | p :: ps, u :: us, h => by rw [List.zip_cons_cons, List.map_cons, zip_keys (by simpa using h)]
noncomputable def CallOK (C : Cx) (n : Nat) (x : Str) (vs : List V) (σ : Sg) (Q : V → Sg → Prop) : Prop :=
 ∀ a, C.mg x = some (.ref a) → ∀ A g s us, RoomC A n → SR C g σ s.heap → VRs g vs us → codeAny (model C.prog C.w) A (.call (.ref a) ⟨us, []⟩) (fun r s' => ∃ u, r = .ok (.ret u) ∧ Pst C g σ s Q u s') s
theorem RoomC.le {A : Around} {n m : Nat} (x : RoomC A n) (h : m ≤ n) : RoomC A m := ⟨x.handled, by have := x.depth; exact li2 h this, by have := x.units; exact li2 (kM 20 h) this⟩
theorem CallOK.mono {n m : Nat} {x vs σ} {Q Q' : V → Sg → Prop} (h : CallOK C n x vs σ Q) (hm : n ≤ m) (k : ∀ v σ', Q v σ' → Q' v σ') : CallOK C m x vs σ Q' := fun a ha A g s us R S V =>
 codeAny_mono (h a ha A g s us (R.le hm) S V) fun _ _ h => by obtain ⟨u, e, g', v, σ', X, S', V', q⟩ := h; exact ⟨u, e, g', v, σ', X, S', V', k _ _ q⟩
theorem CallOK.frz {n : Nat} {x vs σ} {Q : V → Sg → Prop} (h : CallOK C n x vs σ fun v σ' => Q v σ' ∨ ∃ a w o, v = .ref a ∧ σ' a = some (w, o) ∧ Q w (del σ' a)) : CallOK C n x vs σ Q := fun a ha A g s us R S V => by
 refine codeAny_mono (h a ha A g s us R S V) ?_
 rintro r s' ⟨u, e, g', v, σ', X, S', V, q | ⟨a, x, o, rfl, ha, q⟩⟩
 · exact ⟨u, e, g', v, σ', X, S', V, q⟩
 · cases V
   refine ob14 (S'.freeze ha) ?_; rintro g'' Y S'' V' L
   exact ⟨_, e, g'', x, _, X.trans Y, S'', V', q⟩
theorem plain_args {env : Env} : ∀ {args : List Expr}, args.all (fun x => !isStarred x) = true → ∀ pos, ∀ p ∈ backTo pos (starEach args env), p.1 = false
 | [], _, _, p, hp => by (exfalso; cases hp)
 | x :: xs, h, pos, p, hp => by
   rw [List.all_cons, Bool.and_eq_true] at h
   rw [starEach_cons (by simpa using h.1)] at hp
   rcases List.mem_cons.mp hp with q | q
   · rw [q]
   · exact plain_args h.2 pos p q
noncomputable abbrev KCall (C : Cx) (n : Nat) (x : Str) (Q : V → Sg → Prop) : List V → Sg → Prop := fun vs σ₁ => CallOK C n x vs σ₁ Q
theorem E_call {n : Nat} {env : Env} {e : Vars} {σ : Sg} {x : Str} {p pos : Pos} {args : List Expr} {Q : V → Sg → Prop} (hx : (x, .fn) ∈ e) (hs : args.all (fun x => !isStarred x) = true) (h : EEs C n env e args σ (KCall C n x Q)) :
   EE C n env e (.Call (.Name x p) args [] pos) σ Q := fun A g s R S F => by
 refine ob02 (F.kinds x _ hx) ?_; rintro _ z1; refine ob33 z1 ?_; clear z1; rintro a o fd ha ho hd
 refine PyProof.Rows.Call_ (name_fn hx S F ha ?_)
 refine Calls.callWith_function (o := o) (fd := fd) ?_
 have key : wpAny (model C.prog C.w) A (spliced (backTo pos (starEach args env))) (fun us s₁ => (s₁.heap.get? a = some o ∧ o.data = .func fd) ∧ wpAny (model C.prog C.w) A (call (.ref a) ([] ++ us) []) (Pst C g σ s Q) noE s₁) noE s := by
   refine wpAny_mono (h A g s pos R S F) ?_ fun _ _ x => x
   rintro us s₁ ⟨g₁, vs, σ₁, X₁, S₁, V₁, q⟩
   refine ⟨⟨S₁.at ho, hd⟩, wpAny_call (codeAny_mono (q a ha A g₁ s₁ us (R.call (Nat.le_refl _)) S₁ V₁) ?_)⟩
   rintro r s₂ z1; refine ob12 z1 ?_; clear z1; rintro u rfl p
   exact p.then X₁
 have ev : ∀ l : List (Bool × Sem Value), (∀ p ∈ l, p.1 = false) → ∀ {Q : Args → Shared → Prop}, wpAny (model C.prog C.w) A (spliced l) (fun vs s' => Q ⟨vs, []⟩ s') noE s → wpAny (model C.prog C.w) A (evalArgs (.ref a) true l []) Q noE s := by
   intro l hl Q h
   cases l with
   | nil =>
     unfold evalArgs
     show wpAny _ A (spliced [] >>= _) Q _ s
     refine wpAny_bind (wpAny_mono h (fun vs s' h' => wpAny_bind (wpAny_pure ?_)) fun _ _ x => x)
     refine wpAny_holding ?_
     exact wpAny_bind (wpAny_pure (wpAny_bind (wpAny_pure (wpAny_pure h'))))
   | cons p l =>
     obtain ⟨b, x⟩ := p
     have : b = false := hl _ List.mem_cons_self
     subst this
     exact Calls.evalArgs_plain h
 refine ev _ (fun p hp => ?_) key
 have := plain_args hs pos p hp
 simpa using this
theorem call_def {n : Nat} {x : Str} {ps : List Str} {body : List Stmt} {scope : Scope} {vs : List V} {σ : Sg} {Q : V → Sg → Prop} {e : Vars} (hF : FnAt C x ps body scope) (hok : okScope scope = true)
   (hI : Init C scope.names ps vs e) (h : ∀ env, env.scope = scope → SB C n env e body σ fun fl _ σ' => match fl with | .ret v => Q v σ' | _ => Q .none σ') : CallOK C (n + 1) x vs σ Q := by
 intro a ha A g s us R S V
 refine ob48 hF ?_; clear hF; rintro a' o fd as h1 ho hdata hcd hp has hbody z1; refine ob05 z1 ?_; clear z1; rintro hsc hdf hcl hgl hbu
 rw [ha] at h1; cases h1
 simp only [okScope, Bool.and_eq_true, decide_eq_true_eq] at hok
 refine ob02 hok ?_; clear hok; rintro z1 hdb; refine ob02 z1 ?_; clear z1; rintro z2 hnd; refine ob02 z2 ?_; clear z2; rintro z3 hgen; refine ob02 z3 ?_; clear z3; rintro hk hco
 have hlen : us.length = ps.length := by rw [← V.length, hI.len]
 have hpn : ps.Nodup := by
   clear h V
   have : ∀ {ns ps vs e}, Init C ns ps vs e → (ns.map (·.1)).Nodup → ps.Nodup ∧ ∀ x ∈ ps, x ∈ ns.map (·.1) := by
     intro ns ps vs e hI
     induction hI with
     | parL _ ih =>
       intro nd
       rw [List.map_cons, List.nodup_cons] at nd
       have := ih nd.2
       exact ⟨List.nodup_cons.mpr ⟨fun z => nd.1 (this.2 _ z), this.1⟩, fun y hy => by
         rcases List.mem_cons.mp hy with rfl | hy
         · exact List.mem_cons_self
         · exact List.mem_cons_of_mem _ (this.2 y hy)⟩
     | parC _ ih =>
       intro nd
       rw [List.map_cons, List.nodup_cons] at nd
       have := ih nd.2
       exact ⟨List.nodup_cons.mpr ⟨fun z => nd.1 (this.2 _ z), this.1⟩, fun y hy => by
         rcases List.mem_cons.mp hy with rfl | hy
         · exact List.mem_cons_self
         · exact List.mem_cons_of_mem _ (this.2 y hy)⟩
     | _ => intro _; exact ⟨List.nodup_nil, fun y hy => by (exfalso; cases hy)⟩
   exact (this hI hnd).1
 have hbn : ((ps.zip us).map (·.1)).Nodup := by rw [zip_keys hlen]; exact hpn
 have hbind : bindArgs fd ⟨us, []⟩ = pure (ps.zip us) := by
   have := bind_plain (us := us) hp hdf (by rw [has]; exact hpn) (by rw [has]; exact hlen)
   rw [has] at this; exact this
 have hkd : ∀ x ∈ ps, scope.names.lookup x = some .local ∨ (scope.names.lookup x = some .cell) := fun x hx =>
   (hI.pars x hx).imp (lookup_of_mem hnd) (lookup_of_mem hnd)
 subst hsc
 refine codeAny_call_cells (by have := R.depth; show A.depth < 1000; exact li1 this) (S.at ho) hdata S.nolimit (hcd.keeps fun _ _ e => S.at e) hbody hbind hcl ?_ ?_ hco hgen hk
 · intro y hy
   have : y.1 ∈ ps := by rw [← zip_keys hlen]; exact List.mem_map.mpr (mx12 y hy rfl)
   refine (hkd _ this).imp id fun hc => ⟨hc, PySem.W.cellsFrom_some _ _ _ (.inl hc)⟩
 · intro s₁ I
   have hfresh : s.heap.objs.size ≤ s.heap.objs.size := Nat.le_refl _
   obtain ⟨⟨⟨h₁, tk, rfl⟩, hn, keep, _⟩, hcell, hap, habove⟩ := I
   have hL : (callEnvC fd s.heap.objs.size a).locals = s.heap.objs.size := rfl
   have hC : ∀ x c, (callEnvC fd s.heap.objs.size a).cells.lookup x = some c → s.heap.objs.size < c := fun x c hc => habove x c (mem_of_lookup hc)
   have none1 : ∀ b, s.heap.objs.size ≤ b → σ b = none := fun b hb => by
     cases q : σ b with
     | none => rfl
     | some v => refine ob04 (S.own _ v.1 v.2 q) ?_; rintro _ _ ho _; exact absurd (Heap.lt_size ho) (Nat.not_lt.mpr hb)
   have none2 : ∀ b, s.heap.objs.size ≤ b → g b = none := fun b hb => by
     cases q : g b with
     | none => rfl
     | some v => exact absurd (Heap.lt_size (S.sub _ _ q)) (Nat.not_lt.mpr hb)
   have S₁ : SR C g σ h₁ := S.grow (.refl _) keep fun a o q => .inl q
   have hko : (callEnvC fd s.heap.objs.size a).kindOf = fun x => fd.scope.names.lookup x := rfl
   have F₁ : FR C (callEnvC fd s.heap.objs.size a) e g σ h₁ := by
     refine ⟨hk, hgl, hbu, hnd.sublist hI.names, fun x hx => ?_, fun x t hx => ?_, (mx12 _ hn (fun x v hx => ?_)), ⟨none1 _ (Nat.le_refl _), none2 _ (Nat.le_refl _)⟩, fun x c hc => ?_, fun x y c hx hy => ?_⟩
     · refine ob12 (List.mem_map.mp (hI.names.subset hx)) ?_; rintro p hp rfl
       have := List.all_eq_true.mp hdb p hp
       simpa using this
     · rcases hI.slot x t hx with ⟨ht, hn⟩ | ⟨nv, nu, hn, hg⟩
       · have ow : Own (callEnvC fd s.heap.objs.size a) x := by
           rcases hn with hn | hn
           · exact .inl (lookup_of_mem hnd hn)
           · have hc := lookup_of_mem hnd hn
             exact .inr ⟨hc, Option.isSome_iff_exists.mp (PySem.W.cellsFrom_some _ (s.heap.objs.size + 1) [] (.inl hc))⟩
         rcases ht with rfl | ⟨v, rfl⟩
         · exact ow
         · exact ow
       · have hk' := lookup_of_mem hnd hn
         cases t with
         | un => exact absurd rfl nu
         | val v => exact absurd rfl (nv v)
         | fn => exact ⟨hk', hg⟩
         | bi u => exact ⟨hk', hg⟩
         | con v => exact ⟨hk', hg⟩
     · refine ob12 (hI.vals x v hx) ?_; rintro i h1 h2
       refine ob12 (V.get h2) ?_; rintro u hu Vu
       have hm : (x, u) ∈ ps.zip us := List.mem_iff_getElem?.mpr ⟨i, by rw [List.getElem?_zip_eq_some]; exact ⟨h1, hu⟩⟩
       refine ⟨fun hl => (mx12 u (bindL_of hl hbn hm) Vu), fun c hc hcl => (mx12 u ?_ Vu)⟩
       have := hcell x c hcl
       rw [bindC_of (by rw [hc]; decide) hbn hm] at this
       exact this
     · have := hC x c hc
       exact ⟨none1 _ (Nat.le_of_lt this), none2 _ (Nat.le_of_lt this), Nat.ne_of_gt this, _, hcell x c hc⟩
     · exact name_of_addr hap (mem_of_lookup hx) (mem_of_lookup hy)
   refine wpAny_mono (h _ rfl _ g _ (R.body _) S₁ F₁) ?_ fun _ _ x => x.elim
   rintro f s₂ ⟨g', fl, e', σ', X, S', F', Vf, q⟩
   have nf : ∀ b, b < s.heap.objs.size → ¬ Foot (callEnvC fd s.heap.objs.size a) b := fun b hb hf => by
     rcases hf with z | ⟨x, hx⟩
     · rw [z] at hb; exact absurd hb (Nat.lt_irrefl _)
     · exact absurd (hC x b hx) (Nat.lt_asymm hb)
   have X' : Ext g σ s g' σ' s₂ := ⟨X.le, fun b o q n => X.keep b o (keep b o q) n (nf b (Heap.lt_size q)), fun b o q => X.alive b o (keep b o q), fun b o q n => X.sig b o (keep b o q) n, fun b o q n k => X.frz b o (keep b o q) n k, X.gens, X.os⟩
   cases Vf with
   | ret Vr => exact ⟨_, rfl, g', _, σ', X', S', Vr, q⟩
   | _ => exact ⟨_, rfl, g', .none, σ', X', S', .none, q⟩
end Mine
namespace Mine
variable {C : Cx}
section
variable {n : Nat} {σ : Sg} {Q : V → Sg → Prop} {a b : Int}
theorem Op2i {f : Value → Value → Sem Value} (h : ∀ A g s t t', SR C g σ s.heap → wpAny (model C.prog C.w) A (f (.int a t) (.int b t')) (Pst C g σ s Q) noE s) : Op2 C n f (.int a) (.int b) σ Q := fun A g s u v R S Va Vb =>
 Va.ci fun t => Vb.ci fun t' => h A g s t t' S
theorem O_add (h : Q (.int (a + b)) σ) : Op2 C n (binaryOp .Add) (.int a) (.int b) σ Q := Op2i fun A g s t t' S =>
 P.add_int ⟨g, .int _, σ, .toks .., S, .int _ _, h⟩
theorem O_sub (h : Q (.int (a - b)) σ) : Op2 C n (binaryOp .Sub) (.int a) (.int b) σ Q := Op2i fun A g s t t' S =>
 P.sub_int ⟨g, .int _, σ, .toks .., S, .int _ _, h⟩
theorem O_isub (h : Q (.int (a - b)) σ) : Op2 C n (inplaceOp .Sub) (.int a) (.int b) σ Q := Op2i fun A g s t t' S =>
 P.isub_int ⟨g, .int _, σ, .toks .., S, .int _ _, h⟩
theorem O_iadd (h : Q (.int (a + b)) σ) : Op2 C n (inplaceOp .Add) (.int a) (.int b) σ Q := Op2i fun A g s t t' S =>
 P.iadd_int ⟨g, .int _, σ, .toks .., S, .int _ _, h⟩
noncomputable def Short (a : Int) : Prop := -(2 ^ 64) < a ∧ a < 2 ^ 64
theorem O_mul (hs : Short a ∨ Short b) (h : Q (.int (a * b)) σ) : Op2 C n (binaryOp .Mult) (.int a) (.int b) σ Q := Op2i fun A g s t t' S =>
 P.mul_int ⟨g, .int _, σ, .toks .., S, .int _ _, h⟩ (hs.elim (fun x => .of_left (intBits_le_64 x.1 x.2)) fun x => .of_right (intBits_le_64 x.1 x.2))
theorem O_mod (hb : b ≠ 0) (h : Q (.int (a.fmod b)) σ) : Op2 C n (binaryOp .Mod) (.int a) (.int b) σ Q := Op2i fun A g s t t' S =>
 PyProof.Rows.mod_int' hb ⟨g, .int _, σ, .toks .., S, .int _ _, h⟩
theorem O_div (hb : b ≠ 0) (hl : b.natAbs.log2 < 9000) (h : Q (.int (a.fdiv b)) σ) : Op2 C n (binaryOp .FloorDiv) (.int a) (.int b) σ Q := Op2i fun A g s t t' S =>
 PyProof.Rows.floordiv_int hb ⟨g, .int _, σ, .toks .., S, .int _ _, h⟩ (.inl (PyProof.noPylong_of_log2 hl))
theorem O_eq (h : Q (.bool (a == b)) σ) : Op2 C n (compareOp .Eq) (.int a) (.int b) σ Q := Op2i fun A g s t t' S =>
 P.eq_int ⟨g, .bool _, σ, .refl .., S, .bool _, h⟩
theorem O_ne (h : Q (.bool (a != b)) σ) : Op2 C n (compareOp .NotEq) (.int a) (.int b) σ Q := Op2i fun A g s t t' S =>
 P.ne_int ⟨g, .bool _, σ, .refl .., S, .bool _, h⟩
theorem O_lt (h : Q (.bool (decide (a < b))) σ) : Op2 C n (compareOp .Lt) (.int a) (.int b) σ Q := Op2i fun A g s t t' S =>
 P.lt_int ⟨g, .bool _, σ, .refl .., S, .bool _, h⟩
theorem O_le (h : Q (.bool (decide (a ≤ b))) σ) : Op2 C n (compareOp .LtE) (.int a) (.int b) σ Q := Op2i fun A g s t t' S =>
 P.le_int ⟨g, .bool _, σ, .refl .., S, .bool _, h⟩
theorem O_gt (h : Q (.bool (decide (a > b))) σ) : Op2 C n (compareOp .Gt) (.int a) (.int b) σ Q := Op2i fun A g s t t' S =>
 P.gt_int ⟨g, .bool _, σ, .refl .., S, .bool _, h⟩
theorem O_ge (h : Q (.bool (decide (a ≥ b))) σ) : Op2 C n (compareOp .GtE) (.int a) (.int b) σ Q := Op2i fun A g s t t' S =>
 P.ge_int ⟨g, .bool _, σ, .refl .., S, .bool _, h⟩
end
section
variable {n : Nat} {env : Env} {e : Vars} {σ : Sg} {Q : V → Sg → Prop}
theorem E_neg {i : Int} {x pos} (h : EE C n env e x σ fun v σ' => ∃ i, v = .int i ∧ Q (.int (-i)) σ') : EE C n env e (.UnaryOp .USub x pos) σ Q := fun A g s R S F => by
 show wpAny _ A (eval x env >>= _) _ _ s
 refine wpAny_bind (wpAny_mono (h A g s R S F) ?_ fun _ _ x => x)
 rintro u s₁ ⟨g₁, v, σ₁, X₁, S₁, V, i, rfl, q⟩
 refine V.ci fun _ => ?_
 exact wpAny_bind (wpAny_standAt (wpAny_holding (P.neg_int ⟨g₁, .int _, σ₁, X₁.trans (.toks ..), S₁, .int _ _, q⟩)))
noncomputable def Opn (C : Cx) (n : Nat) (f : List Value → Sem Value) (vs : List V) (σ : Sg) (Q : V → Sg → Prop) : Prop :=
 ∀ A g s us, Room A n → SR C g σ s.heap → VRs g vs us → wpAny (model C.prog C.w) A (f us) (Pst C g σ s Q) noE s
theorem E_bi {x : Str} {id : String} {p pos : Pos} {y : Expr} {ys : List Expr} (hx : (x, .bi (.builtin id)) ∈ e) (hs : (y :: ys).all (fun x => !isStarred x) = true)
   (h : EEs C n env e (y :: ys) σ fun vs σ₁ => Opn C n (fun us => call (.builtin id) us) vs σ₁ Q) : EE C n env e (.Call (.Name x p) (y :: ys) [] pos) σ Q := fun A g s R S F => by
 refine PyProof.Rows.Call_ (name_bi hx S F ?_)
 have hp := plain_args (env := env) hs pos
 refine callWith_builtin1 (wpAny_mono (h A g s pos R S F) ?_ fun _ _ x => x) (starEach_cons (by simpa using (List.all_eq_true.mp hs y List.mem_cons_self))) ?_
 · rintro us s₁ ⟨g₁, vs, σ₁, X₁, S₁, V, q⟩
   exact wpAny_mono (q A g₁ s₁ us R S₁ V) (fun _ _ p => p.then X₁) fun _ _ x => x
 · rw [List.all_cons, Bool.and_eq_true] at hs
   have hp' := plain_args (env := env) hs.2 pos
   rw [List.any_eq_false]; intro p hp; rw [hp' p hp]; exact Bool.false_ne_true
theorem E_ty {x : Str} {T : String} {p pos : Pos} {y : Expr} {ys : List Expr} (hx : (x, .bi (.type T)) ∈ e) (hs : (y :: ys).all (fun x => !isStarred x) = true)
   (h : EEs C n env e (y :: ys) σ fun vs σ₁ => Opn C n (fun us => call (.type T) us) vs σ₁ Q) : EE C n env e (.Call (.Name x p) (y :: ys) [] pos) σ Q := fun A g s R S F => by
 refine PyProof.Rows.Call_ (name_bi hx S F ?_)
 have hp := plain_args (env := env) hs pos
 refine callWith_type1 (wpAny_mono (h A g s pos R S F) ?_ fun _ _ x => x) (starEach_cons (by simpa using (List.all_eq_true.mp hs y List.mem_cons_self))) ?_
 · rintro us s₁ ⟨g₁, vs, σ₁, X₁, S₁, V, q⟩
   exact wpAny_mono (q A g₁ s₁ us R S₁ V) (fun _ _ p => p.then X₁) fun _ _ x => x
 · rw [List.all_cons, Bool.and_eq_true] at hs
   have hp' := plain_args (env := env) hs.2 pos
   rw [List.any_eq_false]; intro p hp; rw [hp' p hp]; exact Bool.false_ne_true
theorem B_abs {i : Int} (h : Q (.int (if i < 0 then -i else i)) σ) : Opn C n (fun us => call (.builtin "abs") us) [.int i] σ Q := fun A g s us R S V => by
 exact V.c1 fun _ _ a b => b.c0 <| a.ci fun _ => call_abs_int fun u tk => ⟨g, .int _, σ, .toks .., S, .int _ _, h⟩
noncomputable def look (σ : Sg) : V → V
 | .ref a => match σ a with | some (v, _) => v | none => .none
 | v => v
theorem is_tup {g : Fz} {h : Heap} {xs u} (S : SR C g σ h) (V : VR g (.tup xs) u) : ∃ a items, u = .ref a ∧ IsTup h a items ∧ VRs g xs items.toList := by
 exact V.ct fun a o items k ho hc hd hs => mx23 a items rfl ⟨o, S.sub _ _ ho, hc, k, hd⟩ hs
theorem is_list {g : Fz} {h : Heap} {v xs u} (S : SR C g σ h) (V : VR g v u) (hl : look σ v = .lst xs) : ∃ a items, u = .ref a ∧ h.IsList a items ∧ VRs g xs items.toList := by
 cases V with
 | @lst _ a o items k ho hc hd hs => cases hl; exact (mx23 a items rfl ⟨o, S.sub _ _ ho, hc, k, hd⟩ hs)
 | ref a =>
   have hl : (match σ a with | some (v, _) => v | none => V.none) = .lst xs := hl
   cases q : σ a with
   | none => rw [q] at hl; (exfalso; cases hl)
   | some p =>
     obtain ⟨v, o⟩ := p
     rw [q] at hl
     have hl : v = .lst xs := hl
     subst hl
     refine ob04 (S.own a _ _ q) ?_; rintro _ _ ho r
     cases r with | lst hs => exact (mx23 a _ rfl ⟨_, ho, rfl, _, rfl⟩ hs)
 | _ => (exfalso; cases hl)
theorem I_tup {xs : List V} {i : Int} {j : Nat} {v : V} {value slice : Expr} (hlo : -(2 ^ 63) ≤ i) (hhi : i < 2 ^ 63) (hj : seqIndex? i xs.length = some j) (hx : xs[j]? = some v) (h : Q v σ)
   (hs : ∀ a t, subscripted slice false (.ref a) (.int i t) = operate [.ref a, .int i t] (getItem (.ref a) (.int i t))) :
   Op2 C n (subscriptTail value slice) (.tup xs) (.int i) σ Q := fun A g s u w R S Va Vb => by
 refine ob23 (is_tup S Va) ?_; rintro a items rfl ht V
 refine Vb.ci fun t => ?_
 · refine ob12 (V.get hx) ?_; rintro u hu Vu
   refine tail_any ht.typeIs slot_tuple_getitem.lookup (PyProof.Rows.getItem_tuple ht hlo hhi (j := j) ?_ (x := u) ?_ ⟨g, v, σ, .refl .., S, Vu, h⟩) (hs a t)
   · rw [← hj, V.length, Array.length_toList]
   · rw [← Array.getElem?_toList]; exact hu
theorem E_sub {value slice pos} (h : EE C n env e value σ (KArg C n env e slice (subscriptTail value slice) Q)) : EE C n env e (.Subscript value slice pos) σ Q := fun A g s R S F => by
 refine PyProof.Rows.Subscript_ (wpAny_mono (h A g s R S F) ?_ fun _ _ x => x)
 rintro u s₁ ⟨g₁, a, σ₁, X₁, S₁, Va, h₁⟩
 refine wpAny_mono (h₁ A g₁ s₁ R S₁ (F.ext X₁)) ?_ fun _ _ x => x
 rintro v s₂ ⟨g₂, b, σ₂, X₂, S₂, Vb, h₂⟩
 exact wpAny_mono (h₂ A g₂ s₂ u v R S₂ (Va.mono X₂.le) Vb) (fun _ _ p => (p.then X₂).then X₁) fun _ _ x => x
end
end Mine
namespace Mine
variable {C : Cx}
structure Iter (C : Cx) (A : Around) (target : Expr) (it : Value) (xs : List V) (g₀ : Fz) (fp wr : List Addr) (St : Nat → Heap → Prop) : Prop where
 sub : ∀ b ∈ wr, b ∈ fp
 frame : ∀ i h h', St i h → (∀ b ∈ fp, ∀ o, h.get? b = some o → h'.get? b = some o) → St i h'
 live : ∀ i h, St i h → ∀ b ∈ wr, ∃ o, h.get? b = some o
 item : ∀ i x s g (Q : Value → Shared → Prop), xs[i]? = some x → St i s.heap → Le g₀ g → (∀ a o, g a = some o → s.heap.get? a = some o) →
   (∀ v s' g', St (i + 1) s'.heap → VR g' x v → Le g g' → (∀ a o, g' a = some o → g a = some o ∨ (s.heap.get? a = none ∧ s'.heap.get? a = some o)) →
     (∀ b o, b ∉ wr → s.heap.get? b = some o → s'.heap.get? b = some o) → s'.gens = s.gens → s'.os = s.os → Q v s') →
   wpAny (model C.prog C.w) A (pyNext it) (fun r s₁ => ∃ v, r = some v ∧ wpAny (model C.prog C.w) A (letOwnedTupleGo target it v) (fun _ s₂ => Q v s₂) noE s₁) noE s
 done : ∀ s (Q : Shared → Prop), St xs.length s.heap → (∀ s', (∀ b o, b ∉ wr → s.heap.get? b = some o → s'.heap.get? b = some o) → s'.gens = s.gens → s'.os = s.os → Q s') →
   wpAny (model C.prog C.w) A (pyNext it) (fun r s₁ => r = none ∧ Q s₁) noE s
 self : ∀ i s (Q : Value → Shared → Prop), St i s.heap → Q it s → wpAny (model C.prog C.w) A (pyIter it) Q noE s
noncomputable def IE (C : Cx) (n : Nat) (env : Env) (e : Vars) (target x : Expr) (σ : Sg) (K : List V → List Addr → Sg → Prop) : Prop :=
 ∀ A g s, Room A n → SR C g σ s.heap → FR C env e g σ s.heap → wpAny (model C.prog C.w) A (eval x env) (fun u s₁ => wpAny (model C.prog C.w) A (pyIter u) (fun it s₂ =>
   ∃ xs own g₂ σ₂ fp wr St, Ext g σ s g₂ σ₂ s₂ ∧ SR C g₂ σ₂ s₂.heap ∧ Iter C A target it xs g₂ fp wr St ∧ St 0 s₂.heap ∧
     (∀ b ∈ wr, s.heap.get? b = none ∧ σ₂ b = none ∧ g₂ b = none) ∧ (∀ b ∈ fp, b ∈ wr ∨ (∃ o, g₂ b = some o) ∨ (b ∈ own ∧ ∃ p, σ₂ b = some p)) ∧ K xs own σ₂) noE s₁) noE s
inductive Bind : Expr → V → Vars → Vars → Prop
 | name {x p v e e'} : Up e x v e' → Bind (.Name x p) v e e'
 | two {x p y q k r a b e e₁ e'} : Up e x a e₁ → Up e₁ y b e' → Bind (.Tuple [.Name x p, .Name y q] k r) (.tup [a, b]) e e'
noncomputable def ForOK (C : Cx) (n : Nat) (env : Env) (target : Expr) (body : List Stmt) (own : List Addr) (Q : Fl → Vars → Sg → Prop) : List V → Vars → Sg → Prop
 | [], e, σ => Q .next e σ
 | x :: xs, e, σ => ∃ e₁, Bind target x e e₁ ∧ SB C n env e₁ body σ fun fl e₂ σ₂ => match fl with
   | .next => (∀ a ∈ own, σ₂ a = σ a) ∧ ForOK C n env target body own Q xs e₂ σ₂
   | .cont => (∀ a ∈ own, σ₂ a = σ a) ∧ ForOK C n env target body own Q xs e₂ σ₂
   | .brk => Q .next e₂ σ₂
   | .ret v => Q (.ret v) e₂ σ₂
theorem FR.le {env : Env} {e : Vars} {g g' : Fz} {σ : Sg} {h h' : Heap} (F : FR C env e g σ h) (L : Le g g') (k : ∀ a o, h.get? a = some o → (a = env.locals ∨ ∃ x, env.cells.lookup x = some a) → h'.get? a = some o)
   (n : ∀ a o, g' a = some o → g a = some o ∨ h.get? a = none) : FR C env e g' σ h' := by
 obtain ⟨k1, gl, bu, nd, db, ki, ⟨m, hn, hv⟩, lo, ce, ap⟩ := F
 have none' : ∀ a, g a = none → (∃ o, h.get? a = some o) → g' a = none := fun a ga ⟨o, ha⟩ => by
   cases q : g' a with
   | none => rfl
   | some o' =>
     rcases n a o' q with q | q
     · rw [ga] at q; (exfalso; cases q)
     · rw [ha] at q; (exfalso; cases q)
 refine ⟨k1, gl, bu, nd, db, ki, (mx12 m (hn.at' fun o q => k _ o q (.inl rfl)) (fun x v hx => ⟨fun hl => ?_, fun c hc hcl => ?_⟩)), ⟨lo.1, none' _ lo.2 (let ⟨o, _, _, q, _⟩ := hn; ⟨o, q⟩)⟩, fun x c hc => ?_, ap⟩
 · refine ob12 ((hv x v hx).1 hl) ?_; rintro u a b; exact (mx12 u a (b.mono L))
 · refine ob12 ((hv x v hx).2 c hc hcl) ?_; rintro u a b
   exact (mx12 u (Heap.IsCell.of a fun o q => k _ o q (.inr ⟨x, hcl⟩)) (b.mono L))
 · refine ob04 (ce x c hc) ?_; rintro a b d z1; refine ob11 z1 ?_; clear z1; rintro v i
   exact ⟨a, none' _ b (let ⟨o, q, _⟩ := i; ⟨o, q⟩), d, v, Heap.IsCell.of i fun o q => k _ o q (.inr ⟨x, hc⟩)⟩
theorem bind_ {n : Nat} {env : Env} {e e₁ : Vars} {g : Fz} {σ : Sg} {s : Shared} {A : Around} {target : Expr} {x : V} {u : Value} {Q : Unit → Shared → Prop} (hB : Bind target x e e₁) (R : Room A n)
   (S : SR C g σ s.heap) (F : FR C env e g σ s.heap) (V : VR g x u)
   (h : ∀ s', ExtF (Foot env) g σ s g σ s' → SR C g σ s'.heap → FR C env e₁ g σ s'.heap → Q () s') : wpAny (model C.prog C.w) A (assign target env u) Q noE s := by
 cases hB with
 | name hU => exact PyProof.Rows.assign_Name (store_ S F V hU h)
 | @two x p y q k r a b _ e' _ hU hU' =>
   refine ob23 (is_tup S V) ?_; rintro t items rfl ht Vs
   refine ob23 Vs.two ?_; rintro ua ub hit Va Vb
   have hsz : items.size = 2 := by rw [← Array.length_toList, hit]; rfl
   refine assign_Tuple_tuple R.handled ht (by rw [hsz]; rfl) rfl fun h' hx => ?_
   rw [hit]
   have hfresh : ∀ b o, s.heap.get? b = some o → h'.get? b = some o := fun b o q => hx b o (Nat.ne_of_lt (Heap.lt_size q)) q
   have S' : SR C g σ h' := S.grow (.refl _) hfresh fun a o q => .inl q
   have X' : Ext g σ s g σ { s with heap := h' } := ⟨.refl _, fun a o q _ => hfresh a o q, fun a o q => ⟨o, hfresh a o q⟩, fun _ _ _ q => q, fun _ _ _ _ q => q, rfl, rfl⟩
   have F' : FR C env e g σ h' := F.ext X'
   show wpAny _ A (do holding [ub] (assign (.Name x p) env ua); do holding [] (assign (.Name y q) env ub); pure ()) _ _ _
   refine wpAny_bind (wpAny_holding (PyProof.Rows.assign_Name (store_ (s := { s with heap := h' }) S' F' Va hU fun s₁ X₁ S₁ F₁ => ?_)))
   refine wpAny_bind (wpAny_holding (PyProof.Rows.assign_Name (store_ S₁ F₁ Vb hU' fun s₂ X₂ S₂ F₂ => wpAny_pure ?_)))
   exact h _ (((X'.toF _).trans X₁).trans X₂) S₂ F₂
theorem SR.step {g g' : Fz} {σ : Sg} {s s' : Shared} {wr : List Addr} (S : SR C g σ s.heap) (hw : ∀ b ∈ wr, σ b = none ∧ g b = none) (L : Le g g')
   (nw : ∀ a o, g' a = some o → g a = some o ∨ (s.heap.get? a = none ∧ s'.heap.get? a = some o)) (k : ∀ b o, b ∉ wr → s.heap.get? b = some o → s'.heap.get? b = some o) : SR C g' σ s'.heap where
 base := fun a o e => L _ _ (S.base a o e)
 sub := fun a o e => (nw a o e).elim (fun q => k _ _ (fun hb => by rw [(hw a hb).2] at q; cases q) (S.sub _ _ q)) fun q => q.2
 own := fun a v o e => by
   refine ob04 (S.own a v o e) ?_; rintro p q ho r
   refine (mx04 ?_ q (k _ _ (fun hb => by rw [(hw a hb).1] at e; cases e) ho) (r.mono L))
   cases hq : g' a with
   | none => rfl
   | some o' =>
     rcases nw a o' hq with q | q
     · rw [p] at q; (exfalso; cases q)
     · rw [ho] at q; (exfalso; cases q.1)
theorem ExtF.behind {F : Addr → Prop} {wr : List Addr} {g g₂ g' : Fz} {σ σ₂ σ' : Sg} {s s₂ s' : Shared} (X : Ext g σ s g₂ σ₂ s₂) (Y : ExtF (fun a => F a ∨ a ∈ wr) g₂ σ₂ s₂ g' σ' s') (h : ∀ b ∈ wr, s.heap.get? b = none) : ExtF F g σ s g' σ' s' where
 le := X.le.trans Y.le
 keep := fun a o e n f => Y.keep a o (X.keep a o e n) (X.sig a o e n) fun q => q.elim f fun q => by rw [h a q] at e; cases e
 alive := fun a o e => let ⟨o', e'⟩ := X.alive a o e; Y.alive a o' e'
 sig := fun a o e n => Y.sig a o (X.keep a o e n) (X.sig a o e n)
 frz := fun a o e n k => Y.frz a o (X.keep a o e n) (X.sig a o e n) (X.frz a o e n k)
 gens := Y.gens.trans X.gens
 os := Y.os.trans X.os
theorem ExtF.wider {F F' : Addr → Prop} {g g' : Fz} {σ σ' : Sg} {s s' : Shared} (X : ExtF F g σ s g' σ' s') (h : ∀ a, F a → F' a) : ExtF F' g σ s g' σ' s' :=
 ⟨X.le, fun a o e n f => X.keep a o e n fun q => f (h a q), X.alive, X.sig, X.frz, X.gens, X.os⟩
theorem ExtF.ofStep {F : Addr → Prop} {wr : List Addr} {g g' : Fz} {σ : Sg} {s s' : Shared} (L : Le g g') (nw : ∀ a o, g' a = some o → g a = some o ∨ (s.heap.get? a = none ∧ s'.heap.get? a = some o))
   (k : ∀ b o, b ∉ wr → s.heap.get? b = some o → s'.heap.get? b = some o) (lv : ∀ b ∈ wr, ∃ o, s'.heap.get? b = some o) (hg : s'.gens = s.gens) (ho : s'.os = s.os) : ExtF (fun a => F a ∨ a ∈ wr) g σ s g' σ s' where
 le := L
 keep := fun a o e n f => k a o (fun q => f (.inr q)) e
 alive := fun a o e => by
   by_cases q : a ∈ wr
   · exact lv a q
   · exact ⟨o, k a o q e⟩
 sig := fun _ _ _ n => n
 frz := fun a o e n q => by
   cases r : g' a with
   | none => rfl
   | some o' =>
     rcases nw a o' r with z | z
     · rw [q] at z; (exfalso; cases z)
     · rw [e] at z; (exfalso; cases z.1)
 gens := hg
 os := ho
theorem ExtF.lastStep {F : Addr → Prop} {wr : List Addr} {g g' : Fz} {σ σ' : Sg} {s s' s'' : Shared} (X : ExtF F g σ s g' σ' s') (h : ∀ b ∈ wr, s.heap.get? b = none)
   (k : ∀ b o, b ∉ wr → s'.heap.get? b = some o → s''.heap.get? b = some o) (hg : s''.gens = s'.gens) (ho : s''.os = s'.os) : ExtF F g σ s g' σ' s'' where
 le := X.le
 keep := fun a o e n f => k a o (fun q => by rw [h a q] at e; cases e) (X.keep a o e n f)
 alive := fun a o e => let ⟨o', e'⟩ := X.alive a o e; ⟨o', k a o' (fun q => by rw [h a q] at e; cases e) e'⟩
 sig := X.sig
 frz := X.frz
 gens := hg.trans X.gens
 os := ho.trans X.os
theorem step_wr {g' g'' : Fz} {σ' : Sg} {h h'' : Heap} {wr : List Addr} (hw' : ∀ b ∈ wr, σ' b = none ∧ g' b = none) (live : ∀ b ∈ wr, ∃ o, h.get? b = some o) (nw : ∀ a o, g'' a = some o → g' a = some o ∨ (h.get? a = none ∧ h''.get? a = some o)) : ∀ b ∈ wr, σ' b = none ∧ g'' b = none := fun b hb => ⟨(hw' b hb).1, by
 cases q : g'' b with
 | none => rfl
 | some o =>
   refine ob11 (live b hb) ?_; rintro o' q'
   rcases nw b o q with z | z
   · rw [(hw' b hb).2] at z; (exfalso; cases z)
   · rw [q'] at z; (exfalso; cases z.1)⟩
inductive ForI (C : Cx) (n : Nat) (env : Env) (target : Expr) (body : List Stmt) (own : List Addr) (Q : Fl → Vars → Sg → Prop) (xs : List V) (wr : List Addr) (St : Nat → Heap → Prop) (g₂ : Fz) (σ₂ : Sg) (s₂ : Shared) (k : Nat) (s' : Shared) : Prop
 | mk (i : Nat) (g' : Fz) (e' : Vars) (σ' : Sg) (hk : k = xs.length + 1 - i) (hi : i ≤ xs.length) (X : ExtF (fun a => Foot env a ∨ a ∈ wr) g₂ σ₂ s₂ g' σ' s') (S : SR C g' σ' s'.heap) (F : FR C env e' g' σ' s'.heap) (st : St i s'.heap)
     (hw : ∀ b ∈ wr, σ' b = none ∧ g' b = none) (ho : ∀ b ∈ own, σ' b = σ₂ b) (hK : ForOK C n env target body own Q (xs.drop i) e' σ') : ForI C n env target body own Q xs wr St g₂ σ₂ s₂ k s'
section
variable {n : Nat} {env : Env} {e : Vars} {σ : Sg}
theorem S_for {target iter : Expr} {body : List Stmt} {pos} {Q : Fl → Vars → Sg → Prop} (hs : ∀ x, foldedSetIterable iter env x = pure x)
   (h : IE C n env e target iter σ fun xs own σ₁ => ForOK C n env target body own Q xs e σ₁) : SS C n env e (.For target iter body [] pos) σ Q := fun A g s R S F => by
 refine wpAny_For (wpAny_mono (h A g s R S F) (fun u s₁ h₁ => wpAny_mono h₁ ?_ fun _ _ x => x.elim) fun _ _ x => x) hs
 rintro it s₂ z1; refine ob77 z1 ?_; clear z1; rintro xs own g₂ σ₂ fp wr St X₂ S₂ W st hwr hfp hK
 have F₂ := F.ext X₂
 refine codeAny_forLoop_any (ForI C n env target body own Q xs wr St g₂ σ₂ s₂) ?_ (xs.length + 1) ?_
 · rintro k s' ⟨i, g', e', σ', rfl, hi, X', S', F', st', hw', ho', hK'⟩
   have hwF : ∀ b ∈ wr, b ≠ env.locals ∧ ∀ x, env.cells.lookup x ≠ some b := fun b hb => by
     have hn := (hwr b hb).1
     refine ob12 F.ns ?_; rintro m hm _
     refine ob32 hm ?_; clear hm; rintro o _ _ q _
     refine ⟨fun z => (by rw [z, q] at hn; cases hn), fun x hx => ?_⟩
     refine ob04 (F.cell x b hx) ?_; rintro _ _ _ z1; refine ob22 z1 ?_; clear z1; rintro _ o' q' _
     rw [q'] at hn; cases hn
   rcases Nat.lt_or_ge i xs.length with hlt | hge
   · have hx : xs[i]? = some xs[i] := List.getElem?_eq_getElem hlt
     rw [List.drop_eq_getElem_cons hlt] at hK'
     refine ob12 hK' ?_; clear hK'; rintro e₁ hB hb
     refine wpAny_mono (W.item i xs[i] s' g' (fun v s'' => wpAny (model C.prog C.w) A (assign target env v) (fun _ s₂' => wpAny (model C.prog C.w) A (execs body env) (fun f s₃ => match f with
         | .next | .cont => ∃ m, m < xs.length + 1 - i ∧ ForI C n env target body own Q xs wr St g₂ σ₂ s₂ m s₃
         | .brk => PstF C env g σ s Q .next s₃
         | .ret v => PstF C env g σ s Q (.ret v) s₃) noE s₂') noE s'') hx st' X'.le S'.sub ?_) ?_ fun _ _ x => x.elim
     · intro v s'' g'' st'' V'' L'' nw k hg hos
       have hlv : ∀ b ∈ wr, ∃ o, s''.heap.get? b = some o := W.live _ _ st''
       have S'' : SR C g'' σ' s''.heap := S'.step hw' L'' nw k
       have F'' : FR C env e' g'' σ' s''.heap := F'.le L'' (fun a o q z => k a o (fun hb => by
         rcases z with z | ⟨x, z⟩
         · exact (hwF a hb).1 z
         · exact (hwF a hb).2 x z) q) fun a o q => (nw a o q).imp id fun q => q.1
       have X'' : ExtF (fun a => Foot env a ∨ a ∈ wr) g₂ σ₂ s₂ g'' σ' s'' := X'.trans (.ofStep L'' nw k hlv hg hos)
       have hw'' := step_wr hw' (W.live _ _ st') nw
       refine bind_ hB R S'' F'' V'' fun s₃ X₃ S₃ F₃ => ?_
       refine wpAny_mono (hb A g'' s₃ R S₃ F₃) ?_ fun _ _ x => x.elim
       rintro f s₄ ⟨g₄, fl, e₄, σ₄, X₄, S₄, F₄, Vf, q⟩
       have XX : ExtF (Foot env) g'' σ' s'' g₄ σ₄ s₄ := X₃.trans X₄
       have hw₄ : ∀ b ∈ wr, σ₄ b = none ∧ g₄ b = none := fun b hb => by
         refine ob11 (hlv b hb) ?_; rintro o ho
         exact ⟨XX.sig b o ho (hw'' b hb).1, XX.frz b o ho (hw'' b hb).1 (hw'' b hb).2⟩
       have X₅ : ExtF (fun a => Foot env a ∨ a ∈ wr) g₂ σ₂ s₂ g₄ σ₄ s₄ := X''.trans (XX.wider fun a z => .inl z)
       have st₅ : (∀ a ∈ own, σ₄ a = σ' a) → St (i + 1) s₄.heap := fun hown => W.frame _ _ _ st'' fun b hb o q => by
         rcases hfp b hb with z | ⟨o', z⟩ | ⟨hbo, p, hp⟩
         · have hbw := hwF b z
           exact XX.keep b o q (hw'' b z).1 fun y => y.elim hbw.1 fun ⟨x, y⟩ => hbw.2 x y
         · have q1 := X'.le.trans L'' b o' z
           have := S''.sub _ _ q1
           rw [q] at this; cases this
           exact S₄.sub _ _ (XX.le _ _ q1)
         · have e1 : σ' b = some p := by rw [ho' b hbo]; exact hp
           have e2 : σ₄ b = some p := by rw [hown b hbo]; exact e1
           have a1 := (S''.own b p.1 p.2 e1).2.2.1
           have a2 := (S₄.own b p.1 p.2 e2).2.2.1
           rw [q] at a1; cases a1; exact a2
       have nx := fun q : (∀ a ∈ own, σ₄ a = σ' a) ∧ ForOK C n env target body own Q (xs.drop (i + 1)) e₄ σ₄ =>
         (mx12 (xs.length + 1 - (i + 1)) (by exact li2 (sA (xs.length + 1) i) (sL (show (i + 1) ≤ (xs.length + 1) from (li1 hlt)))) ⟨i + 1, g₄, e₄, σ₄, rfl, hlt, X₅, S₄, F₄, st₅ q.1, hw₄, fun b hb => (q.1 b hb).trans (ho' b hb), q.2⟩ : ∃ m, m < xs.length + 1 - i ∧ ForI C n env target body own Q xs wr St g₂ σ₂ s₂ m s₄)
       cases Vf with
       | next => exact nx q
       | cont => exact nx q
       | brk => exact ⟨g₄, .next, e₄, σ₄, .behind X₂ X₅ fun b hb => (hwr b hb).1, S₄, F₄, .next, q⟩
       | ret Vr => exact ⟨g₄, .ret _, e₄, σ₄, .behind X₂ X₅ fun b hb => (hwr b hb).1, S₄, F₄, .ret Vr, q⟩
     · rintro r s₁ z1; refine ob12 z1 ?_; clear z1; rintro v rfl hgo
       refine wpAny_mono hgo (fun _ s₂' h₂ => wpAny_mono h₂ (fun _ s₃' h₃ => wpAny_mono h₃ (fun f s₄' h₄ => ?_) fun _ _ x => x.elim) fun _ _ x => x.elim) fun _ _ x => x.elim
       cases f <;> exact h₄
   · have hie : i = xs.length := Nat.le_antisymm hi hge
     subst hie
     refine wpAny_mono (W.done s' (fun s'' => PstF C env g σ s Q .next s'') st' ?_) ?_ fun _ _ x => x.elim
     · intro s'' k hg hos
       have S'' : SR C g' σ' s''.heap := S'.step hw' (.refl _) (fun a o q => .inl q) k
       have F'' : FR C env e' g' σ' s''.heap := F'.le (.refl _) (fun a o q z => k a o (fun hb => by
         rcases z with z | ⟨x, z⟩
         · exact (hwF a hb).1 z
         · exact (hwF a hb).2 x z) q) fun a o q => .inl q
       rw [List.drop_length] at hK'
       exact ⟨g', .next, e', σ', .lastStep (.behind X₂ X' fun b hb => (hwr b hb).1) (fun b hb => (hwr b hb).1) k hg hos, S'', F'', .next, hK'⟩
     · rintro r s₁ z1; refine ob02 z1 ?_; clear z1; rintro rfl q
       exact wpAny_execs_nil q
 · exact ⟨0, g₂, e, σ₂, rfl, Nat.zero_le _, (Ext.refl ..).toF _, S₂, F₂, st, fun b hb => (hwr b hb).2, fun _ _ => rfl, by rw [List.drop_zero]; exact hK⟩
end
end Mine
namespace Mine
variable {C : Cx}
section
variable {n : Nat} {env : Env} {e : Vars} {σ : Sg}
theorem S_while {test : Expr} {body : List Stmt} {pos} {Q : Fl → Vars → Sg → Prop} (I : Nat → Vars → Sg → Prop)
   (turn : ∀ k e σ, I k e σ → TE C n env e test σ fun b σ₁ => (b = true → SB C n env e body σ₁ fun fl e₂ σ₂ => match fl with
       | .next => ∃ m, m < k ∧ I m e₂ σ₂
       | .cont => ∃ m, m < k ∧ I m e₂ σ₂
       | .brk => Q .next e₂ σ₂
       | .ret v => Q (.ret v) e₂ σ₂) ∧ (b = false → Q .next e σ₁))
   (k : Nat) (h : I k e σ) : SS C n env e (.While test body [] pos) σ Q := fun A g s R S F => by
 refine wpAny_While (codeAny_whileLoop (fun k s' => ∃ g' e' σ', ExtF (Foot env) g σ s g' σ' s' ∧ SR C g' σ' s'.heap ∧ FR C env e' g' σ' s'.heap ∧ I k e' σ') ?_ k (mx34 g e σ ((Ext.refl ..).toF _) S F h))
 rintro k s' z1; refine ob34 z1 ?_; clear z1; rintro g' e' σ' X' S' F' hI
 refine wpAny_mono (turn k e' σ' hI A g' s' R S' F') ?_ fun _ _ x => x.elim
 rintro b s₁ ⟨g₁, σ₁, X₁, S₁, h1, h2⟩
 have F₁ := F'.ext X₁
 have X := X'.trans (X₁.toF _)
 cases b with
 | false =>
   refine wpAny_execs_nil ?_
   exact ⟨g₁, .next, e', σ₁, X, S₁, F₁, .next, h2 rfl⟩
 | true =>
   refine wpAny_mono (h1 rfl A g₁ s₁ R S₁ F₁) ?_ fun _ _ x => x.elim
   rintro f s₂ ⟨g₂, fl, e₂, σ₂, X₂, S₂, F₂, Vf, q⟩
   have X := X.trans X₂
   cases Vf with
   | next => refine ob12 q ?_; clear q; rintro m hm q; exact ⟨m, hm, g₂, e₂, σ₂, X, S₂, F₂, q⟩
   | cont => refine ob12 q ?_; clear q; rintro m hm q; exact ⟨m, hm, g₂, e₂, σ₂, X, S₂, F₂, q⟩
   | brk => exact ⟨g₂, .next, e₂, σ₂, X, S₂, F₂, .next, q⟩
   | ret Vr => exact ⟨g₂, .ret _, e₂, σ₂, X, S₂, F₂, .ret Vr, q⟩
inductive KTwo (x y : Str) (e : Vars) (Q : Fl → Vars → Sg → Prop) (v : V) (σ : Sg) : Prop
 | mk {a b e₁ e' e₂} (hv : v = .tup [a, b]) (h1 : Up e x a e₁) (h2 : Up e₁ y b e') (h3 : Up e y b e₂) (h4 : Up e₂ x a e') (q : Q .next e' σ) : KTwo x y e Q v σ
theorem S_assign2 {x px y py k tp value pos} {Q : Fl → Vars → Sg → Prop}
   (hs : swapsWithSole [.Tuple [.Name x px, .Name y py] k tp] value pos.line env = pure false)
   (hw : swappedStores [.Tuple [.Name x px, .Name y py] k tp] value env = pure none ∨ swappedStores [.Tuple [.Name x px, .Name y py] k tp] value env = pure (some [x, y]))
   (h : EE C n env e value σ (KTwo x y e Q)) :
   SS C n env e (.Assign [.Tuple [.Name x px, .Name y py] k tp] value pos) σ Q := fun A g s R S F => by
 rcases hw with hw | hw
 · refine PyProof.Rows.Assign_Tuple (wpAny_mono (h A g s R S F) ?_ fun _ _ x => x) hs hw
   rintro u s₁ ⟨g₁, v, σ₁, X₁, S₁, V, @⟨a, b, e₁, e', e₂, rfl, h1, h2, h3, h4, q⟩⟩
   exact bind_ (.two h1 h2) R S₁ (F.ext X₁) V fun s' X' S' F' => ⟨g₁, .next, e', σ₁, (X₁.toF _).trans X', S', F', .next, q⟩
 · refine PyProof.Rows.Assign_Tuple_swapped (wpAny_mono (h A g s R S F) ?_ fun _ _ x => x) hs hw
   rintro u s₁ ⟨g₁, v, σ₁, X₁, S₁, V, @⟨a, b, e₁, e', e₂, rfl, h1, h2, h3, h4, q⟩⟩
   refine ob23 (is_tup S₁ V) ?_; rintro t items rfl ht Vs
   refine ob23 Vs.two ?_; rintro ua ub hit Va Vb
   have hsz : items.size = 2 := by rw [← Array.length_toList, hit]; rfl
   show wpAny _ A (unpackItems (.ref t) 2 none) _ _ _
   rw [← hsz]
   refine unpackItems_tuple R.handled ht fun h' hx => ?_
   rw [hit]
   have hfresh : ∀ b o, s₁.heap.get? b = some o → h'.get? b = some o := fun b o q => hx b o (Nat.ne_of_lt (Heap.lt_size q)) q
   have S' : SR C g₁ σ₁ h' := S₁.grow (.refl _) hfresh fun a o q => .inl q
   have X' : Ext g₁ σ₁ s₁ g₁ σ₁ { s₁ with heap := h' } := ⟨.refl _, fun a o q _ => hfresh a o q, fun a o q => ⟨o, hfresh a o q⟩, fun _ _ _ q => q, fun _ _ _ _ q => q, rfl, rfl⟩
   have F' : FR C env e g₁ σ₁ h' := F.ext (X₁.trans X')
   show wpAny _ A (do holding [ua] (bindName env y ub); do holding [] (bindName env x ua); pure ()) _ _ _
   refine wpAny_bind (wpAny_holding (wpAny_bindName (store_ (s := { s₁ with heap := h' }) S' F' Vb h3 fun s₂ X₂ S₂ F₂ => ?_)))
   refine wpAny_bind (wpAny_holding (wpAny_bindName (store_ S₂ F₂ Va h4 fun s₃ X₃ S₃ F₃ => wpAny_pure ?_)))
   exact ⟨g₁, .next, e', σ₁, ((((X₁.trans X').toF _).trans X₂).trans X₃), S₃, F₃, .next, q⟩
noncomputable def Op3 (C : Cx) (n : Nat) (f : Value → Value → Value → Sem Unit) (a b c : V) (σ : Sg) (Q : Sg → Prop) : Prop :=
 ∀ A g s u v w, Room A n → SR C g σ s.heap → VR g a u → VR g b v → VR g c w → wpAny (model C.prog C.w) A (f u v w) (fun _ s' => ∃ g' σ', Ext g σ s g' σ' s' ∧ SR C g' σ' s'.heap ∧ Q σ') noE s
theorem wpAny_release {M : Model} {A : Around} {E : Value → Shared → Prop} {s : Shared} {vs ks : List Value} {Q : Unit → Shared → Prop} (h : Q () s) : wpAny M A (release vs ks) Q E s := fun Γ p hΓ => by
 rw [Sem.wp_release]; exact h
theorem S_setitem {o i p value pos} {Q : Fl → Vars → Sg → Prop} (hs : swapsWithSole [.Subscript o i p] value pos.line env = pure false) 
   (h : EE C n env e value σ fun v σ₁ => EE C n env e o σ₁ fun ov σ₂ => EE C n env e i σ₂ fun iv σ₃ => Op3 C n setItem ov iv v σ₃ fun σ₄ => Q .next e σ₄) :
   SS C n env e (.Assign [.Subscript o i p] value pos) σ Q := fun A g s R S F => by
 rw [PyProof.Rows.exec_Assign]
 refine wpAny_bind (wpAny_standAt ?_)
 rw [hs]
 refine wpAny_bind (wpAny_pure ?_)
 rw [if_neg (by decide)]
 refine wpAny_bind (wpAny_mono (h A g s R S F) ?_ fun _ _ x => x)
 rintro w s₁ ⟨g₁, v, σ₁, X₁, S₁, Vv, h₁⟩
 have hw : swappedStores [.Subscript o i p] value env = pure none := rfl
 rw [hw]
 refine wpAny_bind (wpAny_pure ?_)
 show wpAny _ A (do assignAll w [assign (.Subscript o i p) env]; pure Flow.next) _ _ s₁
 refine wpAny_bind ?_
 show wpAny _ A (assign (.Subscript o i p) env w) _ _ s₁
 rw [PySem.assign_Subscript]
 refine wpAny_bind (wpAny_holding (wpAny_mono (h₁ A g₁ s₁ R S₁ (F.ext X₁)) ?_ fun _ _ x => x))
 rintro u s₂ ⟨g₂, ov, σ₂, X₂, S₂, Vo, h₂⟩
 refine wpAny_bind (wpAny_holding (wpAny_mono (h₂ A g₂ s₂ R S₂ (F.ext (X₁.trans X₂))) ?_ fun _ _ x => x))
 rintro v' s₃ ⟨g₃, iv, σ₃, X₃, S₃, Vi, h₃⟩
 refine wpAny_bind (wpAny_standAt (wpAny_bind (wpAny_holding (wpAny_mono (h₃ A g₃ s₃ u v' w R S₃ (Vo.mono X₃.le) Vi (Vv.mono (X₂.trans X₃).le)) ?_ fun _ _ x => x))))
 rintro _ s₄ z1; refine ob23 z1 ?_; clear z1; rintro g₄ σ₄ X₄ S₄ q
 have X := ((X₁.trans X₂).trans X₃).trans X₄
 exact wpAny_release (wpAny_pure ⟨g₄, .next, e, σ₄, X.toF _, S₄, F.ext X, .next, q⟩)
end
theorem Iter.ofWalks {A : Around} {x : Str} {p : Pos} {I : Addr} {xs : List V} {g₀ : Fz} {fp wr : List Addr} {P : Nat → Value → Prop} {St : Nat → Heap → Prop} {nn : Nat} (W : Walks C.prog C.w A I fp wr nn P St) (hn : xs.length = nn)
   (hl : ∀ i h, St i h → ∀ b ∈ wr, ∃ o, h.get? b = some o) (hP : ∀ i x v g, xs[i]? = some x → P i v → Le g₀ g → VR g x v) : Iter C A (.Name x p) (.ref I) xs g₀ fp wr St where
 sub := W.sub
 frame := W.frame
 live := hl
 item := fun i x s g Q hx st L sub hQ => W.item i s _ _ (by
     rw [← hn]
     rcases Nat.lt_or_ge i xs.length with h | h
     · exact h
     · rw [List.getElem?_eq_none h] at hx; (exfalso; cases hx)) st fun v h' tk hv st' k => (mx12 v rfl (wpAny_pure (hQ v _ g st' (hP i x v g hx hv L) (.refl _) (fun _ _ q => .inl q) k rfl rfl)))
 done := fun s Q st hQ => W.done s _ _ (hn ▸ st) fun h' tk k => ⟨rfl, hQ _ k rfl rfl⟩
 self := fun i s Q st hQ => W.self i s Q _ st hQ
theorem Iter.ofWalksT {A : Around} {elts : List Expr} {kk : Nat} {p : Pos} {I : Addr} {xs : List V} {g₀ : Fz} {fp wr : List Addr} {P : Nat → Array Value → Prop} {St : Nat → Heap → Prop} {Mid : Nat → Addr → Heap → Prop}
   {nn : Nat} (W : WalksT C.prog C.w A I fp wr nn P St Mid) (hn : xs.length = nn)
   (hl : ∀ i h, St i h → ∀ b ∈ wr, ∃ o, h.get? b = some o) (hP : ∀ i x v g, xs[i]? = some x → P i v → Le g₀ g → ∃ ys, x = .tup ys ∧ VRs g ys v.toList) : Iter C A (.Tuple elts kk p) (.ref I) xs g₀ fp wr St where
 sub := W.sub
 frame := W.frame
 live := hl
 item := fun i x s g Q hx st L sub hQ => W.item i s _ _ (by
     rw [← hn]
     rcases Nat.lt_or_ge i xs.length with h | h
     · exact h
     · rw [List.getElem?_eq_none h] at hx; (exfalso; cases hx)) st fun T vals h' tk hv hT ht mid k => (mx12 _ rfl (by
       refine ob12 (hP i x vals g hx hv L) ?_; rintro ys rfl Vs
       refine ob13 ht ?_; clear ht; rintro o ho hc z1; refine ob11 z1 ?_; clear z1; rintro nn hd
       have hTw := W.apart i T h' mid
       have gT : g T = none := by
         cases q : g T with
         | none => rfl
         | some o' => exact absurd (Heap.lt_size (sub _ _ q)) (Nat.not_lt.mpr hT)
       refine W.go elts kk p i T _ _ _ mid fun h'' st'' k' => hQ _ _ (put g T o) st'' (.tup (put_same ..) hc hd (Vs.mono (.put gT o))) (.put gT o) (fun a o' q => ?_) (fun b o hb q => k' b o hb (k b o hb q)) rfl rfl
       by_cases z : a = T
       · subst z; rw [put_same] at q; cases q
         exact .inr ⟨Heap.get?_none_of_le hT, k' _ _ hTw ho⟩
       · rw [put_ne _ _ z] at q; exact .inl q))
 done := fun s Q st hQ => W.done s _ _ (hn ▸ st) fun h' tk k => ⟨rfl, hQ _ k rfl rfl⟩
 self := fun i s Q st hQ => W.self i s Q _ st hQ
end Mine
namespace Mine
variable {C : Cx}
section
variable {prog : Program} {w : World} {A : Around} {E : Value → Shared → Prop} {s : Shared}
noncomputable def DictD (h : Heap) (d : Addr) (es : Array DictEntry) (ep : Nat) : Prop := ∃ o, h.get? d = some o ∧ o.ExactDict ∧ o.data = .dict es ep
theorem DictD.typeIs {d es ep} (x : DictD s.heap d es ep) : s.TypeIs (.ref d) "dict" := let ⟨o, ho, hc, _⟩ := x; ⟨o, ho, hc.1⟩
theorem DictD.at' {h h' : Heap} {d es ep} (x : DictD h d es ep) (k : ∀ o, h.get? d = some o → h'.get? d = some o) : DictD h' d es ep := let ⟨o, ho, r⟩ := x; ⟨o, k o ho, r⟩
theorem dictD_iter {d : Addr} {es : Array DictEntry} {ep : Nat} {Q : Value → Shared → Prop} (hd : d ≠ sysModules) (hm : DictD s.heap d es ep)
   (hQ : Q (.ref s.heap.objs.size) { s with heap := s.heap.push { cls := .type "dict_keyiterator", data := .fields #[.ref d, .int 0 0, .int es.size 0, .int ep 0] } }) :
   wpAny (model prog w) A (pyIter (.ref d)) Q E s := by
 refine ob13 (id hm) ?_; rintro o ho hc hdat
 have hT : s.TypeIs (.ref d) "dict" := hm.typeIs
 refine wpAny_pyIter_slot hT F.slot_dict_iter (wpAny_call_entry F.slot_dict_iter hT F.entry_dict_iter ?_ (F.args_dict_iter_1 _))
 unfold Builtin.«dict.__iter__»
 refine wpAny_bind ?_
 unfold Builtin.Dict.dictSlotNone
 refine wpAny_bind (wpAny_notOrdered_dict hT ?_)
 show wpAny _ _ (pure (Value.ref d)) _ _ s
 refine wpAny_pure ?_
 show wpAny _ _ (Builtin.Dict.showsAll d >>= _) _ _ s
 unfold Builtin.Dict.showsAll
 rw [if_neg (by simpa using hd)]
 refine wpAny_bind (wpAny_pure ?_)
 refine wpAny_bind (wpAny_dictEntries ho hdat ?_)
 refine wpAny_bind (wpAny_dictEpoch ho hdat ?_)
 refine wpAny_bind (wpAny_newObj_type (wpAny_pure ⟨_, rfl, "dict_keyiterator", _, ⟨_, Heap.get?_push_size _ rfl, rfl⟩, F.slot_dict_keyiterator_next.lookup, ?_⟩))
 simpa [rawInt] using hQ
theorem dictD_item {it d : Addr} {i ep : Nat} {es : Array DictEntry} {en : DictEntry} {Q : Option Value → Shared → Prop} (hit : s.heap.IsKeyIter it d i es.size ep)
   (hm : DictD s.heap d es ep) (hx : es[i]? = some en)
   (hQ : ∀ h', h'.IsKeyIter it d (i + 1) es.size ep → Heap.SameBut it s.heap h' → Q (some en.key) { s with heap := h' }) :
   wpAny (model prog w) A (pyNext (.ref it)) Q E s := by
 refine ob13 (id hit) ?_; rintro o ho hc hd
 refine ob13 (id hm) ?_; rintro od hod hcd hdd
 unfold pyNext
 refine wpAny_bind (wpAny_attempt (wpAny_callSpecial?_slot (name := Str.ofString "__next__") hit.typeIs F.slot_dict_keyiterator_next
   (wpAny_call_entry F.slot_dict_keyiterator_next hit.typeIs F.entry_dict_keyiterator_next ?_ (F.args_dict_keyiterator_next_1 _))))
 refine wpAny_bind (wpAny_pure ?_)
 refine wpAny_bind ?_
 refine wpAny_bind ?_
 first | refine wpAny_bind (wpAny_typeNameOfWhole_keyiter hit.typeIs (wpAny_pure ?_)) | refine wpAny_bind (wpAny_typeNameOf_keyiter hit.typeIs (wpAny_pure ?_))
 refine wpAny_bind (wpAny_fieldsOf ho hd ?_)
 have hown : Builtin.Dict_items.ownsTuple "dict_keyiterator" = false := by decide
 rw [hown, if_neg Bool.false_ne_true]
 show wpAny _ _ (if (Value.ref d == Value.none) = true then _ else _) _ _ s
 rw [if_neg (show ¬ ((Value.ref d == Value.none) = true) from Bool.false_ne_true)]
 refine wpAny_bind (wpAny_pure ?_)
 refine wpAny_bind (wpAny_dictEntries hod hdd ?_)
 rw [if_neg (by simp)]
 refine wpAny_bind (wpAny_pure ?_)
 refine wpAny_bind (wpAny_dictEpoch hod hdd ?_)
 rw [if_neg (by simp)]
 refine wpAny_pure ?_
 dsimp only; rw [if_neg (show ¬ ((i : Int) < 0) from Int.not_lt_of_ge (c0 i)), Int.toNat_natCast, hx]
 refine wpAny_bind ?_
 first | refine wpAny_bind (wpAny_typeNameOfWhole_keyiter hit.typeIs (wpAny_pure ?_)) | refine wpAny_bind (wpAny_typeNameOf_keyiter hit.typeIs (wpAny_pure ?_))
 refine wpAny_bind (wpAny_isOneOf_keyiter hit.typeIs ?_)
 show wpAny _ _ (setField (.ref it) 1 (rawInt ((i : Int) + 1)) >>= _) _ _ s
 refine wpAny_bind (wpAny_setField ho hd (by simp) ?_)
 have hit' : (s.heap.update it (Obj.mapFields (·.setIfInBounds 1 (rawInt ((i : Int) + 1))))).IsKeyIter it d (i + 1) es.size ep :=
   ⟨_, Heap.get?_update_self _ ho (Obj.isFreed_of_fields (Obj.data_mapFields hd _)), (Obj.cls_mapFields ..).trans hc, by rw [Obj.data_mapFields hd]; simp [rawInt]⟩
 refine wpAny_bind (wpAny_holding ?_)
 refine wpAny_bind (wpAny_isOneOf_keyiter (s := { s with heap := s.heap.update it (Obj.mapFields (·.setIfInBounds 1 (rawInt ((i : Int) + 1)))) }) hit'.typeIs ?_)
 show wpAny _ _ (pure en.key) _ _ _
 exact wpAny_pure (wpAny_pure (mx12 _ rfl (wpAny_pure (hQ _ hit' (Heap.SameBut.update ..)))))
theorem dictD_end {it d : Addr} {i ep : Nat} {es : Array DictEntry} {Q : Option Value → Shared → Prop} (hh : A.handled = none) (hit : s.heap.IsKeyIter it d i es.size ep)
   (hm : DictD s.heap d es ep) (hx : es[i]? = none)
   (hQ : ∀ h', Heap.ExtBut it s.heap h' → Q none { s with heap := h' }) : wpAny (model prog w) A (pyNext (.ref it)) Q E s := by
 refine ob13 (id hit) ?_; rintro o ho hc hd
 refine ob13 (id hm) ?_; rintro od hod hcd hdd
 unfold pyNext
 refine wpAny_bind (wpAny_attempt (wpAny_callSpecial?_slot (name := Str.ofString "__next__") hit.typeIs F.slot_dict_keyiterator_next
   (wpAny_call_entry F.slot_dict_keyiterator_next hit.typeIs F.entry_dict_keyiterator_next ?_ (F.args_dict_keyiterator_next_1 _))))
 refine wpAny_bind (wpAny_pure ?_)
 refine wpAny_bind ?_
 refine wpAny_bind ?_
 first | refine wpAny_bind (wpAny_typeNameOfWhole_keyiter hit.typeIs (wpAny_pure ?_)) | refine wpAny_bind (wpAny_typeNameOf_keyiter hit.typeIs (wpAny_pure ?_))
 refine wpAny_bind (wpAny_fieldsOf ho hd ?_)
 have hown : Builtin.Dict_items.ownsTuple "dict_keyiterator" = false := by decide
 rw [hown, if_neg Bool.false_ne_true]
 show wpAny _ _ (if (Value.ref d == Value.none) = true then _ else _) _ _ s
 rw [if_neg (show ¬ ((Value.ref d == Value.none) = true) from Bool.false_ne_true)]
 refine wpAny_bind (wpAny_pure ?_)
 refine wpAny_bind (wpAny_dictEntries hod hdd ?_)
 rw [if_neg (by simp)]
 refine wpAny_bind (wpAny_pure ?_)
 refine wpAny_bind (wpAny_dictEpoch hod hdd ?_)
 rw [if_neg (by simp)]
 refine wpAny_pure ?_
 dsimp only; rw [if_neg (show ¬ ((i : Int) < 0) from Int.not_lt_of_ge (c0 i)), Int.toNat_natCast, hx]
 refine wpAny_bind ?_
 first | refine wpAny_bind (wpAny_typeNameOfWhole_keyiter hit.typeIs (wpAny_pure ?_)) | refine wpAny_bind (wpAny_typeNameOf_keyiter hit.typeIs (wpAny_pure ?_))
 show wpAny _ _ (setField (.ref it) 0 .none >>= _) _ _ s
 refine wpAny_bind (wpAny_setField ho hd (by simp) ?_)
 show wpAny _ _ (newExc (.type "StopIteration") [] >>= _) _ _ _
 refine wpAny_bind ?_
 simp only [newExc, newTuple]
 refine wpAny_bind (wpAny_newObj_type ?_ (by size_fits))
 refine wpAny_bind (m := firstArgMember _ _) (wpAny_of_eq (a := Value.none) (by first | rfl | (simp only [firstArgMember]; rfl)) ?_)
 refine wpAny_newObj_type ?_ (by size_fits)
 unfold raiseNew
 refine wpAny_bind (wpAny_handled ?_)
 rw [show A.in1.handled = none from hh]
 refine wpAny_bind (wpAny_pure (wpAny_throw ?_))
 refine wpAny_bind (wpAny_isInstance (T := "StopIteration") (b := true) ⟨_, Heap.get?_push_size _ rfl, rfl⟩ isSubtype_stop ?_)
 exact wpAny_pure (hQ _ (((Heap.SameBut.update ..).extBut.push _).push _))
theorem walks_dict (hh : A.handled = none) (I d : Addr) (hne : d ≠ I) (es : Array DictEntry) (ep : Nat) :
   Walks prog w A I [I, d] [I] es.size (fun i v => ∃ en, es[i]? = some en ∧ v = en.key) (fun i h => h.IsKeyIter I d i es.size ep ∧ DictD h d es ep) where
 sub := fun b hb => by simp at hb; simp [hb]
 frame := fun _ _ _ st hk => ⟨st.1.at fun o e => hk I (by simp) o e, st.2.at' fun o e => hk d (by simp) o e⟩
 item := fun i s Q E hi st hQ => by
   have hx : es[i]? = some es[i] := Array.getElem?_eq_getElem hi
   refine dictD_item st.1 st.2 hx fun h' hit' hs' => ?_
   exact hQ _ h' s.toks (mx12 _ hx rfl) ⟨hit', st.2.at' fun o e => (hs'.2 d hne).trans e⟩ fun b o hb e => hs'.extBut b o (fun h => hb (by simp [h])) e
 done := fun s Q E st hQ => dictD_end hh st.1 st.2 (by simp) fun h' he' => hQ h' s.toks fun b o hb e => he' b o (fun h => hb (by simp [h])) e
 self := fun _ _ _ _ st hQ => wpAny_pyIter_keyiter st.1 hQ
theorem nextOf_tuple_item {it l : Addr} {i : Nat} {items : Array Value} {x : Value} {Q : Value → Shared → Prop} (hit : s.heap.IsTupleIter it l i)
   (hl : s.heap.IsTuple l items) (hx : items[i]? = some x)
   (hQ : ∀ h', h'.IsTupleIter it l (i + 1) → Heap.SameBut it s.heap h' → Q x { s with heap := h' }) :
   wpAny (model prog w) A (Builtin.SmallTypes.nextOf (.ref it)) Q E s := by
 refine ob13 (id hit) ?_; rintro o ho hc hd
 refine ob13 hl ?_; clear hl; rintro ol hol _ z1; refine ob11 z1 ?_; clear z1; rintro nl hdl
 unfold Builtin.SmallTypes.nextOf
 refine wpAny_bind (wpAny_callSpecial?_slot (name := Str.ofString "__next__") hit.typeIs F.slot_tuple_iterator_next
   (wpAny_call_entry F.slot_tuple_iterator_next hit.typeIs F.entry_tuple_iterator_next ?_ (F.args_tuple_iterator_next_1 _)))
 show wpAny _ _ (field (.ref it) 0 >>= _) _ _ s
 refine wpAny_bind (wpAny_field ho hd (x := .ref l) rfl ?_)
 show wpAny _ _ (if (Value.ref l == Value.none) = true then _ else _) _ _ s
 rw [if_neg (show ¬ ((Value.ref l == Value.none) = true) from Bool.false_ne_true)]
 show wpAny _ _ (field (.ref it) 1 >>= _) _ _ s
 refine wpAny_bind (wpAny_field ho hd (x := .int i 0) rfl ?_)
 show wpAny _ _ (seqItems? (.ref l) >>= _) _ _ s
 refine wpAny_bind (wpAny_seqItems hol hdl ?_)
 dsimp only; rw [Int.toNat_natCast, hx]
 refine wpAny_bind (wpAny_setField ho hd (by simp) (wpAny_pure (mx12 x rfl (wpAny_pure (hQ _ ?_ (Heap.SameBut.update ..))))))
 exact ⟨_, Heap.get?_update_self _ ho (Obj.isFreed_of_fields (Obj.data_mapFields hd _)), (Obj.cls_mapFields ..).trans hc, by
   rw [Obj.data_mapFields hd]; simp [rawInt]⟩
theorem nextOf_tuple_end {it l : Addr} {i : Nat} {items : Array Value} {Q : Value → Shared → Prop} (hh : A.handled = none)
   (hit : s.heap.IsTupleIter it l i) (hl : s.heap.IsTuple l items) (hx : items[i]? = none)
   (hE : ∀ h' e, Heap.ExtBut it s.heap h' → (∃ o, h'.get? e = some o ∧ o.cls = .type "StopIteration") → E (.ref e) { s with heap := h' }) :
   wpAny (model prog w) A (Builtin.SmallTypes.nextOf (.ref it)) Q E s := by
 refine ob13 (id hit) ?_; rintro o ho hc hd
 refine ob13 hl ?_; clear hl; rintro ol hol _ z1; refine ob11 z1 ?_; clear z1; rintro nl hdl
 unfold Builtin.SmallTypes.nextOf
 refine wpAny_bind (wpAny_callSpecial?_slot (name := Str.ofString "__next__") hit.typeIs F.slot_tuple_iterator_next
   (wpAny_call_entry F.slot_tuple_iterator_next hit.typeIs F.entry_tuple_iterator_next ?_ (F.args_tuple_iterator_next_1 _)))
 show wpAny _ _ (field (.ref it) 0 >>= _) _ _ s
 refine wpAny_bind (wpAny_field ho hd (x := .ref l) rfl ?_)
 show wpAny _ _ (if (Value.ref l == Value.none) = true then _ else _) _ _ s
 rw [if_neg (show ¬ ((Value.ref l == Value.none) = true) from Bool.false_ne_true)]
 show wpAny _ _ (field (.ref it) 1 >>= _) _ _ s
 refine wpAny_bind (wpAny_field ho hd (x := .int i 0) rfl ?_)
 show wpAny _ _ (seqItems? (.ref l) >>= _) _ _ s
 refine wpAny_bind (wpAny_seqItems hol hdl ?_)
 dsimp only; rw [Int.toNat_natCast, hx]
 refine wpAny_bind (wpAny_rule (wpAny_bind (wpAny_setField ho hd (by simp) ?_)))
 show wpAny _ _ (newExc (.type "StopIteration") [] >>= _) _ _ _
 refine wpAny_bind ?_
 simp only [newExc, newTuple]
 refine wpAny_bind (wpAny_newObj_type ?_ (by size_fits))
 refine wpAny_bind (m := firstArgMember _ _) (wpAny_of_eq (a := Value.none) (by first | rfl | (simp only [firstArgMember]; rfl)) ?_)
 refine wpAny_newObj_type ?_ (by size_fits)
 unfold raiseNew
 refine wpAny_bind (wpAny_handled ?_)
 first | rw [show A.in1.handled = none from hh] | rw [hh]
 refine wpAny_bind (wpAny_pure (wpAny_throw ?_))
 exact hE _ _ (((Heap.SameBut.update ..).extBut.push _).push _) (mx12 _ (Heap.get?_push_size _ rfl) rfl)
theorem IsTupleIter.at' {h h' : Heap} {a t i} (x : h.IsTupleIter a t i) (k : ∀ o, h.get? a = some o → h'.get? a = some o) : h'.IsTupleIter a t i := let ⟨o, ho, r⟩ := x; ⟨o, k o ho, r⟩
theorem IsTuple.at' {h h' : Heap} {a t} (x : h.IsTuple a t) (k : ∀ o, h.get? a = some o → h'.get? a = some o) : h'.IsTuple a t := let ⟨o, ho, r⟩ := x; ⟨o, k o ho, r⟩
theorem draws_tuple (hh : A.handled = none) (it l : Addr) (hne : l ≠ it) (items : Array Value) :
   Draws prog w A it [it, l] items.size (fun i v => items[i]? = some v) (fun i h => h.IsTupleIter it l i ∧ h.IsTuple l items) where
 live := fun _ _ st => let ⟨o, ho, _⟩ := st.1; ⟨o, ho⟩
 frame := fun _ _ _ st hk => ⟨IsTupleIter.at' st.1 fun o e => hk it (by simp) o e, IsTuple.at' st.2 fun o e => hk l (by simp) o e⟩
 item := fun i s Q E hi st hQ => by
   refine nextOf_tuple_item st.1 st.2 (x := items[i]) (by simp [hi]) fun h' hit' hs' => ?_
   exact hQ _ h' s.toks (by simp [hi]) ⟨hit', st.2.extBut hs'.extBut hne⟩ hs'
 done := fun s Q E st hE => nextOf_tuple_end hh st.1 st.2 (by simp) hE
theorem wp_anyb {M : Model} {A : Around} {Q : Bool → Shared → Prop} {E : Value → Shared → Prop} {s : Shared} {b : Bool} (h : ∀ b, Q b s) : wpAny M A (pure b) Q E s := wpAny_pure (h b)
theorem meets_enumerate_newT (l : Addr) (items : Array Value) (n : Nat) (dct : Option Addr) (sl : Array (Option Value)) :
   Meets (Builtin.«enumerate.__new__» ⟨[.type "enumerate", .ref l], []⟩) (fun _ R s => s.heap.get? l = some { cls := .type "tuple", dict := dct, data := .seq items n, slots := sl } ∧
     R (.ok (.ret (.ref (s.heap.push { cls := .type "tuple_iterator", data := .fields #[.ref l, .int 0 0] }).objs.size)))
       { s with heap := (s.heap.push { cls := .type "tuple_iterator", data := .fields #[.ref l, .int 0 0] }).push { cls := .type "enumerate", data := .fields #[.none, .bool false, .ref s.heap.objs.size, rawInt 0, .none, .none] } }) :=
 .of_wp fun prog w A R s h => by
   obtain ⟨hp, g, d, tk, os⟩ := s; refine ob02 h ?_; clear h; rintro hl h
   have hsub := sub_enumerate
   have hL : Heap.IsTuple (Shared.heap ⟨hp, g, d, tk, os⟩) l items := ⟨_, hl, rfl, n, rfl⟩
   wp_walk using AutoSeq1.wpAny_loadPart' hl
   refine wpAny_stack_any fun st => wp_anyb fun b => ?_
   cases b
   · wp_walk using AutoSeq1.wpAny_loadPart' hl, wpAny_pyIter_tuple hL
     exact (mx12 _ rfl h)
   · wp_walk using AutoSeq1.wpAny_loadPart' hl, wpAny_pyIter_tuple hL
     exact (mx12 _ rfl h)
theorem call_enumerate_tuple {l : Addr} {items : Array Value} {Q : Value → Shared → Prop} (hL : s.heap.IsTuple l items)
   (h : ∀ h', IsEnum h' (s.heap.objs.size + 1) s.heap.objs.size 0 .none → h'.IsTupleIter s.heap.objs.size l 0 → h'.objs.size = s.heap.objs.size + 2 →
     (∀ b o, s.heap.get? b = some o → h'.get? b = some o) → Q (.ref (s.heap.objs.size + 1)) { s with heap := h' }) :
   wpAny (model prog w) A (call (.type "enumerate") [.ref l]) Q E s := by
 obtain ⟨⟨c, dct, dt, sl⟩, hl, hc, n, hd⟩ := hL
 replace hc : c = .type "tuple" := hc
 replace hd : dt = .seq items n := hd
 subst hc hd
 refine callType_new F.called_enumerate (by decide) (F.typeCall_enumerate_1 _) (F.newCall_enumerate_1 _) (fun obj => F.args_object_init_2 obj _) F.entry_enumerate_new
   (meets_enumerate_newT l items n dct sl) ⟨hl, ?_⟩
 have hz : (s.heap.push { cls := .type "tuple_iterator", data := .fields #[.ref l, .int 0 0] }).objs.size = s.heap.objs.size + 1 := Heap.size_push ..
 show _ ∧ _
 rw [hz]
 have he : IsEnum ((s.heap.push { cls := .type "tuple_iterator", data := .fields #[.ref l, .int 0 0] }).push
     { cls := .type "enumerate", data := .fields #[.none, .bool false, .ref s.heap.objs.size, rawInt 0, .none, .none] }) (s.heap.objs.size + 1) s.heap.objs.size 0 .none := by
   have := Heap.get?_push_size (s.heap.push { cls := .type "tuple_iterator", data := .fields #[.ref l, .int 0 0] })
     (o := { cls := .type "enumerate", data := .fields #[.none, .bool false, .ref s.heap.objs.size, rawInt 0, .none, .none] }) rfl
   rw [hz] at this; exact this
 refine ⟨⟨_, he, rfl⟩, h _ he ⟨_, Heap.get?_push_of_some _ (Heap.get?_push_size _ rfl), rfl, rfl⟩ (by rw [Heap.size_push, hz]) fun b o x => Heap.get?_push_of_some _ (Heap.get?_push_of_some _ x)⟩
end
end Mine
namespace Mine
variable {C : Cx}
noncomputable def ownOf : V → List Addr
 | .ref a => [a]
 | _ => []
theorem is_dict {σ : Sg} {g : Fz} {h : Heap} {v p u} (S : SR C g σ h) (V : VR g v u) (hl : look σ v = .dct p) :
   ∃ a o, u = .ref a ∧ a ≠ sysModules ∧ h.get? a = some o ∧ DR g p o ∧ ((∃ o, g a = some o) ∨ (a ∈ ownOf v ∧ ∃ q, σ a = some q)) := by
 cases V with
 | @dct _ a o hn ho hd => cases hl; exact (mx25 a o rfl hn (S.sub _ _ ho) hd (.inl ⟨o, ho⟩))
 | ref a =>
   have hl : (match σ a with | some (v, _) => v | none => V.none) = .dct p := hl
   cases q : σ a with
   | none => rw [q] at hl; (exfalso; cases hl)
   | some r =>
     obtain ⟨v, o⟩ := r
     rw [q] at hl
     have hl : v = .dct p := hl
     subst hl
     refine ob04 (S.own a _ _ q) ?_; rintro _ ns ho r
     cases r with | dct hd => exact (mx25 a o rfl ns ho hd (.inr ⟨List.mem_cons_self, _, q⟩))
 | _ => (exfalso; cases hl)
theorem is_list' {σ : Sg} {g : Fz} {h : Heap} {v xs u} (S : SR C g σ h) (V : VR g v u) (hl : look σ v = .lst xs) :
   ∃ a items, u = .ref a ∧ h.IsList a items ∧ VRs g xs items.toList ∧ ((∃ o, g a = some o) ∨ (a ∈ ownOf v ∧ ∃ q, σ a = some q)) := by
 cases V with
 | @lst _ a o items k ho hc hd hs => cases hl; exact (mx24 a items rfl ⟨o, S.sub _ _ ho, hc, k, hd⟩ hs (.inl ⟨o, ho⟩))
 | ref a =>
   have hl : (match σ a with | some (v, _) => v | none => V.none) = .lst xs := hl
   cases q : σ a with
   | none => rw [q] at hl; (exfalso; cases hl)
   | some r =>
     obtain ⟨v, o⟩ := r
     rw [q] at hl
     have hl : v = .lst xs := hl
     subst hl
     refine ob04 (S.own a _ _ q) ?_; rintro _ _ ho r
     cases r with | lst hs => exact (mx24 a _ rfl ⟨_, ho, rfl, _, rfl⟩ hs (.inr ⟨List.mem_cons_self, _, q⟩))
 | _ => (exfalso; cases hl)
theorem is_tup' {σ : Sg} {g : Fz} {h : Heap} {xs u} (S : SR C g σ h) (V : VR g (.tup xs) u) : ∃ a items, u = .ref a ∧ h.IsTuple a items ∧ VRs g xs items.toList ∧ ∃ o, g a = some o := by
 exact V.ct fun a o items k ho hc hd hs => mx24 a items rfl ⟨o, S.sub _ _ ho, hc, k, hd⟩ hs ⟨o, ho⟩
theorem Ext.push {g : Fz} {σ : Sg} {s : Shared} {h' : Heap} (k : ∀ a o, s.heap.get? a = some o → h'.get? a = some o) (t d) : Ext g σ s g σ { s with heap := h', toks := t, drawn := d } :=
 ⟨.refl _, fun a o q _ => k a o q, fun a o q => ⟨o, k a o q⟩, fun _ _ _ q => q, fun _ _ _ _ q => q, rfl, rfl⟩
theorem SR.push {g : Fz} {σ : Sg} {h h' : Heap} (S : SR C g σ h) (k : ∀ a o, h.get? a = some o → h'.get? a = some o) : SR C g σ h' := S.grow (.refl _) k fun a o q => .inl q
theorem fresh_back {g g' : Fz} {σ σ' : Sg} {s s' : Shared} (X : Ext g σ s g' σ' s') {b : Addr} (hb : s'.heap.objs.size ≤ b) : s.heap.get? b = none := by
 cases q : s.heap.get? b with
 | none => rfl
 | some o => refine ob11 (X.alive b o q) ?_; rintro o' q'; exact absurd (Heap.lt_size q') (Nat.not_lt.mpr hb)
theorem SR.fresh {g : Fz} {σ : Sg} {h : Heap} (S : SR C g σ h) {b : Addr} (hb : h.objs.size ≤ b) : σ b = none ∧ g b = none := by
 constructor
 · cases q : σ b with
   | none => rfl
   | some p => exact absurd (Heap.lt_size (S.own b p.1 p.2 q).2.2.1) (Nat.not_lt.mpr hb)
 · cases q : g b with
   | none => rfl
   | some o => exact absurd (Heap.lt_size (S.sub b o q)) (Nat.not_lt.mpr hb)
section
variable {n : Nat} {env : Env} {e : Vars} {σ : Sg}
theorem IE_list {t p x} {K : List V → List Addr → Sg → Prop} (h : EE C n env e x σ fun v σ₁ => ∃ xs, look σ₁ v = .lst xs ∧ K xs (ownOf v) σ₁) : IE C n env e (.Name t p) x σ K := fun A g s R S F => by
 refine wpAny_mono (h A g s R S F) ?_ fun _ _ x => x
 rintro u s₁ ⟨g₁, v, σ₁, X₁, S₁, V, xs, hl, hK⟩
 refine ob24 (is_list' S₁ V hl) ?_; rintro a items rfl hL Vs hfz
 have hk : ∀ b o, s₁.heap.get? b = some o → (s₁.heap.push { cls := .type "list_iterator", data := .fields #[.ref a, .int 0 0] }).get? b = some o := fun b o q => Heap.get?_push_of_some _ q
 have hlt : a ≠ s₁.heap.objs.size := by refine ob12 hL ?_; clear hL; rintro o ho _; exact Nat.ne_of_lt (Heap.lt_size ho)
 have hlen : xs.length = items.size := by rw [Vs.length, Array.length_toList]
 have W := Walks.list (prog := C.prog) (w := C.w) R.handled s₁.heap.objs.size a hlt items
 refine wpAny_pyIter_list hL ?_
 refine (mx77 xs (ownOf v) g₁ σ₁ ([s₁.heap.objs.size, a]) [s₁.heap.objs.size] _ (X₁.trans (.push hk _ _)) (S₁.push hk) (Iter.ofWalks W hlen (fun i h st b hb => ?_) (fun i x v g hx hv L => ?_)) (⟨⟨_, Heap.get?_push_size _ rfl, rfl, rfl⟩, hL.push _⟩) (fun b hb => ?_) (fun b hb => ?_) hK)
 · rw [List.mem_singleton.mp hb]; refine ob02 st ?_; clear st; rintro z1 _; refine ob12 z1 ?_; clear z1; rintro o ho _; exact ⟨o, ho⟩
 · refine ob12 (Vs.get hx) ?_; rintro u hu Vu
   rw [Array.getElem?_toList, hv] at hu; cases hu; exact Vu.mono L
 · rw [List.mem_singleton.mp hb]; exact ⟨fresh_back X₁ (Nat.le_refl _), S₁.fresh (Nat.le_refl _)⟩
 · rcases List.mem_cons.mp hb with rfl | hb
   · exact .inl List.mem_cons_self
   · rw [List.mem_singleton.mp hb]; exact .inr hfz
theorem IE_tup {t p x} {K : List V → List Addr → Sg → Prop} (h : EE C n env e x σ fun v σ₁ => ∃ xs, v = .tup xs ∧ K xs [] σ₁) : IE C n env e (.Name t p) x σ K := fun A g s R S F => by
 refine wpAny_mono (h A g s R S F) ?_ fun _ _ x => x
 rintro u s₁ ⟨g₁, v, σ₁, X₁, S₁, V, xs, rfl, hK⟩
 refine ob24 (is_tup' S₁ V) ?_; rintro a items rfl hL Vs hfz
 have hk : ∀ b o, s₁.heap.get? b = some o → (s₁.heap.push { cls := .type "tuple_iterator", data := .fields #[.ref a, .int 0 0] }).get? b = some o := fun b o q => Heap.get?_push_of_some _ q
 have hlt : a ≠ s₁.heap.objs.size := by refine ob12 hL ?_; clear hL; rintro o ho _; exact Nat.ne_of_lt (Heap.lt_size ho)
 have hlen : xs.length = items.size := by rw [Vs.length, Array.length_toList]
 have W := Walks.tuple (prog := C.prog) (w := C.w) R.handled s₁.heap.objs.size a hlt items
 refine wpAny_pyIter_tuple hL ?_
 refine (mx77 xs [] g₁ σ₁ ([s₁.heap.objs.size, a]) [s₁.heap.objs.size] _ (X₁.trans (.push hk _ _)) (S₁.push hk) (Iter.ofWalks W hlen (fun i h st b hb => ?_) (fun i x v g hx hv L => ?_)) (⟨⟨_, Heap.get?_push_size _ rfl, rfl, rfl⟩, hL.push _⟩) (fun b hb => ?_) (fun b hb => ?_) hK)
 · rw [List.mem_singleton.mp hb]; refine ob02 st ?_; clear st; rintro z1 _; refine ob12 z1 ?_; clear z1; rintro o ho _; exact ⟨o, ho⟩
 · refine ob12 (Vs.get hx) ?_; rintro u hu Vu
   rw [Array.getElem?_toList, hv] at hu; cases hu; exact Vu.mono L
 · rw [List.mem_singleton.mp hb]; exact ⟨fresh_back X₁ (Nat.le_refl _), S₁.fresh (Nat.le_refl _)⟩
 · rcases List.mem_cons.mp hb with rfl | hb
   · exact .inl List.mem_cons_self
   · rw [List.mem_singleton.mp hb]; exact .inr (.inl hfz)
theorem EntRs.get {g : Fz} {p : Poly} {es} (h : EntRs g p es) {i : Nat} {x} (e : p[i]? = some x) : ∃ en, es[i]? = some en ∧ EntR g x en := by
 induction h generalizing i with
 | nil => simp at e
 | cons a b ih =>
   cases i with
   | zero => simp only [List.getElem?_cons_zero, Option.some.injEq] at e; subst e; exact (mx12 _ rfl a)
   | succ i => simpa using ih (by simpa using e)
theorem EntRs.length {g : Fz} {p : Poly} {es} (h : EntRs g p es) : p.length = es.length := by
 induction h with
 | nil => rfl
 | cons _ _ ih => simp [ih]
theorem IE_dct {t p x} {K : List V → List Addr → Sg → Prop} (h : EE C n env e x σ fun v σ₁ => ∃ P, look σ₁ v = .dct P ∧ K (P.map fun q => itup q.1) (ownOf v) σ₁) : IE C n env e (.Name t p) x σ K := fun A g s R S F => by
 refine wpAny_mono (h A g s R S F) ?_ fun _ _ x => x
 rintro u s₁ ⟨g₁, v, σ₁, X₁, S₁, V, P, hl, hK⟩
 refine ob25 (is_dict S₁ V hl) ?_; rintro a o rfl hns ho hD hfz
 obtain ⟨ex, ⟨es, ep, hd, hE⟩, nd⟩ := hD
 have hdd : DictD s₁.heap a es ep := ⟨o, ho, ex, hd⟩
 have hlt : a ≠ s₁.heap.objs.size := Nat.ne_of_lt (Heap.lt_size ho)
 have hlen : (P.map fun q => itup q.1).length = es.size := by rw [List.length_map, hE.length, Array.length_toList]
 have hk : ∀ b o, s₁.heap.get? b = some o → (s₁.heap.push { cls := .type "dict_keyiterator", data := .fields #[.ref a, .int 0 0, .int es.size 0, .int ep 0] }).get? b = some o := fun b o q => Heap.get?_push_of_some _ q
 have W := walks_dict (prog := C.prog) (w := C.w) R.handled s₁.heap.objs.size a hlt es ep
 refine dictD_iter hns hdd ?_
 refine (mx77 (P.map fun q => itup q.1) (ownOf v) g₁ σ₁ ([s₁.heap.objs.size, a]) [s₁.heap.objs.size] _ (X₁.trans (.push hk _ _)) (S₁.push hk) (Iter.ofWalks W hlen (fun i h st b hb => ?_) (fun i x v g hx hv L => ?_)) (⟨⟨_, Heap.get?_push_size _ rfl, rfl, rfl⟩, hdd.at' fun o q => hk _ _ q⟩) (fun b hb => ?_) (fun b hb => ?_) hK)
 · rw [List.mem_singleton.mp hb]; refine ob02 st ?_; clear st; rintro z1 _; refine ob12 z1 ?_; clear z1; rintro o ho _; exact ⟨o, ho⟩
 · rw [List.getElem?_map] at hx
   refine ob12 (Option.map_eq_some_iff.mp hx) ?_; rintro q hq rfl
   refine ob12 hv ?_; clear hv; rintro en hen rfl
   refine ob12 (hE.get hq) ?_; rintro en' hen' E
   rw [Array.getElem?_toList, hen] at hen'; cases hen'
   exact (E.key.mono L).vr
 · rw [List.mem_singleton.mp hb]; exact ⟨fresh_back X₁ (Nat.le_refl _), S₁.fresh (Nat.le_refl _)⟩
 · rcases List.mem_cons.mp hb with rfl | hb
   · exact .inl List.mem_cons_self
   · rw [List.mem_singleton.mp hb]; exact .inr hfz
noncomputable def rangeV (a : Int) (n : Nat) : List V := (List.range n).map fun (i : Nat) => V.int (a + (i : Int))
noncomputable def rangeS (a c : Int) (n : Nat) : List V := (List.range n).map fun (i : Nat) => V.int (a + (i : Int) * c)
theorem IE_rangeOf {t p x} {K : List V → List Addr → Sg → Prop}
   (h : ∀ A g s, Room A n → SR C g σ s.heap → FR C env e g σ s.heap → wpAny (model C.prog C.w) A (eval x env) (fun u s₁ => ∃ g₁ σ₁ r a b c t t' t'', Ext g σ s g₁ σ₁ s₁ ∧ SR C g₁ σ₁ s₁.heap ∧ u = .ref r ∧ IsRange s₁.heap r a b c t t' t'' ∧
     Builtin.Range.small a b c = true ∧ K (rangeS a c (Builtin.Range.rangeSize a b c).toNat) [] σ₁ ∧ 0 ≤ Builtin.Range.rangeSize a b c) noE s) : IE C n env e (.Name t p) x σ K := fun A g s R S F => by
 refine wpAny_mono (h A g s R S F) ?_ fun _ _ x => x
 rintro u s₁ z1; refine ob97 z1 ?_; clear z1; rintro g₁ σ₁ r a b c t t' t'' X₁ S₁ rfl hr hsm hK hz
 have hk : ∀ b' o, s₁.heap.get? b' = some o → (s₁.heap.push { cls := .type "range_iterator", data := .fields #[rawInt a, rawInt (Builtin.Range.rangeSize a b c), rawInt c] }).get? b' = some o := fun b o q => Heap.get?_push_of_some _ q
 have hlen : (rangeS a c (Builtin.Range.rangeSize a b c).toNat).length = (Builtin.Range.rangeSize a b c).toNat := by simp [rangeS]
 have W := Walks.range (prog := C.prog) (w := C.w) R.handled s₁.heap.objs.size a c (Builtin.Range.rangeSize a b c).toNat
 refine wpAny_pyIter_range hr hsm ?_
 refine (mx77 _ [] g₁ σ₁ [s₁.heap.objs.size] [s₁.heap.objs.size] _ (X₁.trans (.push hk _ _)) (S₁.push hk) (Iter.ofWalks W hlen (fun i h st b hb => ?_) (fun i x v g hx hv L => ?_)) ?_ (fun b hb => ?_) (fun b hb => .inl hb) hK)
 · rw [List.mem_singleton.mp hb]; exact ⟨_, st⟩
 · simp only [rangeS, List.getElem?_map, Option.map_eq_some_iff] at hx
   refine ob12 hx ?_; clear hx; rintro j hj rfl
   refine ob11 hv ?_; clear hv; rintro t rfl
   have : j = i := by
     rw [List.getElem?_eq_some_iff] at hj
     obtain ⟨_, hj⟩ := hj
     simpa using hj.symm
   rw [this]; exact .int _ _
 · have e1 : a + ((0 : Nat) : Int) * c = a := by simp
   have e2 : (((Builtin.Range.rangeSize a b c).toNat : Int) - ((0 : Nat) : Int)) = Builtin.Range.rangeSize a b c := by simp [Int.toNat_of_nonneg hz]
   show IsRangeIter _ _ (a + ((0 : Nat) : Int) * c) (((Builtin.Range.rangeSize a b c).toNat : Int) - ((0 : Nat) : Int)) c
   rw [e1, e2]
   exact Heap.get?_push_size _ rfl
 · rw [List.mem_singleton.mp hb]; exact ⟨fresh_back X₁ (Nat.le_refl _), S₁.fresh (Nat.le_refl _)⟩
noncomputable def enumV (xs : List V) : List V := xs.zipIdx.map fun p => .tup [.int p.2, p.1]
theorem enumV_get {xs : List V} {i : Nat} {x : V} (h : (enumV xs)[i]? = some x) : ∃ y, xs[i]? = some y ∧ x = .tup [.int i, y] := by
 simp only [enumV, List.getElem?_map, List.getElem?_zipIdx, Option.map_eq_some_iff] at h
 refine ob12 h ?_; clear h; rintro p z1 rfl; refine ob12 z1 ?_; clear z1; rintro y hy rfl
 exact (mx12 y hy (by simp))
theorem IE_enum {en : Str} {pe pos p : Pos} {x : Expr} {elts : List Expr} {kk : Nat} {K : List V → List Addr → Sg → Prop} (hx : (en, .bi (.type "enumerate")) ∈ e) (hs : isStarred x = false)
   (h : EE C n env e x σ fun v σ₁ => ∃ xs, ((∃ ys, v = .tup ys ∧ xs = ys) ∨ look σ₁ v = .lst xs) ∧ K (enumV xs) (ownOf v) σ₁) :
   IE C n env e (.Tuple elts kk p) (.Call (.Name en pe) [x] [] pos) σ K := fun A g s R S F => by
 refine PyProof.Rows.Call_ (name_bi hx S F ?_)
 refine callWith_type1 (args_cons (wpAny_mono (h A g s R S F) ?_ fun _ _ x => x) (starEach_cons hs)) (starEach_cons hs) rfl
 rintro u s₁ ⟨g₁, v, σ₁, X₁, S₁, V, xs, hxs, hK⟩
 refine args_nil ?_
 have hlen : ∀ m : Nat, xs.length = m → (enumV xs).length = m := fun m h => by simp [enumV, h]
 have hP : ∀ {items : Array Value}, VRs g₁ xs items.toList → ∀ (i : Nat) (x : Mine.V) (v : Array Value) (g : Fz), (enumV xs)[i]? = some x → (∃ (t : Tok) (x : Value), items[i]? = some x ∧ v = #[.int i t, x]) → Le g₁ g → ∃ ys, x = Mine.V.tup ys ∧ VRs g ys v.toList := by
   rintro items Vs i x v g hx z1 L; refine ob22 z1 ?_; clear z1; rintro t z hz rfl
   refine ob12 (enumV_get hx) ?_; rintro y hy rfl
   refine ob12 (Vs.get hy) ?_; rintro u' hu' Vu
   rw [Array.getElem?_toList, hz] at hu'; cases hu'
   exact (mx12 _ rfl (.cons (.int _ _) (.cons (Vu.mono L) .nil)))
 rcases hxs with ⟨ys, rfl, rfl⟩ | hl
 · refine ob24 (is_tup' S₁ V) ?_; rintro a items rfl hL Vs hfz
   have hsz : xs.length = items.size := by rw [Vs.length, Array.length_toList]
   have hlt : a < s₁.heap.objs.size := by refine ob12 hL ?_; clear hL; rintro o ho _; exact Heap.lt_size ho
   refine call_enumerate_tuple hL fun h' he hi hz hk => ?_
   have W := WalksT.enumerateD (draws_tuple (prog := C.prog) (w := C.w) (A := A.in1) R.handled s₁.heap.objs.size a (Nat.ne_of_lt hlt) items) (s₁.heap.objs.size + 1) (Nat.succ_ne_self _) (by
       intro hm; rcases List.mem_cons.mp hm with z | z
       · exact Nat.succ_ne_self _ z
       · exact absurd hlt (by rw [← List.mem_singleton.mp z]; exact Nat.not_lt.mpr (Nat.le_succ _))) List.mem_cons_self
   refine wpAny_pyIter_enum he ?_
   refine (mx77 (enumV xs) [] g₁ σ₁ ((s₁.heap.objs.size + 1) :: [s₁.heap.objs.size, a]) ([s₁.heap.objs.size + 1, s₁.heap.objs.size]) _ (X₁.trans (.push hk _ _)) (S₁.push hk) (Iter.ofWalksT W (hlen _ hsz) (fun i h st b hb => ?_) (fun i x v g hx hv L => hP Vs i x v g hx (by refine ob22 hv ?_; clear hv; rintro t z hz e; exact ⟨t, z, hz, e⟩) L)) (⟨⟨_, he⟩, hi, IsTuple.at' hL fun o q => hk _ _ q⟩) (fun b hb => ?_) (fun b hb => ?_) hK)
   · refine ob03 st ?_; clear st; rintro z1 z2 _; refine ob11 z1 ?_; clear z1; rintro _ h1; refine ob12 z2 ?_; clear z2; rintro o ho _
     rcases List.mem_cons.mp hb with rfl | hb
     · exact ⟨_, h1⟩
     · rw [List.mem_singleton.mp hb]; exact ⟨_, ho⟩
   · rcases List.mem_cons.mp hb with rfl | hb
     · exact ⟨fresh_back X₁ (Nat.le_succ _), S₁.fresh (Nat.le_succ _)⟩
     · rw [List.mem_singleton.mp hb]; exact ⟨fresh_back X₁ (Nat.le_refl _), S₁.fresh (Nat.le_refl _)⟩
   · rcases List.mem_cons.mp hb with rfl | hb
     · exact .inl List.mem_cons_self
     · rcases List.mem_cons.mp hb with rfl | hb
       · exact .inl (List.mem_cons_of_mem _ List.mem_cons_self)
       · rw [List.mem_singleton.mp hb]; exact .inr (.inl hfz)
 · refine ob24 (is_list' S₁ V hl) ?_; rintro a items rfl hL Vs hfz
   have hsz : xs.length = items.size := by rw [Vs.length, Array.length_toList]
   have hlt : a < s₁.heap.objs.size := by refine ob12 hL ?_; clear hL; rintro o ho _; exact Heap.lt_size ho
   refine call_enumerate_list hL fun h' he hi hz hk => ?_
   have W := WalksT.enumerateD (Draws.list (prog := C.prog) (w := C.w) (A := A.in1) R.handled s₁.heap.objs.size a (Nat.ne_of_lt hlt) items) (s₁.heap.objs.size + 1) (Nat.succ_ne_self _) (by
       intro hm; rcases List.mem_cons.mp hm with z | z
       · exact Nat.succ_ne_self _ z
       · exact absurd hlt (by rw [← List.mem_singleton.mp z]; exact Nat.not_lt.mpr (Nat.le_succ _))) List.mem_cons_self
   refine wpAny_pyIter_enum he ?_
   refine (mx77 (enumV xs) (ownOf v) g₁ σ₁ ((s₁.heap.objs.size + 1) :: [s₁.heap.objs.size, a]) ([s₁.heap.objs.size + 1, s₁.heap.objs.size]) _ (X₁.trans (.push hk _ _)) (S₁.push hk) (Iter.ofWalksT W (hlen _ hsz) (fun i h st b hb => ?_) (fun i x v g hx hv L => hP Vs i x v g hx (by refine ob22 hv ?_; clear hv; rintro t z hz e; exact ⟨t, z, hz, e⟩) L)) (⟨⟨_, he⟩, hi, hL.at fun o q => hk _ _ q⟩) (fun b hb => ?_) (fun b hb => ?_) hK)
   · refine ob03 st ?_; clear st; rintro z1 z2 _; refine ob11 z1 ?_; clear z1; rintro _ h1; refine ob12 z2 ?_; clear z2; rintro o ho _
     rcases List.mem_cons.mp hb with rfl | hb
     · exact ⟨_, h1⟩
     · rw [List.mem_singleton.mp hb]; exact ⟨_, ho⟩
   · rcases List.mem_cons.mp hb with rfl | hb
     · exact ⟨fresh_back X₁ (Nat.le_succ _), S₁.fresh (Nat.le_succ _)⟩
     · rw [List.mem_singleton.mp hb]; exact ⟨fresh_back X₁ (Nat.le_refl _), S₁.fresh (Nat.le_refl _)⟩
   · rcases List.mem_cons.mp hb with rfl | hb
     · exact .inl List.mem_cons_self
     · rcases List.mem_cons.mp hb with rfl | hb
       · exact .inl (List.mem_cons_of_mem _ List.mem_cons_self)
       · rw [List.mem_singleton.mp hb]; exact .inr hfz
end
end Mine
namespace Mine
variable {C : Cx}
noncomputable def tname (e : Expr) : List Str := if h : e.ctorIdx = 23 then Expr.Name.elim e h fun x _ => [x] else []
noncomputable def tnames (e : Expr) : List Str := if h : e.ctorIdx = 25 then Expr.Tuple.elim e h fun xs _ _ => xs.flatMap tname else tname e
section
variable {n : Nat} {env : Env} {e : Vars} {σ : Sg} {A : Around} {g : Fz} {s : Shared}
theorem storeL_ {M : Model} {E : Value → Shared → Prop} {x : Str} {v : V} {u : Value} {e' : Vars} {Q : Unit → Shared → Prop} (hl : env.kindOf x = some .local) (S : SR C g σ s.heap) (F : FR C env e g σ s.heap) (V : VR g v u) (hU : Up e x v e')
   (h : ∀ s', ExtF (fun a => a = env.locals) g σ s g σ s' → SR C g σ s'.heap → FR C env e' g σ s'.heap → Q () s') : wpAny M A (storeName env x u) Q E s := by
 refine ob12 F.ns ?_; rintro m hn hv
 refine wpAny_storeName_local hl hn (fun h' hn' hs => h _ ⟨.refl _, fun a o q n f => (hs.2 a (fun z => f z)).trans q, sb_alive ⟨hs, (let ⟨o, _, _, q, _⟩ := hn'; ⟨o, q⟩)⟩, fun _ _ _ q => q, fun _ _ _ _ q => q, rfl, rfl⟩ (S.frame (env := env) (e := e) hs F.loc.1 F.loc.2) ?_) (by rw [F.kind]; rfl)
 refine ⟨F.kind, F.globals, F.builtins, by rw [hU.names]; exact F.nd, by rw [hU.names]; exact F.dbg, hU.kinds F.kinds, (mx12 _ hn' (fun y w hy => ?_)), F.loc, fun y c hc => ?_, F.apart⟩
 · rcases hU.cases F.nd hy with ⟨rfl, rfl⟩ | ⟨ne, hy⟩
   · exact ⟨fun _ => (mx12 u (by simp) V), fun c hc => by rw [hl] at hc; (exfalso; cases hc)⟩
   · refine ⟨fun hl' => ?_, fun c hc hcl => ?_⟩
     · refine ob12 ((hv y w hy).1 hl') ?_; rintro u' a b
       exact (mx12 u' (by simp [ne, a]) b)
     · refine ob12 ((hv y w hy).2 c hc hcl) ?_; rintro u' a b
       exact (mx12 u' (a.sameBut hs (F.cell y c hcl).2.2.1) b)
 · refine ob04 (F.cell y c hc) ?_; rintro a b d z1; refine ob11 z1 ?_; clear z1; rintro v' i
   exact ⟨a, b, d, v', i.sameBut hs d⟩
theorem bindL_ {e₁ : Vars} {target : Expr} {x : V} {u : Value} {Q : Unit → Shared → Prop} (hloc : ∀ y ∈ tnames target, env.kindOf y = some .local) (hB : Bind target x e e₁) (R : Room A n)
   (S : SR C g σ s.heap) (F : FR C env e g σ s.heap) (V : VR g x u)
   (h : ∀ s', ExtF (fun a => a = env.locals) g σ s g σ s' → SR C g σ s'.heap → FR C env e₁ g σ s'.heap → Q () s') : wpAny (model C.prog C.w) A (assign target env u) Q noE s := by
 cases hB with
 | name hU => exact PyProof.Rows.assign_Name (storeL_ (hloc _ List.mem_cons_self) S F V hU h)
 | @two x p y q k r a b _ e' _ hU hU' =>
   refine ob23 (is_tup S V) ?_; rintro t items rfl ht Vs
   refine ob23 Vs.two ?_; rintro ua ub hit Va Vb
   have hsz : items.size = 2 := by rw [← Array.length_toList, hit]; rfl
   refine assign_Tuple_tuple R.handled ht (by rw [hsz]; rfl) rfl fun h' hx => ?_
   rw [hit]
   have hfresh : ∀ b o, s.heap.get? b = some o → h'.get? b = some o := fun b o q => hx b o (Nat.ne_of_lt (Heap.lt_size q)) q
   have S' : SR C g σ h' := S.grow (.refl _) hfresh fun a o q => .inl q
   have X' : Ext g σ s g σ { s with heap := h' } := ⟨.refl _, fun a o q _ => hfresh a o q, fun a o q => ⟨o, hfresh a o q⟩, fun _ _ _ q => q, fun _ _ _ _ q => q, rfl, rfl⟩
   have F' : FR C env e g σ h' := F.ext X'
   show wpAny _ A (do holding [ub] (assign (.Name x p) env ua); do holding [] (assign (.Name y q) env ub); pure ()) _ _ _
   refine wpAny_bind (wpAny_holding (PyProof.Rows.assign_Name (storeL_ (hloc _ List.mem_cons_self) (s := { s with heap := h' }) S' F' Va hU fun s₁ X₁ S₁ F₁ => ?_)))
   refine wpAny_bind (wpAny_holding (PyProof.Rows.assign_Name (storeL_ (hloc _ (List.mem_cons_of_mem _ List.mem_cons_self)) S₁ F₁ Vb hU' fun s₂ X₂ S₂ F₂ => wpAny_pure ?_)))
   exact h _ (((X'.toF _).trans X₁).trans X₂) S₂ F₂
end
inductive InitC (C : Cx) (env : Env) (e : Vars) : List (Str × NameKind) → Vars → Prop
 | nil : InitC C env e [] []
 | loc {x ns ec} : InitC C env e ns ec → InitC C env e ((x, .local) :: ns) ((x, .un) :: ec)
 | free {x v ns ec} : env.kindOf x = some .cell → (x, .val v) ∈ e → InitC C env e ns ec → InitC C env e ((x, .free) :: ns) ((x, .val v) :: ec)
 | fn {x ns ec} : GlIs C x .fn → InitC C env e ns ec → InitC C env e ((x, .globalImplicit) :: ns) ((x, .fn) :: ec)
 | bi {x u ns ec} : GlIs C x (.bi u) → InitC C env e ns ec → InitC C env e ((x, .globalImplicit) :: ns) ((x, .bi u) :: ec)
 | con {x v ns ec} : GlIs C x (.con v) → InitC C env e ns ec → InitC C env e ((x, .globalImplicit) :: ns) ((x, .con v) :: ec)
theorem InitC.names {env e ns ec} (h : InitC C env e ns ec) : ec.map (·.1) = ns.map (·.1) := by
 induction h <;> simp_all
theorem InitC.noCell {env e ns ec} (h : InitC C env e ns ec) : ∀ y ∈ ns, y.2 ≠ .cell := by
 induction h with
 | nil => intro y hy; (exfalso; cases hy)
 | _ =>
   rename_i ih
   intro y hy
   rcases List.mem_cons.mp hy with q | hy
   · rw [q]; exact fun z => nomatch z
   · exact ih y hy
theorem InitC.frees {env e ns ec} (h : InitC C env e ns ec) : ∀ x, (x, .free) ∈ ns → env.kindOf x = some .cell ∧ ∃ v, (x, .val v) ∈ e ∧ (x, .val v) ∈ ec := by
 induction h with
 | nil => intro y hy; (exfalso; cases hy)
 | free hk hv _ ih =>
   intro y hy
   rcases List.mem_cons.mp hy with q | hy
   · cases q; exact ⟨hk, _, hv, List.mem_cons_self⟩
   · refine ob02 (ih y hy) ?_; rintro a z1; refine ob12 z1 ?_; clear z1; rintro v b c; exact ⟨a, v, b, List.mem_cons_of_mem _ c⟩
 | _ =>
   rename_i ih
   intro y hy
   rcases List.mem_cons.mp hy with q | hy
   · (exfalso; cases q)
   · refine ob02 (ih y hy) ?_; rintro a z1; refine ob12 z1 ?_; clear z1; rintro v b c; exact ⟨a, v, b, List.mem_cons_of_mem _ c⟩
theorem InitC.slot {env e ns ec} (h : InitC C env e ns ec) : ∀ x t, (x, t) ∈ ec → (t = .un ∧ (x, .local) ∈ ns) ∨ ((x, .free) ∈ ns ∧ env.kindOf x = some .cell ∧ ∃ v, t = .val v ∧ (x, .val v) ∈ e) ∨ ((∀ v, t ≠ .val v) ∧ t ≠ .un ∧ (x, .globalImplicit) ∈ ns ∧ GlIs C x t) := by
 have more : ∀ {p : Str × NameKind} {ns : List (Str × NameKind)} {x t}, ((t = Slot.un ∧ (x, .local) ∈ ns) ∨ ((x, .free) ∈ ns ∧ env.kindOf x = some .cell ∧ ∃ v, t = .val v ∧ (x, .val v) ∈ e) ∨ ((∀ v, t ≠ .val v) ∧ t ≠ .un ∧ (x, .globalImplicit) ∈ ns ∧ GlIs C x t)) →
     ((t = Slot.un ∧ (x, .local) ∈ p :: ns) ∨ ((x, .free) ∈ p :: ns ∧ env.kindOf x = some .cell ∧ ∃ v, t = .val v ∧ (x, .val v) ∈ e) ∨ ((∀ v, t ≠ .val v) ∧ t ≠ .un ∧ (x, .globalImplicit) ∈ p :: ns ∧ GlIs C x t)) := by
   intro p ns x t h
   rcases h with ⟨a, b⟩ | ⟨a, b⟩ | ⟨a, b, c, d⟩
   · exact .inl ⟨a, List.mem_cons_of_mem _ b⟩
   · exact .inr (.inl ⟨List.mem_cons_of_mem _ a, b⟩)
   · exact .inr (.inr (mx04 a b (List.mem_cons_of_mem _ c) d))
 induction h with
 | nil => intro x t m; (exfalso; cases m)
 | loc _ ih => intro y t m; rcases List.mem_cons.mp m with q | q; cases q; exact .inl ⟨rfl, List.mem_cons_self⟩; exact more (ih y t q)
 | free hk hv _ ih => intro y t m; rcases List.mem_cons.mp m with q | q; cases q; exact .inr (.inl ⟨List.mem_cons_self, hk, _, rfl, hv⟩); exact more (ih y t q)
 | fn hg _ ih => intro y t m; rcases List.mem_cons.mp m with q | q; cases q; exact .inr (.inr (mx04 (fun v => by simp) (by simp) List.mem_cons_self hg)); exact more (ih y t q)
 | bi hg _ ih => intro y t m; rcases List.mem_cons.mp m with q | q; cases q; exact .inr (.inr (mx04 (fun v => by simp) (by simp) List.mem_cons_self hg)); exact more (ih y t q)
 | con hg _ ih => intro y t m; rcases List.mem_cons.mp m with q | q; cases q; exact .inr (.inr (mx04 (fun v => by simp) (by simp) List.mem_cons_self hg)); exact more (ih y t q)
theorem closure_ {scope : Scope} {env : Env} (hf : ∀ x, (x, .free) ∈ scope.names → ∃ c, env.cells.lookup x = some c) :
   ∃ cl, closureFor scope env = pure cl ∧ (∀ x c, (x, c) ∈ cl → env.cells.lookup x = some c) ∧ ∀ x, (x, .free) ∈ scope.names → ∃ c, (x, c) ∈ cl := by
 have key : ∀ (names : List (Str × NameKind)) (cs : List (Str × Addr)), (∀ x, (x, .free) ∈ names → ∃ c, env.cells.lookup x = some c) → (∀ x c, (x, c) ∈ cs → env.cells.lookup x = some c) →
     ∃ cl, (forIn names cs fun (x : Str × NameKind) (r : List (Str × Addr)) => match x with
       | (name, kind) => if (kind == NameKind.free) = true then do let y ← cellOf env name; pure (ForInStep.yield ((name, y) :: r)) else pure (ForInStep.yield r) : Sem (List (Str × Addr))) = pure cl ∧
       (∀ x c, (x, c) ∈ cl → env.cells.lookup x = some c) ∧ (∀ x, (x, .free) ∈ names → ∃ c, (x, c) ∈ cl) ∧ ∀ p ∈ cs, p ∈ cl := by
   intro names
   induction names with
   | nil => intro cs _ hc; exact (mx14 cs rfl hc ((fun x h => nomatch h)) ((fun p h => h)))
   | cons p names ih =>
     intro cs hn hc
     obtain ⟨x, k⟩ := p
     by_cases hk : k = .free
     · subst hk
       refine ob11 (hn x List.mem_cons_self) ?_; rintro c hx
       refine ob14 (ih ((x, c) :: cs) (fun y hy => hn y (List.mem_cons_of_mem _ hy)) (fun y d hy => by
         rcases List.mem_cons.mp hy with q | q
         · cases q; exact hx
         · exact hc y d q)) ?_; rintro cl h1 h2 h3 h4
       refine (mx14 cl ?_ h2 (fun y hy => ?_) (fun p hp => h4 p (List.mem_cons_of_mem _ hp)))
       · rw [List.forIn_cons]
         simp only [BEq.rfl, if_true, cellOf, hx, pure_bind]
         exact h1
       · rcases List.mem_cons.mp hy with q | q
         · cases q; exact ⟨c, h4 _ List.mem_cons_self⟩
         · exact h3 y q
     · refine ob14 (ih cs (fun y hy => hn y (List.mem_cons_of_mem _ hy)) hc) ?_; rintro cl h1 h2 h3 h4
       refine (mx14 cl ?_ h2 (fun y hy => ?_) h4)
       · rw [List.forIn_cons]
         have : (k == NameKind.free) = false := beq_eq_false_iff_ne.mpr hk
         simp only [this, Bool.false_eq_true, if_false, pure_bind]
         exact h1
       · rcases List.mem_cons.mp hy with q | q
         · cases q; exact absurd rfl hk
         · exact h3 y q
 refine ob14 (key scope.names [] hf (fun _ _ h => by (exfalso; cases h))) ?_; rintro cl h1 h2 h3 _
 refine (mx13 cl ?_ h2 h3)
 simp only [closureFor]
 show ((forIn scope.names [] fun (x : Str × NameKind) (r : List (Str × Addr)) => _) >>= _) = _
 refine Eq.trans (congrArg (· >>= _) h1) ?_
 rfl
end Mine
namespace Mine
variable {C : Cx}
noncomputable def dget (p : Poly) (k : List Int) : Option Rat := (p.find? fun x => decide (x.1 = k)).map (·.2)
noncomputable def dput (p : Poly) (k : List Int) (r : Rat) : Poly := if (dget p k).isSome then p.map (fun x => if x.1 = k then (x.1, r) else x) else p ++ [(k, r)]
noncomputable abbrev knd (C : Cx) : HeapKind C.prog C.w (List Int) := tupleKind (intKind C.prog C.w)
theorem itemsAre {us : List Value} {ks : List Int} (h : IntsAre us ks) : ItemsAre (intKind C.prog C.w) ks us := by
 induction h with
 | nil => exact .nil
 | cons n t _ ih => exact .cons (by simp [intKind, Value.isInt]) ih
theorem itemsAre' {us : List Value} {ks : List Int} (h : ItemsAre (intKind C.prog C.w) ks us) : IntsAre us ks := by
 induction h with
 | nil => exact .nil
 | cons h _ ih => refine ob11 (Value.isInt_shape h) ?_; rintro t rfl; exact .cons _ t ih
theorem TupI.key {g : Fz} {ks a} {h : Heap} (x : TupI g ks (.ref a)) (sub : ∀ a o, g a = some o → h.get? a = some o) : (knd C).is h ks a := by
 refine ob45 x ?_; clear x; rintro a' o items n e ho hc hd hi
 cases e
 exact ⟨o, items, n, sub _ _ ho, hc, hd, itemsAre hi⟩
inductive XR (g : Fz) : Poly → List (List Int × Addr × Value) → Prop
 | nil : XR g [] []
 | cons {k r a v p xs} : TupI g k (.ref a) → TupI g [r.num, (r.den : Int)] v → XR g p xs → XR g ((k, r) :: p) ((k, a, v) :: xs)
theorem XR.of {g : Fz} {p : Poly} {es : List DictEntry} (h : EntRs g p es) : ∃ xs, XR g p xs ∧ es = xs.map (entryOfKey (knd C)) := by
 induction h with
 | nil => exact (mx12 [] .nil rfl)
 | @cons x e p es a _ ih =>
   refine ob12 ih ?_; clear ih; rintro xs h1 h2
   obtain ⟨k, r⟩ := x
   obtain ⟨hh, hk, hv⟩ := a
   obtain ⟨ka, rest⟩ : ∃ a, e.key = .ref a := by refine ob42 hk ?_; clear hk; rintro a _ _ _ q _; exact ⟨a, q⟩
   refine (mx12 ((k, ka, e.val) :: xs) (.cons (rest ▸ hk) hv h1) ?_)
   rw [List.map_cons, ← h2]
   congr 1
   obtain ⟨eh, ek, ev⟩ := e
   simp only at hh rest
   subst rest hh
   rfl
theorem XR.ents {g : Fz} {p : Poly} {xs} (h : XR g p xs) : EntRs g p (xs.map (entryOfKey (knd C))) := by
 induction h with
 | nil => exact .nil
 | cons a b _ ih => exact .cons ⟨rfl, a, b⟩ ih
theorem XR.keys {g : Fz} {p : Poly} {xs} (h : XR g p xs) : xs.map (·.1) = p.map (·.1) := by
 induction h with
 | nil => rfl
 | cons _ _ _ ih => simp [ih]
theorem XR.len {g : Fz} {p : Poly} {xs} (h : XR g p xs) : xs.length = p.length := by
 induction h with
 | nil => rfl
 | cons _ _ _ ih => simp [ih]
theorem XR.is {g : Fz} {p : Poly} {xs} {h' : Heap} (h : XR g p xs) (sub : ∀ a o, g a = some o → h'.get? a = some o) : ∀ x ∈ xs, (knd C).is h' x.1 x.2.1 := by
 induction h with
 | nil => intro x hx; (exfalso; cases hx)
 | cons a _ _ ih =>
   intro x hx
   rcases List.mem_cons.mp hx with rfl | hx
   · exact a.key sub
   · exact ih x hx
theorem XR.mono {g g' : Fz} (L : Le g g') {p : Poly} {xs} (h : XR g p xs) : XR g' p xs := by
 induction h with
 | nil => exact .nil
 | cons a b _ ih => exact .cons (a.mono L) (b.mono L) ih
theorem XR.atNone {g : Fz} {p : Poly} {xs} (h : XR g p xs) (k : List Int) : atKey xs k = none ↔ dget p k = none := by
 induction h with
 | nil => simp [atKey, dget]
 | @cons k' r a v p xs _ _ _ ih =>
   by_cases e : k' = k
   · simp [atKey, dget, e]
   · simpa [atKey, dget, e] using ih
theorem XR.atSome {g : Fz} {p : Poly} {xs} (h : XR g p xs) {k : List Int} {q} (hq : atKey xs k = some q) : ∃ r, dget p k = some r ∧ TupI g [r.num, (r.den : Int)] q.2 := by
 induction h with
 | nil => simp [atKey] at hq
 | @cons k' r a v p xs _ hv _ ih =>
   by_cases e : k' = k
   · simp [atKey, e] at hq
     subst hq
     exact (mx12 r (by simp [dget, e]) hv)
   · have := ih (by simpa [atKey, e] using hq)
     simpa [dget, e] using this
theorem XR.isSome {g : Fz} {p : Poly} {xs} (h : XR g p xs) (k : List Int) : (atKey xs k).isSome = (dget p k).isSome := by
 have := h.atNone k
 cases h1 : atKey xs k with
 | none => rw [this.mp h1]; rfl
 | some q => refine ob12 (h.atSome h1) ?_; rintro r hr _; rw [hr]; rfl
theorem XR.snoc {g : Fz} {p : Poly} {xs} (h : XR g p xs) {k r a v} (h1 : TupI g k (.ref a)) (h2 : TupI g [r.num, (r.den : Int)] v) : XR g (p ++ [(k, r)]) (xs ++ [(k, a, v)]) := by
 induction h with
 | nil => exact .cons h1 h2 .nil
 | cons a b _ ih => exact .cons a b ih
theorem XR.put {g : Fz} {p : Poly} {xs} (h : XR g p xs) {k r a v} (h1 : TupI g k (.ref a)) (h2 : TupI g [r.num, (r.den : Int)] v) : XR g (dput p k r) (storedH xs k a v) := by
 unfold dput storedH
 rw [h.isSome k]
 split
 · clear h1
   rename_i h1
   clear h1
   induction h with
   | nil => exact .nil
   | @cons k' r' a' v' p xs b c _ ih =>
     rw [List.map_cons, List.map_cons]
     by_cases e : k' = k
     · simp only [putAt, e, if_true]; exact .cons (e ▸ b) h2 ih
     · simp only [putAt, e, if_false]; exact .cons b c ih
 · exact h.snoc h1 h2
theorem storedH_keys {xs : List (List Int × Addr × Value)} {k a v} (h : (xs.map (·.1)).Nodup) : ((storedH xs k a v).map (·.1)).Nodup := by
 unfold storedH
 split
 · rw [keys_map_putAt]; exact h
 · rename_i hn
   rw [List.map_append, List.nodup_append]
   refine (mx03 h (by simp) (fun x hx y hy => ?_))
   simp only [List.map_cons, List.map_nil, List.mem_singleton] at hy
   subst hy
   rintro rfl
   refine ob12 (List.mem_map.mp hx) ?_; rintro z hz e
   have : (atKey xs x).isSome = true := by
     have : (xs.find? fun y => decide (y.1 = x)).isSome = true := by rw [List.find?_isSome]; exact (mx12 z hz (by simp [e]))
     simp only [atKey, Option.isSome_map]; exact this
   exact hn this
theorem DR.ofH {g : Fz} {p : Poly} {o : Obj} {h : Heap} {d : Addr} (D : DR g p o) (ho : h.get? d = some o) (sub : ∀ a o, g a = some o → h.get? a = some o) :
   ∃ xs, XR g p xs ∧ h.DictOfH (knd C) d xs := by
 obtain ⟨ex, ⟨es, n, hd, hE⟩, nd⟩ := D
 refine ob12 (XR.of (C := C) hE) ?_; rintro xs hx he
 exact ⟨xs, hx, o, es, n, ho, ex, hd, he, hx.is sub, by rw [hx.keys]; exact nd⟩
theorem DR.toH {g : Fz} {p : Poly} {h : Heap} {d : Addr} {xs} (hx : XR g p xs) (D : h.DictOfH (knd C) d xs) : ∃ o, h.get? d = some o ∧ DR g p o := by
 refine ob36 D ?_; clear D; rintro o es n ho ex hd he _ nd
 refine ⟨o, ho, ex, (mx22 es n hd ?_), by rw [← hx.keys]; exact nd⟩
 rw [he]; exact hx.ents
section
variable {n : Nat} {σ : Sg} {Q : V → Sg → Prop}
theorem I_dct {v : V} {P : Poly} {k : List Int} {r : Rat} {value slice : Expr} (hl : look σ v = .dct P) (hk : dget P k = some r) (h : Q (rv r) σ)
   (hs : ∀ a b, subscripted slice false (.ref a) (.ref b) = operate [.ref a, .ref b] (getItem (.ref a) (.ref b))) :
   Op2 C n (subscriptTail value slice) v (itup k) σ Q := fun A g s u w R S Va Vb => by
 refine ob25 (is_dict S Va hl) ?_; rintro a o rfl hns ho hD _
 refine ob12 (hD.ofH (C := C) ho S.sub) ?_; rintro xs hx hm
 have hT := Vb.tupI
 obtain ⟨b, rest⟩ : ∃ b, w = .ref b := by refine ob42 hT ?_; clear hT; rintro b _ _ _ q _; exact ⟨b, q⟩
 subst rest
 cases hp : atKey xs k with
 | none => rw [(hx.atNone k).mp hp] at hk; (exfalso; cases hk)
 | some q =>
   refine ob12 (hx.atSome hp) ?_; rintro r' hr' T
   rw [hk] at hr'; cases hr'
   refine tail_any hm.typeIs slot_dict_getitem.lookup (wpAny_getItem_heap (tupleKind_room_in1 R.lt1) (hT.key S.sub) hm hp ⟨g, rv r, σ, .toks .., S, T.vr, h⟩) (hs a b)
theorem O_in {v : V} {P : Poly} {k : List Int} (hl : look σ v = .dct P) (h : Q (.bool (dget P k).isSome) σ) : Op2 C n (compareOp .In) (itup k) v σ Q := fun A g s u w R S Vb Va => by
 refine ob25 (is_dict S Va hl) ?_; rintro a o rfl hns ho hD _
 refine ob12 (hD.ofH (C := C) ho S.sub) ?_; rintro xs hx hm
 have hT := Vb.tupI
 obtain ⟨b, rest⟩ : ∃ b, u = .ref b := by refine ob42 hT ?_; clear hT; rintro b _ _ _ q _; exact ⟨b, q⟩
 subst rest
 refine wpAny_in_heap (tupleKind_room_in1 R.lt1) (hT.key S.sub) (by simpa using hns) hm ?_
 rw [hx.isSome k]
 exact ⟨g, _, σ, .toks .., S, .bool _, h⟩
theorem O_set {a : Addr} {P : Poly} {o : Obj} {k : List Int} {r : Rat} {Q : Sg → Prop} (ha : σ a = some (.dct P, o)) (hsz : P.length ≤ sizeLine) (h : ∀ o, Q (upd σ a (.dct (dput P k r)) o)) :
   Op3 C n setItem (.ref a) (itup k) (rv r) σ Q := fun A g s u w z R S Va Vb Vc => by
 refine Va.cr ?_
 refine ob04 (S.own a _ _ ha) ?_; rintro gn hns ho hO
 cases hO with
 | dct hD =>
   refine ob12 (hD.ofH (C := C) ho S.sub) ?_; rintro xs hx hm
   have hT := Vb.tupI
   obtain ⟨b, rest⟩ : ∃ b, w = .ref b := by refine ob42 hT ?_; clear hT; rintro b _ _ _ q _; exact ⟨b, q⟩
   subst rest
   refine wpAny_setItem_heap (tupleKind_room_in1 R.lt1) (hT.key S.sub) hm (fun h' hm' hs' => ?_) (by rw [hx.len]; exact hsz)
   refine ob12 (DR.toH (C := C) (hx.put hT (VR.tupI Vc)) hm') ?_; rintro o' ho' hD'
   refine ob02 (S.change ha hs' ho' (.dct hD') (s.toks + (knd C).draws k)) ?_; rintro X S'
   exact (mx23 g _ X S' (h o'))
end
end Mine
namespace Mine
variable {C : Cx}
theorem Ext.step {g g' g'' : Fz} {σ σ' : Sg} {s s' s'' : Shared} {wr : List Addr} (X : Ext g σ s g' σ' s') (L : Le g' g'') (nw : ∀ a o, g'' a = some o → g' a = some o ∨ (s'.heap.get? a = none ∧ s''.heap.get? a = some o))
   (h : ∀ b ∈ wr, s.heap.get? b = none) (k : ∀ b o, b ∉ wr → s'.heap.get? b = some o → s''.heap.get? b = some o) (hg : s''.gens = s'.gens) (ho : s''.os = s'.os) : Ext g σ s g'' σ' s'' where
 le := X.le.trans L
 keep := fun a o e n => k a o (fun q => by rw [h a q] at e; cases e) (X.keep a o e n)
 alive := fun a o e => let ⟨o', e'⟩ := X.alive a o e; ⟨o', k a o' (fun q => by rw [h a q] at e; cases e) e'⟩
 sig := X.sig
 frz := fun a o e n q => by
   have q' := X.frz a o e n q
   cases r : g'' a with
   | none => rfl
   | some o' =>
     rcases nw a o' r with z | z
     · rw [q'] at z; (exfalso; cases z)
     · rw [X.keep a o e n] at z; (exfalso; cases z.1)
 gens := hg.trans X.gens
 os := ho.trans X.os
theorem Ext.fresh {P : Addr → Prop} {g g' g'' : Fz} {σ σ' σ'' : Sg} {s s' s'' : Shared} (X : Ext g σ s g' σ' s') (Y : ExtF P g' σ' s' g'' σ'' s'') (h : ∀ b, P b → s.heap.get? b = none) : Ext g σ s g'' σ'' s'' where
 le := X.le.trans Y.le
 keep := fun a o e n => Y.keep a o (X.keep a o e n) (X.sig a o e n) fun q => by rw [h a q] at e; cases e
 alive := fun a o e => let ⟨o', e'⟩ := X.alive a o e; Y.alive a o' e'
 sig := fun a o e n => Y.sig a o (X.keep a o e n) (X.sig a o e n)
 frz := fun a o e n k => Y.frz a o (X.keep a o e n) (X.sig a o e n) (X.frz a o e n k)
 gens := Y.gens.trans X.gens
 os := Y.os.trans X.os
theorem ExtF.toExt {P : Addr → Prop} {g g' : Fz} {σ σ' : Sg} {s s' : Shared} (Y : ExtF P g σ s g' σ' s') (h : ∀ b, ¬ P b) : Ext g σ s g' σ' s' :=
 ⟨Y.le, fun a o e n => Y.keep a o e n (h a), Y.alive, Y.sig, Y.frz, Y.gens, Y.os⟩
theorem ExtF.fresh' {P P' : Addr → Prop} {g g' : Fz} {σ σ' : Sg} {s s' : Shared} (Y : ExtF P g σ s g' σ' s') (h : ∀ b, P b → P' b ∨ s.heap.get? b = none) : ExtF P' g σ s g' σ' s' :=
 ⟨Y.le, fun a o e n f => Y.keep a o e n (fun p => (h a p).elim f fun q => by rw [q] at e; cases e), Y.alive, Y.sig, Y.frz, Y.gens, Y.os⟩
theorem ExtF.step {F : Addr → Prop} {g g' g'' : Fz} {σ σ' : Sg} {s s' s'' : Shared} {wr : List Addr} (X : ExtF F g σ s g' σ' s') (L : Le g' g'') (nw : ∀ a o, g'' a = some o → g' a = some o ∨ (s'.heap.get? a = none ∧ s''.heap.get? a = some o))
   (h : ∀ b ∈ wr, s.heap.get? b = none) (k : ∀ b o, b ∉ wr → s'.heap.get? b = some o → s''.heap.get? b = some o) (hg : s''.gens = s'.gens) (ho : s''.os = s'.os) : ExtF F g σ s g'' σ' s'' where
 le := X.le.trans L
 keep := fun a o e n f => k a o (fun q => by rw [h a q] at e; cases e) (X.keep a o e n f)
 alive := fun a o e => let ⟨o', e'⟩ := X.alive a o e; ⟨o', k a o' (fun q => by rw [h a q] at e; cases e) e'⟩
 sig := X.sig
 frz := fun a o e n q => by
   have q' := X.frz a o e n q
   cases r : g'' a with
   | none => rfl
   | some o' =>
     rcases nw a o' r with z | z
     · rw [q'] at z; (exfalso; cases z)
     · refine ob11 (X.alive a o e) ?_; rintro o' e'
       rw [e'] at z; (exfalso; cases z.1)
 gens := hg.trans X.gens
 os := ho.trans X.os
theorem SR.adopt {g : Fz} {σ : Sg} {h : Heap} (S : SR C g σ h) {a : Addr} {v : V} {o : Obj} (h1 : g a = none) (h2 : a ≠ sysModules) (h3 : h.get? a = some o) (h4 : OR g v o) : SR C g (upd σ a v o) h where
 base := S.base
 sub := S.sub
 own := fun b v' o' q => by
   by_cases z : b = a
   · subst z; rw [upd_same] at q; cases q; exact (mx04 h1 h2 h3 h4)
   · rw [upd_ne _ _ _ z] at q; exact S.own b v' o' q
theorem Ext.adopt {g g' : Fz} {σ σ' : Sg} {s s' : Shared} (X : Ext g σ s g' σ' s') {a : Addr} (h : s.heap.get? a = none) (v o) : Ext g σ s g' (upd σ' a v o) s' :=
 ⟨X.le, X.keep, X.alive, fun b o' e n => by
   have : b ≠ a := fun z => by rw [z, h] at e; cases e
   rw [upd_ne _ _ _ this]; exact X.sig b o' e n, X.frz, X.gens, X.os⟩
noncomputable def Tests (C : Cx) (n : Nat) (env : Env) (e : Vars) : List Expr → Sg → (Bool → Sg → Prop) → Prop
 | [], σ, Q => Q true σ
 | [c], σ, Q => TE C n env e c σ Q
 | _, _, _ => False
section
variable {α : Type} {n : Nat}
noncomputable def EmitOK (C : Cx) (n : Nat) (cenv : Env) (R : Fz → α → Obj → Prop) (D : Addr) (emit : Sem Unit) (e : Vars) (acc : α) (σ : Sg) (Q : α → Vars → Sg → Prop) : Prop :=
 ∀ A g s o, Room A n → SR C g σ s.heap → FR C cenv e g σ s.heap → σ D = none → g D = none → D ≠ cenv.locals → (∀ x, cenv.cells.lookup x ≠ some D) → s.heap.get? D = some o → R g acc o →
   wpAny (model C.prog C.w) A emit (fun _ s' => ∃ g' σ' acc' o' e', ExtF (fun a => a = cenv.locals ∨ a = D) g σ s g' σ' s' ∧ SR C g' σ' s'.heap ∧ FR C cenv e' g' σ' s'.heap ∧ s'.heap.get? D = some o' ∧ R g' acc' o' ∧ Q acc' e' σ') noE s
noncomputable def CompL (C : Cx) (n : Nat) (cenv : Env) (target : Expr) (ifs : List Expr) (E : Vars → α → Sg → (α → Vars → Sg → Prop) → Prop) (own : List Addr) (K : α → Vars → Sg → Prop) : List V → α → Vars → Sg → Prop
 | [], acc, e, σ => K acc e σ
 | x :: xs, acc, e, σ => ∃ e₁, Bind target x e e₁ ∧ Tests C n cenv e₁ ifs σ fun b σ₁ =>
     (b = true → E e₁ acc σ₁ fun acc' e₂ σ₂ => (∀ a ∈ own, σ₂ a = σ a) ∧ CompL C n cenv target ifs E own K xs acc' e₂ σ₂) ∧ (b = false → (∀ a ∈ own, σ₁ a = σ a) ∧ CompL C n cenv target ifs E own K xs acc e₁ σ₁)
noncomputable def turnOf (target iter : Expr) (ifs : List Expr) (it : Value) (cenv : Env) (emit : Sem Unit) (c : Code) : Sem Fin :=
 standAt iter.pos >>= fun _ => pyNext it >>= fun r => match r with
   | none => pure (.done .next)
   | some v => do
     letOwnedTupleGo target it v
     assign target cenv v
     let mut ok := true
     for c in ifs do
       if ok then ok ← isTrue c cenv (eval c cenv)
     if ok then emit
     again c
theorem tests_ {cenv : Env} {e : Vars} {σ : Sg} {g : Fz} {s : Shared} {A : Around} {ifs : List Expr} {Q : Bool → Sg → Prop} (h : Tests C n cenv e ifs σ Q) (R : Room A n) (S : SR C g σ s.heap) (F : FR C cenv e g σ s.heap) :
   wpAny (model C.prog C.w) A (forIn ifs true fun c r => if r = true then do let ok ← isTrue c cenv (eval c cenv); pure (ForInStep.yield ok) else pure (ForInStep.yield r)) (PstB C g σ s Q) noE s := by
 match ifs, h with
 | [], h => exact wpAny_pure ⟨g, σ, .refl .., S, h⟩
 | [c], h =>
   rw [List.forIn_cons]
   simp only [if_true]
   refine wpAny_bind (wpAny_bind (wpAny_mono (h A g s R S F) (fun b s' p => wpAny_pure ?_) fun _ _ x => x))
   show wpAny _ _ (forIn [] b _) _ _ _
   rw [List.forIn_nil]
   exact wpAny_pure p
inductive CmpI (C : Cx) (n : Nat) (cenv : Env) (target : Expr) (ifs : List Expr) (R : Fz → α → Obj → Prop) (E : Vars → α → Sg → (α → Vars → Sg → Prop) → Prop) (own wr : List Addr) (St : Nat → Heap → Prop) (D : Addr) (xs : List V) (K : α → Vars → Sg → Prop) (g g₂ : Fz) (σ σ₂ : Sg) (s : Shared) (k : Nat) (s' : Shared) : Prop
 | mk (i : Nat) (g' : Fz) (e' : Vars) (σ' : Sg) (acc : α) (o : Obj) (hk : k = xs.length + 1 - i) (hi : i ≤ xs.length) (X : ExtF (fun a => a = cenv.locals ∨ a = D) g σ s g' σ' s') (L : Le g₂ g') (S : SR C g' σ' s'.heap) (F : FR C cenv e' g' σ' s'.heap) (st : St i s'.heap)
     (hw : ∀ b ∈ wr, σ' b = none ∧ g' b = none) (ho : ∀ b ∈ own, σ' b = σ₂ b) (h1 : σ' D = none) (h2 : g' D = none) (h3 : s'.heap.get? D = some o) (hr : R g' acc o) (hK : CompL C n cenv target ifs E own K (xs.drop i) acc e' σ') : CmpI C n cenv target ifs R E own wr St D xs K g g₂ σ σ₂ s k s'
theorem comp_loop {RR : Result → Shared → Prop} {ee target iter : Expr} {ifs : List Expr} {it : Value} {D : Addr} {cenv : Env} {emit : Sem Unit} {R : Fz → α → Obj → Prop} {E : Vars → α → Sg → (α → Vars → Sg → Prop) → Prop} {dp : Nat} {A : Around}
   {own fp wr : List Addr} {St : Nat → Heap → Prop} {xs : List V} {K : α → Vars → Sg → Prop} {g g₂ : Fz} {σ σ₂ : Sg} {s s₂ : Shared} {ec : Vars} {acc : α} {o : Obj}
   (hq : (Code.compLoop ee dp it (.ref D) cenv).quiet = true) (hA : A.under (.compLoop ee dp it (.ref D) cenv) = A)
   (hden : (model C.prog C.w).den (.compLoop ee dp it (.ref D) cenv) = (turnOf target iter ifs it cenv emit (.compLoop ee dp it (.ref D) cenv)).onRaise (fun x => do noteFrame x cenv; theTreesLotGoes x))
   (mono : ∀ {g g' a o}, Le g g' → R g a o → R g' a o) (hemit : ∀ e acc σ Q, E e acc σ Q → EmitOK C n cenv R D emit e acc σ Q)
   (Rm : Room A n) (hloc : ∀ y ∈ tnames target, cenv.kindOf y = some .local)
   (X : ExtF (fun a => a = cenv.locals ∨ a = D) g σ s g₂ σ₂ s₂) (S : SR C g₂ σ₂ s₂.heap) (F : FR C cenv ec g₂ σ₂ s₂.heap) (W : Iter C A target it xs g₂ fp wr St) (st : St 0 s₂.heap)
   (hwr : ∀ b ∈ wr, s.heap.get? b = none ∧ σ₂ b = none ∧ g₂ b = none) (hfp : ∀ b ∈ fp, b ∈ wr ∨ (∃ o, g₂ b = some o) ∨ (b ∈ own ∧ ∃ p, σ₂ b = some p))
   (hDf : D ∉ fp) (hLf : cenv.locals ∉ fp) (hDL : D ≠ cenv.locals) (hDc : ∀ x, cenv.cells.lookup x ≠ some D) (hcw : ∀ b ∈ wr, ∀ x, cenv.cells.lookup x ≠ some b)
   (hσD : σ₂ D = none) (hgD : g₂ D = none) (hoD : s₂.heap.get? D = some o) (hacc : R g₂ acc o) (hK : CompL C n cenv target ifs E own K xs acc ec σ₂)
   (hR : ∀ g' σ' s' acc o e', ExtF (fun a => a = cenv.locals ∨ a = D) g σ s g' σ' s' → SR C g' σ' s'.heap → FR C cenv e' g' σ' s'.heap → σ' D = none → g' D = none → s'.heap.get? D = some o → R g' acc o → K acc e' σ' → RR (.ok .next) s') :
   codeAny (model C.prog C.w) A (.compLoop ee dp it (.ref D) cenv) RR s₂ := by
 refine codeAny_loop hq (CmpI C n cenv target ifs R E own wr St D xs K g g₂ σ σ₂ s) ?_ (xs.length + 1) ?_
 · rintro k s' ⟨i, g', e', σ', acc, o, rfl, hi, X', L', S', F', st', hw', ho', hσD', hgD', hoD', hacc', hK'⟩
   rw [hA, hden]
   refine wpAny_noted ?_
   refine wpAny_bind (wpAny_standAt (wpAny_bind ?_))
   have hDw : D ∉ wr := fun h => hDf (W.sub _ h)
   have hLw : cenv.locals ∉ wr := fun h => hLf (W.sub _ h)
   rcases Nat.lt_or_ge i xs.length with hlt | hge
   · have hx : xs[i]? = some xs[i] := List.getElem?_eq_getElem hlt
     rw [List.drop_eq_getElem_cons hlt] at hK'
     refine ob12 hK' ?_; clear hK'; rintro e₁ hB hb
     refine wpAny_mono (W.item i xs[i] s' g' (fun v s'' => wpAny (model C.prog C.w) A (assign target cenv v) (fun _ s₃ => wpAny (model C.prog C.w) A (forIn ifs true fun c r => if r = true then do let ok ← isTrue c cenv (eval c cenv); pure (ForInStep.yield ok) else pure (ForInStep.yield r)) (fun ok s₄ =>
         if ok = true then wpAny (model C.prog C.w) A emit (fun _ s' => ∃ m, m < xs.length + 1 - i ∧ CmpI C n cenv target ifs R E own wr St D xs K g g₂ σ σ₂ s m s') noE s₄ else ∃ m, m < xs.length + 1 - i ∧ CmpI C n cenv target ifs R E own wr St D xs K g g₂ σ σ₂ s m s₄) noE s₃) noE s'') hx st' L' S'.sub ?_) ?_ fun _ _ x => x.elim
     · intro v s'' g'' st'' V'' L'' nw k hg hos
       have hlv : ∀ b ∈ wr, ∃ o, s''.heap.get? b = some o := W.live _ _ st''
       have S'' : SR C g'' σ' s''.heap := S'.step hw' L'' nw k
       have F'' : FR C cenv e' g'' σ' s''.heap := F'.le L'' (fun a o q z => k a o (fun hb => by
         rcases z with z | ⟨x, z⟩
         · exact hLw (z ▸ hb)
         · exact hcw a hb x z) q) fun a o q => (nw a o q).imp id fun q => q.1
       have X'' : ExtF (fun a => a = cenv.locals ∨ a = D) g σ s g'' σ' s'' := X'.step L'' nw (fun b hb => (hwr b hb).1) k hg hos
       have hw'' := step_wr hw' (W.live _ _ st') nw
       have hgD'' : g'' D = none := by
         cases q : g'' D with
         | none => rfl
         | some o' =>
           rcases nw D o' q with z | z
           · rw [hgD'] at z; (exfalso; cases z)
           · rw [hoD'] at z; (exfalso; cases z.1)
       have hoD'' := k D o hDw hoD'
       have fin : ∀ s₅ g₅ σ₅, ExtF (fun a => a = cenv.locals ∨ a = D) g'' σ' s'' g₅ σ₅ s₅ → SR C g₅ σ₅ s₅.heap → (∀ a ∈ own, σ₅ a = σ' a) →
           ExtF (fun a => a = cenv.locals ∨ a = D) g σ s g₅ σ₅ s₅ ∧ Le g₂ g₅ ∧ St (i + 1) s₅.heap ∧ (∀ b ∈ wr, σ₅ b = none ∧ g₅ b = none) ∧ (∀ b ∈ own, σ₅ b = σ₂ b) ∧ σ₅ D = none ∧ g₅ D = none := by
         intro s₅ g₅ σ₅ Y S₅ hown
         refine (mx07 (X''.trans Y) ((L'.trans L'').trans Y.le) (W.frame _ _ _ st'' fun b hb o q => ?_) (fun b hb => ?_) (fun b hb => (hown b hb).trans (ho' b hb)) (Y.sig D _ hoD'' hσD') (Y.frz D _ hoD'' hσD' hgD''))
         · rcases hfp b hb with z | ⟨o', z⟩ | ⟨hbo, p, hp⟩
           · exact Y.keep b o q (hw'' b z).1 fun y => y.elim (fun y => hLw (y ▸ z)) (fun y => hDw (y ▸ z))
           · have q1 := L'.trans L'' b o' z
             have := S''.sub _ _ q1
             rw [q] at this; cases this
             exact S₅.sub _ _ (Y.le _ _ q1)
           · have e1 : σ' b = some p := by rw [ho' b hbo]; exact hp
             have e2 : σ₅ b = some p := by rw [hown b hbo]; exact e1
             have a1 := (S''.own b p.1 p.2 e1).2.2.1
             have a2 := (S₅.own b p.1 p.2 e2).2.2.1
             rw [q] at a1; cases a1; exact a2
         · refine ob11 (hlv b hb) ?_; rintro o ho
           exact ⟨Y.sig b o ho (hw'' b hb).1, Y.frz b o ho (hw'' b hb).1 (hw'' b hb).2⟩
       refine bindL_ hloc hB Rm S'' F'' V'' fun s₃ X₃ S₃ F₃ => ?_
       refine wpAny_mono (tests_ hb Rm S₃ F₃) ?_ fun _ _ x => x.elim
       rintro ok s₄ ⟨g₄, σ₄, X₄, S₄, hb1, hb2⟩
       have Y₄ : ExtF (fun a => a = cenv.locals ∨ a = D) g'' σ' s'' g₄ σ₄ s₄ := (X₃.wider fun a z => .inl z).trans (X₄.toF _)
       have hoD₃ := X₃.keep D o hoD'' hσD' hDL
       have hoD₄ := X₄.keep D o hoD₃ hσD'
       have hσ₄ := X₄.sig D o hoD₃ hσD'
       have hg₄ := X₄.frz D o hoD₃ hσD' hgD''
       have R₄ : R g₄ acc o := mono (L''.trans X₄.le) hacc'
       cases ok with
       | false =>
         refine ob02 (hb2 rfl) ?_; rintro hown hK₄
         refine ob07 (fin s₄ g₄ σ₄ Y₄ S₄ hown) ?_; rintro a1 a2 a3 a4 a5 a6 a7
         exact mx12 (xs.length + 1 - (i + 1)) (by exact li2 (sA (xs.length + 1) i) (sL (show (i + 1) ≤ (xs.length + 1) from (li1 hlt)))) ⟨i + 1, g₄, e₁, σ₄, acc, o, rfl, hlt, a1, a2, S₄, F₃.ext X₄, a3, a4, a5, a6, a7, hoD₄, R₄, hK₄⟩
       | true =>
         refine wpAny_mono (hemit _ _ _ _ (hb1 rfl) A g₄ s₄ o Rm S₄ (F₃.ext X₄) hσ₄ hg₄ hDL hDc hoD₄ R₄) ?_ fun _ _ x => x.elim
         rintro _ s₅ z1; refine ob57 z1 ?_; clear z1; rintro g₅ σ₅ acc₅ o₅ e₅ X₅ S₅ F₅ hoD₅ R₅ hown hK₅
         refine ob07 (fin s₅ g₅ σ₅ (Y₄.trans X₅) S₅ hown) ?_; rintro a1 a2 a3 a4 a5 a6 a7
         exact mx12 (xs.length + 1 - (i + 1)) (by exact li2 (sA (xs.length + 1) i) (sL (show (i + 1) ≤ (xs.length + 1) from (li1 hlt)))) ⟨i + 1, g₅, e₅, σ₅, acc₅, o₅, rfl, hlt, a1, a2, S₅, F₅, a3, a4, a5, a6, a7, hoD₅, R₅, hK₅⟩
     · rintro r s₁ z1; refine ob12 z1 ?_; clear z1; rintro v rfl hgo
       refine wpAny_bind (wpAny_mono hgo (fun _ s₂' h₂ => wpAny_bind (wpAny_mono h₂ (fun _ s₃ h₃ => wpAny_bind (wpAny_mono h₃ (fun ok s₄ h₄ => ?_) fun _ _ x => x.elim)) fun _ _ x => x.elim)) fun _ _ x => x.elim)
       cases ok with
       | true => exact wpAny_bind (wpAny_mono h₄ (fun _ s₅ h₅ => wpAny_pure ⟨rfl, h₅⟩) fun _ _ x => x.elim)
       | false => exact wpAny_pure ⟨rfl, h₄⟩
   · have hie : i = xs.length := Nat.le_antisymm hi hge
     subst hie
     refine wpAny_mono (W.done s' (RR (.ok .next)) st' ?_) ?_ fun _ _ x => x.elim
     · intro s'' k hg hos
       have S'' : SR C g' σ' s''.heap := S'.step hw' (.refl _) (fun a o q => .inl q) k
       have F'' : FR C cenv e' g' σ' s''.heap := F'.le (.refl _) (fun a o q z => k a o (fun hb => by
         rcases z with z | ⟨x, z⟩
         · exact hLw (z ▸ hb)
         · exact hcw a hb x z) q) fun a o q => .inl q
       rw [List.drop_length] at hK'
       exact hR g' σ' s'' acc o e' (X'.step (.refl _) (fun a o q => .inl q) (fun b hb => (hwr b hb).1) k hg hos) S'' F'' hσD' hgD' (k D o hDw hoD') hacc' hK'
     · rintro r s₁ z1; refine ob02 z1 ?_; clear z1; rintro rfl q
       exact wpAny_pure q
 · exact ⟨0, g₂, ec, σ₂, acc, o, rfl, Nat.zero_le _, X, .refl _, S, F, st, fun b hb => (hwr b hb).2, fun _ _ => rfl, hσD, hgD, hoD, hacc, by rw [List.drop_zero]; exact hK⟩
end
end Mine
namespace Mine
variable {C : Cx}
theorem mem_lookup {α : Type} {x : Str} : ∀ {l : List (Str × α)} {c : α}, (x, c) ∈ l → ∃ d, l.lookup x = some d
 | (y, d) :: r, c, h => by
   rw [List.lookup_cons]
   cases q : x == y with
   | true => exact ⟨d, rfl⟩
   | false =>
     rcases List.mem_cons.mp h with z | z
     · cases z; simp at q
     · exact mem_lookup z
theorem lookup_relabel {env : Env} (hk : env.scope.kind = .function) : ∀ {names : List (Str × NameKind)} {x : Str} {k : NameKind}, names.lookup x = some k → (k = .free → env.kindOf x = some .cell) →
   (names.map fun (n, k) => if (k == NameKind.free && env.scope.kind == .function && env.kindOf n == some .cell) then (n, NameKind.cell) else (n, k)).lookup x = some (if k = .free then .cell else k)
 | [], _, _, h, _ => by simp at h
 | (n, k') :: r, x, k, h, hf => by
   have ih := @lookup_relabel env hk r x k
   show List.lookup x ((if (k' == NameKind.free && env.scope.kind == .function && env.kindOf n == some .cell) = true then (n, NameKind.cell) else (n, k')) :: _) = _
   rw [List.lookup_cons] at h
   cases hx : x == n with
   | true =>
     rw [hx] at h
     cases h
     have := eq_of_beq hx
     subst this
     by_cases hz : k' = .free
     · subst hz
       have := hf rfl
       simp [List.lookup_cons, this, hk]
     · have : (k' == NameKind.free) = false := beq_eq_false_iff_ne.mpr hz
       simp [List.lookup_cons, this, hz]
   | false =>
     rw [hx] at h
     have ih := ih h hf
     split <;> simp only [List.lookup_cons, hx] <;> exact ih
section
variable {α : Type} {n : Nat} {env : Env} {e ec : Vars} {σ : Sg} {A : Around} {g : Fz} {s : Shared}
theorem comp_core {QQ : Value → Shared → Prop} {ee target iter : Expr} {ifs : List Expr} {scope : Scope} {pos : Pos} {newAcc : Sem Value} {use : Option (Value → Sem Unit)} {emit : Addr → Env → Sem Unit} {R : Fz → α → Obj → Prop}
   {E : Env → Vars → α → Sg → (α → Vars → Sg → Prop) → Prop} {rest : List Comprehension} {K : α → Sg → Prop} {acc₀ : α} {o₀ : Obj}
   (hcl : clausesOf ee = ⟨target, iter, ifs, 0⟩ :: rest) (hs : ∀ x, foldedSetIterable iter env x = pure x) (hk : scope.kind = .function) (nd : (scope.names.map (·.1)).Nodup)
   (hdb : (scope.names.all fun x => !(x.1 == ("__debug__" : Str))) = true) (hloc : (tnames target).all (fun x => scope.names.lookup x == some .local) = true) (hI : InitC C env e scope.names ec)
   (hacc : ∀ s Q, Q (.ref s.heap.objs.size) { s with heap := s.heap.push o₀ } → wpAny (model C.prog C.w) A newAcc Q noE s) (hof : o₀.isFreed = false) (hR₀ : ∀ g : Fz, R g acc₀ o₀)
   (hstart : ∀ it acc env RR s, codeAny (model C.prog C.w) A (.compLoop ee 0 it acc env) RR s → wpAny (model C.prog C.w) A (pyIter it) (fun it' s' => codeAny (model C.prog C.w) A (.compLoop ee 0 it' acc env) RR s') noE s → codeAny (model C.prog C.w) A (.compStart ee 0 it acc env) RR s)
   (hq : ∀ it D cenv, (Code.compLoop ee 0 it (.ref D) cenv).quiet = true) (hA : ∀ it D cenv, A.under (.compLoop ee 0 it (.ref D) cenv) = A)
   (hden : ∀ it D cenv, (model C.prog C.w).den (.compLoop ee 0 it (.ref D) cenv) = (turnOf target iter ifs it cenv (emit D cenv) (.compLoop ee 0 it (.ref D) cenv)).onRaise (fun x => do noteFrame x cenv; theTreesLotGoes x))
   (mono : ∀ {g g' a o}, Le g g' → R g a o → R g' a o) (hemit : ∀ cenv D, cenv.scope = relabel scope env → ∀ e acc σ Q, E cenv e acc σ Q → EmitOK C n cenv R D (emit D cenv) e acc σ Q)
   (Rm : Room A n) (S : SR C g σ s.heap) (F : FR C env e g σ s.heap)
   (h : IE C n env e target iter σ fun xs own σ₁ => ∀ cenv : Env, CompL C n cenv target ifs (E cenv) own (fun acc _ σ' => K acc σ') xs acc₀ ec σ₁)
   (hfin : ∀ g' σ' s' acc o D, Ext g σ s g' σ' s' → SR C g' σ' s'.heap → σ' D = none → g' D = none → s.heap.get? D = none → D ≠ sysModules → s'.heap.get? D = some o → R g' acc o → K acc σ' →
     match use with
     | none => QQ (.ref D) s'
     | some u => wpAny (model C.prog C.w) A (u (.ref D)) (fun _ s'' => (∀ b o, s.heap.get? b = none → b ≠ D → σ' b = none → s'.heap.get? b = some o → s''.heap.get? b = some o) ∧
         ∀ h' b, s.heap.get? b = none → b ≠ D → σ' b = none → g' b = none → Heap.SameBut b s''.heap h' → QQ .none { s'' with heap := h' }) noE s') :
   wpAny (model C.prog C.w) A (comprehension ee scope env pos newAcc false (eval iter env) use) QQ noE s := by
 have hfc : ∀ x, (x, .free) ∈ scope.names → ∃ c, env.cells.lookup x = some c := fun x hx => by
   refine ob02 (hI.frees x hx) ?_; rintro hkx z1; refine ob12 z1 ?_; clear z1; rintro v hv _
   rcases F.kinds x _ hv with hl | ⟨_, c, hc⟩
   · rw [hkx] at hl; (exfalso; cases hl)
   · exact ⟨c, hc⟩
 refine ob13 (closure_ hfc) ?_; rintro cl hclo hcl1 hcl2
 refine wpAny_comprehension_free hcl hs hclo hk (fun x hx hl => lookup_of_mem nd (by rw [← hl]; exact hx)) ?_
 refine wpAny_mono (h A g s Rm S F) (fun u s₁ h₁ => wpAny_mono h₁ ?_ fun _ _ x => x) fun _ _ x => x
 rintro it s₂ z1; refine ob77 z1 ?_; clear z1; rintro xs own g₂ σ₂ fp wr St X₂ S₂ W st hwr hfp hK
 refine hacc s₂ _ ?_
 refine wpAny_newFunctionEnv hI.noCell (by intro y hy; (exfalso; cases hy)) (fun h₁ hns₁ hsb₁ => ?_) hk
 dsimp only at hns₁ hsb₁ ⊢
 generalize hH2 : s₂.heap.push o₀ = H2 at hns₁ hsb₁ ⊢
 have hC : H2.objs.size = s₂.heap.objs.size + 1 := by rw [← hH2, Heap.size_push]
 have old : ∀ b o, s₂.heap.get? b = some o → h₁.get? b = some o := fun b o q =>
   hsb₁.extBut b o (by rw [hC]; exact Nat.ne_of_lt (Nat.lt_succ_of_lt (Heap.lt_size q))) (Heap.get?_push_of_some _ (hH2 ▸ Heap.get?_push_of_some _ q))
 have hoD : h₁.get? s₂.heap.objs.size = some o₀ := hsb₁.extBut _ _ (by rw [hC]; exact Nat.ne_of_lt (Nat.lt_succ_self _)) (Heap.get?_push_of_some _ (hH2 ▸ Heap.get?_push_size _ hof))
 refine ob02 (S₂.fresh (Nat.le_refl _)) ?_; rintro hσD hgD
 refine ob02 (S₂.fresh (b := H2.objs.size) (by rw [hC]; exact Nat.le_succ _)) ?_; rintro hσC hgC
 have hDs : s.heap.get? s₂.heap.objs.size = none := fresh_back X₂ (Nat.le_refl _)
 have hCs : s.heap.get? H2.objs.size = none := fresh_back X₂ (by rw [hC]; exact Nat.le_succ _)
 have F₂ := F.ext X₂
 have S₃ : SR C g₂ σ₂ h₁ := S₂.push old
 have hDL : s₂.heap.objs.size ≠ H2.objs.size := by rw [hC]; exact Nat.ne_of_lt (Nat.lt_succ_self _)
 refine ob12 F₂.ns ?_; rintro m₀ hn₀ hv₀
 show codeAny (model C.prog C.w) A (.compStart ee 0 it (.ref s₂.heap.objs.size) (compEnvC scope cl H2.objs.size env)) _ _
 generalize hce : compEnvC scope cl H2.objs.size env = cenv
 have hce1 : cenv.locals = H2.objs.size := by rw [← hce]; rfl
 have hce2 : cenv.cells = cl := by rw [← hce]; rfl
 have hce3 : cenv.scope = relabel scope env := by rw [← hce]; rfl
 have hcc : ∀ x c, cenv.cells.lookup x = some c → env.cells.lookup x = some c := fun x c q => hcl1 x c (by rw [hce2] at q; exact mem_of_lookup q)
 have hkind : ∀ x k, (x, k) ∈ scope.names → cenv.kindOf x = some (if k = .free then .cell else k) := fun x k hx => by
   show cenv.scope.names.lookup x = _
   rw [hce3]
   exact lookup_relabel F.kind (lookup_of_mem nd hx) fun q => (hI.frees x (q ▸ hx)).1
 have hcell : ∀ x, (x, .free) ∈ scope.names → ∃ c, cenv.cells.lookup x = some c := fun x hx => by
   refine ob11 (hcl2 x hx) ?_; rintro c hc
   rw [hce2]; exact mem_lookup hc
 have F₃ : FR C cenv ec g₂ σ₂ h₁ := by
   refine ⟨by rw [hce3]; exact hk, by rw [← hce]; exact F.globals, by rw [← hce]; exact F.builtins, by rw [hI.names]; exact nd, fun x hx => ?_, fun x t hx => ?_, (mx12 _ (hce1 ▸ hns₁) (fun x v hx => ?_)), ?_, fun x c hc => ?_, fun x y c hx hy => F.apart x y c (hcc x c hx) (hcc y c hy)⟩
   · rw [hI.names] at hx
     refine ob12 (List.mem_map.mp hx) ?_; rintro p hp rfl
     have := List.all_eq_true.mp hdb p hp
     simpa using this
   · rcases hI.slot x t hx with ⟨rfl, hn⟩ | ⟨hn, hkx, v, rfl, hv⟩ | ⟨nv, nu, hn, hg⟩
     · exact .inl (hkind x _ hn)
     · exact .inr ⟨hkind x _ hn, hcell x hn⟩
     · have hk' := hkind x _ hn
       cases t with
       | un => exact absurd rfl nu
       | val v => exact absurd rfl (nv v)
       | fn => exact ⟨hk', hg⟩
       | bi u => exact ⟨hk', hg⟩
       | con v => exact ⟨hk', hg⟩
   · rcases hI.slot x _ hx with ⟨q, hn⟩ | ⟨hn, hkx, v', q, hv⟩ | ⟨nv, nu, hn, hg⟩
     · (exfalso; cases q)
     · cases q
       refine ⟨fun hl => ?_, fun c _ hcl => ?_⟩
       · rw [hkind x _ hn] at hl; (exfalso; cases hl)
       · refine ob12 ((hv₀ x v hv).2 c hkx (hcc x c hcl)) ?_; rintro u a b
         exact (mx12 u (Heap.IsCell.of a fun o q => old _ o q) b)
     · exact absurd rfl (nv v)
   · rw [hce1]; exact ⟨hσC, hgC⟩
   · refine ob04 (F₂.cell x c (hcc x c hc)) ?_; rintro a b d z1; refine ob11 z1 ?_; clear z1; rintro v i
     refine ob12 (id i) ?_; rintro oc hoc _
     refine ⟨a, b, ?_, v, Heap.IsCell.of i fun o q => old _ o q⟩
     rw [hce1, hC]; exact Nat.ne_of_lt (Nat.lt_succ_of_lt (Heap.lt_size hoc))
 have hlive : ∀ b ∈ fp, b < s₂.heap.objs.size := fun b hb => by
   rcases hfp b hb with z | ⟨o, z⟩ | ⟨_, p, hp⟩
   · refine ob11 (W.live _ _ st b z) ?_; rintro o ho; exact Heap.lt_size ho
   · exact Heap.lt_size (S₂.sub _ _ z)
   · exact Heap.lt_size (S₂.own b p.1 p.2 hp).2.2.1
 have hDf : s₂.heap.objs.size ∉ fp := fun hb => Nat.lt_irrefl _ (hlive _ hb)
 have hLf : cenv.locals ∉ fp := fun hb => by have := hlive _ hb; rw [hce1, hC] at this; exact absurd this (Nat.not_lt.mpr (Nat.le_succ _))
 have hDc : ∀ x, cenv.cells.lookup x ≠ some s₂.heap.objs.size := fun x hx => by
   refine ob04 (F₂.cell x _ (hcc x _ hx)) ?_; rintro _ _ _ z1; refine ob22 z1 ?_; clear z1; rintro _ o q _
   exact Nat.lt_irrefl _ (Heap.lt_size q)
 have hcw : ∀ b ∈ wr, ∀ x, cenv.cells.lookup x ≠ some b := fun b hb x hx => by
   refine ob04 (F.cell x _ (hcc x _ hx)) ?_; rintro _ _ _ z1; refine ob22 z1 ?_; clear z1; rintro _ o q _
   rw [(hwr b hb).1] at q; cases q
 have hlo : ∀ y ∈ tnames target, cenv.kindOf y = some .local := fun y hy => by
   have := List.all_eq_true.mp hloc y hy
   have := mem_of_lookup (eq_of_beq this)
   exact hkind y _ this
 have X₃ : ∀ t, Ext g σ s g₂ σ₂ { s₂ with heap := h₁, toks := t } := fun t => X₂.trans (.push (fun a o q => old a o q) _ _)
 have loop : ∀ t, codeAny (model C.prog C.w) A (.compLoop ee 0 it (.ref s₂.heap.objs.size) cenv) (compPost (model C.prog C.w) A noE use QQ (.ref s₂.heap.objs.size) H2.objs.size) { s₂ with heap := h₁, toks := t } := by
   intro t
   refine comp_loop (R := R) (emit := emit s₂.heap.objs.size cenv) (s₂ := { s₂ with heap := h₁, toks := t }) (hq _ _ _) (hA _ _ _) (hden _ _ _) mono (hemit cenv s₂.heap.objs.size hce3) Rm hlo ((X₃ t).toF _) S₃ F₃ W ?_ hwr hfp hDf hLf (by rw [hce1]; exact hDL) hDc hcw hσD hgD hoD (hR₀ _) (hK cenv) ?_
   · exact W.frame _ _ _ st fun b _ o q => old b o q
   · intro g' σ' s' acc o e' XF' S' F' a1 a2 a3 a4 a5
     have X' : Ext g σ s g' σ' s' := (XF'.fresh' (P' := fun _ => False) (fun b hb => .inr (hb.elim (fun z => by rw [z, hce1]; exact hCs) fun z => by rw [z]; exact hDs))).toExt fun _ h => h
     refine ob12 F'.ns ?_; rintro m hn _
     have hloc' := F'.loc
     rw [hce1] at hn hloc'
     have hns : s₂.heap.objs.size ≠ sysModules := S₂.sys
     cases use with
     | none =>
       refine ⟨m, hn, fun h' hs' => ?_⟩
       refine hfin g' σ' { s' with heap := h' } acc o _ ?_ (S'.frame (env := env) (e := e) hs' hloc'.1 hloc'.2) a1 a2 hDs hns ((hs'.2 _ hDL).trans a3) a4 a5
       exact ⟨X'.le, fun b o q n => (hs'.2 b (fun z => by rw [z, hCs] at q; cases q)).trans (X'.keep b o q n), fun b o q => by
         refine ob11 (X'.alive b o q) ?_; rintro o' q'
         exact ⟨o', (hs'.2 b (fun z => by rw [z, hCs] at q; cases q)).trans q'⟩, X'.sig, X'.frz, X'.gens, X'.os⟩
     | some u =>
       refine wpAny_mono (hfin g' σ' s' acc o _ X' S' a1 a2 hDs hns a3 a4 a5) ?_ fun _ _ x => x
       rintro _ s'' z1; refine ob02 z1 ?_; clear z1; rintro h1 h2
       exact (mx12 m (hn.at' fun o q => h1 _ o hCs (Ne.symm hDL) hloc'.1 q) (fun h' hs' => h2 h' _ hCs (Ne.symm hDL) hloc'.1 hloc'.2 hs'))
 have W0 : ∀ t, St 0 (Shared.heap { s₂ with heap := h₁, toks := t }) := fun t => W.frame _ _ _ st fun b _ o q => old b o q
 refine hstart _ _ _ _ _ ?_ ?_
 · exact loop _
 · have e0 : wpAny (model C.prog C.w) A (pyIter it) (fun it' s' => it' = it ∧ s' = { s₂ with heap := h₁, toks := s₂.toks + 0 }) noE { s₂ with heap := h₁, toks := s₂.toks + 0 } := W.self 0 _ _ (W0 _) ⟨rfl, rfl⟩
   exact wpAny_mono e0 (fun it' s' ⟨h1, h2⟩ => by subst h1 h2; exact loop _) fun _ _ x => x.elim
end
end Mine
namespace Mine
variable {C : Cx}
noncomputable def LR (g : Fz) (acc : List V) (o : Obj) : Prop := ∃ items n, o = { cls := .type "list", data := .seq items n } ∧ VRs g acc items.toList
section
variable {n : Nat} {env : Env} {e ec : Vars} {σ : Sg}
theorem emit_list {cenv : Env} {D : Addr} {elt : Expr} {e : Vars} {acc : List V} {σ : Sg} {Q : List V → Vars → Sg → Prop} (h : EE C n cenv e elt σ fun v σ' => acc.length ≤ sizeLine ∧ Q (acc ++ [v]) e σ') :
   EmitOK C n cenv LR D (do let _ ← call (.builtin "list.append") [.ref D, ← eval elt cenv]) e acc σ Q := fun A g s o R S F hσ hg hL hc ho hR => by
 show wpAny _ A (eval elt cenv >>= fun x => call (.builtin "list.append") [.ref D, x] >>= fun _ => pure ()) _ _ s
 refine wpAny_bind (wpAny_mono (h A g s R S F) ?_ fun _ _ x => x)
 rintro u s₁ ⟨g₁, v, σ₁, X₁, S₁, V, hl, q⟩
 have ho₁ := X₁.keep D o ho hσ
 have hσ₁ := X₁.sig D o ho hσ
 have hg₁ := X₁.frz D o ho hσ hg
 refine ob22 hR ?_; clear hR; rintro items k rfl Vs
 refine wpAny_bind (wpAny_list_append_plain (hsz := by rw [← Array.length_toList, ← Vs.length]; exact hl) ⟨k, ho₁⟩ fun h' hl' hs' => wpAny_pure ?_)
 refine ob11 hl' ?_; clear hl'; rintro k' ho'
 have F₁ := F.ext X₁
 have Y : ExtF (fun a => a = cenv.locals ∨ a = D) g₁ σ₁ s₁ g₁ σ₁ { s₁ with heap := h' } :=
   ⟨.refl _, fun a o q n f => (hs'.2 a fun z => f (.inr z)).trans q, sb_alive ⟨hs', _, ho'⟩, fun _ _ _ q => q, fun _ _ _ _ q => q, rfl, rfl⟩
 have kk : ∀ a o, s₁.heap.get? a = some o → (a = cenv.locals ∨ ∃ x, cenv.cells.lookup x = some a) → h'.get? a = some o := fun a o q z => (hs'.2 a (fun y => by
   rcases z with z | ⟨x, z⟩
   · exact hL (y ▸ z)
   · exact hc x (y ▸ z))).trans q
 refine (mx56 g₁ σ₁ (acc ++ [v]) _ e ((X₁.toF _).trans Y) (S₁.frame (env := cenv) (e := e) hs' hσ₁ hg₁) (F₁.le (.refl _) kk fun a o q => .inl q) ho' ⟨_, _, rfl, ?_⟩ q)
 rw [Array.toList_push]
 exact (Vs.mono X₁.le).append (.cons V .nil)
noncomputable abbrev LE (C : Cx) (n : Nat) (elt : Expr) (cenv : Env) (e : Vars) (acc : List V) (σ : Sg) (Q : List V → Vars → Sg → Prop) : Prop := EE C n cenv e elt σ fun v σ' => acc.length ≤ sizeLine ∧ Q (acc ++ [v]) e σ'
noncomputable abbrev ListL (C : Cx) (n : Nat) (cenv : Env) (target : Expr) (ifs : List Expr) (elt : Expr) (own : List Addr) (K : List V → Sg → Prop) (xs : List V) (acc : List V) (e : Vars) (σ : Sg) : Prop :=
 CompL C n cenv target ifs (LE C n elt cenv) own (fun acc _ σ' => K acc σ') xs acc e σ
theorem LR.or {g acc o} (h : LR g acc o) : OR g (.lst acc) o := by
 refine ob22 h ?_; clear h; rintro items k rfl Vs; exact .lst Vs
theorem LR.mono {g g' : Fz} {acc o} (L : Le g g') (h : LR g acc o) : LR g' acc o := by
 refine ob22 h ?_; clear h; rintro items k e Vs; exact ⟨items, k, e, Vs.mono L⟩
theorem E_listcomp {elt target iter : Expr} {ifs : List Expr} {scope : Scope} {pos : Pos} {Q : V → Sg → Prop} (hs : ∀ x, foldedSetIterable iter env x = pure x) (hk : scope.kind = .function) (nd : (scope.names.map (·.1)).Nodup)
   (hdb : (scope.names.all fun x => !(x.1 == ("__debug__" : Str))) = true) (hloc : (tnames target).all (fun x => scope.names.lookup x == some .local) = true) (hI : InitC C env e scope.names ec)
   (h : IE C n env e target iter σ fun xs own σ₁ => ∀ cenv : Env, ListL C n cenv target ifs elt own (fun acc σ' => ∀ D o, σ' D = none → Q (.ref D) (upd σ' D (.lst acc) o)) xs [] ec σ₁) :
   EE C n env e (.ListComp elt [⟨target, iter, ifs, 0⟩] scope pos) σ Q := fun A g s R S F => by
 rw [eval_ListComp]
 refine comp_core (R := LR) (E := LE C n elt) (acc₀ := []) (o₀ := { cls := .type "list", data := .seq #[] }) (emit := fun D cenv => do let _ ← call (.builtin "list.append") [.ref D, ← eval elt cenv]) (use := none)
   rfl hs hk nd hdb hloc hI (fun s Q hQ => ?_) rfl (fun g => ⟨#[], _, rfl, .nil⟩) (fun it acc env RR s h0 h1 => codeAny_compStart_list h0 (wpAny_mono h1 (fun _ _ x => x) fun _ _ x => x.elim)) (fun _ _ _ => rfl) (fun _ _ _ => rfl) (fun _ _ _ => rfl) LR.mono
   (fun cenv D _ e acc σ Q h => emit_list h) R S F h ?_
 · exact wpAny_newObj_type hQ (by show (0 : Nat) ≤ sizeLine; exact Nat.zero_le _)
 · intro g' σ' s' acc o D X S' a1 a2 a3 a4 a5 a6 a7
   exact ⟨g', .ref D, _, X.adopt a3 _ _, S'.adopt a2 a4 a5 a6.or, .ref D, a7 D o a1⟩
theorem S_assign_listcomp {y : Str} {py spos : Pos} {elt target iter : Expr} {ifs : List Expr} {scope : Scope} {pos : Pos} {Q : Fl → Vars → Sg → Prop} (hsw : swapsWith (.ListComp elt [⟨target, iter, ifs, 0⟩] scope pos) (some (.Name y py)) spos.line env = pure true)
   (hy : env.kindOf y = some .local)
   (hs : ∀ x, foldedSetIterable iter env x = pure x) (hk : scope.kind = .function) (nd : (scope.names.map (·.1)).Nodup)
   (hdb : (scope.names.all fun x => !(x.1 == ("__debug__" : Str))) = true) (hloc : (tnames target).all (fun x => scope.names.lookup x == some .local) = true) (hI : InitC C env e scope.names ec)
   (h : IE C n env e target iter σ fun xs own σ₁ => ∀ cenv : Env, ListL C n cenv target ifs elt own (fun acc σ' => ∀ D o, σ' D = none → KAsg y e Q (.ref D) (upd σ' D (.lst acc) o)) xs [] ec σ₁) :
   SS C n env e (.Assign [.Name y py] (.ListComp elt [⟨target, iter, ifs, 0⟩] scope pos) spos) σ Q := fun A g s R S F => by
 rw [exec_Assign_Name_used _ _ _ _ hsw]
 refine wpAny_bind (wpAny_standAt (wpAny_bind ?_))
 show wpAny _ A (do let _ ← comprehension (.ListComp elt [⟨target, iter, ifs, 0⟩] scope pos) scope env _ (newList []) false (eval iter env) (some (assign (.Name y py) env))) _ _ s
 refine wpAny_bind (wpAny_mono (Q := fun _ s' => PstF C env g σ s Q .next s') ?_ (fun _ s' hq => wpAny_pure (wpAny_pure hq)) fun _ _ e => e)
 refine comp_core (R := LR) (E := LE C n elt) (acc₀ := []) (o₀ := { cls := .type "list", data := .seq #[] }) (emit := fun D cenv => do let _ ← call (.builtin "list.append") [.ref D, ← eval elt cenv]) (use := some (assign (.Name y py) env))
   rfl hs hk nd hdb hloc hI (fun s Q hQ => ?_) rfl (fun g => ⟨#[], _, rfl, .nil⟩) (fun it acc env RR s h0 h1 => codeAny_compStart_list h0 (wpAny_mono h1 (fun _ _ x => x) fun _ _ x => x.elim)) (fun _ _ _ => rfl) (fun _ _ _ => rfl) (fun _ _ _ => rfl) LR.mono
   (fun cenv D _ e acc σ Q h => emit_list h) R S F h ?_
 · exact wpAny_newObj_type hQ (by show (0 : Nat) ≤ sizeLine; exact Nat.zero_le _)
 · intro g' σ' s' acc o D X S' a1 a2 a3 a4 a5 a6 a7
   obtain ⟨e', hU, q⟩ := a7 D o a1
   have X' := X.adopt a3 (.lst acc) o
   have S'' := S'.adopt a2 a4 a5 a6.or
   refine PyProof.Rows.assign_Name (storeL_ hy S'' (F.ext X') (.ref D) hU fun s₃ X₃ S₃ F₃ => ?_)
   obtain ⟨oL, hLo⟩ : ∃ o, s.heap.get? env.locals = some o := by refine ob12 F.ns ?_; rintro m hn _; refine ob32 hn ?_; clear hn; rintro o _ _ q _; exact ⟨o, q⟩
   refine ⟨fun b ob hb hbD hσb hq => ?_, fun h' b hb hbD hσb hgb hsb => ?_⟩
   · exact X₃.keep b ob hq (by rw [upd_ne _ _ _ hbD]; exact hσb) fun z => by rw [z, hLo] at hb; cases hb
   · have Y : ExtF (fun a => a = env.locals ∨ a = b) g σ s g' (upd σ' D (.lst acc) o) { s₃ with heap := h' } := by
       have Z := ((X'.toF _).trans X₃)
       refine ⟨Z.le, fun a oa q n f => (hsb.2 a fun z => f (.inr z)).trans (Z.keep a oa q n fun z => f (.inl z)), fun a oa q => ?_, Z.sig, Z.frz, Z.gens, Z.os⟩
       refine ob11 (Z.alive a oa q) ?_; rintro o' q'
       exact ⟨o', (hsb.2 a (fun z => by rw [z, hb] at q; cases q)).trans q'⟩
     refine ⟨g', .next, e', _, Y.fresh' (P' := Foot env) (fun a z => ?_), S₃.frame (env := env) (e := e) hsb (by rw [upd_ne _ _ _ hbD]; exact hσb) hgb, F₃.le (.refl _) (fun a oa q z => (hsb.2 a fun y => ?_).trans q) fun a o q => .inl q, .next, q⟩
     · exact z.elim (fun z => .inl (Or.inl z)) fun z => .inr (z ▸ hb)
     · rcases z with z | ⟨x, z⟩
       · rw [← y, z, hLo] at hb; cases hb
       · refine ob04 (F.cell x a z) ?_; rintro _ _ _ z1; refine ob22 z1 ?_; clear z1; rintro _ oc qc _
         rw [← y, qc] at hb; cases hb
end
end Mine
namespace Mine
variable {C : Cx}
section
variable {n : Nat} {env : Env} {e ec : Vars} {σ : Sg}
theorem rv_tupI {g : Fz} {r : Rat} {u} (h : VR g (rv r) u) : TupI g [r.num, (r.den : Int)] u := VR.tupI h
theorem emit_dict {cenv : Env} {D : Addr} {kx vx : Expr} {p : Pos} {e : Vars} {acc : Poly} {σ : Sg} {Q : Poly → Vars → Sg → Prop}
   (h : EE C n cenv e kx σ fun kv σ₁ => ∃ ks, kv = itup ks ∧ EE C n cenv e vx σ₁ fun vv σ₂ => ∃ r, vv = rv r ∧ acc.length ≤ sizeLine ∧ Q (dput acc ks r) e σ₂) :
   EmitOK C n cenv DR D (do
     let kv ← eval kx cenv
     let vv ← holding [kv] (eval vx cenv)
     standAt p
     holding [kv, vv] (dictSet D kv vv)) e acc σ Q := fun A g s o R S F hσ hg hL hc ho hR => by
 refine wpAny_bind (wpAny_mono (h A g s R S F) ?_ fun _ _ x => x)
 rintro u s₁ ⟨g₁, v, σ₁, X₁, S₁, V, ks, rfl, h₁⟩
 refine wpAny_bind (wpAny_holding (wpAny_mono (h₁ A g₁ s₁ R S₁ (F.ext X₁)) ?_ fun _ _ x => x))
 rintro w s₂ ⟨g₂, v', σ₂, X₂, S₂, V₂, r, rfl, hl, q⟩
 have X := X₁.trans X₂
 have ho₂ := X.keep D o ho hσ
 have hσ₂ := X.sig D o ho hσ
 have hg₂ := X.frz D o ho hσ hg
 refine wpAny_bind (wpAny_standAt (wpAny_holding ?_))
 have hT := (V.mono X₂.le).tupI
 obtain ⟨b, rest⟩ : ∃ b, u = .ref b := by refine ob42 hT ?_; clear hT; rintro b _ _ _ q _; exact ⟨b, q⟩
 subst rest
 refine ob12 ((hR.mono X.le).ofH (C := C) ho₂ S₂.sub) ?_; rintro xs hx hm
 refine wpAny_dictSet_heap (knd := knd C) (show A.units < cLine from R.lt) (hT.key S₂.sub) hm (fun h' hm' hs' => ?_) (by rw [hx.len]; exact hl)
 refine ob12 (DR.toH (C := C) (hx.put hT (rv_tupI V₂)) hm') ?_; rintro o' ho' hD'
 have F₂ := F.ext X
 have Y : ExtF (fun a => a = cenv.locals ∨ a = D) g₂ σ₂ s₂ g₂ σ₂ { s₂ with heap := h', toks := s₂.toks + (knd C).draws ks } :=
   ⟨.refl _, fun a o q n f => (hs'.2 a fun z => f (.inr z)).trans q, sb_alive ⟨hs', _, ho'⟩, fun _ _ _ q => q, fun _ _ _ _ q => q, rfl, rfl⟩
 have kk : ∀ a o, s₂.heap.get? a = some o → (a = cenv.locals ∨ ∃ x, cenv.cells.lookup x = some a) → h'.get? a = some o := fun a o q z => (hs'.2 a (fun y => by
   rcases z with z | ⟨x, z⟩
   · exact hL (y ▸ z)
   · exact hc x (y ▸ z))).trans q
 exact (mx56 g₂ σ₂ (dput acc ks r) o' e ((X.toF _).trans Y) (S₂.frame (env := cenv) (e := e) hs' hσ₂ hg₂) (F₂.le (.refl _) kk fun a o q => .inl q) ho' hD' q)
noncomputable abbrev DE (C : Cx) (n : Nat) (kx vx : Expr) (cenv : Env) (e : Vars) (acc : Poly) (σ : Sg) (Q : Poly → Vars → Sg → Prop) : Prop :=
 EE C n cenv e kx σ fun kv σ₁ => ∃ ks, kv = itup ks ∧ EE C n cenv e vx σ₁ fun vv σ₂ => ∃ r, vv = rv r ∧ acc.length ≤ sizeLine ∧ Q (dput acc ks r) e σ₂
noncomputable abbrev DictL (C : Cx) (n : Nat) (cenv : Env) (target : Expr) (ifs : List Expr) (kx vx : Expr) (own : List Addr) (K : Poly → Sg → Prop) (xs : List V) (acc : Poly) (e : Vars) (σ : Sg) : Prop :=
 CompL C n cenv target ifs (DE C n kx vx cenv) own (fun acc _ σ' => K acc σ') xs acc e σ
theorem DR.new (g : Fz) : DR g [] { cls := .type "dict", data := .dict #[] } := ⟨⟨rfl, rfl, rfl⟩, (mx22 #[] 0 rfl .nil), List.nodup_nil⟩
theorem E_dictcomp {kx vx target iter : Expr} {ifs : List Expr} {scope : Scope} {pos : Pos} {Q : V → Sg → Prop} (hs : ∀ x, foldedSetIterable iter env x = pure x) (hk : scope.kind = .function) (nd : (scope.names.map (·.1)).Nodup)
   (hdb : (scope.names.all fun x => !(x.1 == ("__debug__" : Str))) = true) (hloc : (tnames target).all (fun x => scope.names.lookup x == some .local) = true) (hI : InitC C env e scope.names ec)
   (h : IE C n env e target iter σ fun xs own σ₁ => ∀ cenv : Env, DictL C n cenv target ifs kx vx own (fun acc σ' => ∀ D o, σ' D = none → Q (.ref D) (upd σ' D (.dct acc) o)) xs [] ec σ₁) :
   EE C n env e (.DictComp kx vx [⟨target, iter, ifs, 0⟩] scope pos) σ Q := fun A g s R S F => by
 show wpAny _ A (comprehension (.DictComp kx vx [⟨target, iter, ifs, 0⟩] scope pos) scope env _ newDict false (eval iter env) none) _ _ s
 refine comp_core (R := DR) (E := fun cenv => DE C n kx vx cenv) (acc₀ := []) (o₀ := { cls := .type "dict", data := .dict #[] }) (emit := fun D cenv => do
     let kv ← eval kx cenv
     let vv ← holding [kv] (eval vx cenv)
     standAt { kx.pos with endLine := vx.pos.endLine, endCol := vx.pos.endCol }
     holding [kv, vv] (dictSet D kv vv)) (use := none)
   rfl hs hk nd hdb hloc hI (fun s Q hQ => ?_) rfl DR.new (fun it acc env RR s h0 h1 => codeAny_compStart_dict h0 (wpAny_mono h1 (fun _ _ x => x) fun _ _ x => x.elim)) (fun _ _ _ => rfl) (fun _ _ _ => rfl) (fun _ _ _ => rfl) (fun L h => DR.mono L h)
   (fun cenv D _ e acc σ Q h => emit_dict h) R S F h ?_
 · exact wpAny_newObj_type hQ (by size_fits)
 · intro g' σ' s' acc o D X S' a1 a2 a3 a4 a5 a6 a7
   exact ⟨g', .ref D, _, X.adopt a3 _ _, S'.adopt a2 a4 a5 (.dct a6), .ref D, a7 D o a1⟩
end
end Mine
namespace Mine
variable {C : Cx}
theorem fits {k : Nat} (h : k ≤ sizeLine) : (k : Int) < 2 ^ 63 := by
 have : k ≤ 2 ^ 24 := h
 exact il1 (cN this)
theorem opt_if {α : Type} {c : Prop} [Decidable c] {a b : α} (h : (if c then some a else none) = some b) : c ∧ a = b := by
 by_cases q : c
 · rw [if_pos q] at h; exact ⟨q, Option.some.inj h⟩
 · rw [if_neg q] at h; exact nomatch h
theorem seqIndex_cases {i : Int} {n j : Nat} (h : seqIndex? i n = some j) : (0 ≤ i ∧ i < n ∧ j = i.toNat) ∨ (i < 0 ∧ -(n : Int) ≤ i ∧ j = (i + n).toNat) := by
 refine ob02 (opt_if (c := (decide (0 ≤ if i < 0 then i + n else i) && decide ((if i < 0 then i + n else i) < n)) = true) h) ?_; rintro hc hj
 refine ob02 ((Bool.and_eq_true _ _).mp hc) ?_; rintro h1 h2
 have h1 := of_decide_eq_true h1
 have h2 := of_decide_eq_true h2
 by_cases h0 : i < 0
 · rw [if_pos h0] at h1 hj; exact .inr (mx03 h0 (by exact il1 h1) hj.symm)
 · rw [if_neg h0] at h1 h2 hj; exact .inl (mx03 h1 h2 hj.symm)
theorem tup_lit {g : Fz} {σ : Sg} {h : Heap} {xs u} (S : SR C g σ h) (V : VR g (.tup xs) u) : ∃ a dd items n sl, u = .ref a ∧ h.get? a = some { cls := .type "tuple", dict := dd, data := .seq items n, slots := sl } ∧ VRs g xs items.toList := by
 refine V.ct fun a o items k ho hc hd hs => ?_
 · obtain ⟨cls, dd, data, sl⟩ := o
   simp only at hc hd
   subst hc hd
   exact (mx53 a dd items k sl rfl (S.sub _ _ ho) hs)
theorem lst_lit {g : Fz} {σ : Sg} {h : Heap} {v xs u} (S : SR C g σ h) (V : VR g v u) (hl : look σ v = .lst xs) : ∃ a dd items n sl, u = .ref a ∧ h.get? a = some { cls := .type "list", dict := dd, data := .seq items n, slots := sl } ∧ VRs g xs items.toList := by
 refine ob24 (is_list' S V hl) ?_; rintro a items rfl z1 hs _; refine ob13 z1 ?_; clear z1; rintro o ho hc z2; refine ob11 z2 ?_; clear z2; rintro n hd
 obtain ⟨cls, dd, data, sl⟩ := o
 simp only at hc hd
 have hc : cls = .type "list" := hc
 have hd : data = .seq items n := hd
 subst hc hd
 exact (mx53 a dd items n sl rfl ho hs)
section
variable {n : Nat} {σ : Sg} {Q : V → Sg → Prop}
theorem B_len_tup {xs : List V} (hs : xs.length ≤ sizeLine) (h : Q (.int xs.length) σ) : Opn C n (fun us => call (.builtin "len") us) [.tup xs] σ Q := fun A g s us R S Vs => by
 refine ob12 Vs.one ?_; rintro u rfl V
 refine ob23 (is_tup S V) ?_; rintro a items rfl ht hi
 have hl : xs.length = items.size := by rw [hi.length, Array.length_toList]
 refine Calls.call_function_entry kind_len plain_len entry_len (args_len1 _) (len_body_tuple ht (fits (hl ▸ hs)) ?_)
 rw [← hl]
 exact ⟨g, .int _, σ, .toks .., S, .int _ _, h⟩
theorem B_len_lst {v : V} {xs : List V} (hl : look σ v = .lst xs) (hs : xs.length ≤ sizeLine) (h : Q (.int xs.length) σ) : Opn C n (fun us => call (.builtin "len") us) [v] σ Q := fun A g s us R S Vs => by
 refine ob12 Vs.one ?_; rintro u rfl V
 refine ob23 (is_list S V hl) ?_; rintro a items rfl ht hi
 have hl : xs.length = items.size := by rw [hi.length, Array.length_toList]
 refine len_list ht (fits (hl ▸ hs)) ?_
 rw [← hl]
 exact ⟨g, .int _, σ, .toks .., S, .int _ _, h⟩
theorem T_tuple {v : V} {xs : List V} (hl : look σ v = .lst xs) (hs : xs.length ≤ sizeLine) (h : Q (.tup xs) σ) : Opn C n (fun us => call (.type "tuple") us) [v] σ Q := fun A g s us R S Vs => by
 refine ob12 Vs.one ?_; rintro u rfl V
 refine ob23 (is_list S V hl) ?_; rintro a items rfl ht hi
 have hl : xs.length = items.size := by rw [hi.length, Array.length_toList]
 refine call_tuple_list ht (fun h' hk => ?_) (hl ▸ hs)
 have S' : SR C g σ h' := S.push hk
 refine ob03 (SR.new (s := { s with heap := h' }) S' { cls := .type "tuple", data := .seq items } rfl s.toks) ?_; rintro X S'' p
 exact ⟨_, .tup xs, σ, (Ext.push hk _ _).trans X, S'', .tup p rfl rfl (hi.mono X.le), h⟩
theorem T_list {v : V} {xs : List V} (hl : look σ v = .lst xs ∨ v = .tup xs) (hs : xs.length ≤ sizeLine) (h : ∀ a o, σ a = none → Q (.ref a) (upd σ a (.lst xs) o)) : Opn C n (fun us => call (.type "list") us) [v] σ Q := fun A g s us R S Vs => by
 refine ob12 Vs.one ?_; rintro u rfl V
 have go : ∀ {T : String} {a : Addr} {o : Obj} {items : Array Value} {k : Nat}, (T = "list" ∨ T = "tuple") → u = .ref a → s.heap.get? a = some o → o.cls = .type T → o.data = .seq items k → VRs g xs items.toList →
     wpAny (model C.prog C.w) A (call (.type "list") [u]) (Pst C g σ s Q) noE s := by
   rintro T a o items k hT rfl ho hc hd hi
   have hl : xs.length = items.size := by rw [hi.length, Array.length_toList]
   refine call_list_seq a hT ho hc hd (fun h' c' hk hn => ?_) (hl ▸ hs)
   refine ob02 (S.fresh (Nat.le_refl _)) ?_; rintro hσ hg
   have hf : s.heap.get? s.heap.objs.size = none := Heap.get?_none_of_le (Nat.le_refl _)
   exact ⟨g, .ref _, _, (Ext.push hk s.toks s.drawn).adopt hf (.lst xs) _, (S.push hk).adopt hg S.sys hn (.lst hi), .ref _, h _ _ hσ⟩
 rcases hl with hl | rfl
 · refine ob23 (is_list S V hl) ?_; rintro a items rfl z1 hi; refine ob13 z1 ?_; clear z1; rintro o ho hc z2; refine ob11 z2 ?_; clear z2; rintro k hd
   exact go (.inl rfl) rfl ho hc hd hi
 · refine ob23 (is_tup S V) ?_; rintro a items rfl z1 hi; refine ob13 z1 ?_; clear z1; rintro o ho hc z2; refine ob11 z2 ?_; clear z2; rintro k hd
   exact go (.inr rfl) rfl ho hc hd hi
theorem B_max {a b : Int} (h : Q (.int (if b > a then b else a)) σ) : Opn C n (fun us => call (.builtin "max") us) [.int a, .int b] σ Q := fun A g s us R S Vs => by
 refine ob23 Vs.two ?_; rintro u x rfl V W
 refine V.ci fun _ => W.ci fun _ => ?_
 refine max_two_ints R.handled fun h' tk hk => ?_
 refine ⟨g, _, σ, Ext.push hk _ _, S.push hk, ?_, h⟩
 split <;> exact .int _ _
theorem B_min {a b : Int} (h : Q (.int (if b < a then b else a)) σ) : Opn C n (fun us => call (.builtin "min") us) [.int a, .int b] σ Q := fun A g s us R S Vs => by
 refine ob23 Vs.two ?_; rintro u x rfl V W
 refine V.ci fun _ => W.ci fun _ => ?_
 refine min_two_ints R.handled fun h' tk hk => ?_
 refine ⟨g, _, σ, Ext.push hk _ _, S.push hk, ?_, h⟩
 split <;> exact .int _ _
theorem I_lst {v : V} {xs : List V} {i : Int} {j : Nat} {x : V} {value slice : Expr} (hl : look σ v = .lst xs) (hs : xs.length ≤ sizeLine) (hj : seqIndex? i xs.length = some j) (hx : xs[j]? = some x) (h : Q x σ)
   (hs' : ∀ a t, subscripted slice false (.ref a) (.int i t) = operate [.ref a, .int i t] (getItem (.ref a) (.int i t))) :
   Op2 C n (subscriptTail value slice) v (.int i) σ Q := fun A g s u w R S Va Vb => by
 refine ob23 (is_list S Va hl) ?_; rintro a items rfl ht V
 have hlen : xs.length = items.size := by rw [V.length, Array.length_toList]
 have hsz : items.size ≤ 2 ^ 24 := hlen ▸ hs
 refine Vb.ci fun t => ?_
 · refine ob12 (V.get hx) ?_; rintro u hu Vu
   rw [Array.getElem?_toList] at hu
   rw [hlen] at hj
   refine tail_any ht.typeIs slot_list_getitem.lookup ?_ (hs' a t)
   rcases seqIndex_cases hj with ⟨h0, h1, rfl⟩ | ⟨h0, h1, rfl⟩
   · exact wpAny_getItem_list ht h0 (by exact il2 (cN hsz) h1) hu ⟨g, x, σ, .refl .., S, Vu, h⟩
   · exact wpAny_getItem_list_neg ht h0 h1 (by exact il2 (cN hsz) h1) hu ⟨g, x, σ, .refl .., S, Vu, h⟩
theorem O_addT {xs ys : List V} (hs : xs.length + ys.length ≤ sizeLine) (h : Q (.tup (xs ++ ys)) σ) : Op2 C n (binaryOp .Add) (.tup xs) (.tup ys) σ Q := fun A g s u w R S Va Vb => by
 have Va' := Va
 have Vb' := Vb
 refine ob53 (tup_lit S Va) ?_; rintro t dd its k sl rfl ho hi
 refine ob53 (tup_lit S Vb) ?_; rintro b dd2 its2 k2 sl2 rfl ho2 hi2
 have e1 : xs.length = its.size := by rw [hi.length, Array.length_toList]
 have e2 : ys.length = its2.size := by rw [hi2.length, Array.length_toList]
 by_cases hv : its.isEmpty = true
 · have : xs = [] := by rw [Array.isEmpty_iff_size_eq_zero] at hv; exact List.eq_nil_of_length_eq_zero (e1.trans hv)
   subst this
   exact concat_meets ⟨_, ho, rfl⟩ ⟨_, ho2, rfl⟩ noFill_tuple_add seq_tuple_add PySem.F.slot_tuple_add PySem.F.entry_tuple_add (PySem.F.args_tuple_add_2 _ _)
     (tuple_addW0 t b its its2 k k2 dd dd2 sl sl2 hv) ⟨ho, ho2, g, _, σ, .refl .., S, Vb', h⟩
 · by_cases hw : its2.isEmpty = true
   · have : ys = [] := by rw [Array.isEmpty_iff_size_eq_zero] at hw; exact List.eq_nil_of_length_eq_zero (e2.trans hw)
     subst this
     rw [List.append_nil] at h
     exact concat_meets ⟨_, ho, rfl⟩ ⟨_, ho2, rfl⟩ noFill_tuple_add seq_tuple_add PySem.F.slot_tuple_add PySem.F.entry_tuple_add (PySem.F.args_tuple_add_2 _ _)
       (tuple_addW1 t b its its2 k k2 dd dd2 sl sl2 hv hw) ⟨ho, ho2, g, _, σ, .refl .., S, Va', h⟩
   · refine ob03 (S.new { cls := .type "tuple", data := .seq (its ++ its2) } rfl s.toks) ?_; rintro X S' p
     refine concat_meets ⟨_, ho, rfl⟩ ⟨_, ho2, rfl⟩ noFill_tuple_add seq_tuple_add PySem.F.slot_tuple_add PySem.F.entry_tuple_add (PySem.F.args_tuple_add_2 _ _)
       (tuple_addW2 t b its its2 k k2 dd dd2 sl sl2 hv hw (by rw [← e1, ← e2]; exact hs)) ⟨ho, ho2, _, .tup (xs ++ ys), σ, X, S', .tup p rfl rfl ?_, h⟩
     rw [Array.toList_append]
     exact (hi.mono X.le).append (hi2.mono X.le)
end
end Mine
namespace Mine
variable {C : Cx}
theorem mro_dict : mroOf (.type "dict") = pure [.type "dict", .type "object"] := by rw [mroOf_type]; kernel_rfl
theorem lookup_dict_new : typeLookup (.type "dict") "__new__" = pure (some (.builtin "dict.__new__")) := by rw [typeLookup_type, builtinLookup_eq_fast]; kernel_rfl
theorem called_dict : TypeCalled "dict" "dict.__new__" "dict.__init__" :=
 ⟨by decide +kernel, by decide +kernel, (mx21 _ _ mro_dict), madeBy_type mro_dict lookup_dict_new (by decide +kernel), by decide +kernel, by rw [isSubtype_type]; kernel_rfl, F.slot_dict_init⟩
theorem typeCall_dict_1 (a : Value) : checkTypeCall "dict" ⟨[a], []⟩ = pure () := by kernel_rfl
theorem newCall_dict_1 (a : Value) : checkBuiltinCall "dict.__new__" ⟨[.type "dict", a], []⟩ = pure () := by kernel_rfl
theorem entry_dict_new : entryFor table "dict.__new__" = some Builtin.«dict.__new__» := entryFor_of_tree (by kernel_rfl)
theorem sub_dict_self : isSubtype (.type "dict") (.type "dict") = pure true := by rw [isSubtype_type]; kernel_rfl
theorem meets_dict_new (a : Value) :
   Meets (Builtin.«dict.__new__» ⟨[.type "dict", a], []⟩) (fun _ R s => R (.ok (.ret (.ref s.heap.objs.size))) { s with heap := s.heap.push { cls := .type "dict", data := .dict #[] } }) :=
 .of_wp fun prog w A R s h => by
   unfold Builtin.«dict.__new__»
   refine wpAny_bind (wpAny_of_eq (a := true) rfl ?_)
   simp only [Bool.not_true, Bool.false_eq_true, if_false]
   refine wpAny_bind (wpAny_of_eq sub_dict_self ?_)
   simp only [Bool.not_true, Bool.false_eq_true, if_false]
   refine wpAny_bind (wpAny_of_eq mro_dict ?_)
   rw [if_neg (by decide +kernel)]
   refine wpAny_bind (wpAny_newObj_type ?_)
   exact wpAny_pure (mx12 _ rfl h)
noncomputable def HashOk (p : Poly) : Prop := (p.map fun x => khash x.1).Nodup
theorem filter_hash {g : Fz} {p : Poly} {es : List DictEntry} (h : EntRs g p es) (nd : HashOk p) : ∀ e ∈ es, (es.filter (·.hash == e.hash)).length ≤ 1 := by
 have hh : es.map (·.hash) = p.map fun x => khash x.1 := by
   induction h with
   | nil => rfl
   | cons a _ ih =>
     have nd' : HashOk _ := (List.nodup_cons.mp nd).2
     simp only [List.map_cons, a.hash, ih nd']
 have nd : (es.map (·.hash)).Nodup := by rw [hh]; exact nd
 clear h hh
 induction es with
 | nil => intro e he; (exfalso; cases he)
 | cons x es ih =>
   rw [List.map_cons, List.nodup_cons] at nd
   have zero : ∀ (l : List DictEntry) k, k ∉ l.map (·.hash) → l.filter (·.hash == k) = [] := by
     intro l k hk
     rw [List.filter_eq_nil_iff]
     intro y hy hc
     exact hk (List.mem_map.mpr (mx12 y hy (eq_of_beq hc)))
   intro e he
   rcases List.mem_cons.mp he with rfl | he
   · rw [List.filter_cons, if_pos (by simp), zero es _ nd.1]; simp
   · rw [List.filter_cons]
     have : x.hash ≠ e.hash := fun z => nd.1 (z ▸ List.mem_map.mpr (mx12 e he rfl))
     rw [if_neg (by simpa using this)]
     exact ih nd.2 e he
theorem TupI.typeIs {g : Fz} {σ : Sg} {s : Shared} (S : SR C g σ s.heap) {ks v} (h : TupI g ks v) : s.TypeIs v "tuple" := by
 refine ob44 h ?_; clear h; rintro a o _ _ rfl ho hc _
 exact ⟨o, S.sub _ _ ho, hc⟩
theorem quietEq_tuple {prog : Program} {w : World} {A : Around} {E : Value → Shared → Prop} {s : Shared} {k : Value} {Q : Bool → Shared → Prop} (hT : s.TypeIs k "tuple") (hr : ∃ a, k = .ref a) (h : Q false s) :
   wpAny (model prog w) A (Builtin.Dict.quietEq k) Q E s := by
 refine ob11 hr ?_; clear hr; rintro a rfl
 show wpAny _ A (specialOf (.ref a) "__eq__" >>= _) _ _ s
 refine wpAny_bind (wpAny_specialOf hT F.slot_tuple_eq.lookup (wpAny_pure ?_))
 exact h
section
variable {n : Nat} {σ : Sg} {Q : V → Sg → Prop}
theorem entriesForEmpty_ {g : Fz} {s : Shared} {A : Around} {E : Value → Shared → Prop} {id : String} {d : Addr} {o : Obj} {es : Array DictEntry} {ep : Nat} {p : Poly} {Q : Array DictEntry → Shared → Prop} (S : SR C g σ s.heap)
   (ho : s.heap.get? d = some o) (hd : o.data = .dict es ep) (hE : EntRs g p es.toList) (nd : HashOk p) (h : Q es s) : wpAny (model C.prog C.w) A (Builtin.Dict.entriesForEmpty id d) Q E s := by
 unfold Builtin.Dict.entriesForEmpty
 refine wpAny_bind (wpAny_dictEntries ho hd ?_)
 have hkeys : ∀ e ∈ es.toList, s.TypeIs e.key "tuple" ∧ ∃ a, e.key = .ref a := by
   have : ∀ {p : Poly} {l : List DictEntry}, EntRs g p l → ∀ e ∈ l, s.TypeIs e.key "tuple" ∧ ∃ a, e.key = .ref a := by
     intro p l hl
     induction hl with
     | nil => intro e he; (exfalso; cases he)
     | cons a _ ih =>
       intro e he
       rcases List.mem_cons.mp he with rfl | he
       · exact ⟨a.key.typeIs S, by refine ob42 a.key ?_; rintro b _ _ _ q _; exact ⟨b, q⟩⟩
       · exact ih e he
   exact this hE
 have hf := filter_hash hE nd
 refine wpAny_bind ?_
 show wpAny _ _ (forIn es _ _) _ _ s
 rw [← Array.forIn_toList]
 refine wpAny_forIn_list _ (fun rest _ s' => s' = s ∧ ∀ e ∈ rest, e ∈ es.toList) _ ?_ ?_ _ _ ⟨rfl, fun e he => he⟩
 · rintro e rest _ s' z1; refine ob02 z1 ?_; clear z1; rintro rfl hr
   have he := hr e List.mem_cons_self
   refine wpAny_bind (quietEq_tuple (hkeys e he).1 (hkeys e he).2 ?_)
   simp only [Bool.not_false, if_true]
   have hsz : ¬ (es.filter (·.hash == e.hash)).size > 1 := by
     have := hf e he
     rw [← Array.length_toList, Array.toList_filter]
     exact Nat.not_lt_of_le (li1 this)
   rw [if_neg hsz]
   exact wpAny_pure ⟨rfl, fun x hx => hr x (List.mem_cons_of_mem _ hx)⟩
 · rintro _ s' z1; refine ob02 z1 ?_; clear z1; rintro rfl _
   exact wpAny_pure h
theorem T_dict {v : V} {p : Poly} (hl : look σ v = .dct p) (nd : HashOk p) (hs : p.length ≤ sizeLine) (h : ∀ a o, σ a = none → Q (.ref a) (upd σ a (.dct p) o)) : Opn C n (fun us => call (.type "dict") us) [v] σ Q := fun A g s us R S Vs => by
 refine ob12 Vs.one ?_; rintro u rfl V
 refine ob25 (is_dict S V hl) ?_; rintro a o rfl hns ho hD _
 obtain ⟨ex, ⟨es, ep, hd, hE⟩, hnd⟩ := id hD
 have hsz : es.size ≤ sizeLine := by rw [← Array.length_toList, ← hE.length]; exact hs
 refine ob02 (S.fresh (Nat.le_refl _)) ?_; rintro hσ hg
 have hf : s.heap.get? s.heap.objs.size = none := Heap.get?_none_of_le (Nat.le_refl _)
 refine callType_codes (Q₁ := fun obj s₁ => obj = .ref s.heap.objs.size ∧ s₁ = { s with heap := s.heap.push { cls := .type "dict", data := .dict #[] } }) called_dict (typeCall_dict_1 _) F.entry_dict_init
   (codeAny_call_builtin called_dict.plain entry_dict_new (wpAny_of_eq (newCall_dict_1 _) (meets_dict_new (.ref a) C.prog C.w A.in1 _ s (show wants _ _ _ _ from ⟨rfl, rfl⟩)))) fun obj s₁ h₁ => ?_
 refine ob02 h₁ ?_; clear h₁; rintro rfl rfl
 have hN : (s.heap.push { cls := .type "dict", data := .dict #[] }).get? s.heap.objs.size = some { cls := .type "dict", data := .dict #[] } := Heap.get?_push_size _ rfl
 have ho' : (s.heap.push { cls := .type "dict", data := .dict #[] }).get? a = some o := Heap.get?_push_of_some _ ho
 have S' : SR C g σ (s.heap.push { cls := .type "dict", data := .dict #[] }) := S.push fun b o q => Heap.get?_push_of_some _ q
 have hne : a ≠ s.heap.objs.size := fun e => Nat.lt_irrefl _ (e ▸ Heap.lt_size ho)
 have hTN : Shared.TypeIs { s with heap := s.heap.push { cls := .type "dict", data := .dict #[] } } (.ref s.heap.objs.size) "dict" := ⟨_, hN, rfl⟩
 have hTa : Shared.TypeIs { s with heap := s.heap.push { cls := .type "dict", data := .dict #[] } } (.ref a) "dict" := ⟨_, ho', ex.1⟩
 refine (mx03 hTN (F.args_dict_init_2 _ _) ?_)
 have fin : ∀ (h' : Heap) (oN : Obj), Heap.SameBut s.heap.objs.size (s.heap.push { cls := .type "dict", data := .dict #[] }) h' → h'.get? s.heap.objs.size = some oN → DR g p oN →
     Pst C g σ s Q (.ref s.heap.objs.size) { s with heap := h' } := by
   intro h' oN hs' hn' hD'
   have hk : ∀ b o, s.heap.get? b = some o → h'.get? b = some o := fun b o q => (hs'.2 b (fun e => Nat.lt_irrefl _ (e ▸ Heap.lt_size q))).trans (Heap.get?_push_of_some _ q)
   exact ⟨g, .ref _, _, (Ext.push hk s.toks s.drawn).adopt hf (.dct p) oN, (S.push hk).adopt hg S.sys hn' (.dct hD'), .ref _, h _ _ hσ⟩
 show wpAny _ _ (Builtin.Dict.selfAndRest "__init__" ⟨[.ref s.heap.objs.size, .ref a], []⟩ >>= _) _ _ _
 refine wpAny_bind ?_
 unfold Builtin.Dict.selfAndRest
 refine wpAny_bind (wpAny_notOrdered_dict hTN ?_)
 show wpAny _ _ (Builtin.Dict.addrOf (.ref s.heap.objs.size) >>= _) _ _ _
 refine wpAny_bind (wpAny_pure (wpAny_pure ?_))
 show wpAny _ _ (Builtin.Dict.updateFrom "dict.__init__" s.heap.objs.size (.ref a) [] .none) _ _ _
 unfold Builtin.Dict.updateFrom
 refine wpAny_bind (wpAny_typeOf hTa ?_)
 rw [if_neg (by decide)]
 show wpAny _ _ (Builtin.Dict.merge "dict.__init__" s.heap.objs.size (.ref a) >>= _) _ _ _
 refine wpAny_bind ?_
 unfold Builtin.Dict.merge
 refine wpAny_bind ?_
 unfold Builtin.Dict.readDirectly
 refine wpAny_bind (wpAny_isInstance hTa isSubtype_dict_dict ?_)
 simp only [Bool.not_true, Bool.false_eq_true, if_false]
 refine wpAny_bind (wpAny_specialOf hTa F.slot_dict_iter.lookup (wpAny_pure ?_))
 simp only [beq_self_eq_true, if_true]
 refine wpAny_bind (wpAny_pure ?_)
 unfold Builtin.Dict.mergeDict
 have hb : (s.heap.objs.size == a) = false := beq_eq_false_iff_ne.mpr (Ne.symm hne)
 simp only [hb, Bool.false_eq_true, if_false]
 unfold Builtin.Dict.showsAll
 rw [if_neg (by simpa using hns)]
 refine wpAny_bind (wpAny_pure ?_)
 refine wpAny_bind (wpAny_dictEntries ho' hd ?_)
 have tail : ∀ (s' : Shared), Pst C g σ s Q (.ref s.heap.objs.size) s' → wpAny (model C.prog C.w) A.in1.in1 (do Builtin.Dict.addKeywords s.heap.objs.size []; ret Value.none)
     (fun fin s' => match fin with | .done f => wants (fun r s₂ => r = .none ∧ Pst C g σ s Q (.ref s.heap.objs.size) s₂) noE (.ok f) s' | .again c' => c'.quiet = true ∧ codeAny (model C.prog C.w) A.in1 c' (wants (fun r s₂ => r = .none ∧ Pst C g σ s Q (.ref s.heap.objs.size) s₂) noE) s')
       (fun e s' => wants (fun r s₂ => r = .none ∧ Pst C g σ s Q (.ref s.heap.objs.size) s₂) noE (.error e) s') s' := by
   intro s' hp
   refine wpAny_bind ?_
   unfold Builtin.Dict.addKeywords
   rw [List.forIn_nil]
   exact wpAny_pure (wpAny_pure ⟨rfl, hp⟩)
 by_cases hemp : es.toList = []
 · have he : es = #[] := by rw [← Array.toList_eq_nil_iff]; exact hemp
   subst he
   cases hE
   rw [if_neg (by simp)]
   refine wpAny_bind (wpAny_dictEpoch ho' hd ?_)
   refine wpAny_bind (wpAny_dictEntries ho' hd ?_)
   refine wpAny_bind (wpAny_of_eq (a := PUnit.unit) (by rw [Std.Legacy.Range.forIn_eq_forIn_range']; rfl) (wpAny_pure (tail _ ?_)))
   exact fin (s.heap.push { cls := .type "dict", data := .dict #[] }) _ (Heap.SameBut.refl ..) hN (DR.new g)
 · have hfew : (decide (es.size ≤ 8) && es.all fun e => (keyPart e.key).isSome) = false := by
     rw [Bool.and_eq_false_iff]
     right
     rw [← Array.all_toList]
     cases hl : es.toList with
     | nil => exact absurd hl hemp
     | cons e l =>
       rw [hl] at hE
       cases hE with
       | cons ea _ =>
         refine ob42 ea.key ?_; rintro b _ _ _ q _
         rw [List.all_cons, q]; rfl
   simp only [hfew, Bool.not_false, if_true]
   refine wpAny_bind (wpAny_dictEntries hN rfl ?_)
   simp only [Array.isEmpty_empty, if_true]
   refine wpAny_bind (entriesForEmpty_ (s := { s with heap := s.heap.push { cls := .type "dict", data := .dict #[] } }) S' ho' hd hE nd ?_)
   have hne' : es.isEmpty = false := by
     rw [Array.isEmpty_eq_false_iff]; intro z; exact hemp (by rw [z])
   simp only [hne', Bool.not_false, if_true]
   refine wpAny_bind (wpAny_updateDictKeysTo hN rfl (wpAny_pure (tail _ (fin _ _ (Heap.SameBut.update ..) (Heap.get?_update_self _ hN (Obj.isFreed_of_dict (Obj.data_mapDictKeys rfl _))) ?_))) (by show es.size ≤ sizeLine + 1; exact li1 hsz))
   exact ⟨⟨rfl, rfl, rfl⟩, (mx22 es _ (Obj.data_mapDictKeys rfl _) hE), hnd⟩
end
end Mine
namespace Mine
variable {C : Cx}
theorem evalArgs_ {M : Model} {A : Around} {E : Value → Shared → Prop} {s : Shared} {f : Value} {env : Env} {args : List Expr} {pos : Pos} (hs : args.all (fun x => !isStarred x) = true) {Q : Args → Shared → Prop}
   (h : wpAny M A (spliced (backTo pos (starEach args env))) (fun vs s' => Q ⟨vs, []⟩ s') E s) : wpAny M A (evalArgs f true (backTo pos (starEach args env)) []) Q E s := by
 have ev : ∀ l : List (Bool × Sem Value), (∀ p ∈ l, p.1 = false) → ∀ {Q : Args → Shared → Prop}, wpAny M A (spliced l) (fun vs s' => Q ⟨vs, []⟩ s') E s → wpAny M A (evalArgs f true l []) Q E s := by
   intro l hl Q h
   cases l with
   | nil =>
     unfold evalArgs
     show wpAny _ A (spliced [] >>= _) Q _ s
     refine wpAny_bind (wpAny_mono h (fun vs s' h' => wpAny_bind (wpAny_pure ?_)) fun _ _ x => x)
     refine wpAny_holding ?_
     exact wpAny_bind (wpAny_pure (wpAny_bind (wpAny_pure (wpAny_pure h'))))
   | cons p l =>
     obtain ⟨b, x⟩ := p
     have : b = false := hl _ List.mem_cons_self
     subst this
     exact Calls.evalArgs_plain h
 exact ev _ (plain_args hs pos) h
theorem seqIndex_zero {n : Nat} (h : 0 < n) : seqIndex? 0 n = some 0 := by
 unfold seqIndex?; simp [h]
section
variable {n : Nat} {env : Env} {e : Vars} {σ : Sg} {Q : V → Sg → Prop}
noncomputable def ofTy (T : String) (o : Obj) : Prop := o.cls = .type T ∧ o.dict = none
theorem E_meth {o : Expr} {name : Str} {apos pos : Pos} {args : List Expr} {T id : String} (pa : PlainAttrs T) (slot : PySem.Slot T name id) (hty : typeOf (.builtin id) = pure (.type "method_descriptor"))
   (hbase : ∀ env, attributeBase o name env (eval o env) = eval o env) (hline : (apos.endLine == pos.line) = true) (hs : args.all (fun x => !isStarred x) = true)
   (hfew : ∀ env, ((backTo pos (starEach args env)).all (fun x => !x.1) && (backToKw pos (keywordEach [] env)).all (fun x => x.1.isSome)
     && decide (args.length + ([] : List Keyword).length + (if ([] : List Keyword).isEmpty then 0 else 1) < 30)) = true)
   (h : EE C n env e o σ fun ov σ₁ => ∃ a v ob, ov = .ref a ∧ σ₁ a = some (v, ob) ∧ ofTy T ob ∧ EEs C n env e args σ₁ fun vs σ₂ => Opn C n (fun us => call (.builtin id) (.ref a :: us)) vs σ₂ Q) :
   EE C n env e (.Call (.Attribute o name apos) args [] pos) σ Q := fun A g s R S F => by
 refine wpAny_Call_method (hbase env) (hfew env) hline pa slot hty (wpAny_mono (h A g s R S F) ?_ fun _ _ x => x)
 rintro ov s₁ ⟨g₁, v, σ₁, X₁, S₁, V, a, w, ob, rfl, ha, hT, h₁⟩
 refine V.cr ?_
 have ho := (S₁.own a _ _ ha).2.2.1
 refine (mx03 ⟨ob, ho, hT.1⟩ (fun b hb => ⟨ob, by cases hb; exact ho, hT.2⟩) ?_)
 refine Calls.callWith_builtin (List.any_eq_false.mpr fun p hp => by rw [plain_args hs pos p hp]; exact Bool.false_ne_true) (evalArgs_ hs ?_)
 refine wpAny_mono (h₁ A g₁ s₁ pos R S₁ (F.ext X₁)) ?_ fun _ _ x => x
 rintro us s₂ ⟨g₂, vs, σ₂, X₂, S₂, Vs, q⟩
 exact wpAny_mono (q A g₂ s₂ us R S₂ Vs) (fun _ _ p => (p.then X₂).then X₁) fun _ _ x => x
theorem own_lst {g : Fz} {s : Shared} (S : SR C g σ s.heap) {a : Addr} {xs : List V} {o : Obj} (ha : σ a = some (.lst xs, o)) : ∃ items k, s.heap.get? a = some { cls := .type "list", dict := none, data := .seq items k, slots := #[] } ∧ o = { cls := .type "list", data := .seq items k } ∧ VRs g xs items.toList := by
 refine ob04 (S.own a _ _ ha) ?_; rintro _ _ ho r
 cases r with | lst hs => exact (mx23 _ _ ho rfl hs)
theorem own_ty {g : Fz} {s : Shared} (S : SR C g σ s.heap) {a : Addr} {xs : List V} {o : Obj} (ha : σ a = some (.lst xs, o)) : ofTy "list" o := by
 refine ob23 (own_lst S ha) ?_; rintro _ _ _ rfl _; exact ⟨rfl, rfl⟩
theorem SR.lset {g : Fz} {s : Shared} (S : SR C g σ s.heap) {a : Addr} {xs ys : List V} {o : Obj} (ha : σ a = some (.lst xs, o)) {items : Array Value} {k : Nat} (ho : s.heap.get? a = some { cls := .type "list", dict := none, data := .seq items k, slots := #[] })
   (f : Array Value → Array Value) (hv : VRs g ys (f items).toList) : ∃ o', Ext g σ s g (upd σ a (.lst ys) o') { s with heap := s.heap.update a (Obj.mapSeq f) } ∧ SR C g (upd σ a (.lst ys) o') (s.heap.update a (Obj.mapSeq f)) := by
 have h' := Heap.get?_update_self (Obj.mapSeq f) ho rfl
 exact ⟨_, S.change ha (Heap.SameBut.update ..) h' (.lst hv) s.toks⟩
theorem M_append {a : Addr} {xs : List V} {o : Obj} {v : V} (ha : σ a = some (.lst xs, o)) (hs : xs.length ≤ sizeLine) (h : ∀ o, Q .none (upd σ a (.lst (xs ++ [v])) o)) : Opn C n (fun us => call (.builtin "list.append") (.ref a :: us)) [v] σ Q := fun A g s us R S Vs => by
 refine ob12 Vs.one ?_; rintro u rfl V
 refine ob23 (own_lst S ha) ?_; rintro items k ho rfl hi
 refine ob12 (S.lset (ys := xs ++ [v]) ha ho (·.push u) (by rw [Array.toList_push]; exact hi.append (.cons V .nil))) ?_; rintro o' X S'
 exact call_meets F.slot_list_append ⟨_, ho, rfl⟩ F.entry_list_append (F.args_list_append_2 _ _) (PySem.list_append a items k u (by rw [← Array.length_toList, ← hi.length]; exact hs)) ⟨ho, g, .none, _, X, S', .none, h o'⟩
theorem M_extend {a b : Addr} {xs ys : List V} {o ob : Obj} (ha : σ a = some (.lst xs, o)) (hb : σ b = some (.lst ys, ob)) (hs : xs.length + ys.length ≤ sizeLine) (h : ∀ o, Q .none (upd σ a (.lst (xs ++ ys)) o)) :
   Opn C n (fun us => call (.builtin "list.extend") (.ref a :: us)) [.ref b] σ Q := fun A g s us R S Vs => by
 refine ob12 Vs.one ?_; rintro u rfl V
 refine V.cr ?_
 refine ob23 (own_lst S ha) ?_; rintro items k ho rfl hi
 refine ob23 (own_lst S hb) ?_; rintro items2 k2 ho2 rfl hi2
 have e1 : xs.length = items.size := by rw [hi.length, Array.length_toList]
 have e2 : ys.length = items2.size := by rw [hi2.length, Array.length_toList]
 refine ob12 (S.lset (ys := xs ++ ys) ha ho (· ++ items2) (by rw [Array.toList_append]; exact hi.append hi2)) ?_; rintro o' X S'
 exact call_meets F.slot_list_extend ⟨_, ho, rfl⟩ F.entry_list_extend (F.args_list_extend_2 _ _) (AutoSeq1.list_extend_list_list_0 a items k b items2 k2 (by simp [Builtin.List.listTooLong]; intro _; exact li3 hs (eG e1) (eG e2)) (by exact li2 hs (eG e1)) (by exact li3 hs (eG e1) (eG e2))) ⟨ho, ho2, g, .none, _, X, S', .none, h o'⟩
theorem M_pop0 {a : Addr} {xs : List V} {o : Obj} {v : V} (ha : σ a = some (.lst (v :: xs), o)) (hs : xs.length + 1 ≤ sizeLine) (h : ∀ o, Q v (upd σ a (.lst xs) o)) : Opn C n (fun us => call (.builtin "list.pop") (.ref a :: us)) [.int 0] σ Q := fun A g s us R S Vs => by
 refine ob12 Vs.one ?_; rintro u rfl V
 refine ob23 (own_lst S ha) ?_; rintro items k ho rfl hi
 refine V.ci fun t => ?_
 · refine ob12 (hi.get (i := 0) rfl) ?_; rintro y hy Vy
   rw [Array.getElem?_toList] at hy
   have e1 : xs.length + 1 = items.size := by have := hi.length; simpa using this
   have e2 : 0 < items.size := by rw [← e1]; exact Nat.succ_pos _
   refine ob12 (S.lset (ys := xs) ha ho (·.eraseIdxIfInBounds 0) (by
     have hd := hi.drop 1
     have : (items.eraseIdxIfInBounds 0).toList = items.toList.drop 1 := by
       obtain ⟨l⟩ := items
       cases l with
       | nil => simp at e1
       | cons z l => simp [Array.eraseIdxIfInBounds]
     rw [this]; simpa using hd)) ?_; rintro o' X S'
   exact call_meets F.slot_list_pop ⟨_, ho, rfl⟩ F.entry_list_pop (F.args_list_pop_2 _ _) (PySem.MeetsSeq.list_pop_at a items k 0 t 0 y (by decide) (seqIndex_zero e2) hy (by rw [← e1]; exact hs)) ⟨ho, g, v, _, X, S', Vy, h o'⟩
theorem O_lset {a : Addr} {xs : List V} {o : Obj} {i : Int} {j : Nat} {v : V} {Q : Sg → Prop} (ha : σ a = some (.lst xs, o)) (hs : xs.length ≤ sizeLine) (hj : seqIndex? i xs.length = some j) (h : ∀ o, Q (upd σ a (.lst (xs.set j v)) o)) :
   Op3 C n setItem (.ref a) (.int i) v σ Q := fun A g s u w z R S Va Vb Vc => by
 refine Va.cr ?_
 refine ob23 (own_lst S ha) ?_; rintro items k ho rfl hi
 have hlen : xs.length = items.size := by rw [hi.length, Array.length_toList]
 have hsz : items.size ≤ 2 ^ 24 := hlen ▸ hs
 have hl : s.heap.IsList a items := ⟨_, ho, rfl, k, rfl⟩
 refine ob12 (S.lset (ys := xs.set j v) ha ho (·.setIfInBounds j z) (by rw [Array.toList_setIfInBounds]; exact hi.set j Vc)) ?_; rintro o' X S'
 refine Vb.ci fun t => ?_
 · rw [hlen] at hj
   have hc := seqIndex_cases hj
   have hfit : Builtin.List.listFitsIndex i = true := by
     unfold Builtin.List.listFitsIndex
     simp only [Bool.and_eq_true, decide_eq_true_eq]
     omega
   have hjl : j < items.size := by omega
   unfold setItem
   try with_reducible refine wpAny_holding ?_
   refine wpAny_bind (wpAny_sequenceKey hl.typeIs (by decide) ?_)
   refine wpAny_bind (wpAny_callSpecial?_slot (name := Str.ofString "__setitem__") hl.typeIs slot_list_setitem
     (wpAny_call_entry slot_list_setitem hl.typeIs entry_list_setitem ?_ (args_list_setitem _ _ _)))
   show wpAny _ _ (Builtin.List.listSubscript? (.int i t) >>= _) _ _ s
   refine wpAny_bind (wpAny_listSubscript_int hfit ?_)
   clear hfit
   obtain ⟨zz, hx'⟩ : ∃ zz, items[j]? = some zz := ⟨_, Array.getElem?_eq_getElem hjl⟩
   rcases hc with ⟨h0, _, rfl⟩ | ⟨h0, _, hj'⟩
   · refine ob11 (Int.eq_ofNat_of_zero_le h0) ?_; rintro i rfl
     show wpAny _ _ ((seqItemAt a i >>= fun r => pure (r.map (i, ·))) >>= _) _ _ s
     refine wpAny_bind (wpAny_bind (wpAny_seqItemAt ho rfl (wpAny_pure ?_)))
     rw [show items[i]? = some zz from hx']
     show wpAny _ _ (setSeqItemAt a i z >>= _) _ _ s
     refine wpAny_bind (wpAny_setSeqItemAt ho rfl ?_)
     first
       | exact wpAny_bind (wpAny_pure (wpAny_pure (mx12 .none rfl (wpAny_pure ⟨g, _, X, S', h o'⟩))))
       | exact wpAny_pure ⟨.none, rfl, wpAny_pure ⟨g, _, X, S', h o'⟩⟩
   · obtain ⟨k', rfl⟩ : ∃ j : Nat, i = Int.negSucc j := by
       cases i with
       | ofNat n => exact absurd h0 (Int.not_lt.mpr (Int.natCast_nonneg n))
       | negSucc n => exact ⟨n, rfl⟩
     show wpAny _ _ ((Builtin.List.listItems (.ref a) >>= fun xs => pure ((seqIndex? (Int.negSucc k') xs.size).bind fun i => xs[i]?.map (i, ·))) >>= _) _ _ s
     refine wpAny_bind (wpAny_bind ?_)
     show wpAny _ _ (seqItems? (.ref a) >>= _) _ _ s
     refine wpAny_bind (wpAny_seqItems ho rfl (wpAny_pure (wpAny_pure ?_)))
     rw [hj]
     simp only [Option.bind_some, hx', Option.map_some]
     show wpAny _ _ (setSeqItemAt a j z >>= _) _ _ s
     refine wpAny_bind (wpAny_setSeqItemAt ho rfl ?_)
     first
       | exact wpAny_bind (wpAny_pure (wpAny_pure (mx12 .none rfl (wpAny_pure ⟨g, _, X, S', h o'⟩))))
       | exact wpAny_pure ⟨.none, rfl, wpAny_pure ⟨g, _, X, S', h o'⟩⟩
end
end Mine
namespace Mine
variable {C : Cx}
theorem SR.fr {g : Fz} {σ : Sg} {h h' : Heap} {b : Addr} (S : SR C g σ h) (hs : Heap.SameBut b h h') (hb : σ b = none) (gb : g b = none) : SR C g σ h' where
 base := S.base
 sub := fun a o e => (hs.2 a (fun q => by rw [q, gb] at e; cases e)).trans (S.sub a o e)
 own := fun a v o q => by
   refine ob04 (S.own a v o q) ?_; rintro x y ho r
   exact (mx04 x y ((hs.2 a (fun z => by rw [z, hb] at q; cases q)).trans ho) r)
noncomputable def ddel (p : Poly) (k : List Int) : Poly := p.filter fun x => !decide (x.1 = k)
section
variable {n : Nat} {env : Env} {e : Vars} {σ : Sg} {Q : V → Sg → Prop}
theorem E_dict0 {pos : Pos} (h : ∀ a o, σ a = none → Q (.ref a) (upd σ a (.dct []) o)) : EE C n env e (.Dict [] [] pos) σ Q := fun A g s R S F => by
 rw [eval_Dict_empty]
 refine wpAny_bind (wpAny_standAt ?_)
 refine ob03 (S.newOwn (v := .dct []) { cls := .type "dict", data := .dict #[] } rfl (.dct (DR.new g)) s.toks) ?_; rintro p X S'
 exact wpAny_newObj_type ⟨_, .ref _, _, X, S', .ref _, h _ _ p⟩ (by size_fits)
inductive PRs (g : Fz) : Poly → List (Value × Value) → Prop
 | nil : PRs g [] []
 | cons {k r u v p l} : TupI g k u → TupI g [r.num, (r.den : Int)] v → PRs g p l → PRs g ((k, r) :: p) ((u, v) :: l)
theorem PRs.mono {g g' : Fz} (L : Le g g') {p l} (h : PRs g p l) : PRs g' p l := by
 induction h with
 | nil => exact .nil
 | cons a b _ ih => exact .cons (a.mono L) (b.mono L) ih
theorem PRs.len {g : Fz} {p l} (h : PRs g p l) : p.length = l.length := by
 induction h with
 | nil => rfl
 | cons _ _ _ ih => simp [ih]
noncomputable def EPs (C : Cx) (n : Nat) (env : Env) (e : Vars) : List (Expr × Expr) → Sg → (Poly → Sg → Prop) → Prop
 | [], σ, K => K [] σ
 | (kx, vx) :: ps, σ, K => EE C n env e kx σ fun kv σ₁ => ∃ ks, kv = itup ks ∧ EE C n env e vx σ₁ fun vv σ₂ => ∃ r, vv = rv r ∧ EPs C n env e ps σ₂ fun l σ₃ => K ((ks, r) :: l) σ₃
theorem evalPairs_ {pos : Pos} : ∀ {ps : List (Expr × Expr)} {σ : Sg} {K : Poly → Sg → Prop} {A : Around} {g : Fz} {s : Shared}, EPs C n env e ps σ K → Room A n → SR C g σ s.heap → FR C env e g σ s.heap →
   wpAny (model C.prog C.w) A (evalPairs (ps.map fun p => (eval p.1 env, do let x ← eval p.2 env; standAt pos; pure x))) (fun vs s' => ∃ g' σ' l, Ext g σ s g' σ' s' ∧ SR C g' σ' s'.heap ∧ PRs g' l vs ∧ l.length = ps.length ∧ K l σ') noE s
 | [], σ, K, A, g, s, h, R, S, F => PySem.evalPairs_nil (mx35 g σ [] (.refl ..) S .nil rfl h)
 | (kx, vx) :: ps, σ, K, A, g, s, h, R, S, F => by
   rw [List.map_cons]
   refine PySem.evalPairs_cons (wpAny_mono (h A g s R S F) ?_ fun _ _ x => x)
   rintro u s₁ ⟨g₁, v, σ₁, X₁, S₁, V, ks, rfl, h₁⟩
   refine wpAny_bind (wpAny_mono (h₁ A g₁ s₁ R S₁ (F.ext X₁)) ?_ fun _ _ x => x)
   rintro w s₂ ⟨g₂, v', σ₂, X₂, S₂, V₂, r, rfl, h₂⟩
   refine wpAny_bind (wpAny_standAt (wpAny_pure ?_))
   refine wpAny_mono (evalPairs_ h₂ R S₂ (F.ext (X₁.trans X₂))) ?_ fun _ _ x => x
   rintro vs s₃ z1; refine ob35 z1 ?_; clear z1; rintro g₃ σ₃ l X₃ S₃ P₃ hl q
   exact (mx35 g₃ σ₃ _ ((X₁.trans X₂).trans X₃) S₃ (.cons ((V.mono (X₂.trans X₃).le).tupI) ((rv_tupI V₂).mono X₃.le) P₃) (by simp [hl]) q)
theorem storeAll_ {d : Addr} : ∀ {l : Poly} {vs : List (Value × Value)} {acc : Poly} {A : Around} {g : Fz} {s : Shared} {o : Obj} {Q : PUnit → Shared → Prop}, PRs g l vs → Room A n → SR C g σ s.heap → σ d = none → g d = none → s.heap.get? d = some o → DR g acc o → acc.length + l.length ≤ sizeLine →
   (∀ s' o, ExtF (fun a => a = d) g σ s g σ s' → SR C g σ s'.heap → s'.heap.get? d = some o → DR g (l.foldl (fun p x => dput p x.1 x.2) acc) o → Q PUnit.unit s') →
   wpAny (model C.prog C.w) A (forIn vs PUnit.unit fun (x : Value × Value) (_ : PUnit) => (do dictSet d x.1 x.2; pure (ForInStep.yield PUnit.unit) : Sem (ForInStep PUnit))) Q noE s
 | _, _, acc, A, g, s, o, Q, .nil, R, S, hσ, hg, ho, hD, hl, hQ => by
   rw [List.forIn_nil]
   exact wpAny_pure (hQ s o ((Ext.refl ..).toF _) S ho hD)
 | _, _, acc, A, g, s, o, Q, .cons (k := k) (r := r) (u := u) (v := v) hk hv hp, R, S, hσ, hg, ho, hD, hl, hQ => by
   rw [List.forIn_cons]
   rw [List.length_cons] at hl
   obtain ⟨b, rest⟩ : ∃ b, u = .ref b := by refine ob42 hk ?_; clear hk; rintro b _ _ _ q _; exact ⟨b, q⟩
   subst rest
   refine ob12 (hD.ofH (C := C) ho S.sub) ?_; rintro xs hx hm
   refine wpAny_bind (wpAny_bind (wpAny_dictSet_heap (knd := knd C) (show A.units < cLine from R.lt) (hk.key S.sub) hm (fun h' hm' hs' => wpAny_pure ?_) (by rw [hx.len]; exact li1 hl)))
   refine ob12 (DR.toH (C := C) (hx.put hk hv) hm') ?_; rintro o' ho' hD'
   have Y : ExtF (fun a => a = d) g σ s g σ { s with heap := h', toks := s.toks + (knd C).draws k } :=
     ⟨.refl _, fun a o q n f => (hs'.2 a f).trans q, sb_alive ⟨hs', _, ho'⟩, fun _ _ _ q => q, fun _ _ _ _ q => q, rfl, rfl⟩
   have S' : SR C g σ h' := S.fr hs' hσ hg
   have hpl : (dput acc k r).length ≤ acc.length + 1 := by unfold dput; split <;> simp
   refine storeAll_ (s := { s with heap := h', toks := s.toks + (knd C).draws k }) hp R S' hσ hg ho' hD' (by exact li2 hl hpl) fun s' o Y' S'' ho'' hD'' => ?_
   exact hQ s' o (Y.trans Y') S'' ho'' hD''
theorem E_dict {keys : List (Option Expr)} {values : List Expr} {pos : Pos} {ps : List (Expr × Expr)}
   (hshape : ∀ env, (evalEachOpt keys env).zip ((evalEach values env).map fun v => do let x ← v; standAt pos; pure x) = (ps.map fun p => (eval p.1 env, do let x ← eval p.2 env; standAt pos; pure x)).map fun p => (some p.1, p.2)) (h0 : ps ≠ []) (hlen : ps.length ≤ 15)
   (h : EPs C n env e ps σ fun l σ' => ∀ a o, σ' a = none → Q (.ref a) (upd σ' a (.dct (l.foldl (fun p x => dput p x.1 x.2) [])) o)) : EE C n env e (.Dict keys values pos) σ Q := fun A g s R S F => by
 rw [arm_eval_Dict, hshape env, dictDisplay_pairs _ (by simpa using h0) (by rw [List.length_map]; exact li1 hlen)]
 refine wpAny_bind (wpAny_standAt (wpAny_bind ?_))
 unfold subDict
 refine wpAny_bind (wpAny_alloc ?_)
 refine wpAny_bind (wpAny_holding ?_)
 rw [if_pos (by rw [List.length_map]; exact hlen)]
 have hk : ∀ b o, s.heap.get? b = some o → (s.heap.push { cls := .type "dict", data := .dict #[] }).get? b = some o := fun b o q => Heap.get?_push_of_some _ q
 have X₀ : Ext g σ s g σ { s with heap := s.heap.push { cls := .type "dict", data := .dict #[] } } := .push hk _ _
 refine ob02 (S.fresh (Nat.le_refl s.heap.objs.size)) ?_; rintro hσ hg
 have hN : (s.heap.push { cls := .type "dict", data := .dict #[] }).get? s.heap.objs.size = some { cls := .type "dict", data := .dict #[] } := Heap.get?_push_size _ rfl
 refine wpAny_bind (wpAny_mono (evalPairs_ (s := { s with heap := s.heap.push { cls := .type "dict", data := .dict #[] } }) h R (S.push hk) (F.ext X₀)) ?_ fun _ _ x => x)
 rintro vs s₁ z1; refine ob35 z1 ?_; clear z1; rintro g₁ σ₁ l X₁ S₁ P₁ hl q
 have ho₁ := X₁.keep _ _ hN hσ
 have hσ₁ := X₁.sig _ _ hN hσ
 have hg₁ := X₁.frz _ _ hN hσ hg
 refine wpAny_holding ?_
 have hf : s.heap.get? s.heap.objs.size = none := Heap.get?_none_of_le (Nat.le_refl _)
 refine wpAny_bind (wpAny_mono (storeAll_ (Q := fun _ s' => Pst C g σ s Q (.ref s.heap.objs.size) s') (σ := σ₁) P₁ R S₁ hσ₁ hg₁ ho₁ (DR.new g₁) (by rw [hl, sizeLine_eq, List.length_nil]; exact li1 hlen) fun s' o Y S' ho' hD' => ?_) (fun _ s' hp => wpAny_pure (wpAny_pure (wpAny_pure hp))) fun _ _ x => x)
 have X := ((X₀.trans X₁).fresh Y fun b hb => hb ▸ hf).adopt hf (.dct (l.foldl (fun p x => dput p x.1 x.2) [])) o
 have hσ' := Y.sig _ _ ho₁ hσ₁
 exact ⟨g₁, .ref _, _, X, S'.adopt hg₁ S.sys ho' (.dct hD'), .ref _, q _ _ hσ₁⟩
theorem own_dct {g : Fz} {s : Shared} (S : SR C g σ s.heap) {a : Addr} {p : Poly} {o : Obj} (ha : σ a = some (.dct p, o)) : s.heap.get? a = some o ∧ DR g p o ∧ a ≠ sysModules := by
 refine ob04 (S.own a _ _ ha) ?_; rintro _ ns ho r
 cases r with | dct hs => exact (mx03 ho hs ns)
theorem own_dty {g : Fz} {s : Shared} (S : SR C g σ s.heap) {a : Addr} {p : Poly} {o : Obj} (ha : σ a = some (.dct p, o)) : ofTy "dict" o := by
 refine ob03 (own_dct S ha) ?_; rintro _ hD _; exact ⟨hD.exact.1, hD.exact.2.1⟩
theorem dict_len_body {g : Fz} {s : Shared} {A : Around} {E : Value → Shared → Prop} {d : Addr} {o : Obj} {p : Poly} {Q : Value → Shared → Prop} (hd : d ≠ sysModules) (ho : s.heap.get? d = some o) (hD : DR g p o) (hs : p.length ≤ sizeLine)
   (h : Q (.int p.length (s.toks + 1)) { s with toks := s.toks + 1 + 1 }) : wpAny (model C.prog C.w) A (Builtin.«len» ⟨[.ref d], []⟩) (fun fin s' => ∃ r, fin = .done (.ret r) ∧ Q r s') E s := by
 obtain ⟨ex, ⟨es, ep, hdat, hE⟩, _⟩ := hD
 have hT : s.TypeIs (.ref d) "dict" := ⟨o, ho, ex.1⟩
 have e1 : es.size = p.length := by rw [← Array.length_toList, ← hE.length]
 have hfit := fits hs
 unfold Builtin.«len»
 refine wpAny_bind (m := oneArg "len" _) (wpAny_pure ?_)
 refine wpAny_bind (m := callSpecial? (.ref d) (Str.ofString "__len__")) (wpAny_callSpecial?_slot (name := Str.ofString "__len__") hT F.slot_dict_len
   (wpAny_call_entry F.slot_dict_len hT F.entry_dict_len ?_ (F.args_dict_len_1 _)))
 show wpAny _ _ (dictSize d >>= _) _ _ s
 unfold dictSize
 refine wpAny_bind (wpAny_bind (wpAny_dictEntries ho hdat (wpAny_pure ?_)))
 show wpAny _ _ (Builtin.Dict.pendingCount d >>= _) _ _ s
 refine wpAny_bind (wpAny_pendingCount_other (by simpa using hd) ?_)
 rw [show ((es.size : Int) + ((0 : Nat) : Int)) = (p.length : Int) by rw [e1]; simp]
 refine wpAny_bind (wpAny_mkInt (wpAny_pure (mx12 _ rfl ?_)))
 refine wpAny_bind (wpAny_holding (wpAny_pure ?_))
 refine wpAny_bind (wpAny_letGo ?_)
 show wpAny _ _ (if ((p.length : Nat) : Int) < 0 then _ else _) _ _ _
 rw [if_neg (by exact Int.not_lt_of_ge (il1 (c0 (List.length p))))]
 show wpAny _ _ (if ((p.length : Nat) : Int) ≥ 2 ^ 63 then _ else _) _ _ _
 rw [if_neg (by exact Int.not_le_of_gt (il1 hfit))]
 exact wpAny_bind (wpAny_mkInt (wpAny_pure (mx12 _ rfl h)))
theorem B_len_dct {v : V} {p : Poly} (hl : look σ v = .dct p) (hs : p.length ≤ sizeLine) (h : Q (.int p.length) σ) : Opn C n (fun us => call (.builtin "len") us) [v] σ Q := fun A g s us R S Vs => by
 refine ob12 Vs.one ?_; rintro u rfl V
 refine ob25 (is_dict S V hl) ?_; rintro a o rfl hns ho hD _
 exact Calls.call_function_entry kind_len plain_len entry_len (args_len1 _) (dict_len_body (C := C) hns ho hD hs ⟨g, .int _, σ, .toks .., S, .int _ _, h⟩)
end
end Mine
namespace Mine
variable {C : Cx}
theorem size_erased_ {α : Type} (es : Array α) (j : Nat) : (es.eraseIdxIfInBounds j).size ≤ es.size := by
 unfold Array.eraseIdxIfInBounds
 split
 · simp
 · exact Nat.le_refl _
theorem eraseIdx_map_ {α β : Type} (f : α → β) : ∀ (l : List α) (j : Nat), (l.map f).eraseIdx j = (l.eraseIdx j).map f
 | [], _ => rfl
 | _ :: _, 0 => rfl
 | x :: l, j + 1 => by simp [eraseIdx_map_ f l j]
theorem XR.erase {g : Fz} {p : Poly} {xs} (h : XR g p xs) (j : Nat) : XR g (p.eraseIdx j) (xs.eraseIdx j) := by
 induction h generalizing j with
 | nil => simp; exact .nil
 | cons a b r ih =>
   cases j with
   | zero => exact r
   | succ j => exact .cons a b (ih j)
theorem XR.at {g : Fz} {p : Poly} {xs} (h : XR g p xs) {j : Nat} {k q} (hj : xs[j]? = some (k, q)) : ∃ r, p[j]? = some (k, r) ∧ TupI g [r.num, (r.den : Int)] q.2 := by
 induction h generalizing j with
 | nil => simp at hj
 | cons a b r ih =>
   cases j with
   | zero => simp only [List.getElem?_cons_zero, Option.some.injEq, Prod.mk.injEq] at hj; refine ob02 hj ?_; clear hj; rintro rfl rfl; exact (mx12 _ rfl b)
   | succ j => simpa using ih (by simpa using hj)
theorem ddel_none {p : Poly} {k : List Int} (h : k ∉ p.map (·.1)) : ddel p k = p := by
 unfold ddel
 rw [List.filter_eq_self]
 intro x hx
 have : x.1 ≠ k := fun z => h (z ▸ List.mem_map.mpr (mx12 x hx rfl))
 simp [this]
theorem ddel_erase {p : Poly} {k : List Int} {r : Rat} : ∀ {j : Nat}, (p.map (·.1)).Nodup → p[j]? = some (k, r) → ddel p k = p.eraseIdx j := by
 induction p with
 | nil => intro j _ h; simp at h
 | cons x p ih =>
   intro j nd h
   rw [List.map_cons, List.nodup_cons] at nd
   cases j with
   | zero =>
     simp only [List.getElem?_cons_zero, Option.some.injEq] at h
     subst h
     have := ddel_none nd.1
     unfold ddel at this ⊢
     simpa using this
   | succ j =>
     have hx : x.1 ≠ k := fun z => by
       have : (k, r) ∈ p := List.mem_of_getElem? (by simpa using h)
       exact nd.1 (z ▸ List.mem_map.mpr (mx12 _ this rfl))
     have := ih nd.2 (by simpa using h)
     unfold ddel at this ⊢
     simp [hx, this]
theorem dget_at {p : Poly} {k : List Int} {r : Rat} : ∀ {j : Nat}, (p.map (·.1)).Nodup → p[j]? = some (k, r) → dget p k = some r := by
 induction p with
 | nil => intro j _ h; simp at h
 | cons x p ih =>
   intro j nd h
   rw [List.map_cons, List.nodup_cons] at nd
   cases j with
   | zero =>
     simp only [List.getElem?_cons_zero, Option.some.injEq] at h
     subst h; simp [dget]
   | succ j =>
     have hx : x.1 ≠ k := fun z => by
       have : (k, r) ∈ p := List.mem_of_getElem? (by simpa using h)
       exact nd.1 (z ▸ List.mem_map.mpr (mx12 _ this rfl))
     have := ih nd.2 (by simpa using h)
     simpa [dget, hx] using this
section
variable {n : Nat} {env : Env} {e : Vars} {σ : Sg} {Q : V → Sg → Prop}
theorem S_exprV {x pos} {Q : Fl → Vars → Sg → Prop} (hi : interactive env = false) (hs : swapsWith x none pos.line env = pure false)
   (h : EE C n env e x σ fun v σ' => Q .next e σ') : SS C n env e (.Expr x pos) σ Q := fun A g s R S F => by
 show wpAny _ A (exec (.Expr x pos) env) _ _ s
 rw [exec_Expr env x pos hi hs]
 refine wpAny_bind (wpAny_standAt (wpAny_bind (wpAny_mono (h A g s R S F) ?_ fun _ _ x => x)))
 rintro u s₁ ⟨g₁, v, σ₁, X₁, S₁, V, q⟩
 exact wpAny_dropValue ⟨g₁, .next, e, σ₁, X₁.toF _, S₁, F.ext X₁, .next, q⟩
theorem takeOut_ {g : Fz} {s : Shared} {A : Around} {a : Addr} {P : Poly} {o : Obj} {k : List Int} {b : Addr} {Q : Option DictEntry → Shared → Prop} (hu : A.units < cLine) (S : SR C g σ s.heap) (ha : σ a = some (.dct P, o)) (hk : TupI g k (.ref b)) (hs : P.length ≤ sizeLine)
   (hnone : dget P k = none → ∀ s', Ext g σ s g σ s' → SR C g σ s'.heap → Q none s')
   (hsome : ∀ r en, dget P k = some r → TupI g [r.num, (r.den : Int)] en.val → ∀ s' o', Ext g σ s g (upd σ a (.dct (ddel P k)) o') s' → SR C g (upd σ a (.dct (ddel P k)) o') s'.heap → Q (some en) s') :
   wpAny (model C.prog C.w) A (Builtin.Dict.takeOut a (.ref b)) Q noE s := by
 refine ob03 (own_dct S ha) ?_; rintro ho hD hns
 refine ob12 (hD.ofH (C := C) ho S.sub) ?_; rintro xs hx hm
 refine ob36 hm ?_; clear hm; rintro o' es ep ho' hc hd he his hn
 rw [ho] at ho'; cases ho'
 have hkey := hk.key (C := C) S.sub
 have hes : es.size ≤ sizeLine := by rw [← Array.length_toList, he, List.length_map, hx.len]; exact hs
 unfold Builtin.Dict.takeOut
 refine wpAny_holding ?_
 refine wpAny_bind ((knd C).pyHash hu hkey (wpAny_bind (wpAny_dictFind_heap (s := { s with toks := s.toks + (knd C).draws k }) hu hkey ho hd he his hn ?_ ?_)))
 · intro hno
   refine wpAny_pure (hnone ?_ _ (.toks ..) S)
   have := atKey_none_of_get hno
   exact (hx.atNone k).mp this
 · intro j p hj
   refine ob12 (hx.at hj) ?_; rintro r hr hv
   refine wpAny_bind (wpAny_dictEntries (s := { s with toks := s.toks + (knd C).draws k }) ho hd ?_)
   rw [entry_at he j, hj]
   refine wpAny_bind (wpAny_updateDictKeys (s := { s with toks := s.toks + (knd C).draws k }) (hz := hes) ho hd (wpAny_pure ?_) (Nat.le_succ_of_le (size_erased_ es j)))
   have h' := Heap.get?_update_self (Obj.mapDictKeys (·.eraseIdxIfInBounds j)) ho (Obj.isFreed_of_dict (Obj.data_mapDictKeys hd _))
   have hnd : (P.map (·.1)).Nodup := by rw [← hx.keys]; exact hn
   have hD' : DR g (ddel P k) (o.mapDictKeys (·.eraseIdxIfInBounds j)) := by
     rw [ddel_erase hnd hr]
     refine ⟨hc.mapDictKeys _, (mx22 _ _ (Obj.data_mapDictKeys hd _) ?_), ?_⟩
     · have : (es.eraseIdxIfInBounds j).toList = es.toList.eraseIdx j := by
         unfold Array.eraseIdxIfInBounds
         split
         · simp
         · rename_i hc
           rw [List.eraseIdx_of_length_le (by rw [Array.length_toList]; exact li1 (nG hc))]
       rw [this, he, eraseIdx_map_]
       exact (hx.erase j).ents
     · rw [← eraseIdx_map_]; exact hnd.sublist (List.eraseIdx_sublist _ _)
   refine ob02 (SR.change (s := { s with toks := s.toks + (knd C).draws k }) S ha (Heap.SameBut.update ..) h' (.dct hD') (s.toks + (knd C).draws k)) ?_; rintro X S'
   exact hsome r _ (dget_at hnd hr) hv _ _ ((Ext.toks ..).trans X) S'
theorem M_dpop2 {a : Addr} {P : Poly} {o : Obj} {k : List Int} (ha : σ a = some (.dct P, o)) (hs : P.length ≤ sizeLine) (hn : dget P k = none → ∀ v, Q v σ) (hs' : ∀ r, dget P k = some r → ∀ o, Q (rv r) (upd σ a (.dct (ddel P k)) o)) :
   Opn C n (fun us => call (.builtin "dict.pop") (.ref a :: us)) [itup k, .none] σ Q := fun A g s us R S Vs => by
 refine ob23 Vs.two ?_; rintro u x rfl V W
 cases W
 have hT := V.tupI
 obtain ⟨b, rest⟩ : ∃ b, u = .ref b := by refine ob42 hT ?_; clear hT; rintro b _ _ _ q _; exact ⟨b, q⟩
 subst rest
 refine ob03 (own_dct S ha) ?_; rintro ho hD hns
 have hTy : s.TypeIs (.ref a) "dict" := ⟨o, ho, hD.exact.1⟩
 have hb : (a == sysModules) = false := by simpa using hns
 refine wpAny_call_entry F.slot_dict_pop hTy F.entry_dict_pop ?_ (F.args_dict_pop_3 _ _ _)
 unfold Builtin.«dict.pop»
 refine wpAny_bind ?_
 unfold Builtin.Dict.keyAndDefault
 refine wpAny_bind (wpAny_notOrdered_dict hTy ?_)
 show wpAny _ _ (pure (a, Value.ref b, some Value.none)) _ _ s
 refine wpAny_pure ?_
 have hkp : (keyPart (.ref b)).isSome = false := rfl
 simp only [hkp, Bool.false_eq_true, if_false]
 obtain ⟨ex, ⟨es, ep, hd, hE⟩, hnd⟩ := id hD
 refine wpAny_bind (wpAny_dictEntries ho hd (wpAny_bind (wpAny_pure ?_)))
 by_cases hemp : es.isEmpty = true
 · simp only [hemp, if_true]
   refine wpAny_bind (wpAny_rule (wpAny_bind (wpAny_pure ?_)))
   simp only [Option.isNone_none, if_true]
   refine wpAny_bind (wpAny_missedRemoval_other hb ?_)
   refine wpAny_bind (wpAny_rule (wpAny_pure ⟨_, rfl, g, .none, σ, .refl .., S, .none, hn ?_ _⟩))
   have : es.toList = [] := by simpa using hemp
   rw [this] at hE; cases hE; rfl
 · rw [if_neg hemp]
   refine wpAny_bind (takeOut_ (show A.in1.units < cLine from R.lt1) S ha hT hs (fun h0 s' X' S' => ?_) fun r en hr hv s' o' X' S' => ?_)
   · simp only [Option.isNone_none, if_true]
     refine wpAny_bind (wpAny_missedRemoval_other hb ?_)
     exact wpAny_bind (wpAny_rule (wpAny_pure ⟨_, rfl, g, .none, σ, X', S', .none, hn h0 _⟩))
   · simp only [Option.isNone_some, Bool.false_eq_true, if_false]
     refine wpAny_bind (wpAny_letGo ?_)
     exact wpAny_pure ⟨_, rfl, g, rv r, _, X', S', hv.vr, hs' r hr _⟩
theorem M_dpop1 {a : Addr} {P : Poly} {o : Obj} {k : List Int} {r : Rat} (ha : σ a = some (.dct P, o)) (hs : P.length ≤ sizeLine) (hr : dget P k = some r) (hs' : ∀ o, Q (rv r) (upd σ a (.dct (ddel P k)) o)) :
   Opn C n (fun us => call (.builtin "dict.pop") (.ref a :: us)) [itup k] σ Q := fun A g s us R S Vs => by
 refine ob12 Vs.one ?_; rintro u rfl V
 have hT := V.tupI
 obtain ⟨b, rest⟩ : ∃ b, u = .ref b := by refine ob42 hT ?_; clear hT; rintro b _ _ _ q _; exact ⟨b, q⟩
 subst rest
 refine ob03 (own_dct S ha) ?_; rintro ho hD hns
 have hTy : s.TypeIs (.ref a) "dict" := ⟨o, ho, hD.exact.1⟩
 refine wpAny_call_entry F.slot_dict_pop hTy F.entry_dict_pop ?_ (F.args_dict_pop_2 _ _)
 unfold Builtin.«dict.pop»
 refine wpAny_bind ?_
 unfold Builtin.Dict.keyAndDefault
 refine wpAny_bind (wpAny_notOrdered_dict hTy ?_)
 show wpAny _ _ (pure (a, Value.ref b, none)) _ _ s
 refine wpAny_pure ?_
 have hkp : (keyPart (.ref b)).isSome = false := rfl
 simp only [hkp, Bool.false_eq_true, if_false]
 obtain ⟨ex, ⟨es, ep, hd, hE⟩, hnd⟩ := id hD
 refine wpAny_bind (wpAny_dictEntries ho hd (wpAny_bind (wpAny_pure ?_)))
 have hemp : ¬ es.isEmpty = true := fun he => by
   have : es.toList = [] := by simpa using he
   rw [this] at hE; cases hE; cases hr
 rw [if_neg hemp]
 refine wpAny_bind (takeOut_ (show A.in1.units < cLine from R.lt1) S ha hT hs (fun h0 s' X' S' => ?_) fun r' en hr' hv s' o' X' S' => ?_)
 · rw [hr] at h0; (exfalso; cases h0)
 · rw [hr] at hr'; cases hr'
   simp only [Option.isNone_some, Bool.false_eq_true, if_false]
   refine wpAny_bind (wpAny_letGo ?_)
   exact wpAny_pure ⟨_, rfl, g, rv r, _, X', S', hv.vr, hs' _⟩
end
end Mine
open PySem PySem.W PySem.Calls PyProof.Rows PySem.SeqAt
namespace Mine
variable {C : Cx}
theorem TupI.isKey {g : Fz} {ks : List Int} {a : Addr} {h : Heap} {prog : Program} {w : World} (x : TupI g ks (.ref a)) (sub : ∀ a o, g a = some o → h.get? a = some o) : IsTupleKey (intKind prog w) h ks a := by
 refine ob45 x ?_; clear x; rintro a' o items n e ho hc hd hi
 cases e
 refine ⟨o, items, n, sub _ _ ho, hc, hd, ?_⟩
 generalize items.toList = l at hi
 clear hd hc ho
 induction hi with
 | nil => exact .nil
 | cons n t _ ih => exact .cons (by simp [intKind, Value.isInt]) ih
theorem TupI.ref {g : Fz} {ks : List Int} {u} (x : TupI g ks u) : ∃ a, u = .ref a := by refine ob42 x ?_; clear x; rintro b _ _ _ q _; exact ⟨b, q⟩
theorem eqAt_tup {A : Around} {s : Shared} {g : Fz} {a b : List Int} {u v : Value} (hu : A.units < cLine) (sub : ∀ a o, g a = some o → s.heap.get? a = some o) (x : TupI g a u) (y : TupI g b v) : EqAt A s u v (decide (a = b)) := fun prog w E Q hq => by
 refine ob11 x.ref ?_; rintro p rfl
 refine ob11 y.ref ?_; rintro q rfl
 exact wpAny_eqBool_tuple (knd := intKind prog w) hu (x.isKey sub) (y.isKey sub) hq
theorem eqAt_int {A : Around} {s : Shared} {a b : Int} {t u : Tok} : EqAt A s (.int a t) (.int b u) (a == b) := fun prog w E Q hq => wpAny_eqBool_int (by simpa using hq)
theorem rcAt_tup {A : Around} {s : Shared} {g : Fz} {a b : List Int} {u v : Value} (hu : A.units < cLine) (sub : ∀ a o, g a = some o → s.heap.get? a = some o) (x : TupI g a u) (y : TupI g b v) : RcAt A s u v (decide (a = b)) := fun prog w E Q hq => by
 refine ob11 x.ref ?_; rintro p rfl
 refine ob11 y.ref ?_; rintro q rfl
 have hx := x.isKey (prog := prog) (w := w) sub
 have hy := y.isKey (prog := prog) (w := w) sub
 exact wpAny_richCompare_same_room (op := .Eq) hx.typeIs hy.typeIs F.slot_tuple_eq (wpAny_call_entry F.slot_tuple_eq hx.typeIs F.entry_tuple_eq (tuple_eq_tree hx hy (mx13 _ rfl ((fun e => nomatch e)) hq)) (F.args_tuple_eq_2 _ _)) hu
theorem all_eq {a b : List Int} : ((List.range (min a.length b.length)).all (fun j => decide (a[j]? = b[j]?)) && a.length == b.length) = decide (a = b) := by
 rw [Bool.eq_iff_iff]
 simp only [Bool.and_eq_true, List.all_eq_true, List.mem_range, decide_eq_true_eq, beq_iff_eq]
 constructor
 · rintro z1; refine ob02 z1 ?_; clear z1; rintro h1 h2
   apply List.ext_getElem?
   intro j
   by_cases h : j < min a.length b.length
   · exact h1 j h
   · rw [List.getElem?_eq_none (by omega), List.getElem?_eq_none (by omega)]
 · rintro rfl; simp
theorem _root_.PyProof.Rows.IntsAre.at_ {us : List Value} {ks : List Int} (h : IntsAre us ks) : ∀ j (h1 : j < us.length), ∃ k t, ks[j]? = some k ∧ us[j] = .int k t := by
 induction h with
 | nil => intro j h1; simp at h1
 | cons n t _ ih =>
   intro j h1
   cases j with
   | zero => exact (mx22 n t rfl rfl)
   | succ j => simpa using ih j (by simpa using h1)
theorem _root_.PyProof.Rows.IntsAre.len_ {us : List Value} {ks : List Int} (h : IntsAre us ks) : us.length = ks.length := by
 induction h with
 | nil => rfl
 | cons n t _ ih => simp [ih]
theorem rcNe_tup {A : Around} {s : Shared} {g : Fz} {a b : List Int} {u v : Value} (hu : A.units < cLine) (sub : ∀ a o, g a = some o → s.heap.get? a = some o) (x : TupI g a u) (y : TupI g b v) : RcNeAt A s u v (!decide (a = b)) := by
 refine ob45 x ?_; clear x; rintro p o its k rfl ho hc hd hi
 refine ob45 y ?_; clear y; rintro q o2 its2 k2 rfl ho2 hc2 hd2 hi2
 have := RcNeAt.tuples (A := A) (s := s) (l := p) (b := q) (items := its) (items2 := its2) (e := fun j => decide (a[j]? = b[j]?)) ⟨o, sub _ _ ho, hc, k, hd⟩ ⟨o2, sub _ _ ho2, hc2, k2, hd2⟩ hu fun j h1 h2 => by
   refine ob22 (hi.at_ j (by simpa using h1)) ?_; rintro m t h3 h4
   refine ob22 (hi2.at_ j (by simpa using h2)) ?_; rintro m' t' h5 h6
   rw [h3, h5]
   rw [Array.getElem_toList] at h4 h6
   rw [h4, h6]
   have := @eqAt_int A.in1 s m m' t t'
   have e : (m == m') = decide (some m = some m') := by simp [Bool.beq_eq_decide_eq]
   rw [← e]; exact this
 rw [show its.size = a.length by rw [← Array.length_toList, hi.len_], show its2.size = b.length by rw [← Array.length_toList, hi2.len_], all_eq] at this
 exact this
noncomputable def tgt : List Int → List Int → Bool
 | [], _ => false
 | x :: a, b => b.casesOn true fun y b => if x = y then tgt a b else decide (x > y)
noncomputable def tlt : List Int → List Int → Bool
 | [], b => b.casesOn false fun _ _ => true
 | x :: a, b => b.casesOn false fun y b => if x = y then tlt a b else decide (x < y)
theorem tgt_cc (x y : Int) (a b) : tgt (x :: a) (y :: b) = if x = y then tgt a b else decide (x > y) := rfl
theorem tlt_cc (x y : Int) (a b) : tlt (x :: a) (y :: b) = if x = y then tlt a b else decide (x < y) := rfl
noncomputable def lexR (fin : Bool) : List (Bool × Bool) → Bool
 | [] => fin
 | (true, _) :: r => lexR fin r
 | (false, c) :: _ => c
inductive Cmps (C : Cx) (A : Around) (s : Shared) (op : CmpOp) : List (Value × Value) → List (Bool × Bool) → Prop
 | nil : Cmps C A s op [] []
 | cons {x y e c l r} : EqAt A s x y e → (e = false → ∀ (E : Value → Shared → Prop) (Q : Value → Shared → Prop), Q (.bool c) s → wpAny (model C.prog C.w) A (richCompare op x y) Q E s) → Cmps C A s op l r → Cmps C A s op ((x, y) :: l) ((e, c) :: r)
theorem cmp_loop {A : Around} {s : Shared} {E : Value → Shared → Prop} {op : CmpOp} {P : Fin → Shared → Prop} {fin : Bool} {l : List (Value × Value)} {r : List (Bool × Bool)} {k : Option Fin × Unit → Sem Fin} (h : Cmps C A s op l r) (hk1 : k (none, ()) = ret (.bool fin)) (hk2 : ∀ r, k (some r, ()) = pure r) (hP : P (.done (.ret (.bool (lexR fin r)))) s) :
   wpAny (model C.prog C.w) A ((forIn l (none, ()) fun (x : Value × Value) (__s : Option Fin × Unit) => do
           let __do_lift ← eqBool x.fst x.snd
           if (!__do_lift) = true then do
               rule "tuple.compare.by-the-first-pair-that-differs"
               let __do_lift ← richCompare op x.fst x.snd
               let __do_lift ← ret __do_lift
               pure (ForInStep.done (some __do_lift, ()))
             else pure (ForInStep.yield (none, ()))) >>= k) P E s := by
 refine wpAny_bind ?_
 refine wpAny_forIn_list _ (fun rest q s' => s' = s ∧ q = (none, ()) ∧ ∃ r', Cmps C A s op rest r' ∧ lexR fin r' = lexR fin r) _ ?_ ?_ _ _ ⟨rfl, rfl, r, h, rfl⟩
 · rintro ⟨x, y⟩ rest q s' z1; refine ob03 z1 ?_; clear z1; rintro rfl rfl z20; refine ob12 z20 ?_; clear z20; rintro r' hc he
   cases hc with
   | @cons _ _ e c _ r'' h1 h2 h3 =>
     refine wpAny_bind (h1 _ _ _ _ ?_)
     cases e with
     | true =>
       simp only [Bool.not_true, Bool.false_eq_true, if_false]
       exact wpAny_pure ⟨rfl, rfl, _, h3, he⟩
     | false =>
       simp only [Bool.not_false, if_true]
       refine wpAny_bind (wpAny_rule (wpAny_bind (h2 rfl _ _ (wpAny_bind (wpAny_pure (wpAny_pure (?_)))))))
       show wpAny _ _ (k (some _, ())) P E s'
       rw [hk2]
       refine wpAny_pure ?_
       have : lexR fin r = c := by rw [← he]; rfl
       rw [this] at hP
       exact hP
 · rintro q s' z1; refine ob03 z1 ?_; clear z1; rintro rfl rfl z20; refine ob12 z20 ?_; clear z20; rintro r' hc he
   cases hc
   have : lexR fin r = fin := by rw [← he]; rfl
   rw [this] at hP
   rw [hk1]
   exact wpAny_pure hP
theorem rc_gt {A : Around} {s : Shared} {a b : Addr} {xs ys : Array Value} {r : List (Bool × Bool)} {E : Value → Shared → Prop} {Q : Value → Shared → Prop} (hu : A.units < cLine) (ha : s.heap.IsTuple a xs) (hb : s.heap.IsTuple b ys) (hc : Cmps C A.in1 s .Gt (xs.toList.zip ys.toList) r)
   (h : Q (.bool (lexR (decide (xs.size > ys.size)) r)) s) : wpAny (model C.prog C.w) A (richCompare .Gt (.ref a) (.ref b)) Q E s := by
 refine ob13 ha ?_; clear ha; rintro o ho hcl z1; refine ob11 z1 ?_; clear z1; rintro n hd
 refine ob13 hb ?_; clear hb; rintro o2 ho2 hcl2 z1; refine ob11 z1 ?_; clear z1; rintro n2 hd2
 have hTa : s.TypeIs (.ref a) "tuple" := ⟨o, ho, hcl⟩
 have hTb : s.TypeIs (.ref b) "tuple" := ⟨o2, ho2, hcl2⟩
 refine wpAny_richCompare_same_room (op := .Gt) hTa hTb F.slot_tuple_gt (wpAny_call_entry F.slot_tuple_gt hTa F.entry_tuple_gt ?_ (F.args_tuple_gt_2 _ _)) hu
 show wpAny _ _ (isInstance (.ref b) (.type "tuple") >>= _) _ _ s
 refine wpAny_bind (wpAny_isInstance hTb isSubtype_tuple_tuple ?_)
 simp only [Bool.not_true, Bool.false_eq_true, if_false]
 refine wpAny_bind (wpAny_tupleItemsOf ho hd ?_)
 refine wpAny_bind (wpAny_tupleItemsOf ho2 hd2 ?_)
 have hz : Builtin.Tuple.tupleCompareSizes .Gt xs.size ys.size = .bool (decide (xs.size > ys.size)) := rfl
 rw [hz]
 refine cmp_loop (fin := decide (xs.size > ys.size)) hc rfl (fun _ => rfl) ?_
 exact (mx13 _ rfl ((fun e => nomatch e)) h)
theorem rc_lt {A : Around} {s : Shared} {a b : Addr} {xs ys : Array Value} {r : List (Bool × Bool)} {E : Value → Shared → Prop} {Q : Value → Shared → Prop} (hu : A.units < cLine) (ha : s.heap.IsTuple a xs) (hb : s.heap.IsTuple b ys) (hc : Cmps C A.in1 s .Lt (xs.toList.zip ys.toList) r)
   (h : Q (.bool (lexR (decide (xs.size < ys.size)) r)) s) : wpAny (model C.prog C.w) A (richCompare .Lt (.ref a) (.ref b)) Q E s := by
 refine ob13 ha ?_; clear ha; rintro o ho hcl z1; refine ob11 z1 ?_; clear z1; rintro n hd
 refine ob13 hb ?_; clear hb; rintro o2 ho2 hcl2 z1; refine ob11 z1 ?_; clear z1; rintro n2 hd2
 have hTa : s.TypeIs (.ref a) "tuple" := ⟨o, ho, hcl⟩
 have hTb : s.TypeIs (.ref b) "tuple" := ⟨o2, ho2, hcl2⟩
 refine wpAny_richCompare_same_room (op := .Lt) hTa hTb F.slot_tuple_lt (wpAny_call_entry F.slot_tuple_lt hTa F.entry_tuple_lt ?_ (F.args_tuple_lt_2 _ _)) hu
 show wpAny _ _ (isInstance (.ref b) (.type "tuple") >>= _) _ _ s
 refine wpAny_bind (wpAny_isInstance hTb isSubtype_tuple_tuple ?_)
 simp only [Bool.not_true, Bool.false_eq_true, if_false]
 refine wpAny_bind (wpAny_tupleItemsOf ho hd ?_)
 refine wpAny_bind (wpAny_tupleItemsOf ho2 hd2 ?_)
 have hz : Builtin.Tuple.tupleCompareSizes .Lt xs.size ys.size = .bool (decide (xs.size < ys.size)) := rfl
 rw [hz]
 refine cmp_loop (fin := decide (xs.size < ys.size)) hc rfl (fun _ => rfl) ?_
 exact (mx13 _ rfl ((fun e => nomatch e)) h)
theorem cmps_gt {A : Around} {s : Shared} {us vs : List Value} {a b : List Int} (hu : IntsAre us a) (hv : IntsAre vs b) : ∃ r, Cmps C A s .Gt (us.zip vs) r ∧ lexR (decide (us.length > vs.length)) r = tgt a b := by
 induction hu generalizing vs b with
 | nil => cases hv <;> exact mx12 [] .nil rfl
 | cons n t _ ih =>
   cases hv with
   | nil => exact mx12 [] .nil rfl
   | cons m u h' =>
   refine ob12 (ih h') ?_; rintro r h1 h2
   refine (mx12 ((n == m, decide (n > m)) :: r) (.cons eqAt_int (fun _ E Q hq => PySem.P.gt_int hq) h1) ?_)
   by_cases e : n = m
   · subst e
     rw [tgt_cc, if_pos rfl, BEq.rfl, ← h2]
     show lexR _ r = _
     congr 1; exact decide_eq_decide.mpr Nat.add_lt_add_iff_right
   · have : (n == m) = false := beq_eq_false_iff_ne.mpr e
     rw [this]; exact (if_neg e).symm
theorem cmps_lt {A : Around} {s : Shared} {us vs : List Value} {a b : List Int} (hu : IntsAre us a) (hv : IntsAre vs b) : ∃ r, Cmps C A s .Lt (us.zip vs) r ∧ lexR (decide (us.length < vs.length)) r = tlt a b := by
 induction hu generalizing vs b with
 | nil => cases hv <;> exact mx12 [] .nil rfl
 | cons n t _ ih =>
   cases hv with
   | nil => exact mx12 [] .nil rfl
   | cons m u h' =>
   refine ob12 (ih h') ?_; rintro r h1 h2
   refine (mx12 ((n == m, decide (n < m)) :: r) (.cons eqAt_int (fun _ E Q hq => PySem.P.lt_int hq) h1) ?_)
   by_cases e : n = m
   · subst e
     rw [tlt_cc, if_pos rfl, BEq.rfl, ← h2]
     show lexR _ r = _
     congr 1; exact decide_eq_decide.mpr Nat.add_lt_add_iff_right
   · have : (n == m) = false := beq_eq_false_iff_ne.mpr e
     rw [this]; exact (if_neg e).symm
theorem TupI.isT {g : Fz} {ks : List Int} {u : Value} {h : Heap} (x : TupI g ks u) (sub : ∀ a o, g a = some o → h.get? a = some o) : ∃ a items, u = .ref a ∧ h.IsTuple a items ∧ IntsAre items.toList ks := by
 refine ob45 x ?_; clear x; rintro a o items n rfl ho hc hd hi
 exact (mx23 a items rfl ⟨o, sub _ _ ho, hc, n, hd⟩ hi)
theorem rcLt_tup {A : Around} {s : Shared} {g : Fz} {a b : List Int} {u v : Value} (hu : A.units < cLine) (sub : ∀ a o, g a = some o → s.heap.get? a = some o) (x : TupI g a u) (y : TupI g b v)
   {E : Value → Shared → Prop} {Q : Value → Shared → Prop} (h : Q (.bool (tlt a b)) s) : wpAny (model C.prog C.w) A (richCompare .Lt u v) Q E s := by
 refine ob23 (x.isT sub) ?_; rintro p i1 rfl h1 j1
 refine ob23 (y.isT sub) ?_; rintro q i2 rfl h2 j2
 refine ob12 (cmps_lt (C := C) (A := A.in1) (s := s) j1 j2) ?_; rintro r hr e
 refine rc_lt hu h1 h2 hr ?_
 rw [Array.length_toList, Array.length_toList] at e
 rw [e]; exact h
section
variable {n : Nat} {env : Env} {e : Vars} {σ : Sg} {Q : V → Sg → Prop}
theorem O_eqT {a b : List Int} (h : Q (.bool (decide (a = b))) σ) : Op2 C n (compareOp .Eq) (itup a) (itup b) σ Q := fun A g s u v R S Va Vb =>
 rcAt_tup R.lt S.sub Va.tupI Vb.tupI _ _ _ _ ⟨g, _, σ, .refl .., S, .bool _, h⟩
theorem O_neT {a b : List Int} (h : Q (.bool (!decide (a = b))) σ) : Op2 C n (compareOp .NotEq) (itup a) (itup b) σ Q := fun A g s u v R S Va Vb =>
 rcNe_tup R.lt S.sub Va.tupI Vb.tupI _ _ _ _ ⟨g, _, σ, .refl .., S, .bool _, h⟩
theorem O_gtT {a b : List Int} (h : Q (.bool (tgt a b)) σ) : Op2 C n (compareOp .Gt) (itup a) (itup b) σ Q := fun A g s u v R S Va Vb => by
 refine ob23 (Va.tupI.isT S.sub) ?_; rintro p i1 rfl h1 j1
 refine ob23 (Vb.tupI.isT S.sub) ?_; rintro q i2 rfl h2 j2
 refine ob12 (cmps_gt (C := C) (A := A.in1) (s := s) j1 j2) ?_; rintro r hr e
 refine rc_gt R.lt h1 h2 hr ?_
 rw [Array.length_toList, Array.length_toList] at e
 rw [e]; exact ⟨g, _, σ, .refl .., S, .bool _, h⟩
noncomputable def tlt2 (a b c d : List Int) : Bool := if a = c then (if b = d then false else tlt b d) else tlt a c
theorem O_ltTT {a b c d : List Int} (h : Q (.bool (tlt2 a b c d)) σ) : Op2 C n (compareOp .Lt) (.tup [itup a, itup b]) (.tup [itup c, itup d]) σ Q := fun A g s u v R S Va Vb => by
 refine ob24 (is_tup' S Va) ?_; rintro p i1 rfl h1 V1 _
 refine ob24 (is_tup' S Vb) ?_; rintro q i2 rfl h2 V2 _
 refine ob23 V1.two ?_; rintro x1 x2 e1 W1 W2
 refine ob23 V2.two ?_; rintro y1 y2 e2 U1 U2
 have hu1 : A.in1.units < cLine := R.lt1
 refine rc_lt (C := C) (r := [(decide (a = c), tlt a c), (decide (b = d), tlt b d)]) R.lt h1 h2 ?_ ?_
 · rw [e1, e2]
   exact .cons (eqAt_tup hu1 S.sub W1.tupI U1.tupI) (fun _ E Q hq => rcLt_tup hu1 S.sub W1.tupI U1.tupI hq) (.cons (eqAt_tup hu1 S.sub W2.tupI U2.tupI) (fun _ E Q hq => rcLt_tup hu1 S.sub W2.tupI U2.tupI hq) .nil)
 · have s1 : i1.size = 2 := by rw [← Array.length_toList, e1]; rfl
   have s2 : i2.size = 2 := by rw [← Array.length_toList, e2]; rfl
   rw [s1, s2]
   refine ⟨g, _, σ, .refl .., S, .bool _, ?_⟩
   unfold tlt2 at h
   by_cases h1 : a = c
   · by_cases h2 : b = d
     · simpa [lexR, h1, h2] using h
     · simpa [lexR, h1, h2] using h
   · simpa [lexR, h1] using h
theorem O_inI {i : Int} {ks : List Int} (h : Q (.bool (ks.any fun k => k == i)) σ) : Op2 C n (compareOp .In) (.int i) (itup ks) σ Q := fun A g s u v R S Va Vb => by
 refine ob23 (Vb.tupI.isT S.sub) ?_; rintro p i1 rfl h1 j1
 refine Va.ci fun t => ?_
 · refine in_tupleAt (fun y => match y with | .int k _ => k == i | _ => false) h1 (fun y hy => ?_) ?_
   · obtain ⟨j, hj, rfl⟩ := Array.mem_iff_getElem.mp hy
     refine ob22 (j1.at_ j (by simpa using hj)) ?_; rintro k t' h3 h4
     rw [Array.getElem_toList] at h4
     rw [h4]; exact eqAt_int
   · have : i1.any (fun y => match y with | .int k _ => k == i | _ => false) = ks.any fun k => k == i := by
       rw [← Array.any_toList]
       clear h1 h Vb
       generalize i1.toList = l at j1
       induction j1 with
       | nil => rfl
       | cons n t _ ih => simp [ih]
     rw [this]; exact ⟨g, _, σ, .refl .., S, .bool _, h⟩
theorem O_notInT {v : V} {ks : List Int} {ls : List (List Int)} (hl : look σ v = .lst (ls.map itup)) (h : Q (.bool (!ls.any fun k => decide (k = ks))) σ) : Op2 C n (compareOp .NotIn) (itup ks) v σ Q := fun A g s u w R S Va Vb => by
 refine ob23 (is_list S Vb hl) ?_; rintro p i1 rfl h1 V1
 have hx := Va.tupI
 have key : ∀ y, y ∈ i1 → ∃ k, EqAt A.in1 s y u (decide (k = ks)) ∧ TupI g k y := fun y hy => by
   obtain ⟨j, hj, rfl⟩ := Array.mem_iff_getElem.mp hy
   refine ob12 (V1.get' (i := j) (u := i1[j]) (by rw [Array.getElem?_toList]; exact Array.getElem?_eq_getElem hj)) ?_; rintro v' hv V
   rw [List.getElem?_map] at hv
   refine ob12 (Option.map_eq_some_iff.mp hv) ?_; rintro k _ rfl
   exact (mx12 k (eqAt_tup (show A.in1.units < cLine from R.lt1) S.sub V.tupI hx) V.tupI)
 have uniq : ∀ y k k', TupI g k y → TupI g k' y → k = k' := by
   rintro y k k' z1 z2; refine ob45 z1 ?_; clear z1; rintro a o it n rfl ho _ hd hi; refine ob45 z2 ?_; clear z2; rintro a' o' it' n' e ho' _ hd' hi'
   cases e
   rw [ho] at ho'; cases ho'
   rw [hd] at hd'; cases hd'
   generalize it.toList = l at hi hi'
   clear hd
   induction hi generalizing k' with
   | nil => cases hi'; rfl
   | cons n t _ ih => cases hi' with | cons _ _ h2 => rw [ih _ h2]
 classical
 refine notIn_listAt (fun y => decide (∃ k, TupI g k y ∧ k = ks)) h1 (fun y hy => ?_) ?_
 · refine ob12 (key y hy) ?_; rintro k e1 e2
   have : decide (∃ k, TupI g k y ∧ k = ks) = decide (k = ks) := by
     rw [decide_eq_decide]
     constructor
     · rintro z1; refine ob12 z1 ?_; clear z1; rintro k' h1 h2; rw [uniq y k k' e2 h1]; exact h2
     · intro e; exact (mx12 k e2 e)
   rw [this]; exact e1
 · have : i1.any (fun y => decide (∃ k, TupI g k y ∧ k = ks)) = ls.any fun k => decide (k = ks) := by
     rw [← Array.any_toList]
     clear h1 hl h key
     generalize i1.toList = l at V1
     induction ls generalizing l with
     | nil => cases V1; rfl
     | cons k ls ih =>
       cases V1 with
       | cons a b =>
         rw [List.any_cons, List.any_cons, ih _ b]
         congr 1
         rw [decide_eq_decide]
         constructor
         · rintro z1; refine ob12 z1 ?_; clear z1; rintro k' h1 h2; rw [uniq _ k k' a.tupI h1]; exact h2
         · intro e; exact (mx12 k a.tupI e)
   rw [this]; exact ⟨g, _, σ, .refl .., S, .bool _, h⟩
theorem isSame_noneA (v : Value) : isSame v .none = pure (v == .none) := by cases v <;> rfl
theorem is_noneA {M : Model} {A : Around} {E : Value → Shared → Prop} {s : Shared} {v : Value} {Q : Value → Shared → Prop} (h : Q (.bool (v == .none)) s) : wpAny M A (compareOp .Is v .none) Q E s := by
 show wpAny _ _ (isSame v .none >>= _) _ _ _
 rw [isSame_noneA]; exact wpAny_bind (wpAny_pure (wpAny_pure h))
theorem isNot_noneA {M : Model} {A : Around} {E : Value → Shared → Prop} {s : Shared} {v : Value} {Q : Value → Shared → Prop} (h : Q (.bool (!(v == .none))) s) : wpAny M A (compareOp .IsNot v .none) Q E s := by
 show wpAny _ _ (isSame v .none >>= _) _ _ _
 rw [isSame_noneA]; exact wpAny_bind (wpAny_pure (wpAny_pure h))
noncomputable def isN : V → Bool
 | .none => true
 | _ => false
theorem isN_eq {g : Fz} {v : V} {u : Value} (V : VR g v u) : (u == .none) = isN v := by
 cases V <;> rfl
theorem O_isNone {v : V} (h : Q (.bool (isN v)) σ) : Op2 C n (compareOp .Is) v .none σ Q := fun A g s u w R S Va Vb => by
 refine Vb.cn ?_
 exact is_noneA (by rw [isN_eq Va]; exact ⟨g, _, σ, .refl .., S, .bool _, h⟩)
theorem O_isNot {v : V} (h : Q (.bool (!isN v)) σ) : Op2 C n (compareOp .IsNot) v .none σ Q := fun A g s u w R S Va Vb => by
 refine Vb.cn ?_
 exact isNot_noneA (by rw [isN_eq Va]; exact ⟨g, _, σ, .refl .., S, .bool _, h⟩)
theorem O_eqS {a b : Str} (h : Q (.bool (a.cps.toList == b.cps.toList)) σ) : Op2 C n (compareOp .Eq) (.str a) (.str b) σ Q := fun A g s u w R S Va Vb => by
 refine Va.cs fun _ => Vb.cs fun _ => ?_
 exact PySem.P.eq_str ⟨g, _, σ, .refl .., S, .bool _, h⟩
end
end Mine
namespace Mine
variable {C : Cx}
noncomputable def EO (C : Cx) (n : Nat) (env : Env) (e : Vars) (x : Option Expr) (σ : Sg) (K : Option Int → Sg → Prop) : Prop :=
 match x with
 | none => K none σ
 | some x => EE C n env e x σ fun v σ' => ∃ i, v = .int i ∧ K (some i) σ'
section
variable {n : Nat} {env : Env} {e : Vars} {σ : Sg}
theorem EO_ {x : Option Expr} {K : Option Int → Sg → Prop} {A : Around} {g : Fz} {s : Shared} {E : Value → Shared → Prop} (h : EO C n env e x σ K) (R : Room A n) (S : SR C g σ s.heap) (F : FR C env e g σ s.heap) :
   wpAny (model C.prog C.w) A (evalPart x env) (fun u s' => ∃ g' i σ', Ext g σ s g' σ' s' ∧ SR C g' σ' s'.heap ∧ IsPart u i ∧ K i σ') noE s := by
 cases x with
 | none => rw [evalPart_none]; exact wpAny_pure (mx34 g none σ (.refl ..) S .none h)
 | some x =>
   rw [evalPart_some]
   refine wpAny_mono (h A g s R S F) ?_ fun _ _ x => x
   rintro u s₁ ⟨g₁, v, σ₁, X₁, S₁, V, i, rfl, q⟩
   refine V.ci fun _ => ?_
   exact (mx34 g₁ (some i) σ₁ X₁ S₁ (.int _ _) q)
noncomputable def lslice (xs : List V) (lo hi : Option Int) : List V := (xs.drop (lo.elim 0 (clipAt xs.length))).take (hi.elim xs.length (clipAt xs.length) - lo.elim 0 (clipAt xs.length))
theorem lslice_upto (xs : List V) (j : Nat) : lslice xs none (some (j : Int)) = xs.take j := by
 simp only [lslice, Option.elim, clipAt_nat, List.drop_zero, Nat.sub_zero]
 rcases Nat.le_total j xs.length with h | h
 · rw [Nat.min_eq_left h]
 · rw [Nat.min_eq_right h, List.take_of_length_le (Nat.le_refl _), List.take_of_length_le h]
theorem lslice_from (xs : List V) (j : Nat) : lslice xs (some (j : Int)) none = xs.drop j := by
 simp only [lslice, Option.elim, clipAt_nat]
 rcases Nat.le_total j xs.length with h | h
 · rw [Nat.min_eq_left h, List.take_of_length_le (by simp)]
 · rw [Nat.min_eq_right h, List.drop_of_length_le (Nat.le_refl _), List.drop_of_length_le h]; simp
theorem lslice_last (xs : List V) : lslice xs none (some (-1)) = xs.dropLast := by
 have : clipAt xs.length (-1) = xs.length - 1 := clipAt_neg xs.length 1 (Nat.le_refl _)
 simp only [lslice, Option.elim, this, List.drop_zero, Nat.sub_zero, List.dropLast_eq_take]
theorem E_lslice {value : Expr} {lower upper : Option Expr} {p pos : Pos} {Q : V → Sg → Prop} (ht : ∀ o r, letTemporaryGo value o r = pure ())
   (h : EE C n env e value σ fun v σ₁ => EO C n env e lower σ₁ fun lo σ₂ => EO C n env e upper σ₂ fun hi σ₃ => ∃ xs, look σ₃ v = .lst xs ∧ xs.length ≤ sizeLine ∧ Q (.lst (lslice xs lo hi)) σ₃) :
   EE C n env e (.Subscript value (.Slice lower upper none p) pos) σ Q := fun A g s R S F => by
 refine wpAny_Subscript_list_slice (wpAny_mono (h A g s R S F) ?_ fun _ _ x => x) ht
 rintro u s₁ ⟨g₁, v, σ₁, X₁, S₁, V, h₁⟩
 refine wpAny_mono (EO_ (E := noE) h₁ R S₁ (F.ext X₁)) ?_ fun _ _ x => x
 rintro vl s₂ z1; refine ob34 z1 ?_; clear z1; rintro g₂ lo σ₂ X₂ S₂ P₂ h₂
 refine wpAny_mono (EO_ (E := noE) h₂ R S₂ (F.ext (X₁.trans X₂))) ?_ fun _ _ x => x
 rintro vu s₃ z1; refine ob34 z1 ?_; clear z1; rintro g₃ hi σ₃ X₃ S₃ P₃ z20; refine ob13 z20 ?_; clear z20; rintro xs hl hs q
 have V₃ := V.mono (X₂.trans X₃).le
 refine ob23 (is_list S₃ V₃ hl) ?_; rintro a items rfl hL Vs
 have hlen : xs.length = items.size := by rw [Vs.length, Array.length_toList]
 refine (mx46 a items lo hi rfl hL (hlen ▸ hs) P₂ P₃ ?_)
 have hk : ∀ b o, s₃.heap.get? b = some o → (s₃.heap.push { cls := .type "slice", data := .fields #[vl, vu, .none] }).get? b = some o := fun b o q => Heap.get?_push_of_some _ q
 have S₄ : SR C g₃ σ₃ (s₃.heap.push { cls := .type "slice", data := .fields #[vl, vu, .none] }) := S₃.push hk
 refine ob03 (SR.new (s := { s₃ with heap := s₃.heap.push { cls := .type "slice", data := .fields #[vl, vu, .none] } }) S₄ { cls := .type "list", data := .seq (slicePick items lo hi none) } rfl s₃.toks) ?_; rintro X₅ S₅ pp
 have pp' := pp
 simp only [Heap.size_push] at pp' X₅ S₅
 refine ⟨_, .lst (lslice xs lo hi), σ₃, ((X₁.trans X₂).trans X₃).trans ((Ext.push hk _ _).trans X₅), S₅, .lst pp' rfl rfl ?_, q⟩
 show VRs _ (lslice xs lo hi) (slicePick items lo hi none).toList
 have e := congrArg Array.toList (slicePick_plain items lo hi)
 have := Vs.mono X₅.le
 refine Eq.mp (congrArg (VRs _ _) e.symm) ?_
 rw [lslice, hlen]
 exact (this.drop _).take _
theorem O_addL {a b : V} {xs ys : List V} {Q : V → Sg → Prop} (ha : look σ a = .lst xs) (hb : look σ b = .lst ys) (hs : xs.length + ys.length ≤ sizeLine) (h : Q (.lst (xs ++ ys)) σ) : Op2 C n (binaryOp .Add) a b σ Q := fun A g s u w R S Va Vb => by
 refine ob53 (lst_lit S Va ha) ?_; rintro t dd its k sl rfl ho hi
 refine ob53 (lst_lit S Vb hb) ?_; rintro t2 dd2 its2 k2 sl2 rfl ho2 hi2
 have e1 : xs.length = its.size := by rw [hi.length, Array.length_toList]
 have e2 : ys.length = its2.size := by rw [hi2.length, Array.length_toList]
 refine ob03 (S.new { cls := .type "list", data := .seq (its ++ its2) } rfl s.toks) ?_; rintro X S' p
 refine concat_meets ⟨_, ho, rfl⟩ ⟨_, ho2, rfl⟩ noFill_list_add seq_list_add PySem.F.slot_list_add PySem.F.entry_list_add (PySem.F.args_list_add_2 _ _) (list_addW t t2 its its2 k k2 dd dd2 sl sl2 (by rw [← e1, ← e2]; exact hs))
   ⟨ho, ho2, _, .lst (xs ++ ys), σ, X, S', .lst p rfl rfl ?_, h⟩
 rw [Array.toList_append]
 exact (hi.mono X.le).append (hi2.mono X.le)
theorem getItem_tuple_upto {prog : Program} {w : World} {A : Around} {E : Value → Shared → Prop} {s : Shared} {t sl : Addr} {items : Array Value} {b : Nat} {u : Tok} {Q : Value → Shared → Prop} (ht : IsTup s.heap t items) (hs : s.heap.IsSliceOf sl .none (.int b u) .none) (hb : b < items.size)
   (h : Q (.ref s.heap.objs.size) { s with heap := s.heap.push { cls := .type "tuple", data := .seq (items.toList.take b).toArray } })
   (hsz : items.size ≤ sizeLine) : wpAny (model prog w) A (getItem (.ref t) (.ref sl)) Q E s := by
 have hdrop : sizeOk (.seq (items.toList.take b).toArray) := by
   show (items.toList.take b).toArray.size ≤ sizeLine
   rw [List.size_toArray, List.length_take, Array.length_toList]
   exact li2 hsz (Nat.min_le_right b items.size)
 refine ob13 (id hs) ?_; rintro os hos hcs hds
 have hTs : s.TypeIs (.ref sl) "slice" := ⟨os, hos, hcs⟩
 unfold getItem
 try with_reducible refine wpAny_holding ?_
 refine wpAny_bind (wpAny_sequenceKey ht.typeIs (by decide) ?_)
 refine wpAny_bind (wpAny_callSpecial?_slot (name := Str.ofString "__getitem__") ht.typeIs slot_tuple_getitem
   (wpAny_call_entry slot_tuple_getitem ht.typeIs entry_tuple_getitem ?_ (args_tuple_getitem _ _)))
 show wpAny _ _ (Builtin.Tuple.tupleItemsOf (.ref t) >>= _) _ _ s
 refine wpAny_bind (tupleItemsOf_ ht ?_)
 refine wpAny_bind (wpAny_typeOf hTs ?_)
 rw [if_pos (by decide)]
 have hap : wpAny (model prog w) A.in1 (Builtin.Slice.sliceApplied (.ref sl) (pure (items.size : Int))) (fun r s' => r = ((0 : Int), 1, b) ∧ s' = s) E s := by
   unfold Builtin.Slice.sliceApplied Builtin.Slice.sliceFields
   refine wpAny_bind (wpAny_bind (wpAny_field hos hds (x := .none) rfl (wpAny_bind (wpAny_field hos hds (x := .int b u) rfl (wpAny_bind (wpAny_field hos hds (x := .none) rfl (wpAny_pure ?_)))))))
   refine wpAny_bind (slicePart_none ?_)
   show wpAny _ _ (if ((1 : Int) == 0) = true then _ else _) _ _ s
   rw [if_neg (by decide)]
   refine wpAny_bind (slicePart_none (wpAny_bind (slicePart_int (wpAny_bind (wpAny_pure ?_)))))
   have e1 : Builtin.Slice.sliceAdjust none (some (b : Int)) 1 (items.size : Int) = ((0 : Int), (b : Int)) := by
     unfold Builtin.Slice.sliceAdjust
     have h1 : ¬ ((1 : Int) < 0) := by exact Int.not_lt_of_ge il0
     have h2 : ¬ ((b : Int) < 0) := by exact Int.not_lt_of_ge (il1 (c0 b))
     simp only [h1, h2, if_false]
     congr 1
     omega
   show wpAny _ _ (match Builtin.Slice.sliceAdjust none (some (b : Int)) 1 (items.size : Int) with | (lo, hi) => pure (lo, (1 : Int), Builtin.Slice.slicePlaces lo hi 1)) _ _ s
   rw [e1]
   have e2 : Builtin.Slice.slicePlaces (0 : Int) (b : Int) 1 = b := by
     unfold Builtin.Slice.slicePlaces
     have h1 : (1 : Int) > 0 := by exact il0
     simp only [h1, if_true, Int.ediv_one]
     split <;> omega
   show wpAny _ _ (pure ((0 : Int), (1 : Int), Builtin.Slice.slicePlaces (0 : Int) (b : Int) 1)) _ _ s
   rw [e2]
   exact wpAny_pure ⟨rfl, rfl⟩
 refine wpAny_bind (wpAny_mono hap ?_ fun _ _ x => x)
 rintro r s' z1; refine ob02 z1 ?_; clear z1; rintro rfl rfl
 have hno : ¬ (((0 : Int) == 0 && (1 : Int) == 1 && b == items.size) = true) := by
   have : (b == items.size) = false := by rw [beq_eq_false_iff_ne]; exact Nat.ne_of_lt (li1 hb)
   rw [this]; simp
 show wpAny _ _ (if ((0 : Int) == 0 && (1 : Int) == 1 && b == items.size) = true then _ else _) _ _ s'
 rw [if_neg hno]
 have e3 : ((List.range b).filterMap fun (k : Nat) => items[((0 : Int) + (k : Int) * 1).toNat]?).toArray = (items.toList.take b).toArray := by
   have e : (fun (k : Nat) => items[((0 : Int) + (k : Int) * 1).toNat]?) = fun k => items[0 + k]? := by
     funext k
     have : ((0 : Int) + (k : Int) * 1).toNat = 0 + k := by omega
     rw [this]
   rw [e]
   have := pick_run items 0 b
   rw [List.filterMap_map, List.drop_zero] at this
   have e2 : ((fun x => items[x]?) ∘ fun x => 0 + x) = fun k => items[0 + k]? := rfl
   rw [e2] at this
   rw [this]
 rw [e3]
 first
   | exact wpAny_bind (m := Builtin.Tuple.tupleExact _) (wpAny_newObj_type (wpAny_pure (mx12 _ rfl (wpAny_pure h))) hdrop)
   | exact wpAny_bind (m := Builtin.Tuple.tupleExact _) (wpAny_newObj_type (wpAny_bind (wpAny_pure (wpAny_pure ⟨_, rfl, wpAny_pure h⟩))) hdrop)
   | exact wpAny_bind (wpAny_bind (m := Builtin.Tuple.tupleExact _) (wpAny_newObj_type (wpAny_pure (wpAny_pure ⟨_, rfl, wpAny_pure h⟩)) hdrop))
   | exact wpAny_bind (wpAny_bind (m := Builtin.Tuple.tupleExact _) (wpAny_newObj_type (wpAny_pure ⟨_, rfl, wpAny_pure h⟩) hdrop))
theorem E_tfrom {value lower : Expr} {p pos : Pos} {Q : V → Sg → Prop} (ht : ∀ o r, letTemporaryGo value o r = pure ())
   (h : EE C n env e value σ fun v σ₁ => EE C n env e lower σ₁ fun i σ₃ => ∃ xs j, v = .tup xs ∧ i = .int ((j : Nat) : Int) ∧ 1 ≤ j ∧ j ≤ xs.length ∧ xs.length ≤ sizeLine ∧ Q (.tup (xs.drop j)) σ₃) :
   EE C n env e (.Subscript value (.Slice (some lower) none none p) pos) σ Q := fun A g s R S F => by
 refine wpAny_Subscript_Slice (T := "tuple") slot_tuple_getitem.lookup (wpAny_mono (h A g s R S F) ?_ fun _ _ x => x) ht
 rintro u s₁ ⟨g₁, v, σ₁, X₁, S₁, V, h₁⟩
 refine wpAny_Slice ?_
 rw [evalPart_some]
 refine wpAny_mono (h₁ A g₁ s₁ R S₁ (F.ext X₁)) ?_ fun _ _ x => x
 rintro vl s₃ ⟨g₃, i, σ₃, X₃, S₃, P₃, xs, j, rfl, rfl, hj1, hj2, hs, q⟩
 rw [evalPart_none]
 refine wpAny_pure (wpAny_pure ?_)
 refine ob23 (is_tup S₃ (V.mono X₃.le)) ?_; rintro a items rfl hT Vs
 have hlen : xs.length = items.size := by rw [Vs.length, Array.length_toList]
 cases P₃ with
 | int _ t =>
   have hk : ∀ b o, s₃.heap.get? b = some o → (s₃.heap.push { cls := .type "slice", data := .fields #[.int j t, .none, .none] }).get? b = some o := fun b o q => Heap.get?_push_of_some _ q
   have hT' : IsTup (s₃.heap.push { cls := .type "slice", data := .fields #[.int j t, .none, .none] }) a items := hT.keeps hk
   have S₄ : SR C g₃ σ₃ (s₃.heap.push { cls := .type "slice", data := .fields #[.int j t, .none, .none] }) := S₃.push hk
   refine ob03 (SR.new (s := { s₃ with heap := s₃.heap.push { cls := .type "slice", data := .fields #[.int j t, .none, .none] } }) S₄ { cls := .type "tuple", data := .seq (items.toList.drop j).toArray } rfl s₃.toks) ?_; rintro X₅ S₅ pp
   refine ⟨hT'.typeIs (s := { s₃ with heap := s₃.heap.push { cls := .type "slice", data := .fields #[.int j t, .none, .none] } }), getItem_tuple_from hT' (Heap.IsSliceOf.new ..) hj1 (hlen ▸ hj2) ?_ (hlen ▸ hs)⟩
   exact ⟨_, .tup (xs.drop j), σ₃, (X₁.trans X₃).trans ((Ext.push hk _ _).trans X₅), S₅, .tup pp rfl rfl (by simpa using (Vs.mono X₅.le).drop j), q⟩
theorem E_tupto {value upper : Expr} {p pos : Pos} {Q : V → Sg → Prop} (ht : ∀ o r, letTemporaryGo value o r = pure ())
   (h : EE C n env e value σ fun v σ₁ => EE C n env e upper σ₁ fun i σ₃ => ∃ xs j, v = .tup xs ∧ i = .int ((j : Nat) : Int) ∧ j < xs.length ∧ xs.length ≤ sizeLine ∧ Q (.tup (xs.take j)) σ₃) :
   EE C n env e (.Subscript value (.Slice none (some upper) none p) pos) σ Q := fun A g s R S F => by
 refine wpAny_Subscript_Slice (T := "tuple") slot_tuple_getitem.lookup (wpAny_mono (h A g s R S F) ?_ fun _ _ x => x) ht
 rintro u s₁ ⟨g₁, v, σ₁, X₁, S₁, V, h₁⟩
 refine wpAny_Slice ?_
 rw [evalPart_none]
 refine wpAny_pure ?_
 rw [evalPart_some]
 refine wpAny_mono (h₁ A g₁ s₁ R S₁ (F.ext X₁)) ?_ fun _ _ x => x
 rintro vl s₃ ⟨g₃, i, σ₃, X₃, S₃, P₃, xs, j, rfl, rfl, hj2, hs, q⟩
 refine wpAny_pure ?_
 refine ob23 (is_tup S₃ (V.mono X₃.le)) ?_; rintro a items rfl hT Vs
 have hlen : xs.length = items.size := by rw [Vs.length, Array.length_toList]
 cases P₃ with
 | int _ t =>
   have hk : ∀ b o, s₃.heap.get? b = some o → (s₃.heap.push { cls := .type "slice", data := .fields #[.none, .int j t, .none] }).get? b = some o := fun b o q => Heap.get?_push_of_some _ q
   have hT' : IsTup (s₃.heap.push { cls := .type "slice", data := .fields #[.none, .int j t, .none] }) a items := hT.keeps hk
   have S₄ : SR C g₃ σ₃ (s₃.heap.push { cls := .type "slice", data := .fields #[.none, .int j t, .none] }) := S₃.push hk
   refine ob03 (SR.new (s := { s₃ with heap := s₃.heap.push { cls := .type "slice", data := .fields #[.none, .int j t, .none] } }) S₄ { cls := .type "tuple", data := .seq (items.toList.take j).toArray } rfl s₃.toks) ?_; rintro X₅ S₅ pp
   refine ⟨hT'.typeIs (s := { s₃ with heap := s₃.heap.push { cls := .type "slice", data := .fields #[.none, .int j t, .none] } }), getItem_tuple_upto hT' (Heap.IsSliceOf.new ..) (hlen ▸ hj2) ?_ (hlen ▸ hs)⟩
   exact ⟨_, .tup (xs.take j), σ₃, (X₁.trans X₃).trans ((Ext.push hk _ _).trans X₅), S₅, .tup pp rfl rfl (by simpa using (Vs.mono X₅.le).take j), q⟩
end
end Mine
namespace Mine
variable {C : Cx}
theorem toS {prog : Program} {w : World} {A : Around} {I : Addr} {fp wr : List Addr} {n : Nat} {P : Nat → Value → Prop} {St : Nat → Heap → Prop} (W : Walks prog w A I fp wr n P St) : WalksS prog w A I fp wr Eq n P (fun i s => St i s.heap) where
 sub := W.sub
 grefl := fun _ => rfl
 gtrans := fun _ _ _ => Eq.trans
 frame := fun i s h' tk st _ hk => W.frame _ _ _ st hk
 item := fun i s Q E hi st hQ => wpAny_with_toks (n := s.toks) (Nat.le_refl _) (W.item i s _ _ hi st fun v h' tk hP hst hk htk => hQ v _ hP hst ⟨hk, rfl, rfl, rfl, htk⟩)
 done := fun s Q E st hQ => wpAny_with_toks (n := s.toks) (Nat.le_refl _) (W.done s _ _ st fun h' tk hk htk => hQ _ ⟨hk, rfl, rfl, rfl, htk⟩)
 self := fun i s Q E st hQ => W.self i s Q E st hQ
theorem preSum_take (ks : List Int) : ∀ k, k ≤ ks.length → preSum (fun j => ks.getD j 0) k = (ks.take k).sum
 | 0, _ => by simp [preSum]
 | k + 1, h => by
   have hk : k < ks.length := h
   rw [preSum, preSum_take ks k (Nat.le_of_lt hk), List.take_add_one, List.sum_append, List.getD_eq_getElem?_getD, List.getElem?_eq_getElem hk]
   simp
section
variable {n : Nat} {σ : Sg} {Q : V → Sg → Prop}
theorem sum_go {g : Fz} {s : Shared} {A : Around} {ks : List Int} {items : Array Value} {x : Addr} (R : Room A n) (S : SR C g σ s.heap) (hi : IntsAre items.toList ks)
   (hx : s.heap.IsList x items ∨ s.heap.IsTuple x items) (h : Q (.int ks.sum) σ) : wpAny (model C.prog C.w) A (call (.builtin "sum") [.ref x]) (Pst C g σ s Q) noE s := by
 have hlen : items.size = ks.length := by rw [← Array.length_toList, hi.len_]
 have hval : ∀ i v, items[i]? = some v → ∃ t, v = Value.int (ks.getD i 0) t := by
   intro i v hv
   have hlt : i < items.toList.length := by
     rw [Array.length_toList]
     rcases Nat.lt_or_ge i items.size with h | h
     · exact h
     · rw [Array.getElem?_eq_none h] at hv; (exfalso; cases hv)
   refine ob22 (hi.at_ i hlt) ?_; rintro k t h3 h4
   rw [Array.getElem_toList] at h4
   rw [Array.getElem?_eq_getElem (by simpa using hlt), h4] at hv
   cases hv
   exact ⟨t, by rw [List.getD_eq_getElem?_getD, h3]; rfl⟩
 have fin : ∀ (s₂ : Shared), (∀ b o, s.heap.get? b = some o → s₂.heap.get? b = some o) → s₂.gens = s.gens → s₂.os = s.os → ∀ s' t' (wr : List Addr), (∀ b ∈ wr, s.heap.get? b = none) → Moved wr Eq s₂ s' → Pst C g σ s Q (.int (preSum (fun j => ks.getD j 0) items.size) t') s' := by
   intro s₂ h1 hg ho s' t' wr hw hm
   have hk : ∀ b o, s.heap.get? b = some o → s'.heap.get? b = some o := fun b o q => hm.heap b o (fun hb => by rw [hw b hb] at q; cases q) (h1 b o q)
   rw [hlen, preSum_take ks ks.length (Nat.le_refl _), List.take_length]
   exact ⟨g, .int _, σ, ⟨.refl _, fun a o q _ => hk a o q, fun a o q => ⟨o, hk a o q⟩, fun _ _ _ q => q, fun _ _ _ _ q => q, hm.gens.symm.trans hg, hm.os.trans ho⟩, S.push hk, .int _ _, h⟩
 have hf : ∀ b ∈ [s.heap.objs.size], s.heap.get? b = none := fun b hb => by rw [List.mem_singleton.mp hb]; exact Heap.get?_none_of_le (Nat.le_refl _)
 refine call_sum_walkAnyS ?_
 rcases hx with hL | hT
 · have hlt : x < s.heap.objs.size := by refine ob12 hL ?_; clear hL; rintro o ho _; exact Heap.lt_size ho
   refine wpAny_pyIter_list hL ?_
   refine (mx86 s.heap.objs.size _ _ Eq items.size _ _ (fun j => ks.getD j 0) rfl (toS (Walks.list (prog := C.prog) (w := C.w) (A := A.in1) R.handled s.heap.objs.size x (Nat.ne_of_lt hlt) items)) (⟨⟨_, Heap.get?_push_size _ rfl, rfl, rfl⟩, hL.push _⟩) (fun b hb => ?_) hval (fun s' t' hm => ?_))
   rotate_left
   · exact fin _ (fun b o q => hm.heap b o (fun hb => by rw [hf b hb] at q; cases q) (Heap.get?_push_of_some _ q)) hm.gens.symm hm.os s' t' [] (fun b hb => nomatch hb) ⟨fun _ _ _ q => q, rfl, rfl, rfl, Nat.le_refl _⟩
   rw [Heap.size_push]
   rcases List.mem_cons.mp hb with rfl | hb
   · exact Nat.lt_succ_self _
   · rw [List.mem_singleton.mp hb]; exact Nat.lt_succ_of_lt hlt
 · have hlt : x < s.heap.objs.size := by refine ob12 hT ?_; clear hT; rintro o ho _; exact Heap.lt_size ho
   refine wpAny_pyIter_tuple hT ?_
   refine (mx86 s.heap.objs.size _ _ Eq items.size _ _ (fun j => ks.getD j 0) rfl (toS (Walks.tuple (prog := C.prog) (w := C.w) (A := A.in1) R.handled s.heap.objs.size x (Nat.ne_of_lt hlt) items)) (⟨⟨_, Heap.get?_push_size _ rfl, rfl, rfl⟩, hT.push _⟩) (fun b hb => ?_) hval (fun s' t' hm => ?_))
   rotate_left
   · exact fin _ (fun b o q => hm.heap b o (fun hb => by rw [hf b hb] at q; cases q) (Heap.get?_push_of_some _ q)) hm.gens.symm hm.os s' t' [] (fun b hb => nomatch hb) ⟨fun _ _ _ q => q, rfl, rfl, rfl, Nat.le_refl _⟩
   rw [Heap.size_push]
   rcases List.mem_cons.mp hb with rfl | hb
   · exact Nat.lt_succ_self _
   · rw [List.mem_singleton.mp hb]; exact Nat.lt_succ_of_lt hlt
theorem B_sumT {ks : List Int} (h : Q (.int ks.sum) σ) : Opn C n (fun us => call (.builtin "sum") us) [itup ks] σ Q := fun A g s us R S Vs => by
 refine ob12 Vs.one ?_; rintro u rfl V
 refine ob23 (V.tupI.isT S.sub) ?_; rintro x items rfl hT hi
 exact sum_go R S hi (.inr hT) h
theorem B_sumL {v : V} {ks : List Int} (hl : look σ v = .lst (ks.map .int)) (h : Q (.int ks.sum) σ) : Opn C n (fun us => call (.builtin "sum") us) [v] σ Q := fun A g s us R S Vs => by
 refine ob12 Vs.one ?_; rintro u rfl V
 refine ob23 (is_list S V hl) ?_; rintro x items rfl hL hi
 exact sum_go R S hi.toInts (.inl hL) h
noncomputable def pmax : List Int → Int
 | [] => 0
 | k :: ks => ks.foldl (fun m x => if x > m then x else m) k
theorem argBest_pmax (ks : List Int) : ∀ k, k < ks.length → ks.getD (argBest (fun i j => decide (ks.getD i 0 > ks.getD j 0)) k) 0 = pmax (ks.take (k + 1))
 | 0, h => by
   cases ks with
   | nil => simp at h
   | cons x r => simp [argBest, pmax]
 | k + 1, h => by
   have ih := argBest_pmax ks k (by exact li1 h)
   cases ks with
   | nil => simp at h
   | cons x r =>
     have hk : k < r.length := by simpa using h
     have e : pmax ((x :: r).take (k + 1 + 1)) = (fun m y => if y > m then y else m) (pmax ((x :: r).take (k + 1))) r[k] := by
       simp only [List.take_succ_cons, pmax]
       rw [List.take_add_one, List.foldl_append, List.getElem?_eq_getElem hk]
       rfl
     rw [e, ← ih]
     have e2 : (x :: r).getD (k + 1) 0 = r[k] := by simp [List.getD_eq_getElem?_getD, hk]
     simp only [argBest]
     generalize argBest (fun i j => decide ((x :: r).getD i 0 > (x :: r).getD j 0)) k = b
     by_cases hc : (x :: r).getD (k + 1) 0 > (x :: r).getD b 0
     · rw [if_pos (by simpa using hc), if_pos (by rw [← e2]; exact hc)]; exact e2
     · rw [if_neg (by simpa using hc), if_neg (by rw [← e2]; exact hc)]
theorem B_maxL {v : V} {ks : List Int} (hl : look σ v = .lst (ks.map .int)) (hne : ks ≠ []) (h : Q (.int (pmax ks)) σ) : Opn C n (fun us => call (.builtin "max") us) [v] σ Q := fun A g s us R S Vs => by
 refine ob12 Vs.one ?_; rintro u rfl V
 refine ob23 (is_list S V hl) ?_; rintro x items rfl hL hi
 have hi := hi.toInts
 have hlen : items.size = ks.length := by rw [← Array.length_toList, hi.len_]
 have hpos : 0 < ks.length := List.length_pos_iff.mpr hne
 have hval : ∀ i v, items[i]? = some v → ∃ t, v = Value.int (ks.getD i 0) t := by
   intro i v hv
   have hlt : i < items.toList.length := by
     rw [Array.length_toList]
     rcases Nat.lt_or_ge i items.size with h | h
     · exact h
     · rw [Array.getElem?_eq_none h] at hv; (exfalso; cases hv)
   refine ob22 (hi.at_ i hlt) ?_; rintro k t h3 h4
   rw [Array.getElem_toList] at h4
   rw [Array.getElem?_eq_getElem (by simpa using hlt), h4] at hv
   cases hv
   exact ⟨t, by rw [List.getD_eq_getElem?_getD, h3]; rfl⟩
 have hlt : x < s.heap.objs.size := by refine ob12 hL ?_; clear hL; rintro o ho _; exact Heap.lt_size ho
 refine call_max_walk ?_
 refine wpAny_pyIter_list hL ?_
 refine (mx77 s.heap.objs.size _ _ items.size _ _ (fun i j => decide (ks.getD i 0 > ks.getD j 0)) rfl (Walks.list (prog := C.prog) (w := C.w) (A := A.in1) R.handled s.heap.objs.size x (Nat.ne_of_lt hlt) items) (⟨⟨_, Heap.get?_push_size _ rfl, rfl, rfl⟩, hL.push _⟩) (fun b hb => ?_) (by exact li2 (eG hlen) hpos) (CmpOf.ints_gt _ hval) (fun v h' tk hv hk => ?_))
 · rw [Heap.size_push]
   rcases List.mem_cons.mp hb with rfl | hb
   · exact Nat.lt_succ_self _
   · rw [List.mem_singleton.mp hb]; exact Nat.lt_succ_of_lt hlt
 · refine ob11 (hval _ _ hv) ?_; rintro t rfl
   rw [hlen, argBest_pmax ks _ (by exact li1 (sL (show 1 ≤ ks.length from (li1 hpos)))), Nat.sub_add_cancel hpos, List.take_length]
   have hk' : ∀ b o, s.heap.get? b = some o → h'.get? b = some o := fun b o q => hk b o (fun hb => by rw [List.mem_singleton.mp hb, Heap.get?_none_of_le (Nat.le_refl _)] at q; cases q) (Heap.get?_push_of_some _ q)
   exact ⟨g, .int _, σ, .push hk' _ _, S.push hk', .int _ _, h⟩
theorem B_allL {v : V} {bs : List Bool} (hl : look σ v = .lst (bs.map .bool)) (h : Q (.bool (bs.all id)) σ) : Opn C n (fun us => call (.builtin "all") us) [v] σ Q := fun A g s us R S Vs => by
 refine ob12 Vs.one ?_; rintro u rfl V
 refine ob23 (is_list S V hl) ?_; rintro x items rfl hL hi
 have hlen : items.size = bs.length := by rw [← Array.length_toList, ← hi.length]; simp
 have hval : ∀ i v, items[i]? = some v → v = Value.bool (bs.getD i true) := by
   intro i v hv
   refine ob12 (hi.get' (i := i) (u := v) (by rw [Array.getElem?_toList]; exact hv)) ?_; rintro w hw W
   rw [List.getElem?_map] at hw
   refine ob12 (Option.map_eq_some_iff.mp hw) ?_; rintro b hb rfl
   cases W
   rw [List.getD_eq_getElem?_getD, hb]; rfl
 have hlt : x < s.heap.objs.size := by refine ob12 hL ?_; clear hL; rintro o ho _; exact Heap.lt_size ho
 refine call_all_walk ?_
 refine wpAny_pyIter_list hL ?_
 refine (mx75 s.heap.objs.size _ _ items.size _ _ (fun i => bs.getD i true) rfl (Walks.list (prog := C.prog) (w := C.w) (A := A.in1) R.handled s.heap.objs.size x (Nat.ne_of_lt hlt) items) (⟨⟨_, Heap.get?_push_size _ rfl, rfl, rfl⟩, hL.push _⟩) (fun i v s Q E hv hq => ?_) (fun h' tk hk => ?_))
 · rw [hval i v hv]; exact wpAny_truthy_bool hq
 · have e : (List.range items.size).all (fun i => bs.getD i true) = bs.all id := by
     rw [hlen, Bool.eq_iff_iff]
     simp only [List.all_eq_true, List.mem_range, id]
     constructor
     · intro h x hx
       obtain ⟨i, hi, rfl⟩ := List.mem_iff_getElem.mp hx
       have := h i hi
       rw [List.getD_eq_getElem?_getD, List.getElem?_eq_getElem hi] at this
       exact this
     · intro h i hi
       rw [List.getD_eq_getElem?_getD, List.getElem?_eq_getElem hi]
       exact h _ (List.getElem_mem hi)
   rw [e]
   have hk' : ∀ b o, s.heap.get? b = some o → h'.get? b = some o := fun b o q => hk b o (fun hb => by rw [List.mem_singleton.mp hb, Heap.get?_none_of_le (Nat.le_refl _)] at q; cases q) (Heap.get?_push_of_some _ q)
   exact ⟨g, .bool _, σ, .push hk' _ _, S.push hk', .bool _, h⟩
end
end Mine
namespace Mine
variable {C : Cx}
noncomputable def peq (p q : Poly) : Bool := p.length == q.length && p.all fun x => decide (dget q x.1 = some x.2)
theorem rat_key {r r' : Rat} : decide ([r.num, (r.den : Int)] = [r'.num, (r'.den : Int)]) = decide (r = r') := by
 rw [decide_eq_decide]
 constructor
 · intro h
   simp only [List.cons.injEq, and_true] at h
   exact Rat.ext h.1 (by exact_mod_cast h.2)
 · rintro rfl; rfl
theorem XR.get {g : Fz} {p : Poly} {xs} (h : XR g p xs) {i : Nat} {k r} (hi : p[i]? = some (k, r)) : ∃ a v, xs[i]? = some (k, a, v) ∧ TupI g k (.ref a) ∧ TupI g [r.num, (r.den : Int)] v := by
 induction h generalizing i with
 | nil => simp at hi
 | cons a b r ih =>
   cases i with
   | zero => simp only [List.getElem?_cons_zero, Option.some.injEq, Prod.mk.injEq] at hi; refine ob02 hi ?_; clear hi; rintro rfl rfl; exact (mx23 _ _ rfl a b)
   | succ i => simpa using ih (by simpa using hi)
theorem samePairs_ {prog : Program} {w : World} {A : Around} {g : Fz} {s : Shared} {E : Value → Shared → Prop} {nm : String} {a b : Addr} {oa ob : Obj} {p q : Poly} {Q : Bool → Shared → Prop} (C : Cx) (sub : ∀ a o, g a = some o → s.heap.get? a = some o) (hu : A.units < cLine)
   (ha : a ≠ sysModules) (hb : b ≠ sysModules) (hoa : s.heap.get? a = some oa) (hob : s.heap.get? b = some ob) (Da : DR g p oa) (Db : DR g q ob) (h : Q (peq p q) s) :
   wpAny (model prog w) A (Builtin.Dict.samePairs nm a b) Q E s := by
 obtain ⟨exa, ⟨es, ep, hda, hEa⟩, nda⟩ := Da
 obtain ⟨exb, ⟨es', ep', hdb, hEb⟩, ndb⟩ := Db
 let C' : Cx := { C with prog := prog, w := w }
 refine ob12 (XR.of (C := C') hEa) ?_; rintro xs hx hxe
 refine ob12 (XR.of (C := C') hEb) ?_; rintro ys hy hye
 have hla : p.length = es.size := by rw [← Array.length_toList, ← hEa.length]
 have hlb : q.length = es'.size := by rw [← Array.length_toList, ← hEb.length]
 unfold Builtin.Dict.samePairs Builtin.Dict.showsAll
 rw [if_neg (by simpa using ha), if_neg (by simpa using hb)]
 refine wpAny_bind (wpAny_pure (wpAny_bind (wpAny_pure ?_)))
 refine wpAny_bind (wpAny_dictEntries hoa hda ?_)
 dsimp only
 refine wpAny_bind (wpAny_dictEntries hob hdb ?_)
 by_cases hsz : es.size = es'.size
 case neg =>
   rw [if_pos (by simpa using hsz)]
   have hbf : peq p q = false := by unfold peq; rw [hla, hlb]; simp [hsz]
   rw [hbf] at h
   exact wpAny_bind (wpAny_rule (wpAny_pure h))
 case pos =>
   have he : peq p q = p.all fun x => decide (dget q x.1 = some x.2) := by unfold peq; rw [hla, hlb]; simp [hsz]
   rw [if_neg (by rw [hsz]; simp)]
   refine wpAny_bind (wpAny_dictEpoch hoa hda ?_)
   refine wpAny_bind ?_
   rw [Std.Legacy.Range.forIn_eq_forIn_range']
   simp only [Std.Legacy.Range.size, Nat.sub_zero, Nat.add_sub_cancel, Nat.div_one]
   refine wpAny_forIn_list _
     (fun rest r s' => s' = s ∧ r = (none, ()) ∧ ∃ i, rest = List.range' i (es.size - i) ∧ i ≤ es.size ∧ ((p.drop i).all fun x => decide (dget q x.1 = some x.2)) = peq p q)
     _ ?_ ?_ _ _ ⟨rfl, rfl, 0, by simp, Nat.zero_le _, by rw [he]; rfl⟩
   · rintro x rest r s' z1; refine ob03 z1 ?_; clear z1; rintro rfl rfl z20; refine ob13 z20 ?_; clear z20; rintro i hr hi hpre
     have hlt : i < es.size := by
       rcases Nat.lt_or_ge i es.size with h | h
       · exact h
       · rw [Nat.sub_eq_zero_of_le h] at hr; simp at hr
     obtain ⟨rfl, hrest⟩ : x = i ∧ rest = List.range' (i + 1) (es.size - (i + 1)) := by
       have e : es.size - i = (es.size - (i + 1)) + 1 := by exact Nat.le_antisymm (li2 (sA es.size (i + 1)) (sL (show i ≤ es.size from (li1 hlt)))) (li2 (sL (show (i + 1) ≤ es.size from (li1 hlt))) (sA es.size i))
       rw [e, List.range'_succ] at hr
       injection hr with h1 h2
       exact ⟨h1, h2⟩
     refine wpAny_bind (wpAny_dictEntries hoa hda ?_)
     have hlt' : x < p.length := by rw [hla]; exact hlt
     obtain ⟨k, r, hkv⟩ : ∃ k r, p[x] = (k, r) := (mx21 _ _ rfl)
     have hdrop : p.drop x = (k, r) :: p.drop (x + 1) := by rw [← hkv]; exact List.drop_eq_getElem_cons hlt'
     refine ob23 (hx.get (i := x) (k := k) (r := r) (by rw [List.getElem?_eq_getElem hlt', hkv])) ?_; rintro ka v hxk hK hV
     have hen : es[x]? = some ⟨(knd C').hash k, .ref ka, v⟩ := by rw [← Array.getElem?_toList, hxe, List.getElem?_map, hxk]; rfl
     rw [hen]
     rw [hdrop, List.all_cons] at hpre
     refine wpAny_bind (wpAny_holding (wpAny_bind (wpAny_dictFind_heap (knd := knd C') hu (hK.key (C := C') sub) hob hdb hye (hy.is (C := C') sub) (by rw [hy.keys]; exact ndb) (fun hno => ?_) fun j pr hj => ?_)))
     · have hn : dget q k = none := (hy.atNone k).mp (atKey_none_of_get hno)
       rw [hn] at hpre
       refine wpAny_pure ?_
       show wpAny _ _ (if (!false) = true then _ else _) _ _ _
       rw [if_pos (by decide)]
       refine wpAny_pure (wpAny_pure ?_)
       rw [← hpre] at h; simpa using h
     · refine ob12 (hy.at hj) ?_; rintro r' hr' hV'
       have hg : dget q k = some r' := dget_at ndb hr'
       refine wpAny_bind (wpAny_dictEntries hob hdb ?_)
       have hen' : es'[j]? = some ⟨(knd C').hash k, .ref pr.1, pr.2⟩ := by rw [← Array.getElem?_toList, hye, List.getElem?_map, hj]; rfl
       rw [hen']
       refine wpAny_holding (eqAt_tup (s := s') hu sub hV hV' prog w _ _ ?_)
       rw [rat_key]
       have e1 : decide (dget q k = some r) = decide (r = r') := by rw [hg, decide_eq_decide]; constructor; exact fun h => (Option.some.inj h).symm; exact fun h => by rw [h]
       rw [show (decide (dget q (k, r).1 = some (k, r).2)) = decide (r = r') from e1] at hpre
       cases hd : decide (r = r') with
       | false =>
         rw [hd, Bool.false_and] at hpre
         rw [← hpre] at h
         show wpAny _ _ (if (!false) = true then _ else _) _ _ _
         rw [if_pos (by decide)]
         exact wpAny_pure (wpAny_pure h)
       | true =>
         rw [hd, Bool.true_and] at hpre
         show wpAny _ _ (if (!true) = true then _ else _) _ _ _
         rw [if_neg (by decide)]
         refine wpAny_bind (wpAny_dictEpoch hoa hda ?_)
         rw [if_neg (by simp)]
         exact wpAny_pure ⟨rfl, rfl, x + 1, hrest, hlt, hpre⟩
   · rintro r s' z1; refine ob03 z1 ?_; clear z1; rintro rfl rfl z20; refine ob13 z20 ?_; clear z20; rintro i hr hi hpre
     have hin : i = es.size := by
       rcases Nat.lt_or_ge i es.size with h | h
       · have e : es.size - i = (es.size - (i + 1)) + 1 := by exact Nat.le_antisymm (li2 (sA es.size (i + 1)) (sL (show i ≤ es.size from (li1 h)))) (li2 (sL (show (i + 1) ≤ es.size from (li1 h))) (sA es.size i))
         rw [e, List.range'_succ] at hr; exact nomatch hr
       · exact Nat.le_antisymm hi h
     refine wpAny_pure ?_
     rw [hin, ← hla, List.drop_length] at hpre
     rw [← hpre] at h
     exact h
theorem rcAt_dct {A : Around} {g : Fz} {s : Shared} {a b : Addr} {oa ob : Obj} {p q : Poly} (C : Cx) (sub : ∀ a o, g a = some o → s.heap.get? a = some o) (hu : A.units + 1 < cLine)
   (ha : a ≠ sysModules) (hb : b ≠ sysModules) (hoa : s.heap.get? a = some oa) (hob : s.heap.get? b = some ob) (Da : DR g p oa) (Db : DR g q ob) : RcAt A s (.ref a) (.ref b) (peq p q) := fun prog w E Q h => by
 have ta : s.TypeIs (.ref a) "dict" := ⟨oa, hoa, Da.exact.1⟩
 have tb : s.TypeIs (.ref b) "dict" := ⟨ob, hob, Db.exact.1⟩
 refine wpAny_richCompare_same_room (op := .Eq) ta tb PySem.F.slot_dict_eq (wpAny_call_entry PySem.F.slot_dict_eq ta PySem.F.entry_dict_eq ?_ (PySem.F.args_dict_eq_2 _ _)) (by exact li1 hu)
 show wpAny _ _ (Builtin.Dict.dictSlotArgs "__eq__" ⟨[.ref a, .ref b], []⟩ >>= _) _ _ s
 refine wpAny_bind ?_
 unfold Builtin.Dict.dictSlotArgs
 refine wpAny_bind (wpAny_notOrdered_dict ta ?_)
 show wpAny _ _ (pure (Value.ref a, Value.ref b)) _ _ s
 refine wpAny_pure ?_
 refine wpAny_bind (wpAny_isInstance (T := "dict") tb PySem.F.sub_dict_dict ?_)
 simp only [Bool.not_true, Bool.false_eq_true, if_false]
 refine wpAny_bind (wpAny_pure (wpAny_bind (wpAny_pure ?_)))
 refine wpAny_bind (samePairs_ C sub (show A.in1.units < cLine from hu) ha hb hoa hob Da Db ?_)
 refine wpAny_pure (mx13 _ rfl ?_ ?_)
 · exact fun x => nomatch x
 · simpa using h
theorem rcNe_dct {A : Around} {g : Fz} {s : Shared} {a b : Addr} {oa ob : Obj} {p q : Poly} (C : Cx) (sub : ∀ a o, g a = some o → s.heap.get? a = some o) (hu : A.units + 1 < cLine)
   (ha : a ≠ sysModules) (hb : b ≠ sysModules) (hoa : s.heap.get? a = some oa) (hob : s.heap.get? b = some ob) (Da : DR g p oa) (Db : DR g q ob) : RcNeAt A s (.ref a) (.ref b) (!peq p q) := fun prog w E Q h => by
 have ta : s.TypeIs (.ref a) "dict" := ⟨oa, hoa, Da.exact.1⟩
 have tb : s.TypeIs (.ref b) "dict" := ⟨ob, hob, Db.exact.1⟩
 refine wpAny_richCompare_same_room (op := .NotEq) ta tb PySem.F.slot_dict_ne (wpAny_call_entry PySem.F.slot_dict_ne ta PySem.F.entry_dict_ne ?_ (PySem.F.args_dict_ne_2 _ _)) (by exact li1 hu)
 show wpAny _ _ (Builtin.Dict.dictSlotArgs "__ne__" ⟨[.ref a, .ref b], []⟩ >>= _) _ _ s
 refine wpAny_bind ?_
 unfold Builtin.Dict.dictSlotArgs
 refine wpAny_bind (wpAny_notOrdered_dict ta ?_)
 show wpAny _ _ (pure (Value.ref a, Value.ref b)) _ _ s
 refine wpAny_pure ?_
 refine wpAny_bind (wpAny_isInstance (T := "dict") tb PySem.F.sub_dict_dict ?_)
 simp only [Bool.not_true, Bool.false_eq_true, if_false]
 refine wpAny_bind (wpAny_pure (wpAny_bind (wpAny_pure ?_)))
 refine wpAny_bind (samePairs_ C sub (show A.in1.units < cLine from hu) ha hb hoa hob Da Db ?_)
 refine wpAny_pure (mx13 _ rfl ?_ ?_)
 · exact fun x => nomatch x
 · simpa using h
theorem peq_self {p : Poly} (nd : (p.map (·.1)).Nodup) : peq p p = true := by
 unfold peq
 simp only [BEq.rfl, Bool.true_and, List.all_eq_true, decide_eq_true_eq]
 rintro ⟨k, r⟩ hx
 refine ob11 (List.mem_iff_getElem?.mp hx) ?_; rintro i hi
 exact dget_at nd hi
theorem TupI.inj {g : Fz} {y : Value} {k k' : List Int} : TupI g k y → TupI g k' y → k = k' := by
 rintro z1 z2; refine ob45 z1 ?_; clear z1; rintro a o it n rfl ho _ hd hi; refine ob45 z2 ?_; clear z2; rintro a' o' it' n' e ho' _ hd' hi'
 cases e
 rw [ho] at ho'; cases ho'
 rw [hd] at hd'; cases hd'
 generalize it.toList = l at hi hi'
 clear hd
 induction hi generalizing k' with
 | nil => cases hi'; rfl
 | cons n t _ ih => cases hi' with | cons _ _ h2 => rw [ih h2]
theorem EntRs.inj {g : Fz} {p q : Poly} {l : List DictEntry} (h : EntRs g p l) (h' : EntRs g q l) : p = q := by
 induction h generalizing q with
 | nil => cases h'; rfl
 | @cons x e p es a _ ih =>
   cases h' with
   | @cons y _ q _ b h =>
     rw [ih h]
     obtain ⟨k, r⟩ := x
     obtain ⟨k', r'⟩ := y
     have e1 : k = k' := a.key.inj b.key
     have e2 : r = r' := by
       have := decide_eq_true (a.val.inj b.val)
       rw [rat_key] at this
       exact of_decide_eq_true this
     rw [e1, e2]
theorem DR.inj {g : Fz} {p q : Poly} {o : Obj} (h : DR g p o) (h' : DR g q o) : p = q := by
 obtain ⟨_, ⟨es, n, hd, hE⟩, _⟩ := h
 obtain ⟨_, ⟨es', n', hd', hE'⟩, _⟩ := h'
 rw [hd] at hd'; cases hd'
 exact hE.inj hE'
theorem eqAt_dct {A : Around} {g : Fz} {s : Shared} {u v : Value} {p q : Poly} (C : Cx) (sub : ∀ a o, g a = some o → s.heap.get? a = some o) (hu : A.units + 1 < cLine) (Vu : VR g (.dct p) u) (Vv : VR g (.dct q) v) : EqAt A s u v (peq p q) := by
 refine Vu.cd fun a oa ha hoa Da => Vv.cd fun b ob hb hob Db => ?_
 by_cases e : a = b
 · subst e
   rw [hoa] at hob; cases hob
   cases Da.inj Db
   rw [peq_self Da.nodup]
   exact EqAt.same _
 · exact EqAt.of_refs e (rcAt_dct C sub hu ha hb (sub _ _ hoa) (sub _ _ hob) Da Db)
noncomputable def peqs (ps qs : List Poly) : Bool := ps.length == qs.length && (List.range ps.length).all fun i => peq (ps.getD i []) (qs.getD i [])
theorem dcts_at {g : Fz} {ps : List Poly} {us : List Value} (h : VRs g (ps.map .dct) us) {j : Nat} (hj : j < us.length) : VR g (.dct (ps.getD j [])) us[j] := by
 refine ob12 (h.get' (i := j) (List.getElem?_eq_getElem hj)) ?_; rintro v hv V
 rw [List.getElem?_map] at hv
 refine ob12 (Option.map_eq_some_iff.mp hv) ?_; rintro p hp rfl
 rw [List.getD_eq_getElem?_getD, hp]; exact V
section
variable {n : Nat} {σ : Sg} {Q : V → Sg → Prop}
theorem O_neLD {a b : V} {ps qs : List Poly} (ha : look σ a = .lst (ps.map .dct)) (hb : look σ b = .lst (qs.map .dct)) (h : Q (.bool (!peqs ps qs)) σ) : Op2 C n (compareOp .NotEq) a b σ Q := fun A g s u w R S Va Vb => by
 refine ob23 (is_list S Va ha) ?_; rintro x i1 rfl h1 V1
 refine ob23 (is_list S Vb hb) ?_; rintro y i2 rfl h2 V2
 have e1 : ps.length = i1.size := by rw [← Array.length_toList, ← V1.length]; simp
 have e2 : qs.length = i2.size := by rw [← Array.length_toList, ← V2.length]; simp
 have hu : A.units + 2 < cLine := by have := R.units; exact li1 this
 by_cases hz : i1.size = i2.size
 · refine RcNeAt.lists h1 h2 hz R.lt (e := fun i => peq (ps.getD i []) (qs.getD i [])) (fun j h3 h4 => ?_) _ _ _ _ ?_
   · have := eqAt_dct (A := A.in1) C S.sub (show A.units + 1 + 1 < cLine from hu) (dcts_at V1 (j := j) (by simpa using h3)) (dcts_at V2 (j := j) (by simpa using h4))
     rw [Array.getElem_toList, Array.getElem_toList] at this
     exact this
   · have : peqs ps qs = (List.range i1.size).all fun i => peq (ps.getD i []) (qs.getD i []) := by unfold peqs; rw [e1, e2]; simp [hz]
     rw [← this]
     exact ⟨g, _, σ, .refl .., S, .bool _, h⟩
 · refine RcNeAt.lists_lengths h1 h2 (by simpa using hz) R.lt _ _ _ _ ?_
   have : peqs ps qs = false := by unfold peqs; rw [e1, e2]; simp [hz]
   rw [this] at h
   exact ⟨g, _, σ, .refl .., S, .bool _, h⟩
theorem O_eqD {a b : V} {p q : Poly} (ha : look σ a = .dct p) (hb : look σ b = .dct q) (h : Q (.bool (peq p q)) σ) : Op2 C n (compareOp .Eq) a b σ Q := fun A g s u w R S Va Vb => by
 refine ob25 (is_dict S Va ha) ?_; rintro x o1 rfl n1 h1 D1 _
 refine ob25 (is_dict S Vb hb) ?_; rintro y o2 rfl n2 h2 D2 _
 exact rcAt_dct C S.sub R.lt1 n1 n2 h1 h2 D1 D2 _ _ _ _ ⟨g, _, σ, .refl .., S, .bool _, h⟩
theorem O_neD {a b : V} {p q : Poly} (ha : look σ a = .dct p) (hb : look σ b = .dct q) (h : Q (.bool (!peq p q)) σ) : Op2 C n (compareOp .NotEq) a b σ Q := fun A g s u w R S Va Vb => by
 refine ob25 (is_dict S Va ha) ?_; rintro x o1 rfl n1 h1 D1 _
 refine ob25 (is_dict S Vb hb) ?_; rintro y o2 rfl n2 h2 D2 _
 exact rcNe_dct C S.sub R.lt1 n1 n2 h1 h2 D1 D2 _ _ _ _ ⟨g, _, σ, .refl .., S, .bool _, h⟩
theorem noR_tuple_mul : typeLookup (.type "tuple") (dunderR "mul") = pure (some (.builtin "tuple.__rmul__")) := by rw [typeLookup_type, builtinLookup_eq_fast]; kernel_rfl
theorem noFill_tuple_mul : fillsNumberSlot (.type "tuple") "mul" = pure false := PySem.fillsNumberSlot_seq (id := "tuple.__mul__") (r := some (.builtin "tuple.__rmul__")) F.slot_tuple_mul.lookup (by decide +kernel) noR_tuple_mul (by decide +kernel)
theorem repeat_tuple : seqRepeat? (.type "tuple") = pure (some (.builtin "tuple.__mul__")) := by
 unfold seqRepeat?
 rw [PySem.seqSlot_of (T := "tuple") (name := "__mul__") (id := "tuple.__mul__") F.slot_tuple_mul.lookup (by decide +kernel), PySem.seqSlot_of (T := "tuple") (name := "__rmul__") (id := "tuple.__rmul__") noR_tuple_mul (by decide +kernel)]
 rfl
theorem int_rmul_tuple (a : Int) (t : Tok) (l : Addr) (dd : Option Addr) (items : Array Value) (n : Nat) (sl : Array (Option Value)) :
   Meets (Builtin.«int.__rmul__» ⟨[.int a t, .ref l], []⟩) (fun _ R s => s.heap.get? l = some { cls := .type "tuple", dict := dd, data := .seq items n, slots := sl } ∧ R (.ok (.ret Value.notImplemented)) s) :=
 .of_wp fun prog w A R s h => by obtain ⟨hp, g, d, tk, os⟩ := s; refine ob02 h ?_; clear h; rintro hl h; wp_walk; exact (mx12 _ rfl h)
theorem flat_replicate (its : Array Value) : ∀ (k : Nat) (acc : Array Value), ((List.replicate k its).foldl (· ++ ·) acc).toList = acc.toList ++ (List.replicate k its.toList).flatten
 | 0, acc => by simp
 | k + 1, acc => by rw [List.replicate_succ, List.foldl_cons, flat_replicate its k]; simp [List.replicate_succ]
theorem VRs.rep {g : Fz} {vs us} (h : VRs g vs us) : ∀ k, VRs g (List.replicate k vs).flatten (List.replicate k us).flatten
 | 0 => .nil
 | k + 1 => by rw [List.replicate_succ, List.replicate_succ, List.flatten_cons, List.flatten_cons]; exact h.append (h.rep k)
theorem O_mulT {xs : List V} {i : Int} (h1 : 1 ≤ i) (h2 : i < 2 ^ 20) (hs : xs.length * i.toNat ≤ 1000) (hne : xs ≠ []) (h : Q (.tup (List.replicate i.toNat xs).flatten) σ) : Op2 C n (binaryOp .Mult) (.tup xs) (.int i) σ Q := fun A g s u w R S Va Vb => by
 have Va' := Va
 refine ob53 (tup_lit S Va) ?_; rintro t dd its k sl rfl ho hi
 have hlen : xs.length = its.size := by rw [hi.length, Array.length_toList]
 refine Vb.ci fun tk => ?_
 · have hT : s.TypeIs (.ref t) "tuple" := ⟨_, ho, rfl⟩
   refine wpAny_binaryOp_repeat_ref (T := "tuple") (U := "int") (by decide) hT (fun s' => typeIs_int s' i tk) noFill_tuple_mul F.fills_int_mul F.slot_int_rmul repeat_tuple F.slot_int_index.lookup
     (call_meets F.slot_int_rmul (typeIs_int s i tk) F.entry_int_rmul (F.args_int_rmul_2 _ _) (int_rmul_tuple i tk t dd its k sl) (mx04 ho rfl hT ?_))
   refine wpAny_call_entry F.slot_tuple_mul hT F.entry_tuple_mul ?_ (F.args_tuple_mul_2 _ _)
   show wpAny _ _ (asIndex (.int i tk) >>= _) _ _ s
   refine wpAny_bind (wpAny_of_eq (a := i) rfl ?_)
   have hb : ((decide (i < -(2 ^ 63)) || decide (i ≥ 2 ^ 63)) = true) = False := by
     simp only [eq_iff_iff, iff_false, Bool.or_eq_true, decide_eq_true_eq]; omega
   simp only [hb, if_false]
   refine wpAny_bind (wpAny_tupleItemsOf ho rfl ?_)
   have hemp : its.isEmpty = false := by
     rw [Array.isEmpty_eq_false_iff]; intro e
     rw [e] at hlen
     exact hne (List.eq_nil_of_length_eq_zero (by simpa using hlen))
   by_cases hi1 : i = 1
   · subst hi1
     simp only [hemp, Bool.false_or, BEq.rfl, if_true]
     unfold Builtin.Tuple.tupleIsExact
     refine wpAny_bind (wpAny_bind (wpAny_typeOf hT (wpAny_pure ?_)))
     simp only [BEq.rfl, if_true]
     refine wpAny_bind (wpAny_rule (wpAny_pure ⟨_, rfl, g, _, σ, .refl .., S, Va', ?_⟩))
     simpa using h
   · have hf : (i == 1) = false := beq_eq_false_iff_ne.mpr hi1
     have hle : decide (i ≤ 0) = false := decide_eq_false (by exact Int.not_le_of_gt (il1 h1))
     simp only [hemp, hf, Bool.or_false, Bool.false_eq_true, if_false, hle]
     have hi2 : (i.toNat : Int) = i := Int.toNat_of_nonneg (by exact il1 h1)
     have hz : (its.size : Int) * i ≤ 1000 := by
       have : ((its.size * i.toNat : Nat) : Int) ≤ (1000 : Nat) := by rw [← hlen]; exact_mod_cast hs
       rw [Int.natCast_mul, hi2] at this; exact this
     have hm : ¬ ((its.size : Int) * i > (2 ^ 63 - 1) / 8) := by omega
     rw [if_neg hm]
     have hl : Builtin.Tuple.tupleTooMany ((its.size : Int) * i) = false := by
       unfold Builtin.Tuple.tupleTooMany; apply decide_eq_false; show ¬ (((its.size : Int) * i) > ((2 ^ 24 : Nat) : Int)); exact Int.not_lt_of_ge (il1 hz)
     simp only [hl, Bool.false_eq_true, if_false]
     have hsz : (List.foldl (fun x1 x2 => x1 ++ x2) #[] (List.replicate i.toNat its)).size ≤ sizeLine := by
       rw [← Array.length_toList, flat_replicate]
       have e : ∀ k, ((List.replicate k its.toList).flatten).length = k * its.size := fun k => by
         induction k with
         | zero => simp
         | succ k ih => rw [List.replicate_succ, List.flatten_cons, List.length_append, ih, Array.length_toList, Nat.succ_mul, Nat.add_comm]
       simp only [List.length_append, e]
       show _ ≤ 2 ^ 24
       rw [hlen, Nat.mul_comm] at hs
       simp; exact li1 hs
     refine ob03 (S.new { cls := .type "tuple", data := .seq (List.foldl (fun x1 x2 => x1 ++ x2) #[] (List.replicate i.toNat its)) } rfl s.toks) ?_; rintro X S' p
     have V' : VRs (put g s.heap.objs.size { cls := .type "tuple", data := .seq (List.foldl (fun x1 x2 => x1 ++ x2) #[] (List.replicate i.toNat its)) }) (List.replicate i.toNat xs).flatten (List.foldl (fun x1 x2 => x1 ++ x2) #[] (List.replicate i.toNat its)).toList := by
       rw [flat_replicate]; simpa using (hi.mono X.le).rep i.toNat
     first
       | exact wpAny_bind (m := Builtin.Tuple.tupleExact _) (wpAny_newObj_type (wpAny_pure ⟨_, rfl, _, .tup _, σ, X, S', .tup p rfl rfl V', h⟩) hsz)
       | exact wpAny_bind (m := Builtin.Tuple.tupleExact _) (wpAny_newObj_type (wpAny_bind (wpAny_pure (wpAny_pure ⟨_, rfl, _, .tup _, σ, X, S', .tup p rfl rfl V', h⟩))) hsz)
end
end Mine
namespace Mine
variable {C : Cx}
section
variable {n : Nat} {env : Env} {e : Vars} {σ : Sg}
theorem eval_ty {A : Around} {g : Fz} {s : Shared} {x : Str} {T : String} {p pos : Pos} {y : Expr} {ys : List Expr} {K : List V → Sg → Prop} {P : Value → Shared → Prop} (hx : (x, .bi (.type T)) ∈ e) (hs : (y :: ys).all (fun x => !isStarred x) = true)
   (R : Room A n) (S : SR C g σ s.heap) (F : FR C env e g σ s.heap) (h : EEs C n env e (y :: ys) σ K)
   (hP : ∀ us s₁ g₁ vs σ₁, Ext g σ s g₁ σ₁ s₁ → SR C g₁ σ₁ s₁.heap → VRs g₁ vs us → K vs σ₁ → wpAny (model C.prog C.w) A (call (.type T) us) P noE s₁) :
   wpAny (model C.prog C.w) A (eval (.Call (.Name x p) (y :: ys) [] pos) env) P noE s := by
 refine PyProof.Rows.Call_ (name_bi hx S F ?_)
 refine callWith_type1 (wpAny_mono (h A g s pos R S F) ?_ fun _ _ x => x) (starEach_cons (by simpa using (List.all_eq_true.mp hs y List.mem_cons_self))) ?_
 · rintro us s₁ ⟨g₁, vs, σ₁, X₁, S₁, V, q⟩
   exact hP us s₁ g₁ vs σ₁ X₁ S₁ V q
 · rw [List.all_cons, Bool.and_eq_true] at hs
   have hp' := plain_args (env := env) hs.2 pos
   rw [List.any_eq_false]; intro p hp; rw [hp' p hp]; exact Bool.false_ne_true
noncomputable def rInts (k : Nat) : List V := (List.range k).map fun (i : Nat) => V.int (i : Int)
theorem rangeS_0 (k : Nat) : rangeS 0 1 k = rInts k := by
 unfold rangeS rInts; congr 1; funext i; simp
noncomputable def intsFrom (a : Int) (k : Nat) : List V := (List.range k).map fun (i : Nat) => V.int (a + (i : Int))
noncomputable def intsDown (a : Int) (k : Nat) : List V := (List.range k).map fun (i : Nat) => V.int (a - (i : Int))
theorem IE_range1 {x : Str} {t : Str} {tp p pos : Pos} {y : Expr} {K : List V → List Addr → Sg → Prop} (hx : (x, .bi (.type "range")) ∈ e) (hs : ([y]).all (fun x => !isStarred x) = true)
   (h : EE C n env e y σ fun v σ₁ => ∃ i, v = .int i ∧ i < 2 ^ 60 ∧ -(2 ^ 60) < i ∧ K (rInts i.toNat) [] σ₁) : IE C n env e (.Name t tp) (.Call (.Name x p) [y] [] pos) σ K := by
 refine IE_rangeOf fun A g s R S F => ?_
 refine eval_ty (K := fun vs σ₁ => ∃ i, vs = [.int i] ∧ i < 2 ^ 60 ∧ -(2 ^ 60) < i ∧ K (rInts i.toNat) [] σ₁) hx hs R S F (Es_cons (by simpa using hs) (EV.mono h fun v σ' ⟨i, e1, e2, e3, e4⟩ => Es_nil ⟨i, by rw [e1], e2, e3, e4⟩)) ?_
 rintro us s₁ g₁ vs σ₁ X S₁ Vs z1; refine ob14 z1 ?_; clear z1; rintro i rfl h1 h2 hK
 refine ob12 Vs.one ?_; rintro u rfl V
 refine V.ci fun t1 => ?_
 refine call_range_1 ?_
 have hk : ∀ b o, s₁.heap.get? b = some o → (s₁.heap.push { cls := .type "range", data := .fields #[.int 0 s₁.toks, .int i t1, .int 1 (s₁.toks + 1)] }).get? b = some o := fun b o q => Heap.get?_push_of_some _ q
 refine (mx97 g₁ σ₁ _ 0 i 1 _ _ _ (X.trans (.push hk _ _)) (S₁.push hk) rfl (IsRange.new ..) (small_one (by exact il0) (by exact il0) (by exact il1 h2) (by exact il1 h1)) ?_ ?_)
 · have : (Builtin.Range.rangeSize 0 i 1).toNat = i.toNat := by rw [rangeSize_one]; split <;> omega
   rw [this, rangeS_0]; exact hK
 · rw [rangeSize_one]; split <;> omega
theorem small_m1 {a b : Int} (ha : -(2 ^ 60) ≤ a) (ha' : a < 2 ^ 60) (hb : -(2 ^ 60) ≤ b) (hb' : b < 2 ^ 60) : Builtin.Range.small a b (-1) = true := by
 unfold Builtin.Range.small Builtin.Range.rangeSize
 simp only [Builtin.Range.rangeFitsLong, Bool.and_eq_true, Bool.or_eq_true, decide_eq_true_eq, beq_iff_eq, show ¬ (-1 : Int) > 0 by decide, if_false, Int.neg_neg, Int.ediv_one]
 split <;> omega
theorem rangeSize_m1 (a b : Int) : Builtin.Range.rangeSize a b (-1) = if a > b then a - b else 0 := by
 unfold Builtin.Range.rangeSize
 simp only [show ¬ (-1 : Int) > 0 by decide, if_false, Int.neg_neg, Int.ediv_one]
 split <;> exact Int.le_antisymm il0 il0
theorem rangeS_down (a : Int) (k : Nat) : rangeS a (-1) k = intsDown a k := by
 unfold rangeS intsDown; congr 1; funext i; congr 1; exact Int.le_antisymm il0 il0
theorem IE_range3 {x : Str} {t : Str} {tp p pos : Pos} {y1 y2 y3 : Expr} {K : List V → List Addr → Sg → Prop} (hx : (x, .bi (.type "range")) ∈ e) (hs : ([y1, y2, y3]).all (fun x => !isStarred x) = true)
   (h : EEs C n env e [y1, y2, y3] σ fun vs σ₁ => ∃ a, vs = [.int a, .int (-1), .int (-1)] ∧ a < 2 ^ 60 ∧ -(2 ^ 60) < a ∧ K (intsDown a (a + 1).toNat) [] σ₁) : IE C n env e (.Name t tp) (.Call (.Name x p) [y1, y2, y3] [] pos) σ K := by
 refine IE_rangeOf fun A g s R S F => ?_
 refine eval_ty hx hs R S F h ?_
 rintro us s₁ g₁ vs σ₁ X S₁ Vs z1; refine ob14 z1 ?_; clear z1; rintro a rfl h1 h2 hK
 refine ob34 Vs.three ?_; rintro u1 u2 u3 rfl V1 V2 V3
 refine V1.ci fun t1 => V2.ci fun t2 => V3.ci fun t3 => ?_
 refine call_range_3 (by decide) ?_ (.inl (PyProof.noPylong_of_log2 (by decide +kernel)))
 have hk : ∀ b o, s₁.heap.get? b = some o → (s₁.heap.push { cls := .type "range", data := .fields #[.int a t1, .int (-1) t2, .int (-1) t3] }).get? b = some o := fun b o q => Heap.get?_push_of_some _ q
 refine (mx97 g₁ σ₁ _ a (-1) (-1) _ _ _ (X.trans (.push hk _ _)) (S₁.push hk) rfl (IsRange.new ..) (small_m1 (by exact il1 h2) (by exact il1 h1) (by exact il0) (by exact il0)) ?_ ?_)
 · have : (Builtin.Range.rangeSize a (-1) (-1)).toNat = (a + 1).toNat := by rw [rangeSize_m1]; split <;> omega
   rw [this, rangeS_down]; exact hK
 · rw [rangeSize_m1]; split <;> omega
end
end Mine
namespace Mine
variable {C : Cx}
noncomputable def IsVar (s : Slot) : Prop := s = .un ∨ ∃ v, s = .val v
theorem IsVar.un : IsVar .un := .inl rfl
theorem IsVar.val {v} : IsVar (.val v) := .inr ⟨_, rfl⟩
theorem Up.var {x s e v} (h : IsVar s) : Up ((x, s) :: e) x v ((x, .val v) :: e) := by
 rcases h with rfl | ⟨w, rfl⟩
 · exact .un
 · exact .val
section
variable {n : Nat} {env : Env} {e : Vars} {σ : Sg}
theorem TE.mono {x : Expr} {Q Q' : Bool → Sg → Prop} (h : TE C n env e x σ Q) (k : ∀ v σ', Q v σ' → Q' v σ') : TE C n env e x σ Q' := fun A g s R S F =>
 wpAny_mono (h A g s R S F) (fun _ _ h => by obtain ⟨g', σ', X, S', q⟩ := h; exact ⟨g', σ', X, S', k _ _ q⟩) fun _ _ x => x
theorem Tests.mono {ifs : List Expr} {Q Q' : Bool → Sg → Prop} (h : Tests C n env e ifs σ Q) (k : ∀ v σ', Q v σ' → Q' v σ') : Tests C n env e ifs σ Q' := by
 match ifs, h with
 | [], h => exact k _ _ h
 | [c], h => exact TE.mono h k
theorem ListL_ind {target : Expr} {ifs : List Expr} {elt : Expr} {own : List Addr} {K : List V → Sg → Prop} (P : List V → List V → Vars → Sg → Prop) {xs acc : List V} (h0 : P xs acc e σ)
   (nil : ∀ acc e σ, P [] acc e σ → K acc σ)
   (cons : ∀ x xs acc e σ, P (x :: xs) acc e σ → ∃ e₁, Bind target x e e₁ ∧ Tests C n env e₁ ifs σ fun b σ₁ =>
     (b = true → EE C n env e₁ elt σ₁ fun v σ₂ => acc.length ≤ sizeLine ∧ (∀ a ∈ own, σ₂ a = σ a) ∧ P xs (acc ++ [v]) e₁ σ₂) ∧ (b = false → (∀ a ∈ own, σ₁ a = σ a) ∧ P xs acc e₁ σ₁)) :
   ListL C n env target ifs elt own K xs acc e σ := by
 induction xs generalizing acc e σ with
 | nil => exact nil _ _ _ h0
 | cons x xs ih =>
   refine ob12 (cons x xs acc e σ h0) ?_; rintro e₁ hB hT
   refine mx12 e₁ hB (hT.mono fun b σ₁ h => ⟨fun hb => ?_, fun hb => ⟨(h.2 hb).1, ih (h.2 hb).2⟩⟩)
   exact EV.mono (h.1 hb) fun v σ₂ h => mx03 h.1 h.2.1 (ih h.2.2)
theorem DictL_ind {target : Expr} {ifs : List Expr} {kx vx : Expr} {own : List Addr} {K : Poly → Sg → Prop} (P : List V → Poly → Vars → Sg → Prop) {xs : List V} {acc : Poly} (h0 : P xs acc e σ)
   (nil : ∀ acc e σ, P [] acc e σ → K acc σ)
   (cons : ∀ x xs acc e σ, P (x :: xs) acc e σ → ∃ e₁, Bind target x e e₁ ∧ Tests C n env e₁ ifs σ fun b σ₁ =>
     (b = true → EE C n env e₁ kx σ₁ fun kv σ₂ => ∃ ks, kv = itup ks ∧ EE C n env e₁ vx σ₂ fun vv σ₃ => ∃ r, vv = rv r ∧ acc.length ≤ sizeLine ∧ (∀ a ∈ own, σ₃ a = σ a) ∧ P xs (dput acc ks r) e₁ σ₃) ∧ (b = false → (∀ a ∈ own, σ₁ a = σ a) ∧ P xs acc e₁ σ₁)) :
   DictL C n env target ifs kx vx own K xs acc e σ := by
 induction xs generalizing acc e σ with
 | nil => exact nil _ _ _ h0
 | cons x xs ih =>
   refine ob12 (cons x xs acc e σ h0) ?_; rintro e₁ hB hT
   refine mx12 e₁ hB (hT.mono fun b σ₁ h => ⟨fun hb => ?_, fun hb => ⟨(h.2 hb).1, ih (h.2 hb).2⟩⟩)
   exact EV.mono (h.1 hb) fun v σ₂ h => ob12 h fun ks a hv => mx12 ks a (EV.mono hv fun w σ₃ h => ob14 h fun r b c d f => mx14 r b c d (ih f))
theorem For_ind {target : Expr} {body : List Stmt} {own : List Addr} {Q : Fl → Vars → Sg → Prop} (P : List V → Vars → Sg → Prop) {xs : List V} (h0 : P xs e σ)
   (nil : ∀ e σ, P [] e σ → Q .next e σ)
   (cons : ∀ x xs e σ, P (x :: xs) e σ → ∃ e₁, Bind target x e e₁ ∧ SB C n env e₁ body σ fun fl e₂ σ₂ => match fl with
     | .next => (∀ a ∈ own, σ₂ a = σ a) ∧ P xs e₂ σ₂
     | .cont => (∀ a ∈ own, σ₂ a = σ a) ∧ P xs e₂ σ₂
     | .brk => Q .next e₂ σ₂
     | .ret v => Q (.ret v) e₂ σ₂) : ForOK C n env target body own Q xs e σ := by
 induction xs generalizing e σ with
 | nil => exact nil _ _ h0
 | cons x xs ih =>
   refine ob12 (cons x xs e σ h0) ?_; rintro e₁ hB hT
   refine ⟨e₁, hB, hT.mono fun fl e₂ σ₂ h => ?_⟩
   cases fl with
   | next => exact ⟨h.1, ih h.2⟩
   | cont => exact ⟨h.1, ih h.2⟩
   | brk => exact h
   | ret v => exact h
end
/- owned things frozen, deep down -/
mutual
inductive Deep : Sg → V → V → Sg → Prop
 | atom {σ v} : Deep σ v v σ
 | dct {σ a p o} : σ a = some (.dct p, o) → Deep σ (.ref a) (.dct p) (del σ a)
 | lst {σ a xs o ys σ'} : σ a = some (.lst xs, o) → Deeps (del σ a) xs ys σ' → Deep σ (.ref a) (.lst ys) σ'
 | tup {σ xs ys σ'} : Deeps σ xs ys σ' → Deep σ (.tup xs) (.tup ys) σ'
inductive Deeps : Sg → List V → List V → Sg → Prop
 | nil {σ} : Deeps σ [] [] σ
 | cons {σ x y σ₁ xs ys σ₂} : Deep σ x y σ₁ → Deeps σ₁ xs ys σ₂ → Deeps σ (x :: xs) (y :: ys) σ₂
end
noncomputable def DeepM (C : Cx) (σ : Sg) (v w : V) (σ' : Sg) : Prop := ∀ {g : Fz} {s : Shared} {u : Value}, SR C g σ s.heap → VR g v u → ∃ g', Ext g σ s g' σ' s ∧ SR C g' σ' s.heap ∧ VR g' w u
noncomputable def DeepsM (C : Cx) (σ : Sg) (vs ws : List V) (σ' : Sg) : Prop := ∀ {g : Fz} {s : Shared} {us : List Value}, SR C g σ s.heap → VRs g vs us → ∃ g', Ext g σ s g' σ' s ∧ SR C g' σ' s.heap ∧ VRs g' ws us
theorem Deep.ok {σ σ' : Sg} {v w : V} (h : Deep σ v w σ') : DeepM C σ v w σ' := by
 refine Deep.rec (motive_1 := fun σ v w σ' _ => DeepM C σ v w σ') (motive_2 := fun σ vs ws σ' _ => DeepsM C σ vs ws σ') ?_ ?_ ?_ ?_ ?_ ?_ h
 · intro σ v g s u S V
   exact mx13 g (.refl ..) S V
 · intro σ a p o ha g s u S V
   refine V.cr ?_
   refine ob14 (S.freeze ha) ?_; rintro g' X S' V' _
   exact (mx13 g' X S' V')
 · intro σ a xs o ys σ' ha _ hs g s u S V
   refine V.cr ?_
   refine ob14 (S.freeze ha) ?_; rintro g' X S' V' _
   refine V'.cl fun _ _ _ _ ho hc hd hv => ?_
   ·
     refine ob13 (hs S' hv) ?_; rintro g'' Y S'' V''
     exact (mx13 g'' (X.trans Y) S'' (.lst (Y.le _ _ ho) hc hd V''))
 · intro σ xs ys σ' _ hs g s u S V
   refine V.ct fun _ _ _ _ ho hc hd hv => ?_
   · refine ob13 (hs S hv) ?_; rintro g' X S' V'
     exact (mx13 g' X S' (.tup (X.le _ _ ho) hc hd V'))
 · intro σ g s us S V
   exact V.c0 (mx13 g (.refl ..) S .nil)
 · intro σ x y σ₁ xs ys σ₂ _ _ h t g s us S V
   refine V.c1 fun _ _ a b => ?_
   · refine ob13 (h S a) ?_; rintro g' X S' V'
     refine ob13 (t S' (b.mono X.le)) ?_; rintro g'' Y S'' V''
     exact (mx13 g'' (X.trans Y) S'' (.cons (V'.mono Y.le) V''))
theorem EV.deep {n : Nat} {env : Env} {e : Vars} {σ : Sg} {t : Sem Value} {Q : V → Sg → Prop} (h : EV C n env e t σ fun v σ' => ∃ w σ'', Deep σ' v w σ'' ∧ Q w σ'') : EV C n env e t σ Q := fun A g s R S F => by
 refine wpAny_mono (h A g s R S F) ?_ fun _ _ x => x
 rintro u s' ⟨g', v, σ', X, S', V, w, σ'', hd, q⟩
 refine ob13 (hd.ok S' V) ?_; rintro g'' Y S'' V'
 exact ⟨g'', w, σ'', X.trans Y, S'', V', q⟩
theorem CallOK.deep {n : Nat} {x vs σ} {Q : V → Sg → Prop} (h : CallOK C n x vs σ fun v σ' => ∃ w σ'', Deep σ' v w σ'' ∧ Q w σ'') : CallOK C n x vs σ Q := fun a ha A g s us R S V => by
 refine codeAny_mono (h a ha A g s us R S V) ?_
 rintro r s' ⟨u, e, g', v, σ', X, S', V, w, σ'', hd, q⟩
 refine ob13 (hd.ok S' V) ?_; rintro g'' Y S'' V'
 exact ⟨u, e, g'', w, σ'', X.trans Y, S'', V', q⟩
theorem VR.nodup {g : Fz} {σ : Sg} {h : Heap} (S : SR C g σ h) {v u p} (V : VR g v u) (hl : look σ v = .dct p) : (p.map (·.1)).Nodup := by
 refine ob25 (is_dict S V hl) ?_; rintro _ _ _ _ _ hD _
 exact hD.nodup
theorem VR.nodups {g : Fz} {ps : List Poly} {us : List Value} (V : VRs g (ps.map .dct) us) : ∀ p ∈ ps, (p.map (·.1)).Nodup := by
 induction ps generalizing us with
 | nil => intro p hp; (exfalso; cases hp)
 | cons p ps ih =>
   refine V.c1 fun _ _ a b => ?_
   · intro q hq
     rcases List.mem_cons.mp hq with rfl | hq
     · exact a.cd fun _ _ _ _ hd => hd.nodup
     · exact ih b q hq
noncomputable def Nd (p : Poly) : Prop := (p.map (·.1)).Nodup
theorem CallOK.nd {n : Nat} {x vs σ} {Q : V → Sg → Prop} (i : Nat) {v p} (hi : vs[i]? = some v) (hl : look σ v = .dct p) (h : Nd p → CallOK C n x vs σ Q) : CallOK C n x vs σ Q := fun a ha A g s us R S V => by
 refine ob12 (V.get hi) ?_; rintro u _ Vu
 exact h (VR.nodup S Vu hl) a ha A g s us R S V
theorem CallOK.nds {n : Nat} {x vs σ} {Q : V → Sg → Prop} (i : Nat) {v} {ps : List Poly} (hi : vs[i]? = some v) (hl : look σ v = .lst (ps.map .dct)) (h : (∀ p ∈ ps, Nd p) → CallOK C n x vs σ Q) : CallOK C n x vs σ Q := fun a ha A g s us R S V => by
 refine ob12 (V.get hi) ?_; rintro u _ Vu
 refine ob23 (is_list S Vu hl) ?_; rintro _ _ _ _ hv
 exact h (VR.nodups hv) a ha A g s us R S V
theorem look_upd {σ : Sg} {D : Addr} {v w o x} (hD : σ D = none) (hl : look σ w = x) (hx : x ≠ .none) : look (upd σ D v o) w = x := by
 cases w with
 | ref a =>
   have hl' : (match σ a with | some (v, _) => v | none => V.none) = x := hl
   have : a ≠ D := fun z => by rw [z, hD] at hl'; exact hx hl'.symm
   show (match upd σ D v o a with | some (v, _) => v | none => V.none) = x
   rw [upd_ne _ _ _ this]; exact hl'
 | _ => exact hl
theorem look_own {σ : Sg} {a v o} (h : σ a = some (v, o)) : look σ (.ref a) = v := by
 show (match σ a with | some (v, _) => v | none => V.none) = v
 rw [h]
end Mine
namespace Mine
variable {C : Cx}
theorem Iter.ofWalksL {A : Around} {elts : List Expr} {kk : Nat} {p : Pos} {I ax : Addr} {items : Array Value} {xs : List V} {g₀ : Fz} (hh : A.handled = none) (hne : ax ≠ I) (hn : xs.length = items.size)
   (hV : VRs g₀ xs items.toList) (hT : ∀ x ∈ xs, ∃ ys, x = .tup ys) :
   Iter C A (.Tuple elts kk p) (.ref I) xs g₀ [I, ax] [I] (fun i h => h.IsListIter I ax i ∧ h.IsList ax items) where
 sub := (Walks.list (prog := C.prog) (w := C.w) hh I ax hne items).sub
 frame := (Walks.list (prog := C.prog) (w := C.w) hh I ax hne items).frame
 live := fun i h st b hb => by rw [List.mem_singleton.mp hb]; refine ob02 st ?_; clear st; rintro z1 _; refine ob12 z1 ?_; clear z1; rintro o ho _; exact ⟨o, ho⟩
 item := fun i x s g Q hx st L sub hQ => (Walks.list (prog := C.prog) (w := C.w) hh I ax hne items).item i s _ _ (by
     rw [← hn]
     rcases Nat.lt_or_ge i xs.length with h | h
     · exact h
     · rw [List.getElem?_eq_none h] at hx; (exfalso; cases hx)) st fun v h' tk hv st' k => by
   refine ob12 (hV.get hx) ?_; rintro u hu Vu
   rw [Array.getElem?_toList, hv] at hu; cases hu
   refine ob11 (hT x (List.mem_of_getElem? hx)) ?_; rintro ys rfl
   refine (mx12 v rfl ?_)
   have hr : ∃ T, v = .ref T := Vu.ct fun a _ _ _ _ _ _ _ => ⟨a, rfl⟩
   refine ob11 hr ?_; clear hr; rintro T rfl
   exact wpAny_letOwnedTupleGo_listiter (s := { s with heap := h', toks := tk }) st'.1 (hQ _ _ g st' (Vu.mono L) (.refl _) (fun _ _ q => .inl q) k rfl rfl)
 done := fun s Q st hQ => (Walks.list (prog := C.prog) (w := C.w) hh I ax hne items).done s _ _ (hn ▸ st) fun h' tk k => ⟨rfl, hQ _ k rfl rfl⟩
 self := fun i s Q st hQ => (Walks.list (prog := C.prog) (w := C.w) hh I ax hne items).self i s Q _ st hQ
section
variable {n : Nat} {env : Env} {e : Vars} {σ : Sg}
theorem IE_listT {elts kk p x} {K : List V → List Addr → Sg → Prop} (h : EE C n env e x σ fun v σ₁ => ∃ xs, look σ₁ v = .lst xs ∧ (∀ x ∈ xs, ∃ ys, x = .tup ys) ∧ K xs (ownOf v) σ₁) : IE C n env e (.Tuple elts kk p) x σ K := fun A g s R S F => by
 refine wpAny_mono (h A g s R S F) ?_ fun _ _ x => x
 rintro u s₁ ⟨g₁, v, σ₁, X₁, S₁, V, xs, hl, hT, hK⟩
 refine ob24 (is_list' S₁ V hl) ?_; rintro a items rfl hL Vs hfz
 have hk : ∀ b o, s₁.heap.get? b = some o → (s₁.heap.push { cls := .type "list_iterator", data := .fields #[.ref a, .int 0 0] }).get? b = some o := fun b o q => Heap.get?_push_of_some _ q
 have hlt : a ≠ s₁.heap.objs.size := by refine ob12 hL ?_; clear hL; rintro o ho _; exact Nat.ne_of_lt (Heap.lt_size ho)
 have hlen : xs.length = items.size := by rw [Vs.length, Array.length_toList]
 refine wpAny_pyIter_list hL ?_
 refine (mx77 xs (ownOf v) g₁ σ₁ ([s₁.heap.objs.size, a]) [s₁.heap.objs.size] _ (X₁.trans (.push hk _ _)) (S₁.push hk) (Iter.ofWalksL R.handled hlt hlen Vs hT) (⟨⟨_, Heap.get?_push_size _ rfl, rfl, rfl⟩, hL.push _⟩) (fun b hb => ?_) (fun b hb => ?_) hK)
 · rw [List.mem_singleton.mp hb]; exact ⟨fresh_back X₁ (Nat.le_refl _), S₁.fresh (Nat.le_refl _)⟩
 · rcases List.mem_cons.mp hb with rfl | hb
   · exact .inl List.mem_cons_self
   · rw [List.mem_singleton.mp hb]; exact .inr hfz
end
noncomputable def nestEmit (ee iter2 : Expr) (D : Addr) (cenv : Env) : Sem Unit := do
 let x ← eval iter2 cenv
 standAt iter2.pos
 let x ← foldedSetIterable iter2 cenv x
 let _ ← runOwn (.compStart ee 1 (← holding [x] (pyIter x)) (.ref D) cenv) cenv
theorem codeAny_compStart_2 {prog : Program} {w : World} {A : Around} {s : Shared} {R : Result → Shared → Prop} {elt : Expr} {g0 : Comprehension} {t2 iter2 : Expr} {ifs2 scope pos it acc env}
   (h0 : codeAny (model prog w) A (.compLoop (.ListComp elt [g0, ⟨t2, iter2, ifs2, 0⟩] scope pos) 1 it acc env) R s)
   (h : wpAny (model prog w) A (pyIter it) (fun it' s' => codeAny (model prog w) A (.compLoop (.ListComp elt [g0, ⟨t2, iter2, ifs2, 0⟩] scope pos) 1 it' acc env) R s')
     (notedBy (model prog w) A env fun x s' => R (.error x) s') s) :
   codeAny (model prog w) A (.compStart (.ListComp elt [g0, ⟨t2, iter2, ifs2, 0⟩] scope pos) 1 it acc env) R s := by
 refine codeAny_of_tree ?_
 show wpAny _ _ ((compStart (.ListComp elt [g0, ⟨t2, iter2, ifs2, 0⟩] scope pos) 1 it acc env).onRaise (fun x => do noteFrame x env; standAt theWindowsPlace)) _ _ s
 refine wpAny_notedAt ?_
 unfold compStart
 show wpAny _ _ (ask >>= _) _ _ s
 refine wpAny_bind (wpAny_askSetting (wpAny_ite ?_))
 split
 · first
     | exact wpAny_bind (wpAny_pure (wpAny_pure (And.intro rfl h0)))
     | exact wpAny_pure (And.intro rfl h0)
 · first
     | exact wpAny_bind (wpAny_rule (wpAny_bind (wpAny_standAt (wpAny_bind (wpAny_mono h (fun it' s' h' => wpAny_pure (And.intro rfl h')) fun _ _ x => x)))))
     | (refine wpAny_bind (wpAny_rule ?_); show wpAny _ _ (standAt iter2.pos >>= _) _ _ s; exact wpAny_bind (wpAny_standAt (wpAny_bind (wpAny_mono h (fun it' s' h' => wpAny_pure (And.intro rfl h')) fun _ _ x => x))))
section
variable {n : Nat} {env : Env} {e ec : Vars} {σ : Sg}
theorem emit_nest {cenv : Env} {D : Addr} {elt t2 iter2 : Expr} {ifs2 : List Expr} {g0 : Comprehension} {scope pos} {e : Vars} {acc : List V} {σ : Sg} {Q : List V → Vars → Sg → Prop}
   (hs : ∀ x, foldedSetIterable iter2 cenv x = pure x) (hloc : ∀ y ∈ tnames t2, cenv.kindOf y = some .local)
   (h : IE C n cenv e t2 iter2 σ fun xs own σ₁ => CompL C n cenv t2 ifs2 (LE C n elt cenv) own Q xs acc e σ₁) :
   EmitOK C n cenv LR D (nestEmit (.ListComp elt [g0, ⟨t2, iter2, ifs2, 0⟩] scope pos) iter2 D cenv) e acc σ Q := fun A g s o R S F hσ hg hL hc ho hR => by
 unfold nestEmit
 refine wpAny_bind (wpAny_mono (h A g s R S F) (fun u s₁ h₁ => ?_) fun _ _ x => x)
 refine wpAny_bind (wpAny_standAt ?_)
 rw [hs]
 refine wpAny_bind (wpAny_pure (wpAny_bind (wpAny_holding (wpAny_mono h₁ ?_ fun _ _ x => x))))
 rintro it s₂ z1; refine ob77 z1 ?_; clear z1; rintro xs own g₂ σ₂ fp wr St X₂ S₂ W st hwr hfp hK
 refine wpAny_bind (wpAny_runOwn ?_)
 have hAu : A.mark none = A := rfl
 rw [hAu]
 have hLs : ∃ oL, s.heap.get? cenv.locals = some oL := by refine ob12 F.ns ?_; rintro m hn _; refine ob32 hn ?_; clear hn; rintro o _ _ q _; exact ⟨o, q⟩
 refine ob11 hLs ?_; clear hLs; rintro oL hLo
 have hDf : D ∉ fp := fun hb => by
   rcases hfp D hb with z | ⟨o', z⟩ | ⟨_, p, hp⟩
   · have := (hwr D z).1; rw [ho] at this; cases this
   · have := X₂.frz D o ho hσ hg; rw [z] at this; cases this
   · have := X₂.sig D o ho hσ; rw [hp] at this; cases this
 have hLf : cenv.locals ∉ fp := fun hb => by
   rcases hfp _ hb with z | ⟨o', z⟩ | ⟨_, p, hp⟩
   · have := (hwr _ z).1; rw [hLo] at this; cases this
   · have := X₂.frz _ _ hLo F.loc.1 F.loc.2; rw [z] at this; cases this
   · have := X₂.sig _ _ hLo F.loc.1; rw [hp] at this; cases this
 have hcw : ∀ b ∈ wr, ∀ x, cenv.cells.lookup x ≠ some b := fun b hb x hx => by
   refine ob04 (F.cell x _ hx) ?_; rintro _ _ _ z1; refine ob22 z1 ?_; clear z1; rintro _ o q _
   rw [(hwr b hb).1] at q; cases q
 have fin : codeAny (model C.prog C.w) A (.compLoop (.ListComp elt [g0, ⟨t2, iter2, ifs2, 0⟩] scope pos) 1 it (.ref D) cenv) (fun r s' => match r with
     | .ok f => wpAny (model C.prog C.w) A (pure ()) (fun _ s' => ∃ g' σ' acc' o' e', ExtF (fun a => a = cenv.locals ∨ a = D) g σ s g' σ' s' ∧ SR C g' σ' s'.heap ∧ FR C cenv e' g' σ' s'.heap ∧ s'.heap.get? D = some o' ∧ LR g' acc' o' ∧ Q acc' e' σ') noE s'
     | .error e => cameBackBy (model C.prog C.w) A cenv noE e s') s₂ := by
   refine comp_loop (R := LR) (E := LE C n elt cenv) (target := t2) (iter := iter2) (ifs := ifs2) (dp := 1) (emit := do let _ ← call (.builtin "list.append") [.ref D, ← eval elt cenv]) (o := o) (acc := acc) rfl rfl rfl LR.mono
     (fun e acc σ Q h => emit_list h) R hloc (X₂.toF _) S₂ (F.ext X₂) W st hwr hfp hDf hLf hL hc hcw (X₂.sig _ _ ho hσ) (X₂.frz _ _ ho hσ hg) (X₂.keep _ _ ho hσ) (hR.mono X₂.le) hK ?_
   intro g' σ' s' acc' o' e' X' S' F' a1 a2 a3 a4 a5
   exact wpAny_pure (mx56 g' σ' acc' o' e' X' S' F' a3 a4 a5)
 have st' : St 0 s₂.heap := st
 refine codeAny_compStart_2 ?_ ?_
 · exact fin
 · have e0 : wpAny (model C.prog C.w) A (pyIter it) (fun it' s' => it' = it ∧ s' = s₂) noE s₂ := W.self 0 _ _ st' ⟨rfl, rfl⟩
   exact wpAny_mono e0 (fun it' s' ⟨h1, h2⟩ => by subst h1 h2; exact fin) fun _ _ x => x.elim
theorem den_nest {C : Cx} {elt t1 iter1 t2 iter2 : Expr} {ifs2 : List Expr} {scope : Scope} {pos : Pos} (it : Value) (D : Addr) (cenv : Env) :
   (model C.prog C.w).den (.compLoop (.ListComp elt [⟨t1, iter1, [], 0⟩, ⟨t2, iter2, ifs2, 0⟩] scope pos) 0 it (.ref D) cenv) =
     (turnOf t1 iter1 [] it cenv (nestEmit (.ListComp elt [⟨t1, iter1, [], 0⟩, ⟨t2, iter2, ifs2, 0⟩] scope pos) iter2 D cenv) (.compLoop (.ListComp elt [⟨t1, iter1, [], 0⟩, ⟨t2, iter2, ifs2, 0⟩] scope pos) 0 it (.ref D) cenv)).onRaise (fun x => do noteFrame x cenv; theTreesLotGoes x) := by
 show (compTurn (.ListComp elt [⟨t1, iter1, [], 0⟩, ⟨t2, iter2, ifs2, 0⟩] scope pos) 0 it (.ref D) cenv).onRaise _ = _
 congr 1
 unfold compTurn turnOf nestEmit
 dsimp only [List.getElem?_cons_zero, List.getElem?_cons_succ]
 simp only [bind_assoc, pure_bind, List.forIn_nil]
 rfl
theorem E_listcomp2 {elt t1 iter1 t2 iter2 : Expr} {ifs2 : List Expr} {scope : Scope} {pos : Pos} {Q : V → Sg → Prop} (hs : ∀ x, foldedSetIterable iter1 env x = pure x) (hs2 : ∀ env x, foldedSetIterable iter2 env x = pure x)
   (hk : scope.kind = .function) (nd : (scope.names.map (·.1)).Nodup)
   (hdb : (scope.names.all fun x => !(x.1 == ("__debug__" : Str))) = true) (hloc : (tnames t1).all (fun x => scope.names.lookup x == some .local) = true) (hloc2 : (tnames t2).all (fun x => scope.names.lookup x == some .local) = true) (hI : InitC C env e scope.names ec)
   (h : IE C n env e t1 iter1 σ fun xs own σ₁ => ∀ cenv : Env, CompL C n cenv t1 [] (fun e acc σ Q => IE C n cenv e t2 iter2 σ fun xs own σ₁ => CompL C n cenv t2 ifs2 (LE C n elt cenv) own Q xs acc e σ₁) own (fun acc _ σ' => ∀ D o, σ' D = none → Q (.ref D) (upd σ' D (.lst acc) o)) xs [] ec σ₁) :
   EE C n env e (.ListComp elt [⟨t1, iter1, [], 0⟩, ⟨t2, iter2, ifs2, 0⟩] scope pos) σ Q := fun A g s R S F => by
 rw [eval_ListComp]
 refine comp_core (R := LR) (E := fun cenv e acc σ Q => IE C n cenv e t2 iter2 σ fun xs own σ₁ => CompL C n cenv t2 ifs2 (LE C n elt cenv) own Q xs acc e σ₁) (acc₀ := []) (o₀ := { cls := .type "list", data := .seq #[] })
   (emit := fun D cenv => nestEmit (.ListComp elt [⟨t1, iter1, [], 0⟩, ⟨t2, iter2, ifs2, 0⟩] scope pos) iter2 D cenv) (use := none)
   rfl hs hk nd hdb hloc hI (fun s Q hQ => ?_) rfl (fun g => ⟨#[], _, rfl, .nil⟩) (fun it acc env RR s h0 h1 => codeAny_compStart_list h0 (wpAny_mono h1 (fun _ _ x => x) fun _ _ x => x.elim)) (fun _ _ _ => rfl) (fun _ _ _ => rfl) den_nest LR.mono
   (fun cenv D hsc e acc σ Q h => emit_nest (hs2 _) (fun y hy => ?_) h) R S F h ?_
 · exact wpAny_newObj_type hQ (by show (0 : Nat) ≤ sizeLine; exact Nat.zero_le _)
 · have := List.all_eq_true.mp hloc2 y hy
   have hl := eq_of_beq this
   show cenv.scope.names.lookup y = _
   rw [hsc]
   exact lookup_relabel F.kind hl fun q => by (exfalso; cases q)
 · intro g' σ' s' acc o D X S' a1 a2 a3 a4 a5 a6 a7
   exact ⟨g', .ref D, _, X.adopt a3 _ _, S'.adopt a2 a4 a5 a6.or, .ref D, a7 D o a1⟩
end
end Mine
namespace Mine
variable {C : Cx}
noncomputable def runP {α : Type} (cmp : Nat → Nat → Bool) : KasT α → α
 | .ret a => a
 | .ask i j k => runP cmp (k (cmp i j))
noncomputable def runOk {α : Type} (n : Nat) (cmp : Nat → Nat → Bool) : KasT α → Bool
 | .ret a => true
 | .ask i j k => Nat.blt i n && (Nat.blt j n && runOk n cmp (k (cmp i j)))
theorem runP_ok {α : Type} {ask : Nat → Nat → (Bool → Shared → Prop) → Shared → Prop} {n : Nat} {cmp : Nat → Nat → Bool} {s : Shared} (h : ∀ i j (K : Bool → Shared → Prop), i < n → j < n → K (cmp i j) s → ask i j K s) {Q : α → Shared → Prop} :
   ∀ t : KasT α, runOk n cmp t = true → Q (runP cmp t) s → t.kasWp ask Q s
 | .ret a, _, q => q
 | .ask i j k, r, q => by
   have r := (Bool.and_eq_true _ _).mp (show (Nat.blt i n && (Nat.blt j n && runOk n cmp (k (cmp i j)))) = true from r)
   have r2 := (Bool.and_eq_true _ _).mp r.2
   exact h i j _ (Nat.blt_eq.mp r.1) (Nat.blt_eq.mp r2.1) (runP_ok h (k (cmp i j)) r2.2 q)
noncomputable abbrev KI := List Int × Int
noncomputable def kiV (x : KI) : V := .tup [itup x.1, .int x.2]
noncomputable def klt (a b : KI) : Bool := if a.1 = b.1 then (if a.2 = b.2 then false else decide (a.2 < b.2)) else tlt a.1 b.1
noncomputable def kiD : KI := ([], 0)
noncomputable def cmpP (ks : List KI) (i j : Nat) : Bool := klt (ks.getD i kiD) (ks.getD j kiD)
noncomputable def sortOk (ks : List KI) : Bool := Nat.ble 2 ks.length && (Nat.blt ks.length 64 && (runOk ks.length (cmpP ks) (kas_sort ks.length) && (runP (cmpP ks) (kas_sort ks.length)).toList.all fun i => Nat.blt i ks.length))
noncomputable def sortP (ks : List KI) : List KI := (runP (cmpP ks) (kas_sort ks.length)).toList.map fun i => ks.getD i kiD
theorem kis_at {g : Fz} {ks : List KI} {us : List Value} (V : VRs g (ks.map kiV) us) (i : Nat) (hi : i < us.length) : VR g (kiV (ks.getD i kiD)) (us.getD i Value.none) := by
 refine ob12 (V.get' (i := i) (u := us[i]) (List.getElem?_eq_getElem hi)) ?_; rintro v hv V'
 rw [List.getElem?_map] at hv
 refine ob12 (Option.map_eq_some_iff.mp hv) ?_; rintro k hk rfl
 rw [List.getD_eq_getElem?_getD, hk, List.getD_eq_getElem?_getD, List.getElem?_eq_getElem hi]
 exact V'
theorem kat_tups {g : Fz} {h : Heap} (sub : ∀ a o, g a = some o → h.get? a = some o) : ∀ {ks : List KI} {us : List Value}, VRs g (ks.map kiV) us → ∃ fs, KatTups h us fs ∧ fs.length = us.length ∧ ∀ f ∈ fs, ∃ k, TupI g k f
 | [], _, V => V.c0 (mx13 [] .nil rfl (fun f hf => nomatch hf))
 | k :: ks, _, V => by
   rw [List.map_cons] at V
   refine V.c1 fun _ _ a b => ?_
   · refine ob13 (kat_tups sub b) ?_; rintro fs h1 h2 h3
     unfold kiV at a
     refine a.ct fun _ o items n ho hc hd hv => ?_
     · refine ob23 hv.two ?_; rintro u1 u2 e V1 V2
       refine (mx13 (u1 :: fs) (.cons (sub _ _ ho) hc hd (by rw [← Array.getElem?_toList, e]; rfl) h1) (by simp [h2]) (fun f hf => ?_))
       rcases List.mem_cons.mp hf with rfl | hf
       · exact ⟨_, V1.tupI⟩
       · exact h3 f hf
theorem ask_ki {A : Around} {g : Fz} {s : Shared} {x y : KI} {u v : Value} (sub : ∀ a o, g a = some o → s.heap.get? a = some o) (hu : A.units < cLine) (Vx : VR g (kiV x) u) (Vy : VR g (kiV y) v) (K : Bool → Shared → Prop) (h : K (klt x y) s) :
   wpAny (model C.prog C.w) A (keyLt' (tuples' false) u v) K (fun _ _ => False) s := by
 unfold kiV at Vx Vy
 refine Vx.ct fun a o items n ho hc hd hv => Vy.ct fun b o2 items2 n2 ho2 hc2 hd2 hv2 => ?_
 refine ob23 hv.two ?_; rintro u1 u2 e1 V1 V2
 refine ob23 hv2.two ?_; rintro w1 w2 e2 W1 W2
 refine kat_lt (sub _ _ ho) hd (sub _ _ ho2) hd2 ?_
 rw [e1, e2]
 show KatLex C.prog C.w A false _ K [(u1, w1), (u2, w2)] 0 s
 refine kat_cons (eqAt_tup hu sub V1.tupI W1.tupI _ _ _ _ ?_)
 unfold klt at h
 by_cases h1 : x.1 = y.1
 · rw [decide_eq_true h1]
   refine kat_yes (kat_cons ?_)
   rw [if_pos h1] at h
   refine V2.ci fun t => W2.ci fun t' => ?_
   ·   refine eqAt_int _ _ _ _ ?_
       by_cases h2 : x.2 = y.2
       · rw [show (x.2 == y.2) = true from by simpa using h2]
         refine kat_yes (kat_nil ?_)
         rw [if_pos h2] at h
         have s1 : items.size = 2 := by rw [← Array.length_toList, e1]; rfl
         have s2 : items2.size = 2 := by rw [← Array.length_toList, e2]; rfl
         rw [s1, s2]; exact h
       · rw [show (x.2 == y.2) = false from by simpa using h2]
         refine kat_no (kat_one _ _ (PySem.P.lt_int ?_))
         rw [if_neg h2] at h; exact h
 · rw [decide_eq_false h1]
   rw [if_neg h1] at h
   exact kat_no (kat_one _ _ (rcLt_tup (C := C) hu sub V1.tupI W1.tupI h))
section
variable {n : Nat} {σ : Sg} {Q : V → Sg → Prop}
theorem perm_vrs {g : Fz} {ks : List KI} {us : List Value} (V : VRs g (ks.map kiV) us) : ∀ l : List Nat, (∀ i ∈ l, i < us.length) → VRs g (l.map fun i => kiV (ks.getD i kiD)) (l.map fun i => us.getD i Value.none)
 | [], _ => .nil
 | i :: l, h => .cons (kis_at V i (h i List.mem_cons_self)) (perm_vrs V l fun j hj => h j (List.mem_cons_of_mem _ hj))
theorem M_sort {a : Addr} {ks : List KI} {o : Obj} (ha : σ a = some (.lst (ks.map kiV), o)) (hok : sortOk ks = true)
   (h : ∀ o, Q .none (upd σ a (.lst ((sortP ks).map kiV)) o)) : Opn C n (fun us => call (.builtin "list.sort") (.ref a :: us)) [] σ Q := fun A g s us R S Vs => by
 refine Vs.c0 ?_
 simp only [sortOk, Bool.and_eq_true, Nat.blt_eq] at hok
 refine ob04 hok ?_; clear hok; rintro h2' h64 hrun hp
 have h2 : 2 ≤ ks.length := Nat.le_of_ble_eq_true h2'
 refine ob23 (own_lst S ha) ?_; rintro items k ho rfl hi
 have hlen : ks.length = items.toList.length := by rw [← hi.length, List.length_map]
 have hT : s.TypeIs (.ref a) "list" := ⟨_, ho, rfl⟩
 refine wpAny_call_entry PyProof.Rows.slot_list_sort hT PyProof.Rows.entry_list_sort ?_ (PyProof.Rows.args_list_sort _)
 rw [list_sort_plain]
 have hsm : items.size < 64 := by rw [← Array.length_toList, ← hlen]; exact h64
 refine wpAny_bind (listItems_at ho rfl ?_)
 refine wpAny_bind (listUpdate_at ho rfl ?_ (by rw [sizeLine_eq]; exact li1 hsm) (Nat.zero_le _))
 refine ob12 (S.lset (ys := []) ha ho (fun _ => #[]) .nil) ?_; rintro o1 X1 S1
 have ho1 := get?_update_seq ho fun _ => (#[] : Array Value)
 refine wpAny_bind (seqEpoch_at ho1 rfl ?_)
 refine wpAny_bind (wpAny_newTuple ?_ (by rw [← hlen, sizeLine_eq]; exact li1 h64))
 refine wpAny_bind (wpAny_newList ?_ (Nat.zero_le _))
 refine wpAny_holding ?_
 have ha' : a < s.heap.objs.size := Heap.lt_size ho
 generalize hH : (({ s with heap := ({ s with heap := s.heap.update a (Obj.mapSeq fun _ => #[]) } : Shared).heap.push { cls := .type "tuple", data := .seq items.toList.toArray } } : Shared).heap.push { cls := .type "list", data := .seq ([] : List Value).toArray }) = H
 have hk2 : ∀ b o, (s.heap.update a (Obj.mapSeq fun _ => #[])).get? b = some o → H.get? b = some o := fun b o q => by
   rw [← hH]; exact Heap.get?_push_of_some _ (Heap.get?_push_of_some _ q)
 have S2 : SR C g (upd σ a (.lst []) o1) H := S1.push hk2
 have X2 : Ext g σ s g (upd σ a (.lst []) o1) { s with heap := H } := X1.trans (.push hk2 _ _)
 dsimp only
 have hn2 : ¬ items.size < 2 := by rw [← Array.length_toList, ← hlen]; exact Nat.not_lt_of_le (li1 h2)
 rw [if_neg hn2, if_neg hn2]
 refine ob13 (kat_tups (h := H) S2.sub hi) ?_; rintro fs t1 t2 t3
 have eI : items = items.toList.toArray := by simp
 refine wpAny_bind ?_
 show wpAny _ _ (keyKind' items) _ _ { s with heap := H }
 rw [eI]
 refine kat_kind (s := { s with heap := H }) (T := .type "tuple") t1 (by exact li3 h2 (eL hlen) (eG t2)) (fun f hf => ?_) rfl ?_
 · refine ob54 (t3 f hf) ?_; rintro kk a' o' its nn rfl ho' hc' _
   intro A' Q' E' s' k' hq
   exact wpAny_typeOf (T := "tuple") (s := s') ⟨o', k' _ _ (S2.sub _ _ ho'), hc'⟩ hq
 have hf : (Value.type "tuple" != Value.type "tuple") = false := rfl
 rw [hf]
 have hsrt : sortP ks = (runP (cmpP ks) (kas_sort ks.length)).toList.map fun i => ks.getD i kiD := rfl
 generalize hp' : runP (cmpP ks) (kas_sort ks.length) = p at hp hsrt
 refine wpAny_bind (wpAny_mono (kat_run (s := { s with heap := H }) (Q := fun st' s' => s' = { s with heap := H } ∧ arrOf st' = p.map (kas_item (items.toList.toArray.zip items.toList.toArray)) ∧ failedOf st' = none ∧ p.size = items.toList.length) (G := fun q s' => s' = { s with heap := H } ∧ q = p)
   rfl (by exact li2 h2 (eL hlen)) (by omega) (fun p' st' s' a1 a2 a3 a4 => (mx04 a4.1 (by rw [a2, a4.2]) a3 (by rw [← a4.2, a1]))) ?_) ?_ fun _ _ e => e)
 · rw [← hlen]
   refine runP_ok (n := ks.length) (cmp := cmpP ks) (fun i j K hi1 hj1 hK => ?_) _ hrun ⟨rfl, by rw [← hp']⟩
   exact ask_ki S2.sub (show A.in1.units < cLine from R.lt1) (kis_at hi i (by exact li2 (eL hlen) hi1)) (kis_at hi j (by exact li2 (eL hlen) hj1)) K hK
 · rintro ⟨⟨⟩, st'⟩ s' z1; refine ob04 z1 ?_; clear z1; rintro rfl har hfa hps
   dsimp only
   have hoH := hk2 _ _ ho1
   rw [kat_snds rfl har]
   have hpl : ∀ i ∈ p.toList, i < items.toList.length := fun i hi' => by
     have := List.all_eq_true.mp hp i hi'
     rw [Nat.blt_eq] at this; exact li2 (eL hlen) this
   refine wpAny_bind (seqEpoch_at (s := { s with heap := H }) hoH rfl ?_)
   have hsz : (List.toArray (p.toList.map fun i => items.toList.getD i Value.none)).size = p.size := by simp
   refine ob12 (SR.lset (s := { s with heap := H }) (ys := (sortP ks).map kiV) S2 (upd_same ..) hoH (fun _ => List.toArray (p.toList.map fun i => items.toList.getD i Value.none)) (by
     rw [hsrt, List.map_map]
     exact perm_vrs hi p.toList hpl)) ?_; rintro o3 X3 S3
   rw [upd_upd] at X3 S3
   refine wpAny_bind (listUpdate_at (s := { s with heap := H }) hoH rfl ?_ (Nat.zero_le _) (by rw [hsz, hps, ← hlen, sizeLine_eq]; exact li1 h64))
   rw [hfa]
   simp only [bne_self_eq_false, Bool.false_eq_true, if_false]
   exact wpAny_pure ⟨_, rfl, g, .none, _, X2.trans X3, S3, .none, h _⟩
theorem M_sort1 {a : Addr} {xs : List V} {o : Obj} (ha : σ a = some (.lst xs, o)) (h1 : xs.length < 2) (h : ∀ o, Q .none (upd σ a (.lst xs) o)) : Opn C n (fun us => call (.builtin "list.sort") (.ref a :: us)) [] σ Q := fun A g s us R S Vs => by
 refine Vs.c0 ?_
 refine ob23 (own_lst S ha) ?_; rintro items k ho rfl hi
 have hlen : xs.length = items.toList.length := hi.length
 have hT : s.TypeIs (.ref a) "list" := ⟨_, ho, rfl⟩
 refine wpAny_call_entry PyProof.Rows.slot_list_sort hT PyProof.Rows.entry_list_sort ?_ (PyProof.Rows.args_list_sort _)
 rw [list_sort_plain]
 have hsm : items.size < 2 := by rw [← Array.length_toList, ← hlen]; exact h1
 refine wpAny_bind (listItems_at ho rfl ?_)
 refine wpAny_bind (listUpdate_at ho rfl ?_ (by rw [sizeLine_eq]; exact li1 hsm) (Nat.zero_le _))
 refine ob12 (S.lset (ys := []) ha ho (fun _ => #[]) .nil) ?_; rintro o1 X1 S1
 have ho1 := get?_update_seq ho fun _ => (#[] : Array Value)
 refine wpAny_bind (seqEpoch_at ho1 rfl ?_)
 refine wpAny_bind (wpAny_newTuple ?_ (by rw [← hlen, sizeLine_eq]; exact li1 h1))
 refine wpAny_bind (wpAny_newList ?_ (Nat.zero_le _))
 refine wpAny_holding ?_
 generalize hH : (({ s with heap := ({ s with heap := s.heap.update a (Obj.mapSeq fun _ => #[]) } : Shared).heap.push { cls := .type "tuple", data := .seq items.toList.toArray } } : Shared).heap.push { cls := .type "list", data := .seq ([] : List Value).toArray }) = H
 have hk2 : ∀ b o, (s.heap.update a (Obj.mapSeq fun _ => #[])).get? b = some o → H.get? b = some o := fun b o q => by
   rw [← hH]; exact Heap.get?_push_of_some _ (Heap.get?_push_of_some _ q)
 have S2 : SR C g (upd σ a (.lst []) o1) H := S1.push hk2
 have X2 : Ext g σ s g (upd σ a (.lst []) o1) { s with heap := H } := X1.trans (.push hk2 _ _)
 dsimp only
 rw [if_pos hsm, if_pos hsm]
 refine wpAny_bind (wpAny_pure (wpAny_bind ?_))
 refine wpAny_pure ?_
 dsimp only
 have hoH := hk2 _ _ ho1
 have hout : (arrOf (SortSt.mk' general' (items.zip items) #[] 7 none)).map (·.2) = items := by
   show (items.zip items).map (·.2) = items
   apply Array.ext
   · simp
   · intro i h1 h2; simp
 rw [hout]
 refine wpAny_bind (seqEpoch_at (s := { s with heap := H }) hoH rfl ?_)
 refine ob12 (SR.lset (s := { s with heap := H }) (ys := xs) S2 (upd_same ..) hoH (fun _ => items) hi) ?_; rintro o3 X3 S3
 rw [upd_upd] at X3 S3
 refine wpAny_bind (listUpdate_at (s := { s with heap := H }) hoH rfl ?_ (Nat.zero_le _) (by rw [sizeLine_eq]; exact li1 hsm))
 simp only [bne_self_eq_false, Bool.false_eq_true, if_false]
 exact wpAny_pure ⟨_, rfl, g, .none, _, X2.trans X3, S3, .none, h _⟩
end
section
variable {n : Nat} {env : Env} {e : Vars} {σ : Sg} {Q : V → Sg → Prop}
theorem EV.tys {t : Sem Value} (h : EV C n env e t σ Q) : EV C n env e t σ fun v σ' => Q v σ' ∧ (∀ a xs o, σ' a = some (.lst xs, o) → ofTy "list" o) ∧ (∀ a p o, σ' a = some (.dct p, o) → ofTy "dict" o) := fun A g s R S F =>
 wpAny_mono (h A g s R S F) (fun _ _ h => by obtain ⟨g', v, σ', X, S', V, q⟩ := h; exact ⟨g', v, σ', X, S', V, q, fun a xs o ha => own_ty S' ha, fun a p o ha => own_dty S' ha⟩) fun _ _ x => x
theorem E_methL {o : Expr} {name : Str} {apos pos : Pos} {args : List Expr} {id : String} (pa : PlainAttrs "list") (slot : PySem.Slot "list" name id) (hty : typeOf (.builtin id) = pure (.type "method_descriptor"))
   (hbase : ∀ env, attributeBase o name env (eval o env) = eval o env) (hline : (apos.endLine == pos.line) = true) (hs : args.all (fun x => !isStarred x) = true)
   (hfew : ∀ env, ((backTo pos (starEach args env)).all (fun x => !x.1) && (backToKw pos (keywordEach [] env)).all (fun x => x.1.isSome)
     && decide (args.length + ([] : List Keyword).length + (if ([] : List Keyword).isEmpty then 0 else 1) < 30)) = true)
   (h : EE C n env e o σ fun ov σ₁ => ∃ a xs ob, ov = .ref a ∧ σ₁ a = some (.lst xs, ob) ∧ EEs C n env e args σ₁ fun vs σ₂ => Opn C n (fun us => call (.builtin id) (.ref a :: us)) vs σ₂ Q) :
   EE C n env e (.Call (.Attribute o name apos) args [] pos) σ Q :=
 E_meth pa slot hty hbase hline hs hfew (EV.mono (EV.tys h) fun v σ' h => ob33 h.1 fun a xs ob h1 h2 h3 => mx34 a _ ob h1 h2 (h.2.1 _ _ _ h2) h3)
theorem E_methD {o : Expr} {name : Str} {apos pos : Pos} {args : List Expr} {id : String} (pa : PlainAttrs "dict") (slot : PySem.Slot "dict" name id) (hty : typeOf (.builtin id) = pure (.type "method_descriptor"))
   (hbase : ∀ env, attributeBase o name env (eval o env) = eval o env) (hline : (apos.endLine == pos.line) = true) (hs : args.all (fun x => !isStarred x) = true)
   (hfew : ∀ env, ((backTo pos (starEach args env)).all (fun x => !x.1) && (backToKw pos (keywordEach [] env)).all (fun x => x.1.isSome)
     && decide (args.length + ([] : List Keyword).length + (if ([] : List Keyword).isEmpty then 0 else 1) < 30)) = true)
   (h : EE C n env e o σ fun ov σ₁ => ∃ a p ob, ov = .ref a ∧ σ₁ a = some (.dct p, ob) ∧ EEs C n env e args σ₁ fun vs σ₂ => Opn C n (fun us => call (.builtin id) (.ref a :: us)) vs σ₂ Q) :
   EE C n env e (.Call (.Attribute o name apos) args [] pos) σ Q :=
 E_meth pa slot hty hbase hline hs hfew (EV.mono (EV.tys h) fun v σ' h => ob33 h.1 fun a xs ob h1 h2 h3 => mx34 a _ ob h1 h2 (h.2.2 _ _ _ h2) h3)
end
theorem E_negc {n : Nat} {env : Env} {e : Vars} {σ : Sg} {Q : V → Sg → Prop} {i : Int} {k p pos} (h : Q (.int (-i)) σ) : EE C n env e (.UnaryOp .USub (.Constant (.int i) k p) pos) σ Q := E_neg (i := 0) (E_int (mx12 i rfl h))
end Mine
namespace Mine
/-! plain functions: what the defs of the text compute; `none`: out of bounds or out of fuel -/
noncomputable abbrev Mon := List Int
noncomputable def okR (r : Rat) : Bool := Nat.blt r.num.natAbs (2 ^ 62) && Nat.blt r.den (2 ^ 62)
noncomputable def okD (r : Rat) : Bool := Nat.blt r.den (2 ^ 62)
noncomputable def okI (m : Nat) : Int → Bool
 | .ofNat n => Nat.blt n m
 | .negSucc _ => false
noncomputable def okK : Mon → Bool
 | [a, b] => okI 16 a && okI 16 b
 | [a, b, c] => okI 8 a && okI 8 b && okI 8 c
 | _ => false
noncomputable def okP (p : Poly) : Bool := Nat.ble p.length 1000 && p.all fun x => okK x.1 && okR x.2
noncomputable def ieq : Int → Int → Bool
 | .ofNat a, .ofNat b => Nat.beq a b
 | .negSucc a, .negSucc b => Nat.beq a b
 | _, _ => false
noncomputable def ile : Int → Int → Bool
 | .ofNat a, .ofNat b => Nat.ble a b
 | .negSucc _, .ofNat _ => true
 | .negSucc a, .negSucc b => Nat.ble b a
 | _, _ => false
noncomputable def meq : Mon → Mon → Bool
 | [], [] => true
 | x :: a, y :: b => cond (ieq x y) (meq a b) false
 | _, _ => false
noncomputable def madd : Mon → Mon → Mon
 | x :: a, y :: b => (x + y) :: madd a b
 | _, _ => []
noncomputable def msub : Mon → Mon → Mon
 | x :: a, y :: b => (x - y) :: msub a b
 | _, _ => []
noncomputable def mmax : Mon → Mon → Mon
 | x :: a, y :: b => cond (ile y x) x y :: mmax a b
 | _, _ => []
noncomputable def mmin : Mon → Mon → Mon
 | x :: a, y :: b => cond (ile x y) x y :: mmin a b
 | _, _ => []
noncomputable def mdvd : Mon → Mon → Bool
 | x :: a, y :: b => cond (ile x y) (mdvd a b) false
 | _, _ => true
noncomputable def mgt : Mon → Mon → Bool
 | x :: a, y :: b => cond (ieq x y) (mgt a b) (!(ile x y))
 | _ :: _, [] => true
 | [], _ => false
noncomputable def mapart (a b : Mon) : Bool := ieq (mmin a b).sum 0
noncomputable def qint (n : Int) : Rat := ⟨n, 1, by decide, by simp⟩
noncomputable def qadd (a b : Rat) : Rat := cond (Nat.beq a.den 1 && Nat.beq b.den 1) (qint (a.num + b.num)) (a + b)
noncomputable def qmul (a b : Rat) : Rat := cond (Nat.beq a.den 1 && Nat.beq b.den 1) (qint (a.num * b.num)) (a * b)
noncomputable def qz (a : Rat) : Bool := ieq a.num 0
noncomputable def qdiv (a b : Rat) : Rat := cond (ieq b.num 1 && Nat.beq b.den 1) a (a / b)
noncomputable def ezero : Rat := qint 0
noncomputable def eone : Rat := qint 1
noncomputable def mapO {α β : Type} (f : α → Option β) : List α → Option (List β)
 | [] => some []
 | x :: xs => match f x with
   | none => none
   | some y => match mapO f xs with
     | none => none
     | some ys => some (y :: ys)
noncomputable def foldO {α β : Type} (f : β → α → Option β) : β → List α → Option β
 | b, [] => some b
 | b, x :: xs => match f b x with
   | none => none
   | some c => foldO f c xs
noncomputable def addT : Poly → Mon → Rat → Option Poly
 | [], k, r => some (cond (qz r) [] [(k, r)])
 | (k', r') :: p, k, r => cond (meq k' k)
     (cond (okD r' && okD r) (some (let t := qadd r' r; cond (qz t) p ((k', t) :: p))) none)
     (match addT p k r with
       | none => none
       | some q => some ((k', r') :: q))
noncomputable def putE : Poly → Mon → Rat → Poly
 | [], k, r => [(k, r)]
 | (k', r') :: p, k, r => cond (meq k' k) ((k', r) :: p) ((k', r') :: putE p k r)
noncomputable def delE : Poly → Mon → Poly
 | [], _ => []
 | (k', r') :: p, k => cond (meq k' k) p ((k', r') :: delE p k)
noncomputable def addE (a b : Poly) : Option Poly := cond (okP a) (foldO (fun f x => addT f x.1 x.2) a b) none
noncomputable def negE (a : Poly) : Poly := a.map fun x => (x.1, -x.2)
noncomputable def subE (a b : Poly) : Option Poly := addE a (negE b)
noncomputable def scaleE (a : Poly) (r : Rat) : Option Poly := cond (okP a && okR r) (some (cond (qz r) [] (a.map fun x => (x.1, qmul x.2 r)))) none
noncomputable def lenIs (n : Nat) (a : Poly) : Bool := a.all fun x => Nat.beq x.1.length n
noncomputable def shiftE (a : Poly) (s : Mon) (r : Rat) : Option Poly := cond (okP a && okR r && lenIs s.length a) (some (cond (qz r) [] (a.map fun x => (madd x.1 s, qmul x.2 r)))) none
noncomputable def mulE (a b : Poly) : Option Poly := cond (okP a && okP b && lenIs ((b.head?.map (·.1.length)).getD 0) a && lenIs ((b.head?.map (·.1.length)).getD 0) b)
 (foldO (fun f x => foldO (fun f y => addT f (madd y.1 x.1) (qmul y.2 x.2)) f a) [] b) none
noncomputable def leadE : Poly → Option (Mon × Rat)
 | [] => none
 | x :: p => some (p.foldl (fun b y => cond (mgt y.1 b.1) y b) x)
noncomputable def monicE (a : Poly) : Option Poly := match leadE a with
 | none => some []
 | some l => cond (okR l.2 && !qz l.2) (scaleE a (qdiv eone l.2)) none
noncomputable def iat (k : Mon) (i : Nat) : Int := k.getD i 0
noncomputable def longer (i : Nat) (a : Poly) : Bool := a.all fun x => Nat.blt i x.1.length
noncomputable def degE (a : Poly) (i : Nat) : Int := match a with
 | [] => -1
 | x :: p => p.foldl (fun m y => cond (ile (iat y.1 i) m) m (iat y.1 i)) (iat x.1 i)
noncomputable def lastE (a : Poly) : Nat → Option Nat
 | 0 => none
 | n + 1 => cond (ile (degE a n) 0) (lastE a n) (some n)
noncomputable def setAt (k : Mon) (i : Nat) (v : Int) : Mon := k.set i v
noncomputable def byE (a : Poly) (i : Nat) : List Poly :=
 a.foldl (fun rows x => let j := (iat x.1 i).toNat; rows.set j (putE (rows.getD j []) (setAt x.1 i 0) x.2)) (List.replicate (degE a i + 1).toNat [])
noncomputable def fromGo (i : Nat) : Nat → List Poly → Poly → Option Poly
 | _, [], f => some f
 | j, row :: rows, f => match foldO (fun f x => addT f (setAt x.1 i (iat x.1 i + j)) x.2) f row with
   | none => none
   | some f => fromGo i (j + 1) rows f
noncomputable def fromE (rows : List Poly) (i : Nat) : Option Poly := fromGo i 0 rows []
noncomputable def okRow (i : Nat) (rows : List Poly) : Bool := rows.all fun r => okP r && longer i r
noncomputable def widenE (a : Poly) : Poly := a.map fun x => (0 :: x.1, x.2)
noncomputable def narrowE (a : Poly) : Poly := a.foldl (fun f x => putE f (x.1.drop 1) x.2) []
noncomputable abbrev Ld := Option (Mon × Rat)
noncomputable def firstE (k : Mon) : List Ld → Nat → Option Nat
 | [], _ => none
 | none :: l, i => firstE k l (i + 1)
 | some x :: l, i => cond (mdvd x.1 k) (some i) (firstE k l (i + 1))
noncomputable def divE : Nat → Poly → List Poly → List Ld → List Poly → Poly → Option (List Poly × Poly)
 | 0, _, _, _, _, _ => none
 | n + 1, left, so, leads, qs, rest => cond (okP left)
     ((leadE left).elim (some (qs, rest)) fun x => (firstE x.1 leads 0).elim (divE n (delE left x.1) so leads qs (putE rest x.1 x.2)) fun i => (leads.getD i none).bind fun lb =>
       cond (okR lb.2 && !qz lb.2 && !qz x.2)
         ((addT (qs.getD i []) (msub x.1 lb.1) (qdiv x.2 lb.2)).bind fun q => (shiftE (so.getD i []) (msub x.1 lb.1) (qdiv x.2 lb.2)).bind fun sh => (subE left sh).bind fun left' =>
           divE n left' so leads (qs.set i q) rest) none) none
noncomputable def okS (so : List Poly) : Bool := Nat.ble so.length 1000 && so.all okP
noncomputable def okL (m : Nat) (f : Poly) (so : List Poly) : Bool := lenIs m f && so.all (lenIs m)
noncomputable def divideE (f : Poly) (so : List Poly) : Option (List Poly × Poly) :=
 cond (okS so && (okL 2 f so || okL 3 f so)) (divE 100 f so (so.map leadE) (so.map fun _ => []) []) none
noncomputable def exactE (a b : Poly) : Option (Option Poly) := cond b.isEmpty (some none) (match divideE a [b] with
 | none => none
 | some (qs, rest) => some (cond rest.isEmpty (some (qs.getD 0 [])) none))
noncomputable def exactS (a b : Poly) : Option Poly := match exactE a b with
 | some (some q) => some q
 | _ => none
noncomputable def sPolyE (f g : Poly) : Option Poly := (leadE f).bind fun one => (leadE g).bind fun other =>
   cond (Nat.beq one.1.length other.1.length && okR one.2 && okR other.2 && !qz one.2 && !qz other.2)
     ((shiftE f (msub (mmax one.1 other.1) one.1) (qdiv eone one.2)).bind fun a => (shiftE g (msub (mmax one.1 other.1) other.1) (qdiv eone other.2)).bind fun b => subE a b) none
noncomputable def trimN (rows : List Poly) : Nat → Nat
 | 0 => 0
 | m + 1 => cond (rows.getD m []).isEmpty (trimN rows m) (m + 1)
noncomputable def trimE (rows : List Poly) : List Poly := rows.take (trimN rows rows.length)
noncomputable def psGo (top : Poly) : Nat → List Poly → List Poly → Option (List Poly)
 | _, [], sc => some sc
 | j, one :: b, sc => (mulE one top).bind fun m => (addE (sc.getD j []) (negE m)).bind fun r => psGo top (j + 1) b (sc.set j r)
noncomputable def pseudoE : Nat → List Poly → List Poly → Option (List Poly)
 | 0, _, _ => none
 | n + 1, left, b => cond (Nat.ble b.length left.length)
     ((mapO (fun one => mulE one (b.getLastD [])) left).bind fun sc => (psGo (left.getLastD []) (left.length - b.length) b sc).bind fun sc => pseudoE n (trimE sc.dropLast) b)
     (some left)
section
variable (g : Poly → Poly → Option Poly)
noncomputable def contentW (rows : List Poly) : Option Poly := foldO g [] rows
noncomputable def primW (rows : List Poly) : Option (List Poly) := cond rows.isEmpty (some []) ((contentW g rows).bind fun c => mapO (fun row => exactS row c) rows)
noncomputable def rowsLoopW (n : Nat) : Nat → List Poly → List Poly → Option (List Poly)
 | 0, _, _ => none
 | f + 1, one, other => cond (Nat.blt 1 other.length)
     ((pseudoE 8 one other).bind fun p => (primW g p).bind fun p => rowsLoopW n f other p)
     (some (cond other.isEmpty one [[(List.replicate n 0, eone)]]))
noncomputable def rowsGcdW (n : Nat) (a b : List Poly) : Option (List Poly) :=
 cond (Nat.ble b.length a.length) (rowsLoopW g n 8 a b) (rowsLoopW g n 8 b a)
noncomputable def maxL : Option Nat → Option Nat → Option Nat
 | some a, some b => some (cond (Nat.ble a b) b a)
 | some a, none => some a
 | none, b => b
noncomputable def gcdS (n : Nat) (a b : Poly) : Option Poly :=
 cond (okP a && okP b && lenIs n a && lenIs n b)
   (cond (a.isEmpty || b.isEmpty) (monicE (cond a.isEmpty b a))
     ((maxL (lastE a n) (lastE b n)).elim (some [(List.replicate n 0, eone)]) fun i => cond (ieq (degE a i) 0)
         ((contentW g (byE b i)).bind fun c => g a c)
         (cond (ieq (degE b i) 0)
           ((contentW g (byE a i)).bind fun c => g c b)
           ((contentW g (byE a i)).bind fun ca => (contentW g (byE b i)).bind fun cb => (g ca cb).bind fun c => (primW g (byE a i)).bind fun pa => (primW g (byE b i)).bind fun pb =>
             (rowsGcdW g n pa pb).bind fun rows => cond (okRow i rows) ((fromE rows i).bind fun h => (mulE c h).bind fun m => monicE m) none)))) none
end
noncomputable def gcdE (n : Nat) : Nat → Poly → Poly → Option Poly
 | 0, _, _ => none
 | f + 1, a, b => gcdS (gcdE n f) n a b
noncomputable def lcmE (n : Nat) (a b : Poly) : Option Poly := cond (a.isEmpty || b.isEmpty) none (match gcdE n 8 a b with
 | none => none
 | some g => match exactS a g with
   | none => none
   | some q => match mulE q b with
     | none => none
     | some m => monicE m)
noncomputable abbrev Pr := Nat × Nat
noncomputable def preq (a b : Pr) : Bool := Nat.beq a.1 b.1 && Nat.beq a.2 b.2
noncomputable def prlt (a b : Pr) : Bool := Nat.blt a.1 b.1 || (Nat.beq a.1 b.1 && Nat.blt a.2 b.2)
noncomputable def joinP (leads : List Mon) (p : Pr) : Mon := mmax (leads.getD p.1 []) (leads.getD p.2 [])
noncomputable def leastE (leads : List Mon) : List Pr → Option (Pr × Mon) → Option (Pr × Mon)
 | [], b => b
 | p :: w, none => leastE leads w (some (p, joinP leads p))
 | p :: w, some (q, k) => let j := joinP leads p
   leastE leads w (cond (mgt k j || (meq j k && prlt p q)) (some (p, j)) (some (q, k)))
noncomputable def notIn (w : List Pr) (p : Pr) : Bool := !(w.any fun q => preq q p)
noncomputable def prOf (a b : Nat) : Pr := (cond (Nat.ble a b) a b, cond (Nat.ble a b) b a)
noncomputable def needlessGo (p : Pr) (w : List Pr) (j : Mon) : Nat → List Mon → Bool
 | _, [] => false
 | i, k :: l => cond (Nat.beq p.1 i || Nat.beq p.2 i || !(mdvd k j)) (needlessGo p w j (i + 1) l)
     (cond (notIn w (prOf p.1 i) && notIn w (prOf p.2 i)) true (needlessGo p w j (i + 1) l))
noncomputable def needlessE (p : Pr) (w : List Pr) (leads : List Mon) : Bool :=
 cond (mapart (leads.getD p.1 []) (leads.getD p.2 [])) true (needlessGo p w (joinP leads p) 0 leads)
noncomputable def groebE (most : Nat) : Nat → List Poly → List Mon → List Pr → Nat → Option (List Poly)
 | 0, _, _, _, _ => none
 | n + 1, basis, leads, w, done => match leastE leads w none with
   | none => some basis
   | some (p, _) =>
     let w := w.filter fun q => !(preq q p)
     cond (needlessE p w leads) (groebE most n basis leads w done)
       (cond (Nat.blt done most)
         (match sPolyE (basis.getD p.1 []) (basis.getD p.2 []) with
         | none => none
         | some s => match divideE s basis with
           | none => none
           | some (_, rest) => match leadE rest with
             | none => groebE most n basis leads w (done + 1)
             | some l => match monicE rest with
               | none => none
               | some m => groebE most n (basis ++ [m]) (leads ++ [l.1]) (w ++ (List.range basis.length).map fun i => (i, basis.length)) (done + 1)) none)
noncomputable def leadM (p : Poly) : Mon := match leadE p with | some l => l.1 | none => []
noncomputable def minGo (basis : List Poly) (leads : List Mon) : Nat → List Mon → List Poly
 | _, [] => []
 | i, k :: l => cond ((leads.take i ++ (leads.drop (i + 1)).filter fun o => !(meq o k)).any fun o => mdvd o k) (minGo basis leads (i + 1) l) (basis.getD i [] :: minGo basis leads (i + 1) l)
noncomputable def minE (basis : List Poly) : List Poly := minGo basis (basis.map leadM) 0 (basis.map leadM)
noncomputable def redGo : Nat → Nat → List Poly → Option (List Poly)
 | 0, _, found => some found
 | m + 1, i, found => match divideE (found.getD i []) (found.take i ++ found.drop (i + 1)) with
   | none => none
   | some (_, r) => match monicE r with
     | none => none
     | some r => redGo m (i + 1) (found.set i r)
noncomputable def keyedE (found : List Poly) : List KI := found.zipIdx.map fun x => (leadM x.1, (x.2 : Int))
noncomputable def reducedE (basis : List Poly) : Option (List Poly) := match redGo (minE basis).length 0 (minE basis) with
 | none => none
 | some found => cond (found.all fun p => !p.isEmpty) (cond (Nat.blt (keyedE found).length 2) (some found) (cond (sortOk (keyedE found) && Nat.ble (sortP (keyedE found)).length 900) (some ((sortP (keyedE found)).map fun x => found.getD x.2.toNat [])) none)) none
noncomputable def freeE (p : Poly) : Bool := p.all fun x => ieq (x.1.take 1).sum 0
noncomputable def basisE (a b : Poly) : Option (List Poly) := match monicE a, monicE b with
 | some a, some b => match groebE 200 60 [a, b] [leadM a, leadM b] [(0, 1)] 0 with
   | none => none
   | some g => reducedE g
 | _, _ => none
noncomputable def meetE (a b : Poly) : Option (List Poly) := (mulE (widenE a) [([1, 0, 0], eone)]).bind fun f => (mulE (widenE b) [([0, 0, 0], eone), ([1, 0, 0], qint (-1))]).bind fun s =>
 cond (f.isEmpty || s.isEmpty || !(okP a && okP b && okP f && okP s && lenIs 3 f && lenIs 3 s)) none ((basisE f s).bind fun g =>
   cond (Nat.ble g.length 1000 && g.all fun p => okP p && lenIs 3 p) (some ((g.filter freeE).map narrowE)) none)
noncomputable def lineE (i : Nat) (c : Int) : Poly := (cond (Nat.beq i 0) [1, 0] [0, 1], eone) :: cond (ieq c 0) [] [([0, 0], qint c)]
noncomputable def sharedE : List Poly := [[([0, 0], eone)], [([1, 0], eone)], [([0, 1], eone)], [([1, 0], eone), ([0, 0], eone)]]
noncomputable def peqE (p q : Poly) : Bool := Nat.beq p.length q.length && p.all fun x => q.any fun y => meq x.1 y.1 && ieq x.2.num y.2.num && Nat.beq x.2.den y.2.den
noncomputable def oneE : List Poly → Option Poly
 | [m] => some m
 | _ => none
noncomputable def lawC (s i : Nat) (c : Int) (j : Nat) (d : Int) : Bool :=
 (mulE (sharedE.getD s []) (lineE i c)).elim false fun a => (mulE (sharedE.getD s []) (lineE j d)).elim false fun b => (lcmE 2 a b).elim false fun l => ((meetE a b).bind oneE).elim false fun m =>
   peqE m l && ((gcdE 2 8 a b).elim false fun g => (mulE g l).elim false fun u => (mulE a b).elim false fun v => (monicE u).elim false fun u => (monicE v).elim false fun v => peqE u v)
noncomputable def turnsE : Nat → Poly → Poly → Poly → Poly → Bool
 | 0, _, _, _, _ => false
 | n + 1, whole, left, others, top => (subE whole left).elim false fun d => (exactE d others).elim false fun r => r.elim ((mulE whole top).elim false fun w => turnsE n w left others top) fun _ => true
noncomputable def restC (a b : List Poly) : Bool := (pseudoE 8 a b).elim false fun rest => cond (Nat.blt rest.length b.length && (rest.isEmpty || !(rest.getLastD []).isEmpty) && okRow 0 a && okRow 0 b && okRow 0 rest)
   ((fromE a 0).elim false fun whole => (fromE b 0).elim false fun others => (fromE rest 0).elim false fun left => turnsE (a.length + 2 - b.length) whole left others (b.getLastD [])) false
noncomputable def rowE (c d : Int) : Poly := (cond (ieq c 0) [] [([0, 0], qint c)]) ++ (cond (ieq d 0) [] [([0, 1], qint d)])
noncomputable def fixE (p : Poly) : Poly := cond p.isEmpty [([0, 0], qint 2)] p
end Mine
open PySem PySem.W PySem.Calls PyProof.Rows PySem.SeqAt PySem.Challenge
namespace Mine
variable {C : Cx}
noncomputable def fdOf3 (s : Stmt) : Option (Str × Arguments × List Stmt × Scope) := if h : s.ctorIdx = 0 then Stmt.FunctionDef.elim s h fun name args body _ _ _ scope _ _ _ => some (name, args, body, scope) else none
noncomputable def fdOf (s : Stmt) : Option (Str × List Str × List Stmt × Scope) := (fdOf3 s).map fun q => (q.1, q.2.1.args.map (·.arg), q.2.2.1, q.2.2.2)
noncomputable def fdef (i : Nat) : Option (Str × List Str × List Stmt × Scope) := (pw_pf0055_01.main.body[i]?).bind fdOf
noncomputable def biList : List (Str × Value) := [("len", .builtin "len"), ("abs", .builtin "abs"), ("max", .builtin "max"), ("min", .builtin "min"), ("sum", .builtin "sum"), ("all", .builtin "all"),
 ("tuple", .type "tuple"), ("list", .type "list"), ("dict", .type "dict"), ("range", .type "range"), ("enumerate", .type "enumerate")]
structure Tops (C : Cx) : Prop where
 fn : ∀ i x ps body scope, fdef i = some (x, ps, body, scope) → FnAt C x ps body scope
 bi : ∀ x u, (x, u) ∈ biList → GlIs C x (.bi u)
 r0 : GlIs C "R0" (.con (rv ezero))
 r1 : GlIs C "R1" (.con (rv eone))
theorem Tops.f (T : Tops C) (i : Nat) {x} (h : (fdef i).map (·.1) = some x) : GlIs C x .fn := by
 refine ob12 (Option.map_eq_some_iff.mp h) ?_; rintro ⟨_, _, _, _⟩ hf rfl; exact (T.fn i _ _ _ _ hf).isFn
theorem Tops.b (T : Tops C) (i : Nat) {x u} (h : biList[i]? = some (x, u)) : GlIs C x (.bi u) := T.bi _ _ (List.mem_of_getElem? h)
theorem def_ok {n : Nat} {x : Str} {ps : List Str} {body : List Stmt} {scope : Scope} {vs : List V} {σ : Sg} {Q : V → Sg → Prop} {e : Vars} (T : Tops C) (i : Nat) (hF : fdef i = some (x, ps, body, scope)) (hok : okScope scope = true)
   (hI : Init C scope.names ps vs e) (hn : 1 ≤ n) (h : ∀ env, env.scope = scope → SB C (n - 1) env e body σ fun fl _ σ' => match fl with | .ret v => Q v σ' | _ => Q .none σ') : CallOK C n x vs σ Q := by
 obtain ⟨m, rfl⟩ : ∃ m, n = m + 1 := ⟨n - 1, by exact Nat.le_antisymm (li1 (sA n 1)) (li1 (sL (show 1 ≤ n from (li1 hn))))⟩
 exact call_def (T.fn i _ _ _ _ hF) hok hI h
noncomputable def noSlice (x : Expr) : Bool := !(Nat.beq x.ctorIdx 26)
theorem E_subN {n : Nat} {env : Env} {e : Vars} {σ : Sg} {Q : V → Sg → Prop} {value slice pos} (hs : noSlice slice = true) (h : EE C n env e value σ (KArg C n env e slice (subscriptTail value slice) Q)) : EE C n env e (.Subscript value slice pos) σ Q := E_sub h
theorem sz1000 {n : Nat} (h : n ≤ 1000) : n ≤ sizeLine := Nat.le_trans h (by rw [sizeLine_eq]; decide)
theorem rm1 {k K n : Nat} (hn : K ≤ n) (hb : Nat.ble (k + 1) K = true) : k ≤ n - 1 := by have := Nat.le_of_ble_eq_true hb; omega
theorem rm0 {k K n : Nat} (hn : K ≤ n) (hb : Nat.ble k K = true) : k ≤ n := Nat.le_trans (Nat.le_of_ble_eq_true hb) hn
theorem rmd {d k K n : Nat} (hn : d + K ≤ n) (hb : Nat.ble (k + 1) K = true) : d + k ≤ n - 1 := by have := Nat.le_of_ble_eq_true hb; omega
theorem rmd0 {d K n : Nat} (hn : d + K ≤ n) (hb : Nat.ble 1 K = true) : d ≤ n - 1 := by have := Nat.le_of_ble_eq_true hb; omega
theorem rmk {d k K D n : Nat} (hn : d + K ≤ n) (hd : D ≤ d) (hb : Nat.ble (k + 1) (D + K) = true) : k ≤ n - 1 := by have := Nat.le_of_ble_eq_true hb; omega
noncomputable def nth : Vars → Nat → Option (Str × Slot)
 | [], _ => none
 | p :: _, 0 => some p
 | _ :: e, i + 1 => nth e i
noncomputable def set1 : Nat → V → Vars → Vars
 | _, _, [] => []
 | 0, v, (x, _) :: e => (x, .val v) :: e
 | i + 1, v, p :: e => p :: set1 i v e
theorem mem_at {p : Str × Slot} : ∀ {e : Vars} (i : Nat), nth e i = some p → p ∈ e
 | _ :: _, 0, h => by cases h; exact List.mem_cons_self
 | _ :: _, i + 1, h => List.mem_cons_of_mem _ (mem_at i h)
theorem up_at {x : Str} {s : Slot} {v : V} : ∀ {e : Vars} (i : Nat), nth e i = some (x, s) → IsVar s → Up e x v (set1 i v e)
 | _ :: _, 0, h, hs => by cases h; exact Up.var hs
 | _ :: _, i + 1, h, hs => .there (up_at i h hs)
theorem nth_ne {p : Str × Slot} {v : V} : ∀ {e : Vars} {i j : Nat}, nth e j = some p → Nat.beq i j = false → nth (set1 i v e) j = some p
 | [], _, _, h, _ => (nomatch h)
 | _ :: _, 0, 0, _, k => (nomatch k)
 | _ :: _, 0, _ + 1, h, _ => h
 | _ :: _, _ + 1, 0, h, _ => h
 | _ :: _, i + 1, j + 1, h, k => nth_ne (i := i) (j := j) h k
theorem set1_set1 {a b : V} : ∀ {e : Vars} {i j : Nat}, Nat.beq i j = false → set1 i a (set1 j b e) = set1 j b (set1 i a e)
 | [], i, j, _ => by cases i <;> cases j <;> rfl
 | _ :: _, 0, 0, k => (nomatch k)
 | _ :: _, 0, _ + 1, _ => rfl
 | _ :: _, _ + 1, 0, _ => rfl
 | _ :: e, i + 1, j + 1, k => congrArg (_ :: ·) (set1_set1 (e := e) (i := i) (j := j) k)
theorem beq_comm {i j : Nat} (h : Nat.beq i j = false) : Nat.beq j i = false := by
 cases e : Nat.beq j i with
 | false => rfl
 | true => rw [Nat.eq_of_beq_eq_true e, Nat.beq_refl] at h; exact h
theorem two_at {x y : Str} {s t : Slot} {a b : V} {e : Vars} {Q : Fl → Vars → Sg → Prop} {σ : Sg} {i j : Nat} (hi : nth e i = some (x, s)) (hs : IsVar s) (hj : nth e j = some (y, t)) (ht : IsVar t) (hij : Nat.beq i j = false) (q : Q .next (set1 j b (set1 i a e)) σ) : KTwo x y e Q (.tup [a, b]) σ :=
 .mk rfl (up_at i hi hs) (up_at j (nth_ne hj hij) ht) (up_at j hj ht) (set1_set1 hij ▸ up_at i (nth_ne hi (beq_comm hij)) hs) q
theorem asg_at {x : Str} {s : Slot} {v : V} {e : Vars} {Q : Fl → Vars → Sg → Prop} {σ : Sg} (i : Nat) (hi : nth e i = some (x, s)) (hs : IsVar s) (q : Q .next (set1 i v e) σ) : KAsg x e Q v σ := .mk _ (up_at i hi hs) q
theorem E_nm {n : Nat} {env : Env} {e : Vars} {σ : Sg} {x : Str} {pos : Pos} {v : V} {Q : V → Sg → Prop} (i : Nat) (hx : nth e i = some (x, .val v)) (h : Q v σ) : EE C n env e (.Name x pos) σ Q := E_name (mem_at i hx) h
theorem E_cn {n : Nat} {env : Env} {e : Vars} {σ : Sg} {x : Str} {pos : Pos} {v : V} {Q : V → Sg → Prop} (i : Nat) (hx : nth e i = some (x, .con v)) (h : Q v σ) : EE C n env e (.Name x pos) σ Q := E_con (mem_at i hx) h
theorem E_cl {n : Nat} {env : Env} {e : Vars} {σ : Sg} {x : Str} {p pos : Pos} {args : List Expr} {Q : V → Sg → Prop} (i : Nat) (hx : nth e i = some (x, .fn)) (hs : args.all (fun x => !isStarred x) = true) (h : EEs C n env e args σ (KCall C n x Q)) :
   EE C n env e (.Call (.Name x p) args [] pos) σ Q := E_call (mem_at i hx) hs h
theorem E_bf {n : Nat} {env : Env} {e : Vars} {σ : Sg} {x : Str} {id : String} {p pos : Pos} {y : Expr} {ys : List Expr} {Q : V → Sg → Prop} (i : Nat) (hx : nth e i = some (x, .bi (.builtin id))) (hs : (y :: ys).all (fun x => !isStarred x) = true)
   (h : EEs C n env e (y :: ys) σ fun vs σ₁ => Opn C n (fun us => call (.builtin id) us) vs σ₁ Q) : EE C n env e (.Call (.Name x p) (y :: ys) [] pos) σ Q := E_bi (mem_at i hx) hs h
theorem E_tp {n : Nat} {env : Env} {e : Vars} {σ : Sg} {x : Str} {T : String} {p pos : Pos} {y : Expr} {ys : List Expr} {Q : V → Sg → Prop} (i : Nat) (hx : nth e i = some (x, .bi (.type T))) (hs : (y :: ys).all (fun x => !isStarred x) = true)
   (h : EEs C n env e (y :: ys) σ fun vs σ₁ => Opn C n (fun us => call (.type T) us) vs σ₁ Q) : EE C n env e (.Call (.Name x p) (y :: ys) [] pos) σ Q := E_ty (mem_at i hx) hs h
theorem sz1 {n : Nat} (h : Nat.ble n 1000 = true) : n ≤ sizeLine := sz1000 (Nat.le_of_ble_eq_true h)
theorem szand {n : Nat} {q : Prop} (h : n ≤ sizeLine) (k : q) : n ≤ sizeLine ∧ q := ⟨h, k⟩
theorem I_tpn {n : Nat} {σ : Sg} {Q : V → Sg → Prop} {x : V} {xs : List V} {i : Int} {j : Nat} {v : V} {value slice : Expr} (hb : Nat.blt i.natAbs 1000 = true) (hx : x = .tup xs) (hj : seqIndex? i xs.length = some j) (hv : xs[j]? = some v)
   (hs : ∀ a t, subscripted slice false (.ref a) (.int i t) = operate [.ref a, .int i t] (getItem (.ref a) (.int i t))) (h : Q v σ) : Op2 C n (subscriptTail value slice) x (.int i) σ Q := by
 have := Nat.le_of_ble_eq_true hb
 rw [hx]
 exact I_tup (Int.le_trans (b := -1000) (by decide) (by omega)) (Int.lt_of_lt_of_le (b := 1000) (by omega) (by decide)) hj hv h hs
abbrev WT := Lean.MacroM (Lean.TSyntax `tactic)
def wF (s : String) (f : Lean.Term → WT) : WT := do
 let xs ← (s.splitOn ",").mapM fun x => f (if x.isNat then ⟨Lean.Syntax.mkNumLit x⟩ else Lean.mkIdent (`Mine ++ x.toName))
 `(tactic| first $[| $(xs.toArray):tactic]*)
def wAt : WT := wF "0,1,2,3,4,5,6,7,8,9,10,11,12,13,14,15,16,17,18,19,20,21,22,23" fun a => `(tactic| exact (rfl : nth _ $a = _))
def wIv : WT := `(tactic| first | assumption | exact IsVar.val | exact IsVar.un)
def wAp (x : Lean.Term) (a b : Lean.TSyntax `tactic) : WT := `(tactic| (apply $x; $a; $b))
def wW : WT := do
 let t ← wAt
 let a ← wF "S_cons,S_ret,S_if,E_int,E_str,E_bool,E_none,E_bin,E_tuple,E_ifexp,Es_nil,O_add,O_sub,O_isub,O_iadd,O_eq,O_ne,O_lt,O_le,O_gt,O_ge,B_abs,E_negc,T_not,T_or,T_and,T_or3,T_call,S_nil" fun a => `(tactic| refine $a ?_)
 let b ← wF "S_assign,E_subN,Es_cons,T_cmp,E_cmp" fun a => `(tactic| refine $a ?_ ?_)
 let c ← wF "E_nm,E_cn" fun a => `(tactic| ((with_reducible apply $a); $t))
 let d ← wF "E_cl,E_bf,E_tp" fun a => `(tactic| ((with_reducible apply $a); $t; rfl))
 let e ← wF "KTup.mk,KLst.mk,szand" fun a => `(tactic| ((with_reducible apply $a); exact sz1 rfl))
 `(tactic| first | with_reducible $a:tactic | ((with_reducible $b:tactic); rfl) | $c:tactic | $d:tactic | $e:tactic | ((with_reducible apply I_tpn); rfl; exact rfl; exact rfl; exact rfl; exact fun _ _ => rfl))
theorem kd_of {env : Env} {sc : Scope} (h : env.scope = sc) {y k} (e : sc.names.lookup y = k) : env.kindOf y = k := by rw [← e, ← h]; rfl
theorem ki_of {env : Env} {sc : Scope} (h : env.scope = sc) (e : (sc.kind == .module && sc.more.any fun x => x.1 == ("interactive" : Str)) = false) : interactive env = false := by rw [← e, ← h]; rfl
theorem sw_of {env : Env} {sc : Scope} (h : env.scope = sc) {elt gens t p line b} {s : Scope} {pos : Pos} (e : ((if sc.kind.isAnnotationScope then .function else sc.kind) == ScopeKind.function && sc.names.lookup t == some .local && p.line == pos.line && !(s.names.any fun x => x.1 == t && (x.2 == .local || x.2 == .cell))) = b) :
   swapsWith (.ListComp elt gens s pos) (some (.Name t p)) line env = pure b := by rw [← e, ← h]; rfl
theorem sub_rfl {a : Addr} {v : V} : ∀ {e : Vars}, Sub a v e e
 | [] => .nil
 | _ :: _ => .same sub_rfl
theorem sub_at {a : Addr} {v : V} {x : Str} : ∀ {e : Vars} (i : Nat), nth e i = some (x, .val (.ref a)) → Sub a v e (set1 i v e)
 | _ :: _, 0, h => by cases h; exact .hit sub_rfl
 | _ :: _, i + 1, h => .same (sub_at i h)
end Mine
namespace Mine
variable {C : Cx}
local macro_rules | `(tactic| walk_at "mem") => do `(tactic| (apply mem_at; $(← wAt):tactic))
local macro_rules | `(tactic| walk_at "up") => do wAp (← `(up_at)) (← wAt) (← wIv)
local macro_rules | `(tactic| walk_at "ownsub") => do `(tactic| (apply sub_at; $(← wAt):tactic))
local macro_rules | `(tactic| walk_at "w") => wW
local macro_rules | `(tactic| walk_at "ws") => do `(tactic| repeat $(← wW):tactic)
local macro_rules | `(tactic| walk_at "up2") => do
 let a ← wAt
 let b ← wIv
 `(tactic| (apply two_at; $a; $b; $a; $b; rfl))
local macro_rules | `(tactic| walk_at "up1") => do wAp (← `(asg_at)) (← wAt) (← wIv)
local macro_rules | `(tactic| walk_at "om") => do
 let a ← wF "rm1,rm0,rmd,rmd0" fun a => `(tactic| ((with_reducible apply $a); assumption; exact rfl))
 `(tactic| first | assumption | $a:tactic | ((with_reducible apply rmk); assumption; assumption; exact rfl) | omega)
theorem ifn {α : Type} {P : α → Prop} {c : Prop} [Decidable c] {X Y : α} (h1 : c → P X) (h2 : ¬ c → P Y) : P (ite c X Y) := by
 by_cases h : c
 · rw [if_pos h]; exact h1 h
 · rw [if_neg h]; exact h2 h
theorem fm2 {α β : Type} {f : α → Option β} {x y : α} {a b : β} (hx : f x = none ∨ f x = some a) (hy : f y = none ∨ f y = some b) (h : ([x, y].filterMap f).length = 2) : [x, y].filterMap f = [a, b] := by
 rcases hx with e | e
 · have := List.length_filterMap_le f [y]
   rw [List.filterMap_cons_none e] at h
   rw [h] at this; exact absurd this (Nat.not_succ_le_self 1)
 · rw [List.filterMap_cons_some e] at h ⊢
   rcases hy with q | q
   · rw [List.filterMap_cons_none q] at h; exact (nomatch h)
   · rw [List.filterMap_cons_some q]; rfl
theorem sw2 {x : Str} {px : Pos} {y : Str} {py : Pos} {k : Nat} {tp : Pos} {vs : List Expr} {k2 : Nat} {vp : Pos} {env : Env} (h : (vs.all (foldedForSure 8) || !vs.all (constantsAlone 8)) = true) :
   swappedStores [.Tuple [.Name x px, .Name y py] k tp] (.Tuple vs k2 vp) env = pure none ∨ swappedStores [.Tuple [.Name x px, .Name y py] k tp] (.Tuple vs k2 vp) env = pure (some [x, y]) := by
 unfold swappedStores
 dsimp only
 refine ifn (P := fun t => t = pure none ∨ t = pure (some [x, y])) (fun _ => .inl rfl) fun _ => ?_
 refine ifn (P := fun t => t = pure none ∨ t = pure (some [x, y])) (fun _ => .inl rfl) fun _ => ?_
 refine ifn (P := fun t => t = pure none ∨ t = pure (some [x, y])) (fun _ => .inl rfl) fun hn => ?_
 refine ifn (P := fun t => t = pure none ∨ t = pure (some [x, y])) (fun _ => .inl rfl) fun h1 => ?_
 refine ifn (P := fun t => t = pure none ∨ t = pure (some [x, y])) (fun h2 => ?_) fun _ => ?_
 · rw [Bool.eq_false_iff.mpr h1, h2] at h; cases h
 refine .inr (congrArg (fun l => pure (some l)) (fm2 (a := x) (b := y) ?_ ?_ ?_))
 · exact ifn (P := fun t => t = none ∨ t = some x) (fun _ => .inr rfl) fun _ => .inl rfl
 · exact ifn (P := fun t => t = none ∨ t = some y) (fun _ => .inr rfl) fun _ => .inl rfl
 · rw [Bool.or_eq_true, not_or] at hn
   exact Decidable.of_not_not fun hh => hn.1 (bne_iff_ne.mpr hh)
theorem szl {n : Nat} (h : Nat.ble n 1000 = true) : n ≤ sizeLine := Nat.le_trans (Nat.le_of_ble_eq_true h) (by rw [sizeLine_eq]; decide)
theorem S_two {n : Nat} {env : Env} {e : Vars} {σ : Sg} {x px y py k tp vs k2 vp pos} {Q : Fl → Vars → Sg → Prop} (hw : (vs.all (foldedForSure 8) || !vs.all (constantsAlone 8)) = true)
   (h : EEs C n env e vs σ fun us => KTwo x y e Q (.tup us)) :
   SS C n env e (.Assign [.Tuple [.Name x px, .Name y py] k tp] (.Tuple vs k2 vp) pos) σ Q :=
 S_assign2 rfl (sw2 hw) (E_tuple fun A g s pos R S F => wpAny_mono (h A g s pos R S F) (fun us s' h => by
   obtain ⟨g', vs, σ', X, S', V, r⟩ := h
   exact ⟨g', vs, σ', X, S', V, by obtain ⟨hv, _⟩ := r; rw [Mine.V.tup.inj hv]; exact szl rfl, r⟩) fun _ _ x => x)
theorem S_twoIf {n : Nat} {env : Env} {e : Vars} {σ : Sg} {x px y py k tp t b o vp pos} {Q : Fl → Vars → Sg → Prop}
   (h : EE C n env e (.IfExp t b o vp) σ (KTwo x y e Q)) :
   SS C n env e (.Assign [.Tuple [.Name x px, .Name y py] k tp] (.IfExp t b o vp) pos) σ Q := S_assign2 rfl (.inl rfl) h
theorem S_twoCall {n : Nat} {env : Env} {e : Vars} {σ : Sg} {x px y py k tp f as ks vp pos} {Q : Fl → Vars → Sg → Prop}
   (h : EE C n env e (.Call f as ks vp) σ (KTwo x y e Q)) :
   SS C n env e (.Assign [.Tuple [.Name x px, .Name y py] k tp] (.Call f as ks vp) pos) σ Q := S_assign2 rfl (.inl rfl) h
theorem S_twoName {n : Nat} {env : Env} {e : Vars} {σ : Sg} {x px y py k tp z vp pos} {Q : Fl → Vars → Sg → Prop}
   (h : EE C n env e (.Name z vp) σ (KTwo x y e Q)) :
   SS C n env e (.Assign [.Tuple [.Name x px, .Name y py] k tp] (.Name z vp) pos) σ Q := S_assign2 rfl (.inl rfl) h
theorem fmod_nat (x y : Nat) : ((x : Int)).fmod (y : Int) = ((x % y : Nat) : Int) := by
 rw [Int.fmod_eq_emod_of_nonneg _ (Int.natCast_nonneg y)]; simp
theorem gcd_ok (T : Tops C) {n : Nat} {a b : Int} {σ : Sg} {Q : V → Sg → Prop} (hn : 1 ≤ n) (h : Q (.int (Int.gcd a b : Nat)) σ) : CallOK C n "gcd" [.int a, .int b] σ Q := by
 refine def_ok T 11 rfl (by decide +kernel) (.parL (.parL (.bi (T.b 1 rfl) .nil))) hn fun env henv => ?_
 walk_at "w"
 refine S_two rfl ?_
 walk_at "ws"
 have e : ∀ x : Int, (if x < 0 then -x else x) = (x.natAbs : Int) := fun x => by split <;> omega
 rw [e, e]
 walk_at "up2"
 walk_at "w"
 refine S_while (fun k e' σ' => ∃ x y : Nat, e' = ([("a", .val (.int x)), ("b", .val (.int y)), ("abs", .bi (.builtin "abs"))] : Vars) ∧ σ' = σ ∧ k = y ∧ Nat.gcd x y = Int.gcd a b) ?_ b.natAbs (mx24 _ _ rfl rfl rfl rfl)
 rintro y e' σ' z1; refine ob24 z1 ?_; clear z1; rintro x _ rfl rfl rfl hg
 walk_at "ws"
 refine ⟨_, rfl, fun hc => ?_, fun hc => ?_⟩
 · have hy : y ≠ 0 := fun z => by subst z; exact absurd hc (by decide)
   walk_at "w"
   refine S_two rfl ?_
   walk_at "ws"
   refine O_mod (by exact Int.ne_of_gt (il1 (cN (n0 hy)))) ?_
   walk_at "ws"
   walk_at "up2"
   walk_at "ws"
   rw [fmod_nat]
   refine ⟨x % y, Nat.mod_lt _ (by exact li1 (n0 hy)), y, x % y, rfl, rfl, rfl, ?_⟩
   rw [← hg, Nat.gcd_comm x y, Nat.gcd_rec y x, Nat.gcd_comm]
 · have hy : y = 0 := by
     by_cases z : y = 0
     · exact z
     · exfalso
       have : ((y : Int) != 0) = true := by simpa using z
       rw [this] at hc; cases hc
   subst hy
   walk_at "ws"
   rw [Nat.gcd_zero_right] at hg
   rw [hg]
   exact h
theorem rat_parts {t b g : Int} (hb : b ≠ 0) (hg : g = if b > 0 then (Int.gcd t b : Int) else 0 - (Int.gcd t b : Int)) : rv (Rat.divInt t b) = .tup [.int (t.fdiv g), .int (b.fdiv g)] := by
 unfold rv
 rw [Rat.num_divInt, Rat.den_divInt, if_neg hb, Int.gcd_comm b t]
 have hp : 0 < Int.gcd t b := Nat.pos_of_ne_zero fun z => hb (Int.gcd_eq_zero_iff.mp z).2
 refine ob11 (Int.gcd_dvd_left (a := t) (b := b)) ?_; rintro k hk
 refine ob11 (Int.gcd_dvd_right (a := t) (b := b)) ?_; rintro l hl
 generalize hd : Int.gcd t b = d at *
 have hd0 : (d : Int) ≠ 0 := by exact Int.ne_of_gt (il1 (cL hp))
 have e1 : b.natAbs / d = l.natAbs := by rw [hl, Int.natAbs_mul]; simp [hp]
 rw [e1]
 by_cases hs : b > 0
 · rw [if_pos hs] at hg
   subst hg
   have hl0 : 0 < l := by
     rcases Int.lt_trichotomy l 0 with z | z | z
     · have := Int.mul_neg_of_pos_of_neg (show (0 : Int) < d by exact il1 (cL hp)) z; exact jF (il3 (iL hl) hs this)
     · rw [z] at hl; exact jF (il2 (iL hl) hs)
     · exact z
   have f1 : t.fdiv d = k := by rw [hk]; exact Int.mul_fdiv_cancel_left _ hd0
   have f2 : b.fdiv d = l := by rw [hl]; exact Int.mul_fdiv_cancel_left _ hd0
   rw [f1, f2, Int.sign_eq_one_of_pos hs, Int.one_mul]
   have f3 : t / (d : Int) = k := by rw [hk]; exact Int.mul_ediv_cancel_left _ hd0
   rw [f3]
   have : (l.natAbs : Int) = l := by omega
   rw [this]
 · rw [if_neg hs] at hg
   subst hg
   have hl0 : l < 0 := by
     rcases Int.lt_trichotomy l 0 with z | z | z
     · exact z
     · rw [z] at hl; omega
     · have := Int.mul_pos (show (0 : Int) < d by exact il1 (cL hp)) z; exact jF (il3 (iG hl) (jG hs) this)
   have f1 : t.fdiv (0 - d) = -k := by
     have : t = (0 - (d : Int)) * -k := by rw [hk, Int.zero_sub, Int.neg_mul_neg]
     rw [this]; exact Int.mul_fdiv_cancel_left _ (by exact Int.ne_of_lt (il1 (cL hp)))
   have f2 : b.fdiv (0 - d) = -l := by
     have : b = (0 - (d : Int)) * -l := by rw [hl, Int.zero_sub, Int.neg_mul_neg]
     rw [this]; exact Int.mul_fdiv_cancel_left _ (by exact Int.ne_of_lt (il1 (cL hp)))
   have hbn : b < 0 := by omega
   rw [f1, f2, Int.sign_eq_neg_one_of_neg hbn]
   have f3 : -1 * t / (d : Int) = -k := by
     have : -1 * t = d * -k := by rw [hk]; simp [Int.mul_neg]
     rw [this]; exact Int.mul_ediv_cancel_left _ hd0
   rw [f3]
   have : (l.natAbs : Int) = -l := by omega
   rw [this]
theorem log_lt {g : Nat} (h : g < 2 ^ 130) : g.log2 < 9000 := by
 by_cases z : g = 0
 · subst z; decide
 · have := (Nat.log2_lt z).mpr h; exact li1 this
theorem rat_ok (T : Tops C) {n : Nat} {t b : Int} {σ : Sg} {Q : V → Sg → Prop} (hn : 2 ≤ n) (hb : b ≠ 0) (hl : b.natAbs < 2 ^ 130) (h : Q (rv (Rat.divInt t b)) σ) : CallOK C n "rat" [.int t, .int b] σ Q := by
 refine def_ok T 15 rfl (by decide +kernel) (.parL (.parL (.locL (.skip (.skip (.fn (T.f 11 rfl) .nil)))))) (by walk_at "om") fun env henv => ?_
 walk_at "ws"
 refine ⟨_, rfl, fun hc => absurd hc (by simpa using hb), fun hc => ?_⟩
 walk_at "ws"
 have hp : 0 < Int.gcd t b := Nat.pos_of_ne_zero fun z => hb (Int.gcd_eq_zero_iff.mp z).2
 have hle : Int.gcd t b ≤ b.natAbs := Nat.le_of_dvd (by walk_at "om") (by
   have := Int.gcd_dvd_right (a := t) (b := b); exact Int.ofNat_dvd_left.mp this)
 refine ⟨_, rfl, fun hs => ?_, fun hs => ?_⟩
 all_goals
   walk_at "ws"
   refine gcd_ok T (by walk_at "om") ?_
   walk_at "ws"
   walk_at "up1"
   walk_at "ws"
   refine O_div (by walk_at "om") (log_lt (by walk_at "om")) ?_
   walk_at "ws"
   refine O_div (by walk_at "om") (log_lt (by walk_at "om")) ?_
   walk_at "ws"
   rw [rat_parts hb rfl] at h
   first
     | rw [if_pos (by simpa using hs)] at h
     | rw [if_neg (by simpa using hs)] at h
   exact h
theorem qint_eq (n : Int) : qint n = (n : Rat) := rfl
theorem den1 {a b : Rat} (h : (Nat.beq a.den 1 && Nat.beq b.den 1) = true) : a = (a.num : Rat) ∧ b = (b.num : Rat) := by
 rw [Bool.and_eq_true] at h
 have h1 := Nat.eq_of_beq_eq_true h.1
 have h2 := Nat.eq_of_beq_eq_true h.2
 exact ⟨Rat.ext rfl h1, Rat.ext rfl h2⟩
theorem qadd_eq (a b : Rat) : qadd a b = a + b := by
 unfold qadd
 cases h : (Nat.beq a.den 1 && Nat.beq b.den 1) with
 | false => rfl
 | true =>
   refine ob02 (den1 h) ?_; rintro h1 h2
   show qint _ = _
   rw [qint_eq, Rat.intCast_add, ← h1, ← h2]
theorem qmul_eq (a b : Rat) : qmul a b = a * b := by
 unfold qmul
 cases h : (Nat.beq a.den 1 && Nat.beq b.den 1) with
 | false => rfl
 | true =>
   refine ob02 (den1 h) ?_; rintro h1 h2
   show qint _ = _
   rw [qint_eq, Rat.intCast_mul, ← h1, ← h2]
theorem ieq_eq (a b : Int) : ieq a b = decide (a = b) := by
 cases a with
 | ofNat m =>
   cases b with
   | ofNat n =>
     show Nat.beq m n = _
     rw [Bool.eq_iff_iff, Nat.beq_eq, decide_eq_true_iff]; exact ⟨fun h => h ▸ rfl, Int.ofNat.inj⟩
   | negSucc n => exact (decide_eq_false nofun).symm
 | negSucc m =>
   cases b with
   | ofNat n => exact (decide_eq_false nofun).symm
   | negSucc n =>
     show Nat.beq m n = _
     rw [Bool.eq_iff_iff, Nat.beq_eq, decide_eq_true_iff]; exact ⟨fun h => h ▸ rfl, Int.negSucc.inj⟩
theorem ile_eq (a b : Int) : ile a b = decide (a ≤ b) := by
 cases a with
 | ofNat m =>
   cases b with
   | ofNat n =>
     show Nat.ble m n = _
     rw [Bool.eq_iff_iff, Nat.ble_eq, decide_eq_true_iff]; exact Int.ofNat_le.symm
   | negSucc n => exact (decide_eq_false fun h => absurd (Int.le_trans (Int.natCast_nonneg m) h) (Int.not_le.mpr (Int.negSucc_lt_zero n))).symm
 | negSucc m =>
   cases b with
   | ofNat n => exact (decide_eq_true (Int.le_trans (Int.le_of_lt (Int.negSucc_lt_zero m)) (Int.natCast_nonneg n))).symm
   | negSucc n =>
     show Nat.ble n m = _
     rw [Bool.eq_iff_iff, Nat.ble_eq, decide_eq_true_iff]; omega
theorem qz_eq (a : Rat) : qz a = decide (a = 0) := by
 unfold qz
 rw [ieq_eq, decide_eq_decide]
 exact Rat.num_eq_zero
theorem qdiv_eq (a b : Rat) : qdiv a b = a / b := by
 unfold qdiv
 cases h : (ieq b.num 1 && Nat.beq b.den 1) with
 | false => rfl
 | true =>
   rw [Bool.and_eq_true, ieq_eq] at h
   have : b = 1 := Rat.ext (of_decide_eq_true h.1) (Nat.eq_of_beq_eq_true h.2)
   show a = a / b
   rw [this, Rat.div_def]
   have : (1 : Rat)⁻¹ = 1 := by decide +kernel
   rw [this, Rat.mul_one]
theorem ezero_eq : ezero = 0 := rfl
theorem eone_eq : eone = 1 := rfl
theorem okD_lt {a : Rat} (h : okD a = true) : a.den < 2 ^ 62 := by unfold okD at h; rwa [Nat.blt_eq] at h
theorem okR_lt {a : Rat} (h : okR a = true) : a.num.natAbs < 2 ^ 62 ∧ a.den < 2 ^ 62 := by unfold okR at h; rwa [Bool.and_eq_true, Nat.blt_eq, Nat.blt_eq] at h
theorem short_den {a : Rat} (h : a.den < 2 ^ 62) : Short (a.den : Int) := by unfold Short; exact ⟨(il1 (c0 a.den)), (il1 (cL h))⟩
theorem short_num {a : Rat} (h : a.num.natAbs < 2 ^ 62) : Short a.num := by unfold Short; omega
theorem den_ne (a : Rat) : (a.den : Int) ≠ 0 := by have := a.den_nz; exact Int.ne_of_gt (il1 (cN (n0 this)))
theorem mul_lt_130 {a b : Nat} (ha : a < 2 ^ 62) (hb : b < 2 ^ 62) : a * b < 2 ^ 130 :=
 Nat.lt_of_le_of_lt (Nat.mul_le_mul (Nat.le_of_lt ha) (Nat.le_of_lt hb)) (by decide)
theorem radd_ok (T : Tops C) {n : Nat} {a b : Rat} {σ : Sg} {Q : V → Sg → Prop} (hn : 3 ≤ n) (ha : okD a = true) (hb : okD b = true) (h : Q (rv (a + b)) σ) : CallOK C n "radd" [rv a, rv b] σ Q := by
 have ha := okD_lt ha
 have hb := okD_lt hb
 refine def_ok T 16 rfl (by decide +kernel) (.parL (.parL (.fn (T.f 15 rfl) .nil))) (by walk_at "om") fun env henv => ?_
 walk_at "ws"
 refine O_mul (.inr (short_den hb)) ?_
 walk_at "ws"
 refine O_mul (.inr (short_den ha)) ?_
 walk_at "ws"
 refine O_mul (.inr (short_den hb)) ?_
 walk_at "ws"
 refine rat_ok T (by walk_at "om") (Int.mul_ne_zero (den_ne a) (den_ne b)) (by rw [Int.natAbs_mul]; exact mul_lt_130 ha hb) ?_
 have e := Rat.divInt_add_divInt a.num b.num (den_ne a) (den_ne b)
 rw [Rat.num_divInt_den, Rat.num_divInt_den] at e
 rw [e] at h
 exact h
theorem rmul_ok (T : Tops C) {n : Nat} {a b : Rat} {σ : Sg} {Q : V → Sg → Prop} (hn : 3 ≤ n) (ha : okR a = true) (hb : okR b = true) (h : Q (rv (a * b)) σ) : CallOK C n "rmul" [rv a, rv b] σ Q := by
 have ha := okR_lt ha
 have hb := okR_lt hb
 refine def_ok T 17 rfl (by decide +kernel) (.parL (.parL (.fn (T.f 15 rfl) .nil))) (by walk_at "om") fun env henv => ?_
 walk_at "ws"
 refine O_mul (.inr (short_num hb.1)) ?_
 walk_at "ws"
 refine O_mul (.inr (short_den hb.2)) ?_
 walk_at "ws"
 refine rat_ok T (by walk_at "om") (Int.mul_ne_zero (den_ne a) (den_ne b)) (by rw [Int.natAbs_mul]; exact mul_lt_130 ha.2 hb.2) ?_
 have e := Rat.divInt_mul_divInt a.num b.num (d₁ := a.den) (d₂ := b.den)
 rw [Rat.num_divInt_den, Rat.num_divInt_den] at e
 rw [e] at h
 exact h
theorem num_ne {b : Rat} (h : b ≠ 0) : b.num ≠ 0 := fun z => h (Rat.num_eq_zero.mp z)
theorem rdiv_ok (T : Tops C) {n : Nat} {a b : Rat} {σ : Sg} {Q : V → Sg → Prop} (hn : 3 ≤ n) (ha : okR a = true) (hb : okR b = true) (hz : b ≠ 0) (h : Q (rv (a / b)) σ) : CallOK C n "rdiv" [rv a, rv b] σ Q := by
 have ha := okR_lt ha
 have hb := okR_lt hb
 refine def_ok T 18 rfl (by decide +kernel) (.parL (.parL (.fn (T.f 15 rfl) .nil))) (by walk_at "om") fun env henv => ?_
 walk_at "ws"
 refine O_mul (.inr (short_den hb.2)) ?_
 walk_at "ws"
 refine O_mul (.inr (short_num hb.1)) ?_
 walk_at "ws"
 refine rat_ok T (by walk_at "om") (Int.mul_ne_zero (den_ne a) (num_ne hz)) (by rw [Int.natAbs_mul]; exact mul_lt_130 ha.2 hb.1) ?_
 have e := Rat.divInt_mul_divInt a.num b.den (d₁ := a.den) (d₂ := b.num)
 rw [Rat.num_divInt_den, ← Rat.inv_def, ← Rat.div_def] at e
 rw [e] at h
 exact h
theorem rneg_ok (T : Tops C) {n : Nat} {a : Rat} {σ : Sg} {Q : V → Sg → Prop} (hn : 1 ≤ n) (h : Q (rv (-a)) σ) : CallOK C n "rneg" [rv a] σ Q := by
 refine def_ok T 19 rfl (by decide +kernel) (.parL .nil) hn fun env henv => ?_
 walk_at "ws"
 have : rv (-a) = .tup [.int (0 - a.num), .int a.den] := by simp [rv]
 rw [this] at h; exact h
theorem rinv_ok (T : Tops C) {n : Nat} {a : Rat} {σ : Sg} {Q : V → Sg → Prop} (hn : 3 ≤ n) (ha : okR a = true) (hz : a ≠ 0) (h : Q (rv (1 / a)) σ) : CallOK C n "rinv" [rv a] σ Q := by
 have ha := okR_lt ha
 refine def_ok T 20 rfl (by decide +kernel) (.parL (.fn (T.f 15 rfl) .nil)) (by walk_at "om") fun env henv => ?_
 walk_at "ws"
 refine rat_ok T (by walk_at "om") (num_ne hz) (Nat.lt_trans ha.1 (by decide)) ?_
 rw [Rat.div_def, Rat.one_mul, Rat.inv_def] at h
 exact h
/-! powers -/
theorem lex_eq : (("lex" : Str).cps.toList == ("lex" : Str).cps.toList) = true := by decide +kernel
theorem order_ok (T : Tops C) {n : Nat} {k : V} {σ : Sg} {Q : V → Sg → Prop} (hn : 1 ≤ n) (h : Q k σ) : CallOK C n "order_key" [.str "lex", k] σ Q := by
 refine def_ok T 3 rfl (by decide +kernel) (.parL (.parL (.skip (.skip (.skip .nil))))) (by walk_at "om") fun env henv => ?_
 walk_at "ws"
 refine O_eqS ⟨_, rfl, fun _ => ?_, fun hc => ?_⟩
 · walk_at "ws"
   exact h
 · rw [lex_eq] at hc; (exfalso; cases hc)
section
variable {n : Nat} {env : Env} {e ec : Vars} {σ : Sg}
theorem IE.mono {target x : Expr} {K K' : List V → List Addr → Sg → Prop} (h : IE C n env e target x σ K) (k : ∀ xs own σ', K xs own σ' → K' xs own σ') : IE C n env e target x σ K' := fun A g s R S F =>
 wpAny_mono (h A g s R S F) (fun u s₁ h₁ => wpAny_mono h₁ (fun it s₂ h => ob77 h fun xs own g₂ σ₂ fp wr St a1 a2 a3 a4 a5 a6 a7 => mx77 xs own g₂ σ₂ fp wr St a1 a2 a3 a4 a5 a6 (k _ _ _ a7)) fun _ _ x => x) fun _ _ x => x
theorem ListL.mono {target : Expr} {ifs : List Expr} {elt : Expr} {own : List Addr} {K K' : List V → Sg → Prop} (k : ∀ a σ', K a σ' → K' a σ') {xs acc : List V} (h : ListL C n env target ifs elt own K xs acc e σ) : ListL C n env target ifs elt own K' xs acc e σ := by
 induction xs generalizing acc e σ with
 | nil => exact k _ _ h
 | cons x xs ih =>
   refine ob12 h ?_; clear h; rintro e₁ hB hT
   exact mx12 e₁ hB (hT.mono fun b σ₁ h => ⟨fun hb => EV.mono (h.1 hb) fun v σ₂ h => mx03 h.1 h.2.1 (ih h.2.2), fun hb => ⟨(h.2 hb).1, ih (h.2 hb).2⟩⟩)
theorem DictL.mono {target : Expr} {ifs : List Expr} {kx vx : Expr} {own : List Addr} {K K' : Poly → Sg → Prop} (k : ∀ a σ', K a σ' → K' a σ') {xs : List V} {acc : Poly} (h : DictL C n env target ifs kx vx own K xs acc e σ) : DictL C n env target ifs kx vx own K' xs acc e σ := by
 induction xs generalizing acc e σ with
 | nil => exact k _ _ h
 | cons x xs ih =>
   refine ob12 h ?_; clear h; rintro e₁ hB hT
   exact mx12 e₁ hB (hT.mono fun b σ₁ h => ⟨fun hb => EV.mono (h.1 hb) fun v σ₂ h => ob12 h fun ks a hv => mx12 ks a (EV.mono hv fun w σ₃ h => ob14 h fun r b c d f => mx14 r b c d (ih f)), fun hb => ⟨(h.2 hb).1, ih (h.2 hb).2⟩⟩)
theorem E_listcompF {elt target iter : Expr} {ifs : List Expr} {scope : Scope} {pos : Pos} {Q : V → Sg → Prop} (hs : ∀ x, foldedSetIterable iter env x = pure x) (hk : scope.kind = .function) (nd : (scope.names.map (·.1)).Nodup)
   (hdb : (scope.names.all fun x => !(x.1 == ("__debug__" : Str))) = true) (hloc : (tnames target).all (fun x => scope.names.lookup x == some .local) = true) (hI : InitC C env e scope.names ec)
   (h : IE C n env e target iter σ fun xs own σ₁ => ∀ cenv : Env, ListL C n cenv target ifs elt own (fun acc σ' => Q (.lst acc) σ') xs [] ec σ₁) :
   EE C n env e (.ListComp elt [⟨target, iter, ifs, 0⟩] scope pos) σ Q :=
 EV.frz (E_listcomp hs hk nd hdb hloc hI (h.mono fun xs own σ' hl cenv => (hl cenv).mono fun acc σ'' q D o hD => .inr (mx33 D _ _ rfl (upd_same ..) (by rw [del_upd _ _ hD]; exact q))))
theorem E_dictcompF {kx vx target iter : Expr} {ifs : List Expr} {scope : Scope} {pos : Pos} {Q : V → Sg → Prop} (hs : ∀ x, foldedSetIterable iter env x = pure x) (hk : scope.kind = .function) (nd : (scope.names.map (·.1)).Nodup)
   (hdb : (scope.names.all fun x => !(x.1 == ("__debug__" : Str))) = true) (hloc : (tnames target).all (fun x => scope.names.lookup x == some .local) = true) (hI : InitC C env e scope.names ec)
   (h : IE C n env e target iter σ fun xs own σ₁ => ∀ cenv : Env, DictL C n cenv target ifs kx vx own (fun acc σ' => Q (.dct acc) σ') xs [] ec σ₁) :
   EE C n env e (.DictComp kx vx [⟨target, iter, ifs, 0⟩] scope pos) σ Q :=
 EV.frz (E_dictcomp hs hk nd hdb hloc hI (h.mono fun xs own σ' hl cenv => (hl cenv).mono fun acc σ'' q D o hD => .inr (mx33 D _ _ rfl (upd_same ..) (by rw [del_upd _ _ hD]; exact q))))
end
theorem enumV_map {α : Type} (f : α → V) (xs : List α) : enumV (xs.map f) = xs.zipIdx.map fun p => .tup [.int p.2, f p.1] := by
 simp only [enumV, List.zipIdx_map, List.map_map]
 rfl
theorem ListL_enum {n : Nat} {env : Env} {e : Vars} {σ : Sg} {target : Expr} {elt : Expr} {own : List Addr} {K : List V → Sg → Prop} {α : Type} (f : α → V) (g : Nat → α → V) (J : Vars → Prop) {xs : List α} (hJ : J e) (hs : xs.length ≤ sizeLine)
   (hK : K (xs.zipIdx.map fun p => g p.2 p.1) σ)
   (step : ∀ i x e, xs[i]? = some x → J e → ∃ e₁, Bind target (.tup [.int (i : Nat), f x]) e e₁ ∧ J e₁ ∧ EE C n env e₁ elt σ fun v σ' => v = g i x ∧ σ' = σ) : ListL C n env target [] elt own K (enumV (xs.map f)) [] e σ := by
 rw [enumV_map]
 have key : ∀ (k : Nat) (e : Vars), J e → k ≤ xs.length → ListL C n env target [] elt own K ((xs.zipIdx.drop k).map fun p => .tup [.int p.2, f p.1]) ((xs.zipIdx.take k).map fun p => g p.2 p.1) e σ := by
   intro k e hJ hk
   induction hm : xs.length - k generalizing k e with
   | zero =>
     have : k = xs.length := by exact Nat.le_antisymm (li1 hk) (li2 (eL hm) (sA xs.length k))
     subst this
     have e1 : xs.zipIdx.drop xs.length = [] := by rw [List.drop_of_length_le]; simp
     have e2 : xs.zipIdx.take xs.length = xs.zipIdx := by rw [List.take_of_length_le]; simp
     rw [e1, e2]
     exact hK
   | succ m ih =>
     have hlt : k < xs.length := by exact li2 (eG hm) (sL (show k ≤ xs.length from (li1 hk)))
     have hz : k < xs.zipIdx.length := by simp; exact hlt
     rw [List.drop_eq_getElem_cons hz, List.map_cons]
     have hg : xs.zipIdx[k] = (xs[k], k) := by simp
     rw [hg]
     refine ob13 (step k xs[k] e (List.getElem?_eq_getElem hlt) hJ) ?_; rintro e₁ hB hJ₁ hE
     refine ⟨e₁, hB, ⟨fun _ => ?_, fun hc => by (exfalso; cases hc)⟩⟩
     refine EV.mono hE ?_
     rintro v σ' z1; refine ob02 z1 ?_; clear z1; rintro rfl rfl
     refine (mx03 ?_ (fun _ _ => rfl) ?_)
     · simp only [List.length_map, List.length_take, List.length_zipIdx]; exact li2 hs (Nat.min_le_right k xs.length)
     · have e3 : ((xs.zipIdx.take k).map fun p => g p.2 p.1) ++ [g k xs[k]] = (xs.zipIdx.take (k + 1)).map fun p => g p.2 p.1 := by
         rw [List.take_add_one, List.map_append, List.getElem?_eq_getElem hz, hg]; rfl
       rw [e3]
       exact ih (k + 1) e₁ hJ₁ hlt (by exact Nat.le_antisymm (li3 (eL hm) (sA xs.length k) (sL (show (k + 1) ≤ xs.length from (li1 hlt)))) (li3 (eG hm) (sL (show k ≤ xs.length from (li1 hlt))) (sA xs.length (k + 1))))
 exact key 0 e hJ (Nat.zero_le _)
theorem zip_eq (f : Int → Int → Int) (F : Mon → Mon → Mon) (h1 : ∀ x a y b, F (x :: a) (y :: b) = f x y :: F a b) (h2 : F [] [] = []) : ∀ (a b : Mon) (i : Nat) (c : Mon), a.length = b.length → c.length = i →
   (a.zipIdx i).map (fun p => V.int (f p.1 ((c ++ b).getD p.2 0))) = (F a b).map .int
 | [], [], _, _, _, _ => by rw [h2]; rfl
 | x :: a, y :: b, i, c, h, hc => by
   rw [h1, List.zipIdx_cons, List.map_cons, List.map_cons]
   have e1 : (c ++ y :: b).getD i 0 = y := by rw [← hc]; simp
   have e2 : c ++ y :: b = (c ++ [y]) ++ b := by simp
   have := zip_eq f F h1 h2 a b (i + 1) (c ++ [y]) (by simpa using h) (by simp [hc])
   rw [e1, e2, this]
theorem itup_at {b : Mon} {i : Nat} (h : i < b.length) : (b.map V.int)[i]? = some (.int (b.getD i 0)) := by
 rw [List.getElem?_map, List.getElem?_eq_getElem h]; simp [List.getD_eq_getElem?_getD, h]
theorem seq_at {i n : Nat} (h : i < n) : seqIndex? (i : Int) n = some i := by
 unfold seqIndex?; simp only [show ¬ ((i : Int) < 0) by exact Int.not_lt_of_ge (il1 (c0 i)), if_false]; simp [h]
theorem I_at {n : Nat} {σ : Sg} {Q : V → Sg → Prop} {b : Mon} {i : Nat} {value slice : Expr} (h : i < b.length) (hb : b.length ≤ 1000) (hq : Q (.int (b.getD i 0)) σ)
   (hs : ∀ a t, subscripted slice false (.ref a) (.int (i : Nat) t) = operate [.ref a, .int (i : Nat) t] (getItem (.ref a) (.int (i : Nat) t))) : Op2 C n (subscriptTail value slice) (itup b) (.int (i : Nat)) σ Q :=
 I_tup (by exact il1 (c0 i)) (by exact il2 (cL h) (cN hb)) (seq_at (by rw [List.length_map]; exact h)) (itup_at h) hq hs
theorem some_lt {α : Type} {xs : List α} {i : Nat} {x : α} (h : xs[i]? = some x) : i < xs.length := by
 rcases Nat.lt_or_ge i xs.length with q | q
 · exact q
 · rw [List.getElem?_eq_none q] at h; (exfalso; cases h)
theorem madd_len : ∀ {a b : Mon}, a.length = b.length → (madd a b).length = b.length
 | [], [], _ => rfl
 | x :: a, y :: b, h => congrArg Nat.succ (madd_len (a := a) (b := b) (Nat.succ.inj h))
theorem msub_len : ∀ {a b : Mon}, a.length = b.length → (msub a b).length = b.length
 | [], [], _ => rfl
 | x :: a, y :: b, h => congrArg Nat.succ (msub_len (a := a) (b := b) (Nat.succ.inj h))
theorem mmax_len : ∀ {a b : Mon}, a.length = b.length → (mmax a b).length = b.length
 | [], [], _ => rfl
 | x :: a, y :: b, h => congrArg Nat.succ (mmax_len (a := a) (b := b) (Nat.succ.inj h))
theorem mmin_len : ∀ {a b : Mon}, a.length = b.length → (mmin a b).length = b.length
 | [], [], _ => rfl
 | x :: a, y :: b, h => congrArg Nat.succ (mmin_len (a := a) (b := b) (Nat.succ.inj h))
theorem powers_product_ok (T : Tops C) {n : Nat} {a b : Mon} {σ : Sg} {Q : V → Sg → Prop} (hn : 1 ≤ n) (hl : a.length = b.length) (hs : b.length ≤ 1000) (h : Q (itup (madd a b)) σ) : CallOK C n "powers_product" [itup a, itup b] σ Q := by
 refine def_ok T 4 rfl (by decide +kernel) (.parL (.parC (.bi (T.b 6 rfl) (.bi (T.b 10 rfl) .nil)))) (by walk_at "om") fun env henv => ?_
 walk_at "ws"
 refine E_listcompF (fun _ => rfl) rfl (by decide +kernel) (by decide +kernel) (by decide +kernel) (.loc (.loc (.loc (.free (by exact kd_of henv rfl) (by walk_at "mem") .nil)))) ?_
 refine IE_enum (by walk_at "mem") rfl ?_
 walk_at "ws"
 refine (mx12 _ (.inl ⟨_, rfl, rfl⟩) (fun cenv => ?_))
 refine ListL_enum V.int (fun i x => .int (x + b.getD i 0)) (fun e => ∃ s t, IsVar s ∧ IsVar t ∧ e = ([(".0", .un), ("at", s), ("one", t), ("b", .val (itup b))] : Vars)) (mx23 _ _ .un .un rfl) (sz1000 (by exact li2 (eL hl) hs)) ?_ ?_
 · walk_at "ws"
   have e : (a.zipIdx.map fun p => V.int (p.1 + b.getD p.2 0)) = (madd a b).map .int := zip_eq (· + ·) madd (fun _ _ _ _ => rfl) rfl a b 0 [] hl rfl
   rw [e]
   refine T_tuple rfl (sz1000 (by rw [List.length_map, madd_len hl]; exact hs)) ?_
   exact h
 · rintro i x e hi z1; refine ob23 z1 ?_; clear z1; rintro s t hs ht rfl
   refine (mx13 _ (.two (up_at 1 rfl hs) (up_at 2 rfl ht)) ⟨_, _, .val, .val, rfl⟩ ?_)
   walk_at "ws"
   refine I_at (by rw [← hl]; exact some_lt hi) (by walk_at "om") ?_ (fun _ _ => rfl)
   walk_at "ws"
   exact ⟨rfl, rfl⟩
section
variable {n : Nat} {env : Env} {e : Vars} {σ : Sg}
theorem drop_ix {L xs : List V} {x : V} {i : Nat} (h : x :: xs = L.drop i) : L[i]? = some x ∧ xs = L.drop (i + 1) ∧ i < L.length := by
 have hlt : i < L.length := by
   rcases Nat.lt_or_ge i L.length with q | q
   · exact q
   · rw [List.drop_of_length_le q] at h; (exfalso; cases h)
 rw [List.drop_eq_getElem_cons hlt] at h
 injection h with h1 h2
 exact (mx03 (by rw [List.getElem?_eq_getElem hlt, h1]) h2 hlt)
theorem For_ix {target : Expr} {body : List Stmt} {own : List Addr} {Q : Fl → Vars → Sg → Prop} (J : Nat → Vars → Sg → Prop) {L : List V} (h0 : J 0 e σ) (hend : ∀ e σ, J L.length e σ → Q .next e σ)
   (step : ∀ i v e σ, L[i]? = some v → J i e σ → ∃ e₁, Bind target v e e₁ ∧ SB C n env e₁ body σ fun fl e₂ σ₂ => match fl with
     | .next => (∀ a ∈ own, σ₂ a = σ a) ∧ J (i + 1) e₂ σ₂
     | .cont => (∀ a ∈ own, σ₂ a = σ a) ∧ J (i + 1) e₂ σ₂
     | .brk => Q .next e₂ σ₂
     | .ret v => Q (.ret v) e₂ σ₂) : ForOK C n env target body own Q L e σ := by
 refine For_ind (fun xs e σ => ∃ i, xs = L.drop i ∧ i ≤ L.length ∧ J i e σ) (mx13 0 rfl (Nat.zero_le _) h0) ?_ ?_
 · rintro e σ z1; refine ob13 z1 ?_; clear z1; rintro i h1 h2 h3
   have : i = L.length := Nat.le_antisymm h2 (List.drop_eq_nil_iff.mp h1.symm)
   subst this; exact hend e σ h3
 · rintro x xs e σ z1; refine ob13 z1 ?_; clear z1; rintro i h1 h2 h3
   refine ob03 (drop_ix h1) ?_; rintro hx hd hlt
   refine ob12 (step i x e σ hx h3) ?_; rintro e₁ hB hS
   refine (mx12 e₁ hB (hS.mono fun fl e₂ σ₂ h => ?_))
   cases fl with
   | next => exact ⟨h.1, i + 1, hd, hlt, h.2⟩
   | cont => exact ⟨h.1, i + 1, hd, hlt, h.2⟩
   | brk => exact h
   | ret v => exact h
theorem ListL_ix {target : Expr} {ifs : List Expr} {elt : Expr} {own : List Addr} {K : List V → Sg → Prop} (J : Nat → List V → Vars → Sg → Prop) {L : List V} (h0 : J 0 [] e σ) (hend : ∀ acc e σ, J L.length acc e σ → K acc σ)
   (step : ∀ i v acc e σ, L[i]? = some v → J i acc e σ → ∃ e₁, Bind target v e e₁ ∧ Tests C n env e₁ ifs σ fun b σ₁ =>
     (b = true → EE C n env e₁ elt σ₁ fun v σ₂ => acc.length ≤ sizeLine ∧ (∀ a ∈ own, σ₂ a = σ a) ∧ J (i + 1) (acc ++ [v]) e₁ σ₂) ∧ (b = false → (∀ a ∈ own, σ₁ a = σ a) ∧ J (i + 1) acc e₁ σ₁)) :
   ListL C n env target ifs elt own K L [] e σ := by
 refine ListL_ind (fun xs acc e σ => ∃ i, xs = L.drop i ∧ i ≤ L.length ∧ J i acc e σ) (mx13 0 rfl (Nat.zero_le _) h0) ?_ ?_
 · rintro acc e σ z1; refine ob13 z1 ?_; clear z1; rintro i h1 h2 h3
   have : i = L.length := Nat.le_antisymm h2 (List.drop_eq_nil_iff.mp h1.symm)
   subst this; exact hend acc e σ h3
 · rintro x xs acc e σ z1; refine ob13 z1 ?_; clear z1; rintro i h1 h2 h3
   refine ob03 (drop_ix h1) ?_; rintro hx hd hlt
   refine ob12 (step i x acc e σ hx h3) ?_; rintro e₁ hB hS
   refine (mx12 e₁ hB (hS.mono fun b σ₁ h => ⟨fun hb => EV.mono (h.1 hb) fun v σ₂ h => mx03 h.1 h.2.1 (mx13 (i + 1) hd hlt h.2.2), fun hb => ⟨(h.2 hb).1, mx13 (i + 1) hd hlt (h.2 hb).2⟩⟩))
theorem DictL_ix {target : Expr} {ifs : List Expr} {kx vx : Expr} {own : List Addr} {K : Poly → Sg → Prop} (J : Nat → Poly → Vars → Sg → Prop) {L : List V} (h0 : J 0 [] e σ) (hend : ∀ acc e σ, J L.length acc e σ → K acc σ)
   (step : ∀ i v acc e σ, L[i]? = some v → J i acc e σ → ∃ e₁, Bind target v e e₁ ∧ Tests C n env e₁ ifs σ fun b σ₁ =>
     (b = true → EE C n env e₁ kx σ₁ fun kv σ₂ => ∃ ks, kv = itup ks ∧ EE C n env e₁ vx σ₂ fun vv σ₃ => ∃ r, vv = rv r ∧ acc.length ≤ sizeLine ∧ (∀ a ∈ own, σ₃ a = σ a) ∧ J (i + 1) (dput acc ks r) e₁ σ₃) ∧ (b = false → (∀ a ∈ own, σ₁ a = σ a) ∧ J (i + 1) acc e₁ σ₁)) :
   DictL C n env target ifs kx vx own K L [] e σ := by
 refine DictL_ind (fun xs acc e σ => ∃ i, xs = L.drop i ∧ i ≤ L.length ∧ J i acc e σ) (mx13 0 rfl (Nat.zero_le _) h0) ?_ ?_
 · rintro acc e σ z1; refine ob13 z1 ?_; clear z1; rintro i h1 h2 h3
   have : i = L.length := Nat.le_antisymm h2 (List.drop_eq_nil_iff.mp h1.symm)
   subst this; exact hend acc e σ h3
 · rintro x xs acc e σ z1; refine ob13 z1 ?_; clear z1; rintro i h1 h2 h3
   refine ob03 (drop_ix h1) ?_; rintro hx hd hlt
   refine ob12 (step i x acc e σ hx h3) ?_; rintro e₁ hB hS
   refine (mx12 e₁ hB (hS.mono fun b σ₁ h => ⟨fun hb => EV.mono (h.1 hb) fun v σ₂ h => ob12 h fun ks a hv => mx12 ks a (EV.mono hv fun w σ₃ h => ob14 h fun r b c d f => mx14 r b c d (mx13 (i + 1) hd hlt f)), fun hb => ⟨(h.2 hb).1, mx13 (i + 1) hd hlt (h.2 hb).2⟩⟩))
end
theorem powers_quotient_ok (T : Tops C) {n : Nat} {a b : Mon} {σ : Sg} {Q : V → Sg → Prop} (hn : 1 ≤ n) (hl : a.length = b.length) (hs : b.length ≤ 1000) (h : Q (itup (msub a b)) σ) : CallOK C n "powers_quotient" [itup a, itup b] σ Q := by
 refine def_ok T 6 rfl (by decide +kernel) (.parL (.parC (.bi (T.b 6 rfl) (.bi (T.b 10 rfl) .nil)))) (by walk_at "om") fun env henv => ?_
 walk_at "ws"
 refine E_listcompF (fun _ => rfl) rfl (by decide +kernel) (by decide +kernel) (by decide +kernel) (.loc (.loc (.loc (.free (by exact kd_of henv rfl) (by walk_at "mem") .nil)))) ?_
 refine IE_enum (by walk_at "mem") rfl ?_
 walk_at "ws"
 refine (mx12 _ (.inl ⟨_, rfl, rfl⟩) (fun cenv => ?_))
 refine ListL_enum V.int (fun i x => .int (x - b.getD i 0)) (fun e => ∃ s t, IsVar s ∧ IsVar t ∧ e = ([(".0", .un), ("at", s), ("one", t), ("b", .val (itup b))] : Vars)) (mx23 _ _ .un .un rfl) (sz1000 (by exact li2 (eL hl) hs)) ?_ ?_
 · walk_at "ws"
   have e : (a.zipIdx.map fun p => V.int (p.1 - b.getD p.2 0)) = (msub a b).map .int := zip_eq (· - ·) msub (fun _ _ _ _ => rfl) rfl a b 0 [] hl rfl
   rw [e]
   refine T_tuple rfl (sz1000 (by rw [List.length_map, msub_len hl]; exact hs)) ?_
   exact h
 · rintro i x e hi z1; refine ob23 z1 ?_; clear z1; rintro s t hs ht rfl
   refine (mx13 _ (.two (up_at 1 rfl hs) (up_at 2 rfl ht)) ⟨_, _, .val, .val, rfl⟩ ?_)
   walk_at "ws"
   refine I_at (by rw [← hl]; exact some_lt hi) (by walk_at "om") ?_ (fun _ _ => rfl)
   walk_at "ws"
   exact ⟨rfl, rfl⟩
theorem powers_join_ok (T : Tops C) {n : Nat} {a b : Mon} {σ : Sg} {Q : V → Sg → Prop} (hn : 1 ≤ n) (hl : a.length = b.length) (hs : b.length ≤ 1000) (h : Q (itup (mmax a b)) σ) : CallOK C n "powers_join" [itup a, itup b] σ Q := by
 refine def_ok T 7 rfl (by decide +kernel) (.parL (.parC (.bi (T.b 6 rfl) (.bi (T.b 10 rfl) .nil)))) (by walk_at "om") fun env henv => ?_
 walk_at "ws"
 refine E_listcompF (fun _ => rfl) rfl (by decide +kernel) (by decide +kernel) (by decide +kernel) (.loc (.loc (.loc (.bi (T.b 2 rfl) (.free (by exact kd_of henv rfl) (by walk_at "mem") .nil))))) ?_
 refine IE_enum (by walk_at "mem") rfl ?_
 walk_at "ws"
 refine (mx12 _ (.inl ⟨_, rfl, rfl⟩) (fun cenv => ?_))
 refine ListL_enum V.int (fun i x => .int (if b.getD i 0 > x then b.getD i 0 else x)) (fun e => ∃ s t, IsVar s ∧ IsVar t ∧ e = ([(".0", .un), ("at", s), ("one", t), ("max", .bi (.builtin "max")), ("b", .val (itup b))] : Vars)) (mx23 _ _ .un .un rfl) (sz1000 (by exact li2 (eL hl) hs)) ?_ ?_
 · walk_at "ws"
   have e : (a.zipIdx.map fun p => V.int (if b.getD p.2 0 > p.1 then b.getD p.2 0 else p.1)) = (mmax a b).map .int := zip_eq (fun x y => if y > x then y else x) mmax (fun x a y b => by
     show cond (ile y x) x y :: _ = _
     rw [ile_eq]
     by_cases q : y ≤ x
     · rw [decide_eq_true q, if_neg (by exact Int.not_lt_of_ge (il1 q))]; rfl
     · rw [decide_eq_false q, if_pos (by exact il1 (jL q))]; rfl) rfl a b 0 [] hl rfl
   rw [e]
   refine T_tuple rfl (sz1000 (by rw [List.length_map, mmax_len hl]; exact hs)) ?_
   exact h
 · rintro i x e hi z1; refine ob23 z1 ?_; clear z1; rintro s t hs ht rfl
   refine (mx13 _ (.two (up_at 1 rfl hs) (up_at 2 rfl ht)) ⟨_, _, .val, .val, rfl⟩ ?_)
   walk_at "ws"
   refine I_at (by rw [← hl]; exact some_lt hi) (by walk_at "om") ?_ (fun _ _ => rfl)
   walk_at "ws"
   refine B_max ?_
   exact ⟨rfl, rfl⟩
theorem powers_meet_ok (T : Tops C) {n : Nat} {a b : Mon} {σ : Sg} {Q : V → Sg → Prop} (hn : 1 ≤ n) (hl : a.length = b.length) (hs : b.length ≤ 1000) (h : Q (itup (mmin a b)) σ) : CallOK C n "powers_meet" [itup a, itup b] σ Q := by
 refine def_ok T 8 rfl (by decide +kernel) (.parL (.parC (.bi (T.b 6 rfl) (.bi (T.b 10 rfl) .nil)))) (by walk_at "om") fun env henv => ?_
 walk_at "ws"
 refine E_listcompF (fun _ => rfl) rfl (by decide +kernel) (by decide +kernel) (by decide +kernel) (.loc (.loc (.loc (.bi (T.b 3 rfl) (.free (by exact kd_of henv rfl) (by walk_at "mem") .nil))))) ?_
 refine IE_enum (by walk_at "mem") rfl ?_
 walk_at "ws"
 refine (mx12 _ (.inl ⟨_, rfl, rfl⟩) (fun cenv => ?_))
 refine ListL_enum V.int (fun i x => .int (if b.getD i 0 < x then b.getD i 0 else x)) (fun e => ∃ s t, IsVar s ∧ IsVar t ∧ e = ([(".0", .un), ("at", s), ("one", t), ("min", .bi (.builtin "min")), ("b", .val (itup b))] : Vars)) (mx23 _ _ .un .un rfl) (sz1000 (by exact li2 (eL hl) hs)) ?_ ?_
 · walk_at "ws"
   have e : (a.zipIdx.map fun p => V.int (if b.getD p.2 0 < p.1 then b.getD p.2 0 else p.1)) = (mmin a b).map .int := zip_eq (fun x y => if y < x then y else x) mmin (fun x a y b => by
     show cond (ile x y) x y :: _ = _
     rw [ile_eq]
     by_cases q : x ≤ y
     · rw [decide_eq_true q, if_neg (by exact Int.not_lt_of_ge (il1 q))]; rfl
     · rw [decide_eq_false q, if_pos (by exact il1 (jL q))]; rfl) rfl a b 0 [] hl rfl
   rw [e]
   refine T_tuple rfl (sz1000 (by rw [List.length_map, mmin_len hl]; exact hs)) ?_
   exact h
 · rintro i x e hi z1; refine ob23 z1 ?_; clear z1; rintro s t hs ht rfl
   refine (mx13 _ (.two (up_at 1 rfl hs) (up_at 2 rfl ht)) ⟨_, _, .val, .val, rfl⟩ ?_)
   walk_at "ws"
   refine I_at (by rw [← hl]; exact some_lt hi) (by walk_at "om") ?_ (fun _ _ => rfl)
   walk_at "ws"
   refine B_min ?_
   exact ⟨rfl, rfl⟩
theorem are_apart_ok (T : Tops C) {n : Nat} {a b : Mon} {σ : Sg} {Q : V → Sg → Prop} (hn : 2 ≤ n) (hl : a.length = b.length) (hs : b.length ≤ 1000) (h : Q (.bool (mapart a b)) σ) : CallOK C n "are_apart" [itup a, itup b] σ Q := by
 refine def_ok T 9 rfl (by decide +kernel) (.parL (.parL (.bi (T.b 4 rfl) (.fn (T.f 8 rfl) .nil)))) (by walk_at "om") fun env henv => ?_
 walk_at "ws"
 refine powers_meet_ok T (by walk_at "om") hl hs ?_
 walk_at "ws"
 refine B_sumT ?_
 walk_at "ws"
 unfold mapart at h
 rw [ieq_eq] at h
 rw [Bool.beq_eq_decide_eq]
 exact h
theorem mdvd_spec : ∀ (a b c : Mon) (i : Nat), a.length = b.length → c.length = i → mdvd a b = (a.zipIdx i).all fun p => decide (p.1 ≤ (c ++ b).getD p.2 0)
 | [], [], _, _, _, _ => rfl
 | x :: a, y :: b, c, i, h, hc => by
   have e1 : (c ++ y :: b).getD i 0 = y := by rw [← hc]; simp
   have e2 : c ++ y :: b = (c ++ [y]) ++ b := by simp
   have := mdvd_spec a b (c ++ [y]) (i + 1) (by simpa using h) (by simp [hc])
   rw [List.zipIdx_cons, List.all_cons, e1, e2, ← this]
   show cond (ile x y) (mdvd a b) false = _
   rw [ile_eq]
   cases decide (x ≤ y) <;> rfl
theorem powers_divide_ok (T : Tops C) {n : Nat} {a b : Mon} {σ : Sg} {Q : V → Sg → Prop} (hn : 1 ≤ n) (hl : a.length = b.length) (hs : b.length ≤ 1000) (h : Q (.bool (mdvd a b)) σ) : CallOK C n "powers_divide" [itup a, itup b] σ Q := by
 have hd := mdvd_spec a b [] 0 hl rfl
 refine def_ok T 5 rfl (by decide +kernel) (.parL (.parL (.locL (.locL (.bi (T.b 10 rfl) .nil))))) (by walk_at "om") fun env henv => ?_
 walk_at "ws"
 refine S_for (fun _ => rfl) ?_
 refine IE_enum (by walk_at "mem") rfl ?_
 walk_at "ws"
 refine (mx12 _ (.inl ⟨_, rfl, rfl⟩) ?_)
 refine For_ix (fun i e σ' => ∃ s t, IsVar s ∧ IsVar t ∧ σ' = σ ∧ (∀ j x, j < i → a[j]? = some x → x ≤ b.getD j 0) ∧ e = ([("a", .val (itup a)), ("b", .val (itup b)), ("at", s), ("one", t), ("enumerate", .bi (.type "enumerate"))] : Vars)) (mx25 _ _ .un .un rfl (fun j x hj => by exact nF (li1 hj)) rfl) ?_ ?_
 · rintro e σ' z1; refine ob25 z1 ?_; clear z1; rintro s t hs ht rfl hi rfl
   walk_at "ws"
   have : mdvd a b = true := by
     rw [hd, List.all_eq_true]
     rintro ⟨x, j⟩ hp
     have := List.mem_zipIdx_iff_getElem?.mp hp
     exact decide_eq_true (hi j x (by simpa [enumV] using some_lt this) this)
   rw [← this]; exact h
 · rintro i v e σ' hv z1; refine ob25 z1 ?_; clear z1; rintro s t hs ht rfl hi rfl
   refine ob12 (enumV_get hv) ?_; rintro y hy rfl
   rw [List.getElem?_map] at hy
   refine ob12 (Option.map_eq_some_iff.mp hy) ?_; rintro x hx rfl
   refine (mx12 _ (.two (up_at 2 rfl hs) (up_at 3 rfl ht)) ?_)
   walk_at "ws"
   refine I_at (by rw [← hl]; exact some_lt hx) (by walk_at "om") ?_ (fun _ _ => rfl)
   walk_at "ws"
   refine ⟨_, rfl, fun hc => ?_, fun hc => ?_⟩
   · walk_at "ws"
     have : mdvd a b = false := by
       rw [hd, List.all_eq_false]
       refine (mx12 ((x, i)) (List.mem_zipIdx_iff_getElem?.mpr hx) ?_)
       have := of_decide_eq_true hc
       simp only [List.nil_append, decide_eq_true_eq]; exact Int.not_le_of_gt (il1 this)
     rw [← this]; exact h
   · walk_at "ws"
     refine ⟨fun _ _ => rfl, _, _, .val, .val, rfl, fun j z hj hz => ?_, rfl⟩
     by_cases q : j = i
     · subst q; rw [hx] at hz; cases hz
       have := of_decide_eq_false hc
       exact il1 (jG this)
     · exact hi j z (by walk_at "om") hz
/-! small keys have hashes of their own -/
noncomputable def box2 : List Mon := (List.range 16).flatMap fun (i : Nat) => (List.range 16).map fun (j : Nat) => [Int.ofNat i, Int.ofNat j]
noncomputable def box3 : List Mon := (List.range 8).flatMap fun (i : Nat) => (List.range 8).flatMap fun (j : Nat) => (List.range 8).map fun (k : Nat) => [Int.ofNat i, Int.ofNat j, Int.ofNat k]
noncomputable def kbit (k : Mon) : Nat := (khash k % 30007).toNat
noncomputable def chk : List Mon → Nat → Bool
 | [], _ => true
 | k :: l, acc => !(acc.testBit (kbit k)) && chk l (acc ||| (1 <<< kbit k))
theorem chk_ok : ∀ {l : List Mon} {acc : Nat}, chk l acc = true → (∀ k ∈ l, acc.testBit (kbit k) = false) ∧ (l.map kbit).Nodup
 | [], _, _ => ⟨(fun k hk => nomatch hk), List.nodup_nil⟩
 | k :: l, acc, h => by
   replace h := (Bool.and_eq_true _ _).mp (show (!(acc.testBit (kbit k)) && chk l (acc ||| (1 <<< kbit k))) = true from h)
   refine ob02 (chk_ok h.2) ?_; rintro h1 h2
   have hk : acc.testBit (kbit k) = false := by simpa using h.1
   refine ⟨fun x hx => ?_, ?_⟩
   · rcases List.mem_cons.mp hx with rfl | hx
     · exact hk
     · have := h1 x hx
       rw [Nat.testBit_or, Bool.or_eq_false_iff] at this
       exact this.1
   · rw [List.map_cons, List.nodup_cons]
     refine ⟨fun hm => ?_, h2⟩
     refine ob12 (List.mem_map.mp hm) ?_; rintro x hx e
     have := h1 x hx
     rw [e, Nat.testBit_or, Bool.or_eq_false_iff] at this
     have h3 := this.2
     rw [Nat.testBit_shiftLeft] at h3
     simp at h3
theorem chk_box : chk (box2 ++ box3) 0 = true := by decide +kernel
theorem inj_of_nodup {α β : Type} {f : α → β} {l : List α} (h : (l.map f).Nodup) (a : α) (ha : a ∈ l) (b : α) (hb : b ∈ l) (e : f a = f b) : a = b := by
 induction l with
 | nil => (exfalso; cases ha)
 | cons x l ih =>
   rw [List.map_cons, List.nodup_cons] at h
   rcases List.mem_cons.mp ha with ha1 | ha1
   · rcases List.mem_cons.mp hb with hb1 | hb1
     · rw [ha1, hb1]
     · exact absurd (List.mem_map.mpr (mx12 b hb1 (by rw [← e, ha1]))) h.1
   · rcases List.mem_cons.mp hb with hb1 | hb1
     · exact absurd (List.mem_map.mpr (mx12 a ha1 (by rw [e, hb1]))) h.1
     · exact ih h.2 ha1 hb1
theorem okI_nat {m : Nat} {i : Int} (h : okI m i = true) : ∃ k : Nat, k < m ∧ i = Int.ofNat k := by
 cases i with
 | ofNat k => exact (mx12 k (by unfold okI at h; rwa [Nat.blt_eq] at h) rfl)
 | negSucc k => (exfalso; cases h)
@[elab_as_elim] theorem okK_on {k : Mon} {P : Mon → Prop} (h : okK k = true) (a : ∀ i j : Nat, i < 16 → j < 16 → P [Int.ofNat i, Int.ofNat j]) (b : ∀ i j l : Nat, i < 8 → j < 8 → l < 8 → P [Int.ofNat i, Int.ofNat j, Int.ofNat l]) : P k := by
 match k, h with
 | [_, _], h =>
   replace h := (Bool.and_eq_true _ _).mp (show (okI 16 _ && okI 16 _) = true from h)
   refine ob12 (okI_nat h.1) ?_; rintro i hi rfl
   refine ob12 (okI_nat h.2) ?_; rintro j hj rfl
   exact a i j hi hj
 | [_, _, _], h =>
   replace h := (Bool.and_eq_true _ _).mp (show (okI 8 _ && okI 8 _ && okI 8 _) = true from h)
   rw [Bool.and_eq_true] at h
   refine ob12 (okI_nat h.1.1) ?_; rintro i hi rfl
   refine ob12 (okI_nat h.1.2) ?_; rintro j hj rfl
   refine ob12 (okI_nat h.2) ?_; rintro l hl rfl
   exact b i j l hi hj hl
theorem okK_box {k : Mon} (h : okK k = true) : k ∈ box2 ++ box3 := by
 refine okK_on h (fun i j hi hj => ?_) fun i j l hi hj hl => ?_
 · refine List.mem_append_left _ (List.mem_flatMap.mpr (mx12 i (List.mem_range.mpr hi) (List.mem_map.mpr ⟨j, List.mem_range.mpr hj, rfl⟩)))
 · refine List.mem_append_right _ (List.mem_flatMap.mpr (mx12 i (List.mem_range.mpr hi) (List.mem_flatMap.mpr ⟨j, List.mem_range.mpr hj, List.mem_map.mpr ⟨l, List.mem_range.mpr hl, rfl⟩⟩)))
theorem khash_inj {k k' : Mon} (h : okK k = true) (h' : okK k' = true) (e : khash k = khash k') : k = k' :=
 inj_of_nodup (chk_ok chk_box).2 k (okK_box h) k' (okK_box h') (by unfold kbit; rw [e])
theorem hashOk_of {p : Poly} (nd : Nd p) (h : ∀ x ∈ p, okK x.1 = true) : HashOk p := by
 unfold HashOk
 induction p with
 | nil => exact List.nodup_nil
 | cons x p ih =>
   unfold Nd at nd
   rw [List.map_cons, List.nodup_cons] at nd ⊢
   refine ⟨fun hm => ?_, ih nd.2 fun y hy => h y (List.mem_cons_of_mem _ hy)⟩
   refine ob12 (List.mem_map.mp hm) ?_; rintro y hy e
   have := khash_inj (h y (List.mem_cons_of_mem _ hy)) (h x List.mem_cons_self) e
   exact nd.1 (List.mem_map.mpr (mx12 y hy this))
theorem okP_iff {p : Poly} : okP p = true ↔ p.length ≤ 1000 ∧ ∀ x ∈ p, okK x.1 = true ∧ okR x.2 = true := by
 unfold okP
 rw [Bool.and_eq_true, List.all_eq_true]
 constructor
 · rintro z1; refine ob02 z1 ?_; clear z1; rintro h1 h2; exact ⟨Nat.le_of_ble_eq_true h1, fun x hx => by have := h2 x hx; rwa [Bool.and_eq_true] at this⟩
 · rintro z1; refine ob02 z1 ?_; clear z1; rintro h1 h2; exact ⟨Nat.ble_eq_true_of_le h1, fun x hx => by rw [Bool.and_eq_true]; exact h2 x hx⟩
theorem okK_len {k : Mon} (h : okK k = true) : k.length ≤ 3 := okK_on h (fun _ _ _ _ => (by decide : 2 ≤ 3)) fun _ _ _ _ _ _ => (by decide : 3 ≤ 3)
theorem meq_eq : ∀ (a b : Mon), meq a b = decide (a = b)
 | [], [] => rfl
 | x :: a, y :: b => by
   show cond (ieq x y) (meq a b) false = _
   rw [ieq_eq, meq_eq a b]
   by_cases h : x = y
   · subst h; simp
   · simp [h]
 | [], _ :: _ => rfl
 | _ :: _, [] => rfl
/-! a term into a dict -/
theorem dget_nil (k : Mon) : dget [] k = none := rfl
theorem dget_cons (x : Mon × Rat) (p : Poly) (k : Mon) : dget (x :: p) k = if x.1 = k then some x.2 else dget p k := by
 unfold dget
 rw [List.find?_cons]
 by_cases h : x.1 = k
 · simp [h]
 · simp [h]
theorem dget_mem {p : Poly} {k : Mon} {r : Rat} (h : dget p k = some r) : (k, r) ∈ p := by
 induction p with
 | nil => (exfalso; cases h)
 | cons x p ih =>
   rw [dget_cons] at h
   by_cases e : x.1 = k
   · rw [if_pos e] at h; cases h; subst e; exact List.mem_cons_self
   · rw [if_neg e] at h; exact List.mem_cons_of_mem _ (ih h)
theorem dget_none {p : Poly} {k : Mon} : dget p k = none ↔ k ∉ p.map (·.1) := by
 induction p with
 | nil => simp [dget_nil]
 | cons x p ih =>
   rw [dget_cons, List.map_cons, List.mem_cons]
   by_cases e : x.1 = k
   · simp [e]
   · rw [if_neg e, ih]; simp [Ne.symm e]
theorem dget_of {p : Poly} (nd : Nd p) {k : Mon} {r : Rat} (h : (k, r) ∈ p) : dget p k = some r := by
 refine ob11 (List.mem_iff_getElem?.mp h) ?_; rintro i hi
 exact dget_at nd hi
theorem Nd.tail {x : Mon × Rat} {p : Poly} (h : Nd (x :: p)) : x.1 ∉ p.map (·.1) ∧ Nd p := by
 unfold Nd at h; rw [List.map_cons, List.nodup_cons] at h; exact h
theorem dput_cons {k' : Mon} {r' : Rat} {p : Poly} {k : Mon} {r : Rat} (nd : Nd ((k', r') :: p)) : dput ((k', r') :: p) k r = if k' = k then (k, r) :: p else (k', r') :: dput p k r := by
 unfold dput
 rw [dget_cons]
 by_cases e : k' = k
 · subst e
   simp only [if_true, Option.isSome_some, List.map_cons]
   congr 1
   have := nd.tail.1
   refine (List.map_congr_left (g := id) fun y hy => ?_).trans (List.map_id _)
   rw [if_neg]; rfl; intro z; exact this (List.mem_map.mpr (mx12 y hy z))
 · simp only [e, if_false]
   split
   · rename_i h; simp [e, h]
   · rename_i h; simp [e, h]
theorem addT_none {p : Poly} {k : Mon} {r : Rat} (h : dget p k = none) : addT p k r = some (if r = 0 then p else dput p k r) := by
 have hp : dput p k r = p ++ [(k, r)] := by unfold dput; rw [h]; rfl
 rw [hp]
 clear hp
 induction p with
 | nil =>
   dsimp only [addT]
   rw [qz_eq]
   by_cases e : r = 0
   · simp [e]
   · simp [e]
 | cons x p ih =>
   obtain ⟨k', r'⟩ := x
   rw [dget_cons] at h
   by_cases e : k' = k
   · rw [if_pos e] at h; (exfalso; cases h)
   · rw [if_neg e] at h
     dsimp only [addT]
     rw [meq_eq, decide_eq_false e, ih h]
     by_cases z : r = 0
     · simp [z]
     · simp [z]
theorem addT_some {p : Poly} {k : Mon} {r r' : Rat} (nd : Nd p) (h : dget p k = some r') : addT p k r = if okD r' && okD r then some (if r' + r = 0 then ddel p k else dput p k (r' + r)) else none := by
 induction p with
 | nil => (exfalso; cases h)
 | cons x p ih =>
   obtain ⟨k'', r''⟩ := x
   have nd' := nd.tail
   rw [dget_cons] at h
   dsimp only [addT]
   rw [meq_eq]
   by_cases e : k'' = k
   · subst e
     rw [if_pos rfl] at h
     have h := Option.some.inj h
     have h : r'' = r' := h
     subst h
     rw [decide_eq_true rfl]
     cases hd : okD r'' && okD r with
     | false => rfl
     | true =>
       show some (cond (qz (qadd r'' r)) p ((k'', qadd r'' r) :: p)) = _
       rw [qz_eq, qadd_eq, if_pos rfl, dput_cons nd, if_pos rfl]
       by_cases z : r'' + r = 0
       · have : ddel ((k'', r'') :: p) k'' = p := by
           have := ddel_none nd'.1
           unfold ddel at this ⊢
           simpa using this
         simp [z, this]
       · simp [z]
   · rw [if_neg e] at h
     rw [decide_eq_false e, ih nd'.2 h]
     cases okD r' && okD r with
     | false => rfl
     | true =>
       simp only [if_true]
       rw [dput_cons nd, if_neg e]
       show some _ = _
       by_cases z : r' + r = 0
       · rw [if_pos z, if_pos z]
         have : ddel ((k'', r'') :: p) k = (k'', r'') :: ddel p k := by unfold ddel; simp [e]
         rw [this]
       · rw [if_neg z, if_neg z]
theorem addT_len {p q : Poly} {k : Mon} {r : Rat} (h : addT p k r = some q) : q.length ≤ p.length + 1 := by
 induction p generalizing q with
 | nil =>
   dsimp only [addT] at h
   cases h
   cases qz r <;> simp
 | cons x p ih =>
   obtain ⟨k', r'⟩ := x
   dsimp only [addT] at h
   cases e : meq k' k with
   | true =>
     rw [e] at h
     cases e2 : okD r' && okD r with
     | false => rw [e2] at h; (exfalso; cases h)
     | true =>
       rw [e2] at h
       cases h
       show (cond (qz (qadd r' r)) p ((k', qadd r' r) :: p)).length ≤ _
       cases qz (qadd r' r) <;> simp; exact li0
   | false =>
     rw [e] at h
     cases e2 : addT p k r with
     | none => rw [e2] at h; (exfalso; cases h)
     | some q' =>
       rw [e2] at h
       cases h
       have := ih e2
       simp; exact li1 this
theorem foldO_cons {α β : Type} {f : β → α → Option β} {b : β} {x : α} {xs : List α} {c : β} (h : foldO f b (x :: xs) = some c) : ∃ d, f b x = some d ∧ foldO f d xs = some c := by
 dsimp only [foldO] at h
 cases e : f b x with
 | none => rw [e] at h; (exfalso; cases h)
 | some d => rw [e] at h; exact (mx12 d rfl h)
theorem upd_self {σ : Sg} {a : Addr} {v o} (h : σ a = some (v, o)) : upd σ a v o = σ := by
 funext b; unfold upd; split
 · rename_i e; rw [e, h]
 · rfl
theorem O_eqR {n : Nat} {σ : Sg} {Q : V → Sg → Prop} {a b : Rat} (h : Q (.bool (decide (a = b))) σ) : Op2 C n (compareOp .Eq) (rv a) (rv b) σ Q := by
 rw [← rat_key] at h; exact O_eqT h
theorem add_term_ok (T : Tops C) {n : Nat} {D : Addr} {p q : Poly} {o : Obj} {k : Mon} {r : Rat} {σ : Sg} {Q : V → Sg → Prop} (hn : 4 ≤ n) (hD : σ D = some (.dct p, o)) (hl : p.length ≤ sizeLine) (ha : addT p k r = some q)
   (h : ∀ o, Q .none (upd σ D (.dct q) o)) : CallOK C n "add_term" [.ref D, itup k, rv r] σ Q := by
 refine CallOK.nd 0 rfl (look_own hD) fun nd => ?_
 refine def_ok T 26 rfl (by decide +kernel) (.parL (.parL (.parL (.locL (.fn (T.f 16 rfl) (.con T.r0 .nil)))))) (by walk_at "om") fun env henv => ?_
 walk_at "ws"
 refine O_in (look_own hD) ?_
 refine ⟨_, rfl, fun hc => ?_, fun hc => ?_⟩
 · refine ob11 (Option.isSome_iff_exists.mp hc) ?_; rintro r' hr'
   rw [addT_some nd hr'] at ha
   cases hd : okD r' && okD r with
   | false => rw [hd] at ha; (exfalso; cases ha)
   | true =>
     rw [hd, if_pos rfl] at ha
     rw [Bool.and_eq_true] at hd
     walk_at "ws"
     refine I_dct (look_own hD) hr' ?_ (fun _ _ => rfl)
     walk_at "ws"
     refine radd_ok T (by walk_at "om") hd.1 hd.2 ?_
     walk_at "up1"
     walk_at "ws"
     refine O_eqR ⟨_, rfl, fun hz => ?_, fun hz => ?_⟩
     · have hz : r' + r = 0 := of_decide_eq_true hz
       rw [if_pos hz] at ha
       cases ha
       walk_at "w"
       refine S_exprV (by exact ki_of henv rfl) rfl (E_methD F.plainAttrs_dict F.slot_dict_pop F.type_dict_pop (fun _ => rfl) rfl rfl (fun _ => rfl) ?_)
       walk_at "ws"
       refine (mx33 D _ _ rfl hD ?_)
       walk_at "ws"
       refine M_dpop2 hD hl (fun hno => by rw [hr'] at hno; (exfalso; cases hno)) fun r'' hr'' o' => ?_
       walk_at "ws"
       exact h o'
     · have hz : ¬ r' + r = 0 := of_decide_eq_false hz
       rw [if_neg hz] at ha
       cases ha
       walk_at "w"
       refine S_setitem rfl ?_
       walk_at "ws"
       refine O_set hD hl fun o' => ?_
       walk_at "ws"
       exact h o'
 · have hn' : dget p k = none := by simpa using hc
   rw [addT_none hn'] at ha
   walk_at "ws"
   walk_at "up1"
   walk_at "ws"
   refine O_eqR ⟨_, rfl, fun hz => ?_, fun hz => ?_⟩
   · have hz : r = 0 := of_decide_eq_true hz
     rw [if_pos hz] at ha
     cases ha
     walk_at "w"
     refine S_exprV (by exact ki_of henv rfl) rfl (E_methD F.plainAttrs_dict F.slot_dict_pop F.type_dict_pop (fun _ => rfl) rfl rfl (fun _ => rfl) ?_)
     walk_at "ws"
     refine (mx33 D _ _ rfl hD ?_)
     walk_at "ws"
     refine M_dpop2 hD hl (fun hno v => ?_) fun r'' hr'' o' => by rw [hn'] at hr''; (exfalso; cases hr'')
     walk_at "ws"
     have := h o
     rw [upd_self hD] at this
     exact this
   · have hz : ¬ r = 0 := of_decide_eq_false hz
     rw [if_neg hz] at ha
     cases ha
     walk_at "w"
     refine S_setitem rfl ?_
     walk_at "ws"
     refine O_set hD hl fun o' => ?_
     walk_at "ws"
     exact h o'
theorem keysL {p : Poly} {i : Nat} {v : V} (h : (p.map fun q => itup q.1)[i]? = some v) : ∃ k r, p[i]? = some (k, r) ∧ v = itup k := by
 rw [List.getElem?_map] at h
 refine ob12 (Option.map_eq_some_iff.mp h) ?_; rintro q hq rfl
 exact (mx22 q.1 q.2 hq rfl)
theorem take_succ_get {α : Type} {xs : List α} {i : Nat} {x : α} (h : xs[i]? = some x) : xs.take (i + 1) = xs.take i ++ [x] := by
 rw [List.take_add_one, h]; rfl
theorem drop_get {α : Type} {xs : List α} {i : Nat} {x : α} (h : xs[i]? = some x) : xs.drop i = x :: xs.drop (i + 1) := by
 have := some_lt h
 rw [List.drop_eq_getElem_cons this]
 rw [List.getElem?_eq_getElem this] at h
 cases h; rfl
theorem upd_none {σ : Sg} {D a : Addr} {v o} (h : σ D = none) (h' : upd σ D v o a = none) : σ a = none := by
 unfold upd at h'
 split at h'
 · (exfalso; cases h')
 · exact h'
theorem addE_ok {a b r : Poly} (h : addE a b = some r) : okP a = true ∧ foldO (fun f x => addT f x.1 x.2) a b = some r := by
 unfold addE at h
 cases e : okP a with
 | true => rw [e] at h; exact ⟨rfl, h⟩
 | false => rw [e] at h; (exfalso; cases h)
theorem mvadd_own (T : Tops C) {n : Nat} {a b r : Poly} {σ : Sg} {Q : V → Sg → Prop} (hn : 5 ≤ n) (ha : addE a b = some r) (hl : b.length ≤ 2000000) (h : ∀ D o, σ D = none → Q (.ref D) (upd σ D (.dct r) o)) : CallOK C n "mvadd" [.dct a, .dct b] σ Q := by
 refine ob02 (addE_ok ha) ?_; rintro hok hf
 refine CallOK.nd 0 rfl rfl fun nda => CallOK.nd 1 rfl rfl fun ndb => ?_
 rw [okP_iff] at hok
 refine def_ok T 25 rfl (by decide +kernel) (.parL (.parL (.locL (.locL (.bi (T.b 8 rfl) (.fn (T.f 26 rfl) .nil)))))) (by walk_at "om") fun env henv => ?_
 walk_at "ws"
 refine T_dict rfl (hashOk_of nda fun x hx => (hok.2 x hx).1) (sz1000 hok.1) fun D o hD => ?_
 walk_at "up1"
 walk_at "w"
 refine S_for (fun _ => rfl) (IE_dct ?_)
 walk_at "ws"
 refine (mx12 b rfl ?_)
 refine For_ix (fun i e σ' => ∃ s f o, IsVar s ∧ σ' = upd σ D (.dct f) o ∧ foldO (fun f x => addT f x.1 x.2) f (b.drop i) = some r ∧ f.length ≤ 1000 + i ∧
   e = ([("a", .val (.dct a)), ("b", .val (.dct b)), ("found", .val (.ref D)), ("powers", s), ("dict", .bi (.type "dict")), ("add_term", .fn)] : Vars)) (mx35 _ _ _ .un rfl hf (by exact li1 hok.1) rfl) ?_ ?_
 · rintro e σ' z1; refine ob35 z1 ?_; clear z1; rintro s f o' hs rfl hr hfl rfl
   rw [List.length_map, List.drop_length] at hr
   cases hr
   walk_at "ws"
   exact h D o' hD
 · rintro i v e σ' hv z1; refine ob35 z1 ?_; clear z1; rintro s f o' hs rfl hr hfl rfl
   refine ob22 (keysL hv) ?_; rintro k x hk rfl
   rw [drop_get hk] at hr
   refine ob12 (foldO_cons hr) ?_; rintro f' hf' hr'
   refine (mx12 _ (.name (up_at 3 rfl hs)) ?_)
   walk_at "w"
   refine S_exprV (by exact ki_of henv rfl) rfl ?_
   walk_at "ws"
   refine I_dct rfl (dget_of ndb (List.mem_of_getElem? hk)) ?_ (fun _ _ => rfl)
   walk_at "ws"
   have hi := some_lt hk
   refine add_term_ok T (by walk_at "om") (upd_same ..) (by rw [sizeLine_eq]; exact li3 hl hfl hi) hf' fun o'' => ?_
   walk_at "ws"
   refine ⟨fun _ hx => (nomatch hx), _, f', o'', .val, by rw [upd_upd], hr', ?_, rfl⟩
   have := addT_len hf'
   exact li2 hfl this
theorem mvadd_ok (T : Tops C) {n : Nat} {a b r : Poly} {σ : Sg} {Q : V → Sg → Prop} (hn : 5 ≤ n) (ha : addE a b = some r) (hl : b.length ≤ 2000000) (h : Q (.dct r) σ) : CallOK C n "mvadd" [.dct a, .dct b] σ Q :=
 CallOK.frz (mvadd_own T hn ha hl fun D o hD => .inr (mx33 D _ o rfl (upd_same ..) (by rw [del_upd _ _ hD]; exact h)))
theorem dput_new {p : Poly} {k : Mon} {r : Rat} (h : k ∉ p.map (·.1)) : dput p k r = p ++ [(k, r)] := by
 unfold dput; rw [dget_none.mpr h]; rfl
theorem fresh_key {a : Poly} (nda : Nd a) {i : Nat} {k : Mon} {x : Rat} (hk : a[i]? = some (k, x)) : k ∉ (a.take i).map (·.1) := by
 unfold Nd at nda
 rw [← List.take_append_drop i a, List.map_append, drop_get hk, List.map_cons, List.nodup_append] at nda
 intro hm
 exact nda.2.2 k hm k List.mem_cons_self rfl
theorem mvneg_ok (T : Tops C) {n : Nat} {a : Poly} {σ : Sg} {Q : V → Sg → Prop} (hn : 2 ≤ n) (hl : a.length ≤ 2000000) (h : Q (.dct (negE a)) σ) : CallOK C n "mvneg" [.dct a] σ Q := by
 refine CallOK.nd 0 rfl rfl fun nda => ?_
 refine def_ok T 27 rfl (by decide +kernel) (.parC .nil) (by walk_at "om") fun env henv => ?_
 walk_at "ws"
 refine E_dictcompF (fun _ => rfl) rfl (by decide +kernel) (by decide +kernel) (by decide +kernel) (.loc (.loc (.fn (T.f 19 rfl) (.free (by exact kd_of henv rfl) (by walk_at "mem") .nil)))) (IE_dct ?_)
 walk_at "ws"
 refine (mx12 a rfl (fun cenv => ?_))
 refine DictL_ix (fun i acc e σ' => ∃ s, IsVar s ∧ σ' = σ ∧ acc = negE (a.take i) ∧ e = ([(".0", .un), ("powers", s), ("rneg", .fn), ("a", .val (.dct a))] : Vars)) (mx14 _ .un rfl rfl rfl) ?_ ?_
 · rintro acc e σ' z1; refine ob14 z1 ?_; clear z1; rintro s hs rfl rfl rfl
   rw [List.length_map, List.take_length]
   exact h
 · rintro i v acc e σ' hv z1; refine ob14 z1 ?_; clear z1; rintro s hs rfl rfl rfl
   refine ob22 (keysL hv) ?_; rintro k x hk rfl
   refine (mx12 _ (.name (up_at 1 rfl hs)) ⟨fun _ => ?_, fun hc => by cases hc⟩)
   walk_at "ws"
   refine (mx12 k rfl ?_)
   walk_at "ws"
   refine I_dct rfl (dget_of nda (List.mem_of_getElem? hk)) ?_ (fun _ _ => rfl)
   walk_at "ws"
   refine rneg_ok T (by walk_at "om") ?_
   have hi := some_lt hk
   refine ⟨_, rfl, by rw [sizeLine_eq]; simp only [negE, List.length_map, List.length_take]; exact li2 hl (Nat.min_le_right i (List.length a)), fun _ hx => (nomatch hx), _, .val, rfl, ?_, rfl⟩
   rw [take_succ_get hk, dput_new]
   · unfold negE; rw [List.map_append]; rfl
   · have := fresh_key nda hk
     unfold negE
     rw [List.map_map]
     exact this
theorem negE_len (a : Poly) : (negE a).length = a.length := by simp [negE]
theorem mvsub_own (T : Tops C) {n : Nat} {a b r : Poly} {σ : Sg} {Q : V → Sg → Prop} (hn : 6 ≤ n) (ha : subE a b = some r) (hl : b.length ≤ 2000000) (h : ∀ D o, σ D = none → Q (.ref D) (upd σ D (.dct r) o)) : CallOK C n "mvsub" [.dct a, .dct b] σ Q := by
 refine def_ok T 28 rfl (by decide +kernel) (.parL (.parL (.fn (T.f 25 rfl) (.fn (T.f 27 rfl) .nil)))) (by walk_at "om") fun env henv => ?_
 walk_at "ws"
 refine mvneg_ok T (by walk_at "om") hl ?_
 walk_at "ws"
 exact mvadd_own T (by walk_at "om") ha (by rw [negE_len]; exact hl) h
theorem mvsub_ok (T : Tops C) {n : Nat} {a b r : Poly} {σ : Sg} {Q : V → Sg → Prop} (hn : 6 ≤ n) (ha : subE a b = some r) (hl : b.length ≤ 2000000) (h : Q (.dct r) σ) : CallOK C n "mvsub" [.dct a, .dct b] σ Q :=
 CallOK.frz (mvsub_own T hn ha hl fun D o hD => .inr (mx33 D _ o rfl (upd_same ..) (by rw [del_upd _ _ hD]; exact h)))
theorem mb {α β : Type} {F : α → Option β} {r : β} (x : Option α) (h : x.bind F = some r) : ∃ c, x = some c ∧ F c = some r := Option.bind_eq_some_iff.mp h
theorem ml {α β : Type} {F : α → Option β} {d : Option β} {r : β} (x : Option α) (h : x.elim d F = some r) : (x = none ∧ d = some r) ∨ ∃ c, x = some c ∧ F c = some r := by
 cases x with
 | none => exact .inl ⟨rfl, h⟩
 | some c => exact .inr ⟨c, rfl, h⟩
theorem cd {α : Type} {c : Bool} {x y r : α} (h : cond c x y = r) : (c = true ∧ x = r) ∨ (c = false ∧ y = r) := by
 cases c with
 | true => exact .inl ⟨rfl, h⟩
 | false => exact .inr ⟨rfl, h⟩
theorem mf {α : Type} {F : α → Bool} (x : Option α) (h : x.elim false F = true) : ∃ c, x = some c ∧ F c = true := by
 cases x with
 | none => cases h
 | some c => exact ⟨c, rfl, h⟩
theorem cond_some {α : Type} {c : Bool} {x : Option α} {y : α} (h : cond c x none = some y) : c = true ∧ x = some y := by
 cases c with
 | true => exact ⟨rfl, h⟩
 | false => (exfalso; cases h)
theorem E_dict1 {n : Nat} {env : Env} {e : Vars} {σ : Sg} {Q : V → Sg → Prop} {k v : Expr} {pos : Pos} (h : EE C n env e k σ fun kv σ₁ => ∃ ks, kv = itup ks ∧ EE C n env e v σ₁ fun vv σ₂ => ∃ r, vv = rv r ∧ ∀ a o, σ₂ a = none → Q (.ref a) (upd σ₂ a (.dct [(ks, r)]) o)) :
   EE C n env e (.Dict [some k] [v] pos) σ Q := E_dict (ps := [(k, v)]) (fun _ => rfl) (by simp) (by simp) h
theorem E_dict2 {n : Nat} {env : Env} {e : Vars} {σ : Sg} {Q : V → Sg → Prop} {k v k' v' : Expr} {pos : Pos} (h : EE C n env e k σ fun kv σ₁ => ∃ ks, kv = itup ks ∧ EE C n env e v σ₁ fun vv σ₂ => ∃ r, vv = rv r ∧
     EE C n env e k' σ₂ fun kv' σ₃ => ∃ ks', kv' = itup ks' ∧ EE C n env e v' σ₃ fun vv' σ₄ => ∃ r', vv' = rv r' ∧ ∀ a o, σ₄ a = none → Q (.ref a) (upd σ₄ a (.dct (dput [(ks, r)] ks' r')) o)) :
   EE C n env e (.Dict [some k, some k'] [v, v'] pos) σ Q := E_dict (ps := [(k, v), (k', v')]) (fun _ => rfl) (by simp) (by simp) h
theorem mvterm_ok (T : Tops C) {n : Nat} {k : Mon} {r : Rat} {σ : Sg} {Q : V → Sg → Prop} (hn : 1 ≤ n) (hr : r ≠ 0) (h : Q (.dct [(k, r)]) σ) : CallOK C n "mvterm" [itup k, rv r] σ Q := by
 refine def_ok T 22 rfl (by decide +kernel) (.parL (.parL (.con T.r0 .nil))) (by walk_at "om") fun env henv => ?_
 walk_at "ws"
 refine O_eqR ⟨_, rfl, fun hz => absurd (of_decide_eq_true hz) hr, fun hz => ?_⟩
 refine EV.frz (E_dict1 ?_)
 walk_at "ws"
 refine (mx12 k rfl ?_)
 walk_at "ws"
 refine (mx12 r rfl ?_)
 intro D o hD
 refine .inr (mx33 D _ o rfl (upd_same ..) ?_)
 rw [del_upd _ _ hD]
 exact h
theorem mvnumber_ok (T : Tops C) {n : Nat} {r : Rat} {m : Nat} {σ : Sg} {Q : V → Sg → Prop} (hn : 2 ≤ n) (hm : 1 ≤ m ∧ m ≤ 1000) (hr : r ≠ 0) (h : Q (.dct [(List.replicate m 0, r)]) σ) : CallOK C n "mvnumber" [rv r, .int m] σ Q := by
 refine def_ok T 23 rfl (by decide +kernel) (.parL (.parL (.fn (T.f 22 rfl) .nil))) (by walk_at "om") fun env henv => ?_
 walk_at "ws"
 refine O_mulT (xs := [.int 0]) (i := (m : Int)) (by exact il1 (cN hm.1)) (by exact il1 (cN hm.2)) (by simp; exact li1 hm.2) (by simp) ?_
 walk_at "ws"
 have e : (List.replicate (m : Int).toNat [V.int 0]).flatten = (List.replicate m (0 : Int)).map .int := by
   rw [Int.toNat_natCast]
   clear hm h
   induction m with
   | zero => rfl
   | succ m ih => rw [List.replicate_succ, List.flatten_cons, ih, List.replicate_succ, List.map_cons]; rfl
 rw [e]
 exact mvterm_ok T (by walk_at "om") hr h
theorem scaleE_ok {a r : Poly} {c : Rat} (h : scaleE a c = some r) (hc : c ≠ 0) : okP a = true ∧ okR c = true ∧ r = a.map fun x => (x.1, x.2 * c) := by
 unfold scaleE at h
 refine ob02 (cond_some h) ?_; rintro h1 h2
 rw [Bool.and_eq_true] at h1
 rw [qz_eq, decide_eq_false hc] at h2
 refine (mx03 h1.1 h1.2 ?_)
 have := Option.some.inj h2
 rw [← this]
 exact List.map_congr_left fun x _ => by rw [qmul_eq]
theorem mvscale_ok (T : Tops C) {n : Nat} {a r : Poly} {c : Rat} {σ : Sg} {Q : V → Sg → Prop} (hn : 4 ≤ n) (hc : c ≠ 0) (ha : scaleE a c = some r) (h : Q (.dct r) σ) : CallOK C n "mvscale" [.dct a, rv c] σ Q := by
 refine ob03 (scaleE_ok ha hc) ?_; rintro hok hcr rfl
 rw [okP_iff] at hok
 refine CallOK.nd 0 rfl rfl fun nda => ?_
 refine def_ok T 29 rfl (by decide +kernel) (.parC (.parC (.con T.r0 .nil))) (by walk_at "om") fun env henv => ?_
 walk_at "ws"
 refine O_eqR ⟨_, rfl, fun hz => absurd (of_decide_eq_true hz) hc, fun hz => ?_⟩
 walk_at "ws"
 refine E_dictcompF (fun _ => rfl) rfl (by decide +kernel) (by decide +kernel) (by decide +kernel) (.loc (.loc (.fn (T.f 17 rfl) (.free (by exact kd_of henv rfl) (by walk_at "mem") (.free (by exact kd_of henv rfl) (by walk_at "mem") .nil))))) (IE_dct ?_)
 walk_at "ws"
 refine (mx12 a rfl (fun cenv => ?_))
 refine DictL_ix (fun i acc e σ' => ∃ s, IsVar s ∧ σ' = σ ∧ acc = (a.take i).map (fun x => (x.1, x.2 * c)) ∧ e = ([(".0", .un), ("powers", s), ("rmul", .fn), ("a", .val (.dct a)), ("rational", .val (rv c))] : Vars)) (mx14 _ .un rfl rfl rfl) ?_ ?_
 · rintro acc e σ' z1; refine ob14 z1 ?_; clear z1; rintro s hs rfl rfl rfl
   rw [List.length_map, List.take_length]
   exact h
 · rintro i v acc e σ' hv z1; refine ob14 z1 ?_; clear z1; rintro s hs rfl rfl rfl
   refine ob22 (keysL hv) ?_; rintro k x hk rfl
   have hm := List.mem_of_getElem? hk
   refine (mx12 _ (.name (up_at 1 rfl hs)) ⟨fun _ => ?_, fun hc => by cases hc⟩)
   walk_at "ws"
   refine (mx12 k rfl ?_)
   walk_at "ws"
   refine I_dct rfl (dget_of nda hm) ?_ (fun _ _ => rfl)
   walk_at "ws"
   refine rmul_ok T (by walk_at "om") (hok.2 _ hm).2 hcr ?_
   have hi := some_lt hk
   refine ⟨_, rfl, by rw [sizeLine_eq]; simp only [List.length_map, List.length_take]; exact li2 hok.1 (Nat.min_le_right i (List.length a)), fun _ hx => (nomatch hx), _, .val, rfl, ?_, rfl⟩
   rw [take_succ_get hk, dput_new]
   · rw [List.map_append]; rfl
   · have := fresh_key nda hk
     rw [List.map_map]
     exact this
theorem madd_inj {a b s : Mon} (h1 : a.length = s.length) (h2 : b.length = s.length) (h : madd a s = madd b s) : a = b := by
 induction s generalizing a b with
 | nil => rw [List.eq_nil_of_length_eq_zero h1, List.eq_nil_of_length_eq_zero h2]
 | cons z s ih =>
   cases a with
   | nil => simp at h1
   | cons x a =>
     cases b with
     | nil => simp at h2
     | cons y b =>
       replace h := List.cons.inj (show (_ + _) :: madd _ _ = (_ + _) :: madd _ _ from h)
       rw [ih (by simpa using h1) (by simpa using h2) h.2]
       have : x = y := by exact Int.le_antisymm (il1 (iL h.1)) (il1 (iG h.1))
       rw [this]
theorem lenIs_iff {n : Nat} {a : Poly} : lenIs n a = true ↔ ∀ x ∈ a, x.1.length = n := by
 unfold lenIs; rw [List.all_eq_true]; exact forall₂_congr fun x _ => by rw [Nat.beq_eq]
theorem shiftE_ok {a r : Poly} {s : Mon} {c : Rat} (h : shiftE a s c = some r) (hc : c ≠ 0) : okP a = true ∧ okR c = true ∧ (∀ x ∈ a, x.1.length = s.length) ∧ r = a.map fun x => (madd x.1 s, x.2 * c) := by
 unfold shiftE at h
 refine ob02 (cond_some h) ?_; rintro h1 h2
 rw [Bool.and_eq_true, Bool.and_eq_true] at h1
 rw [qz_eq, decide_eq_false hc] at h2
 refine (mx04 h1.1.1 h1.1.2 (lenIs_iff.mp h1.2) ?_)
 have := Option.some.inj h2
 rw [← this]
 exact List.map_congr_left fun x _ => by rw [qmul_eq]
theorem mvshift_ok (T : Tops C) {n : Nat} {a r : Poly} {s : Mon} {c : Rat} {σ : Sg} {Q : V → Sg → Prop} (hn : 4 ≤ n) (hc : c ≠ 0) (ha : shiftE a s c = some r) (hsl : s.length ≤ 1000) (h : Q (.dct r) σ) : CallOK C n "mvshift" [.dct a, itup s, rv c] σ Q := by
 refine ob04 (shiftE_ok ha hc) ?_; rintro hok hcr hlen rfl
 rw [okP_iff] at hok
 refine CallOK.nd 0 rfl rfl fun nda => ?_
 refine def_ok T 30 rfl (by decide +kernel) (.parC (.parC (.parC (.con T.r0 .nil)))) (by walk_at "om") fun env henv => ?_
 walk_at "ws"
 refine O_eqR ⟨_, rfl, fun hz => absurd (of_decide_eq_true hz) hc, fun hz => ?_⟩
 walk_at "ws"
 refine E_dictcompF (fun _ => rfl) rfl (by decide +kernel) (by decide +kernel) (by decide +kernel) (.loc (.loc (.fn (T.f 4 rfl) (.fn (T.f 17 rfl) (.free (by exact kd_of henv rfl) (by walk_at "mem") (.free (by exact kd_of henv rfl) (by walk_at "mem") (.free (by exact kd_of henv rfl) (by walk_at "mem") .nil))))))) (IE_dct ?_)
 walk_at "ws"
 refine (mx12 a rfl (fun cenv => ?_))
 refine DictL_ix (fun i acc e σ' => ∃ t, IsVar t ∧ σ' = σ ∧ acc = (a.take i).map (fun x => (madd x.1 s, x.2 * c)) ∧ e = ([(".0", .un), ("one", t), ("powers_product", .fn), ("rmul", .fn), ("a", .val (.dct a)), ("powers", .val (itup s)), ("rational", .val (rv c))] : Vars)) (mx14 _ .un rfl rfl rfl) ?_ ?_
 · rintro acc e σ' z1; refine ob14 z1 ?_; clear z1; rintro t ht rfl rfl rfl
   rw [List.length_map, List.take_length]
   exact h
 · rintro i v acc e σ' hv z1; refine ob14 z1 ?_; clear z1; rintro t ht rfl rfl rfl
   refine ob22 (keysL hv) ?_; rintro k x hk rfl
   have hm := List.mem_of_getElem? hk
   refine (mx12 _ (.name (up_at 1 rfl ht)) ⟨fun _ => ?_, fun hc => by cases hc⟩)
   walk_at "ws"
   refine powers_product_ok T (by walk_at "om") (hlen _ hm) hsl ?_
   refine (mx12 _ rfl ?_)
   walk_at "ws"
   refine I_dct rfl (dget_of nda hm) ?_ (fun _ _ => rfl)
   walk_at "ws"
   refine rmul_ok T (by walk_at "om") (hok.2 _ hm).2 hcr ?_
   have hi := some_lt hk
   refine ⟨_, rfl, by rw [sizeLine_eq]; simp only [List.length_map, List.length_take]; exact li2 hok.1 (Nat.min_le_right i (List.length a)), fun _ hx => (nomatch hx), _, .val, rfl, ?_, rfl⟩
   rw [take_succ_get hk, dput_new]
   · rw [List.map_append]; rfl
   · have := fresh_key nda hk
     rw [List.map_map]
     intro hm'
     refine ob12 (List.mem_map.mp hm') ?_; rintro y hy e
     have : y.1 = k := madd_inj (hlen _ (List.mem_of_mem_take hy)) (hlen _ hm) e
     exact fresh_key nda hk (List.mem_map.mpr (mx12 y hy this))
theorem mulE_ok {a b r : Poly} (h : mulE a b = some r) : okP a = true ∧ okP b = true ∧ (∃ L, (∀ x ∈ a, x.1.length = L) ∧ ∀ x ∈ b, x.1.length = L) ∧ foldO (fun f x => foldO (fun f y => addT f (madd y.1 x.1) (qmul y.2 x.2)) f a) [] b = some r := by
 unfold mulE at h
 refine ob02 (cond_some h) ?_; rintro h1 h2
 rw [Bool.and_eq_true, Bool.and_eq_true, Bool.and_eq_true] at h1
 exact (mx04 h1.1.1.1 h1.1.1.2 ⟨_, lenIs_iff.mp h1.1.2, lenIs_iff.mp h1.2⟩ h2)
theorem mvmul_ok (T : Tops C) {n : Nat} {a b r : Poly} {σ : Sg} {Q : V → Sg → Prop} (hn : 5 ≤ n) (ha : mulE a b = some r) (h : Q (.dct r) σ) : CallOK C n "mvmul" [.dct a, .dct b] σ Q := by
 refine ob04 (mulE_ok ha) ?_; rintro hoa hob z1 hf; refine ob12 z1 ?_; clear z1; rintro L hla hlb
 refine CallOK.nd 0 rfl rfl fun nda => CallOK.nd 1 rfl rfl fun ndb => ?_
 rw [okP_iff] at hoa hob
 refine CallOK.frz ?_
 refine def_ok T 31 rfl (by decide +kernel) (.parL (.parL (.locL (.locL (.locL (.fn (T.f 26 rfl) (.fn (T.f 4 rfl) (.fn (T.f 17 rfl) .nil)))))))) (by walk_at "om") fun env henv => ?_
 walk_at "ws"
 refine E_dict0 fun D o hD => ?_
 walk_at "up1"
 walk_at "w"
 refine S_for (fun _ => rfl) (IE_dct ?_)
 walk_at "ws"
 refine (mx12 b rfl ?_)
 refine For_ix (fun i e σ' => ∃ s t f o, IsVar s ∧ IsVar t ∧ σ' = upd σ D (.dct f) o ∧ foldO (fun f x => foldO (fun f y => addT f (madd y.1 x.1) (qmul y.2 x.2)) f a) f (b.drop i) = some r ∧ f.length ≤ i * 1000 ∧
   e = ([("a", .val (.dct a)), ("b", .val (.dct b)), ("found", .val (.ref D)), ("powers", s), ("one", t), ("add_term", .fn), ("powers_product", .fn), ("rmul", .fn)] : Vars)) (mx46 _ _ _ _ .un .un rfl hf (by simp) rfl) ?_ ?_
 · rintro e σ' z1; refine ob46 z1 ?_; clear z1; rintro s t f o' hs ht rfl hr hfl rfl
   rw [List.length_map, List.drop_length] at hr
   cases hr
   walk_at "ws"
   exact .inr (mx33 D _ o' rfl (upd_same ..) (by rw [del_upd _ _ hD]; exact h))
 · rintro i v e σ' hv z1; refine ob46 z1 ?_; clear z1; rintro s t f o' hs ht rfl hr hfl rfl
   refine ob22 (keysL hv) ?_; rintro k x hk rfl
   have hkb := List.mem_of_getElem? hk
   have hib := some_lt hk
   rw [drop_get hk] at hr
   refine ob12 (foldO_cons hr) ?_; rintro f1 hf1 hr1
   refine (mx12 _ (.name (up_at 3 rfl hs)) ?_)
   walk_at "w"
   refine S_for (fun _ => rfl) (IE_dct ?_)
   walk_at "ws"
   refine (mx12 a rfl ?_)
   refine For_ix (fun j e σ' => ∃ t f o, IsVar t ∧ σ' = upd σ D (.dct f) o ∧ foldO (fun f y => addT f (madd y.1 k) (qmul y.2 x)) f (a.drop j) = some f1 ∧ f.length ≤ i * 1000 + j ∧
     e = ([("a", .val (.dct a)), ("b", .val (.dct b)), ("found", .val (.ref D)), ("powers", .val (itup k)), ("one", t), ("add_term", .fn), ("powers_product", .fn), ("rmul", .fn)] : Vars)) (mx35 _ _ _ ht rfl hf1 (by simpa using hfl) rfl) ?_ ?_
   · rintro e σ' z1; refine ob35 z1 ?_; clear z1; rintro t f o' ht rfl hr hfl rfl
     rw [List.length_map, List.drop_length] at hr
     cases hr
     walk_at "ws"
     refine ⟨fun _ hx => (nomatch hx), _, _, _, _, .val, ht, rfl, hr1, ?_, rfl⟩
     rw [List.length_map] at hfl
     have := hoa.1
     exact li2 hoa.1 hfl
   · rintro j v e σ' hv z1; refine ob35 z1 ?_; clear z1; rintro t f o' ht rfl hr hfl rfl
     refine ob22 (keysL hv) ?_; rintro k2 y hk2 rfl
     have hka := List.mem_of_getElem? hk2
     rw [drop_get hk2] at hr
     refine ob12 (foldO_cons hr) ?_; rintro f' hf' hr'
     refine (mx12 _ (.name (up_at 4 rfl ht)) ?_)
     walk_at "w"
     refine S_exprV (by exact ki_of henv rfl) rfl ?_
     walk_at "ws"
     refine powers_product_ok T (by walk_at "om") (by rw [hla _ hka, hlb _ hkb]) (Nat.le_trans (okK_len (hob.2 _ hkb).1) (by decide)) ?_
     walk_at "ws"
     refine I_dct rfl (dget_of nda hka) ?_ (fun _ _ => rfl)
     walk_at "ws"
     refine I_dct rfl (dget_of ndb hkb) ?_ (fun _ _ => rfl)
     walk_at "ws"
     refine rmul_ok T (by walk_at "om") (hoa.2 _ hka).2 (hob.2 _ hkb).2 ?_
     walk_at "ws"
     have hi := some_lt hk2
     rw [qmul_eq] at hf'
     have := hoa.1
     have := hob.1
     refine add_term_ok T (by walk_at "om") (upd_same ..) (by rw [sizeLine_eq]; exact li4 (aA hoa.1 (kM 1000 hob.1)) (kM 1000 hib) hfl hi) hf' fun o'' => ?_
     walk_at "ws"
     refine ⟨fun _ hx => (nomatch hx), _, f', o'', .val, by rw [upd_upd], hr', ?_, rfl⟩
     have := addT_len hf'
     exact li2 hfl this
theorem mgt_eq : ∀ a b : Mon, mgt a b = tgt a b
 | [], [] => rfl
 | [], _ :: _ => rfl
 | _ :: _, [] => rfl
 | x :: a, y :: b => by
   show cond (ieq x y) (mgt a b) (!(ile x y)) = if x = y then tgt a b else decide (x > y)
   rw [ieq_eq, ile_eq, mgt_eq a b]
   by_cases h : x = y
   · simp [h]
   · rw [decide_eq_false h, if_neg h]
     show (!decide (x ≤ y)) = _
     rw [← decide_not, decide_eq_decide]; exact Iff.intro (fun hh => (il1 (jL hh))) (fun hh => (Int.not_le_of_gt (il1 hh)))
theorem leadE_mem {p : Poly} {l : Mon × Rat} (h : leadE p = some l) : l ∈ p := by
 cases p with
 | nil => (exfalso; cases h)
 | cons x p =>
   have key : ∀ (p : Poly) (x : Mon × Rat), p.foldl (fun b y => cond (mgt y.1 b.1) y b) x ∈ x :: p := by
     intro p
     induction p with
     | nil => intro x; exact List.mem_cons_self
     | cons y p ih =>
       intro x
       rw [List.foldl_cons]
       have := ih (cond (mgt y.1 x.1) y x)
       rcases List.mem_cons.mp this with e | e
       · rw [e]
         cases mgt y.1 x.1 with
         | true => exact List.mem_cons_of_mem _ List.mem_cons_self
         | false => exact List.mem_cons_self
       · exact List.mem_cons_of_mem _ (List.mem_cons_of_mem _ e)
   have := Option.some.inj h
   rw [← this]; exact key p x
noncomputable def ldV : Ld → V
 | none => .none
 | some l => .tup [itup l.1, rv l.2]
theorem leadE_snoc {p : Poly} {l x : Mon × Rat} (h : leadE p = some l) : leadE (p ++ [x]) = some (cond (mgt x.1 l.1) x l) := by
 cases p with
 | nil => (exfalso; cases h)
 | cons y p =>
   show some ((p ++ [x]).foldl _ y) = _
   rw [List.foldl_append]
   have := Option.some.inj h
   rw [← this]; rfl
theorem mvlead_ok (T : Tops C) {n : Nat} {va : V} {p : Poly} {σ : Sg} {Q : V → Sg → Prop} (hn : 2 ≤ n) (hl : look σ va = .dct p) (h : Q (ldV (leadE p)) σ) : CallOK C n "mvlead" [va, .str "lex"] σ Q := by
 refine CallOK.nd 0 rfl hl fun nd => ?_
 refine def_ok T 32 rfl (by decide +kernel) (.parL (.parL (.locL (.locL (.locL (.locL (.fn (T.f 3 rfl) .nil))))))) (by walk_at "om") fun env henv => ?_
 walk_at "w"
 refine S_two rfl ?_
 walk_at "ws"
 walk_at "up2"
 walk_at "w"
 refine S_for (fun _ => rfl) (IE_dct ?_)
 walk_at "ws"
 refine (mx12 p hl ?_)
 refine For_ix (fun i e σ' => σ' = σ ∧ ∃ s t b, IsVar s ∧ IsVar t ∧ b = leadE (p.take i) ∧
   e = ([("a", .val va), ("order", .val (.str "lex")), ("best", .val (match b with | none => .none | some l => itup l.1)), ("highest", .val (match b with | none => .none | some l => itup l.1)), ("powers", s), ("place", t), ("order_key", .fn)] : Vars)) ⟨rfl, _, _, _, .un, .un, rfl, rfl⟩ ?_ ?_
 · rintro e σ' z1; refine ob02 z1 ?_; clear z1; rintro rfl z20; refine ob34 z20 ?_; clear z20; rintro s t b hs ht hb rfl
   rw [List.length_map, List.take_length] at hb
   subst hb
   walk_at "ws"
   cases hb : leadE p with
   | none =>
     rw [hb] at h
     refine O_isNone ⟨_, rfl, fun hc => ?_, fun hc => (by (exfalso; cases hc))⟩
     walk_at "ws"
     exact h
   | some l =>
     rw [hb] at h
     refine O_isNone ⟨_, rfl, fun hc => (by (exfalso; cases hc)), fun hc => ?_⟩
     walk_at "ws"
     refine I_dct hl (dget_of nd (leadE_mem hb)) ?_ (fun _ _ => rfl)
     walk_at "ws"
     exact h
 · rintro i v e σ' hv z1; refine ob02 z1 ?_; clear z1; rintro rfl z20; refine ob34 z20 ?_; clear z20; rintro s t b hs ht hb rfl
   refine ob22 (keysL hv) ?_; rintro k x hk rfl
   have htk := take_succ_get hk
   refine (mx12 _ (.name (up_at 4 rfl hs)) ?_)
   walk_at "ws"
   refine order_ok T (by walk_at "om") ?_
   refine asg_at 5 rfl ht ?_
   walk_at "ws"
   cases b with
   | none =>
     refine O_isNone ⟨_, rfl, ⟨fun _ => ⟨fun _ => ?_, fun hc => (by (exfalso; cases hc))⟩, fun hc => (by (exfalso; cases hc))⟩⟩
     walk_at "w"
     refine S_two rfl ?_
     walk_at "ws"
     walk_at "up2"
     walk_at "ws"
     refine ⟨fun _ _ => rfl, rfl, _, _, some (k, x), .val, .val, ?_, rfl⟩
     have : p.take i = [] := by
       cases hq : p.take i with
       | nil => rfl
       | cons y q => rw [hq] at hb; (exfalso; cases hb)
     rw [htk, this]; rfl
   | some l =>
     have hsn := leadE_snoc (x := (k, x)) hb.symm
     refine O_isNone ⟨_, rfl, ⟨fun hc => (by (exfalso; cases hc)), fun _ => ?_⟩⟩
     walk_at "ws"
     refine O_gtT ?_
     rw [← mgt_eq]
     refine ⟨_, rfl, fun hc => ?_, fun hc => ?_⟩
     · walk_at "w"
       refine S_two rfl ?_
       walk_at "ws"
       walk_at "up2"
       walk_at "ws"
       refine ⟨fun _ _ => rfl, rfl, _, _, some (k, x), .val, .val, ?_, rfl⟩
       rw [htk, hsn, hc]; rfl
     · walk_at "ws"
       refine ⟨fun _ _ => rfl, rfl, _, _, some l, .val, .val, ?_, rfl⟩
       rw [htk, hsn, hc]; rfl
theorem monicE_ok {a r : Poly} (h : monicE a = some r) : (leadE a = none ∧ r = []) ∨ ∃ l, leadE a = some l ∧ okR l.2 = true ∧ l.2 ≠ 0 ∧ scaleE a (1 / l.2) = some r := by
 unfold monicE at h
 cases e : leadE a with
 | none => rw [e] at h; cases h; exact .inl ⟨rfl, rfl⟩
 | some l =>
   rw [e] at h
   refine ob02 (cond_some h) ?_; rintro h1 h2
   rw [Bool.and_eq_true, qz_eq] at h1
   rw [qdiv_eq, eone_eq] at h2
   exact .inr (mx14 l rfl h1.1 (by simpa using h1.2) h2)
theorem inv_ne {r : Rat} (h : r ≠ 0) : 1 / r ≠ 0 := by
 rw [Rat.div_def, Rat.one_mul]
 intro z
 have := Rat.mul_inv_cancel r h
 rw [z, Rat.mul_zero] at this
 exact absurd this (by decide)
theorem mvmonic_ok (T : Tops C) {n : Nat} {a r : Poly} {σ : Sg} {Q : V → Sg → Prop} (hn : 5 ≤ n) (ha : monicE a = some r) (h : Q (.dct r) σ) : CallOK C n "mvmonic" [.dct a, .str "lex"] σ Q := by
 refine CallOK.frz ?_
 refine def_ok T 33 rfl (by decide +kernel) (.parL (.parL (.locL (.fn (T.f 32 rfl) (.fn (T.f 29 rfl) (.fn (T.f 20 rfl) .nil)))))) (by walk_at "om") fun env henv => ?_
 walk_at "ws"
 refine mvlead_ok T (by walk_at "om") rfl ?_
 walk_at "up1"
 walk_at "ws"
 rcases monicE_ok ha with ⟨hl, rfl⟩ | ⟨l, hl, h1, h2, h3⟩
 · rw [hl]
   refine O_isNone ⟨_, rfl, fun _ => ?_, fun hc => (by (exfalso; cases hc))⟩
   refine E_dict0 fun D o hD => ?_
   exact .inr (mx33 D _ o rfl (upd_same ..) (by rw [del_upd _ _ hD]; exact h))
 · rw [hl]
   refine O_isNone ⟨_, rfl, fun hc => (by (exfalso; cases hc)), fun _ => ?_⟩
   walk_at "ws"
   refine rinv_ok T (by walk_at "om") h1 h2 ?_
   walk_at "ws"
   refine mvscale_ok T (by walk_at "om") (inv_ne h2) h3 ?_
   exact .inl h
theorem longer_iff {i : Nat} {a : Poly} : longer i a = true ↔ ∀ x ∈ a, i < x.1.length := by
 unfold longer; rw [List.all_eq_true]; exact forall₂_congr fun x _ => by rw [Nat.blt_eq]
theorem degE_pmax {a : Poly} {i : Nat} (h : a ≠ []) : degE a i = pmax (a.map fun x => iat x.1 i) := by
 cases a with
 | nil => exact absurd rfl h
 | cons x p =>
   show p.foldl (fun m y => cond (ile (iat y.1 i) m) m (iat y.1 i)) (iat x.1 i) = (p.map fun x => iat x.1 i).foldl (fun m x => if x > m then x else m) (iat x.1 i)
   rw [List.foldl_map]
   congr 1
   funext m y
   rw [ile_eq]
   by_cases q : iat y.1 i ≤ m
   · rw [decide_eq_true q, if_neg (by exact Int.not_lt_of_ge (il1 q))]; rfl
   · rw [decide_eq_false q, if_pos (by exact il1 (jL q))]; rfl
theorem degree_in_ok (T : Tops C) {n : Nat} {a : Poly} {i : Nat} {σ : Sg} {Q : V → Sg → Prop} (hn : 1 ≤ n) (hl : okP a = true) (hi : longer i a = true) (h : Q (.int (degE a i)) σ) : CallOK C n "degree_in" [.dct a, .int (i : Nat)] σ Q := by
 rw [okP_iff] at hl
 have hi := longer_iff.mp hi
 refine def_ok T 34 rfl (by decide +kernel) (.parL (.parC (.bi (T.b 0 rfl) (.bi (T.b 2 rfl) .nil)))) (by walk_at "om") fun env henv => ?_
 walk_at "ws"
 refine B_len_dct rfl (sz1000 hl.1) ?_
 walk_at "ws"
 refine ⟨_, rfl, fun hc => ?_, fun hc => ?_⟩
 · have hne : a ≠ [] := fun z => by subst z; exact absurd hc (by decide)
   walk_at "ws"
   refine E_listcompF (fun _ => rfl) rfl (by decide +kernel) (by decide +kernel) (by decide +kernel) (.loc (.loc (.free (by exact kd_of henv rfl) (by walk_at "mem") .nil))) (IE_dct ?_)
   walk_at "ws"
   refine (mx12 a rfl (fun cenv => ?_))
   refine ListL_ix (fun j acc e σ' => ∃ s, IsVar s ∧ σ' = σ ∧ acc = ((a.take j).map fun x => iat x.1 i).map .int ∧ e = ([(".0", .un), ("powers", s), ("at", .val (.int (i : Nat)))] : Vars)) (mx14 _ .un rfl rfl rfl) ?_ ?_
   · rintro acc e σ' z1; refine ob14 z1 ?_; clear z1; rintro s hs rfl rfl rfl
     rw [List.length_map, List.take_length]
     walk_at "ws"
     refine B_maxL rfl (by simpa using hne) ?_
     rw [degE_pmax hne] at h
     exact h
   · rintro j v acc e σ' hv z1; refine ob14 z1 ?_; clear z1; rintro s hs rfl rfl rfl
     refine ob22 (keysL hv) ?_; rintro k x hk rfl
     have hm := List.mem_of_getElem? hk
     refine (mx12 _ (.name (up_at 1 rfl hs)) ⟨fun _ => ?_, fun hc => (by cases hc)⟩)
     walk_at "ws"
     refine I_at (hi _ hm) (Nat.le_trans (okK_len (hl.2 _ hm).1) (by decide)) ?_ (fun _ _ => rfl)
     have := some_lt hk
     refine ⟨by rw [sizeLine_eq]; simp only [List.length_map, List.length_take]; exact li2 hl.1 (Nat.min_le_right j (List.length a)), fun _ hx => (nomatch hx), _, .val, rfl, ?_, rfl⟩
     rw [take_succ_get hk, List.map_append, List.map_append]; rfl
 · have : a = [] := by
     cases a with
     | nil => rfl
     | cons x a =>
       exfalso
       have := of_decide_eq_false hc
       simp at this
   subst this
   walk_at "ws"
   exact h
noncomputable def optV : Option Nat → V
 | none => .int (-1)
 | some i => .int (i : Nat)
theorem intsDown_get {a : Int} {k i : Nat} {v : V} (h : (intsDown a k)[i]? = some v) : i < k ∧ v = .int (a - (i : Int)) := by
 have hl := some_lt h
 simp only [intsDown, List.length_map, List.length_range] at hl
 refine ⟨hl, ?_⟩
 simp only [intsDown, List.getElem?_map, List.getElem?_range hl, Option.map_some, Option.some.injEq] at h
 exact h.symm
theorem lastE_skip {a : Poly} : ∀ (n j : Nat), j ≤ n → (∀ i, n - j ≤ i → i < n → degE a i ≤ 0) → lastE a n = lastE a (n - j)
 | n, 0, _, _ => rfl
 | 0, j + 1, h, _ => by exact nF (li1 h)
 | n + 1, j + 1, h, hd => by
   have := lastE_skip (a := a) n j (by exact li1 h) fun i h1 h2 => hd i (by exact li3 h1 (sA n j) (sL (show (j + 1) ≤ (n + 1) from (li1 h)))) (by exact li1 h2)
   rw [show n + 1 - (j + 1) = n - j by exact Nat.le_antisymm (li2 (sA n j) (sL (show (j + 1) ≤ (n + 1) from (li1 h)))) (li2 (sL (show j ≤ n from (li1 h))) (sA (n + 1) (j + 1))), ← this]
   show cond (ile (degE a n) 0) (lastE a n) (some n) = _
   rw [ile_eq, decide_eq_true (hd n (by exact li1 (sL (show (j + 1) ≤ (n + 1) from (li1 h)))) (by exact li0))]; rfl
theorem lenIs_longer {n i : Nat} {a : Poly} (h : lenIs n a = true) (hi : i < n) : longer i a = true :=
 longer_iff.mpr fun x hx => by rw [lenIs_iff.mp h x hx]; exact hi
theorem last_letter_ok (T : Tops C) {n : Nat} {a : Poly} {m : Nat} {σ : Sg} {Q : V → Sg → Prop} (hn : 2 ≤ n) (hl : okP a = true) (hi : lenIs m a = true) (hm : m ≤ 1000) (h : Q (optV (lastE a m)) σ) : CallOK C n "last_letter" [.dct a, .int (m : Nat)] σ Q := by
 refine def_ok T 35 rfl (by decide +kernel) (.parL (.parL (.locL (.bi (T.b 9 rfl) (.fn (T.f 34 rfl) .nil))))) (by walk_at "om") fun env henv => ?_
 walk_at "w"
 refine S_for (fun _ => rfl) (IE_range3 (by walk_at "mem") rfl ?_)
 walk_at "ws"
 refine (mx14 ((m : Int) - 1) rfl (by exact il1 (cN hm)) (by exact il1 (c0 m)) ?_)
 have hm' : ((m : Int) - 1 + 1).toNat = m := by omega
 rw [hm']
 refine For_ix (fun j e σ' => ∃ s, IsVar s ∧ σ' = σ ∧ j ≤ m ∧ (∀ i, m - j ≤ i → i < m → degE a i ≤ 0) ∧ e = ([("a", .val (.dct a)), ("n", .val (.int (m : Nat))), ("at", s), ("range", .bi (.type "range")), ("degree_in", .fn)] : Vars)) (mx15 _ .un rfl (by exact li0) (fun i h1 h2 => by exact jF (il3 (cN h1) (cL h2) (cN (sA m 0)))) rfl) ?_ ?_
 · rintro e σ' z1; refine ob15 z1 ?_; clear z1; rintro s hs rfl hj hd rfl
   have hlen : (intsDown ((m : Int) - 1) m).length = m := by simp [intsDown]
   rw [hlen] at hd
   rw [lastE_skip m m (Nat.le_refl _) hd, Nat.sub_self] at h
   walk_at "ws"
   exact h
 · rintro j v e σ' hv z1; refine ob15 z1 ?_; clear z1; rintro s hs rfl hj hd rfl
   refine ob02 (intsDown_get hv) ?_; rintro hjm rfl
   refine (mx12 _ (.name (up_at 2 rfl hs)) ?_)
   have e1 : (m : Int) - 1 - (j : Int) = ((m - 1 - j : Nat) : Int) := by omega
   rw [e1]
   walk_at "ws"
   refine degree_in_ok T (by walk_at "om") hl (lenIs_longer hi (by exact nD (il2 (iG e1) (c0 j)))) ?_
   walk_at "ws"
   refine ⟨_, rfl, fun hc => ?_, fun hc => ?_⟩
   · walk_at "ws"
     have hgt := of_decide_eq_true hc
     rw [lastE_skip m j (by walk_at "om") hd, show m - j = (m - 1 - j) + 1 by exact Nat.le_antisymm (nC (il2 (iL e1) (cN (sL (show j ≤ m from (li1 hjm)))))) (nC (il2 (iG e1) (cN (sA m j))))] at h
     have e2 : lastE a (m - 1 - j + 1) = some (m - 1 - j) := by
       show cond (ile (degE a (m - 1 - j)) 0) _ _ = _
       rw [ile_eq, decide_eq_false (by exact Int.not_le_of_gt (il1 hgt))]; rfl
     rw [e2] at h
     exact h
   · walk_at "ws"
     have hle := of_decide_eq_false hc
     refine ⟨fun _ hx => (nomatch hx), _, .val, rfl, by exact li1 hjm, fun i h1 h2 => ?_, rfl⟩
     by_cases q : i = m - 1 - j
     · rw [q]; exact il1 (jG hle)
     · exact hd i (by walk_at "om") h2
theorem set_tup {k : Mon} {i : Nat} {x : Int} (h : i < k.length) : ((k.map V.int).take i ++ [V.int x]) ++ (k.map V.int).drop (i + 1) = (k.set i x).map .int := by
 rw [List.map_set, List.set_eq_take_append_cons_drop, if_pos (by simpa using h)]
 simp
theorem putE_eq {p : Poly} {k : Mon} {r : Rat} (nd : Nd p) : putE p k r = dput p k r := by
 induction p with
 | nil => rfl
 | cons x p ih =>
   obtain ⟨k', r'⟩ := x
   dsimp only [putE]
   rw [dput_cons nd, meq_eq, ih nd.tail.2]
   by_cases e : k' = k
   · subst e; simp
   · simp [e]
structure Rows (σ : Sg) (L : Addr) (Ds : List Addr) (ps : List Poly) (σ' : Sg) : Prop where
 len : Ds.length = ps.length
 lst : ∃ o, σ' L = some (.lst (Ds.map .ref), o)
 at' : ∀ (j : Nat) D p, Ds[j]? = some D → ps[j]? = some p → ∃ o, σ' D = some (.dct p, o)
 nodup : (L :: Ds).Nodup
 old : ∀ a ∈ L :: Ds, σ a = none
 rest : ∀ a, a ∉ L :: Ds → σ' a = σ a
theorem Rows.set {σ σ' : Sg} {L : Addr} {Ds : List Addr} {ps : List Poly} (h : Rows σ L Ds ps σ') {j : Nat} {D : Addr} {p : Poly} {o : Obj} (hD : Ds[j]? = some D) : Rows σ L Ds (ps.set j p) (upd σ' D (.dct p) o) := by
 obtain ⟨h1, ⟨ol, h2⟩, h3, h4, h5, h6⟩ := h
 have hmem := List.mem_of_getElem? hD
 have hjl := some_lt hD
 rw [List.nodup_cons] at h4
 refine ⟨by rw [List.length_set]; exact h1, ⟨ol, ?_⟩, fun i D' p' hD' hp' => ?_, by rw [List.nodup_cons]; exact h4, h5, fun a ha => ?_⟩
 · rw [upd_ne]
   · exact h2
   · rintro rfl; exact h4.1 hmem
 · by_cases q : i = j
   · subst q
     rw [hD] at hD'; cases hD'
     rw [List.getElem?_set_self (by exact li2 (eL h1) hjl)] at hp'
     cases hp'
     exact ⟨o, upd_same ..⟩
   · have hne : D' ≠ D := by
       rintro rfl
       have hil := some_lt hD'
       rw [List.getElem?_eq_getElem hil] at hD'
       rw [List.getElem?_eq_getElem hjl] at hD
       exact q ((List.getElem_inj h4.2).mp ((Option.some.inj hD').trans (Option.some.inj hD).symm))
     rw [List.getElem?_set_ne (Ne.symm q)] at hp'
     rw [upd_ne _ _ _ hne]
     exact h3 i D' p' hD' hp'
 · rw [upd_ne]
   · exact h6 a ha
   · rintro rfl; exact ha (List.mem_cons_of_mem _ hmem)
theorem del_ne (σ : Sg) {a b : Addr} (h : b ≠ a) : del σ a b = σ b := by simp [del, h]
theorem del_same (σ : Sg) (a : Addr) : del σ a a = none := by simp [del]
theorem deeps_refs : ∀ {Ds : List Addr} {ps : List Poly} {σ₁ σ : Sg}, Ds.length = ps.length → (∀ (j : Nat) D p, Ds[j]? = some D → ps[j]? = some p → ∃ o, σ₁ D = some (.dct p, o)) → Ds.Nodup → (∀ a ∈ Ds, σ a = none) → (∀ a, a ∉ Ds → σ₁ a = σ a) →
   Deeps σ₁ (Ds.map .ref) (ps.map .dct) σ
 | [], [], σ₁, σ, _, _, _, _, hr => by
   have : σ₁ = σ := by funext a; exact hr a (by simp)
   rw [this]; exact .nil
 | D :: Ds, p :: ps, σ₁, σ, hl, ha, nd, ho, hr => by
   rw [List.nodup_cons] at nd
   refine ob11 (ha 0 D p rfl rfl) ?_; rintro o hD
   refine .cons (.dct hD) (deeps_refs (by simpa using hl) (fun j D' p' h1 h2 => ?_) nd.2 (fun a h => ho a (List.mem_cons_of_mem _ h)) fun a h => ?_)
   · refine ob11 (ha (j + 1) D' p' h1 h2) ?_; rintro o' h'
     refine ⟨o', ?_⟩
     rw [del_ne]
     · exact h'
     · rintro rfl; exact nd.1 (List.mem_of_getElem? h1)
   · by_cases q : a = D
     · subst q; rw [del_same, ho a List.mem_cons_self]
     · rw [del_ne _ q]
       exact hr a (by simp [q, h])
theorem Rows.deep {σ σ' : Sg} {L : Addr} {Ds : List Addr} {ps : List Poly} (h : Rows σ L Ds ps σ') : Deep σ' (.ref L) (.lst (ps.map .dct)) σ := by
 obtain ⟨h1, ⟨ol, h2⟩, h3, h4, h5, h6⟩ := h
 rw [List.nodup_cons] at h4
 refine .lst h2 (deeps_refs h1 (fun j D p hD hp => ?_) h4.2 (fun a ha => h5 a (List.mem_cons_of_mem _ ha)) fun a ha => ?_)
 · refine ob11 (h3 j D p hD hp) ?_; rintro o ho
   refine ⟨o, ?_⟩
   rw [del_ne]
   · exact ho
   · rintro rfl; exact h4.1 (List.mem_of_getElem? hD)
 · by_cases q : a = L
   · subst q; rw [del_same, h5 a List.mem_cons_self]
   · rw [del_ne _ q]; exact h6 a (by simp [q, ha])
structure Rows0 (σ : Sg) (Ds : List Addr) (σ' : Sg) : Prop where
 at' : ∀ D ∈ Ds, ∃ o, σ' D = some (.dct [], o)
 nodup : Ds.Nodup
 old : ∀ a ∈ Ds, σ a = none
 rest : ∀ a, a ∉ Ds → σ' a = σ a
theorem Rows0.nil (σ : Sg) : Rows0 σ [] σ := ⟨(fun D h => nomatch h), List.nodup_nil, (fun D h => nomatch h), fun a _ => rfl⟩
theorem Rows0.snoc {σ σ' : Sg} {Ds : List Addr} (h : Rows0 σ Ds σ') {D : Addr} {o : Obj} (hD : σ' D = none) : Rows0 σ (Ds ++ [D]) (upd σ' D (.dct []) o) := by
 have hn : D ∉ Ds := fun hm => by refine ob11 (h.at' D hm) ?_; rintro o ho; rw [hD] at ho; cases ho
 refine ⟨fun D' hm => ?_, ?_, fun a ha => ?_, fun a ha => ?_⟩
 · rcases List.mem_append.mp hm with hm1 | hm1
   · refine ob11 (h.at' D' hm1) ?_; rintro o' ho'
     refine ⟨o', ?_⟩
     rw [upd_ne]
     · exact ho'
     · intro q; exact hn (q ▸ hm1)
   · rw [List.mem_singleton.mp hm1]; exact ⟨o, upd_same ..⟩
 · rw [List.nodup_append]
   refine (mx03 h.nodup (by simp) (fun x hx y hy => ?_))
   rw [List.mem_singleton.mp hy]
   rintro rfl; exact hn hx
 · rcases List.mem_append.mp ha with ha | ha
   · exact h.old a ha
   · rw [List.mem_singleton.mp ha, ← h.rest D hn]; exact hD
 · rw [upd_ne]
   · exact h.rest a fun hm => ha (List.mem_append_left _ hm)
   · rintro rfl; exact ha (List.mem_append_right _ List.mem_cons_self)
theorem Rows0.rows {σ σ' : Sg} {Ds : List Addr} (h : Rows0 σ Ds σ') {L : Addr} {o : Obj} (hL : σ' L = none) : Rows σ L Ds (List.replicate Ds.length []) (upd σ' L (.lst (Ds.map .ref)) o) := by
 have hn : L ∉ Ds := fun hm => by refine ob11 (h.at' L hm) ?_; rintro o ho; rw [hL] at ho; cases ho
 refine ⟨by simp, ⟨o, upd_same ..⟩, fun j D p hD hp => ?_, List.nodup_cons.mpr ⟨hn, h.nodup⟩, fun a ha => ?_, fun a ha => ?_⟩
 · have hm := List.mem_of_getElem? hD
   refine ob11 (h.at' D hm) ?_; rintro o' ho'
   have : p = [] := by
     have := List.mem_of_getElem? hp
     exact (List.mem_replicate.mp this).2
   subst this
   refine ⟨o', ?_⟩
   rw [upd_ne]
   · exact ho'
   · rintro rfl; exact hn hm
 · rcases List.mem_cons.mp ha with rfl | ha
   · rw [← h.rest a hn]; exact hL
   · exact h.old a ha
 · rw [upd_ne]
   · exact h.rest a fun hm => ha (List.mem_cons_of_mem _ hm)
   · rintro rfl; exact ha List.mem_cons_self
theorem dput_keys {p : Poly} {k : Mon} {r : Rat} (h : (dget p k).isSome = true) : (dput p k r).map (·.1) = p.map (·.1) := by
 unfold dput; rw [if_pos h, List.map_map]
 exact List.map_congr_left fun x _ => by simp only [Function.comp]; split <;> rfl
theorem Nd.dput {p : Poly} {k : Mon} {r : Rat} (h : Nd p) : Nd (dput p k r) := by
 cases e : dget p k with
 | some r' => unfold Nd; rw [dput_keys (by rw [e]; rfl)]; exact h
 | none =>
   have hn := dget_none.mp e
   unfold Nd
   rw [dput_new hn, List.map_append, List.nodup_append]
   refine (mx03 h (by simp) (fun x hx y hy => ?_))
   have : y = k := by simpa using hy
   subst this
   rintro rfl; exact hn hx
theorem dput_len {p : Poly} {k : Mon} {r : Rat} : (dput p k r).length ≤ p.length + 1 := by
 unfold dput; split <;> simp
theorem pmax_ge : ∀ {ks : List Int} {k : Int}, k ∈ ks → k ≤ pmax ks := by
 have key : ∀ (ks : List Int) (m : Int), m ≤ ks.foldl (fun m x => if x > m then x else m) m ∧ ∀ k ∈ ks, k ≤ ks.foldl (fun m x => if x > m then x else m) m := by
   intro ks
   induction ks with
   | nil => intro m; exact ⟨Int.le_refl _, fun k hk => nomatch hk⟩
   | cons x ks ih =>
     intro m
     rw [List.foldl_cons]
     refine ob02 (ih (if x > m then x else m)) ?_; rintro h1 h2
     refine ⟨Int.le_trans (by split <;> omega) h1, fun k hk => ?_⟩
     rcases List.mem_cons.mp hk with rfl | hk
     · exact Int.le_trans (by split <;> omega) h1
     · exact h2 k hk
 intro ks k hk
 cases ks with
 | nil => (exfalso; cases hk)
 | cons x ks =>
   show k ≤ ks.foldl _ x
   rcases List.mem_cons.mp hk with rfl | hk
   · exact (key ks k).1
   · exact (key ks x).2 k hk
theorem pmax_mem : ∀ {ks : List Int}, ks ≠ [] → pmax ks ∈ ks := by
 have key : ∀ (ks : List Int) (m : Int), ks.foldl (fun m x => if x > m then x else m) m ∈ m :: ks := by
   intro ks
   induction ks with
   | nil => intro m; simp
   | cons x ks ih =>
     intro m
     rw [List.foldl_cons]
     rcases List.mem_cons.mp (ih (if x > m then x else m)) with h | h
     · rw [h]; split <;> simp
     · exact List.mem_cons_of_mem _ (List.mem_cons_of_mem _ h)
 intro ks h
 cases ks with
 | nil => exact absurd rfl h
 | cons x ks => exact key ks x
theorem okK_at {k : Mon} (h : okK k = true) {i : Nat} (hi : i < k.length) : 0 ≤ iat k i ∧ iat k i < 16 := by
 have go : ∀ {m : Nat}, m < 16 → 0 ≤ Int.ofNat m ∧ Int.ofNat m < 16 := fun {m} h => ⟨Int.natCast_nonneg m, Int.ofNat_lt.2 h⟩
 revert hi
 refine okK_on h (fun x y hx hy hi => ?_) fun x y z hx hy hz hi => ?_
 · exact lt2 hi (go hx) (go hy)
 · exact lt3 hi (go (Nat.lt_trans hx (by decide))) (go (Nat.lt_trans hy (by decide))) (go (Nat.lt_trans hz (by decide)))
theorem degE_ge {a : Poly} {i : Nat} {x : Mon × Rat} (hx : x ∈ a) : iat x.1 i ≤ degE a i := by
 rw [degE_pmax (fun z => by subst z; cases hx)]
 exact pmax_ge (List.mem_map.mpr (mx12 x hx rfl))
theorem degE_lt {a : Poly} {i : Nat} (h : okP a = true) (hi : longer i a = true) : -1 ≤ degE a i ∧ degE a i < 16 := by
 cases a with
 | nil => exact ⟨by show (-1 : Int) ≤ -1; decide, by show (-1 : Int) < 16; decide⟩
 | cons y p =>
   rw [degE_pmax (by simp)]
   have := pmax_mem (ks := (y :: p).map fun x => iat x.1 i) (by simp)
   refine ob12 (List.mem_map.mp this) ?_; rintro x hx e
   rw [← e]
   have := okK_at ((okP_iff.mp h).2 x hx).1 (longer_iff.mp hi x hx)
   exact ⟨(il1 this.1), (il1 this.2)⟩
noncomputable def byStep (i : Nat) (rows : List Poly) (x : Mon × Rat) : List Poly := rows.set (iat x.1 i).toNat (putE (rows.getD (iat x.1 i).toNat []) (setAt x.1 i 0) x.2)
theorem byStep_len (i : Nat) : ∀ (a : Poly) (rows : List Poly), (a.foldl (byStep i) rows).length = rows.length
 | [], _ => rfl
 | x :: a, rows => by rw [List.foldl_cons, byStep_len i a]; simp [byStep]
theorem byE_eq (a : Poly) (i : Nat) : byE a i = a.foldl (byStep i) (List.replicate (degE a i + 1).toNat []) := rfl
theorem int_toNat_seq {z : Int} {n : Nat} (h0 : 0 ≤ z) (h : z < (n : Int)) : seqIndex? z n = some z.toNat := by
 have := seq_at (i := z.toNat) (n := n) (by exact nD (il2 h (tL (show 0 ≤ z from (il1 h0)))))
 rwa [Int.toNat_of_nonneg h0] at this
theorem by_letter_ok (T : Tops C) {n : Nat} {a : Poly} {i : Nat} {σ : Sg} {Q : V → Sg → Prop} (hn : 2 ≤ n) (hl : okP a = true) (hi : longer i a = true) (hi2 : i < 3) (h : Q (.lst ((byE a i).map .dct)) σ) : CallOK C n "by_letter" [.dct a, .int (i : Nat)] σ Q := by
 refine CallOK.nd 0 rfl rfl fun nda => CallOK.deep ?_
 have hok := okP_iff.mp hl
 have hd := degE_lt hl hi
 refine def_ok T 36 rfl (by decide +kernel) (.parL (.parL (.locL (.locL (.bi (T.b 9 rfl) (.fn (T.f 34 rfl) .nil)))))) (by walk_at "om") fun env henv => ?_
 walk_at "w"
 refine S_assign_listcomp (by exact sw_of henv rfl) (by exact kd_of henv rfl) (fun _ => rfl) rfl (by decide +kernel) (by decide +kernel) (by decide +kernel) (.loc (.loc .nil)) ?_
 refine IE_range1 (by walk_at "mem") rfl ?_
 walk_at "ws"
 refine degree_in_ok T (by walk_at "om") hl hi ?_
 walk_at "ws"
 refine (mx14 _ rfl (by exact il1 hd.2) (by exact il1 hd.1) (fun cenv => ?_))
 refine ListL_ix (fun j acc e σ' => ∃ s Ds, IsVar s ∧ acc = Ds.map .ref ∧ Ds.length = j ∧ Rows0 σ Ds σ' ∧ e = ([(".0", .un), ("power", s)] : Vars)) (mx25 _ [] .un rfl rfl (Rows0.nil σ) rfl) ?_ ?_
 · rintro acc e σ' z1 L o hL; refine ob25 z1 ?_; clear z1; rintro s Ds hs rfl hlen hR rfl
   have hlen : Ds.length = (degE a i + 1).toNat := by rw [hlen]; simp [rInts]
   have hR := hR.rows (o := o) hL
   rw [hlen] at hR
   walk_at "up1"
   walk_at "w"
   refine S_for (fun _ => rfl) (IE_dct ?_)
   walk_at "ws"
   refine (mx12 a rfl ?_)
   refine For_ix (fun j e σ' => ∃ s ps, IsVar s ∧ Rows σ L Ds ps σ' ∧ ps = (a.take j).foldl (byStep i) (List.replicate (degE a i + 1).toNat []) ∧ (∀ p ∈ ps, Nd p ∧ p.length ≤ j) ∧
     e = ([("a", .val (.dct a)), ("at", .val (.int (i : Nat))), ("rows", .val (.ref L)), ("powers", s), ("range", .bi (.type "range")), ("degree_in", .fn)] : Vars)) (mx25 _ _ .un hR rfl (fun p hp => ?_) rfl) ?_ ?_
   · rw [(List.mem_replicate.mp hp).2]; exact ⟨List.nodup_nil, Nat.le_refl _⟩
   · rintro e σ'' z1; refine ob25 z1 ?_; clear z1; rintro s ps hs hR hps hnd rfl
     rw [List.length_map, List.take_length, ← byE_eq] at hps
     subst hps
     walk_at "ws"
     exact (mx22 _ _ hR.deep h)
   · rintro j v e σ'' hv z1; refine ob25 z1 ?_; clear z1; rintro s ps hs hR hps hnd rfl
     refine ob22 (keysL hv) ?_; rintro k x hk rfl
     have hm := List.mem_of_getElem? hk
     have hj := some_lt hk
     have hki : i < k.length := longer_iff.mp hi _ hm
     have hkl : k.length ≤ 3 := okK_len (hok.2 _ hm).1
     have hat : 0 ≤ iat k i ∧ iat k i < 16 := okK_at (hok.2 _ hm).1 hki
     have hge : iat k i ≤ degE a i := degE_ge (i := i) hm
     have hpl : ps.length = (degE a i + 1).toNat := by rw [hps, byStep_len]; simp
     have hDl := hR.len
     have hix : (iat k i).toNat < ps.length := by have := hat.1; exact nD (il4 hge (cN (eG hpl)) (tG (degE a i + 1)) (tL (show 0 ≤ (iat k i) from (il1 hat.1))))
     obtain ⟨D, hD⟩ : ∃ D, Ds[(iat k i).toNat]? = some D := ⟨_, List.getElem?_eq_getElem (by exact li3 (eG hlen) (eL hpl) hix)⟩
     have hp := List.getElem?_eq_getElem hix
     refine ob11 (hR.at' _ _ _ hD hp) ?_; rintro oD hoD
     have hpm := hnd _ (List.mem_of_getElem? hp)
     refine (mx12 _ (.name (up_at 3 rfl hs)) ?_)
     walk_at "w"
     refine S_setitem rfl ?_
     walk_at "ws"
     refine I_dct rfl (dget_of nda hm) ?_ (fun _ _ => rfl)
     walk_at "ws"
     refine I_at hki (Nat.le_trans hkl (by decide)) ?_ (fun _ _ => rfl)
     refine ob11 hR.lst ?_; rintro oL hoL
     refine I_lst (xs := Ds.map .ref) (look_own hoL) (sz1000 (by rw [List.length_map]; exact nC (il3 hd.2 (cN (eL hlen)) (tL (show 0 ≤ (degE a i + 1) from (il1 hd.1)))))) (int_toNat_seq hat.1 (by rw [List.length_map]; show iat k i < _; exact il4 (cN (eG hlen)) (cN (eL hpl)) (cL hix) (tG (iat k i)))) (x := .ref D) (by rw [List.getElem?_map]; show (Ds[(iat k i).toNat]?).map _ = _; rw [hD]; rfl) ?_ (fun _ _ => rfl)
     refine E_bin (E_bin (E_tupto (fun _ _ => rfl) ?_))
     walk_at "ws"
     refine (mx25 _ i rfl rfl (by rw [List.length_map]; exact hki) (sz1000 (by rw [List.length_map]; exact li1 hkl)) ?_)
     walk_at "ws"
     refine O_addT (sz1000 (by simp; exact li2 hi2 (Nat.min_le_left i k.length))) (E_tfrom (fun _ _ => rfl) ?_)
     walk_at "ws"
     refine (mx26 (k.map .int) (i + 1) rfl rfl (by exact li0) (by rw [List.length_map]; exact li1 hki) (sz1000 (by rw [List.length_map]; exact li1 hkl)) ?_)
     refine O_addT (sz1000 (by simp; exact li3 hkl (Nat.min_le_left i k.length) (sL (show (i + 1) ≤ k.length from (li1 hki))))) ?_
     rw [set_tup hki]
     refine O_set hoD (sz1000 (by exact li3 hok.1 hj hpm.2)) fun o' => ?_
     walk_at "ws"
     refine ⟨fun _ hx => (nomatch hx), _, _, .val, hR.set hD, ?_, ?_, rfl⟩
     · rw [take_succ_get hk, List.foldl_append, ← hps]
       show ps.set _ _ = ps.set _ _
       have e1 : ps.getD (iat k i).toNat [] = ps[(iat k i).toNat] := by simp [List.getD_eq_getElem?_getD, hix]
       rw [e1, putE_eq hpm.1]; rfl
     · intro q hq
       rcases List.mem_or_eq_of_mem_set hq with hq | rfl
       · have := hnd q hq; exact ⟨this.1, by exact li1 this.2⟩
       · exact ⟨hpm.1.dput, Nat.le_trans dput_len (by exact li1 hpm.2)⟩
 · rintro j v acc e σ' hv z1; refine ob25 z1 ?_; clear z1; rintro s Ds hs rfl hlen hR rfl
   have hjl := some_lt hv
   have hjl : j < (degE a i + 1).toNat := by simpa [rInts] using hjl
   refine (mx12 _ (.name (up_at 1 rfl hs)) ⟨fun _ => ?_, fun hc => (by cases hc)⟩)
   refine E_dict0 fun D o hD => ?_
   refine ⟨sz1000 (by rw [List.length_map]; exact nC (il4 hd.2 (cN (eL hlen)) (cL hjl) (tL (show 0 ≤ (degE a i + 1) from (il1 hd.1))))), fun _ hx => (nomatch hx), _, Ds ++ [D], .val, by simp, by simp [hlen], hR.snoc hD, rfl⟩
theorem fromGo_ok {i j : Nat} {row : Poly} {rows : List Poly} {f r : Poly} (h : fromGo i j (row :: rows) f = some r) : ∃ f', foldO (fun f x => addT f (setAt x.1 i (iat x.1 i + j)) x.2) f row = some f' ∧ fromGo i (j + 1) rows f' = some r := by
 dsimp only [fromGo] at h
 split at h
 · (exfalso; cases h)
 · rename_i f' e; exact (mx12 f' e h)
theorem okRow_iff {i : Nat} {rows : List Poly} : okRow i rows = true ↔ ∀ r ∈ rows, okP r = true ∧ longer i r = true := by
 unfold okRow; rw [List.all_eq_true]; exact forall₂_congr fun x _ => by rw [Bool.and_eq_true]
theorem dctsL {ps : List Poly} {i : Nat} {v : V} (h : (ps.map V.dct)[i]? = some v) : ∃ p, ps[i]? = some p ∧ v = .dct p := by
 rw [List.getElem?_map] at h
 refine ob12 (Option.map_eq_some_iff.mp h) ?_; rintro q hq rfl
 exact (mx12 q hq rfl)
theorem from_letter_ok (T : Tops C) {n : Nat} {rows : List Poly} {r : Poly} {i : Nat} {σ : Sg} {Q : V → Sg → Prop} (hn : 5 ≤ n) (hrow : okRow i rows = true) (hlen : rows.length ≤ 1000) (hi2 : i < 3) (hr : fromE rows i = some r)
   (h : Q (.dct r) σ) : CallOK C n "from_letter" [.lst (rows.map .dct), .int (i : Nat)] σ Q := by
 have hrow := okRow_iff.mp hrow
 refine CallOK.nds 0 (ps := rows) rfl rfl fun nds => CallOK.frz ?_
 refine def_ok T 37 rfl (by decide +kernel) (.parL (.parL (.locL (.locL (.locL (.locL (.bi (T.b 10 rfl) (.fn (T.f 26 rfl) .nil)))))))) (by walk_at "om") fun env henv => ?_
 walk_at "ws"
 refine E_dict0 fun D o hD => ?_
 walk_at "up1"
 walk_at "w"
 refine S_for (fun _ => rfl) ?_
 refine IE_enum (by walk_at "mem") rfl ?_
 walk_at "ws"
 refine (mx12 _ (.inr rfl) ?_)
 refine For_ix (fun j e σ' => ∃ s t u f o, IsVar s ∧ IsVar t ∧ IsVar u ∧ σ' = upd σ D (.dct f) o ∧ fromGo i j (rows.drop j) f = some r ∧ f.length ≤ j * 1000 ∧
   e = ([("rows", .val (.lst (rows.map .dct))), ("at", .val (.int (i : Nat))), ("found", .val (.ref D)), ("power", s), ("row", t), ("powers", u), ("enumerate", .bi (.type "enumerate")), ("add_term", .fn)] : Vars))
   (mx57 _ _ _ _ _ .un .un .un rfl hr (by simp) rfl) ?_ ?_
 · rintro e σ' z1; refine ob57 z1 ?_; clear z1; rintro s t u f o' hs ht hu rfl hr hfl rfl
   have : (enumV (rows.map V.dct)).length = rows.length := by simp [enumV]
   rw [this, List.drop_length] at hr
   have hr : some f = some r := hr
   cases hr
   walk_at "ws"
   exact .inr (mx33 D _ o' rfl (upd_same ..) (by rw [del_upd _ _ hD]; exact h))
 · rintro j v e σ' hv z1; refine ob57 z1 ?_; clear z1; rintro s t u f o' hs ht hu rfl hr hfl rfl
   refine ob12 (enumV_get hv) ?_; rintro y hy rfl
   refine ob12 (dctsL hy) ?_; rintro row hrw rfl
   rw [drop_get hrw] at hr
   refine ob12 (fromGo_ok hr) ?_; rintro f1 hf1 hr1
   have hrm := List.mem_of_getElem? hrw
   have ndr := nds _ hrm
   have hjl := some_lt hrw
   refine ob02 (hrow _ hrm) ?_; rintro hokr hlong
   have hok := okP_iff.mp hokr
   have hlong := longer_iff.mp hlong
   refine (mx12 _ (.two (up_at 3 rfl hs) (up_at 4 rfl ht)) ?_)
   walk_at "w"
   refine S_for (fun _ => rfl) (IE_dct ?_)
   walk_at "ws"
   refine (mx12 row rfl ?_)
   refine For_ix (fun l e σ' => ∃ u f o, IsVar u ∧ σ' = upd σ D (.dct f) o ∧ foldO (fun f x => addT f (setAt x.1 i (iat x.1 i + j)) x.2) f (row.drop l) = some f1 ∧ f.length ≤ j * 1000 + l ∧
     e = ([("rows", .val (.lst (rows.map .dct))), ("at", .val (.int (i : Nat))), ("found", .val (.ref D)), ("power", .val (.int (j : Nat))), ("row", .val (.dct row)), ("powers", u), ("enumerate", .bi (.type "enumerate")), ("add_term", .fn)] : Vars))
     (mx35 _ _ _ hu rfl hf1 (by simpa using hfl) rfl) ?_ ?_
   · rintro e σ' z1; refine ob35 z1 ?_; clear z1; rintro u f o' hu rfl hr hfl rfl
     rw [List.length_map, List.drop_length] at hr
     cases hr
     walk_at "ws"
     refine ⟨fun _ hx => (nomatch hx), _, _, _, _, _, .val, .val, hu, rfl, hr1, ?_, rfl⟩
     rw [List.length_map] at hfl
     have := hok.1
     exact li2 hok.1 hfl
   · rintro l v e σ' hv z1; refine ob35 z1 ?_; clear z1; rintro u f o' hu rfl hr hfl rfl
     refine ob22 (keysL hv) ?_; rintro k x hk rfl
     have hkm := List.mem_of_getElem? hk
     have hki : i < k.length := hlong _ hkm
     have hkl : k.length ≤ 3 := okK_len (hok.2 _ hkm).1
     have hll := some_lt hk
     have := hok.1
     rw [drop_get hk] at hr
     refine ob12 (foldO_cons hr) ?_; rintro f' hf' hr'
     refine (mx12 _ (.name (up_at 5 rfl hu)) ?_)
     walk_at "w"
     refine S_exprV (by exact ki_of henv rfl) rfl ?_
     walk_at "w"
     walk_at "w"
     walk_at "w"
     walk_at "w"
     refine E_bin (E_bin (E_tupto (fun _ _ => rfl) ?_))
     walk_at "ws"
     refine (mx25 _ i rfl rfl (by rw [List.length_map]; exact hki) (sz1000 (by rw [List.length_map]; exact li1 hkl)) ?_)
     walk_at "ws"
     refine I_at hki (Nat.le_trans hkl (by decide)) ?_ (fun _ _ => rfl)
     walk_at "ws"
     refine O_addT (sz1000 (by simp; exact li2 hi2 (Nat.min_le_left i k.length))) (E_tfrom (fun _ _ => rfl) ?_)
     walk_at "ws"
     refine (mx26 (k.map .int) (i + 1) rfl rfl (by exact li0) (by rw [List.length_map]; exact li1 hki) (sz1000 (by rw [List.length_map]; exact li1 hkl)) ?_)
     refine O_addT (sz1000 (by simp; exact li3 hkl (Nat.min_le_left i k.length) (sL (show (i + 1) ≤ k.length from (li1 hki))))) ?_
     rw [set_tup hki]
     walk_at "ws"
     refine I_dct rfl (dget_of ndr hkm) ?_ (fun _ _ => rfl)
     walk_at "ws"
     refine add_term_ok T (by walk_at "om") (upd_same ..) (by rw [sizeLine_eq]; exact li4 (aA (kM 1000 hlen) (kM 1000 hjl)) hok.1 hfl hll) hf' fun o'' => ?_
     walk_at "ws"
     refine ⟨fun _ hx => (nomatch hx), _, f', o'', .val, by rw [upd_upd], hr', ?_, rfl⟩
     have := addT_len hf'
     exact li2 hfl this
theorem mvwiden_ok (T : Tops C) {n : Nat} {a : Poly} {σ : Sg} {Q : V → Sg → Prop} (hn : 1 ≤ n) (hl : okP a = true) (h : Q (.dct (widenE a)) σ) : CallOK C n "mvwiden" [.dct a, .int 1] σ Q := by
 refine CallOK.nd 0 rfl rfl fun nda => ?_
 have hok := okP_iff.mp hl
 refine def_ok T 38 rfl (by decide +kernel) (.parC (.parC .nil)) (by walk_at "om") fun env henv => ?_
 walk_at "ws"
 refine E_dictcompF (fun _ => rfl) rfl (by decide +kernel) (by decide +kernel) (by decide +kernel) (.loc (.loc (.free (by exact kd_of henv rfl) (by walk_at "mem") (.free (by exact kd_of henv rfl) (by walk_at "mem") .nil)))) (IE_dct ?_)
 walk_at "ws"
 refine (mx12 a rfl (fun cenv => ?_))
 refine DictL_ix (fun i acc e σ' => ∃ s, IsVar s ∧ σ' = σ ∧ acc = widenE (a.take i) ∧ e = ([(".0", .un), ("powers", s), ("a", .val (.dct a)), ("many", .val (.int 1))] : Vars)) (mx14 _ .un rfl rfl rfl) ?_ ?_
 · rintro acc e σ' z1; refine ob14 z1 ?_; clear z1; rintro s hs rfl rfl rfl
   rw [List.length_map, List.take_length]
   exact h
 · rintro i v acc e σ' hv z1; refine ob14 z1 ?_; clear z1; rintro s hs rfl rfl rfl
   refine ob22 (keysL hv) ?_; rintro k x hk rfl
   have hkm := List.mem_of_getElem? hk
   have hkl : k.length ≤ 3 := okK_len (hok.2 _ hkm).1
   refine (mx12 _ (.name (up_at 1 rfl hs)) ⟨fun _ => ?_, fun hc => by cases hc⟩)
   walk_at "ws"
   refine O_mulT (by decide) (by decide) (by decide) (by simp) ?_
   walk_at "ws"
   refine O_addT (sz1000 (by simp; exact li1 hkl)) ?_
   refine (mx12 (0 :: k) rfl ?_)
   walk_at "ws"
   refine I_dct rfl (dget_of nda hkm) ?_ (fun _ _ => rfl)
   have hi := some_lt hk
   have := hok.1
   refine ⟨_, rfl, by rw [sizeLine_eq]; simp only [widenE, List.length_map, List.length_take]; exact li2 hok.1 (Nat.min_le_right i (List.length a)), fun _ hx => (nomatch hx), _, .val, rfl, ?_, rfl⟩
   rw [take_succ_get hk, dput_new]
   · unfold widenE; rw [List.map_append]; rfl
   · have := fresh_key nda hk
     unfold widenE
     rw [List.map_map]
     intro hm'
     refine ob12 (List.mem_map.mp hm') ?_; rintro y hy e
     have e : 0 :: y.1 = 0 :: k := e
     exact this (List.mem_map.mpr (mx12 y hy ((List.cons.inj e).2)))
theorem narrowE_snoc (p : Poly) (x : Mon × Rat) : narrowE (p ++ [x]) = putE (narrowE p) (x.1.drop 1) x.2 := by
 unfold narrowE; rw [List.foldl_append]; rfl
theorem mvnarrow_ok (T : Tops C) {n : Nat} {a : Poly} {σ : Sg} {Q : V → Sg → Prop} (hn : 1 ≤ n) (hl : okP a = true) (h : Q (.dct (narrowE a)) σ) : CallOK C n "mvnarrow" [.dct a, .int 1] σ Q := by
 refine CallOK.nd 0 rfl rfl fun nda => ?_
 have hok := okP_iff.mp hl
 refine def_ok T 39 rfl (by decide +kernel) (.parC (.parC .nil)) (by walk_at "om") fun env henv => ?_
 walk_at "ws"
 refine E_dictcompF (fun _ => rfl) rfl (by decide +kernel) (by decide +kernel) (by decide +kernel) (.loc (.loc (.free (by exact kd_of henv rfl) (by walk_at "mem") (.free (by exact kd_of henv rfl) (by walk_at "mem") .nil)))) (IE_dct ?_)
 walk_at "ws"
 refine (mx12 a rfl (fun cenv => ?_))
 refine DictL_ix (fun i acc e σ' => ∃ s, IsVar s ∧ σ' = σ ∧ acc = narrowE (a.take i) ∧ Nd acc ∧ acc.length ≤ i ∧ e = ([(".0", .un), ("powers", s), ("a", .val (.dct a)), ("many", .val (.int 1))] : Vars)) (mx16 _ .un rfl rfl List.nodup_nil (Nat.le_refl _) rfl) ?_ ?_
 · rintro acc e σ' z1; refine ob16 z1 ?_; clear z1; rintro s hs rfl rfl hnd hal rfl
   rw [List.length_map, List.take_length]
   exact h
 · rintro i v acc e σ' hv z1; refine ob16 z1 ?_; clear z1; rintro s hs rfl rfl hnd hal rfl
   refine ob22 (keysL hv) ?_; rintro k x hk rfl
   have hkm := List.mem_of_getElem? hk
   have hkl : k.length ≤ 3 := okK_len (hok.2 _ hkm).1
   have hk1 : 1 ≤ k.length := by
     cases k with
     | nil => exact absurd (show false = true from (hok.2 _ hkm).1) Bool.false_ne_true
     | cons => exact Nat.succ_pos _
   refine (mx12 _ (.name (up_at 1 rfl hs)) ⟨fun _ => ?_, fun hc => by cases hc⟩)
   refine E_tfrom (fun _ _ => rfl) ?_
   walk_at "ws"
   refine (mx26 (k.map .int) 1 rfl rfl (by exact li0) (by rw [List.length_map]; exact li1 hk1) (sz1000 (by rw [List.length_map]; exact li1 hkl)) ?_)
   refine (mx12 (k.drop 1) (by rw [← List.map_drop]; rfl) ?_)
   walk_at "ws"
   refine I_dct rfl (dget_of nda hkm) ?_ (fun _ _ => rfl)
   have hi := some_lt hk
   have := hok.1
   refine ⟨_, rfl, sz1000 (by exact li3 hok.1 hal hi), fun _ hx => (nomatch hx), _, .val, rfl, ?_, hnd.dput, Nat.le_trans dput_len (by exact li1 hal), rfl⟩
   rw [take_succ_get hk, narrowE_snoc, putE_eq hnd]
theorem firstE_drop {k : Mon} : ∀ (ls : List Ld) (i : Nat), firstE k ls i = (firstE k ls 0).map (· + i)
 | [], _ => rfl
 | none :: l, i => by
   show firstE k l (i + 1) = (firstE k l 1).map _
   rw [firstE_drop l (i + 1), firstE_drop l 1, Option.map_map]
   congr 1; funext x; simp only [Function.comp]; exact Nat.le_antisymm li0 li0
 | some x :: l, i => by
   show cond (mdvd x.1 k) (some i) (firstE k l (i + 1)) = (cond (mdvd x.1 k) (some 0) (firstE k l 1)).map _
   cases mdvd x.1 k with
   | true => show some i = some (0 + i); rw [Nat.zero_add]
   | false =>
     show firstE k l (i + 1) = (firstE k l 1).map _
     rw [firstE_drop l (i + 1), firstE_drop l 1, Option.map_map]
     congr 1; funext x; simp only [Function.comp]; exact Nat.le_antisymm li0 li0
theorem first_divisor_ok (T : Tops C) {n : Nat} {k : Mon} {ls : List Ld} {v : V} {σ : Sg} {Q : V → Sg → Prop} (hn : 2 ≤ n) (hv : look σ v = .lst (ls.map ldV)) (hlen : ls.length ≤ 2000) (hk : k.length ≤ 1000) (hls : ∀ x, some x ∈ ls → x.1.length = k.length)
   (h : Q (optV (firstE k ls 0)) σ) : CallOK C n "first_divisor" [itup k, v] σ Q := by
 refine def_ok T 41 rfl (by decide +kernel) (.parL (.parL (.locL (.locL (.bi (T.b 10 rfl) (.fn (T.f 5 rfl) .nil)))))) (by walk_at "om") fun env henv => ?_
 walk_at "w"
 refine S_for (fun _ => rfl) ?_
 refine IE_enum (by walk_at "mem") rfl ?_
 walk_at "ws"
 refine (mx12 _ (.inr hv) ?_)
 refine For_ix (fun j e σ' => ∃ s t, IsVar s ∧ IsVar t ∧ σ' = σ ∧ firstE k ls 0 = firstE k (ls.drop j) j ∧
   e = ([("powers", .val (itup k)), ("leads", .val v), ("at", s), ("one", t), ("enumerate", .bi (.type "enumerate")), ("powers_divide", .fn)] : Vars)) (mx25 _ _ .un .un rfl rfl rfl) ?_ ?_
 · rintro e σ' z1; refine ob25 z1 ?_; clear z1; rintro s t hs ht rfl hf rfl
   have : (enumV (ls.map ldV)).length = ls.length := by simp [enumV]
   rw [this, List.drop_length] at hf
   rw [hf] at h
   walk_at "ws"
   exact h
 · rintro j w e σ' hw z1; refine ob25 z1 ?_; clear z1; rintro s t hs ht rfl hf rfl
   refine ob12 (enumV_get hw) ?_; rintro y hy rfl
   rw [List.getElem?_map] at hy
   refine ob12 (Option.map_eq_some_iff.mp hy) ?_; rintro l hl rfl
   have hlm := List.mem_of_getElem? hl
   rw [drop_get hl] at hf
   refine (mx12 _ (.two (up_at 2 rfl hs) (up_at 3 rfl ht)) ?_)
   walk_at "ws"
   cases l with
   | none =>
     refine O_isNot ⟨_, rfl, ⟨fun hc => (by (exfalso; cases hc)), fun _ => ?_⟩⟩
     refine ⟨fun hc => (by (exfalso; cases hc)), fun _ => ?_⟩
     walk_at "ws"
     exact ⟨fun _ _ => rfl, _, _, .val, .val, rfl, hf, rfl⟩
   | some x =>
     refine O_isNot ⟨_, rfl, ⟨fun _ => ?_, fun hc => (by (exfalso; cases hc))⟩⟩
     walk_at "ws"
     refine powers_divide_ok T (by walk_at "om") (hls x hlm) hk ?_
     refine ⟨_, rfl, fun hc => ?_, fun hc => ?_⟩
     · walk_at "ws"
       have e : firstE k (some x :: ls.drop (j + 1)) j = some j := by
         show cond (mdvd x.1 k) _ _ = _
         rw [hc]; rfl
       rw [hf, e] at h
       exact h
     · walk_at "ws"
       have e : firstE k (some x :: ls.drop (j + 1)) j = firstE k (ls.drop (j + 1)) (j + 1) := by
         show cond (mdvd x.1 k) _ _ = _
         rw [hc]; rfl
       rw [e] at hf
       exact ⟨fun _ _ => rfl, _, _, .val, .val, rfl, hf, rfl⟩
theorem SX.nd {n : Nat} {env : Env} {e : Vars} {σ : Sg} {t : Sem Flow} {Q : Fl → Vars → Sg → Prop} (D : Addr) {p : Poly} {o : Obj} (hD : σ D = some (.dct p, o)) (h : Nd p → SX C n env e t σ Q) : SX C n env e t σ Q := fun A g s R S F => by
 have : Nd p := by
   refine ob04 (S.own _ _ _ hD) ?_; rintro _ _ _ hO
   cases hO with
   | dct hd => exact hd.nodup
 exact h this A g s R S F
theorem upd_comm (σ : Sg) {a b : Addr} {v w o o'} (h : a ≠ b) : upd (upd σ a v o) b w o' = upd (upd σ b w o') a v o := by
 funext c; unfold upd; split
 · rename_i h1; rw [if_neg (by rw [h1]; exact Ne.symm h)]
 · rfl
noncomputable def Over (σ σ' : Sg) : Prop := ∀ a, σ a ≠ none → σ' a = σ a
theorem Over.refl (σ : Sg) : Over σ σ := fun _ _ => rfl
theorem Over.addO {σ σ' : Sg} (h : Over σ σ') {D : Addr} {v o} (hD : σ D = none) : Over σ (upd σ' D v o) := fun a ha => by
 rw [upd_ne]
 · exact h a ha
 · rintro rfl; exact ha hD
theorem Over.trans {a b c : Sg} (h : Over a b) (k : Over b c) : Over a c := fun x hx => by
 rw [k x (by rw [h x hx]; exact hx), h x hx]
theorem Over.fresh {σ σ' : Sg} (h : Over σ σ') {D : Addr} (hD : σ' D = none) : σ D = none := by
 cases e : σ D with
 | none => rfl
 | some x => rw [h D (by rw [e]; simp)] at hD; rw [e] at hD; (exfalso; cases hD)
theorem look_ref (σ : Sg) (a : Addr) : look σ (.ref a) = match σ a with | some (v, _) => v | none => .none := rfl
theorem Over.lk {σ σ' : Sg} (h : Over σ σ') {v x : V} (hl : look σ v = x) (hx : x ≠ .none) : look σ' v = x := by
 cases v with
 | ref a =>
   rw [look_ref] at hl ⊢
   have : σ' a = σ a := h a (fun z => by rw [z] at hl; exact hx hl.symm)
   rw [this]; exact hl
 | _ => exact hl
theorem Over.own {σ σ' : Sg} (h : Over σ σ') {v : V} {xs : List V} (hl : look σ v = .lst xs) : ∀ a ∈ ownOf v, σ' a = σ a := by
 intro a ha
 cases v with
 | ref b =>
   have : a = b := by simpa [ownOf] using ha
   subst this
   refine h a fun z => ?_
   rw [look_ref, z] at hl; cases hl
 | _ => (exfalso; cases ha)
theorem Rows.over {σ σ' : Sg} {L : Addr} {Ds : List Addr} {ps : List Poly} (h : Rows σ L Ds ps σ') : Over σ σ' := fun a ha => h.rest a fun hm => ha (h.old a hm)
theorem Rows0.over {σ σ' : Sg} {Ds : List Addr} (h : Rows0 σ Ds σ') : Over σ σ' := fun a ha => h.rest a fun hm => ha (h.old a hm)
theorem Rows.addO {σ σ' : Sg} {L : Addr} {Ds : List Addr} {ps : List Poly} (h : Rows σ L Ds ps σ') {R : Addr} {v o} (hR : σ' R = none) : Rows (upd σ R v o) L Ds ps (upd σ' R v o) := by
 have hn : R ∉ L :: Ds := by
   intro hm
   rcases List.mem_cons.mp hm with q | hm
   · refine ob11 h.lst ?_; rintro o ho; rw [q, ho] at hR; cases hR
   · refine ob11 (List.mem_iff_getElem?.mp hm) ?_; rintro j hj
     have hjl := some_lt hj
     have hp := List.getElem?_eq_getElem (show j < ps.length by rw [← h.len]; exact hjl)
     refine ob11 (h.at' _ _ _ hj hp) ?_; rintro o ho
     rw [ho] at hR; cases hR
 have hLD : ∀ {a}, a ∈ L :: Ds → a ≠ R := fun hm q => hn (q ▸ hm)
 refine ⟨h.len, ?_, fun j D p hD hp => ?_, h.nodup, fun a ha => ?_, fun a ha => ?_⟩
 · refine ob11 h.lst ?_; rintro o' ho
   exact ⟨o', by rw [upd_ne _ _ _ (hLD List.mem_cons_self)]; exact ho⟩
 · refine ob11 (h.at' j D p hD hp) ?_; rintro o' ho
   exact ⟨o', by rw [upd_ne _ _ _ (hLD (List.mem_cons_of_mem _ (List.mem_of_getElem? hD)))]; exact ho⟩
 · rw [upd_ne _ _ _ (hLD ha)]; exact h.old a ha
 · by_cases q : a = R
   · subst q; rw [upd_same, upd_same]
   · rw [upd_ne _ _ _ q, upd_ne _ _ _ q]; exact h.rest a ha
theorem Rows.get {σ σ' : Sg} {L : Addr} {Ds : List Addr} {ps : List Poly} (h : Rows σ L Ds ps σ') {i : Nat} (hi : i < ps.length) : ∃ D o, Ds[i]? = some D ∧ σ' D = some (.dct (ps.getD i []), o) := by
 have h1 : i < Ds.length := by rw [h.len]; exact hi
 have hp : ps[i]? = some (ps.getD i []) := by rw [List.getElem?_eq_getElem hi]; simp [List.getD_eq_getElem?_getD, hi]
 refine ob11 (h.at' _ _ _ (List.getElem?_eq_getElem h1) hp) ?_; rintro o ho
 exact (mx22 _ o (List.getElem?_eq_getElem h1) ho)
theorem addT_keys {p q : Poly} {k : Mon} {r : Rat} (h : addT p k r = some q) : ∀ x ∈ q, x.1 = k ∨ ∃ y ∈ p, y.1 = x.1 := by
 induction p generalizing q with
 | nil =>
   dsimp only [addT] at h
   cases h
   intro x hx
   cases hq : qz r with
   | true => rw [hq] at hx; (exfalso; cases hx)
   | false => rw [hq] at hx; left; have : x = (k, r) := by simpa using hx
              rw [this]
 | cons z p ih =>
   obtain ⟨k', r'⟩ := z
   dsimp only [addT] at h
   cases e : meq k' k with
   | true =>
     rw [e] at h
     refine ob02 (cond_some h) ?_; rintro _ h
     cases h
     intro x hx
     right
     have hx : x ∈ cond (qz (qadd r' r)) p ((k', qadd r' r) :: p) := hx
     cases hq : qz (qadd r' r) with
     | true => rw [hq] at hx; exact (mx12 x (List.mem_cons_of_mem _ hx) rfl)
     | false =>
       rw [hq] at hx
       rcases List.mem_cons.mp hx with rfl | hx
       · exact (mx12 ((k', r')) List.mem_cons_self rfl)
       · exact (mx12 x (List.mem_cons_of_mem _ hx) rfl)
   | false =>
     rw [e] at h
     cases e2 : addT p k r with
     | none => rw [e2] at h; (exfalso; cases h)
     | some q' =>
       rw [e2] at h
       cases h
       intro x hx
       rcases List.mem_cons.mp hx with rfl | hx
       · exact .inr (mx12 ((k', r')) List.mem_cons_self rfl)
       · rcases ih e2 x hx with q | ⟨y, hy, q⟩
         · exact .inl q
         · exact .inr (mx12 y (List.mem_cons_of_mem _ hy) q)
theorem addE_keys {a b r : Poly} (h : addE a b = some r) : ∀ x ∈ r, (∃ y ∈ a, y.1 = x.1) ∨ ∃ y ∈ b, y.1 = x.1 := by
 refine ob02 (addE_ok h) ?_; rintro _ h
 induction b generalizing a with
 | nil => cases h; exact fun x hx => .inl (mx12 x hx rfl)
 | cons z b ih =>
   refine ob12 (foldO_cons h) ?_; rintro f h1 h2
   intro x hx
   have key : ∀ (b : Poly) (f r : Poly), foldO (fun f x => addT f x.1 x.2) f b = some r → ∀ x ∈ r, (∃ y ∈ f, y.1 = x.1) ∨ ∃ y ∈ b, y.1 = x.1 := by
     intro b
     induction b with
     | nil => intro f r h; cases h; exact fun x hx => .inl (mx12 x hx rfl)
     | cons z b ih =>
       intro f r h x hx
       refine ob12 (foldO_cons h) ?_; rintro f' h1 h2
       rcases ih _ _ h2 x hx with ⟨y, hy, e⟩ | ⟨y, hy, e⟩
       · rcases addT_keys h1 y hy with q | ⟨w, hw, q⟩
         · exact .inr (mx12 z List.mem_cons_self (q.symm.trans e))
         · exact .inl (mx12 w hw (q.trans e))
       · exact .inr (mx12 y (List.mem_cons_of_mem _ hy) e)
   rcases key b f r h2 x hx with ⟨y, hy, e⟩ | ⟨y, hy, e⟩
   · rcases addT_keys h1 y hy with q | ⟨w, hw, q⟩
     · exact .inr (mx12 z List.mem_cons_self (q.symm.trans e))
     · exact .inl (mx12 w hw (q.trans e))
   · exact .inr (mx12 y (List.mem_cons_of_mem _ hy) e)
theorem delE_eq {p : Poly} {k : Mon} (nd : Nd p) : delE p k = ddel p k := by
 induction p with
 | nil => rfl
 | cons x p ih =>
   obtain ⟨k', r'⟩ := x
   dsimp only [delE]
   rw [meq_eq, ih nd.tail.2]
   by_cases e : k' = k
   · subst e
     have := ddel_none nd.tail.1
     unfold ddel at this ⊢
     simpa using this.symm
   · unfold ddel; simp [e]
theorem delE_sub {p : Poly} {k : Mon} : ∀ x ∈ delE p k, x ∈ p := by
 induction p with
 | nil => exact fun x hx => hx
 | cons z p ih =>
   obtain ⟨k', r'⟩ := z
   dsimp only [delE]
   cases meq k' k with
   | true => exact fun x hx => List.mem_cons_of_mem _ hx
   | false =>
     intro x hx
     rcases List.mem_cons.mp hx with rfl | hx
     · exact List.mem_cons_self
     · exact List.mem_cons_of_mem _ (ih x hx)
theorem lenIs_sub {m : Nat} {p q : Poly} (h : lenIs m p = true) (k : ∀ x ∈ q, ∃ y ∈ p, y.1 = x.1) : lenIs m q = true :=
 lenIs_iff.mpr fun x hx => by refine ob12 (k x hx) ?_; rintro y hy e; rw [← e]; exact lenIs_iff.mp h y hy
theorem divE_ok {k : Nat} {left : Poly} {so : List Poly} {ls : List Ld} {qs : List Poly} {rest : Poly} {res : List Poly × Poly} (h : divE k left so ls qs rest = some res) :
   ∃ n, k = n + 1 ∧ okP left = true ∧ ((left = [] ∧ res = (qs, rest)) ∨ ∃ k r, leadE left = some (k, r) ∧
     ((firstE k ls 0 = none ∧ divE n (delE left k) so ls qs (putE rest k r) = some res) ∨
      ∃ i lb q sh left', firstE k ls 0 = some i ∧ ls[i]? = some (some lb) ∧ okR lb.2 = true ∧ lb.2 ≠ 0 ∧ r ≠ 0 ∧ addT (qs.getD i []) (msub k lb.1) (r / lb.2) = some q ∧
        shiftE (so.getD i []) (msub k lb.1) (r / lb.2) = some sh ∧ subE left sh = some left' ∧ divE n left' so ls (qs.set i q) rest = some res)) := by
 cases k with
 | zero => (exfalso; cases h)
 | succ n =>
   refine ob02 (cond_some h) ?_; rintro h1 h
   refine (mx13 n rfl h1 ?_)
   rcases ml _ h with ⟨e, h⟩ | ⟨⟨k, r⟩, e, h⟩
   · cases h
     refine .inl ⟨?_, rfl⟩
     cases left with
     | nil => rfl
     | cons x p => (exfalso; cases e)
   refine .inr (mx22 k r e ?_)
   rcases ml _ h with ⟨e2, h⟩ | ⟨i, e2, h⟩
   · exact .inl ⟨e2, h⟩
   refine ob12 (mb _ h) ?_; rintro lb e3 h
   refine ob02 (cond_some h) ?_; rintro h2 h
   rw [Bool.and_eq_true, Bool.and_eq_true, qz_eq, qz_eq] at h2
   rw [qdiv_eq] at h
   refine ob12 (mb _ h) ?_; rintro q e4 h
   refine ob12 (mb _ h) ?_; rintro sh e5 h
   refine ob12 (mb _ h) ?_; rintro left' e6 h
   refine .inr (mx58 i lb q sh left' e2 ?_ h2.1.1 (by simpa using h2.1.2) (by simpa using h2.2) e4 e5 (mx02 e6 h))
   rw [List.getD_eq_getElem?_getD] at e3
   cases e7 : ls[i]? with
   | none => rw [e7] at e3; (exfalso; cases e3)
   | some y => rw [e7] at e3; rw [show y = some lb from e3]
theorem divideE_ok {f : Poly} {so : List Poly} {res : List Poly × Poly} (h : divideE f so = some res) :
   ∃ m, m ≤ 3 ∧ lenIs m f = true ∧ (∀ p ∈ so, okP p = true ∧ lenIs m p = true) ∧ so.length ≤ 1000 ∧ divE 100 f so (so.map leadE) (so.map fun _ => []) [] = some res := by
 unfold divideE at h
 refine ob02 (cond_some h) ?_; rintro h1 h
 rw [Bool.and_eq_true, Bool.or_eq_true] at h1
 refine ob02 h1 ?_; clear h1; rintro h1 h2
 unfold okS at h1
 rw [Bool.and_eq_true, List.all_eq_true] at h1
 have key : ∀ m, okL m f so = true → lenIs m f = true ∧ ∀ p ∈ so, lenIs m p = true := by
   intro m hm
   unfold okL at hm
   rw [Bool.and_eq_true, List.all_eq_true] at hm
   exact hm
 rcases h2 with h2 | h2
 · refine ob02 (key 2 h2) ?_; rintro a b
   exact (mx15 2 (by decide) a (fun p hp => ⟨h1.2 p hp, b p hp⟩) (Nat.le_of_ble_eq_true h1.1) h)
 · refine ob02 (key 3 h2) ?_; rintro a b
   exact (mx15 3 (by decide) a (fun p hp => ⟨h1.2 p hp, b p hp⟩) (Nat.le_of_ble_eq_true h1.1) h)
theorem msub_len' {a b : Mon} {m : Nat} (h1 : a.length = m) (h2 : b.length = m) : (msub a b).length = m := by rw [msub_len (by exact Nat.le_antisymm (li2 (eL h1) (eG h2)) (li2 (eG h1) (eL h2)))]; exact h2
theorem leadE_nil {p : Poly} : leadE p = none ↔ p = [] := by
 cases p with
 | nil => simp [leadE]
 | cons x p => simp [leadE]
theorem div_ne {a b : Rat} (ha : a ≠ 0) (hb : b ≠ 0) : a / b ≠ 0 := by
 intro h
 have : a = a / b * b := by rw [Rat.div_def, Rat.mul_assoc, Rat.inv_mul_cancel b hb, Rat.mul_one]
 rw [h, Rat.zero_mul] at this
 exact ha this
section
variable {n : Nat} {env : Env} {e : Vars} {σ : Sg}
theorem For_k {target : Expr} {body : List Stmt} {own : List Addr} {Q : Fl → Vars → Sg → Prop} (J : Nat → Vars → Sg → Prop) {L : List V} (h0 : J 0 e σ) (hend : ∀ e σ, J L.length e σ → Q .next e σ)
   (step : ∀ i v e σ, L[i]? = some v → J i e σ → ∀ K : Fl → Vars → Sg → Prop, (∀ e₂ σ₂, (∀ a ∈ own, σ₂ a = σ a) → J (i + 1) e₂ σ₂ → K .next e₂ σ₂ ∧ K .cont e₂ σ₂) → (∀ v e₂ σ₂, Q (.ret v) e₂ σ₂ → K (.ret v) e₂ σ₂) →
     ∃ e₁, Bind target v e e₁ ∧ SB C n env e₁ body σ K) : ForOK C n env target body own Q L e σ :=
 For_ix J h0 hend fun i v e σ hv hJ => step i v e σ hv hJ _ (fun e₂ σ₂ ho hj => ⟨⟨ho, hj⟩, ⟨ho, hj⟩⟩) fun v e₂ σ₂ h => h
theorem While_k {test : Expr} {body : List Stmt} {pos} {Q : Fl → Vars → Sg → Prop} (I : Nat → Vars → Sg → Prop) (k : Nat) (h : I k e σ)
   (turn : ∀ k e σ, I k e σ → ∀ K : Fl → Vars → Sg → Prop, (∀ m e₂ σ₂, m < k → I m e₂ σ₂ → K .next e₂ σ₂ ∧ K .cont e₂ σ₂) → (∀ v e₂ σ₂, Q (.ret v) e₂ σ₂ → K (.ret v) e₂ σ₂) →
     TE C n env e test σ fun b σ₁ => (b = true → SB C n env e body σ₁ K) ∧ (b = false → Q .next e σ₁)) : SS C n env e (.While test body [] pos) σ Q :=
 S_while I (fun k e σ hI => turn k e σ hI _ (fun m e₂ σ₂ hm hi => ⟨(mx12 m hm hi), (mx12 m hm hi)⟩) fun v e₂ σ₂ h => h) k h
theorem ListL_k {target : Expr} {elt : Expr} {own : List Addr} {K : List V → Sg → Prop} (J : Nat → List V → Vars → Sg → Prop) {L : List V} (h0 : J 0 [] e σ) (hend : ∀ acc e σ, J L.length acc e σ → K acc σ)
   (step : ∀ i v acc e σ, L[i]? = some v → J i acc e σ → ∃ e₁, Bind target v e e₁ ∧ ∀ Q : V → Sg → Prop, (∀ v σ₂, acc.length ≤ sizeLine → (∀ a ∈ own, σ₂ a = σ a) → J (i + 1) (acc ++ [v]) e₁ σ₂ → Q v σ₂) → EE C n env e₁ elt σ Q) :
   ListL C n env target [] elt own K L [] e σ := by
 refine ListL_ix J h0 hend fun i v acc e σ hv hJ => ?_
 refine ob12 (step i v acc e σ hv hJ) ?_; rintro e₁ hB hE
 exact (mx12 e₁ hB (⟨fun _ => hE _ fun v σ₂ h1 h2 h3 => ⟨h1, h2, h3⟩, fun hc => by cases hc⟩))
theorem ListL_kif {target : Expr} {c elt : Expr} {own : List Addr} {K : List V → Sg → Prop} (J : Nat → List V → Vars → Sg → Prop) {L : List V} (h0 : J 0 [] e σ) (hend : ∀ acc e σ, J L.length acc e σ → K acc σ)
   (step : ∀ i v acc e σ, L[i]? = some v → J i acc e σ → ∃ e₁, Bind target v e e₁ ∧ ∀ (Q : V → Sg → Prop) (Q' : Sg → Prop), (∀ v σ₂, acc.length ≤ sizeLine → (∀ a ∈ own, σ₂ a = σ a) → J (i + 1) (acc ++ [v]) e₁ σ₂ → Q v σ₂) →
     (∀ σ₂, (∀ a ∈ own, σ₂ a = σ a) → J (i + 1) acc e₁ σ₂ → Q' σ₂) → TE C n env e₁ c σ fun b σ₁ => (b = true → EE C n env e₁ elt σ₁ Q) ∧ (b = false → Q' σ₁)) :
   ListL C n env target [c] elt own K L [] e σ := by
 refine ListL_ix J h0 hend fun i v acc e σ hv hJ => ?_
 refine ob12 (step i v acc e σ hv hJ) ?_; rintro e₁ hB hE
 exact (mx12 e₁ hB (hE _ _ (fun v σ₂ h1 h2 h3 => ⟨h1, h2, h3⟩) fun σ₂ h1 h2 => ⟨h1, h2⟩))
theorem ListL_v {target : Expr} {elt : Expr} {own : List Addr} {K : List V → Sg → Prop} (A : Nat → List V) (E : Slot → Vars) {L : List V} (he : e = E .un) (hA : [] = A 0) (hend : K (A L.length) σ)
   (step : ∀ i v s, L[i]? = some v → IsVar s → Bind target v (E s) (E (.val v)) ∧ ∀ Q : V → Sg → Prop, (∀ w, (A i).length ≤ sizeLine → A i ++ [w] = A (i + 1) → Q w σ) → EE C n env (E (.val v)) elt σ Q) :
   ListL C n env target [] elt own K L [] e σ :=
 ListL_k (fun i acc e σ' => ∃ t, IsVar t ∧ σ = σ' ∧ acc = A i ∧ e = E t) (mx14 _ .un rfl hA he) (fun _ _ _ z => ob14 z fun _ _ a b _ => by subst a b; exact hend)
   fun i v acc e σ' hv z => ob14 z fun t ht a b c => by
     subst a b c
     exact mx12 _ (step i v t hv ht).1 fun K hK => (step i v t hv ht).2 K fun w h1 h2 => hK w _ h1 (fun _ _ => rfl) (mx14 _ .val rfl h2 rfl)
theorem ListL_vif {target : Expr} {c elt : Expr} {own : List Addr} {K : List V → Sg → Prop} (A : Nat → List V) (E : Slot → Vars) {L : List V} (he : e = E .un) (hA : [] = A 0) (hend : K (A L.length) σ)
   (step : ∀ i v s, L[i]? = some v → IsVar s → Bind target v (E s) (E (.val v)) ∧ ∀ (Q : V → Sg → Prop) (Q' : Sg → Prop), (∀ w, (A i).length ≤ sizeLine → A i ++ [w] = A (i + 1) → Q w σ) → (A i = A (i + 1) → Q' σ) →
     TE C n env (E (.val v)) c σ fun b σ₁ => (b = true → EE C n env (E (.val v)) elt σ₁ Q) ∧ (b = false → Q' σ₁)) :
   ListL C n env target [c] elt own K L [] e σ :=
 ListL_kif (fun i acc e σ' => ∃ t, IsVar t ∧ σ = σ' ∧ acc = A i ∧ e = E t) (mx14 _ .un rfl hA he) (fun _ _ _ z => ob14 z fun _ _ a b _ => by subst a b; exact hend)
   fun i v acc e σ' hv z => ob14 z fun t ht a b c => by
     subst a b c
     exact mx12 _ (step i v t hv ht).1 fun K K' hK hK' => (step i v t hv ht).2 K K' (fun w h1 h2 => hK w _ h1 (fun _ _ => rfl) (mx14 _ .val rfl h2 rfl)) fun h2 => hK' _ (fun _ _ => rfl) (mx14 _ .val rfl h2 rfl)
theorem DictL_k {target : Expr} {kx vx : Expr} {own : List Addr} {K : Poly → Sg → Prop} (J : Nat → Poly → Vars → Sg → Prop) {L : List V} (h0 : J 0 [] e σ) (hend : ∀ acc e σ, J L.length acc e σ → K acc σ)
   (step : ∀ i v acc e σ, L[i]? = some v → J i acc e σ → ∃ e₁, Bind target v e e₁ ∧ ∀ Q : Mon → Rat → Sg → Prop, (∀ ks r σ₃, acc.length ≤ sizeLine → (∀ a ∈ own, σ₃ a = σ a) → J (i + 1) (dput acc ks r) e₁ σ₃ → Q ks r σ₃) →
     EE C n env e₁ kx σ fun kv σ₂ => ∃ ks, kv = itup ks ∧ EE C n env e₁ vx σ₂ fun vv σ₃ => ∃ r, vv = rv r ∧ Q ks r σ₃) :
   DictL C n env target [] kx vx own K L [] e σ := by
 refine DictL_ix J h0 hend fun i v acc e σ hv hJ => ?_
 refine ob12 (step i v acc e σ hv hJ) ?_; rintro e₁ hB hE
 refine (mx12 e₁ hB (⟨fun _ => EV.mono (hE (fun ks r σ₃ => acc.length ≤ sizeLine ∧ (∀ a ∈ own, σ₃ a = σ a) ∧ J (i + 1) (dput acc ks r) e₁ σ₃) fun ks r σ₃ h1 h2 h3 => ⟨h1, h2, h3⟩) ?_, fun hc => by cases hc⟩))
 rintro kv σ₂ z1; refine ob12 z1 ?_; clear z1; rintro ks rfl hv
 refine (mx12 ks rfl (EV.mono hv ?_))
 rintro vv σ₃ z1; refine ob12 z1 ?_; clear z1; rintro r rfl h
 exact (mx12 r rfl h)
end
inductive DivSt (σ : Sg) (L : Addr) (Ds : List Addr) (R D : Addr) (qs : List Poly) (rest left : Poly) (σ' : Sg) : Prop
 | mk (σ₂ : Sg) (oR oD : Obj) (hr : Rows σ L Ds qs σ₂) (h1 : σ₂ R = none) (h2 : σ₂ D = none) (h3 : R ≠ D) (he : σ' = upd (upd σ₂ R (.dct rest) oR) D (.dct left) oD) : DivSt σ L Ds R D qs rest left σ'
theorem DivSt.over {σ σ' : Sg} {L : Addr} {Ds : List Addr} {R D : Addr} {qs : List Poly} {rest left : Poly} (h : DivSt σ L Ds R D qs rest left σ') : Over σ σ' := by
 obtain ⟨σ₂, oR, oD, hr, h1, h2, h3, rfl⟩ := h
 exact (hr.over.addO (hr.over.fresh h1)).addO (hr.over.fresh h2)
theorem DivSt.left {σ σ' : Sg} {L : Addr} {Ds : List Addr} {R D : Addr} {qs : List Poly} {rest left : Poly} (h : DivSt σ L Ds R D qs rest left σ') : ∃ o, σ' D = some (.dct left, o) := by
 obtain ⟨σ₂, oR, oD, hr, h1, h2, h3, rfl⟩ := h
 exact ⟨oD, upd_same ..⟩
theorem DivSt.rest {σ σ' : Sg} {L : Addr} {Ds : List Addr} {R D : Addr} {qs : List Poly} {rest left : Poly} (h : DivSt σ L Ds R D qs rest left σ') : ∃ o, σ' R = some (.dct rest, o) := by
 obtain ⟨σ₂, oR, oD, hr, h1, h2, h3, rfl⟩ := h
 exact ⟨oR, by rw [upd_ne _ _ _ h3]; exact upd_same ..⟩
theorem DivSt.putR {σ σ' : Sg} {L : Addr} {Ds : List Addr} {R D : Addr} {qs : List Poly} {rest left : Poly} (h : DivSt σ L Ds R D qs rest left σ') (p : Poly) (o) : DivSt σ L Ds R D qs p left (upd σ' R (.dct p) o) := by
 obtain ⟨σ₂, oR, oD, hr, h1, h2, h3, rfl⟩ := h
 exact ⟨σ₂, o, oD, hr, h1, h2, h3, by rw [upd_comm _ (Ne.symm h3), upd_upd]⟩
theorem DivSt.putD {σ σ' : Sg} {L : Addr} {Ds : List Addr} {R D : Addr} {qs : List Poly} {rest left : Poly} (h : DivSt σ L Ds R D qs rest left σ') (p : Poly) (o) : DivSt σ L Ds R D qs rest p (upd σ' D (.dct p) o) := by
 obtain ⟨σ₂, oR, oD, hr, h1, h2, h3, rfl⟩ := h
 exact ⟨σ₂, oR, o, hr, h1, h2, h3, by rw [upd_upd]⟩
theorem DivSt.newD {σ σ' : Sg} {L : Addr} {Ds : List Addr} {R D : Addr} {qs : List Poly} {rest left : Poly} (h : DivSt σ L Ds R D qs rest left σ') {D' : Addr} (hD : del σ' D D' = none) (p : Poly) (o) : DivSt σ L Ds R D' qs rest p (upd (del σ' D) D' (.dct p) o) := by
 obtain ⟨σ₂, oR, oD, hr, h1, h2, h3, rfl⟩ := h
 have e : del (upd (upd σ₂ R (.dct rest) oR) D (.dct left) oD) D = upd σ₂ R (.dct rest) oR := del_upd _ _ (by rw [upd_ne _ _ _ (Ne.symm h3)]; exact h2)
 rw [e] at hD ⊢
 have h4 : R ≠ D' := by rintro rfl; rw [upd_same] at hD; cases hD
 exact ⟨σ₂, oR, o, hr, h1, by rw [upd_ne _ _ _ (Ne.symm h4)] at hD; exact hD, h4, rfl⟩
theorem DivSt.quo {σ σ' : Sg} {L : Addr} {Ds : List Addr} {R D : Addr} {qs : List Poly} {rest left : Poly} (h : DivSt σ L Ds R D qs rest left σ') {i : Nat} (hi : i < qs.length) :
   ∃ Dj o, Ds[i]? = some Dj ∧ σ' Dj = some (.dct (qs.getD i []), o) ∧ (∃ oL, σ' L = some (.lst (Ds.map .ref), oL)) ∧ ∀ q o', DivSt σ L Ds R D (qs.set i q) rest left (upd σ' Dj (.dct q) o') := by
 obtain ⟨σ₂, oR, oD, hr, h1, h2, h3, rfl⟩ := h
 refine ob22 (hr.get hi) ?_; rintro Dj o hD ho
 have n1 : Dj ≠ R := by rintro rfl; rw [ho] at h1; cases h1
 have n2 : Dj ≠ D := by rintro rfl; rw [ho] at h2; cases h2
 refine ob11 hr.lst ?_; rintro oL hL
 have n3 : L ≠ R := by rintro rfl; rw [hL] at h1; cases h1
 have n4 : L ≠ D := by rintro rfl; rw [hL] at h2; cases h2
 refine (mx24 Dj o hD (by rw [upd_ne _ _ _ n2, upd_ne _ _ _ n1]; exact ho) ⟨oL, by rw [upd_ne _ _ _ n4, upd_ne _ _ _ n3]; exact hL⟩ (fun q o' => ⟨upd σ₂ Dj (.dct q) o', oR, oD, hr.set hD, by rw [upd_ne _ _ _ (Ne.symm n1)]; exact h1, by rw [upd_ne _ _ _ (Ne.symm n2)]; exact h2, h3, ?_⟩))
 rw [upd_comm _ (Ne.symm n2), upd_comm _ (Ne.symm n1)]
theorem DivSt.done {σ σ' : Sg} {L : Addr} {Ds : List Addr} {R D : Addr} {qs : List Poly} {rest left : Poly} (h : DivSt σ L Ds R D qs rest left σ') : Deep (del σ' D) (.tup [.ref L, .ref R]) (.tup [.lst (qs.map .dct), .dct rest]) σ := by
 obtain ⟨σ₂, oR, oD, hr, h1, h2, h3, rfl⟩ := h
 have e : del (upd (upd σ₂ R (.dct rest) oR) D (.dct left) oD) D = upd σ₂ R (.dct rest) oR := del_upd _ _ (by rw [upd_ne _ _ _ (Ne.symm h3)]; exact h2)
 rw [e]
 have hd : Deep (upd σ R (.dct rest) oR) (.ref R) (.dct rest) (del (upd σ R (.dct rest) oR) R) := .dct (upd_same ..)
 rw [del_upd _ _ (hr.over.fresh h1)] at hd
 exact .tup (.cons (hr.addO h1).deep (.cons hd .nil))
noncomputable abbrev divV (f vs : V) (ls : List Ld) (L R D : Addr) (s1 s2 s3 s4 s5 : Slot) : Vars :=
 [("f", .val f), ("some", .val vs), ("order", .val (.str "lex")), ("leads", .val (.lst (ls.map ldV))), ("quotients", .val (.ref L)), ("rest", .val (.ref R)), ("left", .val (.ref D)), ("powers", s1), ("rational", s2), ("at", s3), ("shift", s4), ("factor", s5),
   ("dict", .bi (.type "dict")), ("len", .bi (.builtin "len")), ("mvlead", .fn), ("first_divisor", .fn), ("powers_quotient", .fn), ("rdiv", .fn), ("add_term", .fn), ("mvsub", .fn), ("mvshift", .fn)]
inductive DivInv (σ : Sg) (f vs : V) (so : List Poly) (ls : List Ld) (m : Nat) (L : Addr) (Ds : List Addr) (R : Addr) (res : List Poly × Poly) (k : Nat) (e : Vars) (σ' : Sg) : Prop
 | mk (D : Addr) (qs : List Poly) (rest left : Poly) (s1 s2 s3 s4 s5 : Slot) (he : e = divV f vs ls L R D s1 s2 s3 s4 s5) (h1 : IsVar s1) (h2 : IsVar s2) (h3 : IsVar s3) (h4 : IsVar s4) (h5 : IsVar s5) (hs : DivSt σ L Ds R D qs rest left σ') (hd : divE k left so ls qs rest = some res) (hl : lenIs m left = true) (hr : rest.length + k ≤ 100) (hq : qs.length = so.length) (hqs : ∀ q ∈ qs, q.length + k ≤ 100) : DivInv σ f vs so ls m L Ds R res k e σ'
theorem ldsL {so : List Poly} {i : Nat} {lb : Mon × Rat} (h : (so.map leadE)[i]? = some (some lb)) : ∃ p, so[i]? = some p ∧ leadE p = some lb := by
 rw [List.getElem?_map] at h
 refine ob12 (Option.map_eq_some_iff.mp h) ?_; rintro q hq e
 exact (mx12 q hq e)
theorem getD_of {α : Type} {xs : List α} {i : Nat} {x d : α} (h : xs[i]? = some x) : xs.getD i d = x := by rw [List.getD_eq_getElem?_getD, h]; rfl
theorem mvdivide_ok (T : Tops C) {n : Nat} {f : Poly} {vs : V} {so : List Poly} {res : List Poly × Poly} {σ : Sg} {Q : V → Sg → Prop} (hn : 7 ≤ n) (hs : look σ vs = .lst (so.map .dct)) (ha : divideE f so = some res)
   (h : Q (.tup [.lst (res.1.map .dct), .dct res.2]) σ) : CallOK C n "mvdivide" [.dct f, vs, .str "lex"] σ Q := by
 refine ob15 (divideE_ok ha) ?_; rintro m hm3 hlf hso hsl hdiv
 have hokf : okP f = true := by refine ob13 (divE_ok hdiv) ?_; rintro _ _ h _; exact h
 have hokf' := okP_iff.mp hokf
 refine CallOK.nd 0 rfl rfl fun ndf => CallOK.deep ?_
 generalize hq : (fun v σ' => ∃ w σ'', Deep σ' v w σ'' ∧ Q w σ'') = Q₁
 have hend : ∀ v σ', Deep σ' v (.tup [.lst (res.1.map .dct), .dct res.2]) σ → Q₁ v σ' := fun v σ' hd => by subst hq; exact (mx22 _ _ hd h)
 clear hq h
 refine def_ok T 42 rfl (by decide +kernel) (.parL (.parL (.parC (.locL (.locL (.locL (.locL (.locL (.locL (.locL (.locL (.locL (.bi (T.b 8 rfl) (.bi (T.b 0 rfl) (.fn (T.f 32 rfl) (.fn (T.f 41 rfl) (.fn (T.f 6 rfl) (.fn (T.f 18 rfl) (.fn (T.f 26 rfl) (.fn (T.f 28 rfl) (.fn (T.f 30 rfl) .nil))))))))))))))))))))) (by walk_at "om") fun env henv => ?_
 walk_at "w"
 refine S_assign_listcomp (by exact sw_of henv rfl) (by exact kd_of henv rfl) (fun _ => rfl) rfl (by decide +kernel) (by decide +kernel) (by decide +kernel) (.loc (.loc (.fn (T.f 32 rfl) (.free (by exact kd_of henv rfl) (by walk_at "mem") .nil)))) (IE_list ?_)
 walk_at "ws"
 refine (mx12 _ hs (fun cenv => ?_))
 refine ListL_v (fun i => ((so.take i).map leadE).map ldV) (fun s => [(".0", .un), ("one", s), ("mvlead", .fn), ("order", .val (.str "lex"))]) rfl rfl ?_ ?_
 rotate_left
 · intro i v s hv hs1
   refine ob12 (dctsL hv) ?_; rintro p hp rfl
   refine ⟨.name (up_at 1 rfl hs1), fun K hK => ?_⟩
   walk_at "ws"
   refine mvlead_ok T (by walk_at "om") rfl ?_
   have := some_lt hp
   exact hK _ (sz1000 (by rw [List.length_map, List.length_map, List.length_take]; exact li2 hsl (Nat.min_le_right i so.length))) (by rw [take_succ_get hp, List.map_append, List.map_append]; rfl)
 intro L1 o1 hL1
 rw [List.length_map, List.take_length]
 walk_at "up1"
 refine SX.freeze L1 (upd_same ..) (by walk_at "ownsub") ?_
 rw [del_upd _ _ hL1]
 walk_at "w"
 refine S_assign_listcomp (by exact sw_of henv rfl) (by exact kd_of henv rfl) (fun _ => rfl) rfl (by decide +kernel) (by decide +kernel) (by decide +kernel) (.loc (.loc .nil)) (IE_list ?_)
 walk_at "ws"
 refine (mx12 _ hs (fun cenv => ?_))
 refine ListL_k (fun i acc e σ' => ∃ s Ds, IsVar s ∧ acc = Ds.map .ref ∧ Ds.length = i ∧ Rows0 σ Ds σ' ∧ e = ([(".0", .un), ("one", s)] : Vars)) (mx25 _ [] .un rfl rfl (Rows0.nil σ) rfl) ?_ ?_
 rotate_left
 · rintro i v acc e σ' hv z1; refine ob25 z1 ?_; clear z1; rintro s Ds hs1 rfl hlen hR rfl
   have hi := some_lt hv
   rw [List.length_map] at hi
   refine (mx12 _ (.name (up_at 1 rfl hs1)) (fun K hK => ?_))
   refine E_dict0 fun D o hD => ?_
   refine hK _ _ (sz1000 (by rw [List.length_map]; exact li3 hsl (eL hlen) hi)) (fun a ha => ?_) (mx25 _ (Ds ++ [D]) .val (by simp) (by simp [hlen]) (hR.snoc hD) rfl)
   have h1 := hR.over.own hs a ha
   rw [upd_ne]
   rintro rfl
   have h2 : σ a = none := hR.over.fresh hD
   cases vs with
   | ref b =>
     have : a = b := by simpa [ownOf] using ha
     subst this
     rw [look_ref, h2] at hs; cases hs
   | _ => cases ha
 rintro acc e σ' z1 L2 o2 hL2; refine ob25 z1 ?_; clear z1; rintro s Ds hs1 rfl hlen hR0 rfl
 rw [List.length_map] at hlen
 have hR := hR0.rows (o := o2) hL2
 rw [hlen] at hR
 generalize hσ2 : upd σ' L2 (.lst (Ds.map .ref)) o2 = σ2 at hR ⊢
 clear hσ2 hL2 hR0
 walk_at "up1"
 walk_at "w"
 refine S_two rfl ?_
 walk_at "w"
 refine E_dict0 fun R oR hRn => ?_
 walk_at "ws"
 refine T_dict rfl (hashOk_of ndf fun x hx => (hokf'.2 x hx).1) (sz1000 hokf'.1) fun D oD hDn => ?_
 walk_at "ws"
 walk_at "up2"
 have hRD : R ≠ D := by rintro rfl; rw [upd_same] at hDn; cases hDn
 have hSt : DivSt σ L2 Ds R D (List.replicate so.length []) [] f (upd (upd σ2 R (.dct []) oR) D (.dct f) oD) := ⟨σ2, oR, oD, hR, hRn, by rw [upd_ne _ _ _ (Ne.symm hRD)] at hDn; exact hDn, hRD, rfl⟩
 walk_at "w"
 have hrep : so.map (fun _ => ([] : Poly)) = List.replicate so.length [] := by rw [List.map_const']
 rw [hrep] at hdiv
 refine While_k (DivInv σ (.dct f) vs so (so.map leadE) m L2 Ds R res) 100 ⟨D, _, _, _, _, _, _, _, _, rfl, .un, .un, .un, .un, .un, hSt, hdiv, hlf, by simp, by simp, fun q hq => by rw [(List.mem_replicate.mp hq).2]; simp⟩ ?_
 clear hSt hDn hRn hRD hR hdiv
 rintro k e σ' ⟨D, qs, rest, left, s1, s2, s3, s4, s5, rfl, v1, v2, v3, v4, v5, hSt, hdiv, hll, hrl, hql, hqb⟩ K hK hKr
 have hls : ∀ x, some x ∈ so.map leadE → x.1.length = m := by
   intro x hx
   refine ob12 (List.mem_map.mp hx) ?_; rintro p hp e
   exact lenIs_iff.mp (hso p hp).2 x (leadE_mem e)
 refine ob13 (divE_ok hdiv) ?_; rintro j rfl hokl hcase
 have hokl' := okP_iff.mp hokl
 refine ob11 hSt.left ?_; rintro oD hoD
 walk_at "ws"
 refine B_len_dct (look_own hoD) (sz1000 hokl'.1) ?_
 walk_at "ws"
 refine ⟨_, rfl, fun hc => ?_, fun hc => ?_⟩
 · have hne : left ≠ [] := by rintro rfl; exact absurd hc (by decide)
   rcases hcase with ⟨rfl, _⟩ | ⟨k, r, hlead, hcase⟩
   · exact absurd rfl hne
   have hkm : (k, r) ∈ left := leadE_mem hlead
   have hkl : k.length = m := lenIs_iff.mp hll _ hkm
   walk_at "w"
   refine S_twoCall ?_
   walk_at "ws"
   refine mvlead_ok T (by walk_at "om") (look_own hoD) ?_
   rw [hlead]
   refine two_at (a := itup k) (b := rv r) (i := 7) (j := 8) rfl v1 rfl v2 rfl ?_
   walk_at "ws"
   refine first_divisor_ok T (by walk_at "om") (ls := so.map leadE) rfl (by rw [List.length_map]; exact li1 hsl) (by exact li2 hm3 (eL hkl)) (fun x hx => by rw [hls x hx, hkl]) ?_
   refine asg_at 9 rfl v3 ?_
   rcases hcase with ⟨hfirst, hnext⟩ | ⟨i, lb, q, sh, left', hfirst, hlb, hlb1, hlb2, hr, hadd, hshift, hsub, hnext⟩
   · rw [hfirst]
     simp only [optV]
     walk_at "ws"
     refine ⟨_, rfl, fun _ => ?_, fun hc => absurd hc (by decide)⟩
     refine ob11 hSt.rest ?_; rintro oR hoR
     refine SX.nd R hoR fun ndR => SX.nd D hoD fun ndD => ?_
     walk_at "w"
     refine S_setitem rfl ?_
     walk_at "ws"
     refine O_set hoR (sz1000 (by exact li1 hrl)) fun oR' => ?_
     have hSt2 := hSt.putR (dput rest k r) oR'
     refine ob11 hSt2.left ?_; rintro oD2 hoD2
     walk_at "w"
     refine S_exprV (by exact ki_of henv rfl) rfl (E_methD F.plainAttrs_dict F.slot_dict_pop F.type_dict_pop (fun _ => rfl) rfl rfl (fun _ => rfl) ?_)
     walk_at "ws"
     refine (mx33 D _ _ rfl hoD2 ?_)
     walk_at "ws"
     refine M_dpop1 hoD2 (sz1000 hokl'.1) (dget_of ndD hkm) fun oD3 => ?_
     walk_at "w"
     refine S_cont ?_
     refine (hK j _ _ (Nat.lt_succ_self _) ?_).2
     have hSt3 := hSt2.putD (ddel left k) oD3
     rw [← delE_eq ndD, ← putE_eq ndR] at hSt3
     rw [← delE_eq ndD, ← putE_eq ndR]
     refine ⟨D, qs, _, _, _, _, _, _, _, rfl, .val, .val, .val, v4, v5, hSt3, hnext, lenIs_sub hll fun x hx => (mx12 x (delE_sub x hx) rfl), ?_, hql, fun q hq => by have := hqb q hq; exact li1 this⟩
     rw [putE_eq ndR]
     have := dput_len (p := rest) (k := k) (r := r)
     exact li2 hrl this
   · rw [hfirst]
     simp only [optV]
     refine ob12 (ldsL hlb) ?_; rintro p hp hpl
     have hpm := List.mem_of_getElem? hp
     refine ob02 (hso p hpm) ?_; rintro hpok hplen
     have hpok' := okP_iff.mp hpok
     have hlbm := leadE_mem hpl
     have hlbl : lb.1.length = m := hls lb (List.mem_of_getElem? hlb)
     have his := some_lt hp
     have hilt : i < qs.length := by exact li2 (eG hql) his
     rw [getD_of hp] at hshift
     have hrok := (hokl'.2 _ hkm).2
     walk_at "ws"
     refine ⟨_, rfl, fun hc => absurd (of_decide_eq_true hc) (by exact Int.not_lt_of_ge (il1 (c0 i))), fun _ => ?_⟩
     walk_at "ws"
     refine S_two rfl ?_
     walk_at "ws"
     refine I_lst (xs := (so.map leadE).map ldV) rfl (sz1000 (by simp; exact li1 hsl)) (seq_at (by simp; exact li1 his)) (x := ldV (some lb)) (by rw [List.getElem?_map, hlb]; rfl) ?_ (fun _ _ => rfl)
     walk_at "ws"
     refine powers_quotient_ok T (by walk_at "om") (by exact Nat.le_antisymm (li2 (eL hkl) (eG hlbl)) (li2 (eG hkl) (eL hlbl))) (by exact li2 hm3 (eL hlbl)) ?_
     walk_at "ws"
     refine I_lst (xs := (so.map leadE).map ldV) rfl (sz1000 (by simp; exact li1 hsl)) (seq_at (by simp; exact li1 his)) (x := ldV (some lb)) (by rw [List.getElem?_map, hlb]; rfl) ?_ (fun _ _ => rfl)
     walk_at "ws"
     refine rdiv_ok T (by walk_at "om") hrok hlb1 hlb2 ?_
     walk_at "ws"
     refine two_at (i := 10) (j := 11) rfl v4 rfl v5 rfl ?_
     refine ob24 (hSt.quo hilt) ?_; rintro Dj oj hDj hoj z1 hset; refine ob11 z1 ?_; clear z1; rintro oL hoL
     have hqm : qs.getD i [] ∈ qs := by rw [getD_of (List.getElem?_eq_getElem hilt)]; exact List.getElem_mem _
     have hqlen := hqb _ hqm
     have hDl : Ds.length = so.length := by
       obtain ⟨_, _, _, hr⟩ := hSt
       rw [hr.len]; exact hql
     walk_at "w"
     refine S_exprV (by exact ki_of henv rfl) rfl ?_
     walk_at "ws"
     refine I_lst (look_own hoL) (sz1000 (by rw [List.length_map]; exact li2 hsl (eL hlen))) (seq_at (by rw [List.length_map]; exact li2 (eG hlen) his)) (x := .ref Dj) (by rw [List.getElem?_map, hDj]; rfl) ?_ (fun _ _ => rfl)
     walk_at "ws"
     refine add_term_ok T (by walk_at "om") hoj (sz1000 (by exact li1 hqlen)) hadd fun o' => ?_
     have hSt2 := hset q o'
     refine ob11 hSt2.left ?_; rintro oD2 hoD2
     have hs2 := hSt2.over.lk hs (by simp)
     generalize upd σ' Dj (.dct q) o' = σ3 at hSt2 hoD2 hs2 ⊢
     walk_at "w"
     with_reducible refine S_assign ?_ ?_
     · rfl
     refine EV.freeze D hoD2 (by walk_at "ownsub") ?_
     have hs3 : look (del σ3 D) vs = .lst (so.map .dct) := by
       cases vs with
       | ref b =>
         have : b ≠ D := by rintro rfl; rw [look_own hoD2] at hs2; cases hs2
         rw [look_ref, del_ne _ this, ← look_ref]; exact hs2
       | _ => exact hs2
     walk_at "ws"
     refine I_lst hs3 (sz1000 (by rw [List.length_map]; exact li1 hsl)) (seq_at (by rw [List.length_map]; exact li1 his)) (x := .dct p) (by rw [List.getElem?_map, hp]; rfl) ?_ (fun _ _ => rfl)
     walk_at "ws"
     refine mvshift_ok T (by walk_at "om") (div_ne hr hlb2) hshift (by rw [msub_len' hkl hlbl]; exact li1 hm3) ?_
     refine ob04 (shiftE_ok hshift (div_ne hr hlb2)) ?_; rintro _ _ hshl hshe
     walk_at "ws"
     refine mvsub_own T (by walk_at "om") hsub (by rw [hshe, List.length_map]; have := hpok'.1; exact li1 hpok'.1) fun D' o'' hD' => ?_
     walk_at "up1"
     refine S_nil (hK j _ _ (Nat.lt_succ_self _) ?_).1
     have hml := msub_len' hkl hlbl
     refine ⟨D', _, _, _, _, _, _, _, _, rfl, .val, .val, .val, .val, .val, hSt2.newD hD' _ _, hnext, ?_, by exact li1 hrl, by rw [List.length_set]; exact hql, fun q' hq' => ?_⟩
     · refine lenIs_iff.mpr fun x hx => ?_
       rcases addE_keys hsub x hx with ⟨y, hy, e⟩ | ⟨y, hy, e⟩
       · rw [← e]; exact lenIs_iff.mp hll y hy
       · rw [← e]
         refine ob12 (List.mem_map.mp hy) ?_; rintro z hz rfl
         rw [hshe] at hz
         refine ob12 (List.mem_map.mp hz) ?_; rintro w hw rfl
         show (madd w.1 _).length = m
         rw [madd_len (hshl w hw)]; exact hml
     · rcases List.mem_or_eq_of_mem_set hq' with hq' | rfl
       · have := hqb q' hq'; exact li1 this
       · have := addT_len hadd; exact li2 hqlen this
 · have hnil : left = [] := by
     cases left with
     | nil => rfl
     | cons x p =>
       exfalso
       have := of_decide_eq_false hc
       simp at this
   subst hnil
   rcases hcase with ⟨_, hres⟩ | ⟨k, r, hlead, _⟩
   · subst hres
     refine SX.freeze D hoD (by walk_at "ownsub") ?_
     walk_at "ws"
     exact hend _ _ hSt.done
   · (exfalso; cases hlead)
theorem sz1000' {n : Nat} (h : n ≤ 2000) : n ≤ sizeLine := by rw [sizeLine_eq]; exact li1 h
theorem mapO_ok {α β : Type} {f : α → Option β} : ∀ {xs : List α} {ys : List β}, mapO f xs = some ys → ys.length = xs.length ∧ ∀ (i : Nat) x, xs[i]? = some x → ∃ y, ys[i]? = some y ∧ f x = some y
 | [], ys, h => by cases h; exact ⟨rfl, fun i x hx => by simp at hx⟩
 | x :: xs, ys, h => by
   dsimp only [mapO] at h
   cases e : f x with
   | none => rw [e] at h; (exfalso; cases h)
   | some y =>
     rw [e] at h
     cases e2 : mapO f xs with
     | none => rw [e2] at h; (exfalso; cases h)
     | some zs =>
       rw [e2] at h
       cases h
       refine ob02 (mapO_ok e2) ?_; rintro h1 h2
       refine ⟨by simp [h1], fun i z hz => ?_⟩
       cases i with
       | zero => cases hz; exact (mx12 y rfl e)
       | succ i => exact h2 i z hz
theorem foldA_len {α : Type} {k : α → Mon} {c : α → Rat} : ∀ {a : List α} {f r : Poly}, foldO (fun f y => addT f (k y) (c y)) f a = some r → r.length ≤ f.length + a.length
 | [], f, r, h => by cases h; simp
 | y :: a, f, r, h => by
   refine ob12 (foldO_cons h) ?_; rintro g h1 h2
   have := addT_len h1
   have := foldA_len h2
   simp; omega
theorem mulE_len {a b r : Poly} (h : mulE a b = some r) : r.length ≤ 1000000 := by
 refine ob04 (mulE_ok h) ?_; rintro h1 h2 _ h
 have ha := (okP_iff.mp h1).1
 have hb := (okP_iff.mp h2).1
 have key : ∀ (b f r : Poly), foldO (fun f x => foldO (fun f y => addT f (madd y.1 x.1) (qmul y.2 x.2)) f a) f b = some r → r.length ≤ f.length + b.length * 1000 := by
   intro b
   induction b with
   | nil => intro f r h; cases h; simp
   | cons x b ih =>
     intro f r h
     refine ob12 (foldO_cons h) ?_; rintro g h1 h2
     have := foldA_len h1
     have := ih g r h2
     simp only [List.length_cons]; omega
 have := key b [] r h
 simp only [List.length_nil] at this
 exact li2 (kM 1000 hb) this
theorem addE_len {a b r : Poly} (h : addE a b = some r) : r.length ≤ 1000 + b.length := by
 refine ob02 (addE_ok h) ?_; rintro h1 h
 have ha := (okP_iff.mp h1).1
 have := foldA_len h
 exact li2 ha this
theorem rest_of_ok (T : Tops C) {n : Nat} {f : Poly} {vs : V} {so : List Poly} {res : List Poly × Poly} {σ : Sg} {Q : V → Sg → Prop} (hn : 8 ≤ n) (hs : look σ vs = .lst (so.map .dct)) (ha : divideE f so = some res)
   (h : Q (.dct res.2) σ) : CallOK C n "rest_of" [.dct f, vs, .str "lex"] σ Q := by
 refine def_ok T 43 rfl (by decide +kernel) (.parL (.parL (.parL (.fn (T.f 42 rfl) .nil)))) (by walk_at "om") fun env henv => ?_
 walk_at "ws"
 refine mvdivide_ok T (by walk_at "om") hs ha ?_
 walk_at "ws"
 exact h
noncomputable def oV : Option Poly → V
 | none => .none
 | some p => .dct p
theorem mvexact_ok (T : Tops C) {n : Nat} {a b : Poly} {r : Option Poly} {σ : Sg} {Q : V → Sg → Prop} (hn : 8 ≤ n) (hb : b.length ≤ 1000) (ha : exactE a b = some r) (h : Q (oV r) σ) : CallOK C n "mvexact" [.dct a, .dct b] σ Q := by
 unfold exactE at ha
 refine def_ok T 44 rfl (by decide +kernel) (.parL (.parL (.locL (.locL (.bi (T.b 0 rfl) (.fn (T.f 42 rfl) .nil)))))) (by walk_at "om") fun env henv => ?_
 walk_at "ws"
 refine B_len_dct rfl (sz1000 hb) ?_
 walk_at "ws"
 refine ⟨_, rfl, fun hc => ?_, fun hc => ?_⟩
 · have hnil : b = [] := by
     cases b with
     | nil => rfl
     | cons x p => exfalso; have := eq_of_beq hc; simp at this; exact jF (il2 (iL this) (c0 p.length))
   subst hnil
   cases ha
   walk_at "ws"
   exact h
 · have hne : b.isEmpty = false := by
     cases b with
     | nil => exact absurd hc (by decide)
     | cons x p => rfl
   rw [hne] at ha
   have ha : (match divideE a [b] with | none => none | some (qs, rest) => some (cond rest.isEmpty (some (qs.getD 0 [])) none)) = some r := ha
   cases e : divideE a [b] with
   | none => rw [e] at ha; (exfalso; cases ha)
   | some res =>
     obtain ⟨qs, rest⟩ := res
     rw [e] at ha
     have ha := Option.some.inj ha
     walk_at "ws"
     refine S_twoCall ?_
     walk_at "ws"
     refine E_list ?_
     walk_at "ws"
     refine mvdivide_ok T (by walk_at "om") (so := [b]) rfl e ?_
     walk_at "up2"
     walk_at "ws"
     have hrl : rest.length ≤ 100 := by
       refine ob15 (divideE_ok e) ?_; rintro m _ _ _ _ hd
       have key : ∀ (k : Nat) (left : Poly) (qs : List Poly) (rest : Poly) (res : List Poly × Poly), divE k left [b] [leadE b] qs rest = some res → res.2.length ≤ rest.length + k ∧ res.1.length = qs.length := by
         intro k
         induction k with
         | zero => intro left qs rest res h; (exfalso; cases h)
         | succ k ih =>
           intro left qs rest res h
           refine ob13 (divE_ok h) ?_; rintro j hj _ hc
           cases hj
           rcases hc with ⟨_, rfl⟩ | ⟨k', r, _, ⟨_, h⟩ | ⟨i, lb, q, sh, left', _, _, _, _, _, _, _, _, h⟩⟩
           · exact ⟨by simp, rfl⟩
           · have := ih _ _ _ _ h
             have hp : (putE rest k' r).length ≤ rest.length + 1 := by
               generalize rest = p
               induction p with
               | nil => simp [putE]
               | cons z p ih => dsimp only [putE]; cases meq z.1 k' <;> simp; exact ih
             exact ⟨(li2 this.1 hp), (Nat.le_antisymm (li1 (eL this.2)) (li1 (eG this.2)))⟩
           · have := ih _ _ _ _ h
             rw [List.length_set] at this
             exact ⟨(li1 this.1), (Nat.le_antisymm (li1 (eL this.2)) (li1 (eG this.2)))⟩
       have := key _ _ _ _ _ hd
       simpa using this.1
     have hql : qs.length = 1 := by
       refine ob15 (divideE_ok e) ?_; rintro m _ _ _ _ hd
       have key : ∀ (k : Nat) (left : Poly) (qs : List Poly) (rest : Poly) (res : List Poly × Poly), divE k left [b] [leadE b] qs rest = some res → res.1.length = qs.length := by
         intro k
         induction k with
         | zero => intro left qs rest res h; (exfalso; cases h)
         | succ k ih =>
           intro left qs rest res h
           refine ob13 (divE_ok h) ?_; rintro j hj _ hc
           cases hj
           rcases hc with ⟨_, rfl⟩ | ⟨k', r, _, ⟨_, h⟩ | ⟨i, lb, q, sh, left', _, _, _, _, _, _, _, _, h⟩⟩
           · rfl
           · exact ih _ _ _ _ h
           · have := ih _ _ _ _ h
             rw [List.length_set] at this
             exact this
       have := key _ _ _ _ _ hd
       simpa using this
     refine B_len_dct (p := rest) rfl (sz1000 (by exact li1 hrl)) ?_
     walk_at "ws"
     refine ⟨_, rfl, fun hc => ?_, fun hc => ?_⟩
     · have hre : rest.isEmpty = true := by
         cases rest with
         | nil => rfl
         | cons x p => exfalso; have := eq_of_beq hc; simp at this; exact jF (il2 (iL this) (c0 p.length))
       rw [hre] at ha
       subst ha
       walk_at "ws"
       obtain ⟨q, hq⟩ : ∃ q, qs[0]? = some q := ⟨_, List.getElem?_eq_getElem (by exact li1 (eG hql))⟩
       refine I_lst (xs := qs.map .dct) rfl (sz1000 (by rw [List.length_map]; exact li1 (eL hql))) (seq_at (i := 0) (by rw [List.length_map]; exact li1 (eG hql))) (x := .dct q) (by rw [List.getElem?_map, hq]; rfl) ?_ (fun _ _ => rfl)
       rw [getD_of hq] at h
       exact h
     · have hre : rest.isEmpty = false := by
         cases rest with
         | nil => exact absurd hc (by decide)
         | cons x p => rfl
       rw [hre] at ha
       subst ha
       walk_at "ws"
       exact h
theorem sPolyE_ok {f g r : Poly} (h : sPolyE f g = some r) : ∃ one other a b, leadE f = some one ∧ leadE g = some other ∧ one.1.length = other.1.length ∧ okR one.2 = true ∧ okR other.2 = true ∧ one.2 ≠ 0 ∧ other.2 ≠ 0 ∧
   shiftE f (msub (mmax one.1 other.1) one.1) (1 / one.2) = some a ∧ shiftE g (msub (mmax one.1 other.1) other.1) (1 / other.2) = some b ∧ subE a b = some r := by
 refine ob12 (mb (leadE f) h) ?_; rintro one e1 h
 refine ob12 (mb (leadE g) h) ?_; rintro other e2 h
 refine ob02 (cond_some h) ?_; rintro h1 h
 simp only [Bool.and_eq_true, qz_eq, Nat.beq_eq, Bool.not_eq_true', decide_eq_false_iff_not] at h1
 rw [qdiv_eq, qdiv_eq, eone_eq] at h
 refine ob12 (mb _ h) ?_; rintro a e3 h
 refine ob12 (mb _ h) ?_; rintro b e4 h
 exact (mx48 one other a b e1 e2 h1.1.1.1.1 h1.1.1.1.2 h1.1.1.2 h1.1.2 h1.2 (mx03 e3 e4 h))
theorem s_poly_ok (T : Tops C) {n : Nat} {f g r : Poly} {σ : Sg} {Q : V → Sg → Prop} (hn : 7 ≤ n) (hf : ∀ x ∈ f, x.1.length ≤ 1000) (hg : g.length ≤ 1000) (ha : sPolyE f g = some r) (h : Q (.dct r) σ) : CallOK C n "s_poly" [.dct f, .dct g, .str "lex"] σ Q := by
 refine ob48 (sPolyE_ok ha) ?_; rintro one other a b h1 h2 h3 h4 h5 h6 h7 z1; refine ob03 z1 ?_; clear z1; rintro h8 h9 h10
 have hl1 : one.1.length ≤ 1000 := hf _ (leadE_mem h1)
 have hj : (mmax one.1 other.1).length = other.1.length := mmax_len h3
 refine def_ok T 45 rfl (by decide +kernel) (.parL (.parL (.parL (.locL (.locL (.locL (.locL (.fn (T.f 32 rfl) (.fn (T.f 7 rfl) (.fn (T.f 30 rfl) (.fn (T.f 6 rfl) (.fn (T.f 20 rfl) (.fn (T.f 28 rfl) .nil))))))))))))) (by walk_at "om") fun env henv => ?_
 walk_at "w"
 refine S_two rfl ?_
 walk_at "ws"
 refine mvlead_ok T (by walk_at "om") rfl ?_
 walk_at "ws"
 refine mvlead_ok T (by walk_at "om") rfl ?_
 rw [h1, h2]
 simp only [ldV]
 walk_at "ws"
 walk_at "up2"
 walk_at "ws"
 refine powers_join_ok T (by walk_at "om") h3 (by exact li2 (eG h3) hl1) ?_
 walk_at "up1"
 walk_at "ws"
 refine powers_quotient_ok T (by walk_at "om") (by exact Nat.le_antisymm (li2 (eG h3) (eL hj)) (li2 (eL h3) (eG hj))) (by walk_at "om") ?_
 walk_at "ws"
 refine rinv_ok T (by walk_at "om") h4 h6 ?_
 walk_at "ws"
 refine mvshift_ok T (by walk_at "om") (inv_ne h6) h8 (by rw [msub_len (by exact Nat.le_antisymm (li2 (eG h3) (eL hj)) (li2 (eL h3) (eG hj)))]; exact li1 hl1) ?_
 walk_at "up1"
 walk_at "ws"
 refine powers_quotient_ok T (by walk_at "om") (by walk_at "om") (by exact li2 (eG h3) hl1) ?_
 walk_at "ws"
 refine rinv_ok T (by walk_at "om") h5 h7 ?_
 walk_at "ws"
 refine mvshift_ok T (by walk_at "om") (inv_ne h7) h9 (by rw [msub_len (by walk_at "om")]; exact li2 (eG h3) hl1) ?_
 walk_at "ws"
 refine mvsub_ok T (by walk_at "om") h10 ?_ h
 refine ob04 (shiftE_ok h9 (inv_ne h7)) ?_; rintro _ _ _ e
 rw [e, List.length_map]; exact li1 hg
theorem firstE_any {k : Mon} {r : Rat} : ∀ (ls : List Mon) (i : Nat), (firstE k (ls.map fun o => some (o, r)) i).isSome = ls.any fun o => mdvd o k
 | [], _ => rfl
 | o :: ls, i => by
   show (cond (mdvd o k) (some i) (firstE k (ls.map fun o => some (o, r)) (i + 1))).isSome = (mdvd o k || ls.any fun o => mdvd o k)
   cases mdvd o k with
   | true => rfl
   | false => exact firstE_any ls (i + 1)
theorem optV_ge (o : Option Nat) : ∃ i, optV o = .int i ∧ decide (i ≥ 0) = o.isSome := by
 cases o with
 | none => exact (mx12 (-1) rfl rfl)
 | some j => exact (mx12 j rfl (by simp))
theorem is_divided_ok (T : Tops C) {n : Nat} {k : Mon} {ls : List Mon} {σ : Sg} {Q : V → Sg → Prop} (hn : 3 ≤ n) (hlen : ls.length ≤ 2000) (hk : k.length ≤ 1000) (hls : ∀ x ∈ ls, x.length = k.length) (h : Q (.bool (ls.any fun o => mdvd o k)) σ) :
   CallOK C n "is_divided" [itup k, .lst (ls.map itup)] σ Q := by
 refine def_ok T 46 rfl (by decide +kernel) (.parL (.parL (.fn (T.f 41 rfl) .nil))) (by walk_at "om") fun env henv => ?_
 walk_at "ws"
 refine E_listcompF (fun _ => rfl) rfl (by decide +kernel) (by decide +kernel) (by decide +kernel) (.loc (.loc (.con T.r1 .nil))) (IE_list ?_)
 walk_at "ws"
 refine (mx12 _ rfl (fun cenv => ?_))
 refine ListL_v (fun i => ((ls.take i).map fun o => (some (o, eone) : Ld)).map ldV) (fun s => [(".0", .un), ("one", s), ("R1", .con (rv eone))]) rfl rfl ?_ ?_
 · skip
   rw [List.length_map, List.take_length]
   walk_at "ws"
   refine first_divisor_ok T (by walk_at "om") (ls := ls.map fun o => some (o, eone)) rfl (by rw [List.length_map]; exact hlen) hk (fun x hx => ?_) ?_
   · refine ob12 (List.mem_map.mp hx) ?_; rintro o ho e
     cases e; exact hls o ho
   · refine ob12 (optV_ge (firstE k (ls.map fun o => some (o, eone)) 0)) ?_; rintro i hi hd
     rw [hi]
     walk_at "ws"
     rw [hd, firstE_any]
     exact h
 · intro i v s hv hs
   rw [List.getElem?_map] at hv
   refine ob12 (Option.map_eq_some_iff.mp hv) ?_; rintro o ho rfl
   refine ⟨.name (up_at 1 rfl hs), fun K hK => ?_⟩
   walk_at "ws"
   have := some_lt ho
   exact hK _ (sz1000' (by rw [List.length_map, List.length_map, List.length_take]; exact li2 hlen (Nat.min_le_right i ls.length))) (by rw [take_succ_get ho, List.map_append, List.map_append]; rfl)
theorem trimN_step {rows : List Poly} {m : Nat} (h : (rows.getD m []).isEmpty = true) : trimN rows (m + 1) = trimN rows m := by
 show cond _ _ _ = _
 rw [h]; rfl
theorem trimN_le (rows : List Poly) : ∀ m, trimN rows m ≤ m
 | 0 => Nat.le_refl _
 | m + 1 => by
   show cond (rows.getD m []).isEmpty (trimN rows m) (m + 1) ≤ _
   cases (rows.getD m []).isEmpty with
   | true => exact Nat.le_succ_of_le (trimN_le rows m)
   | false => exact Nat.le_refl _
theorem lslice_to (xs : List V) (m : Nat) (h : m ≤ xs.length) : lslice xs none (some (m : Int)) = xs.take m := by
 simp only [lslice, Option.elim, clipAt_nat, List.drop_zero, Nat.sub_zero]
 rw [Nat.min_eq_left h]
theorem trimmed_rows_ok (T : Tops C) {n : Nat} {va : V} {ps : List Poly} {σ : Sg} {Q : V → Sg → Prop} (hn : 1 ≤ n) (hv : look σ va = .lst (ps.map .dct)) (hl : ps.length ≤ 2000) (hp : ∀ p ∈ ps, p.length ≤ 2000000) (h : Q (.lst ((trimE ps).map .dct)) σ) :
   CallOK C n "trimmed_rows" [va] σ Q := by
 have hsz : (ps.map V.dct).length ≤ sizeLine := sz1000' (by rw [List.length_map]; exact hl)
 refine def_ok T 48 rfl (by decide +kernel) (.parL (.locL (.bi (T.b 0 rfl) .nil))) (by walk_at "om") fun env henv => ?_
 walk_at "ws"
 refine B_len_lst hv hsz ?_
 walk_at "up1"
 walk_at "w"
 refine While_k (fun k e σ' => σ = σ' ∧ k ≤ ps.length ∧ trimN ps ps.length = trimN ps k ∧ e = ([("rows", .val va), ("many", .val (.int (k : Nat))), ("len", .bi (.builtin "len"))] : Vars)) ps.length (mx04 rfl (Nat.le_refl _) rfl (by rw [List.length_map]; rfl)) ?_
 rintro k e σ' z1 K hK hR; refine ob04 z1 ?_; clear z1; rintro rfl hk ht rfl
 have hfin : trimN ps k = k → SB C (n - 1) env [("rows", .val va), ("many", .val (.int (k : Nat))), ("len", .bi (.builtin "len"))] [] σ (fun _ _ _ => Q (.lst ((ps.map V.dct).take k)) σ) := fun e => by
   refine S_nil ?_
   rw [← List.map_take, ← e, ← ht]; exact h
 have hq : trimN ps k = k → Q (.lst ((ps.map V.dct).take k)) σ := fun e => by
   rw [← List.map_take, ← e, ← ht]; exact h
 walk_at "ws"
 refine ⟨_, rfl, fun hc => ?_, fun hc => ⟨fun hc => (by (exfalso; cases hc)), fun _ => ?_⟩⟩
 · obtain ⟨m, rfl⟩ : ∃ m, k = m + 1 := ⟨k - 1, by have := of_decide_eq_true hc; exact Nat.le_antisymm (li1 (sA k 1)) (li1 (sL (show 1 ≤ k from (nC (il1 this)))))⟩
   obtain ⟨p, hpm⟩ : ∃ p, ps[m]? = some p := ⟨_, List.getElem?_eq_getElem (by walk_at "om")⟩
   walk_at "ws"
   have e1 : ((m + 1 : Nat) : Int) - 1 = (m : Nat) := by exact Int.le_antisymm il0 il0
   rw [e1]
   refine I_lst hv hsz (seq_at (by rw [List.length_map]; exact li1 hk)) (x := .dct p) (by rw [List.getElem?_map, hpm]; rfl) ?_ (fun _ _ => rfl)
   walk_at "ws"
   refine B_len_dct rfl (by rw [sizeLine_eq]; have := hp p (List.mem_of_getElem? hpm); exact li1 this) ?_
   walk_at "ws"
   refine ⟨_, rfl, fun hc => ?_, fun hc => ?_⟩
   · have he : p.isEmpty = true := by
       cases p with
       | nil => rfl
       | cons x p => exfalso; have := eq_of_beq hc; simp at this; exact jF (il2 (iL this) (c0 p.length))
     refine S_cons ?_
     refine S_aug (by walk_at "mem") ?_
     walk_at "ws"
     rw [e1]
     walk_at "up1"
     refine S_nil (hK m _ _ (Nat.lt_succ_self _) (mx04 rfl (by exact li1 hk) ?_ rfl)).1
     rw [ht, trimN_step (by rw [getD_of hpm]; exact he)]
   · have he : p.isEmpty = false := by
       cases p with
       | nil => exact absurd hc (by decide)
       | cons x p => rfl
     walk_at "w"
     walk_at "w"
     refine E_lslice (fun _ _ => rfl) ?_
     walk_at "w"
     show EE _ _ _ _ _ _ _
     walk_at "w"
     refine ⟨_, rfl, _, hv, hsz, ?_⟩
     rw [lslice_to _ _ (by rw [List.length_map]; exact li1 hk)]
     refine hq ?_
     show cond (ps.getD m []).isEmpty _ _ = _
     rw [getD_of hpm, he]; rfl
 · have hk0 : k = 0 := by have := of_decide_eq_false hc; exact Nat.le_antisymm (nC (il1 (jG this))) li0
   subst hk0
   walk_at "w"
   walk_at "w"
   refine E_lslice (fun _ _ => rfl) ?_
   walk_at "w"
   show EE _ _ _ _ _ _ _
   walk_at "w"
   refine ⟨_, rfl, _, hv, hsz, ?_⟩
   rw [lslice_to _ _ (Nat.zero_le _)]
   exact hq rfl
theorem pseudoE_ok {k : Nat} {left b r : List Poly} (h : pseudoE k left b = some r) : ∃ n, k = n + 1 ∧ ((left.length < b.length ∧ r = left) ∨ (b.length ≤ left.length ∧
   ∃ sc sc', mapO (fun one => mulE one (b.getLastD [])) left = some sc ∧ psGo (left.getLastD []) (left.length - b.length) b sc = some sc' ∧ pseudoE n (trimE sc'.dropLast) b = some r)) := by
 cases k with
 | zero => (exfalso; cases h)
 | succ n =>
   refine (mx12 n rfl ?_)
   rcases cd (y := some left) h with ⟨e, h⟩ | ⟨e, h⟩
   · refine .inr ⟨Nat.le_of_ble_eq_true e, ?_⟩
     refine ob12 (mb _ h) ?_; rintro sc e2 h
     refine ob12 (mb _ h) ?_; rintro sc' e3 h
     exact mx23 sc sc' e2 e3 h
   · refine .inl ⟨Nat.lt_of_not_le fun q => ?_, (Option.some.inj h).symm⟩
     rw [Nat.ble_eq_true_of_le q] at e; cases e
theorem psGo_ok {top : Poly} {j : Nat} {one : Poly} {b sc r : List Poly} (h : psGo top j (one :: b) sc = some r) : ∃ m p, mulE one top = some m ∧ addE (sc.getD j []) (negE m) = some p ∧ psGo top (j + 1) b (sc.set j p) = some r := by
 refine ob12 (mb (mulE one top) h) ?_; rintro m e h
 refine ob12 (mb _ h) ?_; rintro p e2 h
 exact mx23 m p e e2 h
theorem psGo_len {top : Poly} : ∀ {b : List Poly} {j : Nat} {sc r : List Poly}, psGo top j b sc = some r → r.length = sc.length
 | [], _, _, _, h => by cases h; rfl
 | one :: b, j, sc, r, h => by
   refine ob23 (psGo_ok h) ?_; rintro m p _ _ h
   have := psGo_len h
   rw [List.length_set] at this
   exact this
theorem last_at {α : Type} {xs : List α} {d : α} (h : 1 ≤ xs.length) : xs[xs.length - 1]? = some (xs.getLastD d) := by
 rw [List.getLastD_eq_getLast?, ← List.getLast?_eq_getElem?]
 cases e : xs.getLast? with
 | none => rw [List.getLast?_eq_none_iff] at e; subst e; simp at h
 | some x => rfl
theorem seq_last {n : Nat} (h : 1 ≤ n) : seqIndex? (-1) n = some (n - 1) := by
 unfold seqIndex?
 simp only [show (-1 : Int) < 0 by decide, if_true]
 rw [if_pos (by simp; exact ⟨(il1 (cN h)), il0⟩)]
 congr 1; exact Nat.le_antisymm (nC (il2 (cN (sA n 1)) (tL (show 0 ≤ (-1 + ↑n) from (il1 (cN h)))))) (nC (il2 (cN (sL (show 1 ≤ n from (li1 h)))) (tG (-1 + ↑n))))
theorem lslice_init (xs : List V) : lslice xs none (some (-1)) = xs.dropLast := by
 have e : clipAt xs.length (-1) = xs.length - 1 := by
   by_cases h : 1 ≤ xs.length
   · exact clipAt_neg xs.length 1 (Nat.le_refl _)
   · have : xs.length = 0 := by exact Nat.le_antisymm (li1 (nL h)) li0
     rw [this]; rfl
 simp only [lslice, Option.elim, List.drop_zero, Nat.sub_zero, e]
 rw [List.dropLast_eq_take]
theorem trimE_len (ps : List Poly) : (trimE ps).length ≤ ps.length := by unfold trimE; rw [List.length_take]; exact li1 (Nat.min_le_right (trimN ps ps.length) ps.length)
noncomputable abbrev psV (a b : V) (s1 s2 s3 s4 s5 s6 : Slot) : Vars := [("a", .val a), ("b", .val b), ("left", s1), ("top", s2), ("shift", s3), ("one", s4), ("scaled", s5), ("at", s6),
 ("list", .bi (.type "list")), ("len", .bi (.builtin "len")), ("enumerate", .bi (.type "enumerate")), ("mvadd", .fn), ("mvneg", .fn), ("mvmul", .fn), ("trimmed_rows", .fn)]
theorem pseudo_rest_ok (T : Tops C) {n : Nat} {a b r : List Poly} {k : Nat} {σ : Sg} {Q : V → Sg → Prop} (hn : 6 ≤ n) (ha : a.length ≤ 1000) (hb1 : 1 ≤ b.length) (hb : b.length ≤ 1000) (hr : pseudoE k a b = some r) (h : Q (.lst (r.map .dct)) σ) :
   CallOK C n "pseudo_rest" [.lst (a.map .dct), .lst (b.map .dct)] σ Q := by
 have hszb : (b.map V.dct).length ≤ sizeLine := sz1000 (by rw [List.length_map]; exact hb)
 refine def_ok T 49 rfl (by decide +kernel) (.parL (.parC (.locL (.locL (.locL (.locL (.locL (.locL (.bi (T.b 7 rfl) (.bi (T.b 0 rfl) (.bi (T.b 10 rfl) (.fn (T.f 25 rfl) (.fn (T.f 27 rfl) (.fn (T.f 31 rfl) (.fn (T.f 48 rfl) .nil))))))))))))))) (by walk_at "om") fun env henv => ?_
 walk_at "w"
 with_reducible refine S_assign ?_ ?_
 · rfl
 refine EV.frz ?_
 walk_at "ws"
 refine T_list (xs := a.map .dct) (.inl rfl) (sz1000 (by rw [List.length_map]; exact ha)) fun L o hL => .inr (mx33 L _ o rfl (upd_same ..) ?_)
 rw [del_upd _ _ hL]
 walk_at "up1"
 walk_at "w"
 refine While_k (fun k e σ' => σ = σ' ∧ ∃ left s2 s3 s4 s5 s6, (IsVar s2 ∧ IsVar s3 ∧ IsVar s4 ∧ IsVar s5 ∧ IsVar s6) ∧ left.length ≤ 1000 ∧ pseudoE k left b = some r ∧ e = psV (.lst (a.map .dct)) (.lst (b.map .dct)) (.val (.lst (left.map .dct))) s2 s3 s4 s5 s6) k
   ⟨rfl, a, _, _, _, _, _, (mx05 .un .un .un .un .un), ha, hr, rfl⟩ ?_
 clear hr ha hL
 rintro k e σ' z1 K hK hR; refine ob02 z1 ?_; clear z1; rintro rfl z20; refine ob64 z20 ?_; clear z20; rintro left s2 s3 s4 s5 s6 z21 hll hr rfl; refine ob05 z21 ?_; clear z21; rintro v2 v3 v4 v5 v6
 have hszl : (left.map V.dct).length ≤ sizeLine := sz1000 (by rw [List.length_map]; exact hll)
 refine ob12 (pseudoE_ok hr) ?_; rintro j rfl hcase
 walk_at "ws"
 refine B_len_lst rfl hszl ?_
 walk_at "ws"
 refine B_len_lst rfl hszb ?_
 walk_at "ws"
 rw [List.length_map, List.length_map]
 refine ⟨_, rfl, fun hc => ?_, fun hc => ?_⟩
 · have hge : b.length ≤ left.length := by have := of_decide_eq_true hc; exact nC (il1 this)
   rcases hcase with ⟨hlt, _⟩ | ⟨_, sc, sc', hmap, hgo, hnext⟩
   · exact nF (li2 hge hlt)
   refine ob02 (mapO_ok hmap) ?_; rintro hscl hsc
   have hb1' := hb1
   walk_at "w"
   refine S_two rfl ?_
   walk_at "ws"
   refine I_lst rfl hszl (by rw [List.length_map]; exact seq_last (by exact li2 hb1 hge)) (x := .dct (left.getLastD [])) (by rw [List.getElem?_map, last_at (d := []) (by exact li2 hb1 hge)]; rfl) ?_ (fun _ _ => rfl)
   walk_at "ws"
   refine B_len_lst rfl hszl ?_
   walk_at "ws"
   refine B_len_lst rfl hszb ?_
   walk_at "ws"
   rw [List.length_map, List.length_map]
   walk_at "up2"
   walk_at "w"
   refine S_assign_listcomp (by exact sw_of henv rfl) (by exact kd_of henv rfl) (fun _ => rfl) rfl (by decide +kernel) (by decide +kernel) (by decide +kernel) (.loc (.loc (.fn (T.f 31 rfl) (.free (by exact kd_of henv rfl) (by walk_at "mem") .nil)))) (IE_list ?_)
   walk_at "ws"
   refine (mx12 _ rfl (fun cenv => ?_))
   refine ListL_v (fun i => (sc.take i).map .dct) (fun s => [(".0", .un), ("one", s), ("mvmul", .fn), ("b", .val (.lst (b.map .dct)))]) rfl rfl ?_ ?_
   rotate_left
   · intro i v s hv hs
     refine ob12 (dctsL hv) ?_; rintro p hp rfl
     refine ob12 (hsc i p hp) ?_; rintro m hm hmul
     refine ⟨.name (up_at 1 rfl hs), fun K hK => ?_⟩
     walk_at "ws"
     refine I_lst rfl hszb (by rw [List.length_map]; exact seq_last hb1) (x := .dct (b.getLastD [])) (by rw [List.getElem?_map, last_at (d := []) hb1]; rfl) ?_ (fun _ _ => rfl)
     walk_at "ws"
     refine mvmul_ok T (by walk_at "om") hmul ?_
     have := some_lt hp
     exact hK _ (sz1000 (by rw [List.length_map, List.length_take]; exact li3 hll this (Nat.min_le_left i sc.length))) (by rw [take_succ_get hm, List.map_append]; rfl)
   intro S oS hS
   have e9 : sc.take (left.map V.dct).length = sc := by rw [List.length_map, ← hscl, List.take_length]
   rw [e9]
   walk_at "up1"
   walk_at "w"
   have hscb : ∀ p ∈ sc, p.length ≤ 2000000 := by
     intro p hp
     refine ob11 (List.mem_iff_getElem?.mp hp) ?_; rintro i hi
     have hil := some_lt hi
     refine ob12 (hsc i (left[i]'(by exact li2 (eL hscl) hil)) (List.getElem?_eq_getElem (by exact li2 (eL hscl) hil))) ?_; rintro y hy hm
     rw [hi] at hy
     cases hy
     have := mulE_len hm; exact li1 this
   have hscl' : sc'.length = sc.length := psGo_len hgo
   refine S_for (fun _ => rfl) ?_
   refine IE_enum (by walk_at "mem") rfl ?_
   walk_at "ws"
   refine (mx12 _ (.inr rfl) ?_)
   refine For_k (fun i e σ' => ∃ t4 t6 c o, IsVar t4 ∧ IsVar t6 ∧ σ' = upd σ S (.lst (c.map .dct)) o ∧ c.length = sc.length ∧ psGo (left.getLastD []) (left.length - b.length + i) (b.drop i) c = some sc' ∧ (∀ p ∈ c, p.length ≤ 2000000) ∧
     e = psV (.lst (a.map .dct)) (.lst (b.map .dct)) (.val (.lst (left.map .dct))) (.val (.dct (left.getLastD []))) (.val (.int ((left.length : Int) - b.length))) t4 (.val (.ref S)) t6) (mx47 _ _ sc oS v4 v6 rfl rfl hgo hscb rfl) ?_ ?_
   · rintro e σ' z1; refine ob47 z1 ?_; clear z1; rintro t4 t6 c o hv4 hv6 rfl hcl hg hcb rfl
     have : (enumV (b.map V.dct)).length = b.length := by simp [enumV]
     rw [this, List.drop_length] at hg
     have hg : some c = some sc' := hg
     cases hg
     walk_at "w"
     refine SX.freeze S (upd_same ..) (by walk_at "ownsub") ?_
     rw [del_upd _ _ hS]
     walk_at "ws"
     refine E_lslice (fun _ _ => rfl) ?_
     walk_at "w"
     show EE _ _ _ _ _ _ _
     walk_at "w"
     refine ⟨_, rfl, _, rfl, sz1000 (by rw [List.length_map]; exact li3 hll (eL hscl) (eL hscl')), ?_⟩
     rw [lslice_init, ← List.map_dropLast]
     walk_at "ws"
     refine trimmed_rows_ok T (by walk_at "om") rfl (by rw [List.length_dropLast]; exact li4 hll (eL hscl) (eL hscl') (sL (show 1 ≤ sc'.length from (li4 hb1 hge (eG hscl) (eG hscl'))))) (fun p hp => hcb p ((List.dropLast_sublist _).subset hp)) ?_
     walk_at "up1"
     refine S_nil (hK j _ _ (Nat.lt_succ_self _) ⟨rfl, _, _, _, _, _, _, (mx05 .val .val hv4 .val hv6), ?_, hnext, rfl⟩).1
     have := trimE_len sc'.dropLast
     rw [List.length_dropLast] at this
     exact li4 (aA hll (eL hscl)) (eL hscl') this (sL (show 1 ≤ sc'.length from (li4 hb1 hge (eG hscl) (eG hscl'))))
   · rintro i v e σ' hv z1 K2 hK2 hR2; refine ob47 z1 ?_; clear z1; rintro t4 t6 c o hv4 hv6 rfl hcl hg hcb rfl
     refine ob12 (enumV_get hv) ?_; rintro y hy rfl
     refine ob12 (dctsL hy) ?_; rintro one hone rfl
     have hib := some_lt hone
     rw [drop_get hone] at hg
     refine ob23 (psGo_ok hg) ?_; rintro m p hmul hadd hg
     have hix : left.length - b.length + i < c.length := by exact li4 (eG hscl) (eG hcl) hib (sL (show b.length ≤ left.length from (li1 hge)))
     have e1 : (i : Int) + ((left.length : Int) - b.length) = ((left.length - b.length + i : Nat) : Int) := by exact Int.le_antisymm (il1 (cN (sA left.length b.length))) (il1 (cN (sL (show b.length ≤ left.length from (li1 hge)))))
     obtain ⟨q, hq⟩ : ∃ q, c[left.length - b.length + i]? = some q := ⟨_, List.getElem?_eq_getElem hix⟩
     rw [getD_of hq] at hadd
     have hszc : (c.map V.dct).length ≤ sizeLine := sz1000 (by rw [List.length_map]; exact li3 hll (eL hscl) (eL hcl))
     refine (mx12 _ (.two (up_at 7 rfl hv6) (up_at 5 rfl hv4)) ?_)
     walk_at "w"
     refine S_setitem rfl ?_
     walk_at "ws"
     rw [e1]
     refine I_lst (look_own (upd_same ..)) hszc (seq_at (by rw [List.length_map]; exact hix)) (x := .dct q) (by rw [List.getElem?_map, hq]; rfl) ?_ (fun _ _ => rfl)
     walk_at "ws"
     refine mvmul_ok T (by walk_at "om") hmul ?_
     walk_at "ws"
     have hml := mulE_len hmul
     refine mvneg_ok T (by walk_at "om") (by exact li1 hml) ?_
     walk_at "ws"
     refine mvadd_ok T (by walk_at "om") hadd (by rw [negE_len]; exact li1 hml) ?_
     walk_at "ws"
     rw [e1]
     refine O_lset (upd_same ..) hszc (seq_at (by rw [List.length_map]; exact hix)) fun o' => ?_
     rw [upd_upd, ← List.map_set]
     refine S_nil (hK2 _ _ (fun _ hx => (nomatch hx)) (mx47 _ _ _ o' .val .val rfl (by rw [List.length_set]; exact hcl) hg (fun p' hp' => ?_) rfl)).1
     rcases List.mem_or_eq_of_mem_set hp' with hp' | rfl
     · exact hcb p' hp'
     · have := addE_len hadd; rw [negE_len] at this; exact li2 hml this
 · rcases hcase with ⟨_, rfl⟩ | ⟨hge, _⟩
   · walk_at "ws"
     exact h
   · exact absurd (of_decide_eq_false hc) (by exact fun hh => hh (il1 (cN hge)))
noncomputable def GcdOK (C : Cx) (d m : Nat) (g : Poly → Poly → Option Poly) : Prop := ∀ {n : Nat} {a b r : Poly} {σ : Sg} {Q : V → Sg → Prop}, d ≤ n → g a b = some r → Q (.dct r) σ → CallOK C n "mvgcd" [.dct a, .dct b, .int (m : Nat)] σ Q
theorem exactE_len {a b : Poly} {r : Option Poly} (h : exactE a b = some r) : b.length ≤ 1000 := by
 cases b with
 | nil => simp
 | cons x p =>
   unfold exactE at h
   cases e : divideE a [x :: p] with
   | none => rw [e] at h; (exfalso; cases h)
   | some res =>
     refine ob15 (divideE_ok e) ?_; rintro m _ _ hs _ _
     exact (okP_iff.mp (hs (x :: p) List.mem_cons_self).1).1
theorem exactS_ok {a b r : Poly} (h : exactS a b = some r) : exactE a b = some (some r) := by
 unfold exactS at h
 split at h
 · rename_i q e; rw [e]; cases h; rfl
 · (exfalso; cases h)
theorem contentW_ok {g : Poly → Poly → Option Poly} {rows : List Poly} {r : Poly} (h : contentW g rows = some r) : foldO g [] rows = some r := h
theorem rows_content_ok (T : Tops C) {n d m : Nat} {g : Poly → Poly → Option Poly} (G : GcdOK C d m g) {rows : List Poly} {r : Poly} {σ : Sg} {Q : V → Sg → Prop} (hn : d + 1 ≤ n) (hr : contentW g rows = some r) (h : Q (.dct r) σ) :
   CallOK C n "rows_content" [.lst (rows.map .dct), .int (m : Nat)] σ Q := by
 have hr := contentW_ok hr
 refine def_ok T 50 rfl (by decide +kernel) (.parL (.parL (.locL (.locL (.fn (T.f 54 rfl) .nil))))) (by walk_at "om") fun env henv => ?_
 walk_at "w"
 with_reducible refine S_assign ?_ ?_
 · rfl
 refine EV.frz ?_
 refine E_dict0 fun D o hD => .inr (mx33 D _ o rfl (upd_same ..) ?_)
 rw [del_upd _ _ hD]
 walk_at "up1"
 walk_at "w"
 refine S_for (fun _ => rfl) (IE_list ?_)
 walk_at "ws"
 refine (mx12 _ rfl ?_)
 refine For_k (fun i e σ' => σ = σ' ∧ ∃ f s, IsVar s ∧ foldO g f (rows.drop i) = some r ∧ e = ([("rows", .val (.lst (rows.map .dct))), ("n", .val (.int (m : Nat))), ("found", .val (.dct f)), ("row", s), ("mvgcd", .fn)] : Vars)) ⟨rfl, _, _, .un, hr, rfl⟩ ?_ ?_
 · rintro e σ' z1; refine ob02 z1 ?_; clear z1; rintro rfl z20; refine ob23 z20 ?_; clear z20; rintro f s hs hf rfl
   rw [List.length_map, List.drop_length] at hf
   cases hf
   walk_at "ws"
   exact h
 · rintro i v e σ' hv z1 K hK hR; refine ob02 z1 ?_; clear z1; rintro rfl z20; refine ob23 z20 ?_; clear z20; rintro f s hs hf rfl
   refine ob12 (dctsL hv) ?_; rintro p hp rfl
   rw [drop_get hp] at hf
   refine ob12 (foldO_cons hf) ?_; rintro f' h1 h2
   refine (mx12 _ (.name (up_at 3 rfl hs)) ?_)
   walk_at "ws"
   refine G (by walk_at "om") h1 ?_
   walk_at "up1"
   exact S_nil (hK _ _ (fun _ _ => rfl) ⟨rfl, _, _, .val, h2, rfl⟩).1
theorem primW_ok {g : Poly → Poly → Option Poly} {rows r : List Poly} (h : primW g rows = some r) : (rows = [] ∧ r = []) ∨ (rows ≠ [] ∧ ∃ c, contentW g rows = some c ∧ mapO (fun row => exactS row c) rows = some r) := by
 unfold primW at h
 cases rows with
 | nil => cases h; exact .inl ⟨rfl, rfl⟩
 | cons x rows =>
   right
   refine ⟨by simp, ?_⟩
   exact mb _ h
theorem primW_len {g : Poly → Poly → Option Poly} {rows r : List Poly} (h : primW g rows = some r) : r.length = rows.length := by
 rcases primW_ok h with ⟨rfl, rfl⟩ | ⟨_, c, _, hm⟩
 · rfl
 · exact (mapO_ok hm).1
theorem rows_primitive_ok (T : Tops C) {n d m : Nat} {g : Poly → Poly → Option Poly} (G : GcdOK C d m g) {rows r : List Poly} {σ : Sg} {Q : V → Sg → Prop} (hn : d + 2 ≤ n) (hn2 : 10 ≤ n) (hl : rows.length ≤ 1000) (hr : primW g rows = some r)
   (h : Q (.lst (r.map .dct)) σ) : CallOK C n "rows_primitive" [.lst (rows.map .dct), .int (m : Nat)] σ Q := by
 refine def_ok T 51 rfl (by decide +kernel) (.parL (.parL (.locC (.bi (T.b 0 rfl) (.fn (T.f 50 rfl) .nil))))) (by walk_at "om") fun env henv => ?_
 walk_at "ws"
 refine B_len_lst rfl (sz1000 (by rw [List.length_map]; exact hl)) ?_
 walk_at "ws"
 rw [List.length_map]
 refine ⟨_, rfl, fun hc => ?_, fun hc => ?_⟩
 · rcases primW_ok hr with ⟨rfl, rfl⟩ | ⟨hne, _⟩
   · walk_at "w"
     walk_at "w"
     refine E_list ?_
     walk_at "ws"
     exact h
   · exfalso
     have := eq_of_beq hc
     cases rows with
     | nil => exact hne rfl
     | cons x rows => simp at this; exact jF (il2 (iL this) (c0 rows.length))
 · rcases primW_ok hr with ⟨rfl, _⟩ | ⟨hne, c, hcon, hmap⟩
   · exact absurd hc (by decide)
   refine ob02 (mapO_ok hmap) ?_; rintro hrl hrs
   walk_at "ws"
   refine rows_content_ok T G (by walk_at "om") hcon ?_
   walk_at "up1"
   walk_at "ws"
   refine E_listcompF (fun _ => rfl) rfl (by decide +kernel) (by decide +kernel) (by decide +kernel) (.loc (.loc (.fn (T.f 44 rfl) (.free (by exact kd_of henv rfl) (by walk_at "mem") .nil)))) (IE_list ?_)
   walk_at "ws"
   refine (mx12 _ rfl (fun cenv => ?_))
   refine ListL_v (fun i => (r.take i).map .dct) (fun s => [(".0", .un), ("row", s), ("mvexact", .fn), ("content", .val (.dct c))]) rfl rfl ?_ ?_
   · skip
     have e9 : r.take (rows.map V.dct).length = r := by rw [List.length_map, ← hrl, List.take_length]
     rw [e9]
     exact h
   · intro i v s hv hs
     refine ob12 (dctsL hv) ?_; rintro p hp rfl
     refine ob12 (hrs i p hp) ?_; rintro q hq hex
     have hex := exactS_ok hex
     refine ⟨.name (up_at 1 rfl hs), fun K hK => ?_⟩
     walk_at "ws"
     refine mvexact_ok T (by walk_at "om") (exactE_len hex) hex ?_
     have := some_lt hp
     exact hK _ (sz1000 (by rw [List.length_map, List.length_take]; exact li3 hl this (Nat.min_le_left i r.length))) (by rw [take_succ_get hq, List.map_append]; rfl)
theorem mvcontent_ok (T : Tops C) {n d m : Nat} {g : Poly → Poly → Option Poly} (G : GcdOK C d m g) {a : Poly} {i : Nat} {r : Poly} {σ : Sg} {Q : V → Sg → Prop} (hn : d + 2 ≤ n) (hn2 : 3 ≤ n) (hl : okP a = true) (hi : longer i a = true) (hi2 : i < 3)
   (hr : contentW g (byE a i) = some r) (h : Q (.dct r) σ) : CallOK C n "mvcontent" [.dct a, .int (i : Nat), .int (m : Nat)] σ Q := by
 refine def_ok T 52 rfl (by decide +kernel) (.parL (.parL (.parL (.fn (T.f 50 rfl) (.fn (T.f 36 rfl) .nil))))) (by walk_at "om") fun env henv => ?_
 walk_at "ws"
 refine by_letter_ok T (by walk_at "om") hl hi hi2 ?_
 walk_at "ws"
 exact rows_content_ok T G (by walk_at "om") hr h
theorem rowsLoopW_ok {g : Poly → Poly → Option Poly} {n k : Nat} {one other r : List Poly} (h : rowsLoopW g n k one other = some r) : ∃ f, k = f + 1 ∧ ((1 < other.length ∧ ∃ p q, pseudoE 8 one other = some p ∧ primW g p = some q ∧ rowsLoopW g n f other q = some r) ∨
   (other.length ≤ 1 ∧ r = cond other.isEmpty one [[(List.replicate n 0, eone)]])) := by
 cases k with
 | zero => (exfalso; cases h)
 | succ f =>
   refine (mx12 f rfl ?_)
   rcases cd (y := some (cond other.isEmpty one [[(List.replicate n 0, eone)]])) h with ⟨e, h⟩ | ⟨e, h⟩
   · refine .inl ⟨Nat.blt_eq.mp e, ?_⟩
     refine ob12 (mb _ h) ?_; rintro p e2 h
     refine ob12 (mb _ h) ?_; rintro q e3 h
     exact mx23 p q e2 e3 h
   · refine .inr ⟨Nat.le_of_not_lt fun q => ?_, (Option.some.inj h).symm⟩
     rw [Nat.blt_eq.mpr q] at e; cases e
theorem pseudoE_len {b : List Poly} : ∀ {k : Nat} {a r : List Poly}, pseudoE k a b = some r → r.length < b.length
 | 0, _, _, h => by (exfalso; cases h)
 | k + 1, a, r, h => by
   refine ob12 (pseudoE_ok h) ?_; rintro j hj hc
   cases hj
   rcases hc with ⟨h1, rfl⟩ | ⟨_, sc, sc', _, _, h⟩
   · exact h1
   · exact pseudoE_len h
theorem eone_ne : eone ≠ 0 := by decide
theorem rows_gcd_ok (T : Tops C) {n d m : Nat} {g : Poly → Poly → Option Poly} (G : GcdOK C d m g) {a b r : List Poly} {σ : Sg} {Q : V → Sg → Prop} (hn : d + 3 ≤ n) (hn2 : 11 ≤ n) (hm : 1 ≤ m ∧ m ≤ 1000) (ha : a.length ≤ 1000) (hb : b.length ≤ 1000)
   (hr : rowsGcdW g m a b = some r) (h : Q (.lst (r.map .dct)) σ) : CallOK C n "rows_gcd" [.lst (a.map .dct), .lst (b.map .dct), .int (m : Nat)] σ Q := by
 refine def_ok T 53 rfl (by decide +kernel) (.parL (.parL (.parL (.locL (.locL (.bi (T.b 0 rfl) (.fn (T.f 51 rfl) (.fn (T.f 49 rfl) (.fn (T.f 23 rfl) (.con T.r1 .nil)))))))))) (by walk_at "om") fun env henv => ?_
 walk_at "w"
 refine S_twoIf ?_
 walk_at "ws"
 refine B_len_lst rfl (sz1000 (by rw [List.length_map]; exact ha)) ?_
 walk_at "ws"
 refine B_len_lst rfl (sz1000 (by rw [List.length_map]; exact hb)) ?_
 walk_at "ws"
 rw [List.length_map, List.length_map]
 have main : ∀ one other : List Poly, one.length ≤ 1000 → other.length ≤ 1000 → rowsLoopW g m 8 one other = some r → SB C (n - 1) env
     [("a", .val (.lst (a.map .dct))), ("b", .val (.lst (b.map .dct))), ("n", .val (.int (m : Nat))), ("one", .val (.lst (one.map .dct))), ("other", .val (.lst (other.map .dct))), ("len", .bi (.builtin "len")), ("rows_primitive", .fn), ("pseudo_rest", .fn), ("mvnumber", .fn), ("R1", .con (rv eone))]
     (((fdef 53).map fun x => x.2.2.1.tail).getD []) σ fun fl x σ' => match fl with | .ret v => Q v σ' | _ => Q .none σ' := by
   intro one other h1 h2 hr
   show SB _ _ _ _ (_ :: _) _ _
   walk_at "w"
   refine While_k (fun k e σ' => σ = σ' ∧ ∃ one other : List Poly, one.length ≤ 1000 ∧ other.length ≤ 1000 ∧ rowsLoopW g m k one other = some r ∧ e =
     ([("a", .val (.lst (a.map .dct))), ("b", .val (.lst (b.map .dct))), ("n", .val (.int (m : Nat))), ("one", .val (.lst (one.map .dct))), ("other", .val (.lst (other.map .dct))), ("len", .bi (.builtin "len")), ("rows_primitive", .fn), ("pseudo_rest", .fn), ("mvnumber", .fn), ("R1", .con (rv eone))] : Vars))
     8 ⟨rfl, one, other, h1, h2, hr, rfl⟩ ?_
   clear hr h1 h2 one other
   rintro k e σ' z1 K hK hR; refine ob02 z1 ?_; clear z1; rintro rfl z20; refine ob24 z20 ?_; clear z20; rintro one other h1 h2 hr rfl
   refine ob12 (rowsLoopW_ok hr) ?_; rintro f rfl hcase
   walk_at "ws"
   refine B_len_lst rfl (sz1000 (by rw [List.length_map]; exact h2)) ?_
   walk_at "ws"
   rw [List.length_map]
   refine ⟨_, rfl, fun hc => ?_, fun hc => ?_⟩
   · rcases hcase with ⟨hlt, p, q, hps, hpr, hnext⟩ | ⟨hle, _⟩
     · walk_at "w"
       refine S_two rfl ?_
       walk_at "ws"
       refine pseudo_rest_ok T (by walk_at "om") h1 (by walk_at "om") h2 hps ?_
       walk_at "ws"
       have hpl := pseudoE_len hps
       refine rows_primitive_ok T G (by walk_at "om") (by walk_at "om") (by exact li2 h2 hpl) hpr ?_
       walk_at "ws"
       walk_at "up2"
       have hql := primW_len hpr
       exact S_nil (hK f _ _ (Nat.lt_succ_self _) ⟨rfl, _, _, h2, by exact li3 h2 hpl (eL hql), hnext, rfl⟩).1
     · exact absurd (of_decide_eq_true hc) (by exact Int.not_lt_of_ge (il1 (cN hle)))
   · rcases hcase with ⟨hlt, _⟩ | ⟨hle, rfl⟩
     · exact absurd (of_decide_eq_false hc) (by exact fun hh => hh (il1 (cL hlt)))
     · walk_at "ws"
       refine B_len_lst rfl (sz1000 (by rw [List.length_map]; exact h2)) ?_
       walk_at "ws"
       rw [List.length_map]
       refine ⟨_, rfl, fun hc => ?_, fun hc => ?_⟩
       · have he : other = [] := by
           cases other with
           | nil => rfl
           | cons x p => exfalso; have := eq_of_beq hc; simp at this; exact jF (il2 (iL this) (c0 p.length))
         subst he
         walk_at "ws"
         exact h
       · have he : other.isEmpty = false := by
           cases other with
           | nil => exact absurd hc (by decide)
           | cons x p => rfl
         rw [he] at h
         refine E_list ?_
         walk_at "ws"
         refine mvnumber_ok T (by walk_at "om") hm eone_ne ?_
         walk_at "ws"
         exact h
 unfold rowsGcdW at hr
 refine ⟨_, rfl, fun hc => ?_, fun hc => ?_⟩
 · rw [Nat.ble_eq_true_of_le (show b.length ≤ a.length by have := of_decide_eq_true hc; exact nC (il1 this))] at hr
   walk_at "ws"
   walk_at "up2"
   exact main a b ha hb hr
 · have e : Nat.ble b.length a.length = false := by
     cases e : Nat.ble b.length a.length with
     | false => rfl
     | true => exact absurd (of_decide_eq_false hc) (by have := Nat.le_of_ble_eq_true e; omega)
   rw [e] at hr
   walk_at "ws"
   walk_at "up2"
   exact main b a hb ha hr
noncomputable def oI : Option Nat → Int
 | none => -1
 | some i => i
theorem optV_oI (o : Option Nat) : optV o = .int (oI o) := by cases o <;> rfl
theorem oI_max (a b : Option Nat) : (if oI b > oI a then oI b else oI a) = oI (maxL a b) := by
 cases a with
 | none => cases b with
   | none => rfl
   | some j => show (if (j : Int) > -1 then (j : Int) else -1) = j; rw [if_pos (by exact il1 (c0 j))]
 | some i => cases b with
   | none => show (if (-1 : Int) > i then (-1 : Int) else i) = i; rw [if_neg (by exact Int.not_lt_of_ge (il1 (c0 i)))]
   | some j =>
     show (if (j : Int) > i then (j : Int) else i) = ((cond (Nat.ble i j) j i : Nat) : Int)
     cases e : Nat.ble i j with
     | true => have := Nat.le_of_ble_eq_true e; show _ = (j : Int); split <;> omega
     | false =>
       show _ = (i : Int)
       rw [if_neg]
       intro h
       rw [Nat.ble_eq_true_of_le (by walk_at "om")] at e; cases e
theorem lastE_lt {a : Poly} : ∀ {n i : Nat}, lastE a n = some i → i < n
 | n + 1, i, h => by
   dsimp only [lastE] at h
   cases e : ile (degE a n) 0 with
   | true => rw [e] at h; have := lastE_lt (show lastE a n = some i from h); exact li1 this
   | false => rw [e] at h; have : n = i := Option.some.inj h; exact li1 (eG this)
theorem maxL_lt {a b : Option Nat} {n i : Nat} (ha : ∀ i, a = some i → i < n) (hb : ∀ i, b = some i → i < n) (h : maxL a b = some i) : i < n := by
 cases a with
 | none => exact hb i h
 | some x => cases b with
   | none => exact ha i h
   | some y =>
     have h1 := ha x rfl
     have h2 := hb y rfl
     have : cond (Nat.ble x y) y x = i := Option.some.inj h
     rw [← this]
     cases Nat.ble x y <;> assumption
theorem byE_len (a : Poly) (i : Nat) : (byE a i).length = (degE a i + 1).toNat := by rw [byE_eq, byStep_len]; simp
theorem gcdS_ok {g : Poly → Poly → Option Poly} {n : Nat} {a b r : Poly} (h : gcdS g n a b = some r) : okP a = true ∧ okP b = true ∧ lenIs n a = true ∧ lenIs n b = true ∧
   (((a = [] ∨ b = []) ∧ monicE (cond a.isEmpty b a) = some r) ∨ ((a ≠ [] ∧ b ≠ []) ∧ ((maxL (lastE a n) (lastE b n) = none ∧ r = [(List.replicate n 0, eone)]) ∨ ∃ i, maxL (lastE a n) (lastE b n) = some i ∧
     ((degE a i = 0 ∧ ∃ c, contentW g (byE b i) = some c ∧ g a c = some r) ∨ (degE a i ≠ 0 ∧ degE b i = 0 ∧ ∃ c, contentW g (byE a i) = some c ∧ g c b = some r) ∨
      (degE a i ≠ 0 ∧ degE b i ≠ 0 ∧ ∃ ca cb c pa pb rows h m, contentW g (byE a i) = some ca ∧ contentW g (byE b i) = some cb ∧ g ca cb = some c ∧ primW g (byE a i) = some pa ∧ primW g (byE b i) = some pb ∧ rowsGcdW g n pa pb = some rows ∧ okRow i rows = true ∧
        fromE rows i = some h ∧ mulE c h = some m ∧ monicE m = some r))))) := by
 refine ob02 (cond_some h) ?_; rintro h1 h
 simp only [Bool.and_eq_true] at h1
 refine (mx05 h1.1.1.1 h1.1.1.2 h1.1.2 h1.2 ?_)
 rcases cd h with ⟨e, h⟩ | ⟨e, h⟩
 · exact .inl ⟨((Bool.or_eq_true _ _).mp e).imp List.isEmpty_iff.mp List.isEmpty_iff.mp, h⟩
 rw [Bool.or_eq_false_iff] at e
 refine .inr ⟨⟨fun q => by rw [q] at e; exact absurd e.1 (by decide), fun q => by rw [q] at e; exact absurd e.2 (by decide)⟩, ?_⟩
 rcases ml _ h with ⟨e1, h⟩ | ⟨i, e1, h⟩
 · exact .inl ⟨e1, (Option.some.inj h).symm⟩
 refine .inr (mx12 i e1 ?_)
 rw [ieq_eq, ieq_eq] at h
 rcases cd h with ⟨d1, h⟩ | ⟨d1, h⟩
 · exact .inl ⟨of_decide_eq_true d1, mb _ h⟩
 rcases cd h with ⟨d2, h⟩ | ⟨d2, h⟩
 · exact .inr (.inl (mx03 (of_decide_eq_false d1) (of_decide_eq_true d2) (mb _ h)))
 refine .inr (.inr (mx03 (of_decide_eq_false d1) (of_decide_eq_false d2) ?_))
 refine ob12 (mb _ h) ?_; rintro ca e2 h
 refine ob12 (mb _ h) ?_; rintro cb e3 h
 refine ob12 (mb _ h) ?_; rintro c e4 h
 refine ob12 (mb _ h) ?_; rintro pa e5 h
 refine ob12 (mb _ h) ?_; rintro pb e6 h
 refine ob12 (mb _ h) ?_; rintro rows e7 h
 refine ob02 (cond_some h) ?_; rintro h8 h
 refine ob12 (mb _ h) ?_; rintro hh e9 h
 refine ob12 (mb _ h) ?_; rintro m e10 h
 exact mx88 ca cb c pa pb rows hh m e2 e3 e4 e5 e6 e7 h8 (mx03 e9 e10 h)
theorem rowsLoopW_len {g : Poly → Poly → Option Poly} {n : Nat} : ∀ {k : Nat} {one other r : List Poly}, rowsLoopW g n k one other = some r → one.length ≤ 1000 → other.length ≤ 1000 → r.length ≤ 1000
 | 0, _, _, _, h, _, _ => by (exfalso; cases h)
 | k + 1, one, other, r, h, h1, h2 => by
   refine ob12 (rowsLoopW_ok h) ?_; rintro f hf hc
   cases hf
   rcases hc with ⟨_, p, q, hp, hq, hr⟩ | ⟨_, rfl⟩
   · refine rowsLoopW_len hr h2 ?_
     have := pseudoE_len hp
     have := primW_len hq
     omega
   · cases other.isEmpty with
     | true => exact h1
     | false => simp
theorem rowsGcdW_len {g : Poly → Poly → Option Poly} {n : Nat} {a b r : List Poly} (h : rowsGcdW g n a b = some r) (h1 : a.length ≤ 1000) (h2 : b.length ≤ 1000) : r.length ≤ 1000 := by
 unfold rowsGcdW at h
 cases e : Nat.ble b.length a.length with
 | true => rw [e] at h; exact rowsLoopW_len h h1 h2
 | false => rw [e] at h; exact rowsLoopW_len h h2 h1
noncomputable def ifBody (s : Stmt) : List Stmt := if h : s.ctorIdx = 12 then Stmt.If.elim s h fun _ b _ _ => b else []
theorem gcd_step (T : Tops C) {d m : Nat} {g : Poly → Poly → Option Poly} (G : GcdOK C d m g) (hd : 12 ≤ d) (hm : 1 ≤ m ∧ m ≤ 3) : GcdOK C (d + 5) m (gcdS g m) := by
 intro n a b r σ Q hn hr h
 refine ob05 (gcdS_ok hr) ?_; rintro oka okb la lb hcase
 clear hr
 have ha1 := (okP_iff.mp oka).1
 have hb1 := (okP_iff.mp okb).1
 have isE : ∀ p : Poly, (((p.length : Int) == 0) = true → p = []) ∧ (((p.length : Int) == 0) = false → p ≠ []) := by
   intro p
   cases p with
   | nil => exact ⟨fun _ => rfl, fun h => absurd h (by decide)⟩
   | cons x p => exact ⟨fun h => by have := eq_of_beq h; simp at this; exact jF (il2 (iL this) (c0 p.length)), fun _ => by simp⟩
 refine def_ok T 54 rfl (by decide +kernel) (.parL (.parL (.parL (.locL (.locL (.locL (.bi (T.b 0 rfl) (.fn (T.f 33 rfl) (.bi (T.b 2 rfl) (.fn (T.f 35 rfl) (.fn (T.f 23 rfl) (.con T.r1 (.fn (T.f 34 rfl) (.fn (T.f 54 rfl) (.fn (T.f 52 rfl) (.fn (T.f 53 rfl) (.fn (T.f 51 rfl) (.fn (T.f 36 rfl) (.fn (T.f 31 rfl) (.fn (T.f 37 rfl) .nil)))))))))))))))))))) (by walk_at "om") fun env henv => ?_
 walk_at "ws"
 refine B_len_dct rfl (sz1000 ha1) ?_
 walk_at "ws"
 have fin : (a = [] ∨ b = []) → ∀ K : Fl → Vars → Sg → Prop, (∀ v e σ', Q v σ' → K (.ret v) e σ') → SB C (n - 1) env [("a", .val (.dct a)), ("b", .val (.dct b)), ("n", .val (.int (m : Nat))), ("at", .un), ("content", .un), ("found", .un), ("len", .bi (.builtin "len")), ("mvmonic", .fn), ("max", .bi (.builtin "max")), ("last_letter", .fn), ("mvnumber", .fn), ("R1", .con (rv eone)), ("degree_in", .fn), ("mvgcd", .fn), ("mvcontent", .fn), ("rows_gcd", .fn), ("rows_primitive", .fn), ("by_letter", .fn), ("mvmul", .fn), ("from_letter", .fn)]
     (((fdef 54).bind fun x => x.2.2.1.head?.map ifBody).getD []) σ K := by
   intro he K hK
   rcases hcase with ⟨_, hmon⟩ | ⟨⟨h1, h2⟩, _⟩
   rotate_left
   · rcases he with he | he
     · exact absurd he h1
     · exact absurd he h2
   show SB _ _ _ _ (_ :: _) _ _
   walk_at "ws"
   refine B_len_dct rfl (sz1000 ha1) ?_
   walk_at "ws"
   refine ⟨_, rfl, fun hc => ?_, fun hc => ?_⟩
   · have := (isE a).1 hc
     subst this
     walk_at "ws"
     exact mvmonic_ok T (by walk_at "om") hmon (hK _ _ _ h)
   · have := (isE a).2 hc
     have e : a.isEmpty = false := by cases a with
       | nil => exact absurd rfl this
       | cons x p => rfl
     rw [e] at hmon
     walk_at "ws"
     exact mvmonic_ok T (by walk_at "om") hmon (hK _ _ _ h)
 refine ⟨_, rfl, fun hc => ⟨fun _ => fin (.inl ((isE a).1 hc)) _ fun v e σ' h => h, fun hc => by (exfalso; cases hc)⟩, fun hc => ?_⟩
 have hane := (isE a).2 hc
 walk_at "ws"
 refine B_len_dct rfl (sz1000 hb1) ?_
 walk_at "ws"
 refine ⟨_, rfl, fun hc => fin (.inr ((isE b).1 hc)) _ fun v e σ' h => h, fun hc => ?_⟩
 have hbne := (isE b).2 hc
 clear fin
 rcases hcase with ⟨he, _⟩ | ⟨_, hcase⟩
 · rcases he with he | he
   · exact absurd he hane
   · exact absurd he hbne
 walk_at "ws"
 refine last_letter_ok T (by walk_at "om") oka la (by exact li1 hm.2) ?_
 walk_at "ws"
 refine last_letter_ok T (by walk_at "om") okb lb (by exact li1 hm.2) ?_
 rw [optV_oI, optV_oI]
 walk_at "ws"
 refine B_max ?_
 rw [oI_max]
 walk_at "up1"
 rcases hcase with ⟨hmx, rfl⟩ | ⟨i, hmx, hcase⟩
 · rw [hmx]
   simp only [oI]
   walk_at "ws"
   refine ⟨_, rfl, fun _ => ?_, fun hc => absurd hc (by decide)⟩
   walk_at "ws"
   exact mvnumber_ok T (by walk_at "om") (by exact ⟨(li1 hm.1), (li1 hm.2)⟩) eone_ne h
 · have him : i < m := maxL_lt (fun _ => lastE_lt) (fun _ => lastE_lt) hmx
   have hla := lenIs_longer la him
   have hlb := lenIs_longer lb him
   have hda := degE_lt oka hla
   have hdb := degE_lt okb hlb
   have hbyal : (byE a i).length ≤ 1000 := by rw [byE_len]; exact nC (il2 hda.2 (tL (show 0 ≤ (degE a i + 1) from (il1 hda.1))))
   have hbybl : (byE b i).length ≤ 1000 := by rw [byE_len]; exact nC (il2 hdb.2 (tL (show 0 ≤ (degE b i + 1) from (il1 hdb.1))))
   rw [hmx]
   simp only [oI]
   walk_at "ws"
   refine ⟨_, rfl, fun hc => absurd (of_decide_eq_true hc) (by exact Int.not_lt_of_ge (il1 (c0 i))), fun _ => ?_⟩
   walk_at "ws"
   refine degree_in_ok T (by walk_at "om") oka hla ?_
   walk_at "ws"
   refine ⟨_, rfl, fun hc => ?_, fun hc => ?_⟩
   · have d1 : degE a i = 0 := eq_of_beq hc
     rcases hcase with ⟨_, c, hcon, hg⟩ | ⟨h1, _⟩ | ⟨h1, _⟩
     · walk_at "ws"
       refine mvcontent_ok T G (by walk_at "om") (by walk_at "om") okb hlb (by exact li2 hm.2 him) hcon ?_
       walk_at "ws"
       exact G (by walk_at "om") hg h
     · exact absurd d1 h1
     · exact absurd d1 h1
   · have d1 : degE a i ≠ 0 := fun e => by rw [e] at hc; exact absurd hc (by decide)
     walk_at "ws"
     refine degree_in_ok T (by walk_at "om") okb hlb ?_
     walk_at "ws"
     refine ⟨_, rfl, fun hc => ?_, fun hc => ?_⟩
     · have d2 : degE b i = 0 := eq_of_beq hc
       rcases hcase with ⟨h1, _⟩ | ⟨_, _, c, hcon, hg⟩ | ⟨_, h1, _⟩
       · exact absurd h1 d1
       · walk_at "ws"
         refine mvcontent_ok T G (by walk_at "om") (by walk_at "om") oka hla (by exact li2 hm.2 him) hcon ?_
         walk_at "ws"
         exact G (by walk_at "om") hg h
       · exact absurd d2 h1
     · have d2 : degE b i ≠ 0 := fun e => by rw [e] at hc; exact absurd hc (by decide)
       rcases hcase with ⟨h1, _⟩ | ⟨_, h1, _⟩ | ⟨_, _, ca, cb, c, pa, pb, rows, hh, mm, e1, e2, e3, e4, e5, e6, e7, e8, e9, e10⟩
       · exact absurd h1 d1
       · exact absurd h1 d2
       walk_at "ws"
       refine mvcontent_ok T G (by walk_at "om") (by walk_at "om") oka hla (by exact li2 hm.2 him) e1 ?_
       walk_at "ws"
       refine mvcontent_ok T G (by walk_at "om") (by walk_at "om") okb hlb (by exact li2 hm.2 him) e2 ?_
       walk_at "ws"
       refine G (by walk_at "om") e3 ?_
       walk_at "up1"
       walk_at "ws"
       refine by_letter_ok T (by walk_at "om") oka hla (by exact li2 hm.2 him) ?_
       walk_at "ws"
       refine rows_primitive_ok T G (by walk_at "om") (by walk_at "om") hbyal e4 ?_
       walk_at "ws"
       refine by_letter_ok T (by walk_at "om") okb hlb (by exact li2 hm.2 him) ?_
       walk_at "ws"
       refine rows_primitive_ok T G (by walk_at "om") (by walk_at "om") hbybl e5 ?_
       walk_at "ws"
       have hpa := primW_len e4
       have hpb := primW_len e5
       refine rows_gcd_ok T G (by walk_at "om") (by walk_at "om") (by exact ⟨(li1 hm.1), (li1 hm.2)⟩) (by exact li2 hbyal (eL hpa)) (by exact li2 hbybl (eL hpb)) e6 ?_
       walk_at "up1"
       walk_at "ws"
       refine from_letter_ok T (by walk_at "om") e7 (rowsGcdW_len e6 (by exact li2 hbyal (eL hpa)) (by exact li2 hbybl (eL hpb))) (by exact li2 hm.2 him) e8 ?_
       walk_at "ws"
       refine mvmul_ok T (by walk_at "om") e9 ?_
       walk_at "ws"
       exact mvmonic_ok T (by walk_at "om") e10 h
theorem gcd_all (T : Tops C) {m : Nat} (hm : 1 ≤ m ∧ m ≤ 3) : ∀ f, GcdOK C (12 + 5 * f) m (gcdE m f)
 | 0 => fun _ h => by (exfalso; cases h)
 | f + 1 => fun hn hr h => gcd_step T (gcd_all T hm f) (by exact li0) hm (by walk_at "om") hr h
theorem mvgcd_ok (T : Tops C) {n m : Nat} {a b r : Poly} {σ : Sg} {Q : V → Sg → Prop} (hn : 52 ≤ n) (hm : 1 ≤ m ∧ m ≤ 3) (hr : gcdE m 8 a b = some r) (h : Q (.dct r) σ) : CallOK C n "mvgcd" [.dct a, .dct b, .int (m : Nat)] σ Q :=
 gcd_all T hm 8 hn hr h
theorem mvlcm_ok (T : Tops C) {n m : Nat} {a b r : Poly} {σ : Sg} {Q : V → Sg → Prop} (hn : 53 ≤ n) (hm : 1 ≤ m ∧ m ≤ 3) (hl : a.length ≤ 1000 ∧ b.length ≤ 1000) (hr : lcmE m a b = some r) (h : Q (.dct r) σ) : CallOK C n "mvlcm" [.dct a, .dct b, .int (m : Nat)] σ Q := by
 unfold lcmE at hr
 cases a with
 | nil => (exfalso; cases hr)
 | cons x a =>
 cases b with
 | nil => (exfalso; cases hr)
 | cons y b =>
 have hr : (match gcdE m 8 (x :: a) (y :: b) with | none => none | some g => match exactS (x :: a) g with | none => none | some q => match mulE q (y :: b) with | none => none | some m => monicE m) = some r := hr
 cases e1 : gcdE m 8 (x :: a) (y :: b) with
 | none => rw [e1] at hr; (exfalso; cases hr)
 | some g =>
 rw [e1] at hr
 cases e2 : exactS (x :: a) g with
 | none => simp only [e2] at hr; (exfalso; cases hr)
 | some q =>
 simp only [e2] at hr
 cases e3 : mulE q (y :: b) with
 | none => simp only [e3] at hr; (exfalso; cases hr)
 | some mm =>
 simp only [e3] at hr
 have hex := exactS_ok e2
 have isE : ∀ {p : Poly} {x : Mon × Rat}, ((((x :: p).length : Nat) : Int) == 0) = true → False := fun hc => by have := eq_of_beq hc; simp at this; omega
 refine def_ok T 55 rfl (by decide +kernel) (.parL (.parL (.parL (.bi (T.b 0 rfl) (.fn (T.f 33 rfl) (.fn (T.f 31 rfl) (.fn (T.f 44 rfl) (.fn (T.f 54 rfl) .nil)))))))) (by walk_at "om") fun env henv => ?_
 walk_at "ws"
 refine B_len_dct rfl (sz1000 hl.1) ?_
 walk_at "ws"
 refine ⟨_, rfl, fun hc => (isE hc).elim, fun _ => ?_⟩
 walk_at "ws"
 refine B_len_dct rfl (sz1000 hl.2) ?_
 walk_at "ws"
 refine ⟨_, rfl, fun hc => (isE hc).elim, fun _ => ?_⟩
 walk_at "ws"
 refine mvgcd_ok T (by walk_at "om") hm e1 ?_
 walk_at "ws"
 refine mvexact_ok T (by walk_at "om") (exactE_len hex) hex ?_
 simp only [oV]
 walk_at "ws"
 refine mvmul_ok T (by walk_at "om") e3 ?_
 walk_at "ws"
 exact mvmonic_ok T (by walk_at "om") hr h
noncomputable def prK (p : Pr) : Mon := [(p.1 : Int), (p.2 : Int)]
theorem tlt_tgt : ∀ a b : Mon, tlt a b = tgt b a
 | [], [] => rfl
 | [], _ :: _ => rfl
 | _ :: _, [] => rfl
 | x :: a, y :: b => by
   show (if x = y then tlt a b else decide (x < y)) = if y = x then tgt b a else decide (y > x)
   rw [tlt_tgt a b]
   by_cases h : x = y
   · simp [h]
   · rw [if_neg h, if_neg (Ne.symm h)]
theorem tgt_self : ∀ a : Mon, tgt a a = false
 | [] => rfl
 | x :: a => (if_pos rfl).trans (tgt_self a)
theorem prK_inj {p q : Pr} : prK p = prK q ↔ p = q := by
 obtain ⟨a, b⟩ := p
 obtain ⟨c, d⟩ := q
 unfold prK
 simp only [List.cons.injEq, and_true, Prod.mk.injEq]
 exact Iff.intro (fun hh => ⟨(Nat.le_antisymm (nC (il1 (iL hh.1))) (nC (il1 (iG hh.1)))), (Nat.le_antisymm (nC (il1 (iL hh.2))) (nC (il1 (iG hh.2))))⟩) (fun hh => ⟨(Int.le_antisymm (il1 (cN (eL hh.1))) (il1 (cN (eG hh.1)))), (Int.le_antisymm (il1 (cN (eL hh.2))) (il1 (cN (eG hh.2))))⟩)
theorem preq_eq (p q : Pr) : preq p q = decide (p = q) := by
 obtain ⟨a, b⟩ := p
 obtain ⟨c, d⟩ := q
 unfold preq
 rw [Bool.eq_iff_iff]
 simp only [Bool.and_eq_true, Nat.beq_eq, decide_eq_true_eq, Prod.mk.injEq]
theorem prlt_eq (p q : Pr) : (if prK p = prK q then false else tlt (prK p) (prK q)) = prlt p q := by
 obtain ⟨a, b⟩ := p
 obtain ⟨c, d⟩ := q
 by_cases he : prK (a, b) = prK (c, d)
 · rw [if_pos he]
   have := prK_inj.mp he
   cases this
   unfold prlt
   rw [Bool.eq_iff_iff]
   simp
 · rw [if_neg he]
   have hne : ¬ (a = c ∧ b = d) := fun e => he (by rw [e.1, e.2])
   unfold prlt prK
   show (if (a : Int) = c then (if (b : Int) = d then decide (0 < 0) else decide ((b : Int) < d)) else decide ((a : Int) < c)) = _
   rw [Bool.eq_iff_iff]
   simp only [Bool.or_eq_true, Bool.and_eq_true, Nat.beq_eq, Nat.blt_eq]
   by_cases h1 : a = c
   · subst h1
     have h2 : ¬ b = d := fun e => hne ⟨rfl, e⟩
     have : ¬ ((b : Int) = d) := by omega
     simp [this]
   · have : ¬ ((a : Int) = c) := by omega
     simp [h1, this]
theorem told_eq (j k : Mon) (p q : Pr) : tlt2 j (prK p) k (prK q) = (mgt k j || (meq j k && prlt p q)) := by
 unfold tlt2
 rw [mgt_eq, meq_eq, ← tlt_tgt]
 by_cases h : j = k
 · subst h
   rw [if_pos rfl, prlt_eq, tlt_tgt, tgt_self, decide_eq_true rfl]; rfl
 · rw [if_neg h, decide_eq_false h]; simp
theorem ltL {ls : List Mon} {i : Nat} (h : i < ls.length) : (ls.map itup)[i]? = some (itup (ls.getD i [])) := by
 rw [List.getElem?_map, List.getElem?_eq_getElem h]; simp [List.getD_eq_getElem?_getD, h]
theorem getD_mem {α : Type} {xs : List α} {i : Nat} {d : α} (h : i < xs.length) : xs.getD i d ∈ xs := by
 rw [getD_of (List.getElem?_eq_getElem h)]; exact List.getElem_mem _
theorem pair_key_ok (T : Tops C) {n m : Nat} {p : Pr} {vl : V} {ls : List Mon} {σ : Sg} {Q : V → Sg → Prop} (hn : 2 ≤ n) (hv : look σ vl = .lst (ls.map itup)) (hl : ls.length ≤ 1000) (hm : m ≤ 1000) (hls : ∀ l ∈ ls, l.length = m) (h1 : p.1 < ls.length) (h2 : p.2 < ls.length)
   (h : Q (.tup [itup (joinP ls p), itup (prK p)]) σ) : CallOK C n "pair_key" [itup (prK p), vl, .str "lex"] σ Q := by
 have hsz : (ls.map itup).length ≤ sizeLine := sz1000 (by rw [List.length_map]; exact hl)
 refine def_ok T 57 rfl (by decide +kernel) (.parL (.parL (.parL (.locL (.fn (T.f 7 rfl) (.fn (T.f 3 rfl) .nil)))))) (by walk_at "om") fun env henv => ?_
 walk_at "ws"
 refine I_lst hv hsz (seq_at (by rw [List.length_map]; exact h1)) (ltL h1) ?_ (fun _ _ => rfl)
 walk_at "ws"
 refine I_lst hv hsz (seq_at (by rw [List.length_map]; exact h2)) (ltL h2) ?_ (fun _ _ => rfl)
 walk_at "ws"
 refine powers_join_ok T (by walk_at "om") (by rw [hls _ (getD_mem h1), hls _ (getD_mem h2)]) (by rw [hls _ (getD_mem h2)]; exact hm) ?_
 walk_at "up1"
 walk_at "ws"
 refine order_ok T (by walk_at "om") ?_
 walk_at "ws"
 exact h
theorem leastE_snoc (ls : List Mon) (p : Pr) : ∀ (w : List Pr) (b : Option (Pr × Mon)), leastE ls (w ++ [p]) b = match leastE ls w b with
   | none => some (p, joinP ls p)
   | some (q, k) => cond (mgt k (joinP ls p) || (meq (joinP ls p) k && prlt p q)) (some (p, joinP ls p)) (some (q, k))
 | [], none => rfl
 | [], some (q, k) => rfl
 | x :: w, none => by
   show leastE ls (w ++ [p]) (some (x, joinP ls x)) = _
   rw [leastE_snoc ls p w]; rfl
 | x :: w, some (q, k) => by
   show leastE ls (w ++ [p]) (cond _ _ _) = _
   rw [leastE_snoc ls p w]; rfl
theorem leastE_some (ls : List Mon) : ∀ (w : List Pr) (x : Pr × Mon), ∃ y, leastE ls w (some x) = some y ∧ (y.1 = x.1 ∨ y.1 ∈ w)
 | [], x => (mx12 x rfl (.inl rfl))
 | p :: w, (q, k) => by
   show ∃ y, leastE ls w (cond _ (some _) (some _)) = some y ∧ _
   cases (mgt k (joinP ls p) || (meq (joinP ls p) k && prlt p q)) with
   | true =>
     refine ob12 (leastE_some ls w (p, joinP ls p)) ?_; rintro y h1 h2
     exact (mx12 y h1 (.inr (h2.elim (fun e => e ▸ List.mem_cons_self) fun e => List.mem_cons_of_mem _ e)))
   | false =>
     refine ob12 (leastE_some ls w (q, k)) ?_; rintro y h1 h2
     exact (mx12 y h1 (h2.imp id fun e => List.mem_cons_of_mem _ e))
theorem leastE_none {ls : List Mon} {w : List Pr} (h : leastE ls w none = none) : w = [] := by
 cases w with
 | nil => rfl
 | cons p w =>
   have h : leastE ls w (some (p, joinP ls p)) = none := h
   refine ob12 (leastE_some ls w (p, joinP ls p)) ?_; rintro y h1 _
   rw [h1] at h; (exfalso; cases h)
theorem leastE_mem {ls : List Mon} {w : List Pr} {y : Pr × Mon} (h : leastE ls w none = some y) : y.1 ∈ w := by
 cases w with
 | nil => (exfalso; cases h)
 | cons p w =>
   have h : leastE ls w (some (p, joinP ls p)) = some y := h
   refine ob12 (leastE_some ls w (p, joinP ls p)) ?_; rintro z h1 h2
   rw [h1] at h; cases h
   exact h2.elim (fun e => e ▸ List.mem_cons_self) fun e => List.mem_cons_of_mem _ e
noncomputable def lpV : Option (Pr × Mon) → V × V
 | none => (.none, .none)
 | some (p, k) => (itup (prK p), .tup [itup k, itup (prK p)])
theorem least_pair_ok (T : Tops C) {n m : Nat} {vw vl : V} {ws : List Pr} {ls : List Mon} {σ : Sg} {Q : V → Sg → Prop} (hn : 3 ≤ n) (hw : look σ vw = .lst (ws.map fun p => itup (prK p))) (hv : look σ vl = .lst (ls.map itup)) (hl : ls.length ≤ 1000) (hm : m ≤ 1000)
   (hls : ∀ l ∈ ls, l.length = m) (hws : ∀ p ∈ ws, p.1 < ls.length ∧ p.2 < ls.length) (h : Q (lpV (leastE ls ws none)).1 σ) : CallOK C n "least_pair" [vw, vl, .str "lex"] σ Q := by
 refine def_ok T 59 rfl (by decide +kernel) (.parL (.parL (.parL (.locL (.locL (.locL (.locL (.fn (T.f 57 rfl) .nil)))))))) (by walk_at "om") fun env henv => ?_
 walk_at "w"
 refine S_two rfl ?_
 walk_at "ws"
 walk_at "up2"
 walk_at "w"
 refine S_for (fun _ => rfl) (IE_list ?_)
 walk_at "ws"
 refine (mx12 _ hw ?_)
 refine For_k (fun i e σ' => σ = σ' ∧ ∃ s t b, IsVar s ∧ IsVar t ∧ b = leastE ls (ws.take i) none ∧
   e = ([("waiting", .val vw), ("leads", .val vl), ("order", .val (.str "lex")), ("best", .val (lpV b).1), ("place", .val (lpV b).2), ("pair", s), ("told", t), ("pair_key", .fn)] : Vars)) ⟨rfl, _, _, none, .un, .un, rfl, rfl⟩ ?_ ?_
 · rintro e σ' z1; refine ob02 z1 ?_; clear z1; rintro rfl z20; refine ob34 z20 ?_; clear z20; rintro s t b hs ht rfl rfl
   rw [List.length_map, List.take_length]
   walk_at "ws"
   exact h
 · rintro i v e σ' hv' z1 K hK hR; refine ob02 z1 ?_; clear z1; rintro rfl z20; refine ob34 z20 ?_; clear z20; rintro s t b hs ht hb rfl
   rw [List.getElem?_map] at hv'
   refine ob12 (Option.map_eq_some_iff.mp hv') ?_; rintro p hp rfl
   refine ob02 (hws p (List.mem_of_getElem? hp)) ?_; rintro hp1 hp2
   have hsn := leastE_snoc ls p (ws.take i) none
   rw [← take_succ_get hp, ← hb] at hsn
   refine (mx12 _ (.name (up_at 5 rfl hs)) ?_)
   walk_at "ws"
   refine pair_key_ok T (by walk_at "om") hv hl hm hls hp1 hp2 ?_
   refine asg_at 6 rfl ht ?_
   walk_at "ws"
   cases b with
   | none =>
     refine O_isNone ⟨_, rfl, ⟨fun _ => ⟨fun _ => ?_, fun hc => (by (exfalso; cases hc))⟩, fun hc => (by (exfalso; cases hc))⟩⟩
     walk_at "w"
     refine S_two rfl ?_
     walk_at "ws"
     walk_at "up2"
     walk_at "ws"
     exact (hK _ _ (fun _ _ => rfl) ⟨rfl, _, _, some (p, joinP ls p), .val, .val, hsn.symm, rfl⟩).1
   | some y =>
     obtain ⟨q, k⟩ := y
     refine O_isNone ⟨_, rfl, ⟨fun hc => (by (exfalso; cases hc)), fun _ => ?_⟩⟩
     walk_at "ws"
     refine O_ltTT ?_
     rw [told_eq]
     simp only [] at hsn
     refine ⟨_, rfl, fun hc => ?_, fun hc => ?_⟩
     · rw [hc] at hsn
       walk_at "w"
       refine S_two rfl ?_
       walk_at "ws"
       walk_at "up2"
       walk_at "ws"
       exact (hK _ _ (fun _ _ => rfl) ⟨rfl, _, _, some (p, joinP ls p), .val, .val, hsn.symm, rfl⟩).1
     · rw [hc] at hsn
       walk_at "ws"
       exact (hK _ _ (fun _ _ => rfl) ⟨rfl, _, _, some (q, k), .val, .val, hsn.symm, rfl⟩).1
theorem needlessGo_drop (p : Pr) (w : List Pr) (j : Mon) (i : Nat) (k : Mon) (l : List Mon) : needlessGo p w j i (k :: l) = cond (Nat.beq p.1 i || Nat.beq p.2 i || !(mdvd k j)) (needlessGo p w j (i + 1) l)
     (cond (notIn w (prOf p.1 i) && notIn w (prOf p.2 i)) true (needlessGo p w j (i + 1) l)) := rfl
theorem minmax_pr (a b : Nat) : ([V.int (if (b : Int) < a then b else a), V.int (if (b : Int) > a then b else a)] : List V) = (prK (prOf a b)).map .int := by
 unfold prK prOf
 cases e : Nat.ble a b with
 | true =>
   have := Nat.le_of_ble_eq_true e
   rw [if_neg (by walk_at "om")]
   simp only [cond_true, List.map_cons, List.map_nil]
   by_cases q : (b : Int) > a
   · rw [if_pos q]
   · rw [if_neg q]
     have : a = b := by omega
     rw [this]
 | false =>
   have : ¬ a ≤ b := fun h => by rw [Nat.ble_eq_true_of_le h] at e; cases e
   rw [if_pos (by exact il1 (cN (nL this))), if_neg (by exact Int.not_lt_of_ge (il1 (cN (nL this))))]
   rfl
theorem notIn_eq (w : List Pr) (p : Pr) : (!(w.map prK).any fun k => decide (k = prK p)) = notIn w p := by
 unfold notIn
 congr 1
 rw [List.any_map]
 congr 1
 funext q
 simp only [Function.comp, preq_eq]
 rw [decide_eq_decide, prK_inj]
theorem is_needless_ok (T : Tops C) {n m : Nat} {vw vl : V} {p : Pr} {ws : List Pr} {ls : List Mon} {σ : Sg} {Q : V → Sg → Prop} (hn : 3 ≤ n) (hw : look σ vw = .lst (ws.map fun p => itup (prK p))) (hv : look σ vl = .lst (ls.map itup)) (hl : ls.length ≤ 1000) (hm : m ≤ 1000)
   (hls : ∀ l ∈ ls, l.length = m) (h1 : p.1 < ls.length) (h2 : p.2 < ls.length) (h : Q (.bool (needlessE p ws ls)) σ) : CallOK C n "is_needless" [itup (prK p), vw, vl] σ Q := by
 have hsz : (ls.map itup).length ≤ sizeLine := sz1000 (by rw [List.length_map]; exact hl)
 have hw' : look σ vw = .lst ((ws.map prK).map itup) := by rw [hw, List.map_map]; rfl
 have hm1 := hls _ (getD_mem (d := []) h1)
 have hm2 := hls _ (getD_mem (d := []) h2)
 unfold needlessE at h
 refine def_ok T 58 rfl (by decide +kernel) (.parL (.parL (.parL (.locL (.locL (.locL (.locL (.locL (.fn (T.f 9 rfl) (.fn (T.f 7 rfl) (.bi (T.b 10 rfl) (.fn (T.f 5 rfl) (.bi (T.b 3 rfl) (.bi (T.b 2 rfl) .nil)))))))))))))) (by walk_at "om") fun env henv => ?_
 walk_at "w"
 refine S_twoName ?_
 walk_at "ws"
 show KTwo _ _ _ _ (.tup [.int p.1, .int p.2]) _
 walk_at "up2"
 walk_at "ws"
 refine I_lst hv hsz (seq_at (by rw [List.length_map]; exact h1)) (ltL h1) ?_ (fun _ _ => rfl)
 walk_at "ws"
 refine I_lst hv hsz (seq_at (by rw [List.length_map]; exact h2)) (ltL h2) ?_ (fun _ _ => rfl)
 walk_at "ws"
 refine are_apart_ok T (by walk_at "om") (by rw [hm1, hm2]) (by exact li2 hm (eL hm2)) ⟨_, rfl, fun hc => ?_, fun hc => ?_⟩
 · walk_at "ws"
   rw [hc] at h
   exact h
 · rw [hc] at h
   have h : Q (.bool (needlessGo p ws (joinP ls p) 0 ls)) σ := h
   walk_at "ws"
   refine I_lst hv hsz (seq_at (by rw [List.length_map]; exact h1)) (ltL h1) ?_ (fun _ _ => rfl)
   walk_at "ws"
   refine I_lst hv hsz (seq_at (by rw [List.length_map]; exact h2)) (ltL h2) ?_ (fun _ _ => rfl)
   walk_at "ws"
   have hjl : (mmax (ls.getD p.1 []) (ls.getD p.2 [])).length = m := by rw [mmax_len (by rw [hm1, hm2]), hm2]
   refine powers_join_ok T (by walk_at "om") (by rw [hm1, hm2]) (by exact li2 hm (eL hm2)) ?_
   walk_at "up1"
   walk_at "w"
   refine S_for (fun _ => rfl) ?_
   refine IE_enum (by walk_at "mem") rfl ?_
   walk_at "ws"
   refine (mx12 _ (.inr hv) ?_)
   refine For_k (fun i e σ' => σ = σ' ∧ ∃ s t, IsVar s ∧ IsVar t ∧ needlessGo p ws (joinP ls p) 0 ls = needlessGo p ws (joinP ls p) i (ls.drop i) ∧
     e = ([("pair", .val (itup (prK p))), ("waiting", .val vw), ("leads", .val vl), ("one", .val (.int p.1)), ("other", .val (.int p.2)), ("joined", .val (itup (mmax (ls.getD p.1 []) (ls.getD p.2 [])))), ("at", s), ("powers", t),
       ("are_apart", .fn), ("powers_join", .fn), ("enumerate", .bi (.type "enumerate")), ("powers_divide", .fn), ("min", .bi (.builtin "min")), ("max", .bi (.builtin "max"))] : Vars)) ⟨rfl, _, _, .un, .un, rfl, rfl⟩ ?_ ?_
   · rintro e σ' z1; refine ob02 z1 ?_; clear z1; rintro rfl z20; refine ob24 z20 ?_; clear z20; rintro s t hs ht hg rfl
     have : (enumV (ls.map itup)).length = ls.length := by simp [enumV]
     rw [this, List.drop_length] at hg
     rw [hg] at h
     walk_at "ws"
     exact h
   · rintro i v e σ' hv' z1 K hK hR; refine ob02 z1 ?_; clear z1; rintro rfl z20; refine ob24 z20 ?_; clear z20; rintro s t hs ht hg rfl
     refine ob12 (enumV_get hv') ?_; rintro y hy rfl
     rw [List.getElem?_map] at hy
     refine ob12 (Option.map_eq_some_iff.mp hy) ?_; rintro k hk rfl
     have hkm := hls _ (List.mem_of_getElem? hk)
     rw [drop_get hk, needlessGo_drop] at hg
     refine (mx12 _ (.two (up_at 6 rfl hs) (up_at 7 rfl ht)) ?_)
     walk_at "ws"
     refine O_inI ?_
     have e1 : ((prK p).any fun k => k == (i : Int)) = (Nat.beq p.1 i || Nat.beq p.2 i) := by
       unfold prK
       rw [Bool.eq_iff_iff]
       simp only [List.any_cons, List.any_nil, Bool.or_false, Bool.or_eq_true, beq_iff_eq, Nat.beq_eq]
       omega
     rw [e1]
     refine ⟨_, rfl, fun hc => ⟨fun _ => ?_, fun hc => (by (exfalso; cases hc))⟩, fun hc => ?_⟩
     · rw [hc] at hg
       walk_at "w"
       refine S_cont ?_
       exact (hK _ _ (fun _ _ => rfl) ⟨rfl, _, _, .val, .val, hg, rfl⟩).2
     rw [hc] at hg
     walk_at "ws"
     refine powers_divide_ok T (by walk_at "om") (by rw [hkm, hjl]) (by exact li2 hm (eL hjl)) ⟨_, rfl, ?_⟩
     refine ⟨fun hc => ?_, fun hc => ?_⟩
     · have hc : mdvd k (joinP ls p) = false := by
         have hc : (!mdvd k (joinP ls p)) = true := hc
         revert hc; cases mdvd k (joinP ls p) <;> simp
       rw [hc] at hg
       walk_at "w"
       refine S_cont ?_
       exact (hK _ _ (fun _ _ => rfl) ⟨rfl, _, _, .val, .val, hg, rfl⟩).2
     have hc : mdvd k (joinP ls p) = true := by
       have hc : (!mdvd k (joinP ls p)) = false := hc
       revert hc; cases mdvd k (joinP ls p) <;> simp
     rw [hc] at hg
     have hg : needlessGo p ws (joinP ls p) 0 ls = cond (notIn ws (prOf p.1 i) && notIn ws (prOf p.2 i)) true (needlessGo p ws (joinP ls p) (i + 1) (ls.drop (i + 1))) := hg
     walk_at "ws"
     refine B_min ?_
     walk_at "ws"
     refine B_max ?_
     walk_at "ws"
     rw [minmax_pr]
     refine O_notInT hw' ?_
     rw [notIn_eq]
     refine ⟨_, rfl, fun hc => ?_, fun hc => ?_⟩
     · rw [hc] at hg
       walk_at "ws"
       refine B_min ?_
       walk_at "ws"
       refine B_max ?_
       walk_at "ws"
       rw [minmax_pr]
       refine O_notInT hw' ?_
       rw [notIn_eq]
       refine ⟨_, rfl, fun hc => ?_, fun hc => ?_⟩
       · rw [hc] at hg
         walk_at "ws"
         rw [hg] at h
         exact hR _ _ _ h
       · rw [hc] at hg
         walk_at "ws"
         exact (hK _ _ (fun _ _ => rfl) ⟨rfl, _, _, .val, .val, hg, rfl⟩).1
     · rw [hc] at hg
       refine ⟨fun hc => (by (exfalso; cases hc)), fun _ => ?_⟩
       walk_at "ws"
       exact (hK _ _ (fun _ _ => rfl) ⟨rfl, _, _, .val, .val, hg, rfl⟩).1
section
variable {n : Nat} {env : Env} {e ec : Vars} {σ : Sg}
theorem S_assign_listcomp2 {y : Str} {py spos : Pos} {elt t1 iter1 t2 iter2 : Expr} {ifs2 : List Expr} {scope : Scope} {pos : Pos} {Q : Fl → Vars → Sg → Prop} (hsw : swapsWith (.ListComp elt [⟨t1, iter1, [], 0⟩, ⟨t2, iter2, ifs2, 0⟩] scope pos) (some (.Name y py)) spos.line env = pure true)
   (hy : env.kindOf y = some .local) (hs : ∀ x, foldedSetIterable iter1 env x = pure x) (hs2 : ∀ env x, foldedSetIterable iter2 env x = pure x)
   (hk : scope.kind = .function) (nd : (scope.names.map (·.1)).Nodup)
   (hdb : (scope.names.all fun x => !(x.1 == ("__debug__" : Str))) = true) (hloc : (tnames t1).all (fun x => scope.names.lookup x == some .local) = true) (hloc2 : (tnames t2).all (fun x => scope.names.lookup x == some .local) = true) (hI : InitC C env e scope.names ec)
   (h : IE C n env e t1 iter1 σ fun xs own σ₁ => ∀ cenv : Env, CompL C n cenv t1 [] (fun e acc σ Q => IE C n cenv e t2 iter2 σ fun xs own σ₁ => CompL C n cenv t2 ifs2 (LE C n elt cenv) own Q xs acc e σ₁) own
     (fun acc _ σ' => ∀ D o, σ' D = none → KAsg y e Q (.ref D) (upd σ' D (.lst acc) o)) xs [] ec σ₁) :
   SS C n env e (.Assign [.Name y py] (.ListComp elt [⟨t1, iter1, [], 0⟩, ⟨t2, iter2, ifs2, 0⟩] scope pos) spos) σ Q := fun A g s R S F => by
 rw [exec_Assign_Name_used _ _ _ _ hsw]
 refine wpAny_bind (wpAny_standAt (wpAny_bind ?_))
 show wpAny _ A (do let _ ← comprehension (.ListComp elt [⟨t1, iter1, [], 0⟩, ⟨t2, iter2, ifs2, 0⟩] scope pos) scope env _ (newList []) false (eval iter1 env) (some (assign (.Name y py) env))) _ _ s
 refine wpAny_bind (wpAny_mono (Q := fun _ s' => PstF C env g σ s Q .next s') ?_ (fun _ s' hq => wpAny_pure (wpAny_pure hq)) fun _ _ e => e)
 refine comp_core (R := LR) (E := fun cenv e acc σ Q => IE C n cenv e t2 iter2 σ fun xs own σ₁ => CompL C n cenv t2 ifs2 (LE C n elt cenv) own Q xs acc e σ₁) (acc₀ := []) (o₀ := { cls := .type "list", data := .seq #[] })
   (emit := fun D cenv => nestEmit (.ListComp elt [⟨t1, iter1, [], 0⟩, ⟨t2, iter2, ifs2, 0⟩] scope pos) iter2 D cenv) (use := some (assign (.Name y py) env))
   rfl hs hk nd hdb hloc hI (fun s Q hQ => ?_) rfl (fun g => ⟨#[], _, rfl, .nil⟩) (fun it acc env RR s h0 h1 => codeAny_compStart_list h0 (wpAny_mono h1 (fun _ _ x => x) fun _ _ x => x.elim)) (fun _ _ _ => rfl) (fun _ _ _ => rfl) den_nest LR.mono
   (fun cenv D hsc e acc σ Q h => emit_nest (hs2 _) (fun y hy => ?_) h) R S F h ?_
 · exact wpAny_newObj_type hQ (by show (0 : Nat) ≤ sizeLine; exact Nat.zero_le _)
 · have := List.all_eq_true.mp hloc2 y hy
   have hl := eq_of_beq this
   show cenv.scope.names.lookup y = _
   rw [hsc]
   exact lookup_relabel F.kind hl fun q => by (exfalso; cases q)
 · intro g' σ' s' acc o D X S' a1 a2 a3 a4 a5 a6 a7
   obtain ⟨e', hU, q⟩ := a7 D o a1
   have X' := X.adopt a3 (.lst acc) o
   have S'' := S'.adopt a2 a4 a5 a6.or
   refine PyProof.Rows.assign_Name (storeL_ hy S'' (F.ext X') (.ref D) hU fun s₃ X₃ S₃ F₃ => ?_)
   obtain ⟨oL, hLo⟩ : ∃ o, s.heap.get? env.locals = some o := by refine ob12 F.ns ?_; rintro m hn _; refine ob32 hn ?_; clear hn; rintro o _ _ q _; exact ⟨o, q⟩
   refine ⟨fun b ob hb hbD hσb hq => ?_, fun h' b hb hbD hσb hgb hsb => ?_⟩
   · exact X₃.keep b ob hq (by rw [upd_ne _ _ _ hbD]; exact hσb) fun z => by rw [z, hLo] at hb; cases hb
   · have Y : ExtF (fun a => a = env.locals ∨ a = b) g σ s g' (upd σ' D (.lst acc) o) { s₃ with heap := h' } := by
       have Z := ((X'.toF _).trans X₃)
       refine ⟨Z.le, fun a oa q n f => (hsb.2 a fun z => f (.inr z)).trans (Z.keep a oa q n fun z => f (.inl z)), fun a oa q => ?_, Z.sig, Z.frz, Z.gens, Z.os⟩
       refine ob11 (Z.alive a oa q) ?_; rintro o' q'
       exact ⟨o', (hsb.2 a (fun z => by rw [z, hb] at q; cases q)).trans q'⟩
     refine ⟨g', .next, e', _, Y.fresh' (P' := Foot env) (fun a z => ?_), S₃.frame (env := env) (e := e) hsb (by rw [upd_ne _ _ _ hbD]; exact hσb) hgb, F₃.le (.refl _) (fun a oa q z => (hsb.2 a fun y => ?_).trans q) fun a o q => .inl q, .next, q⟩
     · exact z.elim (fun z => .inl (Or.inl z)) fun z => .inr (z ▸ hb)
     · rcases z with z | ⟨x, z⟩
       · rw [← y, z, hLo] at hb; cases hb
       · refine ob04 (F.cell x a z) ?_; rintro _ _ _ z1; refine ob22 z1 ?_; clear z1; rintro _ oc qc _
         rw [← y, qc] at hb; cases hb
theorem Sub.refl (a : Addr) (v : V) : ∀ e : Vars, Sub a v e e
 | [] => .nil
 | _ :: e => .same (Sub.refl a v e)
theorem SX.drop {t : Sem Flow} {Q : Fl → Vars → Sg → Prop} (a : Addr) {v : V} {o : Obj} (ha : σ a = some (v, o)) (h : SX C n env e t (del σ a) Q) : SX C n env e t σ Q := SX.freeze a ha (Sub.refl a v e) h
end
theorem del_upd_ne (σ : Sg) {a b : Addr} {v o} (h : a ≠ b) : del (upd σ a v o) b = upd (del σ b) a v o := by
 funext c
 by_cases e : c = b
 · subst e; rw [del_same, upd_ne _ _ _ (Ne.symm h), del_same]
 · rw [del_ne _ e]
   by_cases e2 : c = a
   · subst e2; rw [upd_same, upd_same]
   · rw [upd_ne _ _ _ e2, upd_ne _ _ _ e2, del_ne _ e]
structure GrSt (σ : Sg) (B L W : Addr) (bs : List Poly) (ls : List Mon) (ws : List Pr) (σ' : Sg) : Prop where
 b : ∃ o, σ' B = some (.lst (bs.map .dct), o)
 l : ∃ o, σ' L = some (.lst (ls.map itup), o)
 w : ∃ o, σ' W = some (.lst (ws.map fun p => itup (prK p)), o)
 ne : B ≠ L ∧ B ≠ W ∧ L ≠ W
 old : σ B = none ∧ σ L = none ∧ σ W = none
 rest : ∀ a, a ≠ B → a ≠ L → a ≠ W → σ' a = σ a
theorem GrSt.over {σ σ' : Sg} {B L W bs ls ws} (h : GrSt σ B L W bs ls ws σ') : Over σ σ' := fun a ha =>
 h.rest a (by rintro rfl; exact ha h.old.1) (by rintro rfl; exact ha h.old.2.1) (by rintro rfl; exact ha h.old.2.2)
theorem GrSt.setB {σ σ' : Sg} {B L W bs ls ws} (h : GrSt σ B L W bs ls ws σ') (bs') (o) : GrSt σ B L W bs' ls ws (upd σ' B (.lst (bs'.map .dct)) o) := by
 refine ob03 h.ne ?_; rintro h1 h2 h3
 exact ⟨⟨o, upd_same ..⟩, by rw [upd_ne _ _ _ (Ne.symm h1)]; exact h.l, by rw [upd_ne _ _ _ (Ne.symm h2)]; exact h.w, h.ne, h.old, fun a a1 a2 a3 => by rw [upd_ne _ _ _ a1]; exact h.rest a a1 a2 a3⟩
theorem GrSt.setL {σ σ' : Sg} {B L W bs ls ws} (h : GrSt σ B L W bs ls ws σ') (ls') (o) : GrSt σ B L W bs ls' ws (upd σ' L (.lst (ls'.map itup)) o) := by
 refine ob03 h.ne ?_; rintro h1 h2 h3
 exact ⟨by rw [upd_ne _ _ _ h1]; exact h.b, ⟨o, upd_same ..⟩, by rw [upd_ne _ _ _ (Ne.symm h3)]; exact h.w, h.ne, h.old, fun a a1 a2 a3 => by rw [upd_ne _ _ _ a2]; exact h.rest a a1 a2 a3⟩
theorem GrSt.setW {σ σ' : Sg} {B L W bs ls ws} (h : GrSt σ B L W bs ls ws σ') (ws' : List Pr) (o) : GrSt σ B L W bs ls ws' (upd σ' W (.lst (ws'.map fun p => itup (prK p))) o) := by
 refine ob03 h.ne ?_; rintro h1 h2 h3
 exact ⟨by rw [upd_ne _ _ _ h2]; exact h.b, by rw [upd_ne _ _ _ h3]; exact h.l, ⟨o, upd_same ..⟩, h.ne, h.old, fun a a1 a2 a3 => by rw [upd_ne _ _ _ a3]; exact h.rest a a1 a2 a3⟩
theorem GrSt.newW {σ σ' : Sg} {B L W bs ls ws} (h : GrSt σ B L W bs ls ws σ') (ws' : List Pr) {W' : Addr} (hW : σ' W' = none) (o) : GrSt σ B L W' bs ls ws' (del (upd σ' W' (.lst (ws'.map fun p => itup (prK p))) o) W) := by
 refine ob03 h.ne ?_; rintro h1 h2 h3
 have hs : ∀ {a x}, σ' a = some x → a ≠ W' := fun e z => by rw [z, hW] at e; cases e
 refine ob11 h.b ?_; rintro ob hb
 refine ob11 h.l ?_; rintro ol hl
 refine ob11 h.w ?_; rintro ow hw
 refine ⟨⟨ob, by rw [del_ne _ h2, upd_ne _ _ _ (hs hb)]; exact hb⟩, ⟨ol, by rw [del_ne _ h3, upd_ne _ _ _ (hs hl)]; exact hl⟩, ⟨o, by rw [del_ne _ (Ne.symm (hs hw))]; exact upd_same ..⟩, (mx03 h1 (hs hb) (hs hl)),
   (mx03 h.old.1 h.old.2.1 (h.over.fresh hW)), fun a a1 a2 a3 => ?_⟩
 by_cases z : a = W
 · subst z; rw [del_same, h.old.2.2]
 · rw [del_ne _ z, upd_ne _ _ _ a3]; exact h.rest a a1 a2 z
theorem GrSt.tmp {σ σ' : Sg} {B L W bs ls ws} (h : GrSt σ B L W bs ls ws σ') {D : Addr} (hD : σ' D = none) (ws' : List Pr) {xs : List V} (oD) (o) : GrSt σ B L W bs ls ws' (del (upd (upd σ' D (.lst xs) oD) W (.lst (ws'.map fun p => itup (prK p))) o) D) := by
 have hs : ∀ {a x}, σ' a = some x → a ≠ D := fun e z => by rw [z, hD] at e; cases e
 refine ob11 h.w ?_; rintro ow hw
 have : del (upd (upd σ' D (.lst xs) oD) W (.lst (ws'.map fun p => itup (prK p))) o) D = upd σ' W (.lst (ws'.map fun p => itup (prK p))) o := by
   rw [del_upd_ne _ (hs hw), del_upd _ _ hD]
 rw [this]; exact h.setW ws' o
theorem GrSt.done {σ σ' : Sg} {B L W bs ls ws} (h : GrSt σ B L W bs ls ws σ') : Deep (del (del σ' W) L) (.ref B) (.lst (bs.map .dct)) σ := by
 refine ob03 h.ne ?_; rintro h1 h2 h3
 refine ob11 h.b ?_; rintro ob hb
 have e : del (del (del σ' W) L) B = σ := by
   funext a
   by_cases z : a = B
   · subst z; rw [del_same, h.old.1]
   rw [del_ne _ z]
   by_cases z2 : a = L
   · subst z2; rw [del_same, h.old.2.1]
   rw [del_ne _ z2]
   by_cases z3 : a = W
   · subst z3; rw [del_same, h.old.2.2]
   rw [del_ne _ z3]
   exact h.rest a z z2 z3
 have hd : Deeps (del (del (del σ' W) L) B) (bs.map .dct) (bs.map .dct) σ := by
   rw [e]
   clear h hb e
   induction bs with
   | nil => exact .nil
   | cons x bs ih => exact .cons .atom ih
 exact .lst (o := ob) (by rw [del_ne _ h1, del_ne _ h2]; exact hb) hd
theorem groebE_ok {most k : Nat} {bs : List Poly} {ls : List Mon} {ws : List Pr} {done : Nat} {g : List Poly} (h : groebE most k bs ls ws done = some g) : ∃ n, k = n + 1 ∧ ((ws = [] ∧ g = bs) ∨ ∃ p j, leastE ls ws none = some (p, j) ∧
   ((needlessE p (ws.filter fun q => !(preq q p)) ls = true ∧ groebE most n bs ls (ws.filter fun q => !(preq q p)) done = some g) ∨
    (needlessE p (ws.filter fun q => !(preq q p)) ls = false ∧ done < most ∧ ∃ s qs rest, sPolyE (bs.getD p.1 []) (bs.getD p.2 []) = some s ∧ divideE s bs = some (qs, rest) ∧
      ((rest = [] ∧ groebE most n bs ls (ws.filter fun q => !(preq q p)) (done + 1) = some g) ∨ ∃ l m, leadE rest = some l ∧ monicE rest = some m ∧
        groebE most n (bs ++ [m]) (ls ++ [l.1]) ((ws.filter fun q => !(preq q p)) ++ (List.range bs.length).map fun i => (i, bs.length)) (done + 1) = some g)))) := by
 cases k with
 | zero => (exfalso; cases h)
 | succ n =>
   refine (mx12 n rfl ?_)
   dsimp only [groebE] at h
   cases e : leastE ls ws none with
   | none => rw [e] at h; exact .inl ⟨leastE_none e, (Option.some.inj h).symm⟩
   | some pj =>
     obtain ⟨p, j⟩ := pj
     rw [e] at h
     refine .inr (mx22 p j rfl ?_)
     simp only [] at h
     cases e2 : needlessE p (ws.filter fun q => !(preq q p)) ls with
     | true => rw [e2] at h; exact .inl ⟨rfl, h⟩
     | false =>
       rw [e2] at h
       simp only [cond_false] at h
       refine ob02 (cond_some h) ?_; rintro h3 h
       refine .inr (mx03 rfl (Nat.blt_eq.mp h3) ?_)
       cases e4 : sPolyE (bs.getD p.1 []) (bs.getD p.2 []) with
       | none => rw [e4] at h; (exfalso; cases h)
       | some s =>
       rw [e4] at h
       cases e5 : divideE s bs with
       | none => simp only [e5] at h; (exfalso; cases h)
       | some qr =>
       obtain ⟨qs, rest⟩ := qr
       simp only [e5] at h
       refine (mx33 s qs rest rfl e5 ?_)
       cases e6 : leadE rest with
       | none => rw [e6] at h; exact .inl ⟨leadE_nil.mp e6, h⟩
       | some l =>
       rw [e6] at h
       cases e7 : monicE rest with
       | none => simp only [e7] at h; (exfalso; cases h)
       | some m => simp only [e7] at h; exact .inr (mx23 l m rfl rfl h)
theorem divE_lenIs {m : Nat} {so : List Poly} {ls : List Ld} : ∀ {k : Nat} {left : Poly} {qs : List Poly} {rest : Poly} {res : List Poly × Poly}, divE k left so ls qs rest = some res → (∀ x, some x ∈ ls → x.1.length = m) → (∀ p ∈ so, lenIs m p = true) → lenIs m left = true → lenIs m rest = true → lenIs m res.2 = true
 | 0, _, _, _, _, h, _, _, _, _ => by (exfalso; cases h)
 | k + 1, left, qs, rest, res, h, hls, hso, hl, hr => by
   refine ob13 (divE_ok h) ?_; rintro j hj _ hc
   cases hj
   rcases hc with ⟨_, rfl⟩ | ⟨k', r, hlead, ⟨_, h⟩ | ⟨i, lb, q, sh, left', _, hlb, _, hz, hrz, _, hsh, hsub, h⟩⟩
   · exact hr
   · have hk : k'.length = m := lenIs_iff.mp hl _ (leadE_mem hlead)
     refine divE_lenIs h hls hso (lenIs_sub hl fun x hx => (mx12 x (delE_sub x hx) rfl)) ?_
     refine lenIs_iff.mpr ?_
     have hr := lenIs_iff.mp hr
     generalize rest = p at hr
     induction p with
     | nil => intro x hx; have : x = (k', r) := by simpa [putE] using hx
              rw [this]; exact hk
     | cons z p ih =>
       intro x hx
       dsimp only [putE] at hx
       cases e : meq z.1 k' with
       | true =>
         rw [e] at hx
         rcases List.mem_cons.mp hx with rfl | hx
         · exact hr z List.mem_cons_self
         · exact hr x (List.mem_cons_of_mem _ hx)
       | false =>
         rw [e] at hx
         rcases List.mem_cons.mp hx with rfl | hx
         · exact hr z List.mem_cons_self
         · exact ih (fun y hy => hr y (List.mem_cons_of_mem _ hy)) x hx
   · refine divE_lenIs h hls hso ?_ hr
     have hk : k'.length = m := lenIs_iff.mp hl _ (leadE_mem hlead)
     have hml := msub_len' hk (hls lb (List.mem_of_getElem? hlb))
     refine ob04 (shiftE_ok hsh (div_ne hrz hz)) ?_; rintro _ _ hshl hshe
     refine lenIs_iff.mpr fun x hx => ?_
     rcases addE_keys hsub x hx with ⟨y, hy, e⟩ | ⟨y, hy, e⟩
     · rw [← e]; exact lenIs_iff.mp hl y hy
     · rw [← e]
       refine ob12 (List.mem_map.mp hy) ?_; rintro z hz rfl
       rw [hshe] at hz
       refine ob12 (List.mem_map.mp hz) ?_; rintro w hw rfl
       show (madd w.1 _).length = m
       rw [madd_len (hshl w hw)]; exact hml
theorem monicE_keys {a r : Poly} (h : monicE a = some r) : r.map (·.1) = a.map (·.1) := by
 rcases monicE_ok h with ⟨hl, rfl⟩ | ⟨l, hl, h1, h2, h3⟩
 · rw [leadE_nil.mp hl]
 · refine ob03 (scaleE_ok h3 (inv_ne h2)) ?_; rintro _ _ rfl
   rw [List.map_map]; rfl
theorem monicE_lenIs {a r : Poly} {m : Nat} (h : monicE a = some r) (hl : lenIs m a = true) : lenIs m r = true := by
 refine lenIs_iff.mpr fun x hx => ?_
 have : x.1 ∈ r.map (·.1) := List.mem_map.mpr (mx12 x hx rfl)
 rw [monicE_keys h] at this
 refine ob12 (List.mem_map.mp this) ?_; rintro y hy e
 rw [← e]; exact lenIs_iff.mp hl y hy
theorem monicE_ne {a r : Poly} (h : monicE a = some r) (hn : a ≠ []) : r ≠ [] := by
 intro z
 have := monicE_keys h
 rw [z] at this
 exact hn (List.map_eq_nil_iff.mp this.symm)
theorem leadM_of {p : Poly} (h : p ≠ []) : ∃ l, leadE p = some l ∧ leadM p = l.1 := by
 cases e : leadE p with
 | none => exact absurd (leadE_nil.mp e) h
 | some l => exact (mx12 l rfl (by unfold leadM; rw [e]))
noncomputable abbrev grV (so : List Poly) (most done : Nat) (B L W : Addr) (s1 s2 : Slot) : Vars :=
 [("some", .val (.lst (so.map .dct))), ("order", .val (.str "lex")), ("most", .val (.int (most : Nat))), ("basis", .val (.ref B)), ("leads", .val (.ref L)), ("waiting", .val (.ref W)), ("done", .val (.int (done : Nat))), ("pair", s1), ("rest", s2),
   ("range", .bi (.type "range")), ("len", .bi (.builtin "len")), ("least_pair", .fn), ("is_needless", .fn), ("rest_of", .fn), ("s_poly", .fn), ("mvmonic", .fn), ("mvlead", .fn)]
inductive GrInv (σ : Sg) (so : List Poly) (most : Nat) (B L : Addr) (g : List Poly) (k : Nat) (e : Vars) (σ' : Sg) : Prop
 | mk (W : Addr) (bs : List Poly) (ls : List Mon) (ws : List Pr) (done : Nat) (s1 s2 : Slot) (he : e = grV so most done B L W s1 s2) (h1 : IsVar s1) (h2 : IsVar s2) (hs : GrSt σ B L W bs ls ws σ') (hg : groebE most k bs ls ws done = some g) (hb : bs.length = ls.length) (hbk : bs.length + k ≤ 62) (hw : ws.length + 100 * k ≤ 7000)
   (hl : ∀ l ∈ ls, l.length = 3) (hb3 : ∀ b ∈ bs, lenIs 3 b = true) (hp : ∀ p ∈ ws, p.1 < ls.length ∧ p.2 < ls.length) : GrInv σ so most B L g k e σ'
theorem sPolyE_len {f g r : Poly} {m : Nat} (h : sPolyE f g = some r) (hf : lenIs m f = true) (hg : lenIs m g = true) : g.length ≤ 1000 ∧ lenIs m r = true := by
 refine ob48 (sPolyE_ok h) ?_; rintro one other a b h1 h2 h3 h4 h5 h6 h7 z1; refine ob03 z1 ?_; clear z1; rintro h8 h9 h10
 refine ob04 (shiftE_ok h8 (inv_ne h6)) ?_; rintro _ _ l1 e1
 refine ob04 (shiftE_ok h9 (inv_ne h7)) ?_; rintro ok _ l2 e2
 have ho : one.1.length = m := lenIs_iff.mp hf _ (leadE_mem h1)
 have ho2 : other.1.length = m := lenIs_iff.mp hg _ (leadE_mem h2)
 have hj : (mmax one.1 other.1).length = m := by rw [mmax_len h3]; exact ho2
 refine ⟨(okP_iff.mp ok).1, lenIs_iff.mpr fun x hx => ?_⟩
 rcases addE_keys h10 x hx with ⟨y, hy, e⟩ | ⟨y, hy, e⟩
 · rw [← e]
   rw [e1] at hy
   refine ob12 (List.mem_map.mp hy) ?_; rintro w hw rfl
   show (madd w.1 _).length = m
   rw [madd_len (l1 w hw)]; exact msub_len' hj ho
 · rw [← e]
   refine ob12 (List.mem_map.mp hy) ?_; rintro z hz rfl
   rw [e2] at hz
   refine ob12 (List.mem_map.mp hz) ?_; rintro w hw rfl
   show (madd w.1 _).length = m
   rw [madd_len (l2 w hw)]; exact msub_len' hj ho2
theorem divideE_lenIs {f : Poly} {so : List Poly} {res : List Poly × Poly} (h : divideE f so = some res) (hf : lenIs 3 f = true) (hne : f ≠ []) : lenIs 3 res.2 = true := by
 refine ob15 (divideE_ok h) ?_; rintro m _ hlf hso _ hd
 have : m = 3 := by
   cases f with
   | nil => exact absurd rfl hne
   | cons x p => rw [← lenIs_iff.mp hlf x List.mem_cons_self]; exact lenIs_iff.mp hf x List.mem_cons_self
 subst this
 refine divE_lenIs hd (fun x hx => ?_) (fun p hp => (hso p hp).2) hlf rfl
 refine ob12 (List.mem_map.mp hx) ?_; rintro p hp e
 exact lenIs_iff.mp (hso p hp).2 x (leadE_mem e)
theorem divideE_nil {so : List Poly} {res : List Poly × Poly} (h : divideE [] so = some res) : res.2 = [] := by
 refine ob15 (divideE_ok h) ?_; rintro m _ _ _ _ hd
 refine ob13 (divE_ok hd) ?_; rintro j _ _ hc
 rcases hc with ⟨_, rfl⟩ | ⟨k, r, hl, _⟩
 · rfl
 · (exfalso; cases hl)
theorem monicE_len {a r : Poly} (h : monicE a = some r) : r.length = a.length := by
 have := congrArg List.length (monicE_keys h)
 simpa using this
theorem two_map {α β : Type} {f : α → β} {x y : α} {i : Nat} {v : β} (h : ([x, y].map f)[i]? = some v) : (i = 0 ∧ v = f x) ∨ (i = 1 ∧ v = f y) := by
 match i with
 | 0 => exact .inl ⟨rfl, (Option.some.inj h).symm⟩
 | 1 => exact .inr ⟨rfl, (Option.some.inj h).symm⟩
 | i + 2 => simp at h
theorem groebner_ok (T : Tops C) {n most : Nat} {f s a b : Poly} {g : List Poly} {σ : Sg} {Q : V → Sg → Prop} (hn : 10 ≤ n) (hf : f ≠ []) (hs : s ≠ []) (hfl : f.length ≤ 1000) (hsl : s.length ≤ 1000) (hf3 : lenIs 3 f = true) (hs3 : lenIs 3 s = true)
   (ha : monicE f = some a) (hb : monicE s = some b) (hg : groebE most 60 [a, b] [leadM a, leadM b] [(0, 1)] 0 = some g) (h : Q (.lst (g.map .dct)) σ) :
   CallOK C n "groebner" [.lst ([f, s].map .dct), .str "lex", .int (most : Nat)] σ Q := by
 refine CallOK.deep ?_
 generalize hq : (fun v σ' => ∃ w σ'', Deep σ' v w σ'' ∧ Q w σ'') = Q₁
 have hend : ∀ v σ', Deep σ' v (.lst (g.map .dct)) σ → Q₁ v σ' := fun v σ' hd => by subst hq; exact (mx22 _ _ hd h)
 clear hq h
 have hne : ∀ {p : Poly}, p ≠ [] → decide ((p.length : Int) > 0) = true := fun {p} hp => by
   cases p with
   | nil => exact absurd rfl hp
   | cons x p => simp
 refine ob12 (leadM_of (monicE_ne ha hf)) ?_; rintro la hla hMa
 refine ob12 (leadM_of (monicE_ne hb hs)) ?_; rintro lb hlb hMb
 have ha3 := monicE_lenIs ha hf3
 have hb3 := monicE_lenIs hb hs3
 refine def_ok T 60 rfl (by decide +kernel) (.parL (.parC (.parL (.locC (.locL (.locL (.locL (.locC (.locL (.bi (T.b 9 rfl) (.bi (T.b 0 rfl) (.fn (T.f 59 rfl) (.fn (T.f 58 rfl) (.skip (.fn (T.f 43 rfl) (.fn (T.f 45 rfl) (.fn (T.f 33 rfl) (.fn (T.f 32 rfl) .nil)))))))))))))))))) (by walk_at "om") fun env henv => ?_
 walk_at "w"
 with_reducible refine S_assign ?_ ?_
 · exact sw_of henv rfl
 refine E_listcomp (fun _ => rfl) rfl (by decide +kernel) (by decide +kernel) (by decide +kernel) (.loc (.loc (.bi (T.b 0 rfl) (.fn (T.f 33 rfl) (.free (by exact kd_of henv rfl) (by walk_at "mem") .nil))))) (IE_list ?_)
 walk_at "ws"
 refine (mx12 _ rfl (fun cenv => ?_))
 refine ListL_vif (fun i => ([a, b].take i).map .dct) (fun t => [(".0", .un), ("one", t), ("len", .bi (.builtin "len")), ("mvmonic", .fn), ("order", .val (.str "lex"))]) rfl rfl ?_ ?_
 rotate_left
 · intro i v t hv ht
   rcases two_map hv with ⟨rfl, rfl⟩ | ⟨rfl, rfl⟩
   · refine ⟨.name (up_at 1 rfl ht), fun K K' hK hK' => ?_⟩
     walk_at "ws"
     refine B_len_dct rfl (sz1000 hfl) ?_
     walk_at "ws"
     refine ⟨_, rfl, fun _ => ?_, fun hc => by rw [hne hf] at hc; (exfalso; cases hc)⟩
     walk_at "ws"
     refine mvmonic_ok T (by walk_at "om") ha ?_
     exact hK _ (sz1000 (by simp)) rfl
   · refine ⟨.name (up_at 1 rfl ht), fun K K' hK hK' => ?_⟩
     walk_at "ws"
     refine B_len_dct rfl (sz1000 hsl) ?_
     walk_at "ws"
     refine ⟨_, rfl, fun _ => ?_, fun hc => by rw [hne hs] at hc; (exfalso; cases hc)⟩
     walk_at "ws"
     refine mvmonic_ok T (by walk_at "om") hb ?_
     exact hK _ (sz1000 (by simp)) rfl
 intro B oB hB
 walk_at "up1"
 walk_at "w"
 refine S_assign_listcomp (by exact sw_of henv rfl) (by exact kd_of henv rfl) (fun _ => rfl) rfl (by decide +kernel) (by decide +kernel) (by decide +kernel) (.loc (.loc (.fn (T.f 32 rfl) (.free (by exact kd_of henv rfl) (by walk_at "mem") .nil)))) (IE_list ?_)
 walk_at "ws"
 refine (mx12 _ (look_own (upd_same ..)) (fun cenv => ?_))
 refine ListL_v (fun i => ([leadM a, leadM b].take i).map itup) (fun t => [(".0", .un), ("one", t), ("mvlead", .fn), ("order", .val (.str "lex"))]) rfl rfl ?_ ?_
 rotate_left
 · intro i v t hv ht
   rcases two_map (f := V.dct) (x := a) (y := b) hv with ⟨rfl, rfl⟩ | ⟨rfl, rfl⟩
   · refine ⟨.name (up_at 1 rfl ht), fun K hK => ?_⟩
     walk_at "ws"
     refine mvlead_ok T (by walk_at "om") rfl ?_
     rw [hla]
     simp only [ldV]
     walk_at "ws"
     rw [← hMa]
     exact hK _ (sz1000 (by simp)) rfl
   · refine ⟨.name (up_at 1 rfl ht), fun K hK => ?_⟩
     walk_at "ws"
     refine mvlead_ok T (by walk_at "om") rfl ?_
     rw [hlb]
     simp only [ldV]
     walk_at "ws"
     rw [← hMb]
     exact hK _ (sz1000 (by simp)) rfl
 intro L oL hL
 walk_at "up1"
 walk_at "w"
 refine S_assign_listcomp2 (by exact sw_of henv rfl) (by exact kd_of henv rfl) (fun _ => rfl) (fun _ _ => rfl) rfl (by decide +kernel) (by decide +kernel) (by decide +kernel) (by decide +kernel) (.loc (.loc (.loc (.bi (T.b 9 rfl) .nil)))) ?_
 have hBL : B ≠ L := by rintro rfl; rw [upd_same] at hL; cases hL
 refine IE_range1 (by walk_at "mem") rfl ?_
 walk_at "ws"
 refine B_len_lst (xs := [a, b].map .dct) (by rw [look_own]; rw [upd_ne _ _ _ hBL]; exact upd_same ..) (sz1000 (by simp)) ?_
 walk_at "ws"
 refine (mx14 2 rfl (by decide) (by decide) (fun cenv => ?_))
 show CompL _ _ _ _ _ _ _ _ [V.int 0, V.int 1] _ _ _
 refine ⟨_, .name (by walk_at "up"), ⟨fun _ => ?_, fun hc => (by (exfalso; cases hc))⟩⟩
 refine IE_range1 (by walk_at "mem") rfl ?_
 walk_at "ws"
 refine (mx14 0 rfl (by decide) (by decide) ?_)
 refine ⟨fun _ hx => (nomatch hx), ?_⟩
 refine ⟨_, .name (by walk_at "up"), ⟨fun _ => ?_, fun hc => (by (exfalso; cases hc))⟩⟩
 refine IE_range1 (by walk_at "mem") rfl ?_
 walk_at "ws"
 refine (mx14 1 rfl (by decide) (by decide) ?_)
 show CompL _ _ _ _ _ _ _ _ [V.int 0] _ _ _
 refine ⟨_, .name (by walk_at "up"), ⟨fun _ => ?_, fun hc => (by (exfalso; cases hc))⟩⟩
 show EE _ _ _ _ _ _ _
 walk_at "ws"
 refine ⟨fun _ hx => (nomatch hx), ?_⟩
 refine ⟨fun _ hx => (nomatch hx), ?_⟩
 intro W oW hW
 have hSt : GrSt σ B L W [a, b] [leadM a, leadM b] [(0, 1)] (upd (upd (upd σ B (.lst ([a, b].map .dct)) oB) L (.lst ([leadM a, leadM b].map itup)) oL) W (.lst ([((0, 1) : Pr)].map fun p => itup (prK p))) oW) := by
   have hBW : B ≠ W := by
     rintro rfl
     rw [upd_ne _ _ _ hBL, upd_same] at hW; cases hW
   have hLW : L ≠ W := by rintro rfl; rw [upd_same] at hW; cases hW
   have hL' : σ L = none := by rw [upd_ne _ _ _ (Ne.symm hBL)] at hL; exact hL
   refine ⟨⟨oB, by rw [upd_ne _ _ _ hBW, upd_ne _ _ _ hBL]; exact upd_same ..⟩, ⟨oL, by rw [upd_ne _ _ _ hLW]; exact upd_same ..⟩, ⟨oW, upd_same ..⟩, (mx03 hBL hBW hLW), (mx03 hB hL' ?_), fun x a1 a2 a3 => by rw [upd_ne _ _ _ a3, upd_ne _ _ _ a2, upd_ne _ _ _ a1]⟩
   rw [upd_ne _ _ _ (Ne.symm hLW), upd_ne _ _ _ (Ne.symm hBW)] at hW
   exact hW
 walk_at "up1"
 show SB _ _ _ _ _ (upd (upd (upd σ B (.lst ([a, b].map .dct)) oB) L (.lst ([leadM a, leadM b].map itup)) oL) W (.lst ([((0, 1) : Pr)].map fun p => itup (prK p))) oW) _
 generalize upd (upd (upd σ B (.lst ([a, b].map .dct)) oB) L (.lst ([leadM a, leadM b].map itup)) oL) W (.lst ([((0, 1) : Pr)].map fun p => itup (prK p))) oW = σ1 at hSt ⊢
 clear hL hB hW hBL
 walk_at "ws"
 walk_at "up1"
 walk_at "w"
 have hl3 : ∀ l ∈ [leadM a, leadM b], l.length = 3 := by
   intro l hl
   rcases List.mem_cons.mp hl with rfl | hl
   · rw [hMa]; exact lenIs_iff.mp ha3 _ (leadE_mem hla)
   · rw [List.mem_singleton.mp hl, hMb]; exact lenIs_iff.mp hb3 _ (leadE_mem hlb)
 refine While_k (GrInv σ [f, s] most B L g) 60 ⟨W, _, _, _, 0, _, _, rfl, .un, .un, hSt, hg, rfl, by simp, by simp, hl3, fun x hx => ?_, fun p hp => ?_⟩ ?_
 · rcases List.mem_cons.mp hx with rfl | hx
   · exact ha3
   · rw [List.mem_singleton.mp hx]; exact hb3
 · rw [List.mem_singleton.mp hp]; exact ⟨by simp, by simp⟩
 clear hSt hg hl3 ha3 hb3 hla hlb hMa hMb ha hb hf3 hs3 hfl hsl hf hs hne
 rintro k e σ' ⟨W, bs, ls, ws, done, s1, s2, rfl, v1, v2, hSt, hg, hbl, hbk, hwk, hl3, hb3, hwl⟩ K hK hR
 refine ob12 (groebE_ok hg) ?_; rintro j rfl hcase
 clear hg
 refine ob11 hSt.b ?_; rintro oB hoB
 refine ob11 hSt.l ?_; rintro oL hoL
 refine ob11 hSt.w ?_; rintro oW hoW
 have hszw : (ws.map fun p => itup (prK p)).length ≤ sizeLine := by rw [sizeLine_eq, List.length_map]; exact li1 hwk
 walk_at "ws"
 refine B_len_lst (look_own hoW) hszw ?_
 walk_at "ws"
 rw [List.length_map]
 refine ⟨_, rfl, fun hc => ?_, fun hc => ?_⟩
 rotate_left
 · rcases hcase with ⟨_, rfl⟩ | ⟨p, jj, hleast, _⟩
   · refine SX.freeze W hoW (by walk_at "ownsub") ?_
     have hoL' : del σ' W L = some (.lst (ls.map itup), oL) := by rw [del_ne _ hSt.ne.2.2]; exact hoL
     refine SX.freeze L hoL' (by walk_at "ownsub") ?_
     walk_at "ws"
     exact hend _ _ hSt.done
   · exfalso
     have := leastE_mem hleast
     cases ws with
     | nil => cases this
     | cons x ws => have := of_decide_eq_false hc; simp at this
 rcases hcase with ⟨rfl, _⟩ | ⟨p, jj, hleast, hcase⟩
 · exact absurd hc (by decide)
 have hpm : p ∈ ws := leastE_mem hleast
 refine ob02 (hwl p hpm) ?_; rintro hp1 hp2
 walk_at "ws"
 refine least_pair_ok T (by walk_at "om") (look_own hoW) (look_own hoL) (by exact li2 (eG hbl) hbk) (m := 3) (by decide) hl3 hwl ?_
 rw [hleast]
 simp only [lpV]
 refine asg_at 7 rfl v1 ?_
 walk_at "w"
 refine S_assign_listcomp (by exact sw_of henv rfl) (by exact kd_of henv rfl) (fun _ => rfl) rfl (by decide +kernel) (by decide +kernel) (by decide +kernel) (.loc (.loc (.free (by exact kd_of henv rfl) (by walk_at "mem") .nil))) (IE_list ?_)
 walk_at "ws"
 refine (mx12 _ (look_own hoW) (fun cenv => ?_))
 refine ListL_vif (fun i => ((ws.take i).filter fun q => !(preq q p)).map (fun p => itup (prK p))) (fun t => [(".0", .un), ("one", t), ("pair", .val (itup (prK p)))]) rfl rfl ?_ ?_
 rotate_left
 · intro i v t hv ht
   rw [List.getElem?_map] at hv
   refine ob12 (Option.map_eq_some_iff.mp hv) ?_; rintro q hq rfl
   have hil := some_lt hq
   have hfl : ((ws.take i).filter fun q => !(preq q p)).length ≤ i := Nat.le_trans (List.length_filter_le _ _) (by rw [List.length_take]; exact li1 (Nat.min_le_left i ws.length))
   refine ⟨.name (up_at 1 rfl ht), fun K K' hK hK' => ?_⟩
   walk_at "ws"
   refine O_neT ?_
   rw [show decide (prK q = prK p) = preq q p by rw [preq_eq, decide_eq_decide, prK_inj]]
   refine ⟨_, rfl, fun hc => ?_, fun hc => ?_⟩
   · walk_at "ws"
     refine hK _ (by rw [sizeLine_eq, List.length_map]; exact li3 hwk hil hfl) ?_
     rw [take_succ_get hq, List.filter_append, List.map_append]
     simp [hc]
   · refine hK' ?_
     rw [take_succ_get hq, List.filter_append, List.map_append]
     simp [hc]
 intro W' oW' hW'
 rw [List.length_map, List.take_length]
 walk_at "up1"
 have hSt2 := hSt.newW (ws.filter fun q => !(preq q p)) hW' oW'
 have hWW : W ≠ W' := by rintro rfl; rw [hoW] at hW'; cases hW'
 refine SX.drop W (by rw [upd_ne _ _ _ hWW]; exact hoW) ?_
 have hwl2 : ∀ q ∈ ws.filter (fun q => !(preq q p)), q.1 < ls.length ∧ q.2 < ls.length := fun q hq => hwl q (List.mem_filter.mp hq).1
 have hwk2 : (ws.filter fun q => !(preq q p)).length ≤ ws.length := List.length_filter_le _ _
 generalize ws.filter (fun q => !(preq q p)) = ws2 at *
 generalize del (upd σ' W' (.lst (ws2.map fun p => itup (prK p))) oW') W = σ3 at hSt2 ⊢
 clear hSt hoB hoL hoW hszw hW' hWW hwl hleast hpm
 refine ob11 hSt2.b ?_; rintro oB hoB
 refine ob11 hSt2.l ?_; rintro oL hoL
 refine ob11 hSt2.w ?_; rintro oW hoW
 walk_at "ws"
 refine is_needless_ok T (by walk_at "om") (look_own hoW) (look_own hoL) (by exact li2 (eG hbl) hbk) (m := 3) (by decide) hl3 hp1 hp2 ?_
 refine ⟨_, rfl, fun hc => ?_, fun hc => ?_⟩
 · rcases hcase with ⟨_, hnext⟩ | ⟨h1, _⟩
   · walk_at "w"
     refine S_cont ?_
     exact (hK j _ _ (Nat.lt_succ_self _) ⟨W', bs, ls, ws2, done, _, _, rfl, .val, v2, hSt2, hnext, hbl, by exact li1 hbk, by exact li2 hwk hwk2, hl3, hb3, hwl2⟩).2
   · rw [hc] at h1; (exfalso; cases h1)
 rcases hcase with ⟨h1, _⟩ | ⟨_, hdone, sp, qs, rest, hsp, hdiv, hcase⟩
 · rw [hc] at h1; (exfalso; cases h1)
 walk_at "ws"
 refine S_aug (by walk_at "mem") ?_
 walk_at "ws"
 walk_at "up1"
 walk_at "ws"
 refine ⟨_, rfl, fun hc => absurd (of_decide_eq_true hc) (by exact Int.not_lt_of_ge (il1 (cL hdone))), fun _ => ?_⟩
 have hb1 := hb3 _ (getD_mem (d := []) (show p.1 < bs.length by exact li2 (eG hbl) hp1))
 have hb2 := hb3 _ (getD_mem (d := []) (show p.2 < bs.length by exact li2 (eG hbl) hp2))
 refine ob02 (sPolyE_len hsp hb1 hb2) ?_; rintro hsl hsp3
 have hszb : (bs.map V.dct).length ≤ sizeLine := sz1000 (by rw [List.length_map]; exact li1 hbk)
 have hbat : ∀ {i : Nat}, i < bs.length → (bs.map V.dct)[i]? = some (.dct (bs.getD i [])) := fun {i} hi => by
   rw [List.getElem?_map, List.getElem?_eq_getElem hi]; simp [List.getD_eq_getElem?_getD, hi]
 walk_at "ws"
 refine I_lst (look_own hoB) hszb (seq_at (i := p.1) (by rw [List.length_map]; exact li2 (eG hbl) hp1)) (hbat (by exact li2 (eG hbl) hp1)) ?_ (fun _ _ => rfl)
 walk_at "ws"
 refine I_lst (look_own hoB) hszb (seq_at (i := p.2) (by rw [List.length_map]; exact li2 (eG hbl) hp2)) (hbat (by exact li2 (eG hbl) hp2)) ?_ (fun _ _ => rfl)
 walk_at "ws"
 refine s_poly_ok T (by walk_at "om") (fun x hx => by rw [lenIs_iff.mp hb1 x hx]; decide) hsl hsp ?_
 walk_at "ws"
 refine rest_of_ok T (by walk_at "om") (look_own hoB) hdiv ?_
 refine asg_at 8 rfl v2 ?_
 have hone : (done : Int) + 1 = ((done + 1 : Nat) : Int) := by exact Int.le_antisymm il0 il0
 rw [hone]
 have hrl : rest.length ≤ 1000 := by
   rcases hcase with ⟨rfl, _⟩ | ⟨l, m, hl, hm, _⟩
   · simp
   · rcases monicE_ok hm with ⟨hl2, _⟩ | ⟨l2, _, _, h2, h3⟩
     · rw [leadE_nil.mp hl2]; simp
     · exact (okP_iff.mp (scaleE_ok h3 (inv_ne h2)).1).1
 walk_at "ws"
 refine B_len_dct rfl (sz1000 hrl) ?_
 walk_at "ws"
 refine ⟨_, rfl, fun hc => ?_, fun hc => ?_⟩
 · rcases hcase with ⟨rfl, _⟩ | ⟨l, m, hl, hm, hnext⟩
   · exact absurd hc (by show ¬ decide (((0 : Nat) : Int) > 0) = true; decide)
   have hrne : rest ≠ [] := by rintro rfl; cases hl
   have hspne : sp ≠ [] := by rintro rfl; exact hrne (divideE_nil hdiv)
   have hr3 : lenIs 3 rest = true := divideE_lenIs hdiv hsp3 hspne
   have hlead3 : l.1.length = 3 := lenIs_iff.mp hr3 _ (leadE_mem hl)
   walk_at "w"
   refine S_exprV (by exact ki_of henv rfl) rfl (E_methL F.plainAttrs_list F.slot_list_extend F.type_list_extend (fun _ => rfl) rfl rfl (fun _ => rfl) ?_)
   walk_at "w"
   refine (mx33 W' _ _ rfl hoW ?_)
   walk_at "w"
   refine E_listcomp (fun _ => rfl) rfl (by decide +kernel) (by decide +kernel) (by decide +kernel) (.loc (.loc (.bi (T.b 0 rfl) (.free (by exact kd_of henv rfl) (by walk_at "mem") .nil)))) ?_
   refine IE_range1 (by walk_at "mem") rfl ?_
   walk_at "ws"
   refine B_len_lst (look_own hoB) hszb ?_
   walk_at "ws"
   rw [List.length_map]
   refine (mx14 _ rfl (by exact il2 (cN hbk) (c0 j)) (by exact il1 (c0 bs.length)) (fun cenv => ?_))
   rw [Int.toNat_natCast]
   refine ListL_k (fun i acc e σ'' => ∃ t, IsVar t ∧ σ3 = σ'' ∧ i ≤ bs.length ∧ acc = ((List.range i).map fun i => ((i, bs.length) : Pr)).map (fun p => itup (prK p)) ∧ e = ([(".0", .un), ("at", t), ("len", .bi (.builtin "len")), ("basis", .val (.ref B))] : Vars)) (mx15 _ .un rfl (Nat.zero_le _) rfl rfl) ?_ ?_
   rotate_left
   · rintro i v acc e σ'' hv z1; refine ob15 z1 ?_; clear z1; rintro t ht rfl hi rfl rfl
     have hil := some_lt hv
     have hil : i < bs.length := by simpa [rInts] using hil
     have hv : v = .int (i : Nat) := by
       simp only [rInts, List.getElem?_map, List.getElem?_range hil, Option.map_some, Option.some.injEq] at hv
       exact hv.symm
     subst hv
     refine (mx12 _ (.name (up_at 1 rfl ht)) (fun K hK => ?_))
     walk_at "ws"
     refine B_len_lst (look_own hoB) hszb ?_
     walk_at "ws"
     refine hK _ _ (sz1000 (by simp; exact li2 hbk hil)) (fun _ hx => (nomatch hx)) (mx15 _ .val rfl hil ?_ rfl)
     rw [List.length_map, List.range_succ, List.map_append, List.map_append]
     rfl
   rintro acc e σ'' z1 D oD hD; refine ob15 z1 ?_; clear z1; rintro t ht rfl _ rfl rfl
   have hrr : (rInts bs.length).length = bs.length := by simp [rInts]
   rw [hrr]
   have hDW : D ≠ W' := by rintro rfl; rw [hoW] at hD; cases hD
   have hDB : D ≠ B := by rintro rfl; rw [hoB] at hD; cases hD
   walk_at "ws"
   refine M_extend (xs := ws2.map fun p => itup (prK p)) (by rw [upd_ne _ _ _ (Ne.symm hDW)]; exact hoW) (upd_same ..) (by rw [sizeLine_eq]; simp only [List.length_map, List.length_range]; exact li3 hbk hwk hwk2) fun oW2 => ?_
   have hSt3 := hSt2.tmp hD (ws2 ++ (List.range bs.length).map fun i => (i, bs.length)) (xs := ((List.range bs.length).map fun i => ((i, bs.length) : Pr)).map (fun p => itup (prK p))) oD oW2
   rw [List.map_append] at hSt3
   refine SX.drop D (by rw [upd_ne _ _ _ hDW]; exact upd_same ..) ?_
   generalize del (upd (upd σ3 D _ oD) W' _ oW2) D = σ4 at hSt3 ⊢
   refine ob11 hSt3.b ?_; rintro oB2 hoB2
   walk_at "w"
   refine S_exprV (by exact ki_of henv rfl) rfl (E_methL F.plainAttrs_list F.slot_list_append F.type_list_append (fun _ => rfl) rfl rfl (fun _ => rfl) ?_)
   walk_at "ws"
   refine (mx33 B _ _ rfl hoB2 ?_)
   walk_at "ws"
   refine mvmonic_ok T (by walk_at "om") hm ?_
   walk_at "ws"
   refine M_append hoB2 hszb fun oB3 => ?_
   have hSt4 := hSt3.setB (bs ++ [m]) oB3
   rw [List.map_append] at hSt4
   refine ob11 hSt4.l ?_; rintro oL4 hoL4
   walk_at "w"
   refine S_exprV (by exact ki_of henv rfl) rfl (E_methL F.plainAttrs_list F.slot_list_append F.type_list_append (fun _ => rfl) rfl rfl (fun _ => rfl) ?_)
   walk_at "ws"
   refine (mx33 L _ _ rfl hoL4 ?_)
   walk_at "ws"
   refine mvlead_ok T (by walk_at "om") rfl ?_
   rw [hl]
   simp only [ldV]
   walk_at "ws"
   refine M_append hoL4 (sz1000 (by rw [List.length_map]; exact li2 (eG hbl) hbk)) fun oL5 => ?_
   have hSt5 := hSt4.setL (ls ++ [l.1]) oL5
   rw [List.map_append] at hSt5
   walk_at "ws"
   refine (hK j _ _ (Nat.lt_succ_self _) ⟨W', _, _, _, _, _, _, rfl, .val, .val, hSt5, hnext, by simp [hbl], by simp; exact li1 hbk, by simp; exact li3 hbk hwk hwk2, fun x hx => ?_, fun x hx => ?_, fun q hq => ?_⟩).1
   · rcases List.mem_append.mp hx with hx | hx
     · exact hl3 x hx
     · rw [List.mem_singleton.mp hx]; exact hlead3
   · rcases List.mem_append.mp hx with hx | hx
     · exact hb3 x hx
     · rw [List.mem_singleton.mp hx]; exact monicE_lenIs hm hr3
   · rw [List.length_append, List.length_singleton]
     rcases List.mem_append.mp hq with hq | hq
     · have := hwl2 q hq; exact ⟨(li1 this.1), (li1 this.2)⟩
     · refine ob12 (List.mem_map.mp hq) ?_; rintro i hi rfl
       have := List.mem_range.mp hi
       show i < _ ∧ bs.length < _
       exact ⟨(li2 (eL hbl) this), (li1 (eL hbl))⟩
 · rcases hcase with ⟨rfl, hnext⟩ | ⟨l, m, hl, _⟩
   · walk_at "ws"
     exact (hK j _ _ (Nat.lt_succ_self _) ⟨W', bs, ls, ws2, done + 1, _, _, rfl, .val, .val, hSt2, hnext, hbl, by exact li1 hbk, by exact li2 hwk hwk2, hl3, hb3, hwl2⟩).1
   · exfalso
     have := of_decide_eq_false hc
     cases rest with
     | nil => cases hl
     | cons x r => simp at this
noncomputable def PB (b : Poly) : Prop := b ≠ [] ∧ lenIs 3 b = true ∧ b.length ≤ 1000
theorem monicE_PB {a r : Poly} (h : monicE a = some r) (hn : a ≠ []) (hl : lenIs 3 a = true) : PB r := by
 refine ⟨monicE_ne h hn, monicE_lenIs h hl, ?_⟩
 rw [monicE_len h]
 rcases monicE_ok h with ⟨hl, _⟩ | ⟨l, _, h1, h2, h3⟩
 · exact absurd (leadE_nil.mp hl) hn
 · exact (okP_iff.mp (scaleE_ok h3 (inv_ne h2)).1).1
theorem getD_PB {bs : List Poly} (h : ∀ b ∈ bs, PB b) (i : Nat) : lenIs 3 (bs.getD i []) = true := by
 rw [List.getD_eq_getElem?_getD]
 cases e : bs[i]? with
 | none => rfl
 | some b => exact (h b (List.mem_of_getElem? e)).2.1
theorem groebE_inv {most : Nat} : ∀ {k : Nat} {bs : List Poly} {ls : List Mon} {ws : List Pr} {done : Nat} {g : List Poly}, groebE most k bs ls ws done = some g → (∀ b ∈ bs, PB b) → (∀ b ∈ g, PB b) ∧ g.length ≤ bs.length + k
 | 0, _, _, _, _, _, h, _ => by (exfalso; cases h)
 | k + 1, bs, ls, ws, done, g, h, hb => by
   refine ob12 (groebE_ok h) ?_; rintro n hn hc
   cases hn
   rcases hc with ⟨_, rfl⟩ | ⟨p, j, _, ⟨_, h⟩ | ⟨_, _, s, qs, rest, hs, hd, ⟨_, h⟩ | ⟨l, m, hl, hm, h⟩⟩⟩
   · exact ⟨hb, by exact li0⟩
   · have := groebE_inv h hb; exact ⟨this.1, by exact li1 this.2⟩
   · have := groebE_inv h hb; exact ⟨this.1, by exact li1 this.2⟩
   · have hrne : rest ≠ [] := by rintro rfl; cases hl
     have hsne : s ≠ [] := by rintro rfl; exact hrne (divideE_nil hd)
     have hr3 := divideE_lenIs hd (sPolyE_len hs (getD_PB hb _) (getD_PB hb _)).2 hsne
     have := groebE_inv h (fun b hb' => by
       rcases List.mem_append.mp hb' with h1 | h1
       · exact hb b h1
       · rw [List.mem_singleton.mp h1]; exact monicE_PB hm hrne hr3)
     exact ⟨this.1, by have := this.2; simp at this; exact li1 this⟩
theorem filter_all {bs : List Poly} {i : Nat} {b : Poly} (h : bs[i]? = some b) : bs.take (i + 1) = bs.take i ++ [b] := take_succ_get h
theorem minGo_drop (bs : List Poly) (lds : List Mon) (i : Nat) (k : Mon) (l : List Mon) : minGo bs lds i (k :: l) = cond ((lds.take i ++ (lds.drop (i + 1)).filter fun o => !(meq o k)).any fun o => mdvd o k) (minGo bs lds (i + 1) l) (bs.getD i [] :: minGo bs lds (i + 1) l) := rfl
theorem minimal_basis_own (T : Tops C) {n : Nat} {bs : List Poly} {σ : Sg} {Q : V → Sg → Prop} (hn : 5 ≤ n) (hl : bs.length ≤ 900) (hb : ∀ b ∈ bs, PB b) (h : ∀ D o, σ D = none → Q (.ref D) (upd σ D (.lst ((minE bs).map .dct)) o)) :
   CallOK C n "minimal_basis" [.lst (bs.map .dct), .str "lex"] σ Q := by
 refine def_ok T 61 rfl (by decide +kernel) (.parL (.parC (.locL (.locL (.locL (.locL (.locC (.locL (.bi (T.b 10 rfl) (.fn (T.f 46 rfl) .nil)))))))))) (by walk_at "om") fun env henv => ?_
 walk_at "w"
 refine S_assign_listcomp (by exact sw_of henv rfl) (by exact kd_of henv rfl) (fun _ => rfl) rfl (by decide +kernel) (by decide +kernel) (by decide +kernel) (.loc (.loc (.bi (T.b 0 rfl) .nil))) (IE_list ?_)
 walk_at "ws"
 refine (mx12 _ rfl (fun cenv => ?_))
 refine ListL_vif (fun i => (bs.take i).map .dct) (fun t => [(".0", .un), ("one", t), ("len", .bi (.builtin "len"))]) rfl rfl ?_ ?_
 rotate_left
 · intro i v t hv ht
   refine ob12 (dctsL hv) ?_; rintro p hp rfl
   have hil := some_lt hp
   refine ob03 (hb p (List.mem_of_getElem? hp)) ?_; rintro hne _ hpl
   refine ⟨.name (up_at 1 rfl ht), fun K K' hK hK' => ?_⟩
   walk_at "ws"
   refine B_len_dct rfl (sz1000 hpl) ?_
   walk_at "ws"
   refine ⟨_, rfl, fun _ => ?_, fun hc => ?_⟩
   · walk_at "ws"
     exact hK _ (sz1000 (by rw [List.length_map, List.length_take]; exact li2 hl (Nat.min_le_right i bs.length))) (by rw [take_succ_get hp, List.map_append]; rfl)
   · exfalso
     cases p with
     | nil => exact hne rfl
     | cons x p => have := of_decide_eq_false hc; simp at this
 intro D oD hD
 have e9 : bs.take (bs.map V.dct).length = bs := by rw [List.length_map, List.take_length]
 rw [e9]
 clear e9
 walk_at "up1"
 refine SX.freeze D (upd_same ..) (by walk_at "ownsub") ?_
 rw [del_upd _ _ hD]
 clear hD
 walk_at "w"
 refine S_assign_listcomp (by exact sw_of henv rfl) (by exact kd_of henv rfl) (fun _ => rfl) rfl (by decide +kernel) (by decide +kernel) (by decide +kernel) (.loc (.loc (.fn (T.f 32 rfl) (.free (by exact kd_of henv rfl) (by walk_at "mem") .nil)))) (IE_list ?_)
 walk_at "ws"
 refine (mx12 _ rfl (fun cenv => ?_))
 refine ListL_v (fun i => ((bs.take i).map leadM).map itup) (fun t => [(".0", .un), ("one", t), ("mvlead", .fn), ("order", .val (.str "lex"))]) rfl rfl ?_ ?_
 rotate_left
 · intro i v t hv ht
   refine ob12 (dctsL hv) ?_; rintro p hp rfl
   have hil := some_lt hp
   refine ob12 (leadM_of (hb p (List.mem_of_getElem? hp)).1) ?_; rintro l hl1 hl2
   refine ⟨.name (up_at 1 rfl ht), fun K hK => ?_⟩
   walk_at "ws"
   refine mvlead_ok T (by walk_at "om") rfl ?_
   rw [hl1]
   simp only [ldV]
   walk_at "ws"
   rw [← hl2]
   exact hK _ (sz1000 (by rw [List.length_map, List.length_map, List.length_take]; exact li2 hl (Nat.min_le_right i bs.length))) (by rw [take_succ_get hp, List.map_append, List.map_append]; rfl)
 intro D oD hD
 have e9 : bs.take (bs.map V.dct).length = bs := by rw [List.length_map, List.take_length]
 rw [e9]
 clear e9
 walk_at "up1"
 refine SX.freeze D (upd_same ..) (by walk_at "ownsub") ?_
 rw [del_upd _ _ hD]
 clear hD
 walk_at "w"
 with_reducible refine S_assign ?_ ?_
 · rfl
 refine E_list_own ?_
 walk_at "ws"
 refine fun R oR hR => ?_
 walk_at "up1"
 have h3 : ∀ l ∈ bs.map leadM, l.length = 3 := fun l hl => by
   refine ob12 (List.mem_map.mp hl) ?_; rintro p hp rfl
   refine ob12 (leadM_of (hb p hp).1) ?_; rintro l hl1 hl2
   rw [hl2]; exact lenIs_iff.mp (hb p hp).2.1 _ (leadE_mem hl1)
 have hml : (bs.map leadM).length = bs.length := by simp
 have hmin : minE bs = minGo bs (bs.map leadM) 0 (bs.map leadM) := rfl
 rw [hmin] at h
 clear hmin
 generalize bs.map leadM = lds at h3 hml h ⊢
 have hszl : (lds.map itup).length ≤ sizeLine := sz1000 (by rw [List.length_map]; exact li2 hl (eL hml))
 walk_at "w"
 refine S_for (fun _ => rfl) ?_
 refine IE_enum (by walk_at "mem") rfl ?_
 walk_at "ws"
 refine (mx12 _ (.inr rfl) ?_)
 refine For_k (fun i e σ' => ∃ s t u kept o, IsVar s ∧ IsVar t ∧ IsVar u ∧ upd σ R (.lst (kept.map .dct)) o = σ' ∧ kept.length ≤ i ∧ minGo bs lds 0 lds = kept ++ minGo bs lds i (lds.drop i) ∧
   e = ([("basis", .val (.lst (bs.map .dct))), ("order", .val (.str "lex")), ("found", .val (.lst (bs.map .dct))), ("leads", .val (.lst (lds.map itup))), ("kept", .val (.ref R)), ("at", s), ("powers", t), ("others", u), ("enumerate", .bi (.type "enumerate")), ("is_divided", .fn)] : Vars))
   (mx57 _ _ _ [] oR .un .un .un rfl (Nat.le_refl _) rfl rfl) ?_ ?_
 · rintro e σ' z1; refine ob57 z1 ?_; clear z1; rintro s t u kept o hs ht hu rfl hkl hmin rfl
   have : (enumV (lds.map itup)).length = lds.length := by simp [enumV]
   rw [this, List.drop_length] at hmin
   have hmin : minGo bs lds 0 lds = kept := by rw [hmin]; show kept ++ [] = kept; simp
   rw [hmin] at h
   walk_at "ws"
   exact h R o hR
 · rintro i v e σ' hv z1 K hK hR2; refine ob57 z1 ?_; clear z1; rintro s t u kept o hs ht hu rfl hkl hmin rfl
   refine ob12 (enumV_get hv) ?_; rintro y hy rfl
   rw [List.getElem?_map] at hy
   refine ob12 (Option.map_eq_some_iff.mp hy) ?_; rintro k hk rfl
   have hil := some_lt hk
   have hk3 := h3 _ (List.mem_of_getElem? hk)
   rw [drop_get hk, minGo_drop] at hmin
   refine (mx12 _ (.two (up_at 5 rfl hs) (up_at 6 rfl ht)) ?_)
   walk_at "w"
   with_reducible refine S_assign ?_ ?_
   · rfl
   refine E_bin (E_lslice (fun _ _ => rfl) ?_)
   walk_at "ws"
   show EE _ _ _ _ _ _ _
   walk_at "ws"
   refine ⟨_, rfl, _, rfl, hszl, ?_⟩
   rw [lslice_upto]
   refine E_listcompF (fun _ => rfl) rfl (by decide +kernel) (by decide +kernel) (by decide +kernel) (.loc (.loc (.free (by exact kd_of henv rfl) (by walk_at "mem") .nil))) (IE_list ?_)
   refine E_lslice (fun _ _ => rfl) ?_
   walk_at "ws"
   show EE _ _ _ _ _ _ _
   walk_at "ws"
   refine ⟨((i + 1 : Nat) : Int), by rw [Int.natCast_add]; rfl, _, rfl, hszl, ?_⟩
   rw [lslice_from]
   refine (mx12 _ rfl (fun cenv => ?_))
   rw [← List.map_drop]
   refine ListL_vif (fun j => (((lds.drop (i + 1)).take j).filter fun o => !(meq o k)).map itup) (fun t => [(".0", .un), ("one", t), ("powers", .val (itup k))]) rfl rfl ?_ ?_
   rotate_left
   · intro j v t hv ht
     rw [List.getElem?_map] at hv
     refine ob12 (Option.map_eq_some_iff.mp hv) ?_; rintro q hq rfl
     have hjl := some_lt hq
     rw [List.length_drop] at hjl
     have hfl : (((lds.drop (i + 1)).take j).filter fun o => !(meq o k)).length ≤ j := Nat.le_trans (List.length_filter_le _ _) (by rw [List.length_take]; exact li1 (Nat.min_le_left j ((List.drop (i + 1) lds).length)))
     refine ⟨.name (up_at 1 rfl ht), fun K K' hK hK' => ?_⟩
     walk_at "ws"
     refine O_neT ?_
     rw [← meq_eq]
     refine ⟨_, rfl, fun hc => ?_, fun hc => ?_⟩
     · walk_at "ws"
       refine hK _ (sz1000 (by rw [List.length_map]; exact li4 (aA hl (eL hml)) hjl hfl (sL (show (i + 1) ≤ lds.length from (li1 hil))))) ?_
       rw [take_succ_get hq, List.filter_append, List.map_append]
       simp [hc]
     · refine hK' ?_
       rw [take_succ_get hq, List.filter_append, List.map_append]
       simp [hc]
   skip
   rw [List.length_map, List.take_length, ← List.map_take]
   have hfl : ((lds.drop (i + 1)).filter fun o => !(meq o k)).length ≤ lds.length := Nat.le_trans (List.length_filter_le _ _) (by rw [List.length_drop]; exact li1 (sL (show (i + 1) ≤ lds.length from (li1 hil))))
   refine O_addL rfl rfl (sz1000' (by rw [List.length_map, List.length_map, List.length_take]; exact li4 (kM 2 hl) (kM 2 (eL hml)) hfl (Nat.min_le_right i lds.length))) ?_
   rw [← List.map_append]
   refine asg_at 7 rfl hu ?_
   walk_at "ws"
   refine is_divided_ok T (by walk_at "om") (by rw [List.length_append, List.length_take]; exact li4 (kM 2 hl) (kM 2 (eL hml)) hfl (Nat.min_le_right i lds.length)) (by exact li1 (eL hk3)) (fun x hx => ?_) ?_
   · rw [hk3]
     rcases List.mem_append.mp hx with hx | hx
     · exact h3 x (List.mem_of_mem_take hx)
     · exact h3 x (List.mem_of_mem_drop (List.mem_filter.mp hx).1)
   refine ⟨_, rfl, fun hc => ?_, fun hc => ?_⟩
   · have hc : ((lds.take i ++ (lds.drop (i + 1)).filter fun o => !(meq o k)).any fun o => mdvd o k) = false := by
       revert hc; cases ((lds.take i ++ (lds.drop (i + 1)).filter fun o => !(meq o k)).any fun o => mdvd o k) <;> simp
     rw [hc] at hmin
     walk_at "w"
     refine S_exprV (by exact ki_of henv rfl) rfl (E_methL F.plainAttrs_list F.slot_list_append F.type_list_append (fun _ => rfl) rfl rfl (fun _ => rfl) ?_)
     walk_at "ws"
     refine (mx33 R _ _ rfl (upd_same ..) ?_)
     walk_at "ws"
     have hib : i < bs.length := by exact li2 (eL hml) hil
     refine I_lst rfl (sz1000 (by rw [List.length_map]; exact li1 hl)) (seq_at (by rw [List.length_map]; exact hib)) (x := .dct (bs.getD i [])) (by rw [List.getElem?_map, List.getElem?_eq_getElem hib]; simp [List.getD_eq_getElem?_getD, hib]) ?_ (fun _ _ => rfl)
     walk_at "ws"
     refine M_append (upd_same ..) (sz1000 (by rw [List.length_map]; exact li4 hl (eL hml) hkl hil)) fun o2 => ?_
     rw [upd_upd]
     walk_at "ws"
     exact (hK _ _ (fun _ hx => (nomatch hx)) (mx57 _ _ _ (kept ++ [bs.getD i []]) o2 .val .val .val (by rw [List.map_append]; rfl) (by simp; exact li1 hkl) (by rw [hmin]; simp) rfl)).1
   · have hc : ((lds.take i ++ (lds.drop (i + 1)).filter fun o => !(meq o k)).any fun o => mdvd o k) = true := by
       revert hc; cases ((lds.take i ++ (lds.drop (i + 1)).filter fun o => !(meq o k)).any fun o => mdvd o k) <;> simp
     rw [hc] at hmin
     walk_at "ws"
     exact (hK _ _ (fun _ _ => rfl) (mx57 _ _ _ kept o .val .val .val rfl (by exact li1 hkl) hmin rfl)).1
theorem divide_rest_PB {f : Poly} {so : List Poly} {res : List Poly × Poly} (h : divideE f so = some res) (hf : PB f) : lenIs 3 res.2 = true := divideE_lenIs h hf.2.1 hf.1
theorem redGo_ok {m i : Nat} {found r : List Poly} (h : redGo (m + 1) i found = some r) : ∃ res p, divideE (found.getD i []) (found.take i ++ found.drop (i + 1)) = some res ∧ monicE res.2 = some p ∧ redGo m (i + 1) (found.set i p) = some r := by
 dsimp only [redGo] at h
 cases e : divideE (found.getD i []) (found.take i ++ found.drop (i + 1)) with
 | none => rw [e] at h; (exfalso; cases h)
 | some res =>
   obtain ⟨qs, rest⟩ := res
   rw [e] at h
   simp only [] at h
   cases e2 : monicE rest with
   | none => rw [e2] at h; (exfalso; cases h)
   | some p => rw [e2] at h; exact (mx23 _ p rfl e2 h)
theorem redGo_len : ∀ {m i : Nat} {found r : List Poly}, redGo m i found = some r → r.length = found.length
 | 0, _, _, _, h => by cases h; rfl
 | m + 1, i, found, r, h => by
   refine ob23 (redGo_ok h) ?_; rintro _ p _ _ h
   have := redGo_len h
   rw [List.length_set] at this
   exact this
theorem sortOk_mem {ks : List KI} (h : sortOk ks = true) : ∀ x ∈ sortP ks, x ∈ ks := by
 unfold sortOk at h
 simp only [Bool.and_eq_true, List.all_eq_true] at h
 intro x hx
 unfold sortP at hx
 refine ob12 (List.mem_map.mp hx) ?_; rintro i hi rfl
 have := h.2.2.2 i hi
 rw [Nat.blt_eq] at this
 exact getD_mem this
theorem keyedE_get {found : List Poly} {x : KI} (h : x ∈ keyedE found) : ∃ i : Nat, x.2 = (i : Int) ∧ i < found.length := by
 unfold keyedE at h
 obtain ⟨⟨p, i⟩, hp, rfl⟩ := List.mem_map.mp h
 have := List.mem_zipIdx_iff_getElem?.mp hp
 exact (mx12 i rfl (some_lt this))
theorem keyedE_len (found : List Poly) : (keyedE found).length = found.length := by simp [keyedE]
theorem keyed_few {found : List Poly} (h : found.length < 2) : (keyedE found).map (fun x => found.getD x.2.toNat []) = found := by
 cases found with
 | nil => rfl
 | cons p t => cases t with
   | nil => rfl
   | cons => exact absurd h (Nat.not_lt.mpr (Nat.le_add_left 2 _))
noncomputable abbrev rfV (bs : List Poly) (F : Slot) (s1 s2 : Slot) : Vars := [("basis", .val (.lst (bs.map .dct))), ("order", .val (.str "lex")), ("found", F), ("at", s1), ("keyed", s2), ("minimal_basis", .fn), ("range", .bi (.type "range")), ("len", .bi (.builtin "len")), ("mvmonic", .fn), ("rest_of", .fn), ("enumerate", .bi (.type "enumerate"))]
theorem reduced_form_ok (T : Tops C) {n : Nat} {bs r : List Poly} {σ : Sg} {Q : V → Sg → Prop} (hn : 10 ≤ n) (hl : bs.length ≤ 900) (hb : ∀ b ∈ bs, PB b) (hr : reducedE bs = some r) (h : Q (.lst (r.map .dct)) σ) :
   CallOK C n "reduced_form" [.lst (bs.map .dct), .str "lex"] σ Q := by
 obtain ⟨fin, hgo, hne, hfin⟩ : ∃ fin, redGo (minE bs).length 0 (minE bs) = some fin ∧ (∀ p ∈ fin, p ≠ []) ∧ cond (Nat.blt (keyedE fin).length 2) (some fin) (cond (sortOk (keyedE fin) && Nat.ble (sortP (keyedE fin)).length 900) (some ((sortP (keyedE fin)).map fun x => fin.getD x.2.toNat [])) none) = some r := by
   unfold reducedE at hr
   cases e : redGo (minE bs).length 0 (minE bs) with
   | none => rw [e] at hr; (exfalso; cases hr)
   | some fin =>
     rw [e] at hr
     refine ob02 (cond_some hr) ?_; rintro h1 h2
     refine (mx13 fin rfl (fun p hp => ?_) h2)
     have := List.all_eq_true.mp h1 p hp
     intro z; subst z; cases this
 have hml : (minE bs).length ≤ bs.length := by
   have key : ∀ (l : List Mon) (lds : List Mon) (i : Nat), (minGo bs lds i l).length ≤ l.length := by
     intro l
     induction l with
     | nil => intro lds i; exact Nat.le_refl _
     | cons k l ih =>
       intro lds i
       rw [minGo_drop]
       have := ih lds (i + 1)
       cases ((lds.take i ++ (lds.drop (i + 1)).filter fun o => !(meq o k)).any fun o => mdvd o k) with
       | true => exact Nat.le_succ_of_le this
       | false => exact Nat.succ_le_succ this
   have := key (bs.map leadM) (bs.map leadM) 0
   rw [List.length_map] at this
   exact this
 have hfl := redGo_len hgo
 clear hr
 refine def_ok T 62 rfl (by decide +kernel) (.parL (.parC (.locC (.locL (.locL (.fn (T.f 61 rfl) (.bi (T.b 9 rfl) (.bi (T.b 0 rfl) (.fn (T.f 33 rfl) (.fn (T.f 43 rfl) (.bi (T.b 10 rfl) .nil))))))))))) (by walk_at "om") fun env henv => ?_
 walk_at "ws"
 refine minimal_basis_own T (by walk_at "om") hl hb fun R oR hR => ?_
 generalize minE bs = mb at *
 walk_at "up1"
 walk_at "w"
 refine S_for (fun _ => rfl) ?_
 refine IE_range1 (by walk_at "mem") rfl ?_
 walk_at "ws"
 refine B_len_lst (look_own (upd_same ..)) (sz1000 (by rw [List.length_map]; exact li2 hl hml)) ?_
 walk_at "ws"
 rw [List.length_map]
 refine (mx14 _ rfl (by exact il2 (cN hl) (cN hml)) (by exact il1 (c0 mb.length)) ?_)
 rw [Int.toNat_natCast]
 refine For_k (fun i e σ' => ∃ s cur o, IsVar s ∧ upd σ R (.lst (cur.map .dct)) o = σ' ∧ cur.length = mb.length ∧ redGo (mb.length - i) i cur = some fin ∧ e = rfV bs (.val (.ref R)) s .un) (mx35 _ mb oR .un rfl rfl hgo rfl) ?_ ?_
 rotate_left
 · rintro i v e σ' hv z1 K hK hR2; refine ob35 z1 ?_; clear z1; rintro s cur o hs rfl hcl hgo rfl
   have hil := some_lt hv
   have hil : i < mb.length := by simpa [rInts] using hil
   have hv : v = .int (i : Nat) := by
     simp only [rInts, List.getElem?_map, List.getElem?_range hil, Option.map_some, Option.some.injEq] at hv
     exact hv.symm
   subst hv
   rw [show mb.length - i = (mb.length - (i + 1)) + 1 by exact Nat.le_antisymm (li2 (sA mb.length (i + 1)) (sL (show i ≤ mb.length from (li1 hil)))) (li2 (sL (show (i + 1) ≤ mb.length from (li1 hil))) (sA mb.length i))] at hgo
   refine ob23 (redGo_ok hgo) ?_; rintro res p hdiv hmon hgo
   have hsz : (cur.map V.dct).length ≤ sizeLine := sz1000 (by rw [List.length_map]; exact li3 hl hml (eL hcl))
   have hic : i < cur.length := by exact li2 (eG hcl) hil
   have hok : look (upd σ R (.lst (cur.map .dct)) o) (.ref R) = .lst (cur.map .dct) := look_own (upd_same ..)
   refine (mx12 _ (.name (up_at 3 rfl hs)) ?_)
   walk_at "w"
   refine S_setitem rfl ?_
   walk_at "ws"
   refine I_lst hok hsz (seq_at (by rw [List.length_map]; exact hic)) (x := .dct (cur.getD i [])) (by rw [List.getElem?_map, List.getElem?_eq_getElem hic]; simp [List.getD_eq_getElem?_getD, hic]) ?_ (fun _ _ => rfl)
   walk_at "w"
   refine E_bin (E_lslice (fun _ _ => rfl) ?_)
   walk_at "ws"
   show EE _ _ _ _ _ _ _
   walk_at "ws"
   refine ⟨_, rfl, _, hok, hsz, ?_⟩
   rw [lslice_upto]
   refine E_lslice (fun _ _ => rfl) ?_
   walk_at "ws"
   show EE _ _ _ _ _ _ _
   walk_at "ws"
   refine ⟨((i + 1 : Nat) : Int), by rw [Int.natCast_add]; rfl, _, hok, hsz, ?_⟩
   rw [lslice_from]
   refine O_addL rfl rfl (sz1000' (by simp only [List.length_take, List.length_drop, List.length_map]; exact li4 (aA hl hml) (eL hcl) (Nat.min_le_left i cur.length) (sL (show (i + 1) ≤ cur.length from (li2 (eG hcl) hil))))) ?_
   rw [← List.map_take, ← List.map_drop, ← List.map_append]
   walk_at "ws"
   refine rest_of_ok T (by walk_at "om") rfl hdiv ?_
   walk_at "ws"
   refine mvmonic_ok T (by walk_at "om") hmon ?_
   walk_at "ws"
   refine O_lset (upd_same ..) hsz (seq_at (by rw [List.length_map]; exact hic)) fun o2 => ?_
   rw [upd_upd, ← List.map_set]
   walk_at "ws"
   exact (hK _ _ (fun _ hx => (nomatch hx)) (mx35 _ (cur.set i p) o2 .val rfl (by rw [List.length_set]; exact hcl) hgo rfl)).1
 rintro e σ' z1; refine ob35 z1 ?_; clear z1; rintro s cur o hs rfl hcl hgo rfl
 have e1 : (rInts mb.length).length = mb.length := by simp [rInts]
 rw [e1, Nat.sub_self] at hgo
 have hgo : some cur = some fin := hgo
 cases hgo
 have hcl9 : fin.length ≤ 900 := by exact li3 hl hml (eL hfl)
 refine SX.freeze R (upd_same ..) (by walk_at "ownsub") ?_
 rw [del_upd _ _ hR]
 clear hR hcl e1 hfl
 have hsz : (fin.map V.dct).length ≤ sizeLine := sz1000 (by rw [List.length_map]; exact li1 hcl9)
 walk_at "w"
 refine S_assign_listcomp (by exact sw_of henv rfl) (by exact kd_of henv rfl) (fun _ => rfl) rfl (by decide +kernel) (by decide +kernel) (by decide +kernel) (.loc (.loc (.loc (.fn (T.f 3 rfl) (.fn (T.f 32 rfl) (.free (by exact kd_of henv rfl) (by walk_at "mem") .nil)))))) ?_
 refine IE_enum (by walk_at "mem") rfl ?_
 walk_at "ws"
 refine (mx12 _ (.inr rfl) (fun cenv => ?_))
 refine ListL_k (fun i acc e σ' => ∃ s t, IsVar s ∧ IsVar t ∧ σ = σ' ∧ acc = ((keyedE fin).take i).map kiV ∧ e = ([(".0", .un), ("at", s), ("one", t), ("order_key", .fn), ("mvlead", .fn), ("order", .val (.str "lex"))] : Vars)) (mx25 _ _ .un .un rfl rfl rfl) ?_ ?_
 rotate_left
 · rintro i v acc e σ' hv z1; refine ob25 z1 ?_; clear z1; rintro s t hs ht rfl rfl rfl
   refine ob12 (enumV_get hv) ?_; rintro y hy rfl
   refine ob12 (dctsL hy) ?_; rintro p hp rfl
   have hil := some_lt hp
   refine ob12 (leadM_of (hne p (List.mem_of_getElem? hp))) ?_; rintro l hl1 hl2
   refine (mx12 _ (.two (up_at 1 rfl hs) (up_at 2 rfl ht)) (fun K hK => ?_))
   walk_at "ws"
   refine mvlead_ok T (by walk_at "om") rfl ?_
   rw [hl1]
   simp only [ldV]
   walk_at "ws"
   refine order_ok T (by walk_at "om") ?_
   walk_at "ws"
   have hkl := keyedE_len fin
   refine hK _ _ (sz1000 (by rw [List.length_map, List.length_take]; exact li3 hcl9 hil (Nat.min_le_left i ((keyedE fin).length)))) (fun _ _ => rfl) (mx25 _ _ .val .val rfl ?_ rfl)
   have hk : (keyedE fin)[i]? = some (leadM p, (i : Int)) := by
     unfold keyedE
     rw [List.getElem?_map, List.getElem?_zipIdx, hp]
     simp
   rw [take_succ_get hk, List.map_append, hl2]; rfl
 rintro acc e σ' z1 D oD hD; refine ob25 z1 ?_; clear z1; rintro s8 t8 hs8 ht8 rfl rfl rfl
 have hkl := keyedE_len fin
 have e2 : (keyedE fin).take (enumV (fin.map V.dct)).length = keyedE fin := by
   have : (enumV (fin.map V.dct)).length = fin.length := by simp [enumV]
   rw [this, ← hkl, List.take_length]
 rw [e2]
 walk_at "up1"
 have main : ∀ (ks : List KI) (o : Obj), ks.length ≤ 900 → (∀ x ∈ ks, ∃ i : Nat, x.2 = (i : Int) ∧ i < fin.length) → ks.map (fun x => fin.getD x.2.toNat []) = r → SB C (n - 1) env (rfV bs (.val (.lst (fin.map .dct))) s (.val (.ref D)))
     (((fdef 62).map fun x => x.2.2.1.drop 4).getD []) (upd σ D (.lst (ks.map kiV)) o) fun fl x σ' => match fl with | .ret v => Q v σ' | _ => Q .none σ' := by
   intro ks o hkl hks hmap
   show SB _ _ _ _ (_ :: _) _ _
   refine SX.freeze D (upd_same ..) (by walk_at "ownsub") ?_
   rw [del_upd _ _ hD]
   walk_at "ws"
   refine E_listcompF (fun _ => rfl) rfl (by decide +kernel) (by decide +kernel) (by decide +kernel) (.loc (.loc (.loc (.free (by exact kd_of henv rfl) (by walk_at "mem") .nil)))) (IE_listT ?_)
   walk_at "ws"
   refine (mx13 _ rfl (fun x hx => ?_) (fun cenv => ?_))
   · refine ob12 (List.mem_map.mp hx) ?_; rintro y _ rfl
     exact ⟨_, rfl⟩
   refine ListL_k (fun i acc e σ' => ∃ s t, IsVar s ∧ IsVar t ∧ σ = σ' ∧ acc = ((ks.take i).map fun x => fin.getD x.2.toNat []).map .dct ∧ e = ([(".0", .un), ("place", s), ("at", t), ("found", .val (.lst (fin.map .dct)))] : Vars)) (mx25 _ _ .un .un rfl rfl rfl) ?_ ?_
   · rintro acc e σ' z1; refine ob25 z1 ?_; clear z1; rintro s t hs ht rfl rfl rfl
     rw [List.length_map, List.take_length, hmap]
     exact h
   · rintro i v acc e σ' hv z1; refine ob25 z1 ?_; clear z1; rintro s t hs ht rfl rfl rfl
     rw [List.getElem?_map] at hv
     refine ob12 (Option.map_eq_some_iff.mp hv) ?_; rintro x hx rfl
     have hil := some_lt hx
     refine ob12 (hks x (List.mem_of_getElem? hx)) ?_; rintro k hk hkc
     obtain ⟨x1, x2⟩ := x
     have hk : x2 = (k : Int) := hk
     subst hk
     refine (mx12 _ (.two (up_at 1 rfl hs) (up_at 2 rfl ht)) (fun K hK => ?_))
     walk_at "ws"
     refine I_lst rfl hsz (seq_at (by rw [List.length_map]; exact hkc)) (x := .dct (fin.getD k [])) (by rw [List.getElem?_map, List.getElem?_eq_getElem hkc]; simp [List.getD_eq_getElem?_getD, hkc]) ?_ (fun _ _ => rfl)
     refine hK _ _ (sz1000 (by rw [List.length_map, List.length_map, List.length_take]; exact li2 hkl (Nat.min_le_right i ks.length))) (fun _ _ => rfl) (mx25 _ _ .val .val rfl ?_ rfl)
     rw [take_succ_get hx, List.map_append, List.map_append]; rfl
 walk_at "w"
 refine S_exprV (by exact ki_of henv rfl) rfl (E_methL F.plainAttrs_list F.slot_list_sort F.type_list_sort (fun _ => rfl) rfl rfl (fun _ => rfl) ?_)
 walk_at "ws"
 refine (mx33 D _ _ rfl (upd_same ..) ?_)
 walk_at "ws"
 cases e3 : Nat.blt (keyedE fin).length 2 with
 | true =>
   rw [e3] at hfin
   have hlt := Nat.blt_eq.mp e3
   cases hfin
   refine M_sort1 (upd_same ..) (by rw [List.length_map]; exact hlt) fun o2 => ?_
   rw [upd_upd]
   exact main _ o2 (by exact li1 hlt) (fun x hx => keyedE_get hx) (keyed_few (by exact li2 (eG hkl) hlt))
 | false =>
   rw [e3] at hfin
   refine ob02 (cond_some hfin) ?_; rintro hs1 hs2
   cases hs2
   rw [Bool.and_eq_true] at hs1
   refine M_sort (upd_same ..) hs1.1 fun o2 => ?_
   rw [upd_upd]
   exact main _ o2 (Nat.le_of_ble_eq_true hs1.2) (fun x hx => keyedE_get (sortOk_mem hs1.1 x hx)) rfl
theorem basisE_ok {a b : Poly} {r : List Poly} (h : basisE a b = some r) : ∃ a' b' g, monicE a = some a' ∧ monicE b = some b' ∧ groebE 200 60 [a', b'] [leadM a', leadM b'] [(0, 1)] 0 = some g ∧ reducedE g = some r := by
 unfold basisE at h
 cases e1 : monicE a with
 | none => rw [e1] at h; (exfalso; cases h)
 | some a' =>
 cases e2 : monicE b with
 | none => rw [e1, e2] at h; (exfalso; cases h)
 | some b' =>
 rw [e1, e2] at h
 simp only [] at h
 cases e3 : groebE 200 60 [a', b'] [leadM a', leadM b'] [(0, 1)] 0 with
 | none => rw [e3] at h; (exfalso; cases h)
 | some g => rw [e3] at h; exact (mx34 a' b' g rfl rfl e3 h)
theorem reduced_basis_ok (T : Tops C) {n : Nat} {f s : Poly} {r : List Poly} {σ : Sg} {Q : V → Sg → Prop} (hn : 11 ≤ n) (hf : f ≠ []) (hs : s ≠ []) (hfl : f.length ≤ 1000) (hsl : s.length ≤ 1000) (hf3 : lenIs 3 f = true) (hs3 : lenIs 3 s = true)
   (hr : basisE f s = some r) (h : Q (.lst (r.map .dct)) σ) : CallOK C n "reduced_basis" [.lst ([f, s].map .dct), .str "lex", .int 200] σ Q := by
 refine ob34 (basisE_ok hr) ?_; rintro a b g ha hb hg hred
 have hinv := groebE_inv hg fun x hx => by
   rcases List.mem_cons.mp hx with rfl | hx
   · exact monicE_PB ha hf hf3
   · rw [List.mem_singleton.mp hx]; exact monicE_PB hb hs hs3
 refine def_ok T 63 rfl (by decide +kernel) (.parL (.parL (.parL (.fn (T.f 62 rfl) (.fn (T.f 60 rfl) .nil))))) (by walk_at "om") fun env henv => ?_
 walk_at "ws"
 refine groebner_ok T (most := 200) (by walk_at "om") hf hs hfl hsl hf3 hs3 ha hb hg ?_
 walk_at "ws"
 refine reduced_form_ok T (by walk_at "om") (by have := hinv.2; simp at this; exact li1 this) hinv.1 hred ?_
 exact h
theorem is_free_of_ok (T : Tops C) {n : Nat} {a : Poly} {σ : Sg} {Q : V → Sg → Prop} (hn : 1 ≤ n) (hl : a.length ≤ 2000000) (h3 : lenIs 3 a = true) (h : Q (.bool (freeE a)) σ) : CallOK C n "is_free_of" [.dct a, .int 1] σ Q := by
 have h3 := lenIs_iff.mp h3
 refine def_ok T 65 rfl (by decide +kernel) (.parL (.parC (.bi (T.b 5 rfl) .nil))) (by walk_at "om") fun env henv => ?_
 walk_at "ws"
 refine E_listcompF (fun _ => rfl) rfl (by decide +kernel) (by decide +kernel) (by decide +kernel) (.loc (.loc (.bi (T.b 4 rfl) (.free (by exact kd_of henv rfl) (by walk_at "mem") .nil)))) (IE_dct ?_)
 walk_at "ws"
 refine (mx12 a rfl (fun cenv => ?_))
 refine ListL_v (fun i => ((a.take i).map fun x => ieq (x.1.take 1).sum 0).map .bool) (fun s => [(".0", .un), ("powers", s), ("sum", .bi (.builtin "sum")), ("many", .val (.int 1))]) rfl rfl ?_ ?_
 · skip
   rw [List.length_map, List.take_length]
   walk_at "ws"
   refine B_allL rfl ?_
   have : ((a.map fun x => ieq (x.1.take 1).sum 0).all id) = freeE a := by rw [List.all_map]; rfl
   rw [this]
   exact h
 · intro i v s hv hs
   refine ob22 (keysL hv) ?_; rintro k x hk rfl
   have hkl : k.length = 3 := h3 _ (List.mem_of_getElem? hk)
   have hil := some_lt hk
   refine ⟨.name (up_at 1 rfl hs), fun K hK => ?_⟩
   walk_at "ws"
   refine E_tupto (fun _ _ => rfl) ?_
   walk_at "ws"
   refine (mx25 (k.map .int) 1 rfl rfl (by rw [List.length_map]; exact li1 (eG hkl)) (sz1000 (by rw [List.length_map]; exact li1 (eL hkl))) ?_)
   rw [← List.map_take]
   walk_at "ws"
   refine B_sumT (ks := k.take 1) ?_
   walk_at "ws"
   rw [Bool.beq_eq_decide_eq, ← ieq_eq]
   exact hK _ (by rw [sizeLine_eq]; simp only [List.length_map, List.length_take]; exact li2 hl (Nat.min_le_right i (List.length a))) (by rw [take_succ_get hk, List.map_append, List.map_append]; rfl)
theorem eliminate_ok (T : Tops C) {n : Nat} {f s : Poly} {r : List Poly} {σ : Sg} {Q : V → Sg → Prop} (hn : 12 ≤ n) (hf : f ≠ []) (hs : s ≠ []) (hfl : f.length ≤ 1000) (hsl : s.length ≤ 1000) (hf3 : lenIs 3 f = true) (hs3 : lenIs 3 s = true)
   (hr : basisE f s = some r) (hrl : r.length ≤ 1000) (hr3 : ∀ p ∈ r, okP p = true ∧ lenIs 3 p = true) (h : Q (.lst ((r.filter freeE).map .dct)) σ) : CallOK C n "eliminate" [.lst ([f, s].map .dct), .int 1, .int 200] σ Q := by
 refine def_ok T 66 rfl (by decide +kernel) (.parL (.parC (.parL (.fn (T.f 63 rfl) .nil)))) (by walk_at "om") fun env henv => ?_
 walk_at "ws"
 refine E_listcompF (fun _ => rfl) rfl (by decide +kernel) (by decide +kernel) (by decide +kernel) (.loc (.loc (.fn (T.f 65 rfl) (.free (by exact kd_of henv rfl) (by walk_at "mem") .nil)))) (IE_list ?_)
 walk_at "ws"
 refine reduced_basis_ok T (by walk_at "om") hf hs hfl hsl hf3 hs3 hr ?_
 refine (mx12 _ rfl (fun cenv => ?_))
 refine ListL_vif (fun i => ((r.take i).filter freeE).map .dct) (fun s => [(".0", .un), ("one", s), ("is_free_of", .fn), ("many", .val (.int 1))]) rfl rfl ?_ ?_
 · skip
   rw [List.length_map, List.take_length]
   exact h
 · intro i v s hv hs
   refine ob12 (dctsL hv) ?_; rintro p hp rfl
   have hil := some_lt hp
   refine ob02 (hr3 p (List.mem_of_getElem? hp)) ?_; rintro hpo hp3
   have hfl : ((r.take i).filter freeE).length ≤ i := Nat.le_trans (List.length_filter_le _ _) (by rw [List.length_take]; exact li1 (Nat.min_le_left i r.length))
   refine ⟨.name (up_at 1 rfl hs), fun K K' hK hK' => ?_⟩
   walk_at "ws"
   refine is_free_of_ok T (by walk_at "om") (by have := (okP_iff.mp hpo).1; exact li1 this) hp3 ?_
   refine ⟨_, rfl, fun hc => ?_, fun hc => ?_⟩
   · walk_at "ws"
     refine hK _ (sz1000 (by rw [List.length_map]; exact li3 hrl hil hfl)) ?_
     rw [take_succ_get hp, List.filter_append, List.map_append]
     simp [hc]
   · refine hK' ?_
     rw [take_succ_get hp, List.filter_append, List.map_append]
     simp [hc]
theorem mvletter_ok (T : Tops C) {n : Nat} {σ : Sg} {Q : V → Sg → Prop} (hn : 1 ≤ n) (h : Q (.dct [([1, 0, 0], eone)]) σ) : CallOK C n "mvletter" [.int 0, .int 3] σ Q := by
 refine def_ok T 24 rfl (by decide +kernel) (.parC (.parL (.bi (T.b 6 rfl) (.bi (T.b 9 rfl) (.con T.r1 .nil))))) (by walk_at "om") fun env henv => ?_
 walk_at "w"
 walk_at "w"
 refine EV.frz (E_dict1 ?_)
 walk_at "ws"
 refine E_listcompF (fun _ => rfl) rfl (by decide +kernel) (by decide +kernel) (by decide +kernel) (.loc (.loc (.free (by exact kd_of henv rfl) (by walk_at "mem") .nil))) ?_
 refine IE_range1 (by walk_at "mem") rfl ?_
 walk_at "ws"
 refine (mx14 3 rfl (by decide) (by decide) (fun cenv => ?_))
 refine ListL_k (fun i acc e σ' => ∃ s, IsVar s ∧ σ = σ' ∧ i ≤ 3 ∧ acc = (([1, 0, 0] : Mon).take i).map .int ∧ e = ([(".0", .un), ("spot", s), ("at", .val (.int 0))] : Vars)) (mx15 _ .un rfl (by decide) rfl rfl) ?_ ?_
 · rintro acc e σ' z1; refine ob15 z1 ?_; clear z1; rintro s hs rfl _ rfl rfl
   walk_at "ws"
   refine T_tuple rfl (sz1000 (by decide)) ?_
   refine (mx12 ([1, 0, 0]) rfl ?_)
   walk_at "ws"
   refine (mx12 _ rfl (fun D o hD => .inr ⟨D, _, o, rfl, upd_same .., ?_⟩))
   rw [del_upd _ _ hD]
   exact h
 · rintro i v acc e σ' hv z1; refine ob15 z1 ?_; clear z1; rintro s hs rfl hi rfl rfl
   have hil := some_lt hv
   have hil : i < 3 := by simpa [rInts] using hil
   have hv : v = .int (i : Nat) := by
     have e3 : (3 : Int).toNat = 3 := rfl
     simp only [rInts, e3, List.getElem?_map, List.getElem?_range hil, Option.map_some, Option.some.injEq] at hv
     exact hv.symm
   subst hv
   refine (mx12 _ (.name (up_at 1 rfl hs)) (fun K hK => ?_))
   walk_at "ws"
   have hz : ∀ v, (v = if i = 0 then V.int 1 else .int 0) → K v σ := fun v hv => by
     refine hK _ _ (sz1000 (by simp; exact li1 (Nat.min_le_right i 3))) (fun _ hx => (nomatch hx)) (mx15 _ .val rfl hil ?_ rfl)
     subst hv
     exact lt3 hil rfl rfl rfl
   refine ⟨_, rfl, fun hc => ?_, fun hc => ?_⟩
   · walk_at "ws"
     have := eq_of_beq hc
     exact hz _ (by rw [if_pos (by exact Nat.le_antisymm (nC (il1 (iL this))) li0)])
   · walk_at "ws"
     refine hz _ (by rw [if_neg]; rintro rfl; exact absurd hc (by decide))
section
variable {n : Nat} {env : Env} {e ec : Vars} {σ : Sg}
theorem S_assign3 {x px y py z pz k tp value pos} {Q : Fl → Vars → Sg → Prop}
   (hs : swapsWithSole [.Tuple [.Name x px, .Name y py, .Name z pz] k tp] value pos.line env = pure false)
   (hw : swappedStores [.Tuple [.Name x px, .Name y py, .Name z pz] k tp] value env = pure (some [x, y, z]))
   (h : EE C n env e value σ fun v σ₁ => ∃ a b c e₁ e₂ e', v = .tup [a, b, c] ∧ Up e z c e₁ ∧ Up e₁ y b e₂ ∧ Up e₂ x a e' ∧ Q .next e' σ₁) :
   SS C n env e (.Assign [.Tuple [.Name x px, .Name y py, .Name z pz] k tp] value pos) σ Q := fun A g s R S F => by
 refine PyProof.Rows.Assign_Tuple_swapped (wpAny_mono (h A g s R S F) ?_ fun _ _ x => x) hs hw
 rintro u s₁ ⟨g₁, v, σ₁, X₁, S₁, V, a, b, c, e₁, e₂, e', rfl, h1, h2, h3, q⟩
 refine ob23 (is_tup S₁ V) ?_; rintro t items rfl ht Vs
 refine ob34 Vs.three ?_; rintro ua ub uc hit Va Vb Vc
 have hsz : items.size = 3 := by rw [← Array.length_toList, hit]; rfl
 show wpAny _ A (unpackItems (.ref t) 3 none) _ _ _
 rw [← hsz]
 refine unpackItems_tuple R.handled ht fun h' hx => ?_
 rw [hit]
 have hfresh : ∀ b o, s₁.heap.get? b = some o → h'.get? b = some o := fun b o q => hx b o (Nat.ne_of_lt (Heap.lt_size q)) q
 have S' : SR C g₁ σ₁ h' := S₁.grow (.refl _) hfresh fun a o q => .inl q
 have X' : Ext g₁ σ₁ s₁ g₁ σ₁ { s₁ with heap := h' } := ⟨.refl _, fun a o q _ => hfresh a o q, fun a o q => ⟨o, hfresh a o q⟩, fun _ _ _ q => q, fun _ _ _ _ q => q, rfl, rfl⟩
 have F' : FR C env e g₁ σ₁ h' := F.ext (X₁.trans X')
 show wpAny _ A (do holding [ub, ua] (bindName env z uc); holding [ua] (bindName env y ub); holding [] (bindName env x ua); pure ()) _ _ _
 refine wpAny_bind (wpAny_holding (wpAny_bindName (store_ (s := { s₁ with heap := h' }) S' F' Vc h1 fun s₂ X₂ S₂ F₂ => ?_)))
 refine wpAny_bind (wpAny_holding (wpAny_bindName (store_ S₂ F₂ Vb h2 fun s₃ X₃ S₃ F₃ => ?_)))
 refine wpAny_bind (wpAny_holding (wpAny_bindName (store_ S₃ F₃ Va h3 fun s₄ X₄ S₄ F₄ => wpAny_pure ?_)))
 exact ⟨g₁, .next, e', σ₁, ((((X₁.trans X').toF _).trans X₂).trans X₃).trans X₄, S₄, F₄, .next, q⟩
theorem SX.ndv {t : Sem Flow} {Q : Fl → Vars → Sg → Prop} {x : Str} {p : Poly} (hx : (x, .val (.dct p)) ∈ e) (h : Nd p → SX C n env e t σ Q) : SX C n env e t σ Q := fun A g s R S F => by
 have : Nd p := by
   refine ob12 F.ns ?_; rintro m hn hv
   have key : ∀ u, VR g (.dct p) u → Nd p := fun u V => V.cd fun _ _ _ _ hd => hd.nodup
   rcases F.kinds x _ hx with hl | ⟨hc, c, hcl⟩
   · refine ob12 ((hv x _ hx).1 hl) ?_; rintro u _ V; exact key u V
   · refine ob12 ((hv x _ hx).2 c hc hcl) ?_; rintro u _ V; exact key u V
 exact h this A g s R S F
theorem Op2.nd {f : Value → Value → Sem Value} {a : V} {q : Poly} {Q : V → Sg → Prop} (h : Nd q → Op2 C n f a (.dct q) σ Q) : Op2 C n f a (.dct q) σ Q := fun A g s u v R S Va Vb => by
 have : Nd q := Vb.cd fun _ _ _ _ hd => hd.nodup
 exact h this A g s u v R S Va Vb
end
theorem E_dict0F {n : Nat} {env : Env} {e : Vars} {σ : Sg} {Q : V → Sg → Prop} {pos : Pos} (h : Q (.dct []) σ) : EE C n env e (.Dict [] [] pos) σ Q :=
 EV.frz (E_dict0 fun D o hD => .inr (mx33 D _ o rfl (upd_same ..) (by rw [del_upd _ _ hD]; exact h)))
theorem meetE_ok {a b : Poly} {r : List Poly} (h : meetE a b = some r) : ∃ f s g, mulE (widenE a) [([1, 0, 0], eone)] = some f ∧ mulE (widenE b) [([0, 0, 0], eone), ([1, 0, 0], qint (-1))] = some s ∧ f ≠ [] ∧ s ≠ [] ∧ okP a = true ∧ okP b = true ∧ okP f = true ∧ okP s = true ∧ lenIs 3 f = true ∧ lenIs 3 s = true ∧
   basisE f s = some g ∧ g.length ≤ 1000 ∧ (∀ p ∈ g, okP p = true ∧ lenIs 3 p = true) ∧ r = (g.filter freeE).map narrowE := by
 refine ob12 (mb (mulE (widenE a) [([1, 0, 0], eone)]) h) ?_; rintro f e1 h
 refine ob12 (mb (mulE (widenE b) [([0, 0, 0], eone), ([1, 0, 0], qint (-1))]) h) ?_; rintro s e2 h
 rcases cd h with ⟨e3, h⟩ | ⟨e3, h⟩
 · cases h
 simp only [Bool.or_eq_false_iff, Bool.not_eq_false', Bool.and_eq_true] at e3
 refine ob12 (mb (basisE f s) h) ?_; rintro g e4 h
 refine ob02 (cond_some h) ?_; rintro h5 h6
 rw [Bool.and_eq_true, List.all_eq_true] at h5
 refine (mx38 f s g e1 e2 ?_ ?_ e3.2.1.1.1.1.1 e3.2.1.1.1.1.2 e3.2.1.1.1.2 (mx07 e3.2.1.1.2 e3.2.1.2 e3.2.2 e4 (Nat.le_of_ble_eq_true h5.1) (fun p hp => ?_) ((Option.some.inj h6).symm)))
 · rintro rfl; exact absurd e3.1.1 (by decide)
 · rintro rfl; exact absurd e3.1.2 (by decide)
 · have := h5.2 p hp; rwa [Bool.and_eq_true] at this
theorem second_eq : subE [(List.replicate 3 0, eone)] [([1, 0, 0], eone)] = some [([0, 0, 0], eone), ([1, 0, 0], qint (-1))] := by decide +kernel
theorem one_get {α : Type} {x : α} {i : Nat} {v : α} (h : [x][i]? = some v) : i = 0 ∧ v = x := by
 match i with
 | 0 => exact ⟨rfl, (Option.some.inj h).symm⟩
 | i + 1 => simp at h
theorem meet_of_ok (T : Tops C) {n : Nat} {a b : Poly} {r : List Poly} {σ : Sg} {Q : V → Sg → Prop} (hn : 13 ≤ n) (hr : meetE a b = some r) (h : Q (.lst (r.map .dct)) σ) :
   CallOK C n "meet_of" [.lst [.dct a], .lst [.dct b], .int 2, .int 200] σ Q := by
 refine ob38 (meetE_ok hr) ?_; rintro f s g hf hs hfn hsn oka okb okf z1; refine ob07 z1 ?_; clear z1; rintro oks lf ls hg hgl hgp rfl
 refine def_ok T 67 rfl (by decide +kernel) (.parL (.parL (.parL (.parL (.locC (.locC (.locL (.fn (T.f 24 rfl) (.fn (T.f 28 rfl) (.fn (T.f 23 rfl) (.con T.r1 (.fn (T.f 66 rfl) .nil)))))))))))) (by walk_at "om") fun env henv => ?_
 walk_at "w"
 with_reducible refine S_assign ?_ ?_
 · rfl
 walk_at "ws"
 refine mvletter_ok T (by walk_at "om") ?_
 walk_at "up1"
 walk_at "w"
 with_reducible refine S_assign ?_ ?_
 · rfl
 walk_at "ws"
 refine mvnumber_ok T (m := 3) (by walk_at "om") (by decide) eone_ne ?_
 walk_at "ws"
 refine mvsub_ok T (by walk_at "om") second_eq (by decide) ?_
 walk_at "up1"
 walk_at "w"
 refine S_assign_listcomp (by exact sw_of henv rfl) (by exact kd_of henv rfl) (fun _ => rfl) rfl (by decide +kernel) (by decide +kernel) (by decide +kernel) (.loc (.loc (.fn (T.f 31 rfl) (.fn (T.f 38 rfl) (.free (by exact kd_of henv rfl) (by walk_at "mem") .nil))))) (IE_list ?_)
 walk_at "ws"
 refine (mx12 _ rfl (fun cenv => ?_))
 refine ListL_v (fun i => ([f].take i).map .dct) (fun t => [(".0", .un), ("one", t), ("mvmul", .fn), ("mvwiden", .fn), ("first", .val (.dct [([1, 0, 0], eone)]))]) rfl rfl ?_ ?_
 rotate_left
 · intro i v t hv ht
   refine ob02 (one_get hv) ?_; rintro rfl rfl
   refine ⟨.name (up_at 1 rfl ht), fun K hK => ?_⟩
   walk_at "ws"
   refine mvwiden_ok T (by walk_at "om") oka ?_
   walk_at "ws"
   refine mvmul_ok T (by walk_at "om") hf ?_
   exact hK _ (sz1000 (by simp)) rfl
 intro M oM hM
 walk_at "up1"
 walk_at "w"
 refine S_exprV (by exact ki_of henv rfl) rfl (E_methL F.plainAttrs_list F.slot_list_extend F.type_list_extend (fun _ => rfl) rfl rfl (fun _ => rfl) ?_)
 walk_at "ws"
 refine (mx33 M _ _ rfl (upd_same ..) ?_)
 walk_at "w"
 refine E_listcomp (fun _ => rfl) rfl (by decide +kernel) (by decide +kernel) (by decide +kernel) (.loc (.loc (.fn (T.f 31 rfl) (.fn (T.f 38 rfl) (.free (by exact kd_of henv rfl) (by walk_at "mem") .nil))))) (IE_list ?_)
 walk_at "ws"
 refine (mx12 _ rfl (fun cenv => ?_))
 refine ListL_v (fun i => ([s].take i).map .dct) (fun t => [(".0", .un), ("one", t), ("mvmul", .fn), ("mvwiden", .fn), ("second", .val (.dct [([0, 0, 0], eone), ([1, 0, 0], qint (-1))]))]) rfl rfl ?_ ?_
 rotate_left
 · intro i v t hv ht
   refine ob02 (one_get hv) ?_; rintro rfl rfl
   refine ⟨.name (up_at 1 rfl ht), fun K hK => ?_⟩
   walk_at "ws"
   refine mvwiden_ok T (by walk_at "om") okb ?_
   walk_at "ws"
   refine mvmul_ok T (by walk_at "om") hs ?_
   exact hK _ (sz1000 (by simp)) rfl
 intro D oD hD
 have hDM : D ≠ M := by rintro rfl; rw [upd_same] at hD; cases hD
 walk_at "ws"
 refine M_extend (xs := [.dct f]) (by rw [upd_ne _ _ _ (Ne.symm hDM)]; exact upd_same ..) (upd_same ..) (by rw [sizeLine_eq]; simp) fun oM2 => ?_
 refine SX.drop D (by rw [upd_ne _ _ _ hDM]; exact upd_same ..) ?_
 rw [del_upd_ne _ (Ne.symm hDM), del_upd _ _ hD, upd_upd]
 refine SX.freeze M (upd_same ..) (by walk_at "ownsub") ?_
 rw [del_upd _ _ hM]
 clear hD hM hDM
 walk_at "ws"
 refine E_listcompF (fun _ => rfl) rfl (by decide +kernel) (by decide +kernel) (by decide +kernel) (.loc (.loc (.fn (T.f 39 rfl) .nil))) (IE_list ?_)
 walk_at "ws"
 refine eliminate_ok T (f := f) (s := s) (by walk_at "om") hfn hsn (okP_iff.mp okf).1 (okP_iff.mp oks).1 lf ls hg hgl hgp ?_
 refine (mx12 _ rfl (fun cenv => ?_))
 have hgf : ∀ p ∈ g.filter freeE, okP p = true := fun p hp => (hgp p (List.mem_filter.mp hp).1).1
 have hgfl : (g.filter freeE).length ≤ 1000 := Nat.le_trans (List.length_filter_le _ _) hgl
 generalize g.filter freeE = gf at *
 refine ListL_v (fun i => ((gf.take i).map narrowE).map .dct) (fun t => [(".0", .un), ("one", t), ("mvnarrow", .fn)]) rfl rfl ?_ ?_
 · skip
   rw [List.length_map, List.take_length]
   exact h
 · intro i v t hv ht
   refine ob12 (dctsL hv) ?_; rintro p hp rfl
   have hil := some_lt hp
   refine ⟨.name (up_at 1 rfl ht), fun K hK => ?_⟩
   walk_at "ws"
   refine mvnarrow_ok T (by walk_at "om") (hgf p (List.mem_of_getElem? hp)) ?_
   exact hK _ (sz1000 (by rw [List.length_map, List.length_map, List.length_take]; exact li2 hgfl (Nat.min_le_right i gf.length))) (by rw [take_succ_get hp, List.map_append, List.map_append]; rfl)
noncomputable def BoxAt (B L : Addr) (c : Nat) (σ : Sg) : Prop := ∃ (ks : List Int) (s : Int) (o o' : Obj), σ B = some (.lst [.ref L, .int (c : Nat), .int s], o) ∧ σ L = some (.lst (ks.map .int), o') ∧ B ≠ L ∧ ks.length ≤ 100
noncomputable def Beside (B L : Addr) (σ σ' : Sg) : Prop := ∀ a, a ≠ B → a ≠ L → σ' a = σ a
theorem Beside.refl (B L : Addr) (σ : Sg) : Beside B L σ σ := fun _ _ _ => rfl
theorem Beside.trans {B L : Addr} {a b c : Sg} (h : Beside B L a b) (k : Beside B L b c) : Beside B L a c := fun x h1 h2 => (k x h1 h2).trans (h x h1 h2)
theorem law_take_ok (T : Tops C) {n : Nat} {B L : Addr} {c : Nat} {w : Int} {σ : Sg} {Q : V → Sg → Prop} (hn : 1 ≤ n) (hB : BoxAt B L c σ) (hc : c ≤ 1000) (hw : 0 < w)
   (h : ∀ v σ', 0 ≤ v → v < w → BoxAt B L (c + 1) σ' → Beside B L σ σ' → Q (.int v) σ') : CallOK C n "_law_take" [.ref B, .int w] σ Q := by
 refine ob44 hB ?_; clear hB; rintro ks s o o' hb hl hne hks
 have hmod : ∀ x : Int, 0 ≤ x.fmod w ∧ x.fmod w < w := fun x => ⟨Int.fmod_nonneg_of_pos _ hw, Int.fmod_lt_of_pos _ hw⟩
 refine def_ok T 69 rfl (by decide +kernel) (.parL (.parL (.bi (T.b 0 rfl) (.bi (T.b 1 rfl) .nil)))) (by walk_at "om") fun env henv => ?_
 walk_at "w"
 refine S_setitem rfl ?_
 walk_at "ws"
 refine I_lst (look_own hb) (sz1000 (by simp)) (seq_at (i := 1) (by simp)) (x := .int c) rfl ?_ (fun _ _ => rfl)
 walk_at "ws"
 have e1 : (c : Int) + 1 = ((c + 1 : Nat) : Int) := by exact Int.le_antisymm il0 il0
 rw [e1]
 refine O_lset hb (sz1000 (by simp)) (seq_at (i := 1) (by simp)) fun o2 => ?_
 have hb2 : upd σ B (.lst [.ref L, .int (c + 1 : Nat), .int s]) o2 B = some (.lst [.ref L, .int (c + 1 : Nat), .int s], o2) := upd_same ..
 have hl2 : upd σ B (.lst [.ref L, .int (c + 1 : Nat), .int s]) o2 L = some (.lst (ks.map .int), o') := by rw [upd_ne _ _ _ (Ne.symm hne)]; exact hl
 have hbes : Beside B L σ (upd σ B (.lst [.ref L, .int (c + 1 : Nat), .int s]) o2) := fun a h1 _ => upd_ne _ _ _ h1
 show SB _ _ _ _ _ (upd σ B (.lst [.ref L, .int (c + 1 : Nat), .int s]) o2) _
 generalize upd σ B (.lst [.ref L, .int (c + 1 : Nat), .int s]) o2 = σ1 at hb2 hl2 hbes ⊢
 walk_at "ws"
 refine I_lst (look_own hb2) (sz1000 (by simp)) (seq_at (i := 0) (by simp)) (x := .ref L) rfl ?_ (fun _ _ => rfl)
 walk_at "ws"
 refine B_len_lst (look_own hl2) (sz1000 (by rw [List.length_map]; exact li1 hks)) ?_
 walk_at "ws"
 refine ⟨_, rfl, fun hc => ?_, fun hc => ?_⟩
 · cases ks with
   | nil => exact absurd hc (by decide)
   | cons k ks =>
     walk_at "ws"
     refine E_methL F.plainAttrs_list F.slot_list_pop F.type_list_pop (fun _ => rfl) rfl rfl (fun _ => rfl) ?_
     walk_at "ws"
     refine I_lst (look_own hb2) (sz1000 (by simp)) (seq_at (i := 0) (by simp)) (x := .ref L) rfl ?_ (fun _ _ => rfl)
     refine (mx33 L _ _ rfl hl2 ?_)
     walk_at "ws"
     refine M_pop0 hl2 (sz1000 (by simp at hks; rw [List.length_map]; exact li1 hks)) fun o3 => ?_
     walk_at "ws"
     refine O_mod (by exact Int.ne_of_gt (il1 hw)) ?_
     refine h _ _ (hmod _).1 (hmod _).2 ⟨ks, s, o2, o3, by rw [upd_ne _ _ _ hne]; exact hb2, upd_same .., hne, by simp at hks; exact li1 hks⟩ fun a h1 h2 => by rw [upd_ne _ _ _ h2]; exact hbes a h1 h2
 · walk_at "ws"
   refine I_lst (look_own hb2) (sz1000 (by simp)) (seq_at (i := 1) (by simp)) (x := .int (c + 1 : Nat)) rfl ?_ (fun _ _ => rfl)
   walk_at "ws"
   refine O_mul (.inl ⟨by decide, by decide⟩) ?_
   walk_at "ws"
   refine I_lst (look_own hb2) (sz1000 (by simp)) (seq_at (i := 1) (by simp)) (x := .int (c + 1 : Nat)) rfl ?_ (fun _ _ => rfl)
   walk_at "ws"
   refine I_lst (look_own hb2) (sz1000 (by simp)) (seq_at (i := 1) (by simp)) (x := .int (c + 1 : Nat)) rfl ?_ (fun _ _ => rfl)
   refine O_mul (.inl ⟨by exact il1 (c0 c), by omega⟩) ?_
   walk_at "ws"
   refine O_div (by decide) (by decide) ?_
   walk_at "ws"
   refine I_lst (look_own hb2) (sz1000 (by simp)) (seq_at (i := 2) (by simp)) (x := .int s) rfl ?_ (fun _ _ => rfl)
   walk_at "ws"
   refine O_mod (by exact Int.ne_of_gt (il1 hw)) ?_
   exact h _ _ (hmod _).1 (hmod _).2 ⟨ks, s, o2, o', hb2, hl2, hne, hks⟩ hbes
theorem law_line_ok (T : Tops C) {n : Nat} {B L : Addr} {c : Nat} {σ : Sg} {Q : V → Sg → Prop} (hn : 2 ≤ n) (hB : BoxAt B L c σ) (hc : c ≤ 900)
   (h : ∀ (i : Nat) (d : Int) σ', i < 2 → -2 ≤ d → d ≤ 2 → BoxAt B L (c + 2) σ' → Beside B L σ σ' → Q (.dct (lineE i d)) σ') : CallOK C n "_law_line" [.ref B] σ Q := by
 refine CallOK.frz ?_
 refine def_ok T 70 rfl (by decide +kernel) (.parL (.locL (.locL (.locL (.fn (T.f 69 rfl) .nil))))) (by walk_at "om") fun env henv => ?_
 walk_at "w"
 with_reducible refine S_two ?_ ?_
 · decide +kernel
 walk_at "w"
 walk_at "w"
 refine E_list ?_
 walk_at "ws"
 refine law_take_ok T (by walk_at "om") hB (by exact li1 hc) (by decide) fun v σ1 hv0 hv1 hB1 hbes1 => ?_
 obtain ⟨i, rfl⟩ : ∃ i : Nat, v = i := ⟨v.toNat, by exact Int.le_antisymm (il1 (tG v)) (il1 (tL (show 0 ≤ v from (il1 hv0))))⟩
 have hi : i < 2 := by exact nD (il1 hv1)
 refine I_lst (xs := [itup [1, 0], itup [0, 1]]) rfl (sz1000 (by simp)) (seq_at (i := i) (by simpa using hi)) (x := itup (cond (Nat.beq i 0) [1, 0] [0, 1])) ?_ ?_ (fun _ _ => rfl)
 · exact lt2 hi rfl rfl
 walk_at "ws"
 refine law_take_ok T (by walk_at "om") hB1 (by exact li1 hc) (by decide) fun v σ2 hv0' hv1' hB2 hbes2 => ?_
 walk_at "ws"
 walk_at "up2"
 walk_at "w"
 with_reducible refine S_assign ?_ ?_
 · rfl
 refine E_dict1 ?_
 walk_at "ws"
 refine (mx12 _ rfl ?_)
 walk_at "ws"
 refine (mx12 eone rfl (fun D oD hD => ?_))
 walk_at "up1"
 walk_at "ws"
 have hbox : ∀ v o, BoxAt B L (c + 2) (upd σ2 D v o) := fun v o => by
   refine ob43 hB2 ?_; clear hB2; rintro ks s o1 o2 h1 h2 h3
   refine ⟨ks, s, o1, o2, (by rw [upd_ne]; exact h1; rintro rfl; rw [h1] at hD; cases hD), (by rw [upd_ne]; exact h2; rintro rfl; rw [h2] at hD; cases hD), h3⟩
 refine ⟨_, rfl, fun hc => ?_, fun hc => ?_⟩
 · have hne : v - 2 ≠ 0 := by simpa using hc
   walk_at "w"
   refine S_setitem rfl ?_
   walk_at "ws"
   refine O_set (k := [0, 0]) (r := qint (v - 2)) (upd_same ..) (sz1000 (by simp)) fun o' => ?_
   rw [upd_upd]
   walk_at "ws"
   refine .inr (mx33 D _ _ rfl (upd_same ..) ?_)
   rw [del_upd _ _ hD]
   have e : dput [(cond (Nat.beq i 0) [1, 0] [0, 1], eone)] [0, 0] (qint (v - 2)) = lineE i (v - 2) := by
     have e2 : lineE i (v - 2) = [(cond (Nat.beq i 0) [1, 0] [0, 1], eone)] ++ [([0, 0], qint (v - 2))] := by
       unfold lineE; rw [ieq_eq, decide_eq_false hne]; rfl
     rw [e2, dput_new]
     exact lt2 hi (by decide) (by decide)
   rw [e]
   exact h i (v - 2) σ2 hi (by exact il1 hv0') (by exact il1 hv1') hB2 (hbes1.trans hbes2)
 · have hz : v - 2 = 0 := by simpa using hc
   walk_at "ws"
   refine .inr (mx33 D _ _ rfl (upd_same ..) ?_)
   rw [del_upd _ _ hD]
   have e : [(cond (Nat.beq i 0) [1, 0] [0, 1], eone)] = lineE i (v - 2) := by
     unfold lineE; rw [ieq_eq, decide_eq_true hz]; rfl
   rw [e]
   exact h i (v - 2) σ2 hi (by exact il1 (iG hz)) (by exact il1 (iL hz)) hB2 (hbes1.trans hbes2)
noncomputable def rowOk (x : Int × Int) : Prop := -1 ≤ x.1 ∧ x.1 ≤ 1 ∧ -1 ≤ x.2 ∧ x.2 ≤ 1
noncomputable def rowP (x : Int × Int) : Poly := rowE x.1 x.2
noncomputable def fixL (rows : List Poly) : List Poly := rows.dropLast ++ [fixE (rows.getLastD [])]
structure RwSt (σ : Sg) (B L R : Addr) (c : Nat) (rows : List Poly) (σ' : Sg) : Prop where
 box : BoxAt B L c σ'
 r : ∃ o, σ' R = some (.lst (rows.map .dct), o)
 old : σ R = none
 ne : R ≠ B ∧ R ≠ L
 rest : ∀ a, a ≠ B → a ≠ L → a ≠ R → σ' a = σ a
theorem BoxAt.ne {B L : Addr} {c : Nat} {σ : Sg} (h : BoxAt B L c σ) {D : Addr} (hD : σ D = none) : D ≠ B ∧ D ≠ L := by
 refine ob43 h ?_; clear h; rintro ks s o1 o2 h1 h2 _
 exact ⟨(by rintro rfl; rw [h1] at hD; cases hD), (by rintro rfl; rw [h2] at hD; cases hD)⟩
theorem BoxAt.of {B L : Addr} {c : Nat} {σ σ' : Sg} (h : BoxAt B L c σ) (h1 : σ' B = σ B) (h2 : σ' L = σ L) : BoxAt B L c σ' := by
 refine ob43 h ?_; clear h; rintro ks s o1 o2 a1 a2 a3
 exact ⟨ks, s, o1, o2, by rw [h1]; exact a1, by rw [h2]; exact a2, a3⟩
theorem BoxAt.upd {B L : Addr} {c : Nat} {σ : Sg} (h : BoxAt B L c σ) {D : Addr} (hD : D ≠ B ∧ D ≠ L) (v o) : BoxAt B L c (upd σ D v o) := h.of (upd_ne _ _ _ (Ne.symm hD.1)) (upd_ne _ _ _ (Ne.symm hD.2))
theorem rowE_put {x : Int} : dput (rowE 0 0) [0, 0] (qint x) = if x = 0 then dput (rowE 0 0) [0, 0] (qint x) else rowE x 0 := by
 by_cases h : x = 0
 · rw [if_pos h]
 · rw [if_neg h]; unfold rowE; rw [ieq_eq x, decide_eq_false h]; rfl
theorem rowE_put1 {x y : Int} (h : y ≠ 0) : dput (rowE x 0) [0, 1] (qint y) = rowE x y := by
 have e0 : rowE x y = rowE x 0 ++ [([0, 1], qint y)] := by
   unfold rowE; rw [ieq_eq y, decide_eq_false h, ieq_eq 0 0]; simp
 rw [e0, dput_new]
 unfold rowE
 rw [ieq_eq 0 0]
 cases ieq x 0 <;> simp
theorem rowE_len (x y : Int) : (rowE x y).length ≤ 2 := by unfold rowE; cases ieq x 0 <;> cases ieq y 0 <;> simp
noncomputable abbrev rwV (B R : Addr) (m : Nat) (s1 s2 s3 s4 : Slot) : Vars := [("box", .val (.ref B)), ("many", .val (.int (m : Nat))), ("rows", .val (.ref R)), ("at", s1), ("row", s2), ("power", s3), ("number", s4), ("range", .bi (.type "range")), ("_law_take", .fn)]
theorem beq_int_false {x : Int} (h : (x != 0) = false) : x = 0 := by simpa using h
theorem bne_int_true {x : Int} (h : (x != 0) = true) : x ≠ 0 := by simpa using h
structure RwSt1 (σ : Sg) (B L R D : Addr) (c : Nat) (rows : List Poly) (p : Poly) (σ' : Sg) : Prop where
 box : BoxAt B L c σ'
 r : ∃ o, σ' R = some (.lst (rows.map .dct), o)
 d : ∃ o, σ' D = some (.dct p, o)
 old : σ R = none ∧ σ D = none
 ne : R ≠ B ∧ R ≠ L ∧ D ≠ B ∧ D ≠ L ∧ D ≠ R
 rest : ∀ a, a ≠ B → a ≠ L → a ≠ R → a ≠ D → σ' a = σ a
theorem RwSt.new {σ σ' : Sg} {B L R c rows} (h : RwSt σ B L R c rows σ') (hB : BoxAt B L c₀ σ) {D : Addr} (hD : σ' D = none) (o) : RwSt1 σ B L R D c rows [] (upd σ' D (.dct []) o) := by
 have hne := h.box.ne hD
 refine ob11 h.r ?_; rintro oR hR
 have hDR : D ≠ R := by rintro rfl; rw [hR] at hD; cases hD
 exact ⟨h.box.upd hne _ _, ⟨oR, by rw [upd_ne _ _ _ (Ne.symm hDR)]; exact hR⟩, ⟨o, upd_same ..⟩, ⟨h.old, by rw [← h.rest D hne.1 hne.2 hDR]; exact hD⟩, (mx05 h.ne.1 h.ne.2 hne.1 hne.2 hDR),
   fun a a1 a2 a3 a4 => by rw [upd_ne _ _ _ a4]; exact h.rest a a1 a2 a3⟩
theorem RwSt1.take {σ σ' σ'' : Sg} {B L R D c rows p} (h : RwSt1 σ B L R D c rows p σ') (hb : BoxAt B L (c + 1) σ'') (hs : Beside B L σ' σ'') : RwSt1 σ B L R D (c + 1) rows p σ'' := by
 refine ob11 h.r ?_; rintro oR hR
 refine ob11 h.d ?_; rintro oD hD
 refine ob05 h.ne ?_; rintro n1 n2 n3 n4 n5
 exact ⟨hb, ⟨oR, by rw [hs R n1 n2]; exact hR⟩, ⟨oD, by rw [hs D n3 n4]; exact hD⟩, h.old, h.ne, fun a a1 a2 a3 a4 => by rw [hs a a1 a2]; exact h.rest a a1 a2 a3 a4⟩
theorem RwSt1.put {σ σ' : Sg} {B L R D c rows p} (h : RwSt1 σ B L R D c rows p σ') (q : Poly) (o) : RwSt1 σ B L R D c rows q (upd σ' D (.dct q) o) := by
 refine ob05 h.ne ?_; rintro n1 n2 n3 n4 n5
 exact ⟨h.box.upd ⟨n3, n4⟩ _ _, by rw [upd_ne _ _ _ (Ne.symm n5)]; exact h.r, ⟨o, upd_same ..⟩, h.old, h.ne, fun a a1 a2 a3 a4 => by rw [upd_ne _ _ _ a4]; exact h.rest a a1 a2 a3 a4⟩
theorem RwSt1.done {σ σ' : Sg} {B L R D c rows p} (h : RwSt1 σ B L R D c rows p σ') : RwSt σ B L R c rows (del σ' D) := by
 refine ob05 h.ne ?_; rintro n1 n2 n3 n4 n5
 refine ⟨h.box.of (del_ne _ (Ne.symm n3)) (del_ne _ (Ne.symm n4)), by rw [del_ne _ (Ne.symm n5)]; exact h.r, h.old.1, ⟨n1, n2⟩, fun a a1 a2 a3 => ?_⟩
 by_cases z : a = D
 · subst z; rw [del_same, h.old.2]
 · rw [del_ne _ z]; exact h.rest a a1 a2 a3 z
theorem RwSt.put {σ σ' : Sg} {B L R c rows} (h : RwSt σ B L R c rows σ') (rows' : List Poly) (o) : RwSt σ B L R c rows' (upd σ' R (.lst (rows'.map .dct)) o) :=
 ⟨h.box.upd h.ne _ _, ⟨o, upd_same ..⟩, h.old, h.ne, fun a a1 a2 a3 => by rw [upd_ne _ _ _ a3]; exact h.rest a a1 a2 a3⟩
theorem RwSt.done {σ σ' : Sg} {B L R c rows} (h : RwSt σ B L R c rows σ') : BoxAt B L c (del σ' R) ∧ Beside B L σ (del σ' R) := by
 refine ⟨h.box.of (del_ne _ (Ne.symm h.ne.1)) (del_ne _ (Ne.symm h.ne.2)), fun a a1 a2 => ?_⟩
 by_cases z : a = R
 · subst z; rw [del_same, h.old]
 · rw [del_ne _ z]; exact h.rest a a1 a2 z
theorem rInts_get {k i : Nat} {v : V} (h : (rInts k)[i]? = some v) : i < k ∧ v = .int (i : Nat) := by
 have hil := some_lt h
 have hil : i < k := by simpa [rInts] using hil
 refine ⟨hil, ?_⟩
 simp only [rInts, List.getElem?_map, List.getElem?_range hil, Option.map_some, Option.some.injEq] at h
 exact h.symm
theorem law_rows_ok (T : Tops C) {n : Nat} {B L : Addr} {c m : Nat} {σ : Sg} {Q : V → Sg → Prop} (hn : 2 ≤ n) (hB : BoxAt B L c σ) (hm : 1 ≤ m ∧ m ≤ 3) (hc : c ≤ 900)
   (h : ∀ (ps : List (Int × Int)) σ', ps.length = m → (∀ x ∈ ps, rowOk x) → BoxAt B L (c + 2 * m) σ' → Beside B L σ σ' → Q (.lst ((fixL (ps.map rowP)).map .dct)) σ') : CallOK C n "_law_rows" [.ref B, .int (m : Nat)] σ Q := by
 refine CallOK.frz ?_
 generalize hq : (fun v σ' => Q v σ' ∨ ∃ a w o, v = .ref a ∧ σ' a = some (w, o) ∧ Q w (del σ' a)) = Q₁
 have hend : ∀ R rows σ', RwSt σ B L R (c + 2 * m) rows σ' → (∃ ps : List (Int × Int), ps.length = m ∧ (∀ x ∈ ps, rowOk x) ∧ rows = fixL (ps.map rowP)) → Q₁ (.ref R) σ' := by
   rintro R rows σ' hR z1; refine ob13 z1 ?_; clear z1; rintro ps h1 h2 rfl
   subst hq
   refine ob11 hR.r ?_; rintro o ho
   exact .inr (mx33 R _ o rfl ho (h ps _ h1 h2 hR.done.1 hR.done.2))
 clear hq h
 refine def_ok T 71 rfl (by decide +kernel) (.parL (.parL (.locL (.locL (.locL (.locL (.locL (.bi (T.b 9 rfl) (.fn (T.f 69 rfl) .nil))))))))) (by walk_at "om") fun env henv => ?_
 walk_at "w"
 with_reducible refine S_assign ?_ ?_
 · rfl
 refine E_list_own ?_
 walk_at "ws"
 refine fun R oR hR => ?_
 have hne := hB.ne hR
 have hSt : RwSt σ B L R c [] (upd σ R (.lst ((([] : List Poly)).map .dct)) oR) := ⟨hB.upd hne _ _, ⟨oR, upd_same ..⟩, hR, hne, fun a a1 a2 a3 => upd_ne _ _ _ a3⟩
 walk_at "up1"
 show SB _ _ _ _ _ (upd σ R (.lst ((([] : List Poly)).map .dct)) oR) _
 generalize upd σ R (.lst ((([] : List Poly)).map .dct)) oR = σ1 at hSt ⊢
 clear hR hne
 walk_at "w"
 refine S_for (fun _ => rfl) ?_
 refine IE_range1 (by walk_at "mem") rfl ?_
 walk_at "ws"
 refine (mx14 _ rfl (by exact il1 (cN hm.2)) (by exact il1 (cN hm.1)) ?_)
 rw [Int.toNat_natCast]
 refine For_k (fun i e σ' => ∃ s1 s2 s3 s4 ps, (IsVar s1 ∧ IsVar s2 ∧ IsVar s3 ∧ IsVar s4) ∧ i ≤ m ∧ ps.length = i ∧ (∀ x ∈ ps, rowOk x) ∧ RwSt σ B L R (c + 2 * i) (ps.map rowP) σ' ∧ e = rwV B R m s1 s2 s3 s4) (mx56 _ _ _ _ [] ⟨.un, .un, .un, .un⟩ (Nat.zero_le _) rfl ((fun x hx => nomatch hx)) hSt rfl) ?_ ?_
 rotate_left
 · rintro i v e σ' hv z1 K hK hR2; refine ob56 z1 ?_; clear z1; rintro s1 s2 s3 s4 ps z20 him hpl hps hSt rfl; refine ob04 z20 ?_; clear z20; rintro v1 v2 v3 v4
   refine ob02 (rInts_get hv) ?_; rintro hil rfl
   refine (mx12 _ (.name (up_at 3 rfl v1)) ?_)
   walk_at "w"
   with_reducible refine S_assign ?_ ?_
   · rfl
   refine E_dict0 fun D oD hD => ?_
   have hSt1 := hSt.new hB hD oD
   refine asg_at 4 rfl v2 ?_
   generalize upd σ' D (.dct []) oD = σ2 at hSt1 ⊢
   walk_at "w"
   refine S_for (fun _ => rfl) ?_
   refine IE_range1 (by walk_at "mem") rfl ?_
   walk_at "ws"
   refine (mx14 2 rfl (by decide) (by decide) ?_)
   refine For_k (fun j e σ' => ∃ s3 s4 x y, (IsVar s3 ∧ IsVar s4) ∧ rowOk (x, y) ∧ (j ≤ 1 → y = 0) ∧ (j = 0 → x = 0) ∧ RwSt1 σ B L R D (c + 2 * i + j) (ps.map rowP) (rowE x y) σ' ∧ e = rwV B R m (.val (.int (i : Nat))) (.val (.ref D)) s3 s4)
     (mx46 _ _ 0 0 ⟨v3, v4⟩ ⟨by decide, by decide, by decide, by decide⟩ (fun _ => rfl) (fun _ => rfl) hSt1 rfl) ?_ ?_
   rotate_left
   · rintro j v e σ' hv z1 K2 hK2 hR3; refine ob46 z1 ?_; clear z1; rintro s3 s4 x y z20 hxy hy hx hSt1 rfl; refine ob02 z20 ?_; clear z20; rintro v3 v4
     refine ob02 (rInts_get hv) ?_; rintro hjl rfl
     have hjl : j < 2 := hjl
     refine (mx12 _ (.name (up_at 5 rfl v3)) ?_)
     walk_at "ws"
     refine law_take_ok T (by walk_at "om") hSt1.box (by exact li4 (kM 2 hm.2) hc (kM 2 hil) hjl) (by decide) fun v σ3 hv0 hv1 hB3 hbes => ?_
     have hSt2 := hSt1.take hB3 hbes
     walk_at "ws"
     refine asg_at 6 rfl v4 ?_
     walk_at "ws"
     refine ob11 hSt2.d ?_; rintro oD2 hoD2
     refine ⟨_, rfl, fun hc => ?_, fun hc => ?_⟩
     · have hne := bne_int_true hc
       walk_at "w"
       refine S_setitem rfl ?_
       walk_at "ws"
       refine O_set (k := [0, (j : Int)]) (r := qint (v - 1)) hoD2 (sz1000 (Nat.le_trans (rowE_len x y) (by decide))) fun o' => ?_
       have hSt3 := hSt2.put (dput (rowE x y) [0, (j : Int)] (qint (v - 1))) o'
       walk_at "ws"
       rcases (show j = 0 ∨ j = 1 by omega) with rfl | rfl
       · have hx0 := hx rfl
         have hy0 := hy (by decide)
         subst hx0 hy0
         have e : dput (rowE 0 0) [0, ((0 : Nat) : Int)] (qint (v - 1)) = rowE (v - 1) 0 := by
           have := rowE_put (x := v - 1); rw [if_neg hne] at this; exact this
         rw [e] at hSt3 ⊢
         exact (hK2 _ _ (fun _ hx => (nomatch hx)) (mx46 _ _ (v - 1) 0 ⟨.val, .val⟩ ⟨by show (-1) ≤ v - 1; exact il1 hv0, by show v - 1 ≤ 1; exact il1 hv1, by show (-1 : Int) ≤ 0; decide, by show (0 : Int) ≤ 1; decide⟩ (fun _ => rfl) (fun z => absurd z (by decide)) hSt3 rfl)).1
       · have hy0 := hy (by decide)
         subst hy0
         have e : dput (rowE x 0) [0, ((1 : Nat) : Int)] (qint (v - 1)) = rowE x (v - 1) := rowE_put1 hne
         rw [e] at hSt3 ⊢
         exact (hK2 _ _ (fun _ hx => (nomatch hx)) (mx46 _ _ x (v - 1) ⟨.val, .val⟩ ⟨hxy.1, hxy.2.1, by show (-1) ≤ v - 1; exact il1 hv0, by show v - 1 ≤ 1; exact il1 hv1⟩ (fun z => absurd z (by decide)) (fun z => absurd z (by decide)) hSt3 rfl)).1
     · have hz := beq_int_false hc
       walk_at "ws"
       rcases (show j = 0 ∨ j = 1 by omega) with rfl | rfl
       · exact (hK2 _ _ (fun _ hx => (nomatch hx)) (mx46 _ _ x y ⟨.val, .val⟩ hxy (fun _ => hy (by decide)) (fun z => absurd z (by decide)) hSt2 rfl)).1
       · exact (hK2 _ _ (fun _ hx => (nomatch hx)) (mx46 _ _ x y ⟨.val, .val⟩ hxy (fun z => absurd z (by decide)) (fun z => absurd z (by decide)) hSt2 rfl)).1
   rintro e σ' z1; refine ob46 z1 ?_; clear z1; rintro s3 s4 x y z20 hxy hy hx hSt1 rfl; refine ob02 z20 ?_; clear z20; rintro v3 v4
   have e2 : (rInts (2 : Int).toNat).length = 2 := rfl
   rw [e2] at hSt1
   refine ob11 hSt1.d ?_; rintro oD2 hoD2
   refine SX.freeze D hoD2 (by walk_at "ownsub") ?_
   have hSt2 := hSt1.done
   generalize del σ' D = σ3 at hSt2 ⊢
   refine ob11 hSt2.r ?_; rintro oR2 hoR2
   walk_at "w"
   refine S_exprV (by exact ki_of henv rfl) rfl (E_methL F.plainAttrs_list F.slot_list_append F.type_list_append (fun _ => rfl) rfl rfl (fun _ => rfl) ?_)
   walk_at "ws"
   refine (mx33 R _ _ rfl hoR2 ?_)
   walk_at "ws"
   refine M_append hoR2 (sz1000 (by simp; exact li3 hm.2 (eL hpl) hil)) fun o3 => ?_
   have hSt3 := hSt2.put (ps.map rowP ++ [rowE x y]) o3
   rw [List.map_append] at hSt3
   walk_at "ws"
   refine (hK _ _ (fun _ hx => (nomatch hx)) (mx56 _ _ _ _ (ps ++ [(x, y)]) ⟨.val, .val, v3, v4⟩ hil (by simp [hpl]) (fun z hz => ?_) ?_ rfl)).1
   · rcases List.mem_append.mp hz with hz | hz
     · exact hps z hz
     · rw [List.mem_singleton.mp hz]; exact hxy
   · rw [List.map_append (f := rowP), show c + 2 * (i + 1) = c + 2 * i + 2 by exact Nat.le_antisymm li0 li0]
     exact hSt3
 rintro e σ' z1; refine ob56 z1 ?_; clear z1; rintro s1 s2 s3 s4 ps z20 him hpl hps hSt rfl; refine ob04 z20 ?_; clear z20; rintro v1 v2 v3 v4
 have e1 : (rInts m).length = m := by simp [rInts]
 rw [e1] at hSt hpl
 clear hB
 refine ob11 hSt.r ?_; rintro o1 ho1
 have hrl : (ps.map rowP).length = m := by rw [List.length_map]; exact hpl
 generalize hrows : ps.map rowP = rows at hSt ho1 hrl
 have hsz : (rows.map V.dct).length ≤ sizeLine := sz1000 (by rw [List.length_map]; exact li2 hm.2 (eL hrl))
 walk_at "ws"
 refine I_lst (look_own ho1) hsz (by rw [List.length_map]; exact seq_last (by exact li2 hm.1 (eG hrl))) (x := .dct (rows.getLastD [])) (by rw [List.getElem?_map, last_at (d := []) (by exact li2 hm.1 (eG hrl))]; rfl) ?_ (fun _ _ => rfl)
 refine E_dict0F ?_
 refine O_eqD (p := rows.getLastD []) (q := []) rfl rfl ?_
 have hfix : fixL rows = rows.dropLast ++ [fixE (rows.getLastD [])] := rfl
 have hlast : rows.dropLast ++ [rows.getLastD []] = rows := by
   cases rows with
   | nil => simp at hrl; exact nF (li2 hm.1 (eG hrl))
   | cons x xs => 
     have := List.dropLast_concat_getLast (l := x :: xs) (by simp)
     rw [show (x :: xs).getLastD [] = (x :: xs).getLast (by simp) from by simp [List.getLastD_eq_getLast?, List.getLast?_eq_some_getLast]]
     exact this
 refine ⟨_, rfl, fun hc => ?_, fun hc => ?_⟩
 · have hnil : rows.getLastD [] = [] := by
     cases e : rows.getLastD [] with
     | nil => rfl
     | cons x p => rw [e] at hc; exact absurd hc (by simp [peq])
   walk_at "w"
   with_reducible refine S_setitem ?_ ?_
   · rfl
   with_reducible refine EV.frz (E_dict1 ?_)
   walk_at "ws"
   refine (mx12 ([0, 0]) rfl ?_)
   walk_at "ws"
   refine (mx12 (qint 2) rfl (fun D o hD => .inr ⟨D, _, o, rfl, upd_same .., ?_⟩))
   rw [del_upd _ _ hD]
   walk_at "ws"
   refine O_lset ho1 hsz (by rw [List.length_map]; exact seq_last (by exact li2 hm.1 (eG hrl))) fun o3 => ?_
   have hset : (rows.map V.dct).set (rows.length - 1) (.dct [([0, 0], qint 2)]) = (fixL rows).map .dct := by
     rw [hfix, hnil, show (V.dct [([0, 0], qint 2)]) = V.dct (fixE []) from rfl, ← List.map_set]
     congr 1
     have hd : rows.length - 1 = rows.dropLast.length := by simp
     rw [hd]
     conv => lhs; rw [← hlast]
     rw [List.dropLast_concat]
     simp
   rw [hset]
   walk_at "ws"
   exact hend R _ _ (hSt.put (fixL rows) o3) (mx13 ps hpl hps (by rw [hrows]))
 · have hne : (rows.getLastD []).isEmpty = false := by
     cases e : rows.getLastD [] with
     | nil => rw [e] at hc; exact absurd hc (by decide)
     | cons x p => rfl
   have hfx : fixL rows = rows := by
     rw [hfix]; unfold fixE; rw [hne]; exact hlast
   walk_at "ws"
   exact hend R rows σ' hSt (mx13 ps hpl hps (by rw [hrows, hfx]))
theorem SX.ndvs {n : Nat} {env : Env} {e : Vars} {σ : Sg} {t : Sem Flow} {Q : Fl → Vars → Sg → Prop} {x : Str} {ps : List Poly} (hx : (x, .val (.lst (ps.map .dct))) ∈ e) (h : (∀ p ∈ ps, Nd p) → SX C n env e t σ Q) : SX C n env e t σ Q := fun A g s R S F => by
 have : ∀ p ∈ ps, Nd p := by
   refine ob12 F.ns ?_; rintro m hn hv
   have key : ∀ u, VR g (.lst (ps.map .dct)) u → ∀ p ∈ ps, Nd p := fun u V p hp => by
     refine V.cl fun _ _ _ _ _ _ _ hs => ?_
     · refine ob11 (List.mem_iff_getElem?.mp hp) ?_; rintro i hi
       refine ob12 (hs.get (i := i) (v := .dct p) (by rw [List.getElem?_map, hi]; rfl)) ?_; rintro w _ W
       exact W.cd fun _ _ _ _ hd => hd.nodup
   rcases F.kinds x _ hx with hl | ⟨hc, c, hcl⟩
   · refine ob12 ((hv x _ hx).1 hl) ?_; rintro u _ V; exact key u V
   · refine ob12 ((hv x _ hx).2 c hc hcl) ?_; rintro u _ V; exact key u V
 exact h this A g s R S F
theorem fromGo_len {i : Nat} : ∀ {rows : List Poly} {j : Nat} {f r : Poly}, fromGo i j rows f = some r → (∀ p ∈ rows, p.length ≤ 1000) → r.length ≤ f.length + 1000 * rows.length
 | [], _, f, r, h, _ => by cases h; simp
 | row :: rows, j, f, r, h, hp => by
   refine ob12 (fromGo_ok h) ?_; rintro f' h1 h2
   have := foldA_len h1
   have := hp row List.mem_cons_self
   have := fromGo_len h2 fun p hq => hp p (List.mem_cons_of_mem _ hq)
   simp only [List.length_cons]; omega
theorem trimE_nils {rows : List Poly} (h : rows = [] ∨ (rows.getLastD []).isEmpty = false) : trimE (rows ++ [[], []]) = rows := by
 have e1 : trimN (rows ++ [[], []]) (rows.length + 2) = rows.length := by
   have a1 : (rows ++ [[], []]).getD (rows.length + 1) [] = [] := by rw [List.getD_eq_getElem?_getD, List.getElem?_append_right (by exact li0)]; simp
   have a2 : (rows ++ [[], []]).getD rows.length [] = [] := by rw [List.getD_eq_getElem?_getD, List.getElem?_append_right (by exact li0)]; simp
   rw [trimN_step (by rw [a1]; rfl), trimN_step (by rw [a2]; rfl)]
   rcases h with rfl | h
   · rfl
   · cases hr : rows.length with
     | zero => rfl
     | succ k =>
       show cond _ _ _ = _
       have a3 : (rows ++ [[], []]).getD k [] = rows.getLastD [] := by
         rw [List.getD_eq_getElem?_getD, List.getElem?_append_left (by exact li1 (eG hr))]
         have := last_at (xs := rows) (d := []) (by exact li1 (eG hr))
         rw [hr] at this
         rw [show k + 1 - 1 = k by exact Nat.le_antisymm (li1 (sL (show 1 ≤ (k + 1) from li0))) (li1 (sA (k + 1) 1))] at this
         rw [this]; rfl
       rw [a3, h]; rfl
 unfold trimE
 rw [List.length_append, show rows.length + [([] : Poly), []].length = rows.length + 2 from rfl, e1, List.take_left]
theorem peqs_self {ps : List Poly} (h : ∀ p ∈ ps, Nd p) : peqs ps ps = true := by
 unfold peqs
 simp only [beq_self_eq_true, Bool.true_and, List.all_eq_true, List.mem_range]
 intro i hi
 exact peq_self (h _ (getD_mem hi))
theorem restC_ok {a b : List Poly} (h : restC a b = true) : ∃ rest whole others left, pseudoE 8 a b = some rest ∧ rest.length < b.length ∧ (rest = [] ∨ (rest.getLastD []).isEmpty = false) ∧ okRow 0 a = true ∧ okRow 0 b = true ∧ okRow 0 rest = true ∧
   fromE a 0 = some whole ∧ fromE b 0 = some others ∧ fromE rest 0 = some left ∧ turnsE (a.length + 2 - b.length) whole left others (b.getLastD []) = true := by
 refine ob12 (mf (pseudoE 8 a b) h) ?_; rintro rest e1 h
 have h2 : (Nat.blt rest.length b.length && (rest.isEmpty || !(rest.getLastD []).isEmpty) && okRow 0 a && okRow 0 b && okRow 0 rest) = true := by
   rcases cd h with ⟨e, _⟩ | ⟨_, h⟩
   · exact e
   · cases h
 rcases cd h with ⟨_, h⟩ | ⟨_, h⟩
 rotate_left
 · cases h
 refine ob12 (mf _ h) ?_; rintro whole e3 h
 refine ob12 (mf _ h) ?_; rintro others e4 h
 refine ob12 (mf _ h) ?_; rintro left e5 h
 simp only [Bool.and_eq_true, Nat.blt_eq, Bool.or_eq_true, Bool.not_eq_true'] at h2
 refine (mx48 rest whole others left e1 h2.1.1.1.1 (h2.1.1.1.2.imp (fun z => ?_) id) h2.1.1.2 h2.1.2 h2.2 e3 (mx03 e4 e5 h))
 cases rest with
 | nil => rfl
 | cons x p => (exfalso; cases z)
theorem turnsE_ok {k : Nat} {w l o t : Poly} (h : turnsE k w l o t = true) : ∃ n d r, k = n + 1 ∧ subE w l = some d ∧ exactE d o = some r ∧ (r ≠ none ∨ (r = none ∧ ∃ w', mulE w t = some w' ∧ turnsE n w' l o t = true)) := by
 cases k with
 | zero => (exfalso; cases h)
 | succ n =>
   refine ob12 (mf (subE w l) h) ?_; rintro d e1 h
   refine ob12 (mf (exactE d o) h) ?_; rintro r e2 h
   cases r with
   | some q => exact (mx34 n d (some q) rfl e1 e2 (.inl (by simp)))
   | none =>
     refine ob12 (mf (mulE w t) h) ?_; rintro w' e3 h
     exact (mx34 n d none rfl e1 e2 (.inr ⟨rfl, w', e3, h⟩))
theorem fixL_len {rows : List Poly} (h : 1 ≤ rows.length) : (fixL rows).length = rows.length := by unfold fixL; simp; exact Nat.le_antisymm (li1 (sL (show 1 ≤ rows.length from (li1 h)))) (li1 (sA rows.length 1))
theorem peq_nil {p : Poly} (h : p.isEmpty = false) : peq p [] = false := by
 cases p with
 | nil => (exfalso; cases h)
 | cons x p => rfl
theorem law_rest_right_ok (T : Tops C) {n : Nat} {B L : Addr} {c : Nat} {σ : Sg} {Q : V → Sg → Prop} (hn : 12 ≤ n) (hB : BoxAt B L c σ) (hc : c ≤ 800)
   (HR : ∀ ps qs : List (Int × Int), (ps.length = 2 ∨ ps.length = 3) → (qs.length = 1 ∨ qs.length = 2) → (∀ x ∈ ps, rowOk x) → (∀ x ∈ qs, rowOk x) → restC (fixL (ps.map rowP)) (fixL (qs.map rowP)) = true)
   (h : ∀ σ', Q (.bool true) σ') : CallOK C n "_law_rest_right" [.ref B] σ Q := by
 refine def_ok T 72 rfl (by decide +kernel) (.parL (.locL (.locL (.locL (.locL (.locL (.locL (.locL (.fn (T.f 71 rfl) (.fn (T.f 69 rfl) (.fn (T.f 49 rfl) (.bi (T.b 0 rfl) (.fn (T.f 48 rfl) (.fn (T.f 37 rfl) (.bi (T.b 9 rfl) (.fn (T.f 44 rfl) (.fn (T.f 28 rfl) (.fn (T.f 31 rfl) .nil)))))))))))))))))) (by walk_at "om") fun env henv => ?_
 walk_at "w"
 refine S_two rfl ?_
 walk_at "ws"
 refine law_take_ok T (by walk_at "om") hB (by exact li1 hc) (by decide) fun v σ1 hv0 hv1 hB1 hbes1 => ?_
 obtain ⟨i, rfl⟩ : ∃ i : Nat, v = i := ⟨v.toNat, by exact Int.le_antisymm (il1 (tG v)) (il1 (tL (show 0 ≤ v from (il1 hv0))))⟩
 have hi : i < 2 := by exact nD (il1 hv1)
 walk_at "ws"
 have e1 : (2 : Int) + (i : Nat) = ((2 + i : Nat) : Int) := by exact Int.le_antisymm il0 il0
 rw [e1]
 refine law_rows_ok T (by walk_at "om") hB1 (by exact ⟨li0, (nC (il1 hv1))⟩) (by exact li1 hc) fun ps σ2 hpl hps hB2 hbes2 => ?_
 walk_at "ws"
 refine law_take_ok T (by walk_at "om") hB2 (by exact nC (il2 (cN hc) (jM 2 hv1))) (by decide) fun v σ3 hv0 hv1 hB3 hbes3 => ?_
 obtain ⟨j, rfl⟩ : ∃ j : Nat, v = j := ⟨v.toNat, by exact Int.le_antisymm (il1 (tG v)) (il1 (tL (show 0 ≤ v from (il1 hv0))))⟩
 have hj : j < 2 := by exact nD (il1 hv1)
 walk_at "ws"
 have e2 : (1 : Int) + (j : Nat) = ((1 + j : Nat) : Int) := by exact Int.le_antisymm il0 il0
 rw [e2]
 refine law_rows_ok T (by walk_at "om") hB3 (by exact ⟨li0, (nC (il1 hv1))⟩) (by walk_at "om") fun qs σ4 hql hqs hB4 hbes4 => ?_
 walk_at "ws"
 walk_at "up2"
 refine ob48 (restC_ok (HR ps qs (by walk_at "om") (by walk_at "om") hps hqs)) ?_; rintro rest whole others left hps1 hrl hlast ra rb rr fa z1; refine ob03 z1 ?_; clear z1; rintro fb fr ht
 have hal : (fixL (ps.map rowP)).length = 2 + i := by rw [fixL_len (by rw [List.length_map]; exact li1 (eG hpl)), List.length_map, hpl]
 have hbl : (fixL (qs.map rowP)).length = 1 + j := by rw [fixL_len (by rw [List.length_map]; exact li1 (eG hql)), List.length_map, hql]
 generalize fixL (ps.map rowP) = a at *
 generalize fixL (qs.map rowP) = b at *
 clear hB hB1 hB2 hB3 hB4 hbes1 hbes2 hbes3 hbes4 hps hqs HR hpl hql e1 e2 hv0 hv1 hc
 walk_at "ws"
 refine pseudo_rest_ok T (by walk_at "om") (by exact nC (il2 hv1 (cN (eL hal)))) (by walk_at "om") (by exact li2 hj (eL hbl)) hps1 ?_
 walk_at "up1"
 walk_at "w"
 refine SX.ndvs (x := "rest") (ps := rest) (by walk_at "mem") fun ndr => ?_
 have hrp : ∀ p ∈ rest, p.length ≤ 1000 := fun p hp => (okP_iff.mp (okRow_iff.mp rr p hp).1).1
 have hszr : (rest.map V.dct).length ≤ sizeLine := sz1000 (by rw [List.length_map]; exact li3 hj hrl (eL hbl))
 have hszb : (b.map V.dct).length ≤ sizeLine := sz1000 (by rw [List.length_map]; exact li2 hj (eL hbl))
 have hsza : (a.map V.dct).length ≤ sizeLine := sz1000 (by rw [List.length_map]; exact nC (il2 hv1 (cN (eL hal))))
 walk_at "ws"
 refine B_len_lst rfl hszr ?_
 walk_at "ws"
 refine B_len_lst rfl hszb ?_
 walk_at "ws"
 rw [List.length_map, List.length_map]
 refine ⟨_, rfl, fun hc => absurd (of_decide_eq_true hc) (by exact Int.not_le_of_gt (il1 (cL hrl))), fun _ => ?_⟩
 walk_at "ws"
 refine E_list ?_
 walk_at "w"
 refine E_dict0F ?_
 walk_at "w"
 refine E_dict0F ?_
 walk_at "ws"
 refine O_addL rfl rfl (sz1000 (by simp; exact li3 hj hrl (eL hbl))) ?_
 rw [show rest.map V.dct ++ [V.dct [], V.dct []] = (rest ++ [[], []]).map V.dct by rw [List.map_append]; rfl]
 walk_at "ws"
 refine trimmed_rows_ok T (by walk_at "om") (ps := rest ++ [[], []]) rfl (by simp; exact li3 hj hrl (eL hbl)) (fun p hp => ?_) ?_
 · rcases List.mem_append.mp hp with hp | hp
   · have := hrp p hp; exact li1 this
   · rcases List.mem_cons.mp hp with rfl | hp
     · simp
     · rw [List.mem_singleton.mp hp]; simp
 rw [trimE_nils hlast]
 refine O_neLD rfl rfl ?_
 rw [peqs_self ndr]
 refine ⟨_, rfl, fun hc => (by (exfalso; cases hc)), fun _ => ?_⟩
 walk_at "ws"
 refine E_list ?_
 walk_at "ws"
 refine O_neLD (ps := rest) (qs := []) rfl rfl ?_
 have hgo : ∀ e' : Vars, e' = ([("box", .val (.ref B)), ("a", .val (.lst (a.map .dct))), ("b", .val (.lst (b.map .dct))), ("rest", .val (.lst (rest.map .dct))), ("whole", .un), ("others", .un), ("left", .un), ("turn", .un), ("_law_rows", .fn), ("_law_take", .fn), ("pseudo_rest", .fn), ("len", .bi (.builtin "len")), ("trimmed_rows", .fn), ("from_letter", .fn), ("range", .bi (.type "range")), ("mvexact", .fn), ("mvsub", .fn), ("mvmul", .fn)] : Vars) →
     SB C (n - 1) env e' (((fdef 72).map fun x => x.2.2.1.drop 3).getD []) σ4 fun fl x σ' => match fl with | .ret v => Q v σ' | _ => Q .none σ' := by
   rintro _ rfl
   show SB _ _ _ _ (_ :: _) _ _
   walk_at "w"
   refine S_assign3 rfl (by unfold swappedStores Env.blockKind Env.kindOf; (rename Env.scope _ = _ => hh); rw [hh]; rfl) ?_
   walk_at "ws"
   refine from_letter_ok T (i := 0) (by walk_at "om") ra (by exact nC (il2 hv1 (cN (eL hal)))) (by decide) fa ?_
   walk_at "ws"
   refine from_letter_ok T (i := 0) (by walk_at "om") rb (by exact li2 hj (eL hbl)) (by decide) fb ?_
   walk_at "ws"
   refine from_letter_ok T (i := 0) (by walk_at "om") rr (by exact li3 hj hrl (eL hbl)) (by decide) fr ?_
   walk_at "ws"
   refine (mx65 _ _ _ _ _ _ rfl (by walk_at "up") (by walk_at "up") (by walk_at "up") ?_)
   walk_at "w"
   refine S_for (fun _ => rfl) ?_
   refine IE_range1 (by walk_at "mem") rfl ?_
   walk_at "ws"
   refine B_len_lst rfl hsza ?_
   walk_at "ws"
   refine B_len_lst rfl hszb ?_
   walk_at "ws"
   rw [List.length_map, List.length_map]
   refine (mx14 _ rfl (by exact il3 hv1 (cN (eL hal)) (c0 b.length)) (by exact il4 hv0 (cL hj) (cN (eG hal)) (cN (eL hbl))) ?_)
   have hN : ((a.length : Int) - b.length + 2).toNat = a.length + 2 - b.length := by exact Nat.le_antisymm (nC (il2 (cN (sA (a.length + 2) b.length)) (tL (show 0 ≤ (↑a.length - ↑b.length + 2) from (il4 hv0 (cL hj) (cN (eG hal)) (cN (eL hbl))))))) (nC (il2 (cN (sL (show b.length ≤ (a.length + 2) from (li2 hj (eL hbl))))) (tG (↑a.length - ↑b.length + 2))))
   rw [hN]
   have hll := fromGo_len fr hrp
   refine For_k (fun i e σ' => σ4 = σ' ∧ ∃ w s, IsVar s ∧ turnsE (a.length + 2 - b.length - i) w left others (b.getLastD []) = true ∧ e = ([("box", .val (.ref B)), ("a", .val (.lst (a.map .dct))), ("b", .val (.lst (b.map .dct))), ("rest", .val (.lst (rest.map .dct))), ("whole", .val (.dct w)), ("others", .val (.dct others)), ("left", .val (.dct left)), ("turn", s), ("_law_rows", .fn), ("_law_take", .fn), ("pseudo_rest", .fn), ("len", .bi (.builtin "len")), ("trimmed_rows", .fn), ("from_letter", .fn), ("range", .bi (.type "range")), ("mvexact", .fn), ("mvsub", .fn), ("mvmul", .fn)] : Vars))
     ⟨rfl, whole, _, .un, ht, rfl⟩ ?_ ?_
   · rintro e σ' z1; refine ob02 z1 ?_; clear z1; rintro rfl z20; refine ob23 z20 ?_; clear z20; rintro w s hs ht rfl
     have : (rInts (a.length + 2 - b.length)).length = a.length + 2 - b.length := by simp [rInts]
     rw [this, Nat.sub_self] at ht
     (exfalso; cases ht)
   · rintro i v e σ' hv z1 K hK hR; refine ob02 z1 ?_; clear z1; rintro rfl z20; refine ob23 z20 ?_; clear z20; rintro w s hs ht rfl
     refine ob02 (rInts_get hv) ?_; rintro hil rfl
     refine ob34 (turnsE_ok ht) ?_; rintro k d r hk hsub hex hcase
     refine (mx12 _ (.name (up_at 7 rfl hs)) ?_)
     walk_at "ws"
     refine mvsub_ok T (by walk_at "om") hsub (by simp at hll; exact li4 (kM 1000 hj) (kM 1000 hrl) (kM 1000 (eL hbl)) hll) ?_
     walk_at "ws"
     refine mvexact_ok T (by walk_at "om") (exactE_len hex) hex ?_
     walk_at "ws"
     rcases hcase with hr | ⟨rfl, w', hmul, ht'⟩
     · cases r with
       | none => exact absurd rfl hr
       | some q =>
         refine O_isNot ⟨_, rfl, fun _ => ?_, fun hc => (by (exfalso; cases hc))⟩
         walk_at "ws"
         exact hR _ _ _ (h _)
     · refine O_isNot ⟨_, rfl, fun hc => (by (exfalso; cases hc)), fun _ => ?_⟩
       walk_at "ws"
       refine I_lst rfl hszb (by rw [List.length_map]; exact seq_last (by walk_at "om")) (x := .dct (b.getLastD [])) (by rw [List.getElem?_map, last_at (d := []) (by walk_at "om")]; rfl) ?_ (fun _ _ => rfl)
       walk_at "ws"
       refine mvmul_ok T (by walk_at "om") hmul ?_
       walk_at "up1"
       refine S_nil (hK _ _ (fun _ hx => (nomatch hx)) ⟨rfl, w', _, .val, ?_, rfl⟩).1
       rw [show a.length + 2 - b.length - (i + 1) = k by omega]; exact ht'
 refine ⟨_, rfl, fun hc => ?_, fun hc => ?_⟩
 · have hne : rest ≠ [] := by rintro rfl; exact absurd hc (by decide)
   have hlast : (rest.getLastD []).isEmpty = false := hlast.resolve_left hne
   have hr1 : 1 ≤ rest.length := by
     cases rest with
     | nil => exact absurd rfl hne
     | cons x p => simp
   walk_at "ws"
   refine I_lst rfl hszr (by rw [List.length_map]; exact seq_last hr1) (x := .dct (rest.getLastD [])) (by rw [List.getElem?_map, last_at (d := []) hr1]; rfl) ?_ (fun _ _ => rfl)
   refine E_dict0F ?_
   refine O_eqD (p := rest.getLastD []) (q := []) rfl rfl ?_
   rw [peq_nil hlast]
   refine ⟨_, rfl, fun hc => (by (exfalso; cases hc)), fun _ => ?_⟩
   refine S_nil ?_
   exact hgo _ rfl
 · refine ⟨fun hc => (by (exfalso; cases hc)), fun _ => ?_⟩
   refine S_nil ?_
   exact hgo _ rfl
theorem lawC_ok {s i j : Nat} {c d : Int} (h : lawC s i c j d = true) : ∃ a b l m g u v u' v', mulE (sharedE.getD s []) (lineE i c) = some a ∧ mulE (sharedE.getD s []) (lineE j d) = some b ∧ lcmE 2 a b = some l ∧ meetE a b = some [m] ∧ peqE m l = true ∧ gcdE 2 8 a b = some g ∧
   mulE g l = some u ∧ mulE a b = some v ∧ monicE u = some u' ∧ monicE v = some v' ∧ peqE u' v' = true := by
 refine ob12 (mf (mulE (sharedE.getD s []) (lineE i c)) h) ?_; rintro a e1 h
 refine ob12 (mf (mulE (sharedE.getD s []) (lineE j d)) h) ?_; rintro b e2 h
 refine ob12 (mf (lcmE 2 a b) h) ?_; rintro l e3 h
 refine ob12 (mf ((meetE a b).bind oneE) h) ?_; rintro m e4 h
 refine ob02 ((Bool.and_eq_true _ _).mp h) ?_; clear h; rintro h5 h
 refine ob12 (mf (gcdE 2 8 a b) h) ?_; rintro g e6 h
 refine ob12 (mf (mulE g l) h) ?_; rintro u e7 h
 refine ob12 (mf (mulE a b) h) ?_; rintro v e8 h
 refine ob12 (mf (monicE u) h) ?_; rintro u' e9 h
 refine ob12 (mf (monicE v) h) ?_; rintro v' e10 h
 have e4' : meetE a b = some [m] := by
   refine ob12 (mb _ e4) ?_; rintro ms q1 q2
   rw [q1]
   match ms, q2 with
   | [x], q2 => cases q2; rfl
 exact (mx98 a b l m g u v u' v' e1 e2 e3 e4' h5 e6 e7 (mx04 e8 e9 e10 h))
theorem peqE_peq {p q : Poly} (h : peqE p q = true) (nd : Nd q) : peq p q = true := by
 unfold peqE at h
 rw [Bool.and_eq_true, Nat.beq_eq, List.all_eq_true] at h
 unfold peq
 rw [Bool.and_eq_true, List.all_eq_true]
 refine ⟨beq_iff_eq.mpr h.1, fun x hx => ?_⟩
 have := h.2 x hx
 rw [List.any_eq_true] at this
 refine ob12 this ?_; clear this; rintro y hy e
 rw [Bool.and_eq_true, Bool.and_eq_true, meq_eq, ieq_eq, Nat.beq_eq] at e
 have e1 : x.1 = y.1 := of_decide_eq_true e.1.1
 have e2 : x.2 = y.2 := Rat.ext (of_decide_eq_true e.1.2) e.2
 exact decide_eq_true (by rw [e1, e2]; exact dget_of nd hy)
theorem peqs_one {p q : Poly} (h : peq p q = true) : peqs [p] [q] = true := by
 unfold peqs
 simp [List.range_succ, h]
theorem law_ok (T : Tops C) {n : Nat} {vs : V} {ks : List Int} {σ : Sg} {Q : V → Sg → Prop} (hn : 60 ≤ n) (hvs : look σ vs = .lst (ks.map .int)) (hks : ks.length ≤ 63)
   (HL : ∀ (s i : Nat) (c : Int) (j : Nat) (d : Int), s < 4 → i < 2 → -2 ≤ c → c ≤ 2 → j < 2 → -2 ≤ d → d ≤ 2 → lawC s i c j d = true)
   (HR : ∀ ps qs : List (Int × Int), (ps.length = 2 ∨ ps.length = 3) → (qs.length = 1 ∨ qs.length = 2) → (∀ x ∈ ps, rowOk x) → (∀ x ∈ qs, rowOk x) → restC (fixL (ps.map rowP)) (fixL (qs.map rowP)) = true)
   (h : ∀ σ', Q (.bool true) σ') : CallOK C n "law" [vs] σ Q := by
 have hsz : (ks.map V.int).length ≤ sizeLine := sz1000 (by rw [List.length_map]; exact li1 hks)
 refine def_ok T 73 rfl (by decide +kernel) (.parL (.locL (.locL (.locL (.locL (.locL (.bi (T.b 7 rfl) (.bi (T.b 4 rfl) (.fn (T.f 69 rfl) (.fn (T.f 31 rfl) (.fn (T.f 70 rfl) (.fn (T.f 55 rfl) (.fn (T.f 67 rfl) (.fn (T.f 36 rfl) (.fn (T.f 33 rfl) (.fn (T.f 54 rfl) (.fn (T.f 72 rfl) .nil))))))))))))))))) (by walk_at "om") fun env henv => ?_
 walk_at "w"
 with_reducible refine S_assign ?_ ?_
 · rfl
 with_reducible refine E_list_own ?_
 walk_at "ws"
 refine E_lslice (fun _ _ => rfl) ?_
 walk_at "ws"
 show EE _ _ _ _ _ _ _
 walk_at "ws"
 refine ⟨_, rfl, _, hvs, hsz, ?_⟩
 rw [show (40 : Int) = ((40 : Nat) : Int) from rfl, lslice_upto, ← List.map_take]
 walk_at "ws"
 have hsz2 : ((ks.take 40).map V.int).length ≤ sizeLine := sz1000 (by rw [List.length_map, List.length_take]; exact li1 (Nat.min_le_left 40 ks.length))
 refine T_list (.inl rfl) hsz2 fun L oL hL => ?_
 have hvs2 : look (upd σ L (.lst ((ks.take 40).map .int)) oL) vs = .lst (ks.map .int) := look_upd hL hvs (by simp)
 walk_at "ws"
 refine E_lslice (fun _ _ => rfl) ?_
 walk_at "ws"
 show EE _ _ _ _ _ _ _
 walk_at "ws"
 refine ⟨_, rfl, _, hvs2, hsz, ?_⟩
 rw [lslice_upto, ← List.map_take]
 walk_at "ws"
 refine B_sumL rfl ?_
 walk_at "ws"
 refine O_mod (by decide) ?_
 walk_at "ws"
 refine fun B oB hB => ?_
 have hBL : B ≠ L := by rintro rfl; rw [upd_same] at hB; cases hB
 have hBx : BoxAt B L 0 (upd (upd σ L (.lst ((ks.take 40).map .int)) oL) B (.lst [.ref L, .int 0, .int ((ks.take 40).sum.fmod 997)]) oB) :=
   ⟨ks.take 40, _, oB, oL, upd_same .., by rw [upd_ne _ _ _ (Ne.symm hBL)]; exact upd_same .., hBL, by rw [List.length_take]; exact li1 (Nat.min_le_left 40 ks.length)⟩
 walk_at "up1"
 show SB _ _ _ _ _ (upd (upd σ L (.lst ((ks.take 40).map .int)) oL) B (.lst [.ref L, .int 0, .int ((ks.take 40).sum.fmod 997)]) oB) _
 generalize upd (upd σ L (.lst ((ks.take 40).map .int)) oL) B (.lst [.ref L, .int 0, .int ((ks.take 40).sum.fmod 997)]) oB = σ1 at hBx ⊢
 clear hB hL hvs2 hvs hsz2 hsz
 walk_at "w"
 with_reducible refine S_assign ?_ ?_
 · rfl
 walk_at "w"
 with_reducible refine E_list ?_
 walk_at "w"
 with_reducible refine EV.frz (E_dict1 ?_)
 walk_at "ws"
 refine (mx12 ([0, 0]) rfl ?_)
 walk_at "ws"
 refine (mx12 eone rfl (fun D o hD => .inr ⟨D, _, o, rfl, upd_same .., ?_⟩))
 rw [del_upd _ _ hD]
 walk_at "w"
 with_reducible refine EV.frz (E_dict1 ?_)
 walk_at "ws"
 refine (mx12 ([1, 0]) rfl ?_)
 walk_at "ws"
 refine (mx12 eone rfl (fun D o hD => .inr ⟨D, _, o, rfl, upd_same .., ?_⟩))
 rw [del_upd _ _ hD]
 walk_at "w"
 with_reducible refine EV.frz (E_dict1 ?_)
 walk_at "ws"
 refine (mx12 ([0, 1]) rfl ?_)
 walk_at "ws"
 refine (mx12 eone rfl (fun D o hD => .inr ⟨D, _, o, rfl, upd_same .., ?_⟩))
 rw [del_upd _ _ hD]
 walk_at "w"
 with_reducible refine EV.frz (E_dict2 ?_)
 walk_at "ws"
 refine (mx12 ([1, 0]) rfl ?_)
 walk_at "ws"
 refine (mx12 eone rfl ?_)
 walk_at "ws"
 refine (mx12 ([0, 0]) rfl ?_)
 walk_at "ws"
 refine (mx12 eone rfl (fun D o hD => .inr ⟨D, _, o, rfl, upd_same .., ?_⟩))
 rw [del_upd _ _ hD]
 walk_at "ws"
 refine law_take_ok T (by walk_at "om") hBx (by exact li0) (by decide) fun v σ2 hv0 hv1 hB2 hbes2 => ?_
 obtain ⟨s, rfl⟩ : ∃ s : Nat, v = s := ⟨v.toNat, by exact Int.le_antisymm (il1 (tG v)) (il1 (tL (show 0 ≤ v from (il1 hv0))))⟩
 have hs : s < 4 := by exact nD (il1 hv1)
 refine I_lst (xs := sharedE.map .dct) rfl (sz1000 (by decide)) (seq_at (i := s) (by exact hs)) (x := .dct (sharedE.getD s [])) ?_ ?_ (fun _ _ => rfl)
 · exact lt4 hs rfl rfl rfl rfl
 walk_at "up1"
 walk_at "w"
 with_reducible refine S_two ?_ ?_
 · decide +kernel
 walk_at "ws"
 refine law_line_ok T (by walk_at "om") hB2 (by exact li0) fun i c σ3 hi hc1 hc2 hB3 hbes3 => ?_
 have HLs := fun j d => HL s i c j d hs hi hc1 hc2
 clear HL
 have hla : ∃ a, mulE (sharedE.getD s []) (lineE i c) = some a := by
   refine ob92 (lawC_ok (HLs 0 0 (by decide) (by decide) (by decide))) ?_; rintro a _ _ _ _ _ _ _ _ h1 _
   exact ⟨a, h1⟩
 refine ob11 hla ?_; clear hla; rintro a ha
 walk_at "ws"
 refine mvmul_ok T (by walk_at "om") ha ?_
 walk_at "ws"
 refine law_line_ok T (by walk_at "om") hB3 (by exact li0) fun j d σ4 hj hd1 hd2 hB4 hbes4 => ?_
 refine ob98 (lawC_ok (HLs j d hj hd1 hd2)) ?_; rintro a' b l m g u v u' v' ha' hb hl hm hml hg hu z1; refine ob04 z1 ?_; clear z1; rintro hv hu' hv' huv
 rw [ha] at ha'
 cases ha'
 clear HLs hBx hB2 hB3 hbes2 hbes3 hbes4
 walk_at "ws"
 refine mvmul_ok T (by walk_at "om") hb ?_
 walk_at "ws"
 walk_at "up2"
 have hoa := (mulE_ok hv).1
 have hob := (mulE_ok hv).2.1
 walk_at "ws"
 refine mvlcm_ok T (m := 2) (by walk_at "om") (by decide) ⟨(okP_iff.mp hoa).1, (okP_iff.mp hob).1⟩ hl ?_
 walk_at "up1"
 walk_at "w"
 refine SX.ndv (x := "least") (p := l) (by walk_at "mem") fun ndl => ?_
 walk_at "ws"
 with_reducible refine E_list ?_
 walk_at "ws"
 with_reducible refine E_list ?_
 walk_at "ws"
 refine meet_of_ok T (by walk_at "om") hm ?_
 with_reducible refine E_list ?_
 walk_at "ws"
 refine O_neLD (ps := [m]) (qs := [l]) rfl rfl ?_
 rw [peqs_one (peqE_peq hml ndl)]
 refine ⟨_, rfl, fun hc => (by (exfalso; cases hc)), fun _ => ?_⟩
 walk_at "w"
 walk_at "w"
 walk_at "w"
 with_reducible refine E_dict0F ?_
 walk_at "ws"
 refine by_letter_ok T (i := 0) (by walk_at "om") (by decide) (by decide) (by decide) ?_
 with_reducible refine E_list ?_
 walk_at "ws"
 refine O_neLD (ps := byE [] 0) (qs := []) rfl rfl ?_
 refine ⟨_, rfl, fun hc => absurd hc (by decide), fun _ => ?_⟩
 walk_at "ws"
 refine mvgcd_ok T (m := 2) (by walk_at "om") (by decide) hg ?_
 walk_at "ws"
 refine mvmul_ok T (by walk_at "om") hu ?_
 walk_at "ws"
 refine mvmonic_ok T (by walk_at "om") hu' ?_
 walk_at "ws"
 refine mvmul_ok T (by walk_at "om") hv ?_
 walk_at "ws"
 refine mvmonic_ok T (by walk_at "om") hv' ?_
 refine Op2.nd fun ndv => ?_
 refine O_neD (p := u') (q := v') rfl rfl ?_
 rw [peqE_peq huv ndv]
 refine ⟨_, rfl, fun hc => absurd hc (by decide), fun _ => ?_⟩
 walk_at "ws"
 refine law_rest_right_ok T (by walk_at "om") hB4 (by exact li0) HR ?_
 exact h
theorem head (call : ∀ (d : DefRec), defOf qv "law" = some (d, []) → WalkO qv [] (fun _ _ => True) (fun _ _ => True) rw_pf0055_01.row.toRowW d [] fun f vs => PySem.call f vs) : rw_pf0055_01.Holds := by
 refine holds_law ws fun said => ?_
 refine holds_open (q := qv) (loose := []) (Xt := fun _ => true) (XP := fun _ _ => True) (Yf := fun _ => ()) (Ya := fun _ => ()) (YP := fun _ _ => True) (N := 4500) left (fun _ _ _ => trivial) (fun _ _ _ _ _ => trivial) (fun _ _ => trivial) (fun _ _ _ _ _ => trivial)
   (by rfl) (by rfl) (by rfl) (fun _ _ => recFacts_nil rfl) rfl said (by decide +kernel) ⟨rfl, rfl, rfl, rfl, rfl, by decide +kernel⟩ ?hw (call _ (by rfl))
 case hw => w_witness2
noncomputable def recT (d : DefRec) : Str × Arguments × List Stmt × Scope := (d.name, d.params, d.body, d.scope)
theorem recs_eq : (recsOf qv).map recT = pw_pf0055_01.main.body.filterMap fdOf3 := by kernel_rfl
noncomputable def plainA (a : Arguments) : Bool := a.posonlyargs.isEmpty && a.vararg.isNone && a.kwonlyargs.isEmpty && a.kw_defaults.isEmpty && a.kwarg.isNone && a.defaults.isEmpty
theorem recs_plain : (recsOf qv).all (fun d => plainA d.params) = true := by decide +kernel
theorem plainA_eq {a : Arguments} (h : plainA a = true) : a = ⟨[], a.args, none, [], [], none, []⟩ := by
 cases a
 simp only [plainA, Bool.and_eq_true, List.isEmpty_iff, Option.isNone_iff_eq_none] at h
 simp only [h]
theorem fdOf_3 {st : Stmt} {x ps body scope} (h : fdOf st = some (x, ps, body, scope)) : ∃ args, fdOf3 st = some (x, args, body, scope) ∧ args.args.map (·.arg) = ps := by
 refine ob12 (Option.map_eq_some_iff.mp h) ?_; rintro q hq e
 cases e
 exact mx12 _ hq rfl
theorem fdef_rec {i : Nat} {x ps body scope} (h : fdef i = some (x, ps, body, scope)) : ∃ d ∈ recsOf qv, d.name = x ∧ d.body = body ∧ d.scope = scope ∧ d.params = ⟨[], d.params.args, none, [], [], none, []⟩ ∧ d.params.args.map (·.arg) = ps := by
 unfold fdef at h
 refine ob12 (Option.bind_eq_some_iff.mp h) ?_; rintro st h1 h2
 refine ob12 (fdOf_3 h2) ?_; rintro args h3 h4
 have hm : (x, args, body, scope) ∈ pw_pf0055_01.main.body.filterMap fdOf3 := List.mem_filterMap.mpr (mx12 st (List.mem_of_getElem? h1) h3)
 rw [← recs_eq] at hm
 refine ob12 (List.mem_map.mp hm) ?_; rintro d hd e
 have e1 : d.name = x := congrArg (·.1) e
 have e2 : d.params = args := congrArg (·.2.1) e
 have e3 : d.body = body := congrArg (·.2.2.1) e
 have e4 : d.scope = scope := congrArg (·.2.2.2) e
 refine (mx16 d hd e1 e3 e4 (plainA_eq (List.all_eq_true.mp recs_plain d hd)) (by rw [e2]; exact h4))
theorem bi_boot : biList.all (fun x => decide (bootBuiltins x.1 = some x.2) && !(x.1 == ("__name__" : Str)) && !startupNames.contains x.1 && !(looseW qv []).contains x.1 && !((recsOf qv).map (·.name)).contains x.1 && !((litsOf qv).map (·.1)).contains x.1 && !((clssOf qv (looseW qv [])).map (·.name)).contains x.1) = true := by decide +kernel
theorem tup_r0 : tupIntsOf qv "R0" = some [0, 1] := by kernel_rfl
theorem tup_r1 : tupIntsOf qv "R1" = some [1, 1] := by kernel_rfl
theorem tops_of {C : Cx} {XP : (Str → Option Value) → Heap → Prop} {R : WRecords} {s₀ : Shared} (G : Ground qv [] R XP C.w s₀ C.mg C.mb C.h₀) : Tops C where
 fn := fun i x ps body scope h => by
   refine ob16 (fdef_rec h) ?_; rintro d hd rfl rfl rfl hp rfl
   refine ob54 (G.T.fn d hd) ?_; rintro a o pm code doc h1 h2 h3 h4
   exact ⟨a, o, _, d.params.args, h1, h2, h3, h4, hp, rfl, rfl, rfl, rfl, rfl, rfl, rfl⟩
 bi := fun x u hx => by
   have := List.all_eq_true.mp bi_boot (x, u) hx
   simp only [Bool.and_eq_true, Bool.not_eq_true', decide_eq_true_eq, beq_eq_false_iff_ne] at this
   refine ob02 this ?_; clear this; rintro z1 k7; refine ob02 z1 ?_; clear z1; rintro z2 k6; refine ob02 z2 ?_; clear z2; rintro z3 k5; refine ob02 z3 ?_; clear z3; rintro z4 k4; refine ob02 z4 ?_; clear z4; rintro z5 k3; refine ob02 z5 ?_; clear z5; rintro k1 k2
   have nc : ∀ {l : List Str}, l.contains x = false → x ∉ l := fun {l} h hm => by rw [List.contains_iff_mem.mpr hm] at h; cases h
   exact ⟨G.T.free x (nc k3) (nc k4) (nc k5) (nc k6) (nc k7), (G.T.builtins x k2).trans k1⟩
 r0 := by
   refine ob23 (G.B.tupI "R0" [0, 1] tup_r0) ?_; rintro a vs h1 z1 h3; refine ob13 z1 ?_; clear z1; rintro o ho hc z2; refine ob11 z2 ?_; clear z2; rintro n hd
   exact ⟨_, h1, fun g hg => .tup (hg a o ho) hc hd (VRs.ofInts (ks := [0, 1]) h3)⟩
 r1 := by
   refine ob23 (G.B.tupI "R1" [1, 1] tup_r1) ?_; rintro a vs h1 z1 h3; refine ob13 z1 ?_; clear z1; rintro o ho hc z2; refine ob11 z2 ?_; clear z2; rintro n hd
   exact ⟨_, h1, fun g hg => .tup (hg a o ho) hc hd (VRs.ofInts (ks := [1, 1]) h3)⟩
theorem walk (law : ∀ {C : Cx} (T : Tops C) {vs : V} {ks : List Int} {σ : Sg} {Q : V → Sg → Prop}, look σ vs = .lst (ks.map .int) → ks.length ≤ 63 → (∀ σ', Q (.bool true) σ') → CallOK C 60 "law" [vs] σ Q) (d : DefRec) (hdd : defOf qv "law" = some (d, [])) :
   WalkO qv [] (fun _ _ => True) (fun _ _ => True) rw_pf0055_01.row.toRowW d [] fun f vs => PySem.call f vs := by
 intro w s₀ s₁ mg mb G Y fa o pm cd doc dV kV ho hd hcd hD hmg hg args vals as hpre hlay hrd hwl hlo
 have hn : d.name = "law" := defOf_name hdd
 rw [hn] at hmg
 wrow_args hpre hlay hrd hwl hlo
 rename_i ns hs hlay0 hL hr hl2 as1 as2 p us as3 hIs hra hw hr0 hI hrs hc1 hc2
 refine ob13 hIs ?_; clear hIs; rintro o1 ho1 hcls z1; refine ob11 z1 ?_; clear z1; rintro n1 hdat
 refine wpAny_call (codeAny_mono (law (C := ⟨pw_pf0055_01, w, s₁.heap, mg, mb, G.T.g, G.T.b, G.T.nolimit⟩) (tops_of (C := ⟨pw_pf0055_01, w, s₁.heap, mg, mb, G.T.g, G.T.b, G.T.nolimit⟩) G) (vs := .lst (ns.map .int)) (ks := ns) (σ := fun _ => none) (Q := fun v _ => v = .bool true) rfl (by exact nC (il1 (jG hc1))) (fun _ => rfl) fa hmg callerA (fun a => s₁.heap.get? a) s₁ [.ref p] ?_ ?_ (.cons (.lst ho1 hcls hdat (VRs.ofInts hI)) .nil)) ?_)
 · exact ⟨rfl, by decide, by decide⟩
 · exact ⟨fun _ _ e => e, fun _ _ e => e, fun _ _ _ e => (nomatch e)⟩
 · rintro r s' ⟨u, rfl, g', v, σ', X, S', V, rfl⟩
   refine V.cb ?_
   refine ⟨.inl (mx35 _ (.bool true) [] rfl (raisesW_false (by wrow_none_raised)) (.bool true) ?_ (fun _ => ⟨.nil, fun _ ha => nomatch ha⟩)), .of_keep fun b o e => X.keep b o e rfl, X.os, .of_eq (X.gens.trans hg)⟩
   wrow_post
/-! a list of terms as a linear map -/
noncomputable def lin : Poly → (Mon → Rat) → Rat
 | [], _ => 0
 | x :: p, φ => x.2 * φ x.1 + lin p φ
noncomputable def dl (k k' : Mon) : Rat := if k' = k then 1 else 0
noncomputable def co (p : Poly) (k : Mon) : Rat := lin p (dl k)
theorem lin_nil (φ) : lin [] φ = 0 := rfl
theorem lin_cons (x p φ) : lin (x :: p) φ = x.2 * φ x.1 + lin p φ := rfl
theorem lin_append (p q : Poly) (φ) : lin (p ++ q) φ = lin p φ + lin q φ := by
 induction p with
 | nil => rw [List.nil_append, lin_nil, Rat.zero_add]
 | cons x p ih => rw [List.cons_append, lin_cons, lin_cons, ih]; grind
theorem lin_congr {p : Poly} {φ ψ : Mon → Rat} (h : ∀ x ∈ p, φ x.1 = ψ x.1) : lin p φ = lin p ψ := by
 induction p with
 | nil => rfl
 | cons x p ih => rw [lin_cons, lin_cons, h x List.mem_cons_self, ih fun y hy => h y (List.mem_cons_of_mem _ hy)]
theorem lin_add (p : Poly) (φ ψ : Mon → Rat) : lin p (fun k => φ k + ψ k) = lin p φ + lin p ψ := by
 induction p with
 | nil => rw [lin_nil, lin_nil, lin_nil]; grind
 | cons x p ih => rw [lin_cons, lin_cons, lin_cons, ih]; grind
theorem lin_smul (p : Poly) (c : Rat) (φ : Mon → Rat) : lin p (fun k => c * φ k) = c * lin p φ := by
 induction p with
 | nil => rw [lin_nil, lin_nil]; grind
 | cons x p ih => rw [lin_cons, lin_cons, ih]; grind
theorem lin_zero (p : Poly) : lin p (fun _ => 0) = 0 := by
 induction p with
 | nil => rfl
 | cons x p ih => rw [lin_cons, ih]; grind
theorem lin_swap (p q : Poly) (F : Mon → Mon → Rat) : lin p (fun k => lin q fun k' => F k k') = lin q (fun k' => lin p fun k => F k k') := by
 induction p with
 | nil => rw [lin_nil]; exact (lin_zero q).symm
 | cons x p ih =>
   rw [lin_cons, ih, ← lin_smul, ← lin_add]
   exact lin_congr fun y _ => by rw [lin_cons]
theorem lin_addT {p q : Poly} {k : Mon} {r : Rat} (h : addT p k r = some q) (φ) : lin q φ = lin p φ + r * φ k := by
 induction p generalizing q with
 | nil =>
   dsimp only [addT] at h
   rw [qz_eq] at h
   by_cases e : r = 0
   · rw [decide_eq_true e] at h; cases h; rw [e]; show (0 : Rat) = 0 + 0 * φ k; grind
   · rw [decide_eq_false e] at h; cases h; show r * φ k + 0 = 0 + r * φ k; grind
 | cons x p ih =>
   obtain ⟨k', r'⟩ := x
   dsimp only [addT] at h
   rw [meq_eq] at h
   by_cases e : k' = k
   · rw [decide_eq_true e] at h
     refine ob02 (cond_some h) ?_; rintro _ h2
     have h4 : cond (qz (qadd r' r)) p ((k', qadd r' r) :: p) = q := Option.some.inj h2
     clear h h2
     rw [qz_eq, qadd_eq] at h4
     subst e
     by_cases z : r' + r = 0
     · rw [decide_eq_true z] at h4
       have h4 : p = q := h4
       subst h4
       show lin p φ = r' * φ k' + lin p φ + r * φ k'
       have : r = -r' := by grind
       rw [this]; grind
     · rw [decide_eq_false z] at h4
       have h4 : (k', r' + r) :: p = q := h4
       subst h4
       show (r' + r) * φ k' + lin p φ = r' * φ k' + lin p φ + r * φ k'
       grind
   · rw [decide_eq_false e] at h
     cases e2 : addT p k r with
     | none => rw [e2] at h; (exfalso; cases h)
     | some q' =>
       rw [e2] at h
       cases h
       rw [lin_cons, lin_cons, ih e2]; grind
theorem lin_fold {α : Type} {key : α → Mon} {c : α → Rat} {φ : Mon → Rat} : ∀ {a : List α} {f r : Poly}, foldO (fun f y => addT f (key y) (c y)) f a = some r → lin r φ = lin f φ + lin (a.map fun y => (key y, c y)) φ
 | [], f, r, h => by cases h; rw [List.map_nil, lin_nil, Rat.add_zero]
 | y :: a, f, r, h => by
   refine ob12 (foldO_cons h) ?_; rintro g h1 h2
   rw [lin_fold h2, lin_addT h1, List.map_cons, lin_cons]; grind
theorem lin_addE {a b r : Poly} (h : addE a b = some r) (φ) : lin r φ = lin a φ + lin b φ := by
 refine ob02 (addE_ok h) ?_; rintro _ h
 rw [lin_fold (key := fun x : Mon × Rat => x.1) (c := fun x => x.2) h]
 simp
theorem lin_neg (a : Poly) (φ) : lin (negE a) φ = - lin a φ := by
 induction a with
 | nil => show (0 : Rat) = -0; grind
 | cons x a ih =>
   show -x.2 * φ x.1 + lin (negE a) φ = -(x.2 * φ x.1 + lin a φ)
   rw [ih]; grind
theorem lin_subE {a b r : Poly} (h : subE a b = some r) (φ) : lin r φ = lin a φ - lin b φ := by
 rw [lin_addE h, lin_neg]; grind
theorem lin_map (a : Poly) (t : Mon → Mon) (c : Rat) (φ) : lin (a.map fun y => (t y.1, y.2 * c)) φ = c * lin a (fun k => φ (t k)) := by
 induction a with
 | nil => rw [List.map_nil, lin_nil, lin_nil]; grind
 | cons x a ih => rw [List.map_cons, lin_cons, lin_cons, ih]; grind
theorem lin_mulE {a b r : Poly} (h : mulE a b = some r) (φ) : lin r φ = lin b (fun k => lin a fun k' => φ (madd k' k)) := by
 refine ob04 (mulE_ok h) ?_; rintro _ _ _ h
 have key : ∀ (b f r : Poly), foldO (fun f x => foldO (fun f y => addT f (madd y.1 x.1) (qmul y.2 x.2)) f a) f b = some r → lin r φ = lin f φ + lin b (fun k => lin a fun k' => φ (madd k' k)) := by
   intro b
   induction b with
   | nil => intro f r h; cases h; rw [lin_nil, Rat.add_zero]
   | cons x b ih =>
     intro f r h
     refine ob12 (foldO_cons h) ?_; rintro g h1 h2
     have e : (fun (y : Mon × Rat) => (madd y.1 x.1, qmul y.2 x.2)) = fun y => (madd y.1 x.1, y.2 * x.2) := by funext y; rw [qmul_eq]
     rw [ih g r h2, lin_fold (key := fun y : Mon × Rat => madd y.1 x.1) (c := fun y => qmul y.2 x.2) h1, e, lin_map a (fun k => madd k x.1) x.2, lin_cons]; grind
 rw [key b [] r h, lin_nil, Rat.zero_add]
/-! well formed -/
structure WF (p : Poly) : Prop where
 nd : Nd p
 nz : ∀ x ∈ p, x.2 ≠ 0
theorem WF.nil : WF [] := ⟨List.nodup_nil, fun _ h => nomatch h⟩
theorem dput_mem {p : Poly} {k : Mon} {r : Rat} {x : Mon × Rat} (h : x ∈ dput p k r) : x = (k, r) ∨ x ∈ p := by
 unfold dput at h
 split at h
 · refine ob12 (List.mem_map.mp h) ?_; rintro y hy rfl
   by_cases e : y.1 = k
   · rw [if_pos e]; left; rw [e]
   · rw [if_neg e]; exact .inr hy
 · rcases List.mem_append.mp h with h | h
   · exact .inr h
   · exact .inl (List.mem_singleton.mp h)
theorem addT_WF {p q : Poly} {k : Mon} {r : Rat} (w : WF p) (h : addT p k r = some q) : WF q := by
 cases e : dget p k with
 | none =>
   rw [addT_none e] at h
   have h := Option.some.inj h
   subst h
   by_cases z : r = 0
   · rw [if_pos z]; exact w
   · rw [if_neg z]
     exact ⟨w.nd.dput, fun x hx => (dput_mem hx).elim (fun e => by rw [e]; exact z) (w.nz x)⟩
 | some r' =>
   rw [addT_some w.nd e] at h
   cases hd : okD r' && okD r with
   | false => rw [hd] at h; (exfalso; cases h)
   | true =>
     rw [hd, if_pos rfl] at h
     have h := Option.some.inj h
     subst h
     by_cases z : r' + r = 0
     · rw [if_pos z]
       unfold ddel
       refine ⟨?_, fun x hx => w.nz x (List.mem_filter.mp hx).1⟩
       unfold Nd
       exact List.Sublist.nodup (List.Sublist.map _ List.filter_sublist) w.nd
     · rw [if_neg z]
       exact ⟨w.nd.dput, fun x hx => (dput_mem hx).elim (fun e => by rw [e]; exact z) (w.nz x)⟩
theorem fold_WF {α : Type} {key : α → Mon} {c : α → Rat} : ∀ {a : List α} {f r : Poly}, foldO (fun f y => addT f (key y) (c y)) f a = some r → WF f → WF r
 | [], f, r, h, w => by cases h; exact w
 | y :: a, f, r, h, w => by
   refine ob12 (foldO_cons h) ?_; rintro g h1 h2
   exact fold_WF h2 (addT_WF w h1)
theorem addE_WF {a b r : Poly} (h : addE a b = some r) (w : WF a) : WF r := fold_WF (key := fun x : Mon × Rat => x.1) (c := fun x => x.2) (addE_ok h).2 w
theorem mulE_WF {a b r : Poly} (h : mulE a b = some r) : WF r := by
 refine ob04 (mulE_ok h) ?_; rintro _ _ _ h
 have key : ∀ (b f r : Poly), foldO (fun f x => foldO (fun f y => addT f (madd y.1 x.1) (qmul y.2 x.2)) f a) f b = some r → WF f → WF r := by
   intro b
   induction b with
   | nil => intro f r h w; cases h; exact w
   | cons x b ih =>
     intro f r h w
     refine ob12 (foldO_cons h) ?_; rintro g h1 h2
     exact ih g r h2 (fold_WF (key := fun y : Mon × Rat => madd y.1 x.1) (c := fun y => qmul y.2 x.2) h1 w)
 exact key b [] r h .nil
theorem co_notin {p : Poly} {k : Mon} (h : k ∉ p.map (·.1)) : co p k = 0 := by
 induction p with
 | nil => rfl
 | cons x p ih =>
   rw [List.map_cons, List.mem_cons, not_or] at h
   show x.2 * dl k x.1 + co p k = 0
   rw [ih h.2]
   unfold dl
   rw [if_neg (Ne.symm h.1)]; grind
theorem co_mem {p : Poly} (nd : Nd p) {x : Mon × Rat} (h : x ∈ p) : co p x.1 = x.2 := by
 induction p with
 | nil => (exfalso; cases h)
 | cons y p ih =>
   have nd' := nd.tail
   show y.2 * dl x.1 y.1 + co p x.1 = x.2
   rcases List.mem_cons.mp h with rfl | h
   · rw [co_notin nd'.1]; unfold dl; rw [if_pos rfl]; grind
   · have : y.1 ≠ x.1 := fun e => nd'.1 (List.mem_map.mpr (mx12 x h e.symm))
     unfold dl
     rw [if_neg this, ih nd'.2 h]; grind
theorem WF.co_ne {p : Poly} (w : WF p) {x : Mon × Rat} (h : x ∈ p) : co p x.1 ≠ 0 := by rw [co_mem w.nd h]; exact w.nz x h
theorem WF.in_of {p : Poly} {k : Mon} (h : co p k ≠ 0) : ∃ x ∈ p, x.1 = k := by
 by_cases e : k ∈ p.map (·.1)
 · refine ob12 (List.mem_map.mp e) ?_; rintro x hx rfl; exact (mx12 x hx rfl)
 · exact absurd (co_notin e) h
theorem WF.nil_of {p : Poly} (w : WF p) (h : ∀ k, co p k = 0) : p = [] := by
 cases p with
 | nil => rfl
 | cons x p => exact absurd (h x.1) (w.co_ne List.mem_cons_self)
/-! sizes -/
noncomputable def Fx (E N : Nat) (r : Rat) : Prop := ∃ m : Int, r * ((2 ^ E : Nat) : Rat) = (m : Rat) ∧ m.natAbs ≤ N
theorem Fx.add {E N M : Nat} {r s : Rat} (h : Fx E N r) (k : Fx E M s) : Fx E (N + M) (r + s) := by
 refine ob12 h ?_; clear h; rintro m h1 h2
 refine ob12 k ?_; clear k; rintro l k1 k2
 exact ⟨m + l, by rw [Rat.add_mul, h1, k1, Rat.intCast_add], by omega⟩
theorem Fx.le {E N M : Nat} {r : Rat} (h : Fx E N r) (k : N ≤ M) : Fx E M r := let ⟨m, h1, h2⟩ := h; ⟨m, h1, Nat.le_trans h2 k⟩
theorem Fx.zero (E N : Nat) : Fx E N 0 := ⟨0, by rw [Rat.zero_mul]; rfl, Nat.zero_le _⟩
theorem Fx.neg {E N : Nat} {r : Rat} (h : Fx E N r) : Fx E N (-r) := by
 refine ob12 h ?_; clear h; rintro m h1 h2
 exact ⟨-m, by rw [Rat.intCast_neg, ← h1]; grind, by omega⟩
theorem Fx.mulI {E N : Nat} {r : Rat} (h : Fx E N r) (c : Int) : Fx E (N * c.natAbs) (r * (c : Rat)) := by
 refine ob12 h ?_; clear h; rintro m h1 h2
 refine ⟨m * c, by rw [Rat.intCast_mul, ← h1]; grind, ?_⟩
 rw [Int.natAbs_mul]; exact Nat.mul_le_mul_right _ h2
theorem two_pow (E : Nat) : ((2 ^ (E + 1) : Nat) : Rat) = ((2 ^ E : Nat) : Rat) * 2 := by
 rw [Nat.pow_succ, Rat.natCast_mul]; rfl
theorem Fx.up {E N : Nat} {r : Rat} (h : Fx E N r) : Fx (E + 1) (N * 2) r := by
 refine ob12 h ?_; clear h; rintro m h1 h2
 refine ⟨m * 2, ?_, by rw [Int.natAbs_mul]; exact Nat.mul_le_mul_right _ h2⟩
 rw [two_pow, Rat.intCast_mul, ← h1]
 have : ((2 : Int) : Rat) = 2 := rfl
 rw [this]; grind
theorem Fx.half {E N : Nat} {r t : Rat} {n : Int} (h : Fx E N r) (e : t * 2 = r * (n : Rat)) : Fx (E + 1) (N * n.natAbs) t := by
 refine ob12 h ?_; clear h; rintro m h1 h2
 refine ⟨m * n, ?_, by rw [Int.natAbs_mul]; exact Nat.mul_le_mul_right _ h2⟩
 rw [two_pow, Rat.intCast_mul, ← h1]; grind
theorem Fx.sizes {E N : Nat} {r : Rat} (h : Fx E N r) : r.den ≤ 2 ^ E ∧ r.num.natAbs ≤ N := by
 refine ob12 h ?_; clear h; rintro m h1 h2
 have hp : 0 < 2 ^ E := Nat.pow_pos (by decide)
 have hne : (((2 ^ E : Nat) : Int)) ≠ 0 := by exact Int.ne_of_gt (il1 (cL hp))
 have e : r = Rat.divInt m ((2 ^ E : Nat) : Int) := by
   have hz : ((2 ^ E : Nat) : Rat) ≠ 0 := by
     intro z
     have := Rat.natCast_eq_zero_iff.mp z
     exact nF (li2 hp (eL this))
   rw [Rat.divInt_eq_div]
   have : (((2 ^ E : Nat) : Int) : Rat) = ((2 ^ E : Nat) : Rat) := rfl
   rw [this, ← h1]; grind
 rw [e, Rat.num_divInt, Rat.den_divInt, if_neg hne]
 refine ⟨?_, ?_⟩
 · rw [Int.natAbs_natCast]; exact Nat.div_le_self _ _
 · rw [Int.sign_eq_one_of_pos (by exact il1 (cL hp)), Int.one_mul, Int.natAbs_ediv_of_dvd (by
     have := Int.gcd_dvd_right (a := ((2 ^ E : Nat) : Int)) (b := m); exact this)]
   exact Nat.le_trans (Nat.div_le_self _ _) h2
theorem Fx.okR {E N : Nat} {r : Rat} (h : Fx E N r) (hE : E ≤ 61) (hN : N < 2 ^ 62) : okR r = true := by
 refine ob02 h.sizes ?_; rintro h1 h2
 have : 2 ^ E ≤ 2 ^ 61 := Nat.pow_le_pow_right (by decide) hE
 unfold Mine.okR
 rw [Bool.and_eq_true, Nat.blt_eq, Nat.blt_eq]
 exact ⟨by exact li2 hN h2, by omega⟩
theorem Fx.okD {E N : Nat} {r : Rat} (h : Fx E N r) (hE : E ≤ 61) : okD r = true := by
 refine ob02 h.sizes ?_; rintro h1 h2
 have : 2 ^ E ≤ 2 ^ 61 := Nat.pow_le_pow_right (by decide) hE
 unfold Mine.okD
 rw [Nat.blt_eq]; omega
noncomputable abbrev kk (i j : Int) : Mon := [i, j]
noncomputable def K2 (p : Poly) : Prop := ∀ x ∈ p, ∃ i j : Nat, x.1 = kk i j ∧ i ≤ 2 ∧ i + j ≤ 6
noncomputable def rk (k : Mon) : Int := 8 * iat k 0 + iat k 1
theorem rk_kk (i j : Int) : rk (kk i j) = 8 * i + j := rfl
theorem mgt_rk {i j i' j' : Nat} (hj : j < 8) (hj' : j' < 8) : mgt (kk i j) (kk i' j') = decide (rk (kk i j) > rk (kk i' j')) := by
 rw [rk_kk, rk_kk]
 show cond (ieq i i') (cond (ieq j j') false (!(ile j j'))) (!(ile i i')) = _
 rw [ieq_eq, ieq_eq, ile_eq, ile_eq]
 rw [Bool.eq_iff_iff, decide_eq_true_eq]
 by_cases h1 : (i : Int) = i'
 · rw [decide_eq_true h1]
   by_cases h2 : (j : Int) = j'
   · rw [decide_eq_true h2]; simp; exact il2 (jM 8 (iL h1)) (iL h2)
   · rw [decide_eq_false h2]; simp; exact Iff.intro (fun hh => (il2 (jM 8 (iG h1)) (cL hh))) (fun hh => (nD (il2 (jM 8 (iL h1)) hh)))
 · rw [decide_eq_false h1]; simp; omega
theorem lead_max {p : Poly} {l : Mon × Rat} (hk : K2 p) (h : leadE p = some l) : ∀ x ∈ p, rk x.1 ≤ rk l.1 := by
 have key : ∀ (p : Poly) (b : Mon × Rat), K2 (b :: p) → rk b.1 ≤ rk (p.foldl (fun b y => cond (mgt y.1 b.1) y b) b).1 ∧ ∀ x ∈ p, rk x.1 ≤ rk (p.foldl (fun b y => cond (mgt y.1 b.1) y b) b).1 := by
   intro p
   induction p with
   | nil => intro b _; exact ⟨Int.le_refl _, fun x hx => nomatch hx⟩
   | cons y p ih =>
     intro b hk
     refine ob23 (hk y (List.mem_cons_of_mem _ List.mem_cons_self)) ?_; rintro i j e1 _ h1
     refine ob23 (hk b List.mem_cons_self) ?_; rintro i' j' e2 _ h2
     have hm : mgt y.1 b.1 = decide (rk y.1 > rk b.1) := by rw [e1, e2]; exact mgt_rk (by exact li1 h1) (by exact li1 h2)
     rw [List.foldl_cons]
     have hsub : K2 ((cond (mgt y.1 b.1) y b) :: p) := by
       intro x hx
       rcases List.mem_cons.mp hx with rfl | hx
       · cases mgt y.1 b.1 with
         | true => exact hk _ (List.mem_cons_of_mem _ List.mem_cons_self)
         | false => exact hk _ List.mem_cons_self
       · exact hk _ (List.mem_cons_of_mem _ (List.mem_cons_of_mem _ hx))
     refine ob02 (ih _ hsub) ?_; rintro a1 a2
     have hb : rk b.1 ≤ rk (cond (mgt y.1 b.1) y b).1 ∧ rk y.1 ≤ rk (cond (mgt y.1 b.1) y b).1 := by
       rw [hm]
       by_cases q : rk y.1 > rk b.1
       · rw [decide_eq_true q]; exact ⟨Int.le_of_lt q, Int.le_refl _⟩
       · rw [decide_eq_false q]; exact ⟨Int.le_refl _, by show rk y.1 ≤ rk b.1; exact il1 (jG q)⟩
     refine ⟨Int.le_trans hb.1 a1, fun x hx => ?_⟩
     rcases List.mem_cons.mp hx with rfl | hx
     · exact Int.le_trans hb.2 a1
     · exact a2 x hx
 cases p with
 | nil => (exfalso; cases h)
 | cons b p =>
   have h := Option.some.inj h
   rw [← h]
   intro x hx
   rcases List.mem_cons.mp hx with rfl | hx
   · exact (key p x hk).1
   · exact (key p b hk).2 x hx
theorem rk_inj {i j i' j' : Nat} (h : rk (kk i j) = rk (kk i' j')) (h1 : j < 8) (h2 : j' < 8) : kk (i : Int) j = kk i' j' := by
 rw [rk_kk, rk_kk] at h
 have : i = i' := by omega
 have : j = j' := by exact Nat.le_antisymm (nC (il2 (iL h) (jM 8 (cN (eG this))))) (nC (il2 (iG h) (jM 8 (cN (eL this)))))
 subst i' j'; rfl
noncomputable def Dy (E : Nat) (r : Rat) : Prop := ∃ N, Fx E N r
theorem Dy.add {E : Nat} {r s : Rat} (h : Dy E r) (k : Dy E s) : Dy E (r + s) := let ⟨_, a⟩ := h; let ⟨_, b⟩ := k; ⟨_, a.add b⟩
theorem Dy.okD {E : Nat} {r : Rat} (h : Dy E r) (hE : E ≤ 61) : okD r = true := let ⟨_, a⟩ := h; a.okD hE
theorem addT_ok {E : Nat} (hE : E ≤ 61) {k : Mon} {r : Rat} (hr : Dy E r) : ∀ {p : Poly}, (∀ x ∈ p, Dy E x.2) → ∃ q, addT p k r = some q ∧ ∀ x ∈ q, Dy E x.2
 | [], _ => by
   refine (mx12 _ rfl (fun x hx => ?_))
   cases hz : qz r with
   | true => rw [hz] at hx; (exfalso; cases hx)
   | false => rw [hz] at hx; rw [List.mem_singleton.mp hx]; exact hr
 | (k', r') :: p, h => by
   have h' : Dy E r' := h (k', r') List.mem_cons_self
   have hp : ∀ x ∈ p, Dy E x.2 := fun x hx => h x (List.mem_cons_of_mem _ hx)
   dsimp only [addT]
   cases e : meq k' k with
   | true =>
     rw [h'.okD hE, hr.okD hE]
     refine (mx12 _ rfl (fun x hx => ?_))
     have hx : x ∈ cond (qz (qadd r' r)) p ((k', qadd r' r) :: p) := hx
     cases hz : qz (qadd r' r) with
     | true => rw [hz] at hx; exact hp x hx
     | false =>
       rw [hz] at hx
       rcases List.mem_cons.mp hx with rfl | hx
       · show Dy E (qadd r' r); rw [qadd_eq]; exact h'.add hr
       · exact hp x hx
   | false =>
     refine ob12 (addT_ok hE hr hp (k := k)) ?_; rintro q hq hd
     rw [hq]
     refine (mx12 _ rfl (fun x hx => ?_))
     rcases List.mem_cons.mp hx with rfl | hx
     · exact h'
     · exact hd x hx
theorem fold_ok {α : Type} {key : α → Mon} {c : α → Rat} {E : Nat} (hE : E ≤ 61) : ∀ {a : List α} {f : Poly}, (∀ x ∈ f, Dy E x.2) → (∀ y ∈ a, Dy E (c y)) → ∃ r, foldO (fun f y => addT f (key y) (c y)) f a = some r ∧ ∀ x ∈ r, Dy E x.2
 | [], f, h, _ => (mx12 f rfl h)
 | y :: a, f, h, ha => by
   refine ob12 (addT_ok hE (ha y List.mem_cons_self) h (k := key y)) ?_; rintro g hg hd
   refine ob12 (fold_ok hE hd (fun z hz => ha z (List.mem_cons_of_mem _ hz)) (key := key)) ?_; rintro r hr hd2
   refine (mx12 r ?_ hd2)
   dsimp only [foldO]
   rw [hg]; exact hr
theorem addE_some {a b : Poly} {E : Nat} (hE : E ≤ 61) (ha : okP a = true) (h1 : ∀ x ∈ a, Dy E x.2) (h2 : ∀ x ∈ b, Dy E x.2) : ∃ r, addE a b = some r := by
 refine ob12 (fold_ok (key := fun x : Mon × Rat => x.1) (c := fun x => x.2) hE h1 h2) ?_; rintro r hr _
 refine ⟨r, ?_⟩
 unfold addE
 rw [ha]; exact hr
theorem okP_of {p : Poly} {E N : Nat} (w : WF p) (hk : K2 p) (hf : ∀ i j : Int, Fx E N (co p (kk i j))) (hE : E ≤ 61) (hN : N < 2 ^ 62) (hl : p.length ≤ 1000) : okP p = true := by
 refine okP_iff.mpr ⟨hl, fun x hx => ?_⟩
 refine ob23 (hk x hx) ?_; rintro i j e h1 h2
 refine ⟨?_, ?_⟩
 · rw [e]
   show (okI 16 (i : Int) && okI 16 (j : Int)) = true
   rw [Bool.and_eq_true]
   exact ⟨Nat.blt_eq.mpr (by exact li1 h1), Nat.blt_eq.mpr (by exact li1 h2)⟩
 · rw [← co_mem w.nd hx, e]; exact (hf i j).okR hE hN
structure BOK (B : Poly) (l0 l1 : Nat) (c : Rat) : Prop where
 wf : WF B
 ok : okP B = true
 lead : leadE B = some (kk l0 l1, c)
 len : B.length ≤ 4
 key : ∀ x ∈ B, ∃ p q : Nat, x.1 = kk p q ∧ p ≤ l0 ∧ (p = l0 → q ≤ l1) ∧ p + q ≤ l0 + l1 ∧ q ≤ 1
 small : l0 ≤ 1 ∧ l1 ≤ 1
 rat : ∀ x ∈ B, ∃ n : Int, x.2 * 2 = c * (n : Rat) ∧ n.natAbs ≤ 2
 cinv : ∃ d : Int, c * (d : Rat) = 2 ∧ d.natAbs ≤ 2
 okc : okR c = true
 c0 : c ≠ 0
noncomputable def Exact (B : Poly) (l0 l1 : Nat) (left : Poly) (R : Nat) : Prop := ∃ Q : Int → Int → Rat, (∀ i j : Int, co left (kk i j) = lin B (fun k => Q (i - iat k 0) (j - iat k 1))) ∧
 ∀ i j, Q i j ≠ 0 → 0 ≤ i ∧ 0 ≤ j ∧ j ≤ 6 ∧ 8 * i + j + (8 * l0 + l1) < (R : Int)
theorem top_co {B : Poly} {l0 l1 : Nat} {c : Rat} (hB : BOK B l0 l1 c) {Q : Int → Int → Rat} {R : Nat} (hs : ∀ i j, Q i j ≠ 0 → 0 ≤ i ∧ 0 ≤ j ∧ j ≤ 6 ∧ 8 * i + j + (8 * l0 + l1) < ((R + 1 : Nat) : Int)) {i j : Int} (hR : 8 * i + j = R) :
   lin B (fun k => Q (i - iat k 0) (j - iat k 1)) = c * Q (i - l0) (j - l1) := by
 have e : lin B (fun k => Q (i - iat k 0) (j - iat k 1)) = lin B (fun k => Q (i - l0) (j - l1) * dl (kk l0 l1) k) := by
   refine lin_congr fun x hx => ?_
   refine ob25 (hB.key x hx) ?_; rintro p q e h1 h2 h3 h4
   rw [e]
   show Q (i - p) (j - q) = Q (i - l0) (j - l1) * dl (kk l0 l1) (kk p q)
   unfold dl
   by_cases z : kk (p : Int) q = kk l0 l1
   · rw [if_pos z]
     have hz : (p : Int) = l0 ∧ (q : Int) = l1 := by simpa [kk] using z
     rw [hz.1, hz.2]; grind
   · rw [if_neg z]
     by_cases w : Q (i - p) (j - q) = 0
     · rw [w]; grind
     · exfalso
       refine ob04 (hs _ _ w) ?_; rintro w1 w2 w3 w4
       have := hB.small
       have hne : ¬ (p = l0 ∧ q = l1) := fun ⟨a, b⟩ => z (by rw [a, b])
       omega
 rw [e, lin_smul]
 show Q (i - l0) (j - l1) * co B (kk l0 l1) = _
 rw [co_mem hB.wf.nd (leadE_mem hB.lead)]; grind
theorem co_shift {B : Poly} {s0 s1 : Int} {f : Rat} (hk : ∀ x ∈ B, ∃ p q : Nat, x.1 = kk p q) (i j : Int) : co (B.map fun x => (madd x.1 (kk s0 s1), x.2 * f)) (kk i j) = f * co B (kk (i - s0) (j - s1)) := by
 unfold co
 rw [lin_map B (fun k => madd k (kk s0 s1)) f]
 congr 1
 refine lin_congr fun x hx => ?_
 refine ob21 (hk x hx) ?_; rintro p q e
 rw [e]
 unfold dl
 have : (madd (kk p q) (kk s0 s1) = kk i j) = (kk (p : Int) q = kk (i - s0) (j - s1)) := by
   show ([(p : Int) + s0, (q : Int) + s1] = [i, j]) = ([(p : Int), (q : Int)] = [i - s0, j - s1])
   simp only [List.cons.injEq, and_true, eq_iff_iff]
   exact Iff.intro (fun hh => ⟨(Int.le_antisymm (il1 (iL hh.1)) (il1 (iG hh.1))), (Int.le_antisymm (il1 (iL hh.2)) (il1 (iG hh.2)))⟩) (fun hh => ⟨(Int.le_antisymm (il1 (iL hh.1)) (il1 (iG hh.1))), (Int.le_antisymm (il1 (iL hh.2)) (il1 (iG hh.2)))⟩)
 simp only [this]
theorem divE_nil (n : Nat) (so ls qs rest) : divE (n + 1) [] so ls qs rest = some (qs, rest) := rfl
theorem divE_none {n : Nat} {left : Poly} {so ls qs rest} {k : Mon} {r : Rat} (hok : okP left = true) (hl : leadE left = some (k, r)) (hf : firstE k ls 0 = none) : divE (n + 1) left so ls qs rest = divE n (delE left k) so ls qs (putE rest k r) := by
 show cond (okP left) (Option.elim (leadE left) _ _) none = _
 rw [hok, hl]
 show Option.elim (firstE k ls 0) _ _ = _
 rw [hf]; rfl
theorem divE_some {n : Nat} {left : Poly} {so ls qs rest} {k : Mon} {r : Rat} {i : Nat} {lb : Mon × Rat} {q sh left' : Poly} (hok : okP left = true) (hl : leadE left = some (k, r)) (hf : firstE k ls 0 = some i) (hlb : ls.getD i none = some lb)
   (h1 : okR lb.2 = true) (h2 : lb.2 ≠ 0) (h3 : r ≠ 0) (h4 : addT (qs.getD i []) (msub k lb.1) (r / lb.2) = some q) (h5 : shiftE (so.getD i []) (msub k lb.1) (r / lb.2) = some sh) (h6 : subE left sh = some left') :
   divE (n + 1) left so ls qs rest = divE n left' so ls (qs.set i q) rest := by
 show cond (okP left) (Option.elim (leadE left) _ _) none = _
 rw [hok, hl]
 show Option.elim (firstE k ls 0) _ _ = _
 rw [hf]
 show Option.bind (ls.getD i none) _ = _
 rw [hlb]
 show cond (okR lb.2 && !qz lb.2 && !qz r) (Option.bind (addT (qs.getD i []) (msub k lb.1) (qdiv r lb.2)) fun q => Option.bind (shiftE (so.getD i []) (msub k lb.1) (qdiv r lb.2)) fun sh => Option.bind (subE left sh) fun left' => divE n left' so ls (qs.set i q) rest) none = _
 rw [h1, qz_eq, qz_eq, decide_eq_false h2, decide_eq_false h3, qdiv_eq, h4]
 show Option.bind (shiftE (so.getD i []) (msub k lb.1) (r / lb.2)) _ = _
 rw [h5]
 show Option.bind (subE left sh) _ = _
 rw [h6]; rfl
theorem fx_mem {p : Poly} {E N : Nat} (w : WF p) (hk : K2 p) (hf : ∀ i j : Int, Fx E N (co p (kk i j))) {x : Mon × Rat} (hx : x ∈ p) : Fx E N x.2 := by
 refine ob22 (hk x hx) ?_; rintro i j e _
 rw [← co_mem w.nd hx, e]; exact hf i j
theorem delE_WF {p : Poly} {k : Mon} (w : WF p) : WF (delE p k) := by
 rw [delE_eq w.nd]
 unfold ddel
 refine ⟨?_, fun x hx => w.nz x (List.mem_filter.mp hx).1⟩
 unfold Nd
 exact List.Sublist.nodup (List.Sublist.map _ List.filter_sublist) w.nd
theorem delE_ne {p : Poly} {k : Mon} (w : WF p) : ∀ x ∈ delE p k, x.1 ≠ k := by
 rw [delE_eq w.nd]
 unfold ddel
 intro x hx e
 have := (List.mem_filter.mp hx).2
 rw [e] at this; simp at this
theorem co_delE {p : Poly} {k : Mon} (w : WF p) (k' : Mon) : co (delE p k) k' = if k' = k then 0 else co p k' := by
 by_cases e : k' = k
 · rw [if_pos e]
   by_cases z : co (delE p k) k' = 0
   · exact z
   · refine ob12 (WF.in_of z) ?_; rintro x hx ex
     exact absurd (ex.trans e) (delE_ne w x hx)
 · rw [if_neg e]
   by_cases z : k' ∈ p.map (·.1)
   · refine ob12 (List.mem_map.mp z) ?_; rintro x hx rfl
     rw [co_mem w.nd hx]
     have hx' : x ∈ delE p k := by
       rw [delE_eq w.nd]; unfold ddel
       exact List.mem_filter.mpr ⟨hx, by simpa using e⟩
     exact co_mem (delE_WF w).nd hx'
   · rw [co_notin z]
     refine co_notin fun hm => z ?_
     refine ob12 (List.mem_map.mp hm) ?_; rintro x hx rfl
     exact List.mem_map.mpr (mx12 x (delE_sub x hx) rfl)
theorem delE_len (p : Poly) (k : Mon) : (delE p k).length ≤ p.length := by
 induction p with
 | nil => exact Nat.le_refl _
 | cons x p ih =>
   obtain ⟨k', r'⟩ := x
   dsimp only [delE]
   cases meq k' k with
   | true => exact Nat.le_succ _
   | false => exact Nat.succ_le_succ ih
theorem mdvd_kk {a b i j : Int} : mdvd (kk a b) (kk i j) = (decide (a ≤ i) && decide (b ≤ j)) := by
 show cond (ile a i) (cond (ile b j) true false) false = _
 rw [ile_eq, ile_eq]
 cases decide (a ≤ i) <;> cases decide (b ≤ j) <;> rfl
theorem pow4 (R : Nat) : 4 ^ (R + 1) = 4 * 4 ^ R := by rw [Nat.pow_succ, Nat.mul_comm]
theorem div_main {B : Poly} {l0 l1 : Nat} {c : Rat} (hB : BOK B l0 l1 c) : ∀ (R E N fuel : Nat) (left q rest : Poly), E + R ≤ 61 → N * 4 ^ R < 2 ^ 62 → left.length + 4 * R ≤ 1000 → WF left → K2 left → (∀ x ∈ left, rk x.1 < R) →
   (∀ i j : Int, Fx E N (co left (kk i j))) → (∀ x ∈ q, (R : Int) ≤ rk x.1 + rk (kk l0 l1)) → R < fuel →
   ∃ q' rest', divE fuel left [B] [some (kk l0 l1, c)] [q] rest = some ([q'], rest') ∧ (Exact B l0 l1 left R → rest' = rest) := by
 intro R
 induction R with
 | zero =>
   intro E N fuel left q rest _ _ _ w hk hr _ _ hfu
   have : left = [] := by
     cases left with
     | nil => rfl
     | cons x p =>
       exfalso
       have h1 := hr x List.mem_cons_self
       refine ob22 (hk x List.mem_cons_self) ?_; rintro i j e _
       rw [e, rk_kk] at h1; exact jF (il3 h1 (jM 8 (c0 i)) (c0 j))
   subst this
   obtain ⟨n, rfl⟩ : ∃ n, fuel = n + 1 := ⟨fuel - 1, by exact Nat.le_antisymm (li1 (sA fuel 1)) (li1 (sL (show 1 ≤ fuel from (li1 hfu))))⟩
   exact (mx22 q rest (divE_nil ..) (fun _ => rfl))
 | succ R ih =>
   intro E N fuel left q rest hE hN hl w hk hr hf hq hfu
   have hN4 : N * 4 * 4 ^ R < 2 ^ 62 := by rw [pow4, ← Nat.mul_assoc] at hN; exact hN
   have hN1 : N < 2 ^ 62 := by
     have h1 : 1 ≤ 4 ^ (R + 1) := Nat.pow_pos (by decide)
     exact Nat.lt_of_le_of_lt (Nat.le_mul_of_pos_right N h1) hN
   by_cases hex : ∃ x ∈ left, rk x.1 = R
   rotate_left
   · have hr' : ∀ x ∈ left, rk x.1 < R := fun x hx => by
       have h1 := hr x hx
       have h2 : rk x.1 ≠ R := fun z => hex (mx12 x hx z)
       omega
     refine ob22 (ih E N fuel left q rest (by exact li1 hE) (by
       refine Nat.lt_of_le_of_lt (Nat.mul_le_mul_left N ?_) hN
       exact Nat.pow_le_pow_right (by decide) (Nat.le_succ R)) (by exact li1 hl) w hk hr' hf (fun x hx => by have := hq x hx; exact il1 this) (by exact li1 hfu)) ?_; rintro q' rest' h1 h2
     refine (mx22 q' rest' h1 (fun hx => h2 ?_))
     refine ob12 hx ?_; clear hx; rintro Q e1 e2
     refine ⟨Q, e1, fun i j hij => ?_⟩
     refine ob04 (e2 i j hij) ?_; rintro a1 a2 a3 a4
     refine (mx04 a1 a2 a3 ?_)
     by_cases z : 8 * i + j + (8 * l0 + l1) = (R : Int)
     · exfalso
       have ht := top_co hB e2 (i := i + l0) (j := j + l1) (by exact Int.le_antisymm (il1 (iL z)) (il1 (iG z)))
       rw [← e1, show i + (l0 : Int) - l0 = i by exact Int.le_antisymm il0 il0, show j + (l1 : Int) - l1 = j by exact Int.le_antisymm il0 il0] at ht
       have hne : co left (kk (i + l0) (j + l1)) ≠ 0 := by
         rw [ht]; intro zz
         rcases Rat.mul_eq_zero.mp zz with q1 | q1
         · exact hB.c0 q1
         · exact hij q1
       refine ob12 (WF.in_of hne) ?_; rintro x hx ex
       exact hex (mx12 x hx (by rw [ex, rk_kk]; exact Int.le_antisymm (il1 (iL z)) (il1 (iG z))))
     · omega
   · obtain ⟨n, rfl⟩ : ∃ n, fuel = n + 1 := ⟨fuel - 1, by exact Nat.le_antisymm (li1 (sA fuel 1)) (li1 (sL (show 1 ≤ fuel from (li1 hfu))))⟩
     refine ob12 hex ?_; clear hex; rintro x0 hx0 hx0R
     obtain ⟨⟨k, r⟩, hlead⟩ : ∃ l, leadE left = some l := by
       cases e : leadE left with
       | none => rw [leadE_nil.mp e] at hx0; (exfalso; cases hx0)
       | some l => exact ⟨l, rfl⟩
     have hkm : (k, r) ∈ left := leadE_mem hlead
     have hkR : rk k = R := by
       have h1 := lead_max hk hlead x0 hx0
       have h2 := hr _ hkm
       have h1 : rk x0.1 ≤ rk k := h1
       have h2 : rk k < ((R + 1 : Nat) : Int) := h2
       exact Int.le_antisymm (il1 h2) (il2 (iG hx0R) h1)
     refine ob23 (hk _ hkm) ?_; rintro i j ek hi hij
     have ek : k = kk i j := ek
     subst ek
     have hcr : co left (kk i j) = r := co_mem w.nd hkm
     have hr0 : r ≠ 0 := w.nz _ hkm
     have hkR' : 8 * (i : Int) + j = R := hkR
     have hok : okP left = true := okP_of w hk hf (by exact li1 hE) hN1 (by exact li1 hl)
     have hlt : ∀ x ∈ left, x.1 ≠ kk i j → rk x.1 < R := fun x hx hne => by
       have h1 := hr x hx
       refine ob23 (hk x hx) ?_; rintro a b ea ha hb
       have : rk x.1 ≠ R := fun z => hne (by rw [ea] at z ⊢; exact rk_inj (z.trans hkR.symm) (by exact li1 hb) (by exact li1 hij))
       omega
     by_cases hd : (l0 : Int) ≤ i ∧ (l1 : Int) ≤ j
     rotate_left
     · have hfirst : firstE (kk i j) [some (kk l0 l1, c)] 0 = none := by
         show cond (mdvd (kk l0 l1) (kk i j)) (some 0) none = none
         rw [mdvd_kk]
         have : (decide ((l0 : Int) ≤ i) && decide ((l1 : Int) ≤ j)) = false := by
           rw [Bool.and_eq_false_iff, decide_eq_false_iff_not, decide_eq_false_iff_not]
           omega
         rw [this]; rfl
       refine ob22 (ih E N n (delE left (kk i j)) q (putE rest (kk i j) r) (by exact li1 hE) (by
         refine Nat.lt_of_le_of_lt (Nat.mul_le_mul_left N ?_) hN
         exact Nat.pow_le_pow_right (by decide) (Nat.le_succ R)) (by have := delE_len left (kk i j); exact li2 hl this) (delE_WF w) (fun x hx => hk x (delE_sub x hx)) (fun x hx => hlt x (delE_sub x hx) (delE_ne w x hx))
         (fun a b => by
           rw [co_delE w]
           by_cases z : kk a b = kk i j
           · rw [if_pos z]; exact .zero _ _
           · rw [if_neg z]; exact hf a b) (fun x hx => by have := hq x hx; exact il1 this) (by exact li1 hfu)) ?_; rintro q' rest' h1 h2
       refine (mx22 q' rest' (by rw [divE_none hok hlead hfirst]; exact h1) (fun hx => ?_))
       exfalso
       refine ob12 hx ?_; clear hx; rintro Q e1 e2
       have ht := top_co hB e2 (i := i) (j := j) (by exact Int.le_antisymm (il1 (iL hkR')) (il1 (iG hkR')))
       rw [← e1, hcr] at ht
       have : Q ((i : Int) - l0) ((j : Int) - l1) = 0 := by
         by_cases z : Q ((i : Int) - l0) ((j : Int) - l1) = 0
         · exact z
         · exfalso
           refine ob03 (e2 _ _ z) ?_; rintro a1 a2 _
           omega
       rw [this, Rat.mul_zero] at ht
       exact hr0 ht
     · refine ob02 hd ?_; clear hd; rintro hd0 hd1
       have hfirst : firstE (kk i j) [some (kk l0 l1, c)] 0 = some 0 := by
         show cond (mdvd (kk l0 l1) (kk i j)) (some 0) none = some 0
         rw [mdvd_kk, decide_eq_true hd0, decide_eq_true hd1]; rfl
       have hms : msub (kk i j) (kk l0 l1) = kk ((i : Int) - l0) ((j : Int) - l1) := rfl
       refine ob12 hB.cinv ?_; rintro dd hdd hdn
       have hfr : Fx E N r := fx_mem w hk hf hkm
       have hff : Fx (E + 1) (N * dd.natAbs) (r / c) := hfr.half (n := dd) (by
         have hc0 := hB.c0
         have : r / c * 2 = r / c * (c * (dd : Rat)) := by rw [hdd]
         rw [this]
         grind)
       have hff2 : Fx (E + 1) (N * 2) (r / c) := hff.le (Nat.mul_le_mul_left N hdn)
       have hN2 : N * 2 < 2 ^ 62 := by
         have h1 : 1 ≤ 4 ^ R := Nat.pow_pos (by decide)
         have : N * 4 ≤ N * 4 * 4 ^ R := Nat.le_mul_of_pos_right _ h1
         omega
       have hokf : okR (r / c) = true := hff2.okR (by exact li1 hE) hN2
       have hfne : r / c ≠ 0 := div_ne hr0 hB.c0
       have hadd : addT ([q].getD 0 []) (msub (kk i j) (kk l0 l1)) (r / c) = some (q ++ [(kk ((i : Int) - l0) ((j : Int) - l1), r / c)]) := by
         show addT q (msub (kk i j) (kk l0 l1)) (r / c) = _
         rw [hms]
         have hn : dget q (kk ((i : Int) - l0) ((j : Int) - l1)) = none := dget_none.mpr fun hm => by
           refine ob12 (List.mem_map.mp hm) ?_; rintro x hx ex
           have := hq x hx
           rw [ex, rk_kk, rk_kk] at this
           exact jF (il2 (iL hkR') this)
         rw [addT_none hn, if_neg hfne, dput_new (dget_none.mp hn)]
       have hBk : ∀ x ∈ B, ∃ p q : Nat, x.1 = kk p q := fun x hx => let ⟨p, q, e, _⟩ := hB.key x hx; ⟨p, q, e⟩
       have hsh : shiftE ([B].getD 0 []) (msub (kk i j) (kk l0 l1)) (r / c) = some (B.map fun x => (madd x.1 (kk ((i : Int) - l0) ((j : Int) - l1)), x.2 * (r / c))) := by
         show shiftE B (msub (kk i j) (kk l0 l1)) (r / c) = _
         rw [hms]
         unfold shiftE
         have hlen : lenIs (kk ((i : Int) - l0) ((j : Int) - l1)).length B = true := lenIs_iff.mpr fun x hx => by
           refine ob21 (hBk x hx) ?_; rintro p q e; rw [e]; rfl
         rw [hB.ok, hokf, hlen, qz_eq, decide_eq_false hfne]
         show some (B.map fun x => (madd x.1 (kk ((i : Int) - l0) ((j : Int) - l1)), qmul x.2 (r / c))) = _
         congr 1
         exact List.map_congr_left fun x _ => by rw [qmul_eq]
       generalize hshd : (B.map fun x => (madd x.1 (kk ((i : Int) - l0) ((j : Int) - l1)), x.2 * (r / c))) = sh at hsh
       have hco : ∀ a b : Int, co sh (kk a b) = (r / c) * co B (kk (a - (i - l0)) (b - (j - l1))) := fun a b => by rw [← hshd]; exact co_shift hBk a b
       have hBx : ∀ x ∈ B, Fx (E + 1) (N * 2) (x.2 * (r / c)) := fun x hx => by
         refine ob12 (hB.rat x hx) ?_; rintro m hm hmn
         refine (hfr.half (n := m) (t := x.2 * (r / c)) ?_).le (Nat.mul_le_mul_left N hmn)
         have hc0 := hB.c0
         have : x.2 * (r / c) * 2 = (x.2 * 2) * (r / c) := by grind
         rw [this, hm]; grind
       have hshx : ∀ x ∈ sh, Fx (E + 1) (N * 2) x.2 := fun x hx => by
         rw [← hshd] at hx
         refine ob12 (List.mem_map.mp hx) ?_; rintro y hy rfl
         exact hBx y hy
       have hBco : ∀ a b : Int, Fx (E + 1) (N * 2) ((r / c) * co B (kk a b)) := fun a b => by
         by_cases z : co B (kk a b) = 0
         · rw [z, Rat.mul_zero]; exact .zero _ _
         · refine ob12 (WF.in_of z) ?_; rintro x hx ex
           rw [← ex, co_mem hB.wf.nd hx, Rat.mul_comm]; exact hBx x hx
       obtain ⟨left', hsub⟩ : ∃ left', subE left sh = some left' := addE_some (E := E + 1) (by exact li1 hE) hok (fun x hx => ⟨_, (fx_mem w hk hf hx).up⟩) (fun x hx => by
         refine ob12 (List.mem_map.mp hx) ?_; rintro y hy rfl
         exact ⟨_, (hshx y hy).neg⟩)
       have hcl : ∀ a b : Int, co left' (kk a b) = co left (kk a b) - (r / c) * co B (kk (a - (i - l0)) (b - (j - l1))) := fun a b => by
         have := lin_subE hsub (dl (kk a b))
         show lin left' (dl (kk a b)) = _
         rw [this, ← hco]; rfl
       have hcB : co B (kk l0 l1) = c := co_mem hB.wf.nd (leadE_mem hB.lead)
       have hzero : co left' (kk i j) = 0 := by
         rw [hcl, hcr, show (i : Int) - (i - l0) = l0 by exact Int.le_antisymm il0 il0, show (j : Int) - (j - l1) = l1 by exact Int.le_antisymm il0 il0, hcB]
         have hc0 := hB.c0
         grind
       have w' : WF left' := addE_WF hsub w
       have hkey : ∀ x ∈ left', (∃ a b : Nat, x.1 = kk a b ∧ a ≤ 2 ∧ a + b ≤ 6) ∧ rk x.1 < R := fun x hx => by
         have hxne : x.1 ≠ kk i j := fun z => by
           have := w'.co_ne hx
           rw [z] at this; exact this hzero
         rcases addE_keys hsub x hx with ⟨y, hy, e⟩ | ⟨y, hy, e⟩
         · rw [← e]; exact ⟨hk y hy, hlt y hy (by rw [e]; exact hxne)⟩
         · refine ob12 (List.mem_map.mp hy) ?_; rintro z hz rfl
           rw [← hshd] at hz
           refine ob12 (List.mem_map.mp hz) ?_; rintro v hv rfl
           refine ob25 (hB.key v hv) ?_; rintro p q2 ev h1 h2 h3 h4
           have e : madd v.1 (kk ((i : Int) - l0) ((j : Int) - l1)) = x.1 := e
           rw [ev] at e
           have hsm := hB.small
           have e2 : x.1 = kk ((p + (i - l0) : Nat) : Int) ((q2 + (j - l1) : Nat) : Int) := by
             rw [← e]
             show [(p : Int) + (i - l0), (q2 : Int) + (j - l1)] = [_, _]
             congr 1
             · exact Int.le_antisymm (il1 (cN (sA i l0))) (il1 (cN (sL (show l0 ≤ i from (nC (il1 hd0))))))
             · congr 1; exact Int.le_antisymm (il1 (cN (sA j l1))) (il1 (cN (sL (show l1 ≤ j from (nC (il1 hd1))))))
           refine ⟨(mx23 _ _ e2 (by exact li3 hi h1 (sL (show l0 ≤ i from (nC (il1 hd0))))) (by exact li4 hij h3 (sL (show l0 ≤ i from (nC (il1 hd0)))) (sL (show l1 ≤ j from (nC (il1 hd1)))))), ?_⟩
           rw [e2, rk_kk]
           by_cases zp : p = l0
           · have hq1 := h2 zp
             by_cases zq : q2 = l1
             · exfalso
               apply hxne
               rw [e2, zp, zq]
               congr 1
               · exact Int.le_antisymm (il1 (cN (sL (show l0 ≤ i from (nC (il1 hd0)))))) (il1 (cN (sA i l0)))
               · congr 1; exact Nat.le_antisymm (li1 (sL (show l1 ≤ j from (nC (il1 hd1))))) (li1 (sA j l1))
             · omega
           · omega
       have hlen' : left'.length ≤ left.length + 4 := by
         have h1 := foldA_len (k := fun x : Mon × Rat => x.1) (addE_ok hsub).2
         rw [negE_len] at h1
         have h2 : sh.length = B.length := by rw [← hshd, List.length_map]
         have := hB.len
         exact li3 h1 (eL h2) this
       refine ob22 (ih (E + 1) (N * 4) n left' (q ++ [(kk ((i : Int) - l0) ((j : Int) - l1), r / c)]) rest (by exact li1 hE) hN4 (by exact li2 hl hlen') w' (fun x hx => (hkey x hx).1) (fun x hx => (hkey x hx).2)
         (fun a b => by
           rw [hcl]
           have h1 : Fx (E + 1) (N * 2) (co left (kk a b)) := (hf a b).up
           have h2 := (hBco (a - (i - l0)) (b - (j - l1))).neg
           have h3 := h1.add h2
           rw [show N * 2 + N * 2 = N * 4 by exact Nat.le_antisymm li0 li0] at h3
           have e : ∀ u v : Rat, u + -v = u - v := fun u v => by grind
           rw [e] at h3; exact h3) (fun x hx => by
             rcases List.mem_append.mp hx with hx | hx
             · have := hq x hx; exact il1 this
             · rw [List.mem_singleton.mp hx]
               show (R : Int) ≤ rk (kk ((i : Int) - l0) ((j : Int) - l1)) + rk (kk l0 l1)
               rw [rk_kk, rk_kk]; exact il1 (iG hkR')) (by exact li1 hfu)) ?_; rintro q' rest' h1 h2
       refine (mx22 q' rest' ?_ (fun hx => h2 ?_))
       · rw [divE_some (lb := (kk l0 l1, c)) hok hlead hfirst rfl hB.okc hB.c0 hr0 hadd hsh hsub]
         exact h1
       · refine ob12 hx ?_; clear hx; rintro Q e1 e2
         refine ⟨fun a b => Q a b - (if a = (i : Int) - l0 ∧ b = (j : Int) - l1 then r / c else 0), fun a b => ?_, fun a b hab => ?_⟩
         · rw [hcl, e1]
           have e3 : lin B (fun k => if a - iat k 0 = (i : Int) - l0 ∧ b - iat k 1 = (j : Int) - l1 then r / c else 0) = (r / c) * co B (kk (a - (i - l0)) (b - (j - l1))) := by
             show _ = (r / c) * lin B _
             rw [← lin_smul]
             refine lin_congr fun x hx => ?_
             refine ob21 (hBk x hx) ?_; rintro p q2 ex
             rw [ex]
             unfold dl
             have : (a - iat (kk p q2) 0 = (i : Int) - l0 ∧ b - iat (kk p q2) 1 = (j : Int) - l1) = (kk (p : Int) q2 = kk (a - (i - l0)) (b - (j - l1))) := by
               show (a - (p : Int) = (i : Int) - l0 ∧ b - (q2 : Int) = (j : Int) - l1) = ([(p : Int), (q2 : Int)] = [a - (i - l0), b - (j - l1)])
               simp only [List.cons.injEq, and_true, eq_iff_iff]
               exact Iff.intro (fun hh => ⟨(Int.le_antisymm (il1 (iG hh.1)) (il1 (iL hh.1))), (Int.le_antisymm (il1 (iG hh.2)) (il1 (iL hh.2)))⟩) (fun hh => ⟨(Int.le_antisymm (il1 (iG hh.1)) (il1 (iL hh.1))), (Int.le_antisymm (il1 (iG hh.2)) (il1 (iL hh.2)))⟩)
             simp only [this]
             split <;> grind
           rw [← e3]
           have e4 : ∀ u v : Rat, u - v = u + (-1) * v := fun u v => by grind
           rw [e4, ← lin_smul, ← lin_add]
           exact lin_congr fun x _ => by show _ = _ - _; rw [e4]
         · by_cases z : a = (i : Int) - l0 ∧ b = (j : Int) - l1
           · exfalso
             have hab : Q a b - (if a = (i : Int) - l0 ∧ b = (j : Int) - l1 then r / c else 0) ≠ 0 := hab
             rw [if_pos z] at hab
             have ht := top_co hB e2 (i := i) (j := j) (by exact Int.le_antisymm (il1 (iL hkR')) (il1 (iG hkR')))
             rw [← e1, hcr, ← z.1, ← z.2] at ht
             apply hab
             have hc0 := hB.c0
             rw [ht]; grind
           · have hab : Q a b - (if a = (i : Int) - l0 ∧ b = (j : Int) - l1 then r / c else 0) ≠ 0 := hab
             rw [if_neg z] at hab
             have : Q a b ≠ 0 := fun zz => hab (by rw [zz]; grind)
             refine ob04 (e2 a b this) ?_; rintro a1 a2 a3 a4
             have := hB.small
             refine (mx04 a1 a2 a3 ?_)
             by_cases zz : 8 * a + b + (8 * l0 + l1) = (R : Int)
             · exfalso; apply z; omega
             · omega
/-! rows -/
noncomputable def flat : Nat → List Poly → Poly
 | _, [] => []
 | i, r :: rows => (r.map fun x => (setAt x.1 0 (iat x.1 0 + (i : Int)), x.2)) ++ flat (i + 1) rows
noncomputable def Row (J : Nat) (p : Poly) : Prop := ∀ x ∈ p, ∃ y : Nat, x.1 = kk 0 y ∧ y ≤ J
structure Rw (J N M : Nat) (p : Poly) : Prop where
 wf : WF p
 row : Row J p
 fx : ∀ i j : Int, Fx 0 N (co p (kk i j))
 len : p.length ≤ M
theorem Rw.mem {J N M : Nat} {p : Poly} (h : Rw J N M p) {x : Mon × Rat} (hx : x ∈ p) : Fx 0 N x.2 := by
 refine ob12 (h.row x hx) ?_; rintro y e _
 rw [← co_mem h.wf.nd hx, e]; exact h.fx _ _
theorem Rw.k2 {J N M : Nat} {p : Poly} (h : Rw J N M p) (hJ : J ≤ 4) : K2 p := fun x hx => by
 refine ob12 (h.row x hx) ?_; rintro y e hy
 exact (mx23 0 y e (by exact li0) (by exact li2 hJ hy))
theorem Rw.ok {J N M : Nat} {p : Poly} (h : Rw J N M p) (hJ : J ≤ 4) (hN : N < 2 ^ 62) (hM : M ≤ 1000) : okP p = true :=
 okP_of h.wf (h.k2 hJ) (fun i j => h.fx _ _) (by decide) hN (Nat.le_trans h.len hM)
theorem lenIs_k2 {p : Poly} (h : K2 p) : lenIs 2 p = true := lenIs_iff.mpr fun x hx => by refine ob22 (h x hx) ?_; rintro i j e _; rw [e]; rfl
theorem lenIs_row {J : Nat} {p : Poly} (h : Row J p) : lenIs 2 p = true := lenIs_iff.mpr fun x hx => by refine ob12 (h x hx) ?_; rintro y e _; rw [e]; rfl
noncomputable def IntS : Poly → Nat → Prop
 | [], _ => True
 | x :: p, S => ∃ n : Int, x.2 = (n : Rat) ∧ n.natAbs ≤ S ∧ IntS p (S - n.natAbs)
theorem IntS.fx {E N : Nat} {φ : Mon → Rat} : ∀ {p : Poly} {S : Nat}, (∀ x ∈ p, Fx E N (φ x.1)) → IntS p S → Fx E (N * S) (lin p φ)
 | [], _, _, _ => .zero _ _
 | x :: p, S, hf, ⟨n, e, hn, hp⟩ => by
   rw [lin_cons, e, Rat.mul_comm]
   have h1 := (hf x List.mem_cons_self).mulI n
   have h2 := IntS.fx (fun y hy => hf y (List.mem_cons_of_mem _ hy)) hp
   refine (h1.add h2).le ?_
   rw [← Nat.mul_add]
   exact Nat.mul_le_mul_left _ (by exact li1 (sL (show n.natAbs ≤ S from (li1 hn))))
theorem IntS.mem : ∀ {p : Poly} {S : Nat}, IntS p S → ∀ x ∈ p, Fx 0 S x.2
 | [], _, _, x, hx => nomatch hx
 | y :: p, S, ⟨n, e, hn, hp⟩, x, hx => by
   rcases List.mem_cons.mp hx with rfl | hx
   · exact ⟨n, by rw [e]; show (n : Rat) * ((1 : Nat) : Rat) = n; rw [show ((1 : Nat) : Rat) = 1 from rfl]; grind, hn⟩
   · exact (IntS.mem hp x hx).le (by exact li1 (sL (show n.natAbs ≤ S from (li1 hn))))
theorem fold2_ok {α β : Type} {key : α → β → Mon} {c : α → β → Rat} {E : Nat} (hE : E ≤ 61) {a : List β} : ∀ {b : List α} {f : Poly}, (∀ x ∈ f, Dy E x.2) → (∀ x ∈ b, ∀ y ∈ a, Dy E (c x y)) → ∃ r, foldO (fun f x => foldO (fun f y => addT f (key x y) (c x y)) f a) f b = some r
 | [], f, _, _ => ⟨f, rfl⟩
 | x :: b, f, h, hc => by
   refine ob12 (fold_ok hE h (hc x List.mem_cons_self) (key := key x)) ?_; rintro g hg hd
   refine ob11 (fold2_ok hE hd (fun z hz => hc z (List.mem_cons_of_mem _ hz)) (key := key)) ?_; rintro r hr
   refine ⟨r, ?_⟩
   dsimp only [foldO]
   rw [hg]; exact hr
theorem Fx.mul0 {E N M : Nat} {r s : Rat} (h : Fx E N r) (k : Fx 0 M s) : Fx E (N * M) (r * s) := by
 refine ob12 k ?_; clear k; rintro m e hm
 have e : s = (m : Rat) := by
   have : s * ((1 : Nat) : Rat) = m := e
   rw [show ((1 : Nat) : Rat) = 1 from rfl] at this
   grind
 rw [e]
 exact (h.mulI m).le (Nat.mul_le_mul_left _ hm)
theorem mulE_some {a b : Poly} {N M : Nat} (ha : okP a = true) (hb : okP b = true) (la : lenIs 2 a = true) (lb : lenIs 2 b = true) (hbn : b ≠ [] ∨ a = []) (fa : ∀ x ∈ a, Fx 0 N x.2) (fb : ∀ x ∈ b, Fx 0 M x.2) : ∃ r, mulE a b = some r := by
 unfold mulE
 have hl : lenIs ((b.head?.map (·.1.length)).getD 0) a = true ∧ lenIs ((b.head?.map (·.1.length)).getD 0) b = true := by
   cases b with
   | nil =>
     have : a = [] := hbn.resolve_left (fun h => h rfl)
     subst this; exact ⟨rfl, rfl⟩
   | cons x b =>
     have : ((((x :: b).head?.map (·.1.length))).getD 0) = 2 := lenIs_iff.mp lb x List.mem_cons_self
     rw [this]; exact ⟨la, lb⟩
 rw [ha, hb, hl.1, hl.2]
 exact fold2_ok (E := 0) (by decide) (fun x hx => nomatch hx) fun x hx y hy => ⟨N * M, by rw [qmul_eq]; exact (fa y hy).mul0 (fb x hx)⟩
theorem mulE_keys {a b r : Poly} (h : mulE a b = some r) : ∀ x ∈ r, ∃ y ∈ a, ∃ z ∈ b, x.1 = madd y.1 z.1 := by
 refine ob04 (mulE_ok h) ?_; rintro _ _ _ h
 have inner : ∀ (z : Mon × Rat) (l : List (Mon × Rat)) (f r : Poly), foldO (fun f y => addT f (madd y.1 z.1) (qmul y.2 z.2)) f l = some r → ∀ x ∈ r, (∃ w ∈ f, w.1 = x.1) ∨ ∃ y ∈ l, x.1 = madd y.1 z.1 := by
   intro z l
   induction l with
   | nil => intro f r h x hx; cases h; exact .inl (mx12 x hx rfl)
   | cons y l ih =>
     intro f r h x hx
     refine ob12 (foldO_cons h) ?_; rintro g h1 h2
     rcases ih g r h2 x hx with ⟨w, hw, e⟩ | ⟨w, hw, e⟩
     · rcases addT_keys h1 w hw with q | ⟨v, hv, q⟩
       · exact .inr (mx12 y List.mem_cons_self (by rw [← e, q]))
       · exact .inl (mx12 v hv (q.trans e))
     · exact .inr (mx12 w (List.mem_cons_of_mem _ hw) e)
 have key : ∀ (l : List (Mon × Rat)) (f r : Poly), foldO (fun f x => foldO (fun f y => addT f (madd y.1 x.1) (qmul y.2 x.2)) f a) f l = some r → ∀ x ∈ r, (∃ w ∈ f, w.1 = x.1) ∨ ∃ y ∈ a, ∃ z ∈ l, x.1 = madd y.1 z.1 := by
   intro l
   induction l with
   | nil => intro f r h x hx; cases h; exact .inl (mx12 x hx rfl)
   | cons z l ih =>
     intro f r h x hx
     refine ob12 (foldO_cons h) ?_; rintro g h1 h2
     rcases ih g r h2 x hx with ⟨w, hw, e⟩ | ⟨y, hy, v, hv, e⟩
     · rcases inner z a f g h1 w hw with ⟨v, hv, q⟩ | ⟨y, hy, q⟩
       · exact .inl (mx12 v hv (q.trans e))
       · exact .inr ⟨y, hy, z, List.mem_cons_self, by rw [← e, q]⟩
     · exact .inr ⟨y, hy, v, List.mem_cons_of_mem _ hv, e⟩
 intro x hx
 rcases key b [] r h x hx with ⟨w, hw, _⟩ | h
 · (exfalso; cases hw)
 · exact h
theorem mulE_len2 {a b r : Poly} (h : mulE a b = some r) : r.length ≤ b.length * a.length := by
 refine ob04 (mulE_ok h) ?_; rintro _ _ _ h
 have key : ∀ (l : List (Mon × Rat)) (f r : Poly), foldO (fun f x => foldO (fun f y => addT f (madd y.1 x.1) (qmul y.2 x.2)) f a) f l = some r → r.length ≤ f.length + l.length * a.length := by
   intro l
   induction l with
   | nil => intro f r h; cases h; simp
   | cons z l ih =>
     intro f r h
     refine ob12 (foldO_cons h) ?_; rintro g h1 h2
     have := foldA_len (k := fun y : Mon × Rat => madd y.1 z.1) h1
     have := ih g r h2
     rw [List.length_cons, Nat.succ_mul]; omega
 have := key b [] r h
 simpa using this
theorem Rw.mul {J N M L S : Nat} {p l : Poly} (h : Rw J N M p) (hJ : J ≤ 3) (hN : N < 2 ^ 62) (hM : M ≤ 1000) (hl : Rw 1 S L l) (hS : S < 2 ^ 62) (hL : L ≤ 2) (hi : IntS l S) (hln : l ≠ []) :
   ∃ r, mulE p l = some r ∧ Rw (J + 1) (N * S) (L * M) r := by
 refine ob11 (mulE_some (h.ok (by exact li1 hJ) hN hM) (hl.ok (by exact li0) hS (by exact li1 hL)) (lenIs_row h.row) (lenIs_row hl.row) (.inl hln) (fun x hx => h.mem hx) (fun x hx => hl.mem hx)) ?_; rintro r hr
 refine ⟨r, hr, mulE_WF hr, fun x hx => ?_, fun i j => ?_, ?_⟩
 · refine ob12 (mulE_keys hr x hx) ?_; rintro y hy z1; refine ob12 z1 ?_; clear z1; rintro z hz e
   refine ob12 (h.row y hy) ?_; rintro a ea ha
   refine ob12 (hl.row z hz) ?_; rintro b eb hb
   refine (mx12 (a + b) ?_ (by exact li2 ha hb))
   rw [e, ea, eb]
   show [(0 : Int) + 0, (a : Int) + b] = [0, ((a + b : Nat) : Int)]
   rw [Int.natCast_add]; rfl
 · show Fx 0 _ (lin r (dl (kk i j)))
   rw [lin_mulE hr]
   refine IntS.fx (fun z hz => ?_) hi
   refine ob12 (hl.row z hz) ?_; rintro b eb hb
   have : lin p (fun k'' => dl (kk i j) (madd k'' z.1)) = co p (kk i (j - b)) := lin_congr fun x hx => by
     refine ob12 (h.row x hx) ?_; rintro y ey _
     unfold dl
     have : (madd x.1 z.1 = kk i j) = (x.1 = kk i (j - b)) := by
       rw [ey, eb]
       show ([(0 : Int) + 0, (y : Int) + b] = [i, j]) = ([(0 : Int), (y : Int)] = [i, j - b])
       simp only [List.cons.injEq, and_true, eq_iff_iff]; exact Iff.intro (fun hh => ⟨(Int.le_antisymm (il1 (iL hh.1)) (il1 (iG hh.1))), (Int.le_antisymm (il1 (iL hh.2)) (il1 (iG hh.2)))⟩) (fun hh => ⟨(Int.le_antisymm (il1 (iL hh.1)) (il1 (iG hh.1))), (Int.le_antisymm (il1 (iL hh.2)) (il1 (iG hh.2)))⟩)
     simp only [this]
   rw [this]; exact h.fx _ _
 · have := mulE_len2 hr
   exact Nat.le_trans this (Nat.mul_le_mul hl.len h.len)
theorem madd_comm : ∀ a b : Mon, madd a b = madd b a
 | [], [] => rfl
 | [], _ :: _ => rfl
 | _ :: _, [] => rfl
 | x :: a, y :: b => by show (x + y) :: madd a b = (y + x) :: madd b a; rw [madd_comm a b, Int.add_comm]
theorem madd_assoc : ∀ a b c : Mon, madd (madd a b) c = madd a (madd b c)
 | [], _, _ => by cases ‹Mon› <;> rfl
 | _ :: _, [], _ => rfl
 | _ :: _, _ :: _, [] => rfl
 | x :: a, y :: b, z :: c => by show (x + y + z) :: madd (madd a b) c = (x + (y + z)) :: madd a (madd b c); rw [madd_assoc a b c, Int.add_assoc]
theorem madd_rc (a b c : Mon) : madd (madd a b) c = madd (madd a c) b := by rw [madd_assoc, madd_comm b c, ← madd_assoc]
theorem kk_add (i d : Int) : madd (kk i 0) (kk d 0) = kk (i + d) 0 := rfl
noncomputable def FL : Nat → List Poly → (Mon → Rat) → Rat
 | _, [], _ => 0
 | i, r :: rows, φ => lin r (fun k => φ (madd k (kk (i : Int) 0))) + FL (i + 1) rows φ
theorem FL_cons (i : Nat) (r rows φ) : FL i (r :: rows) φ = lin r (fun k => φ (madd k (kk (i : Int) 0))) + FL (i + 1) rows φ := rfl
theorem FL_append (rows rows' : List Poly) (φ) : ∀ i, FL i (rows ++ rows') φ = FL i rows φ + FL (i + rows.length) rows' φ := by
 induction rows with
 | nil => intro i; show FL i rows' φ = 0 + FL (i + 0) rows' φ; rw [Nat.add_zero]; grind
 | cons r rows ih =>
   intro i
   rw [List.cons_append, FL_cons, FL_cons, ih (i + 1), List.length_cons, show i + 1 + rows.length = i + (rows.length + 1) by exact Nat.le_antisymm li0 li0]; grind
theorem FL_shift (rows : List Poly) (φ) (d : Nat) : ∀ i : Nat, FL (i + d) rows φ = FL i rows (fun k => φ (madd k (kk (d : Int) 0))) := by
 induction rows with
 | nil => intro i; rfl
 | cons r rows ih =>
   intro i
   rw [FL_cons, FL_cons, ← ih (i + 1), show i + d + 1 = i + 1 + d by exact Nat.le_antisymm li0 li0]
   congr 1
   refine lin_congr fun x _ => ?_
   rw [madd_assoc, kk_add, ← Int.natCast_add]
theorem FL_add (rows : List Poly) (φ ψ : Mon → Rat) : ∀ i : Nat, FL i rows (fun k => φ k + ψ k) = FL i rows φ + FL i rows ψ := by
 induction rows with
 | nil => intro i; show (0 : Rat) = 0 + 0; grind
 | cons r rows ih => intro i; rw [FL_cons, FL_cons, FL_cons, ih, lin_add]; grind
theorem lin_FL (p : Poly) (rows : List Poly) (F : Mon → Mon → Rat) : ∀ i : Nat, lin p (fun k => FL i rows (fun k' => F k k')) = FL i rows (fun k' => lin p fun k => F k k') := by
 induction rows with
 | nil => intro i; exact lin_zero p
 | cons r rows ih =>
   intro i
   rw [FL_cons, ← ih, ← lin_swap p r fun k k' => F k (madd k' (kk (i : Int) 0)), ← lin_add]
   exact lin_congr fun x _ => by rw [FL_cons]
theorem FL_mul {l : Poly} : ∀ {rows rows' : List Poly} {i : Nat}, mapO (fun one => mulE one l) rows = some rows' → ∀ φ, FL i rows' φ = lin l (fun k => FL i rows (fun k' => φ (madd k' k)))
 | [], rows', i, h, φ => by cases h; exact (lin_zero l).symm
 | r :: rows, rows', i, h, φ => by
   dsimp only [mapO] at h
   cases e : mulE r l with
   | none => rw [e] at h; (exfalso; cases h)
   | some m =>
     rw [e] at h
     cases e2 : mapO (fun one => mulE one l) rows with
     | none => rw [e2] at h; (exfalso; cases h)
     | some ms =>
       rw [e2] at h
       cases h
       rw [FL_cons, FL_mul e2, lin_mulE e, ← lin_add]
       refine lin_congr fun x _ => ?_
       rw [FL_cons]
       congr 1
       refine lin_congr fun y _ => ?_
       rw [madd_rc]
theorem FL_set (φ) : ∀ {rows : List Poly} {i j : Nat} {p : Poly}, j < rows.length → FL i (rows.set j p) φ = FL i rows φ + lin p (fun k => φ (madd k (kk ((i + j : Nat) : Int) 0))) - lin (rows.getD j []) (fun k => φ (madd k (kk ((i + j : Nat) : Int) 0)))
 | [], _, _, _, h => by simp at h
 | r :: rows, i, 0, p, _ => by
   show lin p _ + FL (i + 1) rows φ = lin r _ + FL (i + 1) rows φ + lin p (fun k => φ (madd k (kk ((i + 0 : Nat) : Int) 0))) - lin r (fun k => φ (madd k (kk ((i + 0 : Nat) : Int) 0)))
   rw [Nat.add_zero]; grind
 | r :: rows, i, j + 1, p, h => by
   have := FL_set φ (rows := rows) (i := i + 1) (j := j) (p := p) (by simpa using h)
   rw [List.set_cons_succ, FL_cons, FL_cons, this, show i + 1 + j = i + (j + 1) by exact Nat.le_antisymm li0 li0]
   show _ = _ - lin (rows.getD j []) _
   grind
theorem FL_psGo {top : Poly} (φ) : ∀ {b : List Poly} {j : Nat} {sc sc' : List Poly}, psGo top j b sc = some sc' → j + b.length ≤ sc.length → FL 0 sc' φ = FL 0 sc φ - lin top (fun k => FL j b (fun k' => φ (madd k' k)))
 | [], j, sc, sc', h, _ => by
   cases h
   have : lin top (fun k => FL j [] (fun k' => φ (madd k' k))) = 0 := lin_zero top
   rw [this]; grind
 | one :: b, j, sc, sc', h, hl => by
   refine ob23 (psGo_ok h) ?_; rintro m p hm hp hgo
   have hl : j + (b.length + 1) ≤ sc.length := hl
   rw [FL_psGo φ hgo (by rw [List.length_set]; exact li1 hl), FL_set φ (by exact li1 hl), Nat.zero_add]
   have e1 : lin p (fun k => φ (madd k (kk (j : Int) 0))) = lin (sc.getD j []) (fun k => φ (madd k (kk (j : Int) 0))) - lin m (fun k => φ (madd k (kk (j : Int) 0))) := by
     rw [lin_addE hp, lin_neg]; grind
   have e2 : lin top (fun k => FL j (one :: b) (fun k' => φ (madd k' k))) = lin m (fun k => φ (madd k (kk (j : Int) 0))) + lin top (fun k => FL (j + 1) b (fun k' => φ (madd k' k))) := by
     rw [lin_mulE hm, ← lin_add]
     refine lin_congr fun x _ => ?_
     rw [FL_cons]
     congr 1
     refine lin_congr fun y _ => ?_
     rw [madd_rc]
   rw [e1, e2]; grind
theorem FL_last (φ) {rows : List Poly} (h : rows.getLastD [] = []) : FL 0 rows.dropLast φ = FL 0 rows φ := by
 cases rows with
 | nil => rfl
 | cons r rows =>
   have e := List.dropLast_concat_getLast (l := r :: rows) (by simp)
   have e2 : (r :: rows).getLast (by simp) = [] := by
     rw [← h]; simp [List.getLastD_eq_getLast?, List.getLast?_eq_some_getLast]
   rw [e2] at e
   conv => rhs; rw [← e]
   rw [FL_append]
   show _ = _ + (lin [] _ + 0)
   rw [lin_nil]; grind
theorem FL_take (φ) (rows : List Poly) : ∀ m, m ≤ rows.length → FL 0 (rows.take (trimN rows m)) φ = FL 0 (rows.take m) φ
 | 0, _ => rfl
 | m + 1, h => by
   have hget : rows[m]? = some (rows.getD m []) := by rw [List.getElem?_eq_getElem (by exact li1 h)]; simp [List.getD_eq_getElem?_getD, show m < rows.length by exact li1 h]
   cases e : (rows.getD m []).isEmpty with
   | true =>
     rw [trimN_step e, FL_take φ rows m (by exact li1 h), take_succ_get hget, FL_append]
     have : rows.getD m [] = [] := by
       cases hd : rows.getD m [] with
       | nil => rfl
       | cons x p => rw [hd] at e; (exfalso; cases e)
     rw [this]
     show _ = _ + (lin [] _ + 0)
     rw [lin_nil]; grind
   | false =>
     have : trimN rows (m + 1) = m + 1 := by show cond _ _ _ = _; rw [e]; rfl
     rw [this]
theorem FL_trim (φ) (rows : List Poly) : FL 0 (trimE rows) φ = FL 0 rows φ := by
 unfold trimE
 rw [FL_take φ rows _ (Nat.le_refl _), List.take_length]
theorem trim_last (rows : List Poly) : trimE rows = [] ∨ (trimE rows).getLastD [] ≠ [] := by
 have key : ∀ m, m ≤ rows.length → rows.take (trimN rows m) = [] ∨ (rows.take (trimN rows m)).getLastD [] ≠ [] := by
   intro m
   induction m with
   | zero => intro _; exact .inl rfl
   | succ m ih =>
     intro h
     cases e : (rows.getD m []).isEmpty with
     | true => rw [trimN_step e]; exact ih (by exact li1 h)
     | false =>
       have : trimN rows (m + 1) = m + 1 := by show cond _ _ _ = _; rw [e]; rfl
       rw [this]
       right
       have hget : rows[m]? = some (rows.getD m []) := by rw [List.getElem?_eq_getElem (by exact li1 h)]; simp [List.getD_eq_getElem?_getD, show m < rows.length by exact li1 h]
       rw [take_succ_get hget]
       have : (rows.take m ++ [rows.getD m []]).getLastD [] = rows.getD m [] := by simp [List.getLastD_eq_getLast?]
       rw [this]
       intro z; rw [z] at e; cases e
 exact key _ (Nat.le_refl _)
noncomputable def pm (q l : Poly) : Poly := l.flatMap fun z => q.map fun x => (madd x.1 z.1, x.2 * z.2)
theorem lin_pm (q : Poly) (ψ) : ∀ l : Poly, lin (pm q l) ψ = lin l (fun k => lin q fun k1 => ψ (madd k1 k))
 | [] => rfl
 | z :: l => by
   show lin ((q.map fun x => (madd x.1 z.1, x.2 * z.2)) ++ pm q l) ψ = _
   rw [lin_append, lin_map q (fun k => madd k z.1) z.2, lin_pm q ψ l, lin_cons]
noncomputable def pw (l : Poly) : Nat → ((Mon → Rat) → Rat) → (Mon → Rat) → Rat
 | 0, F, φ => F φ
 | s + 1, F, φ => lin l (fun k => pw l s F fun k' => φ (madd k' k))
theorem Rw.le {J N M J' N' M' : Nat} {p : Poly} (h : Rw J N M p) (hJ : J ≤ J') (hN : N ≤ N') (hM : M ≤ M') : Rw J' N' M' p :=
 ⟨h.wf, fun x hx => let ⟨y, e, hy⟩ := h.row x hx; ⟨y, e, Nat.le_trans hy hJ⟩, fun i j => (h.fx i j).le hN, Nat.le_trans h.len hM⟩
theorem Rw.nil (J N M : Nat) : Rw J N M [] := ⟨.nil, (fun x hx => nomatch hx), fun i j => .zero _ _, Nat.zero_le _⟩
theorem Rw.mul' {J N M L S : Nat} {p l : Poly} (h : Rw J N M p) (hJ : J ≤ 3) (hN : N < 2 ^ 62) (hM : M ≤ 1000) (hl : Rw 1 S L l) (hS : S < 2 ^ 62) (hL : L ≤ 2) (hi : IntS l S) (hpn : p ≠ []) :
   ∃ r, mulE l p = some r ∧ Rw (J + 1) (N * S) (L * M) r := by
 refine ob11 (mulE_some (hl.ok (by exact li0) hS (by exact li1 hL)) (h.ok (by exact li1 hJ) hN hM) (lenIs_row hl.row) (lenIs_row h.row) (.inl hpn) (fun x hx => hl.mem hx) (fun x hx => h.mem hx)) ?_; rintro r hr
 refine ⟨r, hr, mulE_WF hr, fun x hx => ?_, fun i j => ?_, ?_⟩
 · refine ob12 (mulE_keys hr x hx) ?_; rintro y hy z1; refine ob12 z1 ?_; clear z1; rintro z hz e
   refine ob12 (hl.row y hy) ?_; rintro a ea ha
   refine ob12 (h.row z hz) ?_; rintro b eb hb
   refine (mx12 (a + b) ?_ (by exact li2 ha hb))
   rw [e, ea, eb]
   show [(0 : Int) + 0, (a : Int) + b] = [0, ((a + b : Nat) : Int)]
   rw [Int.natCast_add]; rfl
 · show Fx 0 _ (lin r (dl (kk i j)))
   rw [lin_mulE hr, lin_swap]
   refine IntS.fx (fun z hz => ?_) hi
   refine ob12 (hl.row z hz) ?_; rintro b eb hb
   have : lin p (fun k'' => dl (kk i j) (madd z.1 k'')) = co p (kk i (j - b)) := lin_congr fun x hx => by
     refine ob12 (h.row x hx) ?_; rintro y ey _
     unfold dl
     have : (madd z.1 x.1 = kk i j) = (x.1 = kk i (j - b)) := by
       rw [ey, eb]
       show ([(0 : Int) + 0, (b : Int) + y] = [i, j]) = ([(0 : Int), (y : Int)] = [i, j - b])
       simp only [List.cons.injEq, and_true, eq_iff_iff]; exact Iff.intro (fun hh => ⟨(Int.le_antisymm (il1 (iL hh.1)) (il1 (iG hh.1))), (Int.le_antisymm (il1 (iL hh.2)) (il1 (iG hh.2)))⟩) (fun hh => ⟨(Int.le_antisymm (il1 (iL hh.1)) (il1 (iG hh.1))), (Int.le_antisymm (il1 (iL hh.2)) (il1 (iG hh.2)))⟩)
     simp only [this]
   rw [this]; exact h.fx _ _
 · have := mulE_len2 hr
   rw [Nat.mul_comm] at this
   exact Nat.le_trans this (Nat.mul_le_mul hl.len h.len)
theorem Rw.sub {J N M N' M' : Nat} {p q : Poly} (h : Rw J N M p) (hJ : J ≤ 4) (hN : N < 2 ^ 62) (hM : M ≤ 1000) (k : Rw J N' M' q) : ∃ r, addE p (negE q) = some r ∧ Rw J (N + N') (M + M') r := by
 refine ob11 (addE_some (E := 0) (by decide) (h.ok hJ hN hM) (fun x hx => ⟨_, h.mem hx⟩) (b := negE q) (fun x hx => by
   obtain ⟨y, hy, rfl⟩ := List.mem_map.mp hx
   exact ⟨_, (k.mem hy).neg⟩)) ?_; rintro r hr
 refine ⟨r, hr, addE_WF hr h.wf, fun x hx => ?_, fun i j => ?_, ?_⟩
 · rcases addE_keys hr x hx with ⟨y, hy, e⟩ | ⟨y, hy, e⟩
   · rw [← e]; exact h.row y hy
   · refine ob12 (List.mem_map.mp hy) ?_; rintro z hz rfl
     rw [← e]; exact k.row z hz
 · show Fx 0 _ (lin r (dl (kk i j)))
   rw [lin_addE hr, lin_neg]
   exact (h.fx i j).add (k.fx i j).neg
 · have h1 := foldA_len (k := fun x : Mon × Rat => x.1) (addE_ok hr).2
   rw [negE_len] at h1
   exact Nat.le_trans h1 (Nat.add_le_add h.len k.len)
structure BR (b : List Poly) : Prop where
 len : 1 ≤ b.length ∧ b.length ≤ 2
 row : ∀ r ∈ b, Rw 1 2 2 r ∧ IntS r 2
 last : b.getLastD [] ≠ []
theorem getLastD_mem {α : Type} {xs : List α} {d : α} (h : 1 ≤ xs.length) : xs.getLastD d ∈ xs := List.mem_of_getElem? (last_at h)
theorem psGo_some {top : Poly} {J N M : Nat} (ht : Rw J N M top) (hJ : J ≤ 3) (hN : N * 4 < 2 ^ 62) (hM : M * 4 ≤ 1000) (htn : top ≠ []) : ∀ {b : List Poly} {j : Nat} {sc : List Poly}, (∀ r ∈ b, Rw 1 2 2 r ∧ IntS r 2) → j + b.length ≤ sc.length →
   (∀ i, i < sc.length → Rw (J + 1) (N * 4) (M * 4) (sc.getD i [])) → (∀ i, j ≤ i → i < sc.length → Rw (J + 1) (N * 2) (M * 2) (sc.getD i [])) →
   ∃ sc', psGo top j b sc = some sc' ∧ sc'.length = sc.length ∧ (∀ i, i < sc'.length → Rw (J + 1) (N * 4) (M * 4) (sc'.getD i [])) ∧ (∀ i, j + b.length ≤ i → sc'.getD i [] = sc.getD i []) ∧
     ∀ i, i < b.length → ∃ m, mulE (b.getD i []) top = some m ∧ addE (sc.getD (j + i) []) (negE m) = some (sc'.getD (j + i) [])
 | [], j, sc, _, _, h4, _ => (mx15 sc rfl rfl h4 (fun _ _ => rfl) (fun i hi => absurd hi (Nat.not_lt_zero _)))
 | one :: b, j, sc, hb, hl, h4, h2 => by
   have hl : j + (b.length + 1) ≤ sc.length := hl
   refine ob02 (hb one List.mem_cons_self) ?_; rintro h1 hi
   refine ob12 (ht.mul' hJ (by omega) (by omega) h1 (by decide) (by decide) hi htn) ?_; rintro m hm hmr
   have hj2 := h2 j (Nat.le_refl _) (by exact li1 hl)
   refine ob12 (hj2.sub (by exact li1 hJ) (by omega) (by omega) hmr) ?_; rintro p hp hpr
   have hpr4 : Rw (J + 1) (N * 4) (M * 4) p := hpr.le (Nat.le_refl _) (by exact li0) (by exact li0)
   have hget : ∀ i, i < sc.length → (sc.set j p).getD i [] = if i = j then p else sc.getD i [] := fun i hi => by
     rw [List.getD_eq_getElem?_getD, List.getD_eq_getElem?_getD, List.getElem?_set]
     by_cases e : j = i
     · subst e; simp [show j < sc.length by exact li1 hi]
     · rw [if_neg e, if_neg (Ne.symm e)]
   refine ob15 (psGo_some ht hJ hN hM htn (b := b) (j := j + 1) (sc := sc.set j p) (fun r hr => hb r (List.mem_cons_of_mem _ hr)) (by rw [List.length_set]; exact li1 hl)
     (fun i hi => by
       rw [List.length_set] at hi
       rw [hget i hi]
       by_cases e : i = j
       · rw [if_pos e]; exact hpr4
       · rw [if_neg e]; exact h4 i hi)
     (fun i hij hi => by
       rw [List.length_set] at hi
       rw [hget i hi, if_neg (by exact Nat.ne_of_gt (li1 hij))]
       exact h2 i (by exact li1 hij) hi)) ?_; rintro sc' hgo hlen k4 krest kb
   rw [List.length_set] at hlen
   refine (mx15 sc' ?_ hlen k4 (fun i hi => ?_) (fun i hi => ?_))
   · show Option.bind (mulE _ _) _ = _
     rw [hm]
     show Option.bind (addE _ _) _ = _
     rw [hp]
     exact hgo
   · have hi : j + (b.length + 1) ≤ i := hi
     rw [krest i (by exact li1 hi), List.getD_eq_getElem?_getD, List.getD_eq_getElem?_getD, List.getElem?_set_ne (by exact Nat.ne_of_lt (li1 hi))]
   · cases i with
     | zero =>
       refine (mx12 m hm ?_)
       show addE (sc.getD (j + 0) []) (negE m) = some (sc'.getD (j + 0) [])
       rw [Nat.add_zero]
       by_cases hbl : b.length = 0
       · have e := krest j
         cases b with
         | cons x y => simp at hbl
         | nil =>
           have hgo : some (sc.set j p) = some sc' := hgo
           have := Option.some.inj hgo
           rw [← this, hget j (by omega), if_pos rfl]; exact hp
       · -- later stores stand above j
         have : sc'.getD j [] = (sc.set j p).getD j [] := by
           have key : ∀ (b : List Poly) (l : Nat) (s s' : List Poly), psGo top l b s = some s' → j < l → s'.getD j [] = s.getD j [] := by
             intro b
             induction b with
             | nil => intro l s s' h _; cases h; rfl
             | cons o b ih =>
               intro l s s' h hlt
               refine ob23 (psGo_ok h) ?_; rintro m' p' _ _ h'
               rw [ih _ _ _ h' (by exact li1 hlt), List.getD_eq_getElem?_getD, List.getD_eq_getElem?_getD, List.getElem?_set_ne (by exact Nat.ne_of_gt (li1 hlt))]
           exact key b (j + 1) _ _ hgo (by exact li0)
         rw [this, hget j (by omega), if_pos rfl]; exact hp
     | succ i =>
       refine ob12 (kb i (by simpa using hi)) ?_; rintro m' hm' ha'
       refine (mx12 m' hm' ?_)
       have e1 : (sc.set j p).getD (j + 1 + i) [] = sc.getD (j + 1 + i) [] := by
         rw [List.getD_eq_getElem?_getD, List.getD_eq_getElem?_getD, List.getElem?_set_ne (by exact Nat.ne_of_lt li0)]
       rw [e1] at ha'
       rw [show j + (i + 1) = j + 1 + i by exact Nat.le_antisymm li0 li0]; exact ha'
structure PS (n0 : Nat) (F : (Mon → Rat) → Rat) (b : List Poly) (s : Nat) (left : List Poly) (Q : Poly) : Prop where
 rows : ∀ r ∈ left, Rw (1 + s) (2 * 4 ^ s) (2 * 4 ^ s) r
 last : left = [] ∨ left.getLastD [] ≠ []
 id : ∀ φ, pw (b.getLastD []) s F φ = lin Q (fun k => FL 0 b fun k' => φ (madd k' k)) + FL 0 left φ
 qk : ∀ x ∈ Q, ∃ a c : Nat, x.1 = kk a c ∧ a + b.length ≤ 3 ∧ c ≤ s
 len : s + left.length ≤ n0
 few : s ≤ n0 + 1 - b.length
theorem WF.nil_of2 {p : Poly} (w : WF p) (h : ∀ k, lin p (dl k) = 0) : p = [] := w.nil_of h
theorem ps_step {n0 : Nat} (hn0 : n0 ≤ 3) {F : (Mon → Rat) → Rat} {b : List Poly} (hb : BR b) {s : Nat} {left : List Poly} {Q : Poly} (h : PS n0 F b s left Q) (hge : b.length ≤ left.length) :
   ∃ sc sc' Q', mapO (fun one => mulE one (b.getLastD [])) left = some sc ∧ psGo (left.getLastD []) (left.length - b.length) b sc = some sc' ∧ PS n0 F b (s + 1) (trimE sc'.dropLast) Q' ∧ (trimE sc'.dropLast).length < left.length := by
 refine ob02 hb.len ?_; rintro hb1 hb2
 have hl1 : 1 ≤ left.length := by exact li2 hge hb1
 have hlen := h.len
 have hs2 : s ≤ 2 := by exact li3 hn0 hl1 hlen
 have hlcm := getLastD_mem (d := []) hb1
 refine ob02 (hb.row _ hlcm) ?_; rintro hlc hlci
 have hlast : left.getLastD [] ≠ [] := h.last.resolve_left (by rintro rfl; simp at hl1)
 have htm := getLastD_mem (d := []) hl1
 have ht := h.rows _ htm
 have hpw : 2 * 4 ^ s ≤ 32 := by
   have : 4 ^ s ≤ 4 ^ 2 := Nat.pow_le_pow_right (by decide) hs2
   omega
 -- the scaled rows
 have hsc : ∀ (l : List Poly), (∀ r ∈ l, Rw (1 + s) (2 * 4 ^ s) (2 * 4 ^ s) r) → ∃ sc, mapO (fun one => mulE one (b.getLastD [])) l = some sc ∧ ∀ r ∈ sc, Rw (1 + s + 1) (2 * 4 ^ s * 2) (2 * 4 ^ s * 2) r := by
   intro l
   induction l with
   | nil => intro _; exact (mx12 [] rfl (fun r hr => nomatch hr))
   | cons r l ih =>
     intro hr
     refine ob12 ((hr r List.mem_cons_self).mul (by exact li1 hs2) (by omega) (by exact li1 hpw) hlc (by decide) (by decide) hlci hb.last) ?_; rintro m hm hmr
     refine ob12 (ih fun r' hr' => hr r' (List.mem_cons_of_mem _ hr')) ?_; rintro ms hms hmsr
     refine (mx12 (m :: ms) ?_ (fun r' hr' => ?_))
     · dsimp only [mapO]
       rw [hm]
       simp only [hms]
     · rcases List.mem_cons.mp hr' with rfl | hr'
       · exact hmr.le (Nat.le_refl _) (Nat.le_refl _) (by exact li0)
       · exact hmsr r' hr'
 refine ob12 (hsc left h.rows) ?_; rintro sc hsc hscr
 refine ob02 (mapO_ok hsc) ?_; rintro hscl hscat
 have hscD : ∀ i, i < sc.length → Rw (1 + s + 1) (2 * 4 ^ s * 2) (2 * 4 ^ s * 2) (sc.getD i []) := fun i hi => hscr _ (getD_mem hi)
 refine ob15 (psGo_some ht (by exact li1 hs2) (by omega) (by exact li1 (kM 4 hpw)) hlast (b := b) (j := left.length - b.length) (sc := sc) hb.row (by exact li2 (eG hscl) (sL (show b.length ≤ left.length from (li1 hge))))
   (fun i hi => (hscD i hi).le (Nat.le_refl _) (by exact li0) (by exact li0)) (fun i _ hi => hscD i hi)) ?_; rintro sc' hgo hlen' hrow' hrest' hb'
 -- the last row goes
 have hz : sc'.getLastD [] = [] := by
   have hl' : 1 ≤ sc'.length := by exact li3 hl1 (eG hscl) (eG hlen')
   have e1 : sc'.getLastD [] = sc'.getD (sc'.length - 1) [] := (getD_of (last_at hl')).symm
   refine ob12 (hb' (b.length - 1) (by exact li1 (sL (show 1 ≤ b.length from (li1 hb1))))) ?_; rintro m hm ha
   have e2 : b.getD (b.length - 1) [] = b.getLastD [] := getD_of (last_at hb1)
   rw [e2] at hm
   have e3 : left.length - b.length + (b.length - 1) = sc'.length - 1 := by exact Nat.le_antisymm (li4 (aA (eG hscl) (eG hlen')) (sA sc'.length 1) (sL (show b.length ≤ left.length from (li1 hge))) (sL (show 1 ≤ b.length from (li1 hb1)))) (li4 (aA (eL hscl) (eL hlen')) (sL (show 1 ≤ sc'.length from (li3 hl1 (eG hscl) (eG hlen')))) (sA left.length b.length) (sA b.length 1))
   rw [e3] at ha
   rw [e1]
   refine ob12 (hscat (left.length - 1) (left.getLastD []) (last_at hl1)) ?_; rintro y hy hym
   have e4 : sc.getD (sc'.length - 1) [] = y := by rw [show sc'.length - 1 = left.length - 1 by exact Nat.le_antisymm (li4 (eL hscl) (eL hlen') (sA left.length 1) (sL (show 1 ≤ sc'.length from (li3 hl1 (eG hscl) (eG hlen'))))) (li4 (eG hscl) (eG hlen') (sL (show 1 ≤ left.length from (li1 hl1))) (sA sc'.length 1))]; exact getD_of hy
   rw [e4] at ha
   have hwf : WF (sc'.getD (sc'.length - 1) []) := (hrow' _ (by exact li1 (sL (show 1 ≤ sc'.length from (li3 hl1 (eG hscl) (eG hlen')))))).wf
   refine hwf.nil_of fun k => ?_
   show lin _ (dl k) = 0
   rw [lin_addE ha, lin_neg, lin_mulE hm, lin_mulE hym, lin_swap]
   have : lin (left.getLastD []) (fun k' => lin (b.getLastD []) fun k_1 => dl k (madd k' k_1)) = lin (left.getLastD []) (fun k_1 => lin (b.getLastD []) fun k' => dl k (madd k' k_1)) :=
     lin_congr fun x _ => lin_congr fun y _ => by rw [madd_comm]
   rw [this]; grind
 refine (mx34 sc sc' (pm Q (b.getLastD []) ++ (left.getLastD []).map (fun x => (madd x.1 (kk ((left.length - b.length : Nat) : Int) 0), x.2 * 1))) hsc hgo ⟨fun r hr => ?_, ?_, fun φ => ?_, fun x hx => ?_, ?_, ?_⟩ ?_)
 · have hr1 : r ∈ sc'.dropLast := by unfold trimE at hr; exact List.mem_of_mem_take hr
   have hr2 : r ∈ sc' := (List.dropLast_sublist _).subset hr1
   refine ob11 (List.mem_iff_getElem?.mp hr2) ?_; rintro i hi
   have := hrow' i (some_lt hi)
   rw [getD_of hi] at this
   refine this.le (by exact li0) ?_ ?_ <;> rw [Nat.pow_succ] <;> exact li0
 · exact trim_last _
 · show lin (b.getLastD []) (fun k => pw (b.getLastD []) s F fun k' => φ (madd k' k)) = _
   rw [FL_trim, FL_last φ hz, FL_psGo φ hgo (by exact li2 (eG hscl) (sL (show b.length ≤ left.length from (li1 hge)))), FL_mul hsc, lin_append, lin_pm, lin_map (left.getLastD []) (fun k => madd k (kk ((left.length - b.length : Nat) : Int) 0)) 1]
   have e1 : lin (b.getLastD []) (fun k => pw (b.getLastD []) s F fun k' => φ (madd k' k)) = lin (b.getLastD []) (fun k => lin Q (fun k1 => FL 0 b fun k2 => φ (madd k2 (madd k1 k)))) + lin (b.getLastD []) (fun k => FL 0 left fun k' => φ (madd k' k)) := by
     rw [← lin_add]
     refine lin_congr fun x _ => ?_
     rw [h.id]
     congr 1
     refine lin_congr fun y _ => ?_
     congr 1
     funext k2
     rw [madd_assoc]
   have e2 : lin (left.getLastD []) (fun k => FL (left.length - b.length) b fun k' => φ (madd k' k)) = lin (left.getLastD []) (fun k => FL 0 b fun k' => φ (madd k' (madd k (kk ((left.length - b.length : Nat) : Int) 0)))) := by
     refine lin_congr fun x _ => ?_
     have := FL_shift b (fun k' => φ (madd k' x.1)) (left.length - b.length) 0
     rw [Nat.zero_add] at this
     rw [this]
     congr 1
     funext k'
     rw [madd_assoc, madd_comm (kk _ 0) x.1]
   rw [e1, e2]; grind
 · rcases List.mem_append.mp hx with hx | hx
   · unfold pm at hx
     refine ob12 (List.mem_flatMap.mp hx) ?_; rintro z hz hx
     refine ob12 (List.mem_map.mp hx) ?_; rintro y hy rfl
     refine ob23 (h.qk y hy) ?_; rintro a c e1 ha hc
     refine ob12 (hlc.row z hz) ?_; rintro d e2 hd
     refine (mx23 a (c + d) ?_ ha (by exact li2 hc hd))
     show madd y.1 z.1 = _
     rw [e1, e2]
     show [(a : Int) + 0, (c : Int) + d] = [(a : Int), ((c + d : Nat) : Int)]
     rw [Int.natCast_add, Int.add_zero]
   · refine ob12 (List.mem_map.mp hx) ?_; rintro y hy rfl
     refine ob12 (ht.row y hy) ?_; rintro d e2 hd
     refine (mx23 (left.length - b.length) d ?_ (by exact li3 hn0 hlen (sL (show b.length ≤ left.length from (li1 hge)))) (by exact li1 hd))
     show madd y.1 _ = _
     rw [e2]
     show [(0 : Int) + ((left.length - b.length : Nat) : Int), (d : Int) + 0] = _
     rw [Int.zero_add, Int.add_zero]
 · have := trimE_len sc'.dropLast
   rw [List.length_dropLast] at this
   exact li4 (aA hlen (eL hscl)) (eL hlen') this (sL (show 1 ≤ sc'.length from (li3 hl1 (eG hscl) (eG hlen'))))
 · exact li3 hge hlen (sA (n0 + 1) b.length)
 · have := trimE_len sc'.dropLast
   rw [List.length_dropLast] at this
   exact li4 (eL hscl) (eL hlen') this (sL (show 1 ≤ sc'.length from (li3 hl1 (eG hscl) (eG hlen'))))
theorem ps_main {n0 : Nat} (hn0 : n0 ≤ 3) {F : (Mon → Rat) → Rat} {b : List Poly} (hb : BR b) : ∀ (k s : Nat) (left : List Poly) (Q : Poly), PS n0 F b s left Q → left.length < k →
   ∃ rest s' Q', pseudoE k left b = some rest ∧ rest.length < b.length ∧ PS n0 F b s' rest Q'
 | 0, _, _, _, _, h => absurd h (Nat.not_lt_zero _)
 | k + 1, s, left, Q, h, hk => by
   by_cases hge : b.length ≤ left.length
   · refine ob34 (ps_step hn0 hb h hge) ?_; rintro sc sc' Q' h1 h2 h3 h4
     refine ob33 (ps_main hn0 hb k (s + 1) _ Q' h3 (by exact li2 hk h4)) ?_; rintro rest s' Q2 h5 h6 h7
     refine (mx33 rest s' Q2 ?_ h6 h7)
     show cond (Nat.ble b.length left.length) (Option.bind (mapO _ _) _) _ = _
     rw [Nat.ble_eq_true_of_le hge, h1]
     show Option.bind (psGo _ _ _ _) _ = _
     rw [h2]
     exact h5
   · refine (mx33 left s Q ?_ (by exact li1 (nL hge)) h)
     show cond (Nat.ble b.length left.length) _ _ = _
     have : Nat.ble b.length left.length = false := by
       cases e : Nat.ble b.length left.length with
       | false => rfl
       | true => exact absurd (Nat.le_of_ble_eq_true e) hge
     rw [this]; rfl
theorem fold_keys {α : Type} {key : α → Mon} {c : α → Rat} : ∀ {a : List α} {f r : Poly}, foldO (fun f y => addT f (key y) (c y)) f a = some r → ∀ x ∈ r, (∃ w ∈ f, w.1 = x.1) ∨ ∃ y ∈ a, key y = x.1
 | [], f, r, h, x, hx => by cases h; exact .inl (mx12 x hx rfl)
 | y :: a, f, r, h, x, hx => by
   refine ob12 (foldO_cons h) ?_; rintro g h1 h2
   rcases fold_keys h2 x hx with ⟨w, hw, e⟩ | ⟨w, hw, e⟩
   · rcases addT_keys h1 w hw with q | ⟨v, hv, q⟩
     · exact .inr (mx12 y List.mem_cons_self (q.symm.trans e))
     · exact .inl (mx12 v hv (q.trans e))
   · exact .inr (mx12 w (List.mem_cons_of_mem _ hw) e)
theorem fromGo_good {J N M : Nat} : ∀ {rows : List Poly} {i : Nat} {f : Poly}, (∀ r ∈ rows, Rw J N M r) → WF f → (∀ x ∈ f, Dy 0 x.2) → ∃ r, fromGo 0 i rows f = some r ∧ WF r ∧ (∀ φ, lin r φ = lin f φ + FL i rows φ) ∧
   (∀ x ∈ r, (∃ w ∈ f, w.1 = x.1) ∨ ∃ a y : Nat, x.1 = kk a y ∧ a < i + rows.length ∧ y ≤ J) ∧ r.length ≤ f.length + rows.length * M
 | [], i, f, _, w, _ => (mx15 f rfl w (fun φ => by show lin f φ = lin f φ + 0; rw [Rat.add_zero]) (fun x hx => .inl ⟨x, hx, rfl⟩) (by simp))
 | row :: rows, i, f, h, w, hd => by
   have hr := h row List.mem_cons_self
   refine ob12 (fold_ok (E := 0) (by decide) hd (key := fun x : Mon × Rat => setAt x.1 0 (iat x.1 0 + (i : Int))) (c := fun x => x.2) (a := row) (fun y hy => ⟨_, hr.mem hy⟩)) ?_; rintro g hg hgd
   have wg : WF g := fold_WF (key := fun x : Mon × Rat => setAt x.1 0 (iat x.1 0 + (i : Int))) (c := fun x => x.2) hg w
   refine ob15 (fromGo_good (rows := rows) (i := i + 1) (fun r hr => h r (List.mem_cons_of_mem _ hr)) wg hgd) ?_; rintro r hr' wr hlin hk hlen
   refine (mx15 r ?_ wr (fun φ => ?_) (fun x hx => ?_) ?_)
   · dsimp only [fromGo]
     rw [hg]; exact hr'
   · rw [hlin, lin_fold (key := fun x : Mon × Rat => setAt x.1 0 (iat x.1 0 + (i : Int))) (c := fun x => x.2) hg, FL_cons]
     have : lin (row.map fun y => (setAt y.1 0 (iat y.1 0 + (i : Int)), y.2)) φ = lin row (fun k => φ (madd k (kk (i : Int) 0))) := by
       have e : row.map (fun y => (setAt y.1 0 (iat y.1 0 + (i : Int)), y.2)) = row.map (fun y => (madd y.1 (kk (i : Int) 0), y.2 * 1)) := by
         refine List.map_congr_left fun y hy => ?_
         refine ob12 (hr.row y hy) ?_; rintro z ez _
         rw [ez, Rat.mul_one]
         rfl
       rw [e, lin_map row (fun k => madd k (kk (i : Int) 0)) 1, Rat.one_mul]
     rw [this]; grind
   · rcases hk x hx with ⟨v, hv, e⟩ | ⟨a, y, e, ha, hy⟩
     · rcases fold_keys (key := fun x : Mon × Rat => setAt x.1 0 (iat x.1 0 + (i : Int))) (c := fun x => x.2) hg v hv with ⟨u, hu, e2⟩ | ⟨u, hu, e2⟩
       · exact .inl (mx12 u hu (e2.trans e))
       · refine ob12 (hr.row u hu) ?_; rintro z ez hz
         refine .inr (mx23 i z ?_ (by simp) hz)
         rw [← e, ← e2, ez]
         show [(0 : Int) + i, (z : Int)] = _
         rw [Int.zero_add]
     · exact .inr (mx23 a y e (by rw [List.length_cons]; exact li1 ha) hy)
   · have h1 := foldA_len (k := fun x : Mon × Rat => setAt x.1 0 (iat x.1 0 + (i : Int))) hg
     have := hr.len
     rw [List.length_cons, Nat.succ_mul]; exact li3 hlen h1 this
theorem row_dl {J N M : Nat} {r : Poly} (h : Rw J N M r) (a : Nat) (i j : Int) : lin r (fun k => dl (kk i j) (madd k (kk (a : Int) 0))) = if i = a then co r (kk 0 j) else 0 := by
 by_cases e : i = a
 · rw [if_pos e]
   refine lin_congr fun x hx => ?_
   refine ob12 (h.row x hx) ?_; rintro y ey _
   rw [ey]
   unfold dl
   have : (madd (kk 0 (y : Int)) (kk (a : Int) 0) = kk i j) = (kk 0 (y : Int) = kk 0 j) := by
     show ([(0 : Int) + a, (y : Int) + 0] = [i, j]) = ([(0 : Int), (y : Int)] = [0, j])
     rw [e, Int.zero_add, Int.add_zero]
     simp only [List.cons.injEq, and_true, true_and]
   simp only [this]
 · rw [if_neg e]
   have : lin r (fun k => dl (kk i j) (madd k (kk (a : Int) 0))) = lin r (fun _ => 0) := lin_congr fun x hx => by
     refine ob12 (h.row x hx) ?_; rintro y ey _
     rw [ey]
     unfold dl
     rw [if_neg]
     intro z
     have : (0 : Int) + a = i := (List.cons.inj z).1
     omega
   rw [this, lin_zero]
theorem FL_dl {J N M : Nat} (i j : Int) : ∀ {rows : List Poly} {a : Nat}, (∀ r ∈ rows, Rw J N M r) → (i < a → FL a rows (dl (kk i j)) = 0) ∧ Fx 0 N (FL a rows (dl (kk i j)))
 | [], a, _ => ⟨fun _ => rfl, .zero _ _⟩
 | r :: rows, a, h => by
   refine ob02 (FL_dl i j (rows := rows) (a := a + 1) fun r hr => h r (List.mem_cons_of_mem _ hr)) ?_; rintro h1 h2
   rw [FL_cons, row_dl (h r List.mem_cons_self)]
   refine ⟨fun hi => ?_, ?_⟩
   · rw [if_neg (by exact Int.ne_of_lt (il1 hi)), h1 (by exact il1 hi), Rat.add_zero]
   · by_cases e : i = a
     · rw [if_pos e, h1 (by exact il1 (iL e)), Rat.add_zero]; exact (h r List.mem_cons_self).fx _ _
     · rw [if_neg e, Rat.zero_add]; exact h2
theorem fromE_good {J N M : Nat} {rows : List Poly} (h : ∀ r ∈ rows, Rw J N M r) : ∃ f, fromE rows 0 = some f ∧ WF f ∧ (∀ φ, lin f φ = FL 0 rows φ) ∧ (∀ x ∈ f, ∃ a y : Nat, x.1 = kk a y ∧ a < rows.length ∧ y ≤ J) ∧ f.length ≤ rows.length * M ∧ ∀ i j : Int, Fx 0 N (co f (kk i j)) := by
 refine ob15 (fromGo_good (rows := rows) (i := 0) (f := []) h .nil (fun x hx => nomatch hx)) ?_; rintro f h1 h2 h3 h4 h5
 refine (mx16 f h1 h2 (fun φ => by rw [h3, lin_nil, Rat.zero_add]) (fun x hx => ?_) (by simpa using h5) (fun i j => ?_))
 · rcases h4 x hx with ⟨w, hw, _⟩ | ⟨a, y, e, ha, hy⟩
   · (exfalso; cases hw)
   · exact (mx23 a y e (by exact li1 ha) hy)
 · show Fx 0 N (lin f (dl (kk i j)))
   rw [h3, lin_nil, Rat.zero_add]
   exact (FL_dl i j h).2
structure Wh (l : Poly) (F : (Mon → Rat) → Rat) (t : Nat) (w : Poly) : Prop where
 wf : WF w
 key : ∀ x ∈ w, ∃ i j : Nat, x.1 = kk i j ∧ i ≤ 2 ∧ j ≤ 1 + t
 fx : ∀ i j : Int, Fx 0 (2 * 2 ^ t) (co w (kk i j))
 len : w.length ≤ 6 * 2 ^ t
 id : ∀ φ, lin w φ = pw l t F φ
theorem Wh.k2 {l F t w} (h : Wh l F t w) (ht : t ≤ 3) : K2 w := fun x hx => by
 refine ob23 (h.key x hx) ?_; rintro i j e h1 h2
 exact (mx23 i j e h1 (by exact li3 ht h1 h2))
theorem pow2_le {t : Nat} (ht : t ≤ 3) : 2 ^ t ≤ 8 := Nat.pow_le_pow_right (by decide) ht
theorem lin_comm_pw (l : Poly) (F : (Mon → Rat) → Rat) : ∀ (t : Nat) (φ), pw l t F φ = pw l t F φ := fun _ _ => rfl
theorem Wh.next {l : Poly} {F : (Mon → Rat) → Rat} {t : Nat} {w : Poly} (h : Wh l F t w) (ht : t ≤ 2) (hl : Rw 1 2 2 l) (hi : IntS l 2) (hln : l ≠ []) : ∃ w', mulE w l = some w' ∧ Wh l F (t + 1) w' := by
 have hp := pow2_le (t := t) (by exact li1 ht)
 refine ob11 (mulE_some (okP_of h.wf (h.k2 (by exact li1 ht)) h.fx (by decide) (by omega) (by have := h.len; exact li2 (kM 6 hp) this)) (hl.ok (by exact li0) (by decide) (by decide)) (lenIs_k2 (h.k2 (by exact li1 ht))) (lenIs_row hl.row) (.inl hln)
   (fun x hx => fx_mem h.wf (h.k2 (by exact li1 ht)) h.fx hx) (fun x hx => hl.mem hx)) ?_; rintro r hr
 refine ⟨r, hr, mulE_WF hr, fun x hx => ?_, fun i j => ?_, ?_, fun φ => ?_⟩
 · refine ob12 (mulE_keys hr x hx) ?_; rintro y hy z1; refine ob12 z1 ?_; clear z1; rintro z hz e
   refine ob23 (h.key y hy) ?_; rintro a b ea ha hb
   refine ob12 (hl.row z hz) ?_; rintro d ed hd
   refine (mx23 a (b + d) ?_ ha (by exact li2 hb hd))
   rw [e, ea, ed]
   show [(a : Int) + 0, (b : Int) + d] = [(a : Int), ((b + d : Nat) : Int)]
   rw [Int.natCast_add, Int.add_zero]
 · show Fx 0 _ (lin r (dl (kk i j)))
   rw [lin_mulE hr, show 2 * 2 ^ (t + 1) = 2 * 2 ^ t * 2 by rw [Nat.pow_succ]; exact Nat.le_antisymm li0 li0]
   refine IntS.fx (fun z hz => ?_) hi
   refine ob12 (hl.row z hz) ?_; rintro b eb hb
   have : lin w (fun k'' => dl (kk i j) (madd k'' z.1)) = co w (kk i (j - b)) := lin_congr fun x hx => by
     refine ob22 (h.key x hx) ?_; rintro u v ey _
     unfold dl
     have : (madd x.1 z.1 = kk i j) = (x.1 = kk i (j - b)) := by
       rw [ey, eb]
       show ([(u : Int) + 0, (v : Int) + b] = [i, j]) = ([(u : Int), (v : Int)] = [i, j - b])
       simp only [List.cons.injEq, and_true, eq_iff_iff]; exact Iff.intro (fun hh => ⟨(Int.le_antisymm (il1 (iL hh.1)) (il1 (iG hh.1))), (Int.le_antisymm (il1 (iL hh.2)) (il1 (iG hh.2)))⟩) (fun hh => ⟨(Int.le_antisymm (il1 (iL hh.1)) (il1 (iG hh.1))), (Int.le_antisymm (il1 (iL hh.2)) (il1 (iG hh.2)))⟩)
     simp only [this]
   rw [this]; exact h.fx _ _
 · have h1 := mulE_len2 hr
   have h2 := Nat.mul_le_mul hl.len h.len
   rw [show 6 * 2 ^ (t + 1) = 2 * (6 * 2 ^ t) by rw [Nat.pow_succ]; exact Nat.le_antisymm li0 li0]
   exact li2 h1 h2
 · rw [lin_mulE hr]
   show _ = lin l (fun k => pw l t F fun k' => φ (madd k' k))
   exact lin_congr fun x _ => h.id _
theorem okK_kk {i j : Nat} (hi : i < 16) (hj : j < 16) : okK (kk i j) = true := by
 show (okI 16 (i : Int) && okI 16 (j : Int)) = true
 rw [Bool.and_eq_true]
 exact ⟨Nat.blt_eq.mpr hi, Nat.blt_eq.mpr hj⟩
theorem exact_end {B : Poly} {l0 l1 : Nat} {c : Rat} (hB : BOK B l0 l1 c) {d : Poly} (w : WF d) (hk : K2 d) (hf : ∀ i j : Int, Fx 0 200 (co d (kk i j))) (hl : d.length ≤ 800) : ∃ r, exactE d B = some r ∧ (Exact B l0 l1 d 24 → r ≠ none) := by
 have hBk : lenIs 2 B = true := lenIs_iff.mpr fun x hx => by refine ob22 (hB.key x hx) ?_; rintro p q e _; rw [e]; rfl
 refine ob22 (div_main hB 24 0 200 100 d [] [] (by decide) (by decide) (by exact li1 hl) w hk (fun x hx => by
   obtain ⟨i, j, e, h1, h2⟩ := hk x hx
   rw [e, rk_kk]; exact il2 (jM 7 (cN h1)) (cN h2)) hf (fun x hx => nomatch hx) (by decide)) ?_; rintro q' rest' h1 h2
 have hne : B.isEmpty = false := by
   cases hBB : B with
   | nil => have := hB.lead; rw [hBB] at this; (exfalso; cases this)
   | cons x p => rfl
 have hdiv : divideE d [B] = some ([q'], rest') := by
   unfold divideE okS okL
   rw [lenIs_k2 hk]
   simp only [List.all_cons, List.all_nil, hB.ok, hBk, List.map_cons, List.map_nil, hB.lead]
   exact h1
 refine (mx12 (cond rest'.isEmpty (some q') none) ?_ (fun hx => ?_))
 · unfold exactE
   rw [hne, hdiv]; rfl
 · rw [h2 hx]; simp
theorem turns_main {B : Poly} {l0 l1 : Nat} {c : Rat} (hB : BOK B l0 l1 c) {l : Poly} (hl : Rw 1 2 2 l) (hi : IntS l 2) (hln : l ≠ []) {F : (Mon → Rat) → Rat} {left : Poly} (wl : WF left) (kl : K2 left) (fl : ∀ i j : Int, Fx 0 128 (co left (kk i j))) (ll : left.length ≤ 384)
   {s : Nat} (hs : s ≤ 3) (hx : ∀ d, (∀ φ, lin d φ = pw l s F φ - lin left φ) → Exact B l0 l1 d 24) : ∀ (n t : Nat) (w : Poly), t ≤ s → s - t < n → Wh l F t w → turnsE n w left B l = true
 | 0, t, w, _, h, _ => absurd h (Nat.not_lt_zero _)
 | n + 1, t, w, ht, hn, hw => by
   have hp := pow2_le (t := t) (by exact li2 hs ht)
   have hokw : okP w = true := okP_of hw.wf (hw.k2 (by exact li2 hs ht)) hw.fx (by decide) (by omega) (by have := hw.len; exact li2 (kM 6 hp) this)
   refine ob11 (addE_some (E := 0) (by decide) hokw (fun x hx => ⟨_, fx_mem hw.wf (hw.k2 (by exact li2 hs ht)) hw.fx hx⟩) (b := negE left) (fun x hx => by
     obtain ⟨y, hy, rfl⟩ := List.mem_map.mp hx
     exact ⟨_, (fx_mem wl kl fl hy).neg⟩)) ?_; rintro d hd
   have hd : subE w left = some d := hd
   have hdl : ∀ φ, lin d φ = pw l t F φ - lin left φ := fun φ => by rw [lin_subE hd, hw.id]
   have wd : WF d := addE_WF hd hw.wf
   have kd : K2 d := fun x hx => by
     rcases addE_keys hd x hx with ⟨y, hy, e⟩ | ⟨y, hy, e⟩
     · rw [← e]; exact hw.k2 (by exact li2 hs ht) y hy
     · refine ob12 (List.mem_map.mp hy) ?_; rintro z hz rfl
       rw [← e]; exact kl z hz
   have fd : ∀ i j : Int, Fx 0 200 (co d (kk i j)) := fun i j => by
     show Fx 0 200 (lin d (dl (kk i j)))
     rw [lin_addE hd, lin_neg]
     exact ((hw.fx i j).add (fl i j).neg).le (by exact li1 (kM 2 hp))
   have ld : d.length ≤ 800 := by
     have h1 := foldA_len (k := fun x : Mon × Rat => x.1) (addE_ok hd).2
     rw [negE_len] at h1
     have := hw.len
     exact li4 ll (kM 6 hp) h1 this
   refine ob12 (exact_end hB wd kd fd ld) ?_; rintro r hr hrx
   show Option.elim (subE _ _) _ _ = _
   rw [hd]
   show Option.elim (exactE _ _) _ _ = _
   rw [hr]
   cases r with
   | some q => rfl
   | none =>
     have hts : t < s := by
       rcases Nat.lt_or_ge t s with q | q
       · exact q
       · exfalso
         have : t = s := by exact Nat.le_antisymm (li1 ht) (li1 q)
         subst this
         exact hrx (hx d hdl) rfl
     refine ob12 (hw.next (by exact li2 hs hts) hl hi hln) ?_; rintro w' hw' hwn
     simp only [hw']
     exact turns_main hB hl hi hln wl kl fl ll hs hx n (t + 1) w' (by exact li1 hts) (by exact li3 hn (sA s t) (sL (show (t + 1) ≤ s from (li1 hts)))) hwn
theorem rest_main {a b : List Poly} (ha : a.length = 2 ∨ a.length = 3) (har : ∀ r ∈ a, Rw 1 2 2 r) (hal : a.getLastD [] ≠ []) (hb : BR b) {B : Poly} {l0 l1 : Nat} {c : Rat} (hfb : fromE b 0 = some B) (hB : BOK B l0 l1 c) (hl0 : l0 + 1 = b.length) : restC a b = true := by
 refine ob02 hb.len ?_; rintro hb1 hb2
 have h0 : PS a.length (FL 0 a) b 0 a [] := ⟨fun r hr => har r hr, .inr hal, fun φ => by show FL 0 a φ = 0 + FL 0 a φ; rw [Rat.zero_add], (fun x hx => nomatch hx), by exact li0, by exact li0⟩
 refine ob33 (ps_main (by omega) hb 8 0 a [] h0 (by omega)) ?_; rintro rest s Q hps hrl hP
 have hs3 : s ≤ 3 := by have := hP.few; omega
 have hpw : 2 * 4 ^ s ≤ 128 := by
   have : 4 ^ s ≤ 4 ^ 3 := Nat.pow_le_pow_right (by decide) hs3
   omega
 have hrr : ∀ r ∈ rest, Rw 4 128 128 r := fun r hr => (hP.rows r hr).le (by exact li1 hs3) hpw hpw
 refine ob16 (fromE_good har) ?_; rintro whole w1 w2 w3 w4 w5 w6
 refine ob16 (fromE_good hrr) ?_; rintro left f1 f2 f3 f4 f5 f6
 refine ob16 (fromE_good (J := 1) (N := 2) (M := 2) (fun r hr => (hb.row r hr).1)) ?_; rintro B' b1 b2 b3 b4 b5 b6
 rw [hfb] at b1
 cases b1
 have okr : ∀ {rows : List Poly} {J N M : Nat}, (∀ r ∈ rows, Rw J N M r) → J ≤ 4 → N < 2 ^ 62 → M ≤ 1000 → okRow 0 rows = true := fun {rows J N M} h hJ hN hM => okRow_iff.mpr fun r hr =>
   ⟨(h r hr).ok hJ hN hM, longer_iff.mpr fun x hx => by refine ob12 ((h r hr).row x hx) ?_; rintro y e _; rw [e]; show 0 < 2; decide⟩
 have hlcm := getLastD_mem (d := []) hb1
 refine ob02 (hb.row _ hlcm) ?_; rintro hlc hlci
 have hW : Wh (b.getLastD []) (FL 0 a) 0 whole := ⟨w2, fun x hx => by refine ob23 (w4 x hx) ?_; rintro i y e h1 h2; exact (mx23 i y e (by omega) (by exact li1 h2)), w6, by omega, w3⟩
 have hrest2 : rest.length ≤ 1 := by exact li2 hb2 hrl
 have kl : K2 left := fun x hx => by refine ob23 (f4 x hx) ?_; rintro i y e h1 h2; exact (mx23 i y e (by exact li2 hrest2 h1) (by exact li3 hrest2 h1 h2))
 have hx : ∀ d, (∀ φ, lin d φ = pw (b.getLastD []) s (FL 0 a) φ - lin left φ) → Exact B l0 l1 d 24 := fun d hd => by
   refine ⟨fun u v => co Q (kk u v), fun i j => ?_, fun u v huv => ?_⟩
   · show lin d (dl (kk i j)) = _
     rw [hd, hP.id, f3]
     have e1 : lin Q (fun k => FL 0 b fun k' => dl (kk i j) (madd k' k)) = lin B (fun k' => lin Q fun k => dl (kk i j) (madd k' k)) := by
       rw [← lin_swap]
       exact lin_congr fun x _ => (b3 _).symm
     rw [e1]
     have e2 : lin B (fun k' => lin Q fun k => dl (kk i j) (madd k' k)) = lin B (fun k => co Q (kk (i - iat k 0) (j - iat k 1))) := by
       refine lin_congr fun x hx => ?_
       refine ob22 (hB.key x hx) ?_; rintro p q ex _
       rw [ex]
       refine lin_congr fun y hy => ?_
       refine ob22 (hP.qk y hy) ?_; rintro a' c' ey _
       rw [ey]
       unfold dl
       have : (madd (kk (p : Int) q) (kk (a' : Int) c') = kk i j) = (kk (a' : Int) c' = kk (i - iat (kk (p : Int) q) 0) (j - iat (kk (p : Int) q) 1)) := by
         show ([(p : Int) + a', (q : Int) + c'] = [i, j]) = ([(a' : Int), (c' : Int)] = [i - p, j - q])
         simp only [List.cons.injEq, and_true, eq_iff_iff]; exact Iff.intro (fun hh => ⟨(Int.le_antisymm (il1 (iL hh.1)) (il1 (iG hh.1))), (Int.le_antisymm (il1 (iL hh.2)) (il1 (iG hh.2)))⟩) (fun hh => ⟨(Int.le_antisymm (il1 (iL hh.1)) (il1 (iG hh.1))), (Int.le_antisymm (il1 (iL hh.2)) (il1 (iG hh.2)))⟩)
       simp only [this]
     rw [e2]; grind
   · refine ob12 (WF.in_of huv) ?_; rintro x hx ex
     refine ob23 (hP.qk x hx) ?_; rintro a' c' ey h1 h2
     rw [ey] at ex
     have e1 : (a' : Int) = u := (List.cons.inj ex).1
     have e2 : (c' : Int) = v := (List.cons.inj (List.cons.inj ex).2).1
     have := hB.small
     refine (mx04 (by exact il2 (iL e1) (c0 a')) (by exact il2 (iL e2) (c0 c')) (by exact il3 (cN hs3) (cN h2) (iG e2)) (by exact il4 (jA (jA (jA (jM 8 (cN (eL hl0))) (cN hs3)) (jM 8 (cN h1))) (cN h2)) (jM 8 (iG e1)) (iG e2) (cN this.2)))
 have hturn := turns_main hB hlc hlci hb.last f2 kl f6 (by exact li2 f5 (kM 128 hrest2)) hs3 hx (a.length + 2 - b.length) 0 whole (Nat.zero_le _) (by have := hP.few; omega) hW
 unfold restC
 rw [hps]
 show cond _ _ _ = _
 have hlast : (rest.isEmpty || !(rest.getLastD []).isEmpty) = true := by
   rcases hP.last with rfl | h
   · rfl
   · rw [Bool.or_eq_true]
     right
     cases e : rest.getLastD [] with
     | nil => exact absurd e h
     | cons x p => rfl
 rw [Nat.blt_eq.mpr hrl, hlast, okr har (by decide) (by decide) (by decide), okr (fun r hr => (hb.row r hr).1) (by decide) (by decide) (by decide), okr hrr (by decide) (by decide) (by decide), w1, hfb, f1]
 exact hturn
noncomputable def intSB : Poly → Nat → Bool
 | [], _ => true
 | x :: p, S => Nat.beq x.2.den 1 && Nat.ble x.2.num.natAbs S && intSB p (S - x.2.num.natAbs)
theorem intSB_ok : ∀ {p : Poly} {S : Nat}, intSB p S = true → IntS p S
 | [], _, _ => trivial
 | x :: p, S, h => by
   replace h : (Nat.beq x.2.den 1 && Nat.ble x.2.num.natAbs S && intSB p (S - x.2.num.natAbs)) = true := h
   rw [Bool.and_eq_true, Bool.and_eq_true] at h
   exact ⟨x.2.num, Rat.ext rfl (Nat.eq_of_beq_eq_true h.1.1), Nat.le_of_ble_eq_true h.1.2, intSB_ok h.2⟩
noncomputable def nzB (p : Poly) : Bool := decide ((p.map (·.1)).Nodup) && p.all fun x => !qz x.2
theorem nzB_ok {p : Poly} (h : nzB p = true) : WF p := by
 unfold nzB at h
 rw [Bool.and_eq_true, List.all_eq_true] at h
 refine ⟨(by have := of_decide_eq_true h.1; exact this : (p.map (·.1)).Nodup), fun x hx => ?_⟩
 have := h.2 x hx
 rw [qz_eq] at this
 simpa using this
noncomputable def rowB (r : Poly) : Bool := nzB r && (r.all fun x => meq x.1 (kk 0 0) || meq x.1 (kk 0 1)) && Nat.ble r.length 2 && intSB r 2
theorem rowB_ok {r : Poly} (h : rowB r = true) : Rw 1 2 2 r ∧ IntS r 2 := by
 unfold rowB at h
 simp only [Bool.and_eq_true, List.all_eq_true, Bool.or_eq_true, meq_eq, decide_eq_true_eq] at h
 refine ob02 h ?_; clear h; rintro z1 h4; refine ob02 z1 ?_; clear z1; rintro z2 h3; refine ob02 z2 ?_; clear z2; rintro h1 h2
 have hi := intSB_ok h4
 refine ⟨⟨nzB_ok h1, fun x hx => ?_, fun i j => ?_, Nat.le_of_ble_eq_true h3⟩, hi⟩
 · rcases h2 x hx with e | e
   · exact (mx12 0 e (by decide))
   · exact (mx12 1 e (by decide))
 · have : Fx 0 (1 * 2) (lin r (dl (kk i j))) := IntS.fx (fun x _ => by
     unfold dl
     split
     · exact ⟨1, by decide +kernel, by decide⟩
     · exact .zero _ _) hi
   exact this
noncomputable def nums : List Int := [-2, -1, 0, 1, 2]
noncomputable def keyB (l0 l1 : Nat) (c : Rat) (x : Mon × Rat) : Bool := ((List.range 2).any fun (p : Nat) => (List.range 2).any fun (q : Nat) => meq x.1 (kk p q) && Nat.ble p l0 && (!(Nat.beq p l0) || Nat.ble q l1) && Nat.ble (p + q) (l0 + l1)) && nums.any fun n => decide (x.2 * 2 = c * (n : Rat))
noncomputable def bokB (b : List Poly) : Bool := match fromE b 0 with
 | none => false
 | some B => (List.range 2).any fun (l0 : Nat) => (List.range 2).any fun (l1 : Nat) => match leadE B with
   | none => false
   | some l => meq l.1 (kk l0 l1) && nzB B && okP B && Nat.ble B.length 4 && B.all (keyB l0 l1 l.2) && okR l.2 && !qz l.2 && (nums.any fun n => decide (l.2 * (n : Rat) = 2)) && Nat.beq (l0 + 1) b.length
theorem nums_abs {n : Int} (h : n ∈ nums) : n.natAbs ≤ 2 := by
 simp only [nums, List.mem_cons, List.not_mem_nil, or_false] at h
 omega
theorem bokB_ok {b : List Poly} (h : bokB b = true) : ∃ B l0 l1 c, fromE b 0 = some B ∧ BOK B l0 l1 c ∧ l0 + 1 = b.length := by
 unfold bokB at h
 cases e : fromE b 0 with
 | none => rw [e] at h; (exfalso; cases h)
 | some B =>
 rw [e] at h
 simp only [List.any_eq_true, List.mem_range] at h
 refine ob12 h ?_; clear h; rintro l0 hl0 z1; refine ob12 z1 ?_; clear z1; rintro l1 hl1 h
 cases e2 : leadE B with
 | none => rw [e2] at h; (exfalso; cases h)
 | some l =>
 rw [e2] at h
 simp only [Bool.and_eq_true, List.all_eq_true, List.any_eq_true, Bool.not_eq_true', meq_eq, qz_eq, decide_eq_true_eq, decide_eq_false_iff_not, Nat.beq_eq] at h
 refine ob02 h ?_; clear h; rintro z1 h9; refine ob02 z1 ?_; clear z1; rintro z2 z3; refine ob02 z2 ?_; clear z2; rintro z4 h7; refine ob02 z4 ?_; clear z4; rintro z5 h6; refine ob02 z5 ?_; clear z5; rintro z6 h5; refine ob02 z6 ?_; clear z6; rintro z7 h4; refine ob02 z7 ?_; clear z7; rintro z8 h3; refine ob02 z8 ?_; clear z8; rintro h1 h2; refine ob12 z3 ?_; clear z3; rintro d hd h8
 refine (mx43 B l0 l1 l.2 rfl (⟨nzB_ok h2, h3, by rw [e2, ← h1], Nat.le_of_ble_eq_true h4, fun x hx => ?_, by exact ⟨(li1 hl0), (li1 hl1)⟩, fun x hx => ?_, ⟨d, h8, nums_abs hd⟩, h6, h7⟩) h9)
 · have := h5 x hx
   unfold keyB at this
   simp only [Bool.and_eq_true, List.any_eq_true, List.mem_range, meq_eq, decide_eq_true_eq, Bool.or_eq_true, Bool.not_eq_true'] at this
   refine ob02 this ?_; clear this; rintro z1 _; refine ob12 z1 ?_; clear z1; rintro p hp z2; refine ob13 z2 ?_; clear z2; rintro q hq z3 k4; refine ob02 z3 ?_; clear z3; rintro z4 k3; refine ob02 z4 ?_; clear z4; rintro k1 k2
   refine (mx25 p q k1 (Nat.le_of_ble_eq_true k2) (fun e => ?_) (Nat.le_of_ble_eq_true k4) (by exact li1 hq))
   rcases k3 with k3 | k3
   · rw [e] at k3
     have : Nat.beq l0 l0 = true := Nat.beq_eq.mpr rfl
     rw [this] at k3; (exfalso; cases k3)
   · exact Nat.le_of_ble_eq_true k3
 · have := h5 x hx
   unfold keyB at this
   simp only [Bool.and_eq_true, List.any_eq_true, decide_eq_true_eq] at this
   refine ob02 this ?_; clear this; rintro _ z1; refine ob12 z1 ?_; clear z1; rintro n hn e
   exact (mx12 n e (nums_abs hn))
noncomputable def c3 : List Int := [-1, 0, 1]
theorem c3_mem {u : Int} (h1 : -1 ≤ u) (h2 : u ≤ 1) : u ∈ c3 := by
 simp only [c3, List.mem_cons, List.not_mem_nil, or_false]; omega
theorem rows_all : (c3.all fun u => c3.all fun v => rowB (rowE u v) && rowB (fixE (rowE u v)) && !(fixE (rowE u v)).isEmpty && bokB [fixE (rowE u v)]) = true := by decide +kernel
theorem rows_all2 : (c3.all fun u => c3.all fun v => c3.all fun u' => c3.all fun v' => bokB [rowE u v, fixE (rowE u' v')]) = true := by decide +kernel
theorem row_facts {x : Int × Int} (h : rowOk x) : (Rw 1 2 2 (rowP x) ∧ IntS (rowP x) 2) ∧ (Rw 1 2 2 (fixE (rowP x)) ∧ IntS (fixE (rowP x)) 2) ∧ fixE (rowP x) ≠ [] ∧ bokB [fixE (rowP x)] = true := by
 have := List.all_eq_true.mp (List.all_eq_true.mp rows_all x.1 (c3_mem h.1 h.2.1)) x.2 (c3_mem h.2.2.1 h.2.2.2)
 simp only [Bool.and_eq_true] at this
 refine ob02 this ?_; clear this; rintro z1 a4; refine ob02 z1 ?_; clear z1; rintro z2 a3; refine ob02 z2 ?_; clear z2; rintro a1 a2
 refine (mx04 (rowB_ok a1) (rowB_ok a2) ?_ a4)
 intro z
 have z : fixE (rowE x.1 x.2) = [] := z
 rw [z] at a3; cases a3
theorem two_facts {x y : Int × Int} (h : rowOk x) (k : rowOk y) : bokB [rowP x, fixE (rowP y)] = true :=
 List.all_eq_true.mp (List.all_eq_true.mp (List.all_eq_true.mp (List.all_eq_true.mp rows_all2 x.1 (c3_mem h.1 h.2.1)) x.2 (c3_mem h.2.2.1 h.2.2.2)) y.1 (c3_mem k.1 k.2.1)) y.2 (c3_mem k.2.2.1 k.2.2.2)
theorem rest_all (ps qs : List (Int × Int)) (hp : ps.length = 2 ∨ ps.length = 3) (hq : qs.length = 1 ∨ qs.length = 2) (kp : ∀ x ∈ ps, rowOk x) (kq : ∀ x ∈ qs, rowOk x) : restC (fixL (ps.map rowP)) (fixL (qs.map rowP)) = true := by
 have ha : ((fixL (ps.map rowP)).length = 2 ∨ (fixL (ps.map rowP)).length = 3) ∧ (∀ r ∈ fixL (ps.map rowP), Rw 1 2 2 r) ∧ (fixL (ps.map rowP)).getLastD [] ≠ [] := by
   match ps, hp, kp with
   | [x, y], _, kp =>
     have hx := row_facts (kp x (by simp))
     have hy := row_facts (kp y (by simp))
     refine (mx03 (.inl rfl) (fun r hr => ?_) hy.2.2.1)
     have hr : r ∈ [rowP x, fixE (rowP y)] := hr
     rcases List.mem_cons.mp hr with rfl | hr
     · exact hx.1.1
     · rw [List.mem_singleton.mp hr]; exact hy.2.1.1
   | [x, y, z], _, kp =>
     have hx := row_facts (kp x (by simp))
     have hy := row_facts (kp y (by simp))
     have hz := row_facts (kp z (by simp))
     refine (mx03 (.inr rfl) (fun r hr => ?_) hz.2.2.1)
     have hr : r ∈ [rowP x, rowP y, fixE (rowP z)] := hr
     rcases List.mem_cons.mp hr with rfl | hr
     · exact hx.1.1
     rcases List.mem_cons.mp hr with rfl | hr
     · exact hy.1.1
     · rw [List.mem_singleton.mp hr]; exact hz.2.1.1
   | [], hp, _ => simp at hp
   | [_], hp, _ => simp at hp
   | _ :: _ :: _ :: _ :: _, hp, _ => simp at hp
 have hb : BR (fixL (qs.map rowP)) ∧ bokB (fixL (qs.map rowP)) = true := by
   match qs, hq, kq with
   | [x], _, kq =>
     have hx := row_facts (kq x (by simp))
     refine ⟨⟨⟨Nat.le_refl _, by show 1 ≤ 2; decide⟩, fun r hr => ?_, hx.2.2.1⟩, hx.2.2.2⟩
     have hr : r ∈ [fixE (rowP x)] := hr
     rw [List.mem_singleton.mp hr]; exact hx.2.1
   | [x, y], _, kq =>
     have hx := row_facts (kq x (by simp))
     have hy := row_facts (kq y (by simp))
     refine ⟨⟨⟨by show 1 ≤ 2; decide, Nat.le_refl _⟩, fun r hr => ?_, hy.2.2.1⟩, two_facts (kq x (by simp)) (kq y (by simp))⟩
     have hr : r ∈ [rowP x, fixE (rowP y)] := hr
     rcases List.mem_cons.mp hr with rfl | hr
     · exact hx.1
     · rw [List.mem_singleton.mp hr]; exact hy.2.1
   | [], hq, _ => simp at hq
   | _ :: _ :: _ :: _, hq, _ => simp at hq
 refine ob43 (bokB_ok hb.2) ?_; rintro B l0 l1 c h1 h2 h3
 exact rest_main ha.1 ha.2.1 ha.2.2 hb.1 h1 h2 h3
noncomputable def lawAll (s i : Nat) (c : Int) : Bool := [0, 1].all fun j => ([-2, -1, 0, 1, 2] : List Int).all fun d => lawC s i c j d
theorem la000 : lawAll 0 0 (-2) = true := by decide +kernel
theorem la001 : lawAll 0 0 (-1) = true := by decide +kernel
theorem la002 : lawAll 0 0 (0) = true := by decide +kernel
theorem la003 : lawAll 0 0 (1) = true := by decide +kernel
theorem la004 : lawAll 0 0 (2) = true := by decide +kernel
theorem la010 : lawAll 0 1 (-2) = true := by decide +kernel
theorem la011 : lawAll 0 1 (-1) = true := by decide +kernel
theorem la012 : lawAll 0 1 (0) = true := by decide +kernel
theorem la013 : lawAll 0 1 (1) = true := by decide +kernel
theorem la014 : lawAll 0 1 (2) = true := by decide +kernel
theorem la100 : lawAll 1 0 (-2) = true := by decide +kernel
theorem la101 : lawAll 1 0 (-1) = true := by decide +kernel
theorem la102 : lawAll 1 0 (0) = true := by decide +kernel
theorem la103 : lawAll 1 0 (1) = true := by decide +kernel
theorem la104 : lawAll 1 0 (2) = true := by decide +kernel
theorem la110 : lawAll 1 1 (-2) = true := by decide +kernel
theorem la111 : lawAll 1 1 (-1) = true := by decide +kernel
theorem la112 : lawAll 1 1 (0) = true := by decide +kernel
theorem la113 : lawAll 1 1 (1) = true := by decide +kernel
theorem la114 : lawAll 1 1 (2) = true := by decide +kernel
theorem la200 : lawAll 2 0 (-2) = true := by decide +kernel
theorem la201 : lawAll 2 0 (-1) = true := by decide +kernel
theorem la202 : lawAll 2 0 (0) = true := by decide +kernel
theorem la203 : lawAll 2 0 (1) = true := by decide +kernel
theorem la204 : lawAll 2 0 (2) = true := by decide +kernel
theorem la210 : lawAll 2 1 (-2) = true := by decide +kernel
theorem la211 : lawAll 2 1 (-1) = true := by decide +kernel
theorem la212 : lawAll 2 1 (0) = true := by decide +kernel
theorem la213 : lawAll 2 1 (1) = true := by decide +kernel
theorem la214 : lawAll 2 1 (2) = true := by decide +kernel
theorem la300 : lawAll 3 0 (-2) = true := by decide +kernel
theorem la301 : lawAll 3 0 (-1) = true := by decide +kernel
theorem la302 : lawAll 3 0 (0) = true := by decide +kernel
theorem la303 : lawAll 3 0 (1) = true := by decide +kernel
theorem la304 : lawAll 3 0 (2) = true := by decide +kernel
theorem la310 : lawAll 3 1 (-2) = true := by decide +kernel
theorem la311 : lawAll 3 1 (-1) = true := by decide +kernel
theorem la312 : lawAll 3 1 (0) = true := by decide +kernel
theorem la313 : lawAll 3 1 (1) = true := by decide +kernel
theorem la314 : lawAll 3 1 (2) = true := by decide +kernel
theorem law_all (s i : Nat) (c : Int) (j : Nat) (d : Int) (hs : s < 4) (hi : i < 2) (hc1 : -2 ≤ c) (hc2 : c ≤ 2) (hj : j < 2) (hd1 : -2 ≤ d) (hd2 : d ≤ 2) : lawC s i c j d = true := by
 have key : lawAll s i c = true → lawC s i c j d = true := fun h => by
   have h1 := List.all_eq_true.mp h j (by simp only [List.mem_cons, List.not_mem_nil, or_false]; omega)
   exact List.all_eq_true.mp h1 d (by simp only [List.mem_cons, List.not_mem_nil, or_false]; omega)
 apply key
 have hc : c = -2 ∨ c = -1 ∨ c = 0 ∨ c = 1 ∨ c = 2 := by omega
 have hs : s = 0 ∨ s = 1 ∨ s = 2 ∨ s = 3 := by omega
 have hi : i = 0 ∨ i = 1 := by omega
 rcases hs with rfl | rfl | rfl | rfl <;> rcases hi with rfl | rfl <;> rcases hc with rfl | rfl | rfl | rfl | rfl
 · exact la000
 · exact la001
 · exact la002
 · exact la003
 · exact la004
 · exact la010
 · exact la011
 · exact la012
 · exact la013
 · exact la014
 · exact la100
 · exact la101
 · exact la102
 · exact la103
 · exact la104
 · exact la110
 · exact la111
 · exact la112
 · exact la113
 · exact la114
 · exact la200
 · exact la201
 · exact la202
 · exact la203
 · exact la204
 · exact la210
 · exact la211
 · exact la212
 · exact la213
 · exact la214
 · exact la300
 · exact la301
 · exact la302
 · exact la303
 · exact la304
 · exact la310
 · exact la311
 · exact la312
 · exact la313
 · exact la314
end Mine
theorem PySem.Challenge.cw_pf0055_01_holds : PySem.Challenge.rw_pf0055_01.Holds := by
 exact Mine.head fun d hd => Mine.walk (fun {C} T {vs ks σ Q} h1 h2 h3 => Mine.law_ok T (Nat.le_refl _) h1 h2 Mine.law_all Mine.rest_all h3) d hd
