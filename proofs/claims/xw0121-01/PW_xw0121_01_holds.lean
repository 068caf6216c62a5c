import PyProof.Rows.All
import Wide.All
import OpenK.AllK
import Wide.FinOn
import KE.KWords
import PyProof.StrLawsReplace
import PySem.Challenge.RW_xw0121_01
set_option Elab.async false
set_option linter.unusedVariables false
set_option genSizeOf false
namespace Mini
section
set_option autoImplicit false
universe u
theorem bindP {α β γ:Type} {o:Option (α×β)} {k:α×β→Option γ} {r:γ} {X:Prop} (e:o.bind k=some r) (j:∀ a b,o=some (a,b)→k (a,b)=some r→X):X:=
 match o,e,j with
 | some (a,b),e,j=>j a b rfl e
theorem mapP {α β γ:Type} {o:Option (α×β)} {k:α×β→γ} {r:γ} {X:Prop} (e:o.map k=some r) (j:∀ a b,o=some (a,b)→k (a,b)=r→X):X:=
 match o,e,j with
 | some (a,b),e,j=>j a b rfl (Option.some.inj e)
theorem bindI {α γ:Type} {o:Option α} {k:α→Option γ} {r:γ} {X:Prop} (e:o.bind k=some r) (j:∀ a,o=some a→k a=some r→X):X:=
 match o,e,j with
 | some a,e,j=>j a rfl e
theorem mapI {α γ:Type} {o:Option α} {k:α→γ} {r:γ} {X:Prop} (e:o.map k=some r) (j:∀ a,o=some a→k a=r→X):X:=
 match o,e,j with
 | some a,e,j=>j a rfl (Option.some.inj e)
theorem noS {α:Type} {r:α} {X:Prop} (e:none=some r):X:=nomatch e
theorem noF {X:Prop} (e:false=true):X:=nomatch e
theorem noN {α:Type} {r:α} {X:Prop} (e:some r=none):X:=nomatch e
theorem noK {α:Type} {x:α} {l:List α} {X:Prop} (e:x :: l=[]):X:=nomatch e
theorem byC {p:Prop} (h:(p→False)→False):p:=Classical.byContradiction h
theorem e0_2 {p0 p1:Prop} {X:Prop} (h:p0∧p1) (j:p0→p1→X):X:=j (h.1) (h.2)
theorem e0_3 {p0 p1 p2:Prop} {X:Prop} (h:p0∧p1∧p2) (j:p0→p1→p2→X):X:=j (h.1) (h.2.1) (h.2.2)
theorem e0_4 {p0 p1 p2 p3:Prop} {X:Prop} (h:p0∧p1∧p2∧p3) (j:p0→p1→p2→p3→X):X:=j (h.1) (h.2.1) (h.2.2.1) (h.2.2.2)
theorem e1_1 {α0:Sort _} {p0:α0→Prop} {X:Prop} (h:∃ x0,p0 x0) (j:∀ x0,p0 x0→X):X:=h.elim fun x0 h=>j x0 h
theorem e1_2 {α0:Sort _} {p0 p1:α0→Prop} {X:Prop} (h:∃ x0,p0 x0∧p1 x0) (j:∀ x0,p0 x0→p1 x0→X):X:=h.elim fun x0 h=>j x0 (h.1) (h.2)
theorem e1_3 {α0:Sort _} {p0 p1 p2:α0→Prop} {X:Prop} (h:∃ x0,p0 x0∧p1 x0∧p2 x0) (j:∀ x0,p0 x0→p1 x0→p2 x0→X):X:=h.elim fun x0 h=>j x0 (h.1) (h.2.1) (h.2.2)
theorem e1_4 {α0:Sort _} {p0 p1 p2 p3:α0→Prop} {X:Prop} (h:∃ x0,p0 x0∧p1 x0∧p2 x0∧p3 x0) (j:∀ x0,p0 x0→p1 x0→p2 x0→p3 x0→X):X:=h.elim fun x0 h=>j x0 (h.1) (h.2.1) (h.2.2.1) (h.2.2.2)
theorem e1_5 {α0:Sort _} {p0 p1 p2 p3 p4:α0→Prop} {X:Prop} (h:∃ x0,p0 x0∧p1 x0∧p2 x0∧p3 x0∧p4 x0) (j:∀ x0,p0 x0→p1 x0→p2 x0→p3 x0→p4 x0→X):X:=h.elim fun x0 h=>j x0 (h.1) (h.2.1) (h.2.2.1) (h.2.2.2.1) (h.2.2.2.2)
theorem e2_1 {α0:Sort _} {α1:Sort _} {p0:α0→α1→Prop} {X:Prop} (h:∃ x0 x1,p0 x0 x1) (j:∀ x0 x1,p0 x0 x1→X):X:=h.elim fun x0 h=>h.elim fun x1 h=>j x0 x1 h
theorem e2_2 {α0:Sort _} {α1:Sort _} {p0 p1:α0→α1→Prop} {X:Prop} (h:∃ x0 x1,p0 x0 x1∧p1 x0 x1) (j:∀ x0 x1,p0 x0 x1→p1 x0 x1→X):X:=h.elim fun x0 h=>h.elim fun x1 h=>j x0 x1 (h.1) (h.2)
theorem e2_3 {α0:Sort _} {α1:Sort _} {p0 p1 p2:α0→α1→Prop} {X:Prop} (h:∃ x0 x1,p0 x0 x1∧p1 x0 x1∧p2 x0 x1) (j:∀ x0 x1,p0 x0 x1→p1 x0 x1→p2 x0 x1→X):X:=h.elim fun x0 h=>h.elim fun x1 h=>j x0 x1 (h.1) (h.2.1) (h.2.2)
theorem e2_6 {α0:Sort _} {α1:Sort _} {p0 p1 p2 p3 p4 p5:α0→α1→Prop} {X:Prop} (h:∃ x0 x1,p0 x0 x1∧p1 x0 x1∧p2 x0 x1∧p3 x0 x1∧p4 x0 x1∧p5 x0 x1) (j:∀ x0 x1,p0 x0 x1→p1 x0 x1→p2 x0 x1→p3 x0 x1→p4 x0 x1→p5 x0 x1→X):X:=h.elim fun x0 h=>h.elim fun x1 h=>j x0 x1 (h.1) (h.2.1) (h.2.2.1) (h.2.2.2.1) (h.2.2.2.2.1) (h.2.2.2.2.2)
theorem e3_2 {α0:Sort _} {α1:Sort _} {α2:Sort _} {p0 p1:α0→α1→α2→Prop} {X:Prop} (h:∃ x0 x1 x2,p0 x0 x1 x2∧p1 x0 x1 x2) (j:∀ x0 x1 x2,p0 x0 x1 x2→p1 x0 x1 x2→X):X:=h.elim fun x0 h=>h.elim fun x1 h=>h.elim fun x2 h=>j x0 x1 x2 (h.1) (h.2)
theorem e3_3 {α0:Sort _} {α1:Sort _} {α2:Sort _} {p0 p1 p2:α0→α1→α2→Prop} {X:Prop} (h:∃ x0 x1 x2,p0 x0 x1 x2∧p1 x0 x1 x2∧p2 x0 x1 x2) (j:∀ x0 x1 x2,p0 x0 x1 x2→p1 x0 x1 x2→p2 x0 x1 x2→X):X:=h.elim fun x0 h=>h.elim fun x1 h=>h.elim fun x2 h=>j x0 x1 x2 (h.1) (h.2.1) (h.2.2)
theorem e3_4 {α0:Sort _} {α1:Sort _} {α2:Sort _} {p0 p1 p2 p3:α0→α1→α2→Prop} {X:Prop} (h:∃ x0 x1 x2,p0 x0 x1 x2∧p1 x0 x1 x2∧p2 x0 x1 x2∧p3 x0 x1 x2) (j:∀ x0 x1 x2,p0 x0 x1 x2→p1 x0 x1 x2→p2 x0 x1 x2→p3 x0 x1 x2→X):X:=h.elim fun x0 h=>h.elim fun x1 h=>h.elim fun x2 h=>j x0 x1 x2 (h.1) (h.2.1) (h.2.2.1) (h.2.2.2)
theorem e3_5 {α0:Sort _} {α1:Sort _} {α2:Sort _} {p0 p1 p2 p3 p4:α0→α1→α2→Prop} {X:Prop} (h:∃ x0 x1 x2,p0 x0 x1 x2∧p1 x0 x1 x2∧p2 x0 x1 x2∧p3 x0 x1 x2∧p4 x0 x1 x2) (j:∀ x0 x1 x2,p0 x0 x1 x2→p1 x0 x1 x2→p2 x0 x1 x2→p3 x0 x1 x2→p4 x0 x1 x2→X):X:=h.elim fun x0 h=>h.elim fun x1 h=>h.elim fun x2 h=>j x0 x1 x2 (h.1) (h.2.1) (h.2.2.1) (h.2.2.2.1) (h.2.2.2.2)
theorem e3_6 {α0:Sort _} {α1:Sort _} {α2:Sort _} {p0 p1 p2 p3 p4 p5:α0→α1→α2→Prop} {X:Prop} (h:∃ x0 x1 x2,p0 x0 x1 x2∧p1 x0 x1 x2∧p2 x0 x1 x2∧p3 x0 x1 x2∧p4 x0 x1 x2∧p5 x0 x1 x2) (j:∀ x0 x1 x2,p0 x0 x1 x2→p1 x0 x1 x2→p2 x0 x1 x2→p3 x0 x1 x2→p4 x0 x1 x2→p5 x0 x1 x2→X):X:=h.elim fun x0 h=>h.elim fun x1 h=>h.elim fun x2 h=>j x0 x1 x2 (h.1) (h.2.1) (h.2.2.1) (h.2.2.2.1) (h.2.2.2.2.1) (h.2.2.2.2.2)
theorem e4_4 {α0:Sort _} {α1:Sort _} {α2:Sort _} {α3:Sort _} {p0 p1 p2 p3:α0→α1→α2→α3→Prop} {X:Prop} (h:∃ x0 x1 x2 x3,p0 x0 x1 x2 x3∧p1 x0 x1 x2 x3∧p2 x0 x1 x2 x3∧p3 x0 x1 x2 x3) (j:∀ x0 x1 x2 x3,p0 x0 x1 x2 x3→p1 x0 x1 x2 x3→p2 x0 x1 x2 x3→p3 x0 x1 x2 x3→X):X:=h.elim fun x0 h=>h.elim fun x1 h=>h.elim fun x2 h=>h.elim fun x3 h=>j x0 x1 x2 x3 (h.1) (h.2.1) (h.2.2.1) (h.2.2.2)
theorem e4_9 {α0:Sort _} {α1:Sort _} {α2:Sort _} {α3:Sort _} {p0 p1 p2 p3 p4 p5 p6 p7 p8:α0→α1→α2→α3→Prop} {X:Prop} (h:∃ x0 x1 x2 x3,p0 x0 x1 x2 x3∧p1 x0 x1 x2 x3∧p2 x0 x1 x2 x3∧p3 x0 x1 x2 x3∧p4 x0 x1 x2 x3∧p5 x0 x1 x2 x3∧p6 x0 x1 x2 x3∧p7 x0 x1 x2 x3∧p8 x0 x1 x2 x3) (j:∀ x0 x1 x2 x3,p0 x0 x1 x2 x3→p1 x0 x1 x2 x3→p2 x0 x1 x2 x3→p3 x0 x1 x2 x3→p4 x0 x1 x2 x3→p5 x0 x1 x2 x3→p6 x0 x1 x2 x3→p7 x0 x1 x2 x3→p8 x0 x1 x2 x3→X):X:=h.elim fun x0 h=>h.elim fun x1 h=>h.elim fun x2 h=>h.elim fun x3 h=>j x0 x1 x2 x3 (h.1) (h.2.1) (h.2.2.1) (h.2.2.2.1) (h.2.2.2.2.1) (h.2.2.2.2.2.1) (h.2.2.2.2.2.2.1) (h.2.2.2.2.2.2.2.1) (h.2.2.2.2.2.2.2.2)
theorem e7_5 {α0:Sort _} {α1:Sort _} {α2:Sort _} {α3:Sort _} {α4:Sort _} {α5:Sort _} {α6:Sort _} {p0 p1 p2 p3 p4:α0→α1→α2→α3→α4→α5→α6→Prop} {X:Prop} (h:∃ x0 x1 x2 x3 x4 x5 x6,p0 x0 x1 x2 x3 x4 x5 x6∧p1 x0 x1 x2 x3 x4 x5 x6∧p2 x0 x1 x2 x3 x4 x5 x6∧p3 x0 x1 x2 x3 x4 x5 x6∧p4 x0 x1 x2 x3 x4 x5 x6) (j:∀ x0 x1 x2 x3 x4 x5 x6,p0 x0 x1 x2 x3 x4 x5 x6→p1 x0 x1 x2 x3 x4 x5 x6→p2 x0 x1 x2 x3 x4 x5 x6→p3 x0 x1 x2 x3 x4 x5 x6→p4 x0 x1 x2 x3 x4 x5 x6→X):X:=h.elim fun x0 h=>h.elim fun x1 h=>h.elim fun x2 h=>h.elim fun x3 h=>h.elim fun x4 h=>h.elim fun x5 h=>h.elim fun x6 h=>j x0 x1 x2 x3 x4 x5 x6 (h.1) (h.2.1) (h.2.2.1) (h.2.2.2.1) (h.2.2.2.2)
theorem i0_3 {p0 p1 p2:Prop} (h0:p0) (h1:p1) (h2:p2):p0∧p1∧p2:=⟨h0,h1,h2⟩
theorem i1_2 {α0:Sort _} {p0 p1:α0→Prop} (x0:α0) (h0:p0 x0) (h1:p1 x0):∃ x0,p0 x0∧p1 x0:=⟨x0,h0,h1⟩
theorem i1_3 {α0:Sort _} {p0 p1 p2:α0→Prop} (x0:α0) (h0:p0 x0) (h1:p1 x0) (h2:p2 x0):∃ x0,p0 x0∧p1 x0∧p2 x0:=⟨x0,h0,h1,h2⟩
theorem i1_5 {α0:Sort _} {p0 p1 p2 p3 p4:α0→Prop} (x0:α0) (h0:p0 x0) (h1:p1 x0) (h2:p2 x0) (h3:p3 x0) (h4:p4 x0):∃ x0,p0 x0∧p1 x0∧p2 x0∧p3 x0∧p4 x0:=⟨x0,h0,h1,h2,h3,h4⟩
theorem i2_1 {α0:Sort _} {α1:Sort _} {p0:α0→α1→Prop} (x0:α0) (x1:α1) (h0:p0 x0 x1):∃ x0 x1,p0 x0 x1:=⟨x0,x1,h0⟩
theorem i2_2 {α0:Sort _} {α1:Sort _} {p0 p1:α0→α1→Prop} (x0:α0) (x1:α1) (h0:p0 x0 x1) (h1:p1 x0 x1):∃ x0 x1,p0 x0 x1∧p1 x0 x1:=⟨x0,x1,h0,h1⟩
theorem i2_6 {α0:Sort _} {α1:Sort _} {p0 p1 p2 p3 p4 p5:α0→α1→Prop} (x0:α0) (x1:α1) (h0:p0 x0 x1) (h1:p1 x0 x1) (h2:p2 x0 x1) (h3:p3 x0 x1) (h4:p4 x0 x1) (h5:p5 x0 x1):∃ x0 x1,p0 x0 x1∧p1 x0 x1∧p2 x0 x1∧p3 x0 x1∧p4 x0 x1∧p5 x0 x1:=⟨x0,x1,h0,h1,h2,h3,h4,h5⟩
theorem i3_1 {α0:Sort _} {α1:Sort _} {α2:Sort _} {p0:α0→α1→α2→Prop} (x0:α0) (x1:α1) (x2:α2) (h0:p0 x0 x1 x2):∃ x0 x1 x2,p0 x0 x1 x2:=⟨x0,x1,x2,h0⟩
theorem i3_2 {α0:Sort _} {α1:Sort _} {α2:Sort _} {p0 p1:α0→α1→α2→Prop} (x0:α0) (x1:α1) (x2:α2) (h0:p0 x0 x1 x2) (h1:p1 x0 x1 x2):∃ x0 x1 x2,p0 x0 x1 x2∧p1 x0 x1 x2:=⟨x0,x1,x2,h0,h1⟩
theorem i3_3 {α0:Sort _} {α1:Sort _} {α2:Sort _} {p0 p1 p2:α0→α1→α2→Prop} (x0:α0) (x1:α1) (x2:α2) (h0:p0 x0 x1 x2) (h1:p1 x0 x1 x2) (h2:p2 x0 x1 x2):∃ x0 x1 x2,p0 x0 x1 x2∧p1 x0 x1 x2∧p2 x0 x1 x2:=⟨x0,x1,x2,h0,h1,h2⟩
theorem i3_5 {α0:Sort _} {α1:Sort _} {α2:Sort _} {p0 p1 p2 p3 p4:α0→α1→α2→Prop} (x0:α0) (x1:α1) (x2:α2) (h0:p0 x0 x1 x2) (h1:p1 x0 x1 x2) (h2:p2 x0 x1 x2) (h3:p3 x0 x1 x2) (h4:p4 x0 x1 x2):∃ x0 x1 x2,p0 x0 x1 x2∧p1 x0 x1 x2∧p2 x0 x1 x2∧p3 x0 x1 x2∧p4 x0 x1 x2:=⟨x0,x1,x2,h0,h1,h2,h3,h4⟩
theorem e5_13 {α0:Sort _} {α1:Sort _} {α2:Sort _} {α3:Sort _} {α4:Sort _} {p0 p1 p2 p3 p4 p5 p6 p7 p8 p9 p10 p11 p12:α0→α1→α2→α3→α4→Prop} {X:Prop} (h:∃ x0 x1 x2 x3 x4,p0 x0 x1 x2 x3 x4∧p1 x0 x1 x2 x3 x4∧p2 x0 x1 x2 x3 x4∧p3 x0 x1 x2 x3 x4∧p4 x0 x1 x2 x3 x4∧p5 x0 x1 x2 x3 x4∧p6 x0 x1 x2 x3 x4∧p7 x0 x1 x2 x3 x4∧p8 x0 x1 x2 x3 x4∧p9 x0 x1 x2 x3 x4∧p10 x0 x1 x2 x3 x4∧p11 x0 x1 x2 x3 x4∧p12 x0 x1 x2 x3 x4) (j:∀ x0 x1 x2 x3 x4,p0 x0 x1 x2 x3 x4→p1 x0 x1 x2 x3 x4→p2 x0 x1 x2 x3 x4→p3 x0 x1 x2 x3 x4→p4 x0 x1 x2 x3 x4→p5 x0 x1 x2 x3 x4→p6 x0 x1 x2 x3 x4→p7 x0 x1 x2 x3 x4→p8 x0 x1 x2 x3 x4→p9 x0 x1 x2 x3 x4→p10 x0 x1 x2 x3 x4→p11 x0 x1 x2 x3 x4→p12 x0 x1 x2 x3 x4→X):X:=h.elim fun x0 h=>h.elim fun x1 h=>h.elim fun x2 h=>h.elim fun x3 h=>h.elim fun x4 h=>j x0 x1 x2 x3 x4 (h.1) (h.2.1) (h.2.2.1) (h.2.2.2.1) (h.2.2.2.2.1) (h.2.2.2.2.2.1) (h.2.2.2.2.2.2.1) (h.2.2.2.2.2.2.2.1) (h.2.2.2.2.2.2.2.2.1) (h.2.2.2.2.2.2.2.2.2.1) (h.2.2.2.2.2.2.2.2.2.2.1) (h.2.2.2.2.2.2.2.2.2.2.2.1) (h.2.2.2.2.2.2.2.2.2.2.2.2)
end
section
open PySem
noncomputable abbrev Txt:=List Nat
inductive V where
 | none
 | bool (b:Bool)
 | int (i:Int)
 | str (s:Txt)
 | list (xs:List V)
 | tup (xs:List V)
 | obj (c:Nat) (kv:List (Nat×V))
 | loc (n:Nat)
mutual
noncomputable def V.decEq:(a b:V)→Decidable (a=b)
 | .none,.none=>Decidable.isTrue rfl
 | .bool a,.bool b=>if h:a=b then Decidable.isTrue (h▸rfl) else Decidable.isFalse fun e=>h (V.bool.inj e)
 | .int a,.int b=>if h:a=b then Decidable.isTrue (h▸rfl) else Decidable.isFalse fun e=>h (V.int.inj e)
 | .str a,.str b=>if h:a=b then Decidable.isTrue (h▸rfl) else Decidable.isFalse fun e=>h (V.str.inj e)
 | .list a,.list b=>match V.decEqs a b with
  | Decidable.isTrue h=>Decidable.isTrue (h▸rfl)
  | Decidable.isFalse h=>Decidable.isFalse fun e=>h (V.list.inj e)
 | .tup a,.tup b=>match V.decEqs a b with
  | Decidable.isTrue h=>Decidable.isTrue (h▸rfl)
  | Decidable.isFalse h=>Decidable.isFalse fun e=>h (V.tup.inj e)
 | .obj c a,.obj d b=>if h:c=d then (match V.decEqk a b with
  | Decidable.isTrue h'=>Decidable.isTrue (h▸h'▸rfl)
  | Decidable.isFalse h'=>Decidable.isFalse fun e=>h' (V.obj.inj e).2) else Decidable.isFalse fun e=>h (V.obj.inj e).1
 | .loc a,.loc b=>if h:a=b then Decidable.isTrue (h▸rfl) else Decidable.isFalse fun e=>h (V.loc.inj e)
 | .none,.bool _ | .none,.int _ | .none,.str _ | .none,.list _ | .none,.tup _ | .none,.obj .. | .none,.loc _=>Decidable.isFalse (fun h=>nomatch h)
 | .bool _,.none | .bool _,.int _ | .bool _,.str _ | .bool _,.list _ | .bool _,.tup _ | .bool _,.obj .. | .bool _,.loc _=>Decidable.isFalse (fun h=>nomatch h)
 | .int _,.none | .int _,.bool _ | .int _,.str _ | .int _,.list _ | .int _,.tup _ | .int _,.obj .. | .int _,.loc _=>Decidable.isFalse (fun h=>nomatch h)
 | .str _,.none | .str _,.bool _ | .str _,.int _ | .str _,.list _ | .str _,.tup _ | .str _,.obj .. | .str _,.loc _=>Decidable.isFalse (fun h=>nomatch h)
 | .list _,.none | .list _,.bool _ | .list _,.int _ | .list _,.str _ | .list _,.tup _ | .list _,.obj .. | .list _,.loc _=>Decidable.isFalse (fun h=>nomatch h)
 | .tup _,.none | .tup _,.bool _ | .tup _,.int _ | .tup _,.str _ | .tup _,.list _ | .tup _,.obj .. | .tup _,.loc _=>Decidable.isFalse (fun h=>nomatch h)
 | .obj ..,.none | .obj ..,.bool _ | .obj ..,.int _ | .obj ..,.str _ | .obj ..,.list _ | .obj ..,.tup _ | .obj ..,.loc _=>Decidable.isFalse (fun h=>nomatch h)
 | .loc _,.none | .loc _,.bool _ | .loc _,.int _ | .loc _,.str _ | .loc _,.list _ | .loc _,.tup _ | .loc _,.obj ..=>Decidable.isFalse (fun h=>nomatch h)
noncomputable def V.decEqs:(a b:List V)→Decidable (a=b)
 | [],[]=>Decidable.isTrue rfl
 | [],_ :: _=>Decidable.isFalse (fun h=>nomatch h)
 | _ :: _,[]=>Decidable.isFalse (fun h=>nomatch h)
 | a :: as,b :: bs=>match V.decEq a b,V.decEqs as bs with
  | Decidable.isTrue h,Decidable.isTrue h'=>Decidable.isTrue (h▸h'▸rfl)
  | Decidable.isFalse h,_=>Decidable.isFalse fun e=>h (List.cons.inj e).1
  | _,Decidable.isFalse h=>Decidable.isFalse fun e=>h (List.cons.inj e).2
noncomputable def V.decEqk:(a b:List (Nat×V))→Decidable (a=b)
 | [],[]=>Decidable.isTrue rfl
 | [],_ :: _=>Decidable.isFalse (fun h=>nomatch h)
 | _ :: _,[]=>Decidable.isFalse (fun h=>nomatch h)
 | (k,a) :: as,(l,b) :: bs=>if hk:k=l then (match V.decEq a b,V.decEqk as bs with
  | Decidable.isTrue h,Decidable.isTrue h'=>Decidable.isTrue (hk▸h▸h'▸rfl)
  | Decidable.isFalse h,_=>Decidable.isFalse fun e=>h (Prod.mk.inj (List.cons.inj e).1).2
  | _,Decidable.isFalse h=>Decidable.isFalse fun e=>h (List.cons.inj e).2) else Decidable.isFalse fun e=>hk (Prod.mk.inj (List.cons.inj e).1).1
end
noncomputable def V.decO (a b:Option V):Decidable (a=b):=haveI:DecidableEq V:=V.decEq; inferInstance
noncomputable def V.decN (l:List V):Decidable l.Nodup:=haveI:DecidableEq V:=V.decEq; inferInstance
noncomputable def V.decIn (a:V) (bs:List V):Decidable (a ∈ bs):=haveI:DecidableEq V:=V.decEq; inferInstance
inductive Cel where
 | list (xs:List V)
 | dict (kv:List (V×V))
 | inst (c:Nat)
 | attrs (kv:List (Nat×V))
 /-- a list that shall not change any more -/
 | flist (xs:List V)
 | gone
noncomputable abbrev St:=List Cel
noncomputable abbrev Loc:=List (Option V)
mutual
noncomputable def V.pure:V→Bool
 | .list xs=>V.pures xs
 | .tup xs=>V.pures xs
 | .obj _ kv=>V.purek kv
 | .loc _=>false
 | _=>true
noncomputable def V.pures:List V→Bool
 | []=>true
 | x :: xs=>x.pure && V.pures xs
noncomputable def V.purek:List (Nat×V)→Bool
 | []=>true
 | (_,x) :: xs=>x.pure && V.purek xs
end
set_option genInjectivity false
inductive BO where | add | sub | mod | mul | band
 deriving DecidableEq
inductive CO where | eq | ne | lt | gt | is | isnt | isin
 deriving DecidableEq
inductive E where
 | c (v:V)
 | x (i:Nat)
 | bin (o:BO) (a b:E)
 | cmp (o:CO) (a b:E)
 | not (a:E)
 | and (l:List E)
 | or (l:List E)
 | ite (t a b:E)
 | call (f:Nat) (args:List E)
 | new (c:Nat) (args:List E)
 | meth (o:E) (m:Nat) (args:List E)
 | repl (o:E) (old new:Txt)
 | len (a:E)
 | attr (o:E) (a:Nat)
 | idx (o i:E)
 | slc (o:E) (lo hi:Option E)
 | list (m:Bool) (es:List E)
 | tup (es:List E)
 | dict (ks:List V) (vs:List E)
 | comp (m:Bool) (x:Nat) (it elt:E)
 | compR (m:Bool) (x:Nat) (n elt:E)
 | frz (e:E)
 /-- as a test: its truth -/
 | tst (e:E)
 | fail
inductive S where
 | asg (x:Nat) (e:E)
 | asgT (xs:List Nat) (e:E)
 | asgI (o i e:E)
 | asgA (o:E) (a:Nat) (e:E)
 | aug (x:Nat) (op:BO) (e:E)
 | augI (o i:E) (op:BO) (e:E)
 | augA (o:E) (a:Nat) (op:BO) (e:E)
 | ret (e:Option E)
 | ifs (t:E) (a b:List S)
 | while (t:E) (b:List S)
 | for (x:Nat) (e:E) (b:List S)
 | forT (xs:List Nat) (e:E) (b:List S)
 | expr (e:E)
 /-- for x in cs: y=y.replace(x,' '+x + ' ') -/
 | signs (x y:Nat) (cs:Txt)
 | fail
inductive Ctl where
 | next
 | ret (v:V)
section
variable {α β:Type}
noncomputable def V.sw (d:α) (fi:Int→α) (fs:Txt→α) (fl ft:List V→α) (fn:Nat→α) (v:V):α:=v.casesOn d (fun _=>d) fi fs fl ft (fun _ _=>d) fn
theorem V.sw_inv {fi:Int→Option β} {fs:Txt→Option β} {fl ft:List V→Option β} {fn:Nat→Option β} {v:V} {r:β} {X:Prop} (e:v.sw .none fi fs fl ft fn=some r)
  (ki:∀ i,v = .int i→fi i=some r→X) (ks:∀ s,v = .str s→fs s=some r→X) (kl:∀ l,v = .list l→fl l=some r→X) (kt:∀ l,v = .tup l→ft l=some r→X) (kn:∀ n,v = .loc n→fn n=some r→X):X:=
 v.casesOn (motive_1:=fun w=>v=w→w.sw .none fi fs fl ft fn=some r→X) (fun _=>noS) (fun _ _=>noS) ki ks kl kt (fun _ _ _=>noS) kn rfl e
noncomputable def Cel.sw (d:α) (fl:List V→α) (fd:List (V×V)→α) (fi:Nat→α) (fa:List (Nat×V)→α) (ff:List V→α) (c:Cel):α:=c.casesOn fl fd fi fa ff d
theorem Cel.sw_inv {fl ff:List V→Option β} {fd:List (V×V)→Option β} {fi:Nat→Option β} {fa:List (Nat×V)→Option β} {o:Option Cel} {r:β} {X:Prop} (e:o.bind (Cel.sw none fl fd fi fa ff)=some r)
  (kl:∀ l,o=some (.list l)→fl l=some r→X) (kd:∀ l,o=some (.dict l)→fd l=some r→X) (ki:∀ c,o=some (.inst c)→fi c=some r→X) (ka:∀ l,o=some (.attrs l)→fa l=some r→X) (kf:∀ l,o=some (.flist l)→ff l=some r→X):X:=
 bindI e fun c h e=>c.casesOn (motive:=fun w=>o=some w→w.sw none fl fd fi fa ff=some r→X) kl kd ki ka kf (fun _=>noS) h e
noncomputable def V.toInt:V→Option Int:=V.sw .none some (fun _=>.none) (fun _=>.none) (fun _=>.none) fun _=>.none
noncomputable def V.toTxt:V→Option Txt:=V.sw .none (fun _=>.none) some (fun _=>.none) (fun _=>.none) fun _=>.none
noncomputable def V.toL:V→Option (List V):=V.sw .none (fun _=>.none) (fun _=>.none) some (fun _=>.none) fun _=>.none
noncomputable def V.toTup:V→Option (List V):=V.sw .none (fun _=>.none) (fun _=>.none) (fun _=>.none) some fun _=>.none
noncomputable def V.toLoc:V→Option Nat:=V.sw .none (fun _=>.none) (fun _=>.none) (fun _=>.none) (fun _=>.none) some
noncomputable def V.toBool (v:V):Option Bool:=v.casesOn .none some (fun _=>.none) (fun _=>.none) (fun _=>.none) (fun _=>.none) (fun _ _=>.none) fun _=>.none
theorem V.toInt_ok {v:V} {i:Int} (e:v.toInt=some i):v = .int i:=V.sw_inv e (fun _ h e=>Option.some.inj e▸h) (fun _ _=>noS) (fun _ _=>noS) (fun _ _=>noS) fun _ _=>noS
theorem V.toTxt_ok {v:V} {i:Txt} (e:v.toTxt=some i):v = .str i:=V.sw_inv e (fun _ _=>noS) (fun _ h e=>Option.some.inj e▸h) (fun _ _=>noS) (fun _ _=>noS) fun _ _=>noS
theorem V.toL_ok {v:V} {i:List V} (e:v.toL=some i):v = .list i:=V.sw_inv e (fun _ _=>noS) (fun _ _=>noS) (fun _ h e=>Option.some.inj e▸h) (fun _ _=>noS) fun _ _=>noS
theorem V.toTup_ok {v:V} {i:List V} (e:v.toTup=some i):v = .tup i:=V.sw_inv e (fun _ _=>noS) (fun _ _=>noS) (fun _ _=>noS) (fun _ h e=>Option.some.inj e▸h) fun _ _=>noS
theorem V.toLoc_ok {v:V} {i:Nat} (e:v.toLoc=some i):v = .loc i:=V.sw_inv e (fun _ _=>noS) (fun _ _=>noS) (fun _ _=>noS) (fun _ _=>noS) fun _ h e=>Option.some.inj e▸h
theorem V.toBool_ok {v:V} {b:Bool}:v.toBool=some b→v = .bool b:=
 v.casesOn (motive_1:=fun v=>v.toBool=some b→v = .bool b) noS (fun _ e=>Option.some.inj e▸rfl) (fun _=>noS) (fun _=>noS) (fun _=>noS) (fun _=>noS) (fun _ _=>noS) fun _=>noS
noncomputable def Cel.toInst:Cel→Option Nat:=Cel.sw none (fun _=>none) (fun _=>none) some (fun _=>none) fun _=>none
noncomputable def Cel.toAttrs:Cel→Option (List (Nat×V)):=Cel.sw none (fun _=>none) (fun _=>none) (fun _=>none) some fun _=>none
noncomputable def instAt (n:Nat) (σ:St):Option (Nat×List (Nat×V)):=(σ[n]?.bind Cel.toInst).bind fun c=>(σ[n+1]?.bind Cel.toAttrs).map fun kv=>(c,kv)
theorem instAt_ok {n c:Nat} {σ:St} {kv:List (Nat×V)} (e:instAt n σ=some (c,kv)):σ[n]?=some (.inst c)∧σ[n+1]?=some (.attrs kv):=
 bindI e fun _ e1 e=>mapI e fun _ e2 e=>Cel.sw_inv e1 (fun _ _=>noS) (fun _ _=>noS) (fun _ h e1=>Cel.sw_inv e2 (fun _ _=>noS) (fun _ _=>noS) (fun _ _=>noS) (fun _ h' e2=>
  ⟨h.trans (congrArg (fun z=>some (Cel.inst z)) ((Option.some.inj e1).trans (Prod.mk.inj e).1)),h'.trans (congrArg (fun z=>some (Cel.attrs z)) ((Option.some.inj e2).trans (Prod.mk.inj e).2))⟩) fun _ _=>noS) (fun _ _=>noS) fun _ _=>noS
noncomputable def nilO (l:List α) (r:Option β):Option β:=l.casesOn r fun _ _=>none
noncomputable def oneO (l:List α) (f:α→Option β):Option β:=l.casesOn none fun v r=>nilO r (f v)
theorem nilO_inv {l:List α} {r:Option β} {b:β} {X:Prop} (e:nilO l r=some b) (k:l=[]→r=some b→X):X:=
 l.casesOn (motive:=fun w=>l=w→nilO w r=some b→X) k (fun _ _ _=>noS) rfl e
theorem oneO_inv {l:List α} {f:α→Option β} {b:β} {X:Prop} (e:oneO l f=some b) (k:∀ v,l=[v]→f v=some b→X):X:=
 l.casesOn (motive:=fun w=>l=w→oneO w f=some b→X) (fun _=>noS) (fun v r h e=>nilO_inv e fun h' e=>k v (h'▸h) e) rfl e
theorem bnd {α β:Type} {x:Option α} {a:α} {f:α→Option β} {r:Option β} (h:x=some a) (k:f a=r):x.bind f=r:=by rw [h]; exact k
theorem mp_ {α β:Type} {x:Option α} {a:α} {f:α→β} (h:x=some a):x.map f=some (f a):=by rw [h]; rfl
theorem ite_some {p:Prop} [Decidable p] {x:Option β} {y:β} {X:Prop} (e:(if p then x else none)=some y) (k:p→x=some y→X):X:=
 if h:p then k h ((if_pos h).symm.trans e) else noS ((if_neg h).symm.trans e)
theorem ite_none {p:Prop} [Decidable p] {x:Option β} {y:β} {X:Prop} (e:(if p then none else x)=some y) (k:¬ p→x=some y→X):X:=
 if h:p then noS ((if_pos h).symm.trans e) else k h ((if_neg h).symm.trans e)
end
noncomputable def celL:Cel→Option (List V):=Cel.sw none some (fun _=>none) (fun _=>none) (fun _=>none) some
noncomputable def items (v:V) (σ:St):Option (List V):=v.sw none (fun _=>none) (fun _=>none) some (fun _=>none) fun n=>σ[n]?.bind celL
noncomputable def truthL (v:V) (σ:St):Option Bool:=(items v σ).bind fun xs=>if xs.length<1000000 then some (!xs.isEmpty) else none
noncomputable def truth (v:V) (σ:St):Option Bool:=v.casesOn (some false) some (fun i=>some (i != 0)) (fun _=>none) (fun _=>truthL v σ) (fun _=>none) (fun _ _=>none) fun _=>truthL v σ
noncomputable def addL (a b:V) (σ:St):Option V:=(items a σ).bind fun xs=>(items b σ).bind fun ys=>if xs.length+ys.length<1000000 then some (.list (xs++ys)) else none
noncomputable def addI (b:V) (i:Int):Option V:=b.toInt.map fun j=>.int (i+j)
noncomputable def addS (b:V) (s:Txt):Option V:=b.toTxt.bind fun t=>if s.length+t.length<1000000 then some (.str (s++t)) else none
noncomputable def addV (a b:V) (σ:St):Option V:=a.sw none (addI b) (addS b) (fun _=>addL a b σ) (fun _=>none) fun _=>addL a b σ
noncomputable def subV (a b:V):Option V:=a.toInt.bind fun i=>b.toInt.map fun j=>.int (i - j)
noncomputable def modV (a b:V):Option V:=a.toInt.bind fun i=>b.toInt.bind fun j=>if 0<j then some (.int (i % j)) else none
noncomputable def mulV (a b:V):Option V:=a.toTxt.bind fun s=>b.toInt.bind fun j=>if 0≤j∧j<64∧s.length<64 then some (.str (List.replicate j.toNat s).flatten) else none
noncomputable def bandV (a b:V):Option V:=a.toInt.bind fun i=>b.toInt.bind fun _=>if i=0 then some (.int 0) else none
noncomputable def binop (o:BO) (a b:V) (σ:St):Option V:=o.casesOn (addV a b σ) (subV a b) (modV a b) (mulV a b) (bandV a b)
noncomputable def augop (o:BO) (a b:V):Option V:=o.casesOn (a.sw none (addI b) (addS b) (fun _=>none) (fun _=>none) fun _=>none) (subV a b) none none none
noncomputable def okTxt (s:Txt):Bool:=s.all fun ch=>ch<0x110000
noncomputable def V.isTxt (v:V):Bool:=v.toTxt.any okTxt
noncomputable def V.eqd (n:Nat):V→Bool:=n.rec V.isTxt fun _ ih v=>v.isTxt || v.toL.any fun xs=>xs.all ih
theorem anyI {α:Type} {o:Option α} {p:α→Bool} {X:Prop} (e:o.any p=true) (k:∀ a,o=some a→p a=true→X):X:=o.casesOn (motive:=fun w=>o=w→w.any p=true→X) (fun _=>noF) k rfl e
noncomputable def eqL (xs ys:List V):Option Bool:=if xs.all (V.eqd 50) && ys.all (V.eqd 50) then some (@decide (xs=ys) (V.decEqs xs ys)) else none
noncomputable def V.isNone (v:V):Bool:=v.casesOn true (fun _=>false) (fun _=>false) (fun _=>false) (fun _=>false) (fun _=>false) (fun _ _=>false) fun _=>false
noncomputable def eqv (a b:V):Option Bool:=
 a.casesOn (b.toL.map fun _=>false) (fun x=>b.toBool.map fun y=>decide (x=y)) (fun x=>b.toInt.map fun y=>decide (x=y)) (fun x=>b.toTxt.map fun y=>decide (x=y))
  (fun xs=>cond b.isNone (some false) (b.toL.bind (eqL xs))) (fun _=>none) (fun _ _=>none) fun _=>none
noncomputable def V.isInt (v:V):Bool:=v.toInt.isSome
noncomputable def isIn (a:V) (bs:List V):Option Bool:=
 if (a.isInt && bs.all V.isInt) || (a.isTxt && bs.all V.isTxt) then some (@decide (a ∈ bs) (V.decIn a bs)) else none
noncomputable def cmpop (o:CO) (a b:V) (σ:St):Option Bool:=
 o.casesOn (eqv a b) ((eqv a b).map (!·)) (a.toInt.bind fun i=>b.toInt.map fun j=>decide (i<j)) (a.toInt.bind fun i=>b.toInt.map fun j=>decide (j<i))
  (cond b.isNone (some a.isNone) none) (cond b.isNone (some !a.isNone) none) (b.toTup.bind (isIn a))
noncomputable def place (i:Int) (n:Nat):Option Nat:=
 if 1000000≤n then none else if 0≤i then (if i<n then some i.toNat else none) else if 0≤i+n then some (i+n).toNat else none
noncomputable def dget (kv:List (V×V)) (k:V):Option V:=kv.rec none fun p _ ih=>@ite _ (p.1=k) (V.decEq p.1 k) (some p.2) ih
noncomputable def dset (kv:List (V×V)) (k v:V):List (V×V):=kv.rec [(k,v)] fun p r ih=>@ite _ (p.1=k) (V.decEq p.1 k) ((p.1,v) :: r) (p :: ih)
noncomputable def aget (kv:List (Nat×V)) (k:Nat):Option V:=kv.rec none fun p _ ih=>if p.1=k then some p.2 else ih
noncomputable def aset (kv:List (Nat×V)) (k:Nat) (v:V):List (Nat×V):=kv.rec [(k,v)] fun p r ih=>if p.1=k then (p.1,v) :: r else p :: ih
noncomputable def ati (xs:List V) (i:V):Option V:=i.toInt.bind fun i=>(place i xs.length).bind fun j=>xs[j]?
noncomputable def atS (s:Txt) (i:V):Option V:=i.toInt.bind fun i=>(place i s.length).bind fun j=>s[j]?.map fun ch=>.str [ch]
noncomputable def index (o i:V) (σ:St):Option V:=
 o.sw none (fun _=>none) (fun s=>atS s i) (fun xs=>ati xs i) (fun xs=>ati xs i) fun n=>σ[n]?.bind (Cel.sw none (fun xs=>ati xs i) (fun kv=>i.toTxt.bind fun _=>dget kv i) (fun _=>none) (fun _=>none) fun xs=>ati xs i)
noncomputable def bound (n:Nat) (dflt:Nat) (o:Option V):Option Nat:=o.casesOn (some dflt) fun v=>(V.toInt v).map fun (i:Int)=>if 0≤i then min i.toNat n else (i+n).toNat
noncomputable def cut {α β:Type} (f:List α→β) (xs:List α) (lo hi:Option V):Option β:=if 1000000≤xs.length then none else (bound xs.length 0 lo).bind fun a=>(bound xs.length xs.length hi).map fun b=>f ((xs.take b).drop a)
noncomputable def slice (o:V) (lo hi:Option V):Option V:=o.sw none (fun _=>none) (fun s=>cut .str s lo hi) (fun xs=>cut .list xs lo hi) (fun _=>none) fun _=>none
noncomputable def toStr (s:Txt):Str:=⟨s.toArray⟩
noncomputable def ofStr (s:Str):Txt:=s.cps.toList
noncomputable def split (s:Txt):List Txt:=(wordsOf (toStr s)).map ofStr
noncomputable def replace (s a b:Txt):Txt:=ofStr (Txt.replace (toStr s) (toStr a) (toStr b))
noncomputable def join (sep:Txt):List Txt→Txt
 | []=>[]
 | [x]=>x
 | x :: y :: r=>x++sep++join sep (y :: r)
noncomputable def allStr (l:List V):Option (List Txt):=l.rec (some []) fun v _ ih=>v.toTxt.bind fun s=>ih.map (s :: ·)
structure Fn where
 arity:Nat
 slots:Nat
 body:List S
 deriving Inhabited
structure Prog where
 fn:List Fn
 /-- class,method: the function -/
 meth:Nat→Nat→Option Nat
 /-- class: its __init__,if it has one of its own -/
 init:Nat→Option (Option Nat)
noncomputable def total (l:List Txt):Nat:=(l.map List.length).sum
noncomputable def ssplit (s:Txt) (args:List V) (σ:St):Option (V×St):=nilO args (if s.length<1000000 then some (.list ((split s).map .str),σ) else none)
noncomputable def sjoin (s:Txt) (args:List V) (σ:St):Option (V×St):=oneO args fun l=>(items l σ).bind fun xs=>(allStr xs).bind fun ts=>
   if xs.length<1000∧s.length<10∧total ts<1000000 then some (.str (join s ts),σ) else none
noncomputable def bstr (s:Txt) (m:Nat) (args:List V) (σ:St):Option (V×St):=
 if m=4 then ssplit s args σ else if m=5 then sjoin s args σ else none
noncomputable def lappend (n:Nat) (xs:List V) (args:List V) (σ:St):Option (V×St):=oneO args fun v=>if xs.length<1000000 then some (.none,σ.set n (.list (xs++[v]))) else none
noncomputable def lextend (n:Nat) (xs:List V) (args:List V) (σ:St):Option (V×St):=oneO args fun l=>l.toL.bind fun ys=>if xs.length+ys.length<1000000 then some (.none,σ.set n (.list (xs++ys))) else none
noncomputable def lpop (n:Nat) (xs:List V) (args:List V) (σ:St):Option (V×St):=nilO args (if xs.length<1000000 then xs.getLast?.map fun v=>(v,σ.set n (.list xs.dropLast)) else none)
noncomputable def blist (n:Nat) (xs:List V) (m:Nat) (args:List V) (σ:St):Option (V×St):=
 if m=0 then lappend n xs args σ else if m=1 then lextend n xs args σ else if m=2 then lpop n xs args σ else none
noncomputable def bdict (kv:List (V×V)) (args:List V) (σ:St):Option (V×St):=oneO args fun k=>k.toInt.bind fun _=>(dget kv k).map fun v=>(v,σ)
noncomputable def bmeth (o:V) (m:Nat) (args:List V) (σ:St):Option (V×St):=
 o.sw none (fun _=>none) (fun s=>bstr s m args σ) (fun _=>none) (fun _=>none) fun n=>σ[n]?.bind (Cel.sw none (fun xs=>blist n xs m args σ) (fun kv=>if m=3 then bdict kv args σ else none) (fun _=>none) (fun _=>none) fun _=>none)
noncomputable def bkind (v:V) (m:Nat) (σ:St):Bool:=v.sw false (fun _=>false) (fun _=>m == 4 || m == 5) (fun _=>false) (fun _=>false) fun n=>σ[n]?.any (Cel.sw false (fun _=>decide (m<3)) (fun _=>m == 3) (fun _=>false) (fun _=>false) fun _=>false)
noncomputable def freezeC (n:Nat) (σ:St):Cel→Option (V×St):=
 Cel.sw none (fun xs=>some (.list xs,σ.set n (.flist xs))) (fun _=>none) (fun c=>(σ[n+1]?.bind Cel.toAttrs).map fun kv=>(.obj c kv,(σ.set n .gone).set (n+1) .gone)) (fun _=>none) fun xs=>some (.list xs,σ)
noncomputable def freeze (v:V) (σ:St):Option (V×St):=v.casesOn (some (v,σ)) (fun _=>some (v,σ)) (fun _=>some (v,σ)) (fun _=>some (v,σ)) (fun _=>some (v,σ)) (fun _=>some (v,σ)) (fun _ _=>some (v,σ)) fun n=>σ[n]?.bind (freezeC n σ)
noncomputable def getAttr (o:V) (a:Nat) (σ:St):Option V:=o.casesOn none (fun _=>none) (fun _=>none) (fun _=>none) (fun _=>none) (fun _=>none) (fun _ kv=>aget kv a) fun n=>(instAt n σ).bind fun q=>aget q.2 a
noncomputable def setAttr (o:V) (a:Nat) (v:V) (σ:St):Option St:=o.toLoc.bind fun n=>(instAt n σ).bind fun q=>if q.2.length<100 then some (σ.set (n+1) (.attrs (aset q.2 a v))) else none
noncomputable def setIdx (o i v:V) (σ:St):Option St:=o.toLoc.bind fun n=>σ[n]?.bind (Cel.sw none
  (fun xs=>i.toInt.bind fun i=>if 0≤i∧i<xs.length∧xs.length<1000000 then some (σ.set n (.list (xs.set i.toNat v))) else none)
  (fun kv=>i.toTxt.bind fun _=>if (dget kv i).isSome then some (σ.set n (.dict (dset kv i v))) else none) (fun _=>none) (fun _=>none) fun _=>none)
noncomputable def newList (m:Bool) (vs:List V) (σ:St):V×St:=cond m (.loc σ.length,σ++[.list vs]) (.list vs,σ)
open Classical in
noncomputable def leave (v:V) (σ σ':St):V×St:=if v.pure=true∧σ'.take σ.length=σ then (v,σ) else (v,σ')
noncomputable def lenL (a:V) (σ:St):Option V:=(items a σ).bind fun xs=>if xs.length<1000000 then some (.int xs.length) else none
noncomputable def lenV (a:V) (σ:St):Option V:=a.sw none (fun _=>none) (fun s=>if s.length<1000000 then some (.int s.length) else none) (fun _=>lenL a σ) (fun _=>none) fun _=>lenL a σ
noncomputable def replV (o:V) (a b:Txt):Option V:=o.toTxt.bind fun t=>if a≠b∧t.length<100000∧b.length<10 then some (.str (replace t a b)) else none
noncomputable abbrev Callee:=Nat→List V→St→Option (V×St)
noncomputable def clsOf (o:V) (σ:St):Option Nat:=o.toLoc.bind fun n=>(instAt n σ).map (·.1)
noncomputable def seqC (k:Loc→St→Option (Ctl×Loc×St)) (r:Ctl×Loc×St):Option (Ctl×Loc×St):=r.1.casesOn (k r.2.1 r.2.2) fun w=>some (.ret w,r.2.1,r.2.2)
noncomputable def forL (f:V→Loc→St→Option (Ctl×Loc×St)) (l:List V):Loc→St→Option (Ctl×Loc×St):=l.rec (fun ρ σ=>some (.next,ρ,σ)) fun v _ ih ρ σ=>(f v ρ σ).bind (seqC ih)
noncomputable def mapL (f:V→St→Option (V×St)) (l:List V):St→Option (List V×St):=l.rec (fun σ=>some ([],σ)) fun v _ ih σ=>(f v σ).bind fun q=>(ih q.2).map fun r=>(q.1 :: r.1,r.2)
noncomputable def whileN (t:Loc→St→Option (Bool×St)) (f:Loc→St→Option (Ctl×Loc×St)) (n:Nat):Loc→St→Option (Ctl×Loc×St):=
 n.rec (fun _ _=>none) fun _ ih ρ σ=>(t ρ σ).bind fun q=>cond q.1 ((f ρ q.2).bind (seqC ih)) (some (.next,ρ,q.2))
noncomputable def setAll (xs:List Nat):List V→Loc→Option Loc:=xs.rec (fun vs ρ=>nilO vs (some ρ)) fun x _ ih vs ρ=>vs.casesOn none fun v vs=>ih vs (ρ.set x (some v))
noncomputable def seqItems:V→Option (List V):=V.sw none (fun _=>none) (fun _=>none) some some fun _=>none
noncomputable def rangeV (v:V):Option (List V):=v.toInt.bind fun k=>if 0≤k∧k<1000 then some ((List.range k.toNat).map fun (j:Nat)=>V.int j) else none
noncomputable def iterItems:V→Option (List V):=V.sw none (fun _=>none) (fun s=>some (s.map fun ch=>.str [ch])) some some fun _=>none
noncomputable def newF (C:Callee) (p:Option (Option Nat)) (c:Nat) (vs:List V) (σ₁:St):Option (V×St):=
 p.bind fun p=>p.casesOn (cond vs.isEmpty (some (.loc σ₁.length,σ₁++[.inst c,.attrs []])) none) fun f=>(C f (.loc σ₁.length :: vs) (σ₁++[.inst c,.attrs []])).bind fun q=>cond q.1.isNone (some (.loc σ₁.length,q.2)) none
noncomputable def mthF (Pm:Nat→Nat→Option Nat) (C:Callee) (m:Nat) (fa:St→Option (List V×St)) (vo:V) (σ₁:St):Option (V×St):=
 (clsOf vo σ₁).casesOn (cond (bkind vo m σ₁) ((fa σ₁).bind fun q=>bmeth vo m q.1 q.2) none) fun c=>(Pm c m).bind fun f=>(fa σ₁).bind fun q=>C f (vo :: q.1) q.2
section
variable (P:Prog) (C:Callee)
mutual
noncomputable def evalE:E→Loc→St→Option (V×St)
 | .c v,_,σ=>some (v,σ)
 | .x i,ρ,σ=>ρ[i]?.bind fun o=>o.map fun v=>(v,σ)
 | .bin o a b,ρ,σ=>(evalE a ρ σ).bind fun (va,σ₁)=>(evalE b ρ σ₁).bind fun (vb,σ₂)=>(binop o va vb σ₂).map fun v=>(v,σ₂)
 | .cmp o a b,ρ,σ=>(evalE a ρ σ).bind fun (va,σ₁)=>(evalE b ρ σ₁).bind fun (vb,σ₂)=>(cmpop o va vb σ₂).map fun v=>(.bool v,σ₂)
 | .not _,_,_=>none
 | .and _,_,_=>none
 | .or _,_,_=>none
 | .ite t a b,ρ,σ=>(evalT t ρ σ).bind fun (q,σ₁)=>if q then evalE a ρ σ₁ else evalE b ρ σ₁
 | .call f args,ρ,σ=>(evalEs args ρ σ).bind fun (vs,σ₁)=>C f vs σ₁
 | .new c args,ρ,σ=>(evalEs args ρ σ).bind fun (vs,σ₁)=>newF C (P.init c) c vs σ₁
 | .meth o m args,ρ,σ=>(evalE o ρ σ).bind fun (vo,σ₁)=>mthF P.meth C m (evalEs args ρ) vo σ₁
 | .repl o a b,ρ,σ=>(evalE o ρ σ).bind fun (vo,σ₁)=>(replV vo a b).map fun v=>(v,σ₁)
 | .len a,ρ,σ=>(evalE a ρ σ).bind fun (va,σ₁)=>(lenV va σ₁).map fun v=>(v,σ₁)
 | .attr o a,ρ,σ=>(evalE o ρ σ).bind fun (vo,σ₁)=>(getAttr vo a σ₁).map fun v=>(v,σ₁)
 | .idx o i,ρ,σ=>(evalE o ρ σ).bind fun (vo,σ₁)=>(evalE i ρ σ₁).bind fun (vi,σ₂)=>(index vo vi σ₂).map fun v=>(v,σ₂)
 | .slc o lo hi,ρ,σ=>(evalE o ρ σ).bind fun (vo,σ₁)=>(evalO lo ρ σ₁).bind fun (vl,σ₂)=>(evalO hi ρ σ₂).bind fun (vh,σ₃)=>(slice vo vl vh).map fun v=>(v,σ₃)
 | .list m es,ρ,σ=>(evalEs es ρ σ).bind fun (vs,σ₁)=>if vs.length<1000 then some (newList m vs σ₁) else none
 | .tup es,ρ,σ=>(evalEs es ρ σ).bind fun (vs,σ₁)=>if vs.length<1000 then some (.tup vs,σ₁) else none
 | .dict ks vs,ρ,σ=>(evalEs vs ρ σ).bind fun (vv,σ₁)=>if ks.length=vv.length∧ks.length<1000 then some (.loc σ₁.length,σ₁++[.dict (ks.zip vv)]) else none
 | .comp m x it elt,ρ,σ=>(evalE it ρ σ).bind fun (vi,σ₁)=>(seqItems vi).bind fun xs=>
   if xs.length<1000000 then (mapL (fun v σ'=>evalE elt (ρ.set x (some v)) σ') xs σ₁).map fun (ws,σ₂)=>newList m ws σ₂ else none
 | .compR m x n elt,ρ,σ=>(evalE n ρ σ).bind fun (vn,σ₁)=>(rangeV vn).bind fun xs=>
   if xs.length<1000000 then (mapL (fun v σ'=>evalE elt (ρ.set x (some v)) σ') xs σ₁).map fun (ws,σ₂)=>newList m ws σ₂ else none
 | .frz e,ρ,σ=>(evalE e ρ σ).bind fun (v,σ₁)=>freeze v σ₁
 | .tst _,_,_=>none
 | .fail,_,_=>none
noncomputable def evalEs:List E→Loc→St→Option (List V×St)
 | [],_,σ=>some ([],σ)
 | e :: es,ρ,σ=>(evalE e ρ σ).bind fun (v,σ₁)=>(evalEs es ρ σ₁).map fun (vs,σ₂)=>(v :: vs,σ₂)
noncomputable def evalO:Option E→Loc→St→Option (Option V×St)
 | none,_,σ=>some (none,σ)
 | some e,ρ,σ=>(evalE e ρ σ).map fun (v,σ₁)=>(some v,σ₁)
noncomputable def evalT:E→Loc→St→Option (Bool×St)
 | .not a,ρ,σ=>(evalT a ρ σ).map fun (q,σ₁)=>(!q,σ₁)
 | .and l,ρ,σ=>evalAnd l ρ σ
 | .or l,ρ,σ=>evalOr l ρ σ
 | .cmp o a b,ρ,σ=>(evalE a ρ σ).bind fun (va,σ₁)=>(evalE b ρ σ₁).bind fun (vb,σ₂)=>(cmpop o va vb σ₂).map fun v=>(v,σ₂)
 | .tst e,ρ,σ=>(evalE e ρ σ).bind fun (v,σ₁)=>(truth v σ₁).map fun q=>(q,σ₁)
 | _,_,_=>none
noncomputable def evalAnd:List E→Loc→St→Option (Bool×St)
 | [],_,σ=>some (true,σ)
 | e :: es,ρ,σ=>(evalT e ρ σ).bind fun (q,σ₁)=>if q then evalAnd es ρ σ₁ else some (false,σ₁)
noncomputable def evalOr:List E→Loc→St→Option (Bool×St)
 | [],_,σ=>some (false,σ)
 | e :: es,ρ,σ=>(evalT e ρ σ).bind fun (q,σ₁)=>if q then some (true,σ₁) else evalOr es ρ σ₁
end
end
noncomputable def slotV (ρ:Loc) (y:Nat):Option V:=ρ[y]?.bind id
noncomputable def signsL (x y:Nat) (cs:Txt):Loc→Option Loc:=
 cs.rec some fun ch _ ih ρ=>((slotV ρ y).bind V.toTxt).bind fun t=>if t.length<100000 then ih ((ρ.set x (some (.str [ch]))).set y (some (.str (replace t [ch] [32,ch,32])))) else none
noncomputable def augF (op:BO) (x:Nat) (f:Option (V×St)) (ρ:Loc) (old:Option (Option V)):Option (Ctl×Loc×St):=
 (old.bind id).bind fun old=>f.bind fun q=>(augop op old q.1).map fun r=>(.next,ρ.set x (some r),q.2)
section
variable (P:Prog) (W:Nat) (C:Callee)
mutual
noncomputable def evalS:S→Loc→St→Option (Ctl×Loc×St)
 | .asg x e,ρ,σ=>(evalE P C e ρ σ).map fun (v,σ₁)=>(.next,ρ.set x (some v),σ₁)
 | .asgT xs e,ρ,σ=>(evalE P C e ρ σ).bind fun (v,σ₁)=>(seqItems v).bind fun vs=>(setAll xs vs ρ).map fun ρ'=>(.next,ρ',σ₁)
 | .asgI o i e,ρ,σ=>(evalE P C e ρ σ).bind fun (v,σ₁)=>(evalE P C o ρ σ₁).bind fun (vo,σ₂)=>(evalE P C i ρ σ₂).bind fun (vi,σ₃)=>
   (setIdx vo vi v σ₃).map fun σ₄=>(.next,ρ,σ₄)
 | .asgA o a e,ρ,σ=>(evalE P C e ρ σ).bind fun (v,σ₁)=>(evalE P C o ρ σ₁).bind fun (vo,σ₂)=>(setAttr vo a v σ₂).map fun σ₃=>(.next,ρ,σ₃)
 | .aug x op e,ρ,σ=>augF op x (evalE P C e ρ σ) ρ ρ[x]?
 | .augI o i op e,ρ,σ=>(evalE P C o ρ σ).bind fun (vo,σ₁)=>(evalE P C i ρ σ₁).bind fun (vi,σ₂)=>(index vo vi σ₂).bind fun old=>
   (evalE P C e ρ σ₂).bind fun (v,σ₃)=>(augop op old v).bind fun r=>(setIdx vo vi r σ₃).map fun σ₄=>(.next,ρ,σ₄)
 | .augA o a op e,ρ,σ=>(evalE P C o ρ σ).bind fun (vo,σ₁)=>(getAttr vo a σ₁).bind fun old=>
   (evalE P C e ρ σ₁).bind fun (v,σ₂)=>(augop op old v).bind fun r=>(setAttr vo a r σ₂).map fun σ₃=>(.next,ρ,σ₃)
 | .ret none,ρ,σ=>some (.ret .none,ρ,σ)
 | .ret (some e),ρ,σ=>(evalE P C e ρ σ).map fun (v,σ₁)=>(.ret v,ρ,σ₁)
 | .ifs t a b,ρ,σ=>(evalT P C t ρ σ).bind fun (q,σ₁)=>if q then evalSs a ρ σ₁ else evalSs b ρ σ₁
 | .while t b,ρ,σ=>whileN (evalT P C t) (evalSs b) W ρ σ
 | .for x e b,ρ,σ=>(evalE P C e ρ σ).bind fun (v,σ₁)=>(iterItems v).bind fun xs=>forL (fun v ρ' σ'=>evalSs b (ρ'.set x (some v)) σ') xs ρ σ₁
 | .forT ys e b,ρ,σ=>(evalE P C e ρ σ).bind fun (v,σ₁)=>(seqItems v).bind fun xs=>
   forL (fun v ρ' σ'=>(seqItems v).bind fun vs=>(setAll ys vs ρ').bind fun ρ''=>evalSs b ρ'' σ') xs ρ σ₁
 | .expr e,ρ,σ=>(evalE P C e ρ σ).bind fun (v,σ₁)=>if v.isNone then some (.next,ρ,σ₁) else none
 | .signs x y cs,ρ,σ=>(signsL x y cs ρ).map fun ρ'=>(.next,ρ',σ)
 | .fail,_,_=>none
noncomputable def evalSs:List S→Loc→St→Option (Ctl×Loc×St)
 | [],ρ,σ=>some (.next,ρ,σ)
 | s :: ss,ρ,σ=>(evalS s ρ σ).bind (seqC (evalSs ss))
end
end
noncomputable def bodyR (r:Ctl×Loc×St) (σ:St):V×St:=r.1.casesOn (leave .none σ r.2.2) fun v=>leave v σ r.2.2
noncomputable def callF (P:Prog) (W:Nat) (d:Nat):Callee:=
 d.rec (fun _ _ _=>none) fun _ ih f args σ=>P.fn[f]?.bind fun fn=>if args.length=fn.arity then (evalSs P W ih fn.body (args.map some++List.replicate (fn.slots - fn.arity) none) σ).map fun r=>bodyR r σ else none
end
section
open PySem
noncomputable def b_Node_init:List S:=[S.asgA (E.x 0) 0 (E.x 1),
 S.asgA (E.x 0) 1 (E.x 2),
 S.asgA (E.x 0) 2 (E.x 3),
 S.asgA (E.x 0) 3 (E.x 4),
 S.asgA (E.x 0) 4 (E.x 5),
 S.asgA (E.x 0) 5 (E.c (V.int 0))]
noncomputable def b_leaf:List S:=[S.ret (some (E.frz (E.new 0 [(E.x 0),(E.x 1),(E.list false []),(E.c (V.int 0)),(E.x 2)])))]
noncomputable def b_twig:List S:=[S.ret (some (E.frz (E.new 0 [(E.x 0),(E.x 1),(E.x 2),(E.c (V.int 0)),(E.x 3)])))]
noncomputable def b_modifiers_of:List S:=[S.asg 1 (E.list true []),
 S.forT [2,3] (E.c (V.tup [(V.tup [(V.int 4194304),(V.str [100,101,99,108,97,114,101,32])]),(V.tup [(V.int 65536),(V.str [112,117,98,108,105,99,32])]),(V.tup [(V.int 32768),(V.str [112,114,111,116,101,99,116,101,100,32])]),(V.tup [(V.int 16384),(V.str [112,114,105,118,97,116,101,32])]),(V.tup [(V.int 262144),(V.str [115,116,97,116,105,99,32])]),(V.tup [(V.int 524288),(V.str [97,98,115,116,114,97,99,116,32])]),(V.tup [(V.int 1048576),(V.str [111,118,101,114,114,105,100,101,32])]),(V.tup [(V.int 131072),(V.str [114,101,97,100,111,110,108,121,32])])])) [S.ifs (E.tst (E.bin .band (E.attr (E.x 0) 3) (E.x 2))) [S.fail] []],
 S.ret (some (E.meth (E.c (V.str [])) 5 [(E.x 1)]))]
noncomputable def b_opens_badly:List S:=[S.ifs (E.or [(E.cmp .eq (E.slc (E.x 0) none (some (E.c (V.int 1)))) (E.c (V.str [123]))),(E.cmp .eq (E.slc (E.x 0) none (some (E.c (V.int 4)))) (E.c (V.str [108,101,116,91])))]) [S.fail] [],
 S.for 1 (E.tup [(E.c (V.str [102,117,110,99,116,105,111,110])),(E.c (V.str [99,108,97,115,115]))]) [S.ifs (E.cmp .eq (E.slc (E.x 0) none (some (E.len (E.x 1)))) (E.x 1)) [S.fail,
 S.fail] []],
 S.ret (some (E.c (V.bool false)))]
noncomputable def b_open_if:List S:=[S.while (E.cmp .isnt (E.x 0) (E.c V.none)) [S.ifs (E.cmp .eq (E.attr (E.x 0) 0) (E.c (V.int 44))) [S.ifs (E.cmp .is (E.idx (E.attr (E.x 0) 2) (E.c (V.int 2))) (E.c V.none)) [S.ret (some (E.c (V.bool true)))] [],
 S.asg 0 (E.idx (E.attr (E.x 0) 2) (E.c (V.int 2)))] [S.ifs (E.cmp .isin (E.attr (E.x 0) 0) (E.tup [(E.c (V.int 45)),(E.c (V.int 47)),(E.c (V.int 48)),(E.c (V.int 49)),(E.c (V.int 55))])) [S.asg 0 (E.idx (E.attr (E.x 0) 2) (E.c (V.int (-1))))] [S.ret (some (E.c (V.bool false)))]]],
 S.fail]
noncomputable def b_exposed_in:List S:=[S.ifs (E.and [(E.cmp .eq (E.attr (E.x 0) 0) (E.c (V.int 23))),(E.cmp .eq (E.attr (E.x 0) 1) (E.c (V.str [105,110])))]) [S.fail] [],
 S.ifs (E.or [(E.cmp .eq (E.attr (E.x 0) 0) (E.c (V.int 21))),(E.cmp .isin (E.attr (E.x 0) 0) (E.c (V.tup [(V.int 29),(V.int 30),(V.int 31)])))]) [S.fail] [],
 S.ifs (E.or [(E.cmp .eq (E.attr (E.x 0) 0) (E.c (V.int 23))),(E.cmp .eq (E.attr (E.x 0) 0) (E.c (V.int 24)))]) [S.fail] [],
 S.ifs (E.cmp .eq (E.attr (E.x 0) 0) (E.c (V.int 26))) [S.fail] [],
 S.ifs (E.cmp .eq (E.attr (E.x 0) 0) (E.c (V.int 25))) [S.fail] [],
 S.ifs (E.and [(E.cmp .eq (E.attr (E.x 0) 0) (E.c (V.int 27))),(E.tst (E.bin .band (E.attr (E.x 0) 3) (E.c (V.int 4)))),(E.tst (E.bin .band (E.attr (E.x 0) 3) (E.c (V.int 8))))]) [S.fail] [],
 S.ret (some (E.c (V.bool false)))]
noncomputable def b_Angles_breaks:List S:=[S.ret (some (E.c (V.bool false)))]
noncomputable def b_Printer_init:List S:=[S.asgA (E.x 0) 6 (E.dict [] []),
 S.asgA (E.x 0) 7 (E.c (V.int 0)),
 S.asgA (E.x 0) 8 (E.c (V.int 0)),
 S.asgA (E.x 0) 9 (E.new 1 [])]
noncomputable def b_Printer_text:List S:=[S.asg 2 (E.meth (E.attr (E.x 0) 6) 3 [(E.attr (E.x 1) 0)]),
 S.ifs (E.cmp .is (E.x 2) (E.c V.none)) [S.fail] [],
 S.augA (E.x 0) 8 .add (E.c (V.int 1)),
 S.ifs (E.cmp .gt (E.attr (E.x 0) 8) (E.c (V.int 200))) [S.fail] [],
 S.asg 3 (E.meth (E.x 2) 10 [(E.x 0),(E.x 1)]),
 S.augA (E.x 0) 8 .sub (E.c (V.int 1)),
 S.ret (some (E.x 3))]
noncomputable def b_Printer_block:List S:=[S.ret (some (E.call 12 [(E.x 0),(E.attr (E.x 1) 2),(E.c (V.str []))]))]
noncomputable def b_row_start:List S:=[S.ret (some (E.bin .add (E.c (V.str [10])) (E.bin .mul (E.c (V.str [32,32])) (E.attr (E.x 0) 7))))]
noncomputable def b_braced:List S:=[S.ifs (E.not (E.tst (E.x 1))) [S.ret (some (E.c (V.str [123,125])))] [],
 S.ret (some (E.bin .add (E.bin .add (E.bin .add (E.c (V.str [123])) (E.call 13 [(E.x 0),(E.x 1),(E.x 2)])) (E.call 11 [(E.x 0)])) (E.c (V.str [125]))))]
noncomputable def b_rows_text:List S:=[S.asg 3 (E.list true []),
 S.augA (E.x 0) 7 .add (E.c (V.int 1)),
 S.for 4 (E.x 1) [S.expr (E.meth (E.x 3) 0 [(E.call 11 [(E.x 0)])]),
 S.expr (E.meth (E.x 3) 0 [(E.meth (E.x 0) 10 [(E.x 4)])]),
 S.expr (E.meth (E.x 3) 0 [(E.x 2)])],
 S.augA (E.x 0) 7 .sub (E.c (V.int 1)),
 S.ret (some (E.meth (E.c (V.str [])) 5 [(E.x 3)]))]
noncomputable def b_tail_of:List S:=[S.ifs (E.cmp .is (E.x 1) (E.c V.none)) [S.ret (some (E.c (V.str [])))] [],
 S.ret (some (E.bin .add (E.x 2) (E.meth (E.x 0) 10 [(E.x 1)])))]
noncomputable def b_NameShape_text:List S:=[S.ret (some (E.attr (E.x 2) 1))]
noncomputable def b_sub_text:List S:=[S.ifs (E.cmp .eq (E.attr (E.x 1) 0) (E.c (V.int 59))) [S.ret (some (E.bin .add (E.c (V.str [32])) (E.meth (E.x 0) 11 [(E.x 1)])))] [],
 S.ifs (E.and [(E.tst (E.x 2)),(E.tst (E.call 5 [(E.x 1)]))]) [S.ret (some (E.bin .add (E.bin .add (E.bin .add (E.c (V.str [32,123])) (E.call 13 [(E.x 0),(E.list false [(E.x 1)]),(E.c (V.str []))])) (E.call 11 [(E.x 0)])) (E.c (V.str [125]))))] [],
 S.ifs (E.tst (E.meth (E.attr (E.x 0) 9) 12 [(E.x 1)])) [S.fail] [],
 S.ret (some (E.call 13 [(E.x 0),(E.list false [(E.x 1)]),(E.c (V.str []))]))]
noncomputable def b_after_sub:List S:=[S.ifs (E.or [(E.cmp .eq (E.attr (E.x 1) 0) (E.c (V.int 59))),(E.and [(E.tst (E.x 2)),(E.tst (E.call 5 [(E.x 1)]))])]) [S.ret (some (E.c (V.str [32])))] [],
 S.ret (some (E.call 11 [(E.x 0)]))]
noncomputable def b_in_guarded:List S:=[S.asg 2 (E.meth (E.x 0) 10 [(E.x 1)]),
 S.ifs (E.tst (E.call 6 [(E.x 1)])) [S.fail] [],
 S.ret (some (E.x 2))]
noncomputable def b_decl_text:List S:=[S.asg 3 (E.meth (E.x 0) 10 [(E.idx (E.attr (E.x 1) 2) (E.c (V.int 0)))]),
 S.ifs (E.tst (E.bin .band (E.attr (E.x 1) 3) (E.c (V.int 2097152)))) [S.fail] [],
 S.aug 3 .add (E.call 14 [(E.x 0),(E.idx (E.attr (E.x 1) 2) (E.c (V.int 1))),(E.c (V.str [58,32]))]),
 S.asg 4 (E.idx (E.attr (E.x 1) 2) (E.c (V.int 2))),
 S.ifs (E.cmp .is (E.x 4) (E.c V.none)) [S.ret (some (E.x 3))] [],
 S.ret (some (E.bin .add (E.bin .add (E.x 3) (E.c (V.str [32,61,32]))) (E.ite (E.tst (E.x 2)) (E.call 18 [(E.x 0),(E.x 4)]) (E.meth (E.x 0) 10 [(E.x 4)]))))]
noncomputable def b_var_text:List S:=[S.asg 3 (E.list true []),
 S.for 4 (E.attr (E.x 1) 2) [S.expr (E.meth (E.x 3) 0 [(E.call 19 [(E.x 0),(E.x 4),(E.x 2)])])],
 S.ret (some (E.bin .add (E.bin .add (E.bin .add (E.call 3 [(E.x 1)]) (E.attr (E.x 1) 1)) (E.c (V.str [32]))) (E.meth (E.c (V.str [44,32])) 5 [(E.x 3)])))]
noncomputable def b_FileShape_text:List S:=[S.asg 3 (E.list true []),
 S.for 4 (E.attr (E.x 2) 2) [S.expr (E.meth (E.x 3) 0 [(E.meth (E.x 1) 10 [(E.x 4)])]),
 S.expr (E.meth (E.x 3) 0 [(E.c (V.str [10]))])],
 S.ret (some (E.meth (E.c (V.str [])) 5 [(E.x 3)]))]
noncomputable def b_BlockShape_text:List S:=[S.ret (some (E.meth (E.x 1) 11 [(E.x 2)]))]
noncomputable def b_EmptyShape_text:List S:=[S.ret (some (E.c (V.str [59])))]
noncomputable def b_VarShape_text:List S:=[S.ret (some (E.bin .add (E.call 20 [(E.x 1),(E.x 2),(E.c (V.bool false))]) (E.c (V.str [59]))))]
noncomputable def b_ExprStShape_text:List S:=[S.asg 3 (E.meth (E.x 1) 10 [(E.idx (E.attr (E.x 2) 2) (E.c (V.int 0)))]),
 S.ifs (E.tst (E.call 4 [(E.x 3)])) [S.fail] [],
 S.ret (some (E.bin .add (E.x 3) (E.c (V.str [59]))))]
noncomputable def b_IfShape_text:List S:=[S.asg 3 (E.bin .add (E.bin .add (E.c (V.str [105,102,32,40])) (E.meth (E.x 1) 10 [(E.idx (E.attr (E.x 2) 2) (E.c (V.int 0)))])) (E.c (V.str [41]))),
 S.asg 4 (E.idx (E.attr (E.x 2) 2) (E.c (V.int 1))),
 S.asg 5 (E.idx (E.attr (E.x 2) 2) (E.c (V.int 2))),
 S.ifs (E.cmp .is (E.x 5) (E.c V.none)) [S.ret (some (E.bin .add (E.x 3) (E.call 16 [(E.x 1),(E.x 4),(E.c (V.bool false))])))] [],
 S.aug 3 .add (E.bin .add (E.bin .add (E.call 16 [(E.x 1),(E.x 4),(E.c (V.bool true))]) (E.call 17 [(E.x 1),(E.x 4),(E.c (V.bool true))])) (E.c (V.str [101,108,115,101]))),
 S.ifs (E.cmp .eq (E.attr (E.x 5) 0) (E.c (V.int 44))) [S.ret (some (E.bin .add (E.bin .add (E.x 3) (E.c (V.str [32]))) (E.meth (E.x 1) 10 [(E.x 5)])))] [],
 S.ret (some (E.bin .add (E.x 3) (E.call 16 [(E.x 1),(E.x 5),(E.c (V.bool false))])))]
noncomputable def b_WhileShape_text:List S:=[S.ret (some (E.bin .add (E.bin .add (E.bin .add (E.c (V.str [119,104,105,108,101,32,40])) (E.meth (E.x 1) 10 [(E.idx (E.attr (E.x 2) 2) (E.c (V.int 0)))])) (E.c (V.str [41]))) (E.call 16 [(E.x 1),(E.idx (E.attr (E.x 2) 2) (E.c (V.int 1))),(E.c (V.bool false))])))]
noncomputable def b_DoShape_text:List S:=[S.asg 3 (E.idx (E.attr (E.x 2) 2) (E.c (V.int 0))),
 S.asg 4 (E.bin .add (E.bin .add (E.c (V.str [100,111])) (E.call 16 [(E.x 1),(E.x 3),(E.c (V.bool false))])) (E.call 17 [(E.x 1),(E.x 3),(E.c (V.bool false))])),
 S.ret (some (E.bin .add (E.bin .add (E.bin .add (E.x 4) (E.c (V.str [119,104,105,108,101,32,40]))) (E.meth (E.x 1) 10 [(E.idx (E.attr (E.x 2) 2) (E.c (V.int 1)))])) (E.c (V.str [41,59]))))]
noncomputable def b_ForShape_text:List S:=[S.asgT [3,4,5,6] (E.attr (E.x 2) 2),
 S.asg 7 (E.c (V.str [102,111,114,32,40])),
 S.ifs (E.and [(E.cmp .isnt (E.x 3) (E.c V.none)),(E.cmp .eq (E.attr (E.x 3) 0) (E.c (V.int 41)))]) [S.aug 7 .add (E.call 20 [(E.x 1),(E.x 3),(E.c (V.bool true))])] [S.ifs (E.cmp .isnt (E.x 3) (E.c V.none)) [S.aug 7 .add (E.call 30 [(E.x 1),(E.idx (E.attr (E.x 3) 2) (E.c (V.int 0)))])] []],
 S.aug 7 .add (E.bin .add (E.bin .add (E.bin .add (E.bin .add (E.c (V.str [59])) (E.call 14 [(E.x 1),(E.x 4),(E.c (V.str [32]))])) (E.c (V.str [59]))) (E.call 14 [(E.x 1),(E.x 5),(E.c (V.str [32]))])) (E.c (V.str [41]))),
 S.ret (some (E.bin .add (E.x 7) (E.call 16 [(E.x 1),(E.x 6),(E.c (V.bool false))])))]
noncomputable def b_first_text:List S:=[S.asg 2 (E.call 18 [(E.x 0),(E.x 1)]),
 S.ifs (E.and [(E.cmp .eq (E.slc (E.x 2) none (some (E.c (V.int 3)))) (E.c (V.str [108,101,116]))),(E.or [(E.cmp .eq (E.len (E.x 2)) (E.c (V.int 3))),(E.not (E.tst E.fail))])]) [S.fail] [],
 S.ret (some (E.x 2))]
noncomputable def b_ForEachShape_text:List S:=[S.asg 3 (E.ite (E.cmp .eq (E.attr (E.x 2) 0) (E.c (V.int 48))) (E.c (V.str [32,111,102,32])) (E.c (V.str [32,105,110,32]))),
 S.asg 4 (E.bin .add (E.bin .add (E.bin .add (E.c (V.str [102,111,114,32,40])) (E.call 20 [(E.x 1),(E.idx (E.attr (E.x 2) 2) (E.c (V.int 0))),(E.c (V.bool true))])) (E.x 3)) (E.meth (E.x 1) 10 [(E.idx (E.attr (E.x 2) 2) (E.c (V.int 1)))])),
 S.ret (some (E.bin .add (E.bin .add (E.x 4) (E.c (V.str [41]))) (E.call 16 [(E.x 1),(E.idx (E.attr (E.x 2) 2) (E.c (V.int 2))),(E.c (V.bool false))])))]
noncomputable def b_SwitchShape_text:List S:=[S.asg 3 (E.bin .add (E.bin .add (E.c (V.str [115,119,105,116,99,104,32,40])) (E.meth (E.x 1) 10 [(E.idx (E.attr (E.x 2) 2) (E.c (V.int 0)))])) (E.c (V.str [41,32]))),
 S.ret (some (E.bin .add (E.x 3) (E.call 12 [(E.x 1),(E.slc (E.attr (E.x 2) 2) (some (E.c (V.int 1))) none),(E.c (V.str []))])))]
noncomputable def b_CaseShape_text:List S:=[S.asg 3 (E.idx (E.attr (E.x 2) 2) (E.c (V.int 0))),
 S.asg 4 (E.ite (E.cmp .is (E.x 3) (E.c V.none)) (E.c (V.str [100,101,102,97,117,108,116,58])) (E.bin .add (E.bin .add (E.c (V.str [99,97,115,101,32])) (E.meth (E.x 1) 10 [(E.x 3)])) (E.c (V.str [58])))),
 S.ret (some (E.bin .add (E.x 4) (E.call 13 [(E.x 1),(E.slc (E.attr (E.x 2) 2) (some (E.c (V.int 1))) none),(E.c (V.str []))])))]
noncomputable def b_ReturnShape_text:List S:=[S.ret (some (E.bin .add (E.bin .add (E.c (V.str [114,101,116,117,114,110])) (E.call 14 [(E.x 1),(E.idx (E.attr (E.x 2) 2) (E.c (V.int 0))),(E.c (V.str [32]))])) (E.c (V.str [59]))))]
noncomputable def b_JumpShape_text:List S:=[S.asg 3 (E.ite (E.cmp .eq (E.attr (E.x 2) 0) (E.c (V.int 53))) (E.c (V.str [98,114,101,97,107])) (E.c (V.str [99,111,110,116,105,110,117,101]))),
 S.ifs (E.cmp .ne (E.attr (E.x 2) 1) (E.c (V.str []))) [S.aug 3 .add (E.bin .add (E.c (V.str [32])) (E.attr (E.x 2) 1))] [],
 S.ret (some (E.bin .add (E.x 3) (E.c (V.str [59]))))]
noncomputable def b_LabelShape_text:List S:=[S.ret (some (E.bin .add (E.bin .add (E.attr (E.x 2) 1) (E.c (V.str [58,32]))) (E.meth (E.x 1) 10 [(E.idx (E.attr (E.x 2) 2) (E.c (V.int 0)))])))]
noncomputable def b_ThrowShape_text:List S:=[S.ret (some (E.bin .add (E.bin .add (E.c (V.str [116,104,114,111,119,32])) (E.meth (E.x 1) 10 [(E.idx (E.attr (E.x 2) 2) (E.c (V.int 0)))])) (E.c (V.str [59]))))]
noncomputable def b_TryShape_text:List S:=[S.asg 3 (E.bin .add (E.c (V.str [116,114,121,32])) (E.meth (E.x 1) 11 [(E.idx (E.attr (E.x 2) 2) (E.c (V.int 0)))])),
 S.aug 3 .add (E.call 14 [(E.x 1),(E.idx (E.attr (E.x 2) 2) (E.c (V.int 1))),(E.c (V.str [32]))]),
 S.ret (some (E.bin .add (E.x 3) (E.call 14 [(E.x 1),(E.idx (E.attr (E.x 2) 2) (E.c (V.int 2))),(E.c (V.str [32,102,105,110,97,108,108,121,32]))])))]
noncomputable def b_law_pull:List S:=[S.asg 2 (E.idx (E.x 0) (E.c (V.str [97,116]))),
 S.asgI (E.x 0) (E.c (V.str [97,116])) (E.bin .add (E.x 2) (E.c (V.int 1))),
 S.asg 3 (E.idx (E.c (V.tup [(V.int 0),(V.int 0),(V.int 0),(V.int 5),(V.int 1),(V.int 0),(V.int 2),(V.int 15),(V.int 9),(V.int 3),(V.int 14),(V.int 4),(V.int 12),(V.int 1),(V.int 1),(V.int 15),(V.int 2),(V.int 14),(V.int 0),(V.int 10),(V.int 15),(V.int 1),(V.int 3),(V.int 6),(V.int 2),(V.int 8),(V.int 0),(V.int 11),(V.int 4),(V.int 13),(V.int 7),(V.int 1),(V.int 3),(V.int 2),(V.int 5),(V.int 0),(V.int 9)])) (E.bin .mod (E.x 2) (E.c (V.int 37)))),
 S.ifs (E.cmp .lt (E.x 2) (E.len (E.idx (E.x 0) (E.c (V.str [110,117,109,115]))))) [S.asg 3 (E.bin .add (E.x 3) (E.idx (E.idx (E.x 0) (E.c (V.str [110,117,109,115]))) (E.x 2)))] [],
 S.ret (some (E.bin .mod (E.x 3) (E.x 1)))]
noncomputable def b_law_head:List S:=[S.asg 2 (E.idx (E.c (V.str [97,98,99,100,101])) (E.call 39 [(E.x 0),(E.c (V.int 5))])),
 S.ifs (E.cmp .lt (E.x 1) (E.c (V.int 2))) [S.ret (some (E.bin .add (E.bin .add (E.c (V.str [105,102,32,40,32])) (E.x 2)) (E.c (V.str [32,41]))))] [],
 S.ifs (E.cmp .eq (E.x 1) (E.c (V.int 2))) [S.ret (some (E.bin .add (E.bin .add (E.c (V.str [119,104,105,108,101,32,40,32])) (E.x 2)) (E.c (V.str [32,41]))))] [],
 S.ifs (E.cmp .eq (E.x 1) (E.c (V.int 3))) [S.asg 3 (E.idx (E.tup [(E.c (V.str [])),(E.c (V.str [120,32])),(E.c (V.str [108,101,116,32,120,32,61,32,98,32])),(E.c (V.str [118,97,114,32,120,32]))]) (E.call 39 [(E.x 0),(E.c (V.int 4))])),
 S.asg 4 (E.idx (E.tup [(E.c (V.str [])),(E.bin .add (E.x 2) (E.c (V.str [32])))]) (E.call 39 [(E.x 0),(E.c (V.int 2))])),
 S.asg 5 (E.idx (E.tup [(E.c (V.str [])),(E.c (V.str [99,32]))]) (E.call 39 [(E.x 0),(E.c (V.int 2))])),
 S.ret (some (E.bin .add (E.bin .add (E.bin .add (E.bin .add (E.bin .add (E.bin .add (E.c (V.str [102,111,114,32,40,32])) (E.x 3)) (E.c (V.str [59,32]))) (E.x 4)) (E.c (V.str [59,32]))) (E.x 5)) (E.c (V.str [41]))))] [],
 S.ifs (E.cmp .lt (E.x 1) (E.c (V.int 6))) [S.ret (some (E.bin .add (E.bin .add (E.bin .add (E.bin .add (E.bin .add (E.bin .add (E.c (V.str [102,111,114,32,40,32])) (E.idx (E.tup [(E.c (V.str [99,111,110,115,116])),(E.c (V.str [108,101,116])),(E.c (V.str [118,97,114]))]) (E.call 39 [(E.x 0),(E.c (V.int 3))]))) (E.c (V.str [32,120,32]))) (E.idx (E.tup [(E.c (V.str [111,102])),(E.c (V.str [105,110]))]) (E.bin .sub (E.x 1) (E.c (V.int 4))))) (E.c (V.str [32]))) (E.x 2)) (E.c (V.str [32,41]))))] [],
 S.ret (some (E.x 2))]
noncomputable def b_law_stmt:List S:=[S.asg 3 (E.call 39 [(E.x 0),(E.c (V.int 16))]),
 S.asg 4 (E.c (V.int 11)),
 S.ifs (E.and [(E.cmp .gt (E.x 1) (E.c (V.int 0))),(E.cmp .gt (E.idx (E.x 0) (E.c (V.str [108,101,102,116]))) (E.c (V.int 0)))]) [S.augI (E.x 0) (E.c (V.str [108,101,102,116])) .sub (E.c (V.int 1)),
 S.ifs (E.tst (E.x 2)) [S.asg 4 (E.idx (E.tup [(E.c (V.int 0)),(E.c (V.int 0)),(E.c (V.int 0)),(E.c (V.int 1)),(E.c (V.int 1)),(E.c (V.int 2)),(E.c (V.int 2)),(E.c (V.int 3)),(E.c (V.int 4)),(E.c (V.int 5)),(E.c (V.int 6)),(E.c (V.int 7)),(E.c (V.int 8)),(E.c (V.int 9)),(E.c (V.int 10)),(E.c (V.int 11))]) (E.x 3))] [S.asg 4 (E.idx (E.tup [(E.c (V.int 1)),(E.c (V.int 1)),(E.c (V.int 1)),(E.c (V.int 1)),(E.c (V.int 1)),(E.c (V.int 2)),(E.c (V.int 3)),(E.c (V.int 4)),(E.c (V.int 5)),(E.c (V.int 6)),(E.c (V.int 7)),(E.c (V.int 8)),(E.c (V.int 9)),(E.c (V.int 10)),(E.c (V.int 0)),(E.c (V.int 11))]) (E.x 3))]] [],
 S.ifs (E.cmp .eq (E.x 4) (E.c (V.int 11))) [S.ret (some (E.list false [(E.c (V.str [114,111,119])),(E.idx (E.c (V.tup [(V.str [98,32,59]),(V.str [59]),(V.str [118,97,114,32,120,32,61,32,98,32,59]),(V.str [98,114,101,97,107,32,59]),(V.str [99,111,110,116,105,110,117,101,32,97,32,59]),(V.str [114,101,116,117,114,110,32,98,32,59]),(V.str [116,104,114,111,119,32,99,32,59]),(V.str [100,32,59])])) (E.bin .mod (E.x 3) (E.c (V.int 8)))),(E.list false [])]))] [],
 S.ifs (E.or [(E.cmp .eq (E.x 4) (E.c (V.int 8))),(E.cmp .eq (E.x 4) (E.c (V.int 10)))]) [S.ret (some (E.list false [(E.idx (E.tup [(E.c (V.str [98,108,111,99,107])),(E.c (V.str [])),(E.c (V.str [116,114,121]))]) (E.bin .sub (E.x 4) (E.c (V.int 8)))),(E.c (V.str [])),(E.call 42 [(E.x 0),(E.bin .sub (E.x 1) (E.c (V.int 1))),(E.x 2)])]))] [],
 S.asg 5 (E.call 40 [(E.x 0),(E.x 4)]),
 S.ifs (E.cmp .eq (E.x 4) (E.c (V.int 9))) [S.ret (some (E.list false [(E.c (V.str [115,119,105,116,99,104])),(E.x 5),(E.call 42 [(E.x 0),(E.bin .sub (E.x 1) (E.c (V.int 1))),(E.x 2)])]))] [],
 S.ifs (E.cmp .eq (E.x 4) (E.c (V.int 1))) [S.asg 6 (E.call 41 [(E.x 0),(E.bin .sub (E.x 1) (E.c (V.int 1))),(E.c (V.bool true))]),
 S.ret (some (E.list false [(E.c (V.str [105,102])),(E.x 5),(E.list false [(E.x 6),(E.call 41 [(E.x 0),(E.bin .sub (E.x 1) (E.c (V.int 1))),(E.x 2)])])]))] [],
 S.asg 7 (E.idx (E.tup [(E.c (V.str [105,102])),(E.c (V.str [])),(E.c (V.str [108,111,111,112])),(E.c (V.str [108,111,111,112])),(E.c (V.str [108,111,111,112])),(E.c (V.str [108,111,111,112])),(E.c (V.str [108,97,98,101,108])),(E.c (V.str [100,111]))]) (E.x 4)),
 S.ret (some (E.list false [(E.x 7),(E.x 5),(E.list false [(E.call 41 [(E.x 0),(E.bin .sub (E.x 1) (E.c (V.int 1))),(E.x 2)])])]))]
noncomputable def b_law_many:List S:=[S.ret (some (E.compR false 3 (E.call 39 [(E.x 0),(E.c (V.int 3))]) (E.call 41 [(E.x 0),(E.x 1),(E.x 2)])))]
noncomputable def b_law_name:List S:=[S.ret (some (E.call 1 [(E.c (V.int 8)),(E.x 0),(E.c (V.int 0))]))]
noncomputable def b_law_var:List S:=[S.asg 1 (E.c V.none),
 S.ifs (E.cmp .gt (E.len (E.x 0)) (E.c (V.int 2))) [S.asg 1 (E.call 43 [(E.idx (E.x 0) (E.c (V.int 3)))])] [],
 S.ret (some (E.call 2 [(E.c (V.int 41)),(E.idx (E.x 0) (E.c (V.int 0))),(E.list false [(E.call 2 [(E.c (V.int 42)),(E.c (V.str [])),(E.list false [(E.call 43 [(E.idx (E.x 0) (E.c (V.int 1)))]),(E.c V.none),(E.x 1)]),(E.c (V.int 0))])]),(E.c (V.int 0))]))]
noncomputable def b_law_short_node:List S:=[S.ifs (E.cmp .eq (E.x 0) (E.list false [(E.c (V.str [59]))])) [S.ret (some (E.call 1 [(E.c (V.int 60)),(E.c (V.str [])),(E.c (V.int 0))]))] [],
 S.ifs (E.cmp .eq (E.idx (E.x 0) (E.c (V.int 0))) (E.c (V.str [118,97,114]))) [S.ret (some (E.call 44 [(E.slc (E.x 0) none (some (E.c (V.int (-1)))))]))] [],
 S.ifs (E.cmp .eq (E.idx (E.x 0) (E.c (V.int 0))) (E.c (V.str [98,114,101,97,107]))) [S.ret (some (E.call 1 [(E.c (V.int 53)),(E.c (V.str [])),(E.c (V.int 0))]))] [],
 S.ifs (E.cmp .eq (E.idx (E.x 0) (E.c (V.int 0))) (E.c (V.str [99,111,110,116,105,110,117,101]))) [S.ret (some (E.call 1 [(E.c (V.int 54)),(E.idx (E.x 0) (E.c (V.int 1))),(E.c (V.int 0))]))] [],
 S.ifs (E.cmp .eq (E.idx (E.x 0) (E.c (V.int 0))) (E.c (V.str [114,101,116,117,114,110]))) [S.ret (some (E.call 2 [(E.c (V.int 52)),(E.c (V.str [])),(E.list false [(E.call 43 [(E.idx (E.x 0) (E.c (V.int 1)))])]),(E.c (V.int 0))]))] [],
 S.ifs (E.cmp .eq (E.idx (E.x 0) (E.c (V.int 0))) (E.c (V.str [116,104,114,111,119]))) [S.ret (some (E.call 2 [(E.c (V.int 56)),(E.c (V.str [])),(E.list false [(E.call 43 [(E.idx (E.x 0) (E.c (V.int 1)))])]),(E.c (V.int 0))]))] [],
 S.ret (some (E.call 2 [(E.c (V.int 43)),(E.c (V.str [])),(E.list false [(E.call 43 [(E.idx (E.x 0) (E.c (V.int 0)))])]),(E.c (V.int 0))]))]
noncomputable def b_law_for_node:List S:=[S.ifs (E.or [(E.cmp .eq (E.slc (E.x 0) (some (E.c (V.int 2))) (some (E.c (V.int 3)))) (E.list false [(E.c (V.str [111,102]))])),(E.cmp .eq (E.slc (E.x 0) (some (E.c (V.int 2))) (some (E.c (V.int 3)))) (E.list false [(E.c (V.str [105,110]))]))]) [S.asg 2 (E.ite (E.cmp .eq (E.idx (E.x 0) (E.c (V.int 2))) (E.c (V.str [111,102]))) (E.c (V.int 48)) (E.c (V.int 49))),
 S.ret (some (E.call 2 [(E.x 2),(E.c (V.str [])),(E.bin .add (E.list false [(E.call 44 [(E.slc (E.x 0) none (some (E.c (V.int 2))))]),(E.call 43 [(E.idx (E.x 0) (E.c (V.int 3)))])]) (E.x 1)),(E.c (V.int 0))]))] [],
 S.asg 3 (E.list true [(E.list true [])]),
 S.for 4 (E.x 0) [S.ifs (E.cmp .eq (E.x 4) (E.c (V.str [59]))) [S.expr (E.meth (E.x 3) 0 [(E.list true [])])] [S.expr (E.meth (E.idx (E.x 3) (E.c (V.int (-1)))) 0 [(E.x 4)])]],
 S.asg 5 (E.comp true 6 (E.frz (E.x 3)) (E.ite (E.cmp .eq (E.len (E.x 6)) (E.c (V.int 1))) (E.call 43 [(E.idx (E.x 6) (E.c (V.int 0)))]) (E.c V.none))),
 S.ifs (E.cmp .gt (E.len (E.idx (E.x 3) (E.c (V.int 0)))) (E.c (V.int 1))) [S.asgI (E.x 5) (E.c (V.int 0)) (E.call 44 [(E.idx (E.x 3) (E.c (V.int 0)))])] [S.ifs (E.cmp .eq (E.len (E.idx (E.x 3) (E.c (V.int 0)))) (E.c (V.int 1))) [S.asgI (E.x 5) (E.c (V.int 0)) (E.call 2 [(E.c (V.int 43)),(E.c (V.str [])),(E.list false [(E.idx (E.x 5) (E.c (V.int 0)))]),(E.c (V.int 0))])] []],
 S.ret (some (E.call 2 [(E.c (V.int 47)),(E.c (V.str [])),(E.bin .add (E.x 5) (E.x 1)),(E.c (V.int 0))]))]
noncomputable def b_law_node:List S:=[S.asg 3 (E.meth (E.x 1) 4 []),
 S.ifs (E.cmp .eq (E.x 0) (E.c (V.str [114,111,119]))) [S.ret (some (E.call 45 [(E.x 3)]))] [],
 S.ifs (E.cmp .eq (E.x 0) (E.c (V.str [98,108,111,99,107]))) [S.ret (some (E.call 2 [(E.c (V.int 59)),(E.c (V.str [])),(E.x 2),(E.c (V.int 0))]))] [],
 S.ifs (E.cmp .eq (E.x 0) (E.c (V.str [108,97,98,101,108]))) [S.ret (some (E.call 2 [(E.c (V.int 55)),(E.x 1),(E.x 2),(E.c (V.int 0))]))] [],
 S.ifs (E.cmp .eq (E.x 0) (E.c (V.str [100,111]))) [S.ret (some (E.call 2 [(E.c (V.int 46)),(E.c (V.str [])),(E.bin .add (E.x 2) (E.list false [(E.call 43 [(E.x 1)])])),(E.c (V.int 0))]))] [],
 S.ifs (E.cmp .eq (E.x 0) (E.c (V.str [115,119,105,116,99,104]))) [S.ret (some (E.call 2 [(E.c (V.int 50)),(E.c (V.str [])),(E.list false [(E.call 43 [(E.x 1)]),(E.call 2 [(E.c (V.int 51)),(E.c (V.str [])),(E.bin .add (E.list false [(E.c V.none)]) (E.x 2)),(E.c (V.int 0))])]),(E.c (V.int 0))]))] [],
 S.ifs (E.cmp .eq (E.x 0) (E.c (V.str [116,114,121]))) [S.ret (some (E.call 2 [(E.c (V.int 57)),(E.c (V.str [])),(E.list false [(E.call 2 [(E.c (V.int 59)),(E.c (V.str [])),(E.list false []),(E.c (V.int 0))]),(E.c V.none),(E.call 2 [(E.c (V.int 59)),(E.c (V.str [])),(E.x 2),(E.c (V.int 0))])]),(E.c (V.int 0))]))] [],
 S.ifs (E.cmp .eq (E.x 0) (E.c (V.str [105,102]))) [S.ret (some (E.call 2 [(E.c (V.int 44)),(E.c (V.str [])),(E.bin .add (E.bin .add (E.list false [(E.call 43 [(E.idx (E.x 3) (E.c (V.int 2)))])]) (E.x 2)) (E.ite (E.cmp .eq (E.len (E.x 2)) (E.c (V.int 1))) (E.list false [(E.c V.none)]) (E.list false []))),(E.c (V.int 0))]))] [],
 S.ifs (E.cmp .eq (E.idx (E.x 3) (E.c (V.int 0))) (E.c (V.str [119,104,105,108,101]))) [S.ret (some (E.call 2 [(E.c (V.int 45)),(E.c (V.str [])),(E.bin .add (E.list false [(E.call 43 [(E.idx (E.x 3) (E.c (V.int 2)))])]) (E.x 2)),(E.c (V.int 0))]))] [],
 S.ret (some (E.call 46 [(E.slc (E.x 3) (some (E.c (V.int 2))) (some (E.c (V.int (-1))))),(E.x 2)]))]
noncomputable def b_law_toks:List S:=[S.asgT [1,2,3] (E.x 0),
 S.asg 4 (E.list true []),
 S.for 5 (E.x 3) [S.expr (E.meth (E.x 4) 0 [(E.call 48 [(E.x 5)])])],
 S.ifs (E.cmp .eq (E.x 1) (E.c (V.str [114,111,119]))) [S.ret (some (E.meth (E.x 2) 4 []))] [],
 S.ifs (E.cmp .eq (E.x 1) (E.c (V.str [100,111]))) [S.ret (some (E.bin .add (E.bin .add (E.list false [(E.c (V.str [100,111]))]) (E.idx (E.x 4) (E.c (V.int 0)))) (E.list false [(E.c (V.str [119,104,105,108,101])),(E.c (V.str [40])),(E.x 2),(E.c (V.str [41])),(E.c (V.str [59]))])))] [],
 S.ifs (E.cmp .eq (E.x 1) (E.c (V.str [108,97,98,101,108]))) [S.ret (some (E.bin .add (E.list false [(E.x 2),(E.c (V.str [58]))]) (E.idx (E.x 4) (E.c (V.int 0)))))] [],
 S.ifs (E.and [(E.cmp .eq (E.x 1) (E.c (V.str [105,102]))),(E.cmp .eq (E.len (E.x 3)) (E.c (V.int 2)))]) [S.ret (some (E.bin .add (E.bin .add (E.bin .add (E.meth (E.x 2) 4 []) (E.idx (E.x 4) (E.c (V.int 0)))) (E.list false [(E.c (V.str [101,108,115,101]))])) (E.idx (E.x 4) (E.c (V.int 1)))))] [],
 S.ifs (E.or [(E.cmp .eq (E.x 1) (E.c (V.str [105,102]))),(E.cmp .eq (E.x 1) (E.c (V.str [108,111,111,112])))]) [S.ret (some (E.bin .add (E.meth (E.x 2) 4 []) (E.idx (E.x 4) (E.c (V.int 0)))))] [],
 S.asg 6 (E.list false [(E.c (V.str [123]))]),
 S.ifs (E.cmp .eq (E.x 1) (E.c (V.str [115,119,105,116,99,104]))) [S.asg 6 (E.list false [(E.c (V.str [115,119,105,116,99,104])),(E.c (V.str [40])),(E.x 2),(E.c (V.str [41])),(E.c (V.str [123])),(E.c (V.str [100,101,102,97,117,108,116])),(E.c (V.str [58]))])] [],
 S.ifs (E.cmp .eq (E.x 1) (E.c (V.str [116,114,121]))) [S.asg 6 (E.list false [(E.c (V.str [116,114,121])),(E.c (V.str [123])),(E.c (V.str [125])),(E.c (V.str [102,105,110,97,108,108,121])),(E.c (V.str [123]))])] [],
 S.for 7 (E.frz (E.x 4)) [S.asg 6 (E.bin .add (E.x 6) (E.x 7))],
 S.ret (some (E.bin .add (E.x 6) (E.list false [(E.c (V.str [125]))])))]
noncomputable def b_law_ends:List S:=[S.while (E.and [(E.cmp .lt (E.x 1) (E.len (E.x 0))),(E.cmp .ne (E.idx (E.x 0) (E.x 1)) (E.x 2))]) [S.aug 1 .add (E.c (V.int 1))],
 S.ret (some (E.bin .add (E.x 1) (E.c (V.int 1))))]
noncomputable def b_law_begin:List S:=[S.asg 3 (E.idx (E.x 0) (E.x 1)),
 S.ifs (E.cmp .isin (E.x 3) (E.tup [(E.c (V.str [105,102])),(E.c (V.str [119,104,105,108,101])),(E.c (V.str [102,111,114]))])) [S.asg 4 (E.call 49 [(E.x 0),(E.x 1),(E.c (V.str [41]))]),
 S.expr (E.meth (E.x 2) 0 [(E.list true [(E.ite (E.cmp .eq (E.x 3) (E.c (V.str [105,102]))) (E.c (V.str [105,102])) (E.c (V.str [108,111,111,112]))),(E.meth (E.c (V.str [32])) 5 [(E.slc (E.x 0) (some (E.x 1)) (some (E.x 4)))]),(E.list false [])])]),
 S.ret (some (E.tup [(E.x 4),(E.c V.none)]))] [],
 S.ifs (E.or [(E.cmp .eq (E.x 3) (E.c (V.str [100,111]))),(E.cmp .eq (E.x 3) (E.c (V.str [123])))]) [S.expr (E.meth (E.x 2) 0 [(E.list true [(E.idx (E.tup [(E.c (V.str [100,111])),(E.c (V.str [98,108,111,99,107]))]) (E.bin .mod (E.len (E.x 3)) (E.c (V.int 2)))),(E.c (V.str [])),(E.list false [])])]),
 S.ret (some (E.tup [(E.bin .add (E.x 1) (E.c (V.int 1))),(E.c V.none)]))] [],
 S.ifs (E.or [(E.cmp .eq (E.x 3) (E.c (V.str [115,119,105,116,99,104]))),(E.cmp .eq (E.x 3) (E.c (V.str [116,114,121])))]) [S.expr (E.meth (E.x 2) 0 [(E.list true [(E.x 3),(E.ite (E.cmp .eq (E.x 3) (E.c (V.str [115,119,105,116,99,104]))) (E.meth (E.c (V.str [])) 5 [(E.slc (E.x 0) (some (E.bin .add (E.x 1) (E.c (V.int 2)))) (some (E.bin .add (E.x 1) (E.c (V.int 3)))))]) (E.c (V.str []))),(E.list false [])])]),
 S.ret (some (E.tup [(E.bin .add (E.x 1) (E.ite (E.cmp .eq (E.x 3) (E.c (V.str [115,119,105,116,99,104]))) (E.c (V.int 7)) (E.c (V.int 5)))),(E.c V.none)]))] [],
 S.ifs (E.cmp .eq (E.x 3) (E.c (V.str [125]))) [S.ret (some (E.tup [(E.bin .add (E.x 1) (E.c (V.int 1))),(E.frz (E.meth (E.x 2) 2 []))]))] [],
 S.ifs (E.cmp .eq (E.slc (E.x 0) (some (E.bin .add (E.x 1) (E.c (V.int 1)))) (some (E.bin .add (E.x 1) (E.c (V.int 2))))) (E.list false [(E.c (V.str [58]))])) [S.expr (E.meth (E.x 2) 0 [(E.list true [(E.c (V.str [108,97,98,101,108])),(E.x 3),(E.list false [])])]),
 S.ret (some (E.tup [(E.bin .add (E.x 1) (E.c (V.int 2))),(E.c V.none)]))] [],
 S.asg 4 (E.call 49 [(E.x 0),(E.x 1),(E.c (V.str [59]))]),
 S.ret (some (E.tup [(E.x 4),(E.list false [(E.c (V.str [114,111,119])),(E.meth (E.c (V.str [32])) 5 [(E.slc (E.x 0) (some (E.x 1)) (some (E.x 4)))]),(E.list false [])])]))]
noncomputable def b_law_read:List S:=[S.asg 1 (E.list true [(E.list true [(E.c (V.str [102,105,108,101])),(E.c (V.str [])),(E.list false [])])]),
 S.asg 2 (E.c V.none),
 S.asg 3 (E.c (V.int 0)),
 S.while (E.or [(E.cmp .lt (E.x 3) (E.len (E.x 0))),(E.cmp .isnt (E.x 2) (E.c V.none))]) [S.asg 4 (E.idx (E.x 1) (E.c (V.int (-1)))),
 S.asg 5 (E.cmp .isin (E.idx (E.x 4) (E.c (V.int 0))) (E.tup [(E.c (V.str [102,105,108,101])),(E.c (V.str [98,108,111,99,107])),(E.c (V.str [115,119,105,116,99,104])),(E.c (V.str [116,114,121]))])),
 S.ifs (E.cmp .is (E.x 2) (E.c V.none)) [S.ifs (E.and [(E.cmp .eq (E.idx (E.x 0) (E.x 3)) (E.c (V.str [125]))),(E.or [(E.cmp .eq (E.len (E.x 1)) (E.c (V.int 1))),(E.not (E.tst (E.x 5)))])]) [S.fail] [],
 S.asgT [3,2] (E.call 50 [(E.x 0),(E.x 3),(E.x 1)])] [S.ifs (E.tst (E.x 5)) [S.asgI (E.x 4) (E.c (V.int 2)) (E.bin .add (E.idx (E.x 4) (E.c (V.int 2))) (E.list false [(E.x 2)])),
 S.asg 2 (E.c V.none)] [S.ifs (E.and [(E.cmp .eq (E.idx (E.x 4) (E.c (V.int 0))) (E.c (V.str [105,102]))),(E.cmp .eq (E.len (E.idx (E.x 4) (E.c (V.int 2)))) (E.c (V.int 0))),(E.cmp .eq (E.slc (E.x 0) (some (E.x 3)) (some (E.bin .add (E.x 3) (E.c (V.int 1))))) (E.list false [(E.c (V.str [101,108,115,101]))]))]) [S.asgI (E.x 4) (E.c (V.int 2)) (E.list false [(E.x 2)]),
 S.asg 2 (E.c V.none),
 S.aug 3 .add (E.c (V.int 1))] [S.ifs (E.cmp .eq (E.idx (E.x 4) (E.c (V.int 0))) (E.c (V.str [100,111]))) [S.asgI (E.x 4) (E.c (V.int 1)) (E.meth (E.c (V.str [])) 5 [(E.slc (E.x 0) (some (E.bin .add (E.x 3) (E.c (V.int 2)))) (some (E.bin .add (E.x 3) (E.c (V.int 3)))))]),
 S.aug 3 .add (E.c (V.int 5))] [],
 S.asgI (E.x 4) (E.c (V.int 2)) (E.bin .add (E.idx (E.x 4) (E.c (V.int 2))) (E.list false [(E.x 2)])),
 S.asg 2 (E.frz (E.meth (E.x 1) 2 []))]]]],
 S.ret (some (E.ite (E.cmp .eq (E.len (E.x 1)) (E.c (V.int 1))) (E.idx (E.idx (E.x 1) (E.c (V.int 0))) (E.c (V.int 2))) (E.c V.none)))]
noncomputable def b_law_both:List S:=[S.asgT [2,3,4] (E.x 0),
 S.asg 5 (E.comp false 11 (E.x 4) (E.call 52 [(E.x 11),(E.x 1)])),
 S.asg 6 (E.comp true 12 (E.x 5) (E.idx (E.x 12) (E.c (V.int 1)))),
 S.ifs (E.and [(E.cmp .eq (E.x 2) (E.c (V.str [105,102]))),(E.cmp .eq (E.len (E.x 4)) (E.c (V.int 2))),(E.tst (E.idx (E.idx (E.x 5) (E.c (V.int 0))) (E.c (V.int 2))))]) [S.asgI (E.x 6) (E.c (V.int 0)) (E.list false [(E.c (V.str [98,108,111,99,107])),(E.c (V.str [])),(E.list false [(E.idx (E.x 6) (E.c (V.int 0)))])])] [],
 S.asg 7 (E.call 47 [(E.x 2),(E.x 3),(E.comp false 13 (E.x 5) (E.idx (E.x 13) (E.c (V.int 0))))]),
 S.asg 8 (E.list false [(E.x 2),(E.x 3),(E.frz (E.x 6))]),
 S.asg 9 (E.list false [(E.c (V.str [105,102])),(E.c (V.str [105,102,32,40,32,113,32,41])),(E.list false [(E.x 8),(E.list false [(E.c (V.str [114,111,119])),(E.c (V.str [59])),(E.list false [])])])]),
 S.asg 10 (E.cmp .ne (E.call 51 [(E.call 48 [(E.x 9)])]) (E.list false [(E.x 9)])),
 S.ifs (E.cmp .ne (E.call 5 [(E.x 7)]) (E.x 10)) [S.fail] [],
 S.ret (some (E.tup [(E.x 7),(E.x 8),(E.x 10)]))]
noncomputable def b_law_shown:List S:=[S.ret (some (E.repl (E.repl (E.repl (E.x 0) [40,32] [40]) [32,41] [41]) [32,59] [59]))]
noncomputable def b_law_under:List S:=[S.asg 3 (E.call 57 [(E.x 1),(E.ite (E.cmp .eq (E.idx (E.x 1) (E.c (V.int 0))) (E.c (V.str [98,108,111,99,107]))) (E.x 2) (E.bin .add (E.x 2) (E.c (V.int 1))))]),
 S.ifs (E.cmp .eq (E.idx (E.x 1) (E.c (V.int 0))) (E.c (V.str [98,108,111,99,107]))) [S.ret (some (E.bin .add (E.list false [(E.list false [(E.x 2),(E.bin .add (E.bin .add (E.x 0) (E.c (V.str [32]))) (E.idx (E.idx (E.x 3) (E.c (V.int 0))) (E.c (V.int 1))))])]) (E.slc (E.x 3) (some (E.c (V.int 1))) none)))] [],
 S.ret (some (E.bin .add (E.list false [(E.list false [(E.x 2),(E.x 0)])]) (E.x 3)))]
noncomputable def b_law_tail:List S:=[S.ifs (E.cmp .eq (E.idx (E.x 1) (E.c (V.int 0))) (E.c (V.str [98,108,111,99,107]))) [S.ret (some (E.tup [(E.slc (E.x 0) none (some (E.c (V.int (-1))))),(E.bin .add (E.bin .add (E.idx (E.idx (E.x 0) (E.c (V.int (-1)))) (E.c (V.int 1))) (E.c (V.str [32]))) (E.x 2))]))] [],
 S.ret (some (E.tup [(E.x 0),(E.x 2)]))]
noncomputable def b_law_braced:List S:=[S.ifs (E.cmp .eq (E.len (E.x 1)) (E.c (V.int 0))) [S.ret (some (E.list false [(E.list false [(E.x 2),(E.bin .add (E.x 0) (E.c (V.str [123,125])))])]))] [],
 S.asg 3 (E.list true [(E.list false [(E.x 2),(E.bin .add (E.x 0) (E.c (V.str [123])))])]),
 S.for 4 (E.x 1) [S.expr (E.meth (E.x 3) 1 [(E.call 57 [(E.x 4),(E.bin .add (E.x 2) (E.c (V.int 1)))])])],
 S.ret (some (E.bin .add (E.x 3) (E.list false [(E.list false [(E.x 2),(E.c (V.str [125]))])])))]
noncomputable def b_law_lines:List S:=[S.asgT [2,3,4] (E.x 0),
 S.ifs (E.cmp .eq (E.x 2) (E.c (V.str [114,111,119]))) [S.ret (some (E.list false [(E.list false [(E.x 1),(E.call 53 [(E.x 3)])])]))] [],
 S.ifs (E.cmp .eq (E.x 2) (E.c (V.str [98,108,111,99,107]))) [S.ret (some (E.call 56 [(E.c (V.str [])),(E.x 4),(E.x 1)]))] [],
 S.ifs (E.cmp .eq (E.x 2) (E.c (V.str [116,114,121]))) [S.ret (some (E.call 56 [(E.c (V.str [116,114,121,32,123,125,32,102,105,110,97,108,108,121,32])),(E.x 4),(E.x 1)]))] [],
 S.ifs (E.cmp .eq (E.x 2) (E.c (V.str [115,119,105,116,99,104]))) [S.asg 5 (E.list true [(E.list false [(E.x 1),(E.bin .add (E.bin .add (E.c (V.str [115,119,105,116,99,104,32,40])) (E.x 3)) (E.c (V.str [41,32,123])))]),(E.list false [(E.bin .add (E.x 1) (E.c (V.int 1))),(E.c (V.str [100,101,102,97,117,108,116,58]))])]),
 S.for 6 (E.x 4) [S.expr (E.meth (E.x 5) 1 [(E.call 57 [(E.x 6),(E.bin .add (E.x 1) (E.c (V.int 2)))])])],
 S.ret (some (E.bin .add (E.x 5) (E.list false [(E.list false [(E.x 1),(E.c (V.str [125]))])])))] [],
 S.ifs (E.cmp .eq (E.x 2) (E.c (V.str [108,97,98,101,108]))) [S.asg 5 (E.call 57 [(E.idx (E.x 4) (E.c (V.int 0))),(E.x 1)]),
 S.ret (some (E.bin .add (E.list false [(E.list false [(E.x 1),(E.bin .add (E.bin .add (E.x 3) (E.c (V.str [58,32]))) (E.idx (E.idx (E.x 5) (E.c (V.int 0))) (E.c (V.int 1))))])]) (E.slc (E.x 5) (some (E.c (V.int 1))) none)))] [],
 S.ifs (E.cmp .eq (E.x 2) (E.c (V.str [100,111]))) [S.asgT [5,7] (E.call 55 [(E.call 54 [(E.c (V.str [100,111])),(E.idx (E.x 4) (E.c (V.int 0))),(E.x 1)]),(E.idx (E.x 4) (E.c (V.int 0))),(E.bin .add (E.bin .add (E.c (V.str [119,104,105,108,101,32,40])) (E.x 3)) (E.c (V.str [41,59])))]),
 S.ret (some (E.bin .add (E.x 5) (E.list false [(E.list false [(E.x 1),(E.x 7)])])))] [],
 S.asg 5 (E.call 54 [(E.call 53 [(E.x 3)]),(E.idx (E.x 4) (E.c (V.int 0))),(E.x 1)]),
 S.ifs (E.cmp .eq (E.len (E.x 4)) (E.c (V.int 1))) [S.ret (some (E.x 5))] [],
 S.asgT [5,7] (E.call 55 [(E.x 5),(E.idx (E.x 4) (E.c (V.int 0))),(E.c (V.str [101,108,115,101]))]),
 S.ifs (E.cmp .eq (E.idx (E.idx (E.x 4) (E.c (V.int 1))) (E.c (V.int 0))) (E.c (V.str [105,102]))) [S.asg 8 (E.call 57 [(E.idx (E.x 4) (E.c (V.int 1))),(E.x 1)]),
 S.ret (some (E.bin .add (E.bin .add (E.x 5) (E.list false [(E.list false [(E.x 1),(E.bin .add (E.bin .add (E.x 7) (E.c (V.str [32]))) (E.idx (E.idx (E.x 8) (E.c (V.int 0))) (E.c (V.int 1))))])])) (E.slc (E.x 8) (some (E.c (V.int 1))) none)))] [],
 S.ret (some (E.bin .add (E.x 5) (E.call 54 [(E.x 7),(E.idx (E.x 4) (E.c (V.int 1))),(E.x 1)])))]
noncomputable def b_law_printer:List S:=[S.asg 0 (E.new 2 []),
 S.asg 1 (E.new 13 []),
 S.asg 2 (E.new 17 []),
 S.asgA (E.x 0) 6 (E.dict [(V.int 8),(V.int 40),(V.int 59),(V.int 60),(V.int 41),(V.int 43),(V.int 44),(V.int 45),(V.int 46),(V.int 47),(V.int 48),(V.int 49),(V.int 50),(V.int 51),(V.int 57),(V.int 53),(V.int 54),(V.int 55),(V.int 56),(V.int 52)] [(E.new 3 []),(E.new 4 []),(E.new 5 []),(E.new 6 []),(E.new 7 []),(E.new 8 []),(E.new 9 []),(E.new 10 []),(E.new 11 []),(E.new 12 []),(E.x 1),(E.x 1),(E.new 14 []),(E.new 15 []),(E.new 20 []),(E.x 2),(E.x 2),(E.new 18 []),(E.new 19 []),(E.new 16 [])]),
 S.ret (some (E.x 0))]
noncomputable def b_law:List S:=[S.asg 1 (E.dict [(V.str [110,117,109,115]),(V.str [97,116]),(V.str [108,101,102,116])] [(E.slc (E.x 0) none (some (E.c (V.int 60)))),(E.c (V.int 0)),(E.c (V.int 16))]),
 S.asg 2 (E.compR false 14 (E.bin .add (E.c (V.int 1)) (E.call 39 [(E.x 1),(E.c (V.int 2))])) (E.call 41 [(E.x 1),(E.c (V.int 6)),(E.c (V.bool false))])),
 S.asg 3 (E.dict [(V.str [102,105,110,101])] [(E.c (V.bool true))]),
 S.asg 4 (E.comp false 15 (E.x 2) (E.call 52 [(E.x 15),(E.x 3)])),
 S.asg 5 (E.call 58 []),
 S.asg 6 (E.meth (E.x 5) 10 [(E.call 2 [(E.c (V.int 40)),(E.c (V.str [])),(E.comp false 16 (E.x 4) (E.idx (E.x 16) (E.c (V.int 0)))),(E.c (V.int 0))])]),
 S.ifs (E.or [(E.not (E.tst (E.idx (E.x 3) (E.c (V.str [102,105,110,101]))))),(E.cmp .ne (E.attr (E.x 5) 7) (E.c (V.int 0))),(E.cmp .ne (E.attr (E.x 5) 8) (E.c (V.int 0)))]) [S.fail] [],
 S.asg 7 (E.x 6),
 S.signs 8 7 [40,41,123,125,59,58],
 S.asg 9 (E.call 51 [(E.meth (E.x 7) 4 [])]),
 S.ifs (E.cmp .ne (E.x 9) (E.comp false 17 (E.x 4) (E.idx (E.x 17) (E.c (V.int 1))))) [S.fail] [],
 S.asg 10 (E.c (V.str [])),
 S.for 11 (E.x 4) [S.forT [12,13] (E.call 57 [(E.idx (E.x 11) (E.c (V.int 1))),(E.c (V.int 0))]) [S.asg 10 (E.bin .add (E.bin .add (E.bin .add (E.x 10) (E.bin .mul (E.c (V.str [32,32])) (E.x 12))) (E.x 13)) (E.c (V.str [10])))]],
 S.ret (some (E.cmp .eq (E.x 6) (E.x 10)))]
noncomputable def fns:List Fn:=[⟨6,6,b_Node_init⟩,
 ⟨3,3,b_leaf⟩,
 ⟨4,4,b_twig⟩,
 ⟨1,4,b_modifiers_of⟩,
 ⟨1,3,b_opens_badly⟩,
 ⟨1,1,b_open_if⟩,
 ⟨1,1,b_exposed_in⟩,
 ⟨2,2,b_Angles_breaks⟩,
 ⟨1,1,b_Printer_init⟩,
 ⟨2,4,b_Printer_text⟩,
 ⟨2,2,b_Printer_block⟩,
 ⟨1,1,b_row_start⟩,
 ⟨3,3,b_braced⟩,
 ⟨3,5,b_rows_text⟩,
 ⟨3,3,b_tail_of⟩,
 ⟨3,3,b_NameShape_text⟩,
 ⟨3,3,b_sub_text⟩,
 ⟨3,3,b_after_sub⟩,
 ⟨2,3,b_in_guarded⟩,
 ⟨3,5,b_decl_text⟩,
 ⟨3,5,b_var_text⟩,
 ⟨3,5,b_FileShape_text⟩,
 ⟨3,3,b_BlockShape_text⟩,
 ⟨3,3,b_EmptyShape_text⟩,
 ⟨3,3,b_VarShape_text⟩,
 ⟨3,4,b_ExprStShape_text⟩,
 ⟨3,6,b_IfShape_text⟩,
 ⟨3,3,b_WhileShape_text⟩,
 ⟨3,5,b_DoShape_text⟩,
 ⟨3,8,b_ForShape_text⟩,
 ⟨2,3,b_first_text⟩,
 ⟨3,5,b_ForEachShape_text⟩,
 ⟨3,4,b_SwitchShape_text⟩,
 ⟨3,5,b_CaseShape_text⟩,
 ⟨3,3,b_ReturnShape_text⟩,
 ⟨3,4,b_JumpShape_text⟩,
 ⟨3,3,b_LabelShape_text⟩,
 ⟨3,3,b_ThrowShape_text⟩,
 ⟨3,4,b_TryShape_text⟩,
 ⟨2,4,b_law_pull⟩,
 ⟨2,6,b_law_head⟩,
 ⟨3,8,b_law_stmt⟩,
 ⟨3,4,b_law_many⟩,
 ⟨1,1,b_law_name⟩,
 ⟨1,2,b_law_var⟩,
 ⟨1,1,b_law_short_node⟩,
 ⟨2,7,b_law_for_node⟩,
 ⟨3,4,b_law_node⟩,
 ⟨1,8,b_law_toks⟩,
 ⟨3,3,b_law_ends⟩,
 ⟨3,5,b_law_begin⟩,
 ⟨1,6,b_law_read⟩,
 ⟨2,14,b_law_both⟩,
 ⟨1,1,b_law_shown⟩,
 ⟨3,4,b_law_under⟩,
 ⟨3,3,b_law_tail⟩,
 ⟨3,5,b_law_braced⟩,
 ⟨2,9,b_law_lines⟩,
 ⟨0,3,b_law_printer⟩,
 ⟨1,18,b_law⟩]
noncomputable def methT:List ((Nat×Nat)×Nat):=[((1,12),7),((2,10),9),((2,11),10),((3,10),15),((4,10),21),((5,10),22),((6,10),23),((7,10),24),((8,10),25),((9,10),26),((10,10),27),((11,10),28),((12,10),29),((13,10),31),((14,10),32),((15,10),33),((16,10),34),((17,10),35),((18,10),36),((19,10),37),((20,10),38)]
noncomputable def initT:List (Nat×Option Nat):=[(0,some 0),(1,none),(2,some 8),(3,none),(4,none),(5,none),(6,none),(7,none),(8,none),(9,none),(10,none),(11,none),(12,none),(13,none),(14,none),(15,none),(16,none),(17,none),(18,none),(19,none),(20,none)]
noncomputable def prog:Prog:=⟨fns,fun c m=>methT.lookup (c,m),fun c=>initT.lookup c⟩
noncomputable def namesT:List (List (Option Str)):=[[some ("self":Str),some ("kind":Str),some ("a":Str),some ("kids":Str),some ("flags":Str),some ("at":Str)],
 [some ("kind":Str),some ("a":Str),some ("at":Str)],
 [some ("kind":Str),some ("a":Str),some ("kids":Str),some ("at":Str)],
 [some ("node":Str),some ("out":Str),some ("flag":Str),some ("word":Str)],
 [some ("text":Str),some ("word":Str),some ("after":Str)],
 [some ("node":Str)],
 [some ("node":Str)],
 [some ("self":Str),some ("node":Str)],
 [some ("self":Str)],
 [some ("self":Str),some ("node":Str),some ("shape":Str),some ("text":Str)],
 [some ("self":Str),some ("node":Str)],
 [some ("pr":Str)],
 [some ("pr":Str),some ("nodes":Str),some ("tail":Str)],
 [some ("pr":Str),some ("nodes":Str),some ("tail":Str),some ("out":Str),some ("node":Str)],
 [some ("pr":Str),some ("node":Str),some ("before":Str)],
 [some ("self":Str),some ("pr":Str),some ("node":Str)],
 [some ("pr":Str),some ("node":Str),some ("closed":Str)],
 [some ("pr":Str),some ("node":Str),some ("closed":Str)],
 [some ("pr":Str),some ("node":Str),some ("text":Str)],
 [some ("pr":Str),some ("node":Str),some ("in_head":Str),some ("text":Str),some ("init":Str)],
 [some ("pr":Str),some ("node":Str),some ("in_head":Str),some ("out":Str),some ("decl":Str)],
 [some ("self":Str),some ("pr":Str),some ("node":Str),some ("out":Str),some ("kid":Str)],
 [some ("self":Str),some ("pr":Str),some ("node":Str)],
 [some ("self":Str),some ("pr":Str),some ("node":Str)],
 [some ("self":Str),some ("pr":Str),some ("node":Str)],
 [some ("self":Str),some ("pr":Str),some ("node":Str),some ("text":Str)],
 [some ("self":Str),some ("pr":Str),some ("node":Str),some ("head":Str),some ("then":Str),some ("last":Str)],
 [some ("self":Str),some ("pr":Str),some ("node":Str)],
 [some ("self":Str),some ("pr":Str),some ("node":Str),some ("body":Str),some ("text":Str)],
 [some ("self":Str),some ("pr":Str),some ("node":Str),some ("first":Str),some ("test":Str),some ("step":Str),some ("body":Str),some ("text":Str)],
 [some ("pr":Str),some ("node":Str),some ("text":Str)],
 [some ("self":Str),some ("pr":Str),some ("node":Str),some ("word":Str),some ("text":Str)],
 [some ("self":Str),some ("pr":Str),some ("node":Str),some ("head":Str)],
 [some ("self":Str),some ("pr":Str),some ("node":Str),some ("test":Str),some ("head":Str)],
 [some ("self":Str),some ("pr":Str),some ("node":Str)],
 [some ("self":Str),some ("pr":Str),some ("node":Str),some ("word":Str)],
 [some ("self":Str),some ("pr":Str),some ("node":Str)],
 [some ("self":Str),some ("pr":Str),some ("node":Str)],
 [some ("self":Str),some ("pr":Str),some ("node":Str),some ("text":Str)],
 [some ("s":Str),some ("n":Str),some ("at":Str),some ("x":Str)],
 [some ("s":Str),some ("sort":Str),some ("a":Str),some ("first":Str),some ("probe":Str),some ("step":Str)],
 [some ("s":Str),some ("deep":Str),some ("front":Str),some ("how":Str),some ("sort":Str),some ("word":Str),some ("then":Str),some ("name":Str)],
 [some ("s":Str),some ("deep":Str),some ("front":Str),none],
 [some ("a":Str)],
 [some ("words":Str),some ("value":Str)],
 [some ("words":Str)],
 [some ("words":Str),some ("kids":Str),some ("kind":Str),some ("parts":Str),some ("one":Str),some ("nodes":Str),none],
 [some ("sort":Str),some ("word":Str),some ("kids":Str),some ("words":Str)],
 [some ("term":Str),some ("sort":Str),some ("word":Str),some ("kids":Str),some ("toks":Str),some ("kid":Str),some ("out":Str),some ("row":Str)],
 [some ("toks":Str),some ("at":Str),some ("sign":Str)],
 [some ("toks":Str),some ("at":Str),some ("stack":Str),some ("tok":Str),some ("end":Str)],
 [some ("toks":Str),some ("stack":Str),some ("whole":Str),some ("at":Str),some ("top":Str),some ("held":Str)],
 [some ("term":Str),some ("bag":Str),some ("sort":Str),some ("word":Str),some ("kids":Str),some ("pairs":Str),some ("laid":Str),some ("node":Str),some ("whole":Str),some ("asked":Str),some ("astray":Str),none,none,none],
 [some ("word":Str)],
 [some ("head":Str),some ("term":Str),some ("d":Str),some ("lines":Str)],
 [some ("lines":Str),some ("term":Str),some ("word":Str)],
 [some ("head":Str),some ("kids":Str),some ("d":Str),some ("lines":Str),some ("kid":Str)],
 [some ("term":Str),some ("d":Str),some ("sort":Str),some ("word":Str),some ("kids":Str),some ("lines":Str),some ("kid":Str),some ("last":Str),some ("more":Str)],
 [some ("pr":Str),some ("each":Str),some ("jump_shape":Str)],
 [some ("script":Str),some ("s":Str),some ("terms":Str),some ("bag":Str),some ("both":Str),some ("pr":Str),some ("text":Str),some ("parted":Str),some ("sign":Str),some ("got":Str),some ("want":Str),some ("one":Str),some ("d":Str),some ("row":Str),none,none,none,none]]
end
set_option autoImplicit false
set_option genInjectivity false
section
open PySem PySem.W PySem.Calls PySem.Spec PySem.SeqAt PyProof.Rows
section
open PySem PySem.W PySem.Calls PyProof.Rows
structure Stat where
 cls:List Addr
 fn:List Addr
noncomputable def attrN:List Str:=["kind","a","kids","flags","at","nid","shapes","depth","deep","angles"]
mutual
inductive VR (Z:Stat) (F:Addr→Obj→Prop) (am:List Addr):Value→V→Prop
 | none:VR Z F am .none .none
 | bool {b:Bool}:VR Z F am (.bool b) (.bool b)
 | int {i:Int} {t:Tok}:VR Z F am (.int i t) (.int i)
 | str {s:Str} {t:Tok} {l:Txt}:s.cps.toList=l→VR Z F am (.str s t) (.str l)
 | list {a:Addr} {o:Obj} {its:Array Value} {n:Nat} {xs:List V}:F a o→o.cls = .type "list"→o.data = .seq its n→VRs Z F am its.toList xs→VR Z F am (.ref a) (.list xs)
 | tup {a:Addr} {o:Obj} {its:Array Value} {n:Nat} {xs:List V}:F a o→o.cls = .type "tuple"→o.data = .seq its n→VRs Z F am its.toList xs→VR Z F am (.ref a) (.tup xs)
 | obj {x dx C:Addr} {c:Nat} {es:List DictEntry} {n:Nat} {kv:List (Nat×V)}:Z.cls[c]?=some C→F x (instObj C dx)→F dx (dictOf es n)→AR Z F am es kv→VR Z F am (.ref x) (.obj c kv)
 | loc {n:Nat} {a:Addr}:am[n]?=some a→VR Z F am (.ref a) (.loc n)
inductive VRs (Z:Stat) (F:Addr→Obj→Prop) (am:List Addr):List Value→List V→Prop
 | nil:VRs Z F am [] []
 | cons {v:Value} {x:V} {vs:List Value} {xs:List V}:VR Z F am v x→VRs Z F am vs xs→VRs Z F am (v :: vs) (x :: xs)
inductive AR (Z:Stat) (F:Addr→Obj→Prop) (am:List Addr):List DictEntry→List (Nat×V)→Prop
 | nil:AR Z F am [] []
 | cons {hs:Int} {nm:Str} {t:Tok} {w:Value} {k:Nat} {x:V} {es:List DictEntry} {kv:List (Nat×V)}:attrN[k]?=some nm→VR Z F am w x→AR Z F am es kv→AR Z F am (⟨hs,.str nm t,w⟩ :: es) ((k,x) :: kv)
end
mutual
noncomputable def V.allB (p:Nat→Bool):V→Bool
 | .list xs=>V.allBs p xs
 | .tup xs=>V.allBs p xs
 | .obj _ kv=>V.allBk p kv
 | .loc n=>p n
 | _=>true
noncomputable def V.allBs (p:Nat→Bool):List V→Bool
 | []=>true
 | x :: xs=>V.allB p x && V.allBs p xs
noncomputable def V.allBk (p:Nat→Bool):List (Nat×V)→Bool
 | []=>true
 | (_,x) :: xs=>V.allB p x && V.allBk p xs
end
theorem pure_all (p:Nat→Bool):∀ v:V,v.pure=true→V.allB p v=true:=
 V.rec (motive_1:=fun v=>v.pure=true→V.allB p v=true) (motive_2:=fun l=>V.pures l=true→V.allBs p l=true) (motive_3:=fun l=>V.purek l=true→V.allBk p l=true)
  (motive_4:=fun x=>x.2.pure=true→V.allB p x.2=true) (fun e=>e) (fun _ e=>e) (fun _ e=>e) (fun _ e=>e) (fun _ i e=>i e) (fun _ i e=>i e) (fun _ _ i e=>i e) (fun _ e=>nomatch (e:false=true))
  (fun e=>e) (fun _ _ i j e=>Bool.and_eq_true_iff.mpr ((Bool.and_eq_true_iff.mp e).imp i j)) (fun e=>e) (fun _ _ i j e=>Bool.and_eq_true_iff.mpr ((Bool.and_eq_true_iff.mp e).imp i j)) fun _ _ i=>i
section
variable {Z:Stat} {F F0 F':Addr→Obj→Prop} {am am':List Addr}
section
variable {p:Nat→Bool} (hF:∀ a o,F a o→F' a o) (hp:∀ n a,am[n]?=some a→p n=true→am'[n]?=some a)
include hF hp
theorem VR.re {u v} (q:VR Z F am u v):V.allB p v=true→VR Z F' am' u v:=
 VR.rec (Z:=Z) (F:=F) (am:=am) (motive_1:=fun u v _=>V.allB p v=true→VR Z F' am' u v) (motive_2:=fun u v _=>V.allBs p v=true→VRs Z F' am' u v) (motive_3:=fun u v _=>V.allBk p v=true→AR Z F' am' u v)
  (fun _=>.none) (fun _=>.bool) (fun _=>.int) (fun h _=>.str h) (fun h1 h2 h3 _ i e=>.list (hF _ _ h1) h2 h3 (i e)) (fun h1 h2 h3 _ i e=>.tup (hF _ _ h1) h2 h3 (i e))
  (fun h1 h2 h3 _ i e=>.obj h1 (hF _ _ h2) (hF _ _ h3) (i e)) (fun h e=>.loc (hp _ _ h e))
  (fun _=>.nil) (fun _ _ i j e=>.cons (i (Bool.and_eq_true_iff.mp e).1) (j (Bool.and_eq_true_iff.mp e).2))
  (fun _=>.nil) (fun h _ _ i j e=>.cons h (i (Bool.and_eq_true_iff.mp e).1) (j (Bool.and_eq_true_iff.mp e).2)) q
theorem VRs.re {u v} (q:VRs Z F am u v):V.allBs p v=true→VRs Z F' am' u v:=
 VRs.rec (Z:=Z) (F:=F) (am:=am) (motive_1:=fun u v _=>V.allB p v=true→VR Z F' am' u v) (motive_2:=fun u v _=>V.allBs p v=true→VRs Z F' am' u v) (motive_3:=fun u v _=>V.allBk p v=true→AR Z F' am' u v)
  (fun _=>.none) (fun _=>.bool) (fun _=>.int) (fun h _=>.str h) (fun h1 h2 h3 _ i e=>.list (hF _ _ h1) h2 h3 (i e)) (fun h1 h2 h3 _ i e=>.tup (hF _ _ h1) h2 h3 (i e))
  (fun h1 h2 h3 _ i e=>.obj h1 (hF _ _ h2) (hF _ _ h3) (i e)) (fun h e=>.loc (hp _ _ h e))
  (fun _=>.nil) (fun _ _ i j e=>.cons (i (Bool.and_eq_true_iff.mp e).1) (j (Bool.and_eq_true_iff.mp e).2))
  (fun _=>.nil) (fun h _ _ i j e=>.cons h (i (Bool.and_eq_true_iff.mp e).1) (j (Bool.and_eq_true_iff.mp e).2)) q
theorem AR.re {u v} (q:AR Z F am u v):V.allBk p v=true→AR Z F' am' u v:=
 AR.rec (Z:=Z) (F:=F) (am:=am) (motive_1:=fun u v _=>V.allB p v=true→VR Z F' am' u v) (motive_2:=fun u v _=>V.allBs p v=true→VRs Z F' am' u v) (motive_3:=fun u v _=>V.allBk p v=true→AR Z F' am' u v)
  (fun _=>.none) (fun _=>.bool) (fun _=>.int) (fun h _=>.str h) (fun h1 h2 h3 _ i e=>.list (hF _ _ h1) h2 h3 (i e)) (fun h1 h2 h3 _ i e=>.tup (hF _ _ h1) h2 h3 (i e))
  (fun h1 h2 h3 _ i e=>.obj h1 (hF _ _ h2) (hF _ _ h3) (i e)) (fun h e=>.loc (hp _ _ h e))
  (fun _=>.nil) (fun _ _ i j e=>.cons (i (Bool.and_eq_true_iff.mp e).1) (j (Bool.and_eq_true_iff.mp e).2))
  (fun _=>.nil) (fun h _ _ i j e=>.cons h (i (Bool.and_eq_true_iff.mp e).1) (j (Bool.and_eq_true_iff.mp e).2)) q
end
theorem get_lt {n:Nat} {a:Addr} (h:am[n]?=some a):decide (n<am.length)=true:=decide_eq_true (List.getElem?_eq_some_iff.mp h).1
theorem VR.lo {u v} (q:VR Z F am u v):V.allB (fun n=>decide (n<am.length)) v=true:=
 VR.rec (Z:=Z) (F:=F) (am:=am) (motive_1:=fun u v _=>V.allB (fun n=>decide (n<am.length)) v=true) (motive_2:=fun u v _=>V.allBs (fun n=>decide (n<am.length)) v=true) (motive_3:=fun u v _=>V.allBk (fun n=>decide (n<am.length)) v=true)
  rfl rfl rfl (fun _=>rfl) (fun _ _ _ _ i=>i) (fun _ _ _ _ i=>i) (fun _ _ _ _ i=>i) get_lt rfl (fun _ _ i j=>Bool.and_eq_true_iff.mpr ⟨i,j⟩) rfl (fun _ _ _ i j=>Bool.and_eq_true_iff.mpr ⟨i,j⟩) q
theorem VRs.lo {u v} (q:VRs Z F am u v):V.allBs (fun n=>decide (n<am.length)) v=true:=
 VRs.rec (Z:=Z) (F:=F) (am:=am) (motive_1:=fun u v _=>V.allB (fun n=>decide (n<am.length)) v=true) (motive_2:=fun u v _=>V.allBs (fun n=>decide (n<am.length)) v=true) (motive_3:=fun u v _=>V.allBk (fun n=>decide (n<am.length)) v=true)
  rfl rfl rfl (fun _=>rfl) (fun _ _ _ _ i=>i) (fun _ _ _ _ i=>i) (fun _ _ _ _ i=>i) get_lt rfl (fun _ _ i j=>Bool.and_eq_true_iff.mpr ⟨i,j⟩) rfl (fun _ _ _ i j=>Bool.and_eq_true_iff.mpr ⟨i,j⟩) q
theorem AR.lo {u v} (q:AR Z F am u v):V.allBk (fun n=>decide (n<am.length)) v=true:=
 AR.rec (Z:=Z) (F:=F) (am:=am) (motive_1:=fun u v _=>V.allB (fun n=>decide (n<am.length)) v=true) (motive_2:=fun u v _=>V.allBs (fun n=>decide (n<am.length)) v=true) (motive_3:=fun u v _=>V.allBk (fun n=>decide (n<am.length)) v=true)
  rfl rfl rfl (fun _=>rfl) (fun _ _ _ _ i=>i) (fun _ _ _ _ i=>i) (fun _ _ _ _ i=>i) get_lt rfl (fun _ _ i j=>Bool.and_eq_true_iff.mpr ⟨i,j⟩) rfl (fun _ _ _ i j=>Bool.and_eq_true_iff.mpr ⟨i,j⟩) q
theorem pre_up (ha:am <+: am') {n:Nat} {a:Addr} (h:am[n]?=some a):am'[n]?=some a:=ha.elim fun r e=>e▸(List.getElem?_append_left (List.getElem?_eq_some_iff.mp h).1).trans h
theorem pre_down (ha:am <+: am') {n:Nat} {a:Addr} (h:am'[n]?=some a) (z:decide (n<am.length)=true):am[n]?=some a:=ha.elim fun r e=>(List.getElem?_append_left (of_decide_eq_true z)).symm.trans (e▸h)
theorem VR.mono (hF:∀ a o,F a o→F' a o) (ha:am <+: am') {u v} (r:VR Z F am u v):VR Z F' am' u v:=r.re hF (fun _ _ h _=>pre_up ha h) r.lo
theorem VRs.mono (hF:∀ a o,F a o→F' a o) (ha:am <+: am') {u v} (r:VRs Z F am u v):VRs Z F' am' u v:=r.re hF (fun _ _ h _=>pre_up ha h) r.lo
theorem AR.mono (hF:∀ a o,F a o→F' a o) (ha:am <+: am') {u v} (r:AR Z F am u v):AR Z F' am' u v:=r.re hF (fun _ _ h _=>pre_up ha h) r.lo
theorem VR.shrink (ha:am <+: am') {u u0:Value} {v:V} (r0:VR Z F0 am u0 v) (r:VR Z F' am' u v):VR Z F' am u v:=r.re (fun _ _ e=>e) (fun _ _ h z=>pre_down ha h z) r0.lo
theorem VRs.shrink (ha:am <+: am') {u u0:List Value} {v:List V} (r0:VRs Z F0 am u0 v) (r:VRs Z F' am' u v):VRs Z F' am u v:=r.re (fun _ _ e=>e) (fun _ _ h z=>pre_down ha h z) r0.lo
theorem AR.shrink (ha:am <+: am') {u u0:List DictEntry} {v:List (Nat×V)} (r0:AR Z F0 am u0 v) (r:AR Z F' am' u v):AR Z F' am u v:=r.re (fun _ _ e=>e) (fun _ _ h z=>pre_down ha h z) r0.lo
theorem VR.ofPure {u:Value} {v:V} (r:VR Z F am' u v) (h:v.pure=true):VR Z F am u v:=r.re (p:=fun _=>false) (fun _ _ e=>e) (fun _ _ _ z=>noF z) (pure_all _ v h)
theorem VRs.ind {P:List Value→List V→Prop} (hn:P [] []) (hc:∀ {v x vs xs},VR Z F am v x→VRs Z F am vs xs→P vs xs→P (v :: vs) (x :: xs)) {u v} (q:VRs Z F am u v):P u v:=
 VRs.rec (Z:=Z) (F:=F) (am:=am) (motive_1:=fun _ _ _=>True) (motive_2:=fun u v _=>P u v) (motive_3:=fun _ _ _=>True)
  trivial trivial trivial (fun _=>trivial) (fun _ _ _ _ _=>trivial) (fun _ _ _ _ _=>trivial) (fun _ _ _ _ _=>trivial) (fun _=>trivial) hn (fun r q _ i=>hc r q i) trivial (fun _ _ _ _ _=>trivial) q
theorem AR.ind {P:List DictEntry→List (Nat×V)→Prop} (hn:P [] []) (hc:∀ {hs nm t w k x es kv},attrN[k]?=some nm→VR Z F am w x→AR Z F am es kv→P es kv→P (⟨hs,.str nm t,w⟩ :: es) ((k,x) :: kv)) {u v} (q:AR Z F am u v):P u v:=
 AR.rec (Z:=Z) (F:=F) (am:=am) (motive_1:=fun _ _ _=>True) (motive_2:=fun _ _ _=>True) (motive_3:=fun u v _=>P u v)
  trivial trivial trivial (fun _=>trivial) (fun _ _ _ _ _=>trivial) (fun _ _ _ _ _=>trivial) (fun _ _ _ _ _=>trivial) (fun _=>trivial) trivial (fun _ _ _ _=>trivial) hn (fun h r q _ i=>hc h r q i) q
theorem VRs.length {v x} (q:VRs Z F am v x):v.length=x.length:=q.ind (P:=fun v x=>v.length=x.length) rfl fun _ _ i=>congrArg (·+1) i
theorem VRs.get {v x} (q:VRs Z F am v x) {i:Nat} {y:V}:x[i]?=some y→∃ u,v[i]?=some u∧VR Z F am u y:=
 q.ind (P:=fun v x=>∀ i,x[i]?=some y→∃ u,v[i]?=some u∧VR Z F am u y) (fun _ e=>noS e) (fun {_ _ _ _} r _ j i=>i.casesOn (fun e=>⟨_,rfl,Option.some.inj e▸r⟩) fun i=>j i) i
theorem VRs.get' {v x} (q:VRs Z F am v x) {i:Nat} {u:Value}:v[i]?=some u→∃ y,x[i]?=some y∧VR Z F am u y:=
 q.ind (P:=fun v x=>∀ i,v[i]?=some u→∃ y,x[i]?=some y∧VR Z F am u y) (fun _ e=>noS e) (fun {_ _ _ _} r _ j i=>i.casesOn (fun e=>⟨_,rfl,Option.some.inj e▸r⟩) fun i=>j i) i
theorem VRs.append {v x v' x'} (q:VRs Z F am v x) (h:VRs Z F am v' x'):VRs Z F am (v++v') (x++x'):=q.ind (P:=fun v x=>VRs Z F am (v++v') (x++x')) h fun r _ i=>.cons r i
theorem VRs.take {v x} (q:VRs Z F am v x) (n:Nat):VRs Z F am (v.take n) (x.take n):=
 q.ind (P:=fun v x=>∀ n:Nat,VRs Z F am (v.take n) (x.take n)) (fun n=>n.casesOn .nil fun _=>.nil) (fun {_ _ _ _} r _ i n=>n.casesOn .nil fun n=>.cons r (i n)) n
theorem VRs.drop {v x} (q:VRs Z F am v x) (n:Nat):VRs Z F am (v.drop n) (x.drop n):=
 q.ind (P:=fun v x=>∀ n:Nat,VRs Z F am (v.drop n) (x.drop n)) (fun n=>n.casesOn .nil fun _=>.nil) (fun {_ _ _ _} r t i n=>n.casesOn (.cons r t) fun n=>i n) n
theorem VRs.set {v x} (q:VRs Z F am v x) (n:Nat) {u:Value} {y:V} (hu:VR Z F am u y):VRs Z F am (v.set n u) (x.set n y):=
 q.ind (P:=fun v x=>∀ n:Nat,VRs Z F am (v.set n u) (x.set n y)) (fun _=>.nil) (fun {_ _ _ _} r t i n=>n.casesOn (.cons hu t) fun n=>.cons r (i n)) n
theorem VR.at {u v w} (R:VR Z F am u v) (h:v=w):VR Z F am u w:=h▸R
theorem VRs.at {u v w} (R:VRs Z F am u v) (h:v=w):VRs Z F am u w:=h▸R
noncomputable def VRi (Z:Stat) (F:Addr→Obj→Prop) (am:List Addr) (P:Value→Prop) (u:Value) (v:V):Prop:=
 v.casesOn (P .none→P u) (fun b=>P (.bool b)→P u) (fun i=>(∀ t,P (.int i t))→P u) (fun l=>(∀ s t,s.cps.toList=l→P (.str s t))→P u)
  (fun xs=>(∀ a o its n,F a o→o.cls = .type "list"→o.data = .seq its n→VRs Z F am its.toList xs→P (.ref a))→P u)
  (fun xs=>(∀ a o its n,F a o→o.cls = .type "tuple"→o.data = .seq its n→VRs Z F am its.toList xs→P (.ref a))→P u)
  (fun c kv=>(∀ x dx C es n,Z.cls[c]?=some C→F x (instObj C dx)→F dx (dictOf es n)→AR Z F am es kv→P (.ref x))→P u) fun n=>(∀ a,am[n]?=some a→P (.ref a))→P u
section
variable {P:Value→Prop} {u:Value}
theorem VR.on {v:V} (R:VR Z F am u v):VRi Z F am P u v:=
 R.casesOn (motive_1:=fun u v _=>VRi Z F am P u v) (fun h=>h) (fun h=>h) (fun h=>h _) (fun e h=>h _ _ e) (fun h1 h2 h3 h4 h=>h _ _ _ _ h1 h2 h3 h4) (fun h1 h2 h3 h4 h=>h _ _ _ _ h1 h2 h3 h4) (fun h1 h2 h3 h4 h=>h _ _ _ _ _ h1 h2 h3 h4) fun e h=>h _ e
@[elab_as_elim] theorem VR.onNone (R:VR Z F am u .none) (h:P .none):P u:=R.on (P:=P) h
@[elab_as_elim] theorem VR.onBool {b:Bool} (R:VR Z F am u (.bool b)) (h:P (.bool b)):P u:=R.on (P:=P) h
@[elab_as_elim] theorem VR.onInt {i:Int} (R:VR Z F am u (.int i)) (h:∀ t,P (.int i t)):P u:=R.on (P:=P) h
@[elab_as_elim] theorem VR.onStr {l:Txt} (R:VR Z F am u (.str l)) (h:∀ s t,s.cps.toList=l→P (.str s t)):P u:=R.on (P:=P) h
@[elab_as_elim] theorem VR.onList {xs:List V} (R:VR Z F am u (.list xs)) (h:∀ a o its n,F a o→o.cls = .type "list"→o.data = .seq its n→VRs Z F am its.toList xs→P (.ref a)):P u:=R.on (P:=P) h
@[elab_as_elim] theorem VR.onTup {xs:List V} (R:VR Z F am u (.tup xs)) (h:∀ a o its n,F a o→o.cls = .type "tuple"→o.data = .seq its n→VRs Z F am its.toList xs→P (.ref a)):P u:=R.on (P:=P) h
@[elab_as_elim] theorem VR.onObj {c:Nat} {kv:List (Nat×V)} (R:VR Z F am u (.obj c kv)) (h:∀ x dx C es n,Z.cls[c]?=some C→F x (instObj C dx)→F dx (dictOf es n)→AR Z F am es kv→P (.ref x)):P u:=R.on (P:=P) h
@[elab_as_elim] theorem VR.onLoc {n:Nat} (R:VR Z F am u (.loc n)) (h:∀ a,am[n]?=some a→P (.ref a)):P u:=R.on (P:=P) h
end
theorem VRs.on {P:List Value→Prop} {us vs} (R:VRs Z F am us vs):vs.casesOn (P []→P us) (fun x xs=>(∀ v vs,VR Z F am v x→VRs Z F am vs xs→P (v :: vs))→P us):=
 R.casesOn (motive_2:=fun us vs _=>vs.casesOn (P []→P us) (fun x xs=>(∀ v vs,VR Z F am v x→VRs Z F am vs xs→P (v :: vs))→P us)) (fun h=>h) fun h1 h2 h=>h _ _ h1 h2
@[elab_as_elim] theorem VRs.onNil {P:List Value→Prop} {us} (R:VRs Z F am us []) (h:P []):P us:=R.on (P:=P) h
@[elab_as_elim] theorem VRs.onCons {P:List Value→Prop} {us x xs} (R:VRs Z F am us (x :: xs)) (h:∀ v vs,VR Z F am v x→VRs Z F am vs xs→P (v :: vs)):P us:=R.on (P:=P) h
end
noncomputable def Cel.isLive:Cel→Bool
 | .flist _ | .gone=>false
 | _=>true
noncomputable def X (U:Addr→Prop) (am:List Addr) (σ:St) (a:Addr):Prop:=U a∨∃ (n:Nat) (O:Cel),σ[n]?=some O∧O.isLive=true∧am[n]?=some a
noncomputable def Fz (U:Addr→Prop) (am:List Addr) (σ:St) (h:Heap) (a:Addr) (o:Obj):Prop:=h.get? a=some o∧¬ X U am σ a
section
variable {prog:Program} {w:World}
inductive KV {K:Type} (enc:K→V) (Z:Stat) (F:Addr→Obj→Prop) (am:List Addr):List (K×Value)→List (V×V)→Prop
 | nil:KV enc Z F am [] []
 | cons {k:K} {u:Value} {v:V} {xs:List (K×Value)} {kv:List (V×V)}:VR Z F am u v→KV enc Z F am xs kv→KV enc Z F am ((k,u) :: xs) ((enc k,v) :: kv)
theorem KV.mono {K:Type} {enc:K→V} {Z:Stat} {F F':Addr→Obj→Prop} {am am':List Addr} (hF:∀ a o,F a o→F' a o) (ha:am <+: am') {xs:List (K×Value)} {kv:List (V×V)} (h:KV enc Z F am xs kv):KV enc Z F' am' xs kv:=by
 induction h with
 | nil=>exact .nil
 | cons r _ ih=>exact .cons (r.mono hF ha) ih
noncomputable def DR {K:Type} [DecidableEq K] (knd:KeyKind prog w K) (enc:K→V) (Z:Stat) (F:Addr→Obj→Prop) (am:List Addr) (o:Obj) (kv:List (V×V)):Prop:=
 o.ExactDict∧∃ es ep kvs,o.data = .dict es ep∧KeysOf knd es∧Pairs knd es.toList kvs∧(kvs.map (·.1)).Nodup∧kvs.length≤1000∧KV enc Z F am kvs kv
noncomputable def encS (s:Str):V:=.str s.cps.toList
noncomputable def encI (i:Int):V:=.int i
variable (prog w)
noncomputable def OR (Z:Stat) (F:Addr→Obj→Prop) (am:List Addr) (n:Nat) (o:Obj):Cel→Prop
 | .list xs=>∃ its e,o=listOf its e∧VRs Z F am its.toList xs
 | .dict kv=>DR (strKind prog w) encS Z F am o kv∨DR (intKind prog w) encI Z F am o kv
 | .inst c=>∃ C dx,Z.cls[c]?=some C∧am[n+1]?=some dx∧o=instObj C dx
 | .attrs kv=>∃ es e,o=dictOf es e∧es.length≤100∧AR Z F am es kv
 | .flist _ | .gone=>True
theorem OR.mono {Z:Stat} {F F':Addr→Obj→Prop} {am am':List Addr} {n:Nat} {o:Obj} (hF:∀ a o,F a o→F' a o) (ha:am <+: am'):∀ {O:Cel},OR prog w Z F am n o O→OR prog w Z F' am' n o O
 | .list _,⟨its,e,h1,h2⟩=>⟨its,e,h1,h2.mono hF ha⟩
 | .dict _,h=>by
  rcases h with ⟨h1,es,ep,kvs,h2,h3,h4,h5,h6,h7⟩ | ⟨h1,es,ep,kvs,h2,h3,h4,h5,h6,h7⟩
  ·exact .inl ⟨h1,es,ep,kvs,h2,h3,h4,h5,h6,h7.mono hF ha⟩
  ·exact .inr ⟨h1,es,ep,kvs,h2,h3,h4,h5,h6,h7.mono hF ha⟩
 | .inst _,⟨C,dx,h1,h2,h3⟩=>⟨C,dx,h1,by obtain ⟨r,rfl⟩:=ha; refine (List.getElem?_append_left (List.getElem?_eq_some_iff.mp h2).1)▸?_; exact h2,h3⟩
 | .attrs _,⟨es,e,h1,hz,h2⟩=>⟨es,e,h1,hz,h2.mono hF ha⟩
 | .flist _,_=>trivial
 | .gone,_=>trivial
structure Inv (Z:Stat) (hb:Heap) (U:Addr→Prop) (am:List Addr) (σ:St) (h:Heap):Prop where
 base:∀ b o,hb.get? b=some o→h.get? b=some o
 len:am.length=σ.length
 live:∀ (n:Nat) (O:Cel) a,σ[n]?=some O→O.isLive=true→am[n]?=some a→(∃ o,h.get? a=some o∧OR prog w Z (Fz U am σ h) am n o O)∧¬ U a∧hb.get? a=none
 inj:∀ (i j:Nat) (O O':Cel) a,σ[i]?=some O→O.isLive=true→σ[j]?=some O'→O'.isLive=true→am[i]?=some a→am[j]?=some a→i=j
 fl:∀ (n:Nat) xs a,σ[n]?=some (.flist xs)→am[n]?=some a→VR Z (Fz U am σ h) am (.ref a) (.list xs)
 out:∀ a,U a→hb.get? a=none∧∃ o,h.get? a=some o
end
structure Stp (P U:Addr→Prop) (am:List Addr) (σ:St) (h:Heap) (am':List Addr) (σ':St) (h':Heap):Prop where
 pre:am <+: am'
 keepP:∀ a o,P a→h.get? a=some o→h'.get? a=some o
 keepF:∀ a o,Fz U am σ h a o→Fz U am' σ' h' a o
theorem Stp.refl {P U:Addr→Prop} {am:List Addr} {σ:St} {h:Heap}:Stp P U am σ h am σ h:=⟨List.prefix_rfl,fun _ _ _ e=>e,fun _ _ e=>e⟩
theorem Stp.trans {P U:Addr→Prop} {am am' am'':List Addr} {σ σ' σ'':St} {h h' h'':Heap} (x:Stp P U am σ h am' σ' h') (y:Stp P U am' σ' h' am'' σ'' h''):Stp P U am σ h am'' σ'' h'':=
 ⟨x.pre.trans y.pre,fun a o p e=>y.keepP a o p (x.keepP a o p e),fun a o e=>y.keepF a o (x.keepF a o e)⟩
theorem Stp.weaken {P P' U:Addr→Prop} {am am':List Addr} {σ σ':St} {h h':Heap} (x:Stp P U am σ h am' σ' h') (hp:∀ a,P' a→P a):Stp P' U am σ h am' σ' h':=
 ⟨x.pre,fun a o p e=>x.keepP a o (hp a p) e,x.keepF⟩
theorem VR.step {Z:Stat} {P U:Addr→Prop} {am am':List Addr} {σ σ':St} {h h':Heap} {v:Value} {x:V} (r:VR Z (Fz U am σ h) am v x) (y:Stp P U am σ h am' σ' h'):VR Z (Fz U am' σ' h') am' v x:=r.mono y.keepF y.pre
theorem VRs.step {Z:Stat} {P U:Addr→Prop} {am am':List Addr} {σ σ':St} {h h':Heap} {v:List Value} {x:List V} (r:VRs Z (Fz U am σ h) am v x) (y:Stp P U am σ h am' σ' h'):VRs Z (Fz U am' σ' h') am' v x:=r.mono y.keepF y.pre
section
variable {prog:Program} {w:World} {Z:Stat} {hb:Heap} {P U:Addr→Prop} {am:List Addr} {σ:St} {h h':Heap}
theorem Inv.xat (I:Inv prog w Z hb U am σ h) {a:Addr} (x:X U am σ a):hb.get? a=none∧∃ o,h.get? a=some o:=by
 rcases x with x | ⟨n,O,h1,h2,h3⟩
 ·exact I.out a x
 ·refine e0_3 (I.live n O a h1 h2 h3) fun w5_ _ h5=>?_; refine e1_2 w5_ fun o ho _=>?_
  exact ⟨h5,o,ho⟩
theorem Inv.nob (I:Inv prog w Z hb U am σ h) {a:Addr} (x:h.get? a=none):hb.get? a=none:=by
 cases e:hb.get? a with
 | none=>rfl
 | some o=>rw [I.base a o e] at x; exact noN x
theorem get_size (h:Heap):h.get? h.objs.size=none:=by
 cases e:h.get? h.objs.size with
 | none=>rfl
 | some o=>exact absurd (Heap.lt_size e) (Nat.lt_irrefl _)
theorem Inv.kept (I:Inv prog w Z hb U am σ h) (k:∀ b o,h.get? b=some o→h'.get? b=some o):Inv prog w Z hb U am σ h'∧Stp P U am σ h am σ h':=by
 have hF:∀ a o,Fz U am σ h a o→Fz U am σ h' a o:=fun a o e=>⟨k a o e.1,e.2⟩
 refine ⟨⟨fun b o e=>k b o (I.base b o e),I.len,fun n O a h1 h2 h3=>?_,I.inj,fun n xs a h1 h2=>(I.fl n xs a h1 h2).mono hF List.prefix_rfl,fun a u=>⟨(I.out a u).1,e1_1 ((I.out a u).2) fun o e=>⟨o,k a o e⟩⟩⟩,⟨List.prefix_rfl,fun a o _ e=>k a o e,hF⟩⟩
 refine byC fun w8_=>?_
 refine e0_3 (I.live n O a h1 h2 h3) fun w7_ h4 h5=>?_; refine e1_2 w7_ fun o ho hr=>?_
 exact w8_ (⟨⟨o,k a o ho,hr.mono prog w hF List.prefix_rfl⟩,h4,h5⟩)
theorem Inv.grown (I:Inv prog w Z hb U am σ h) (k:∀ b o,h.get? b=some o→h'.get? b=some o) (z:h.objs.size≤h'.objs.size):Inv prog w Z hb U am σ h'∧Stp P U am σ h am σ h':=I.kept k
theorem Inv.push (I:Inv prog w Z hb U am σ h) (o:Obj):Inv prog w Z hb U am σ (h.push o)∧Stp P U am σ h am σ (h.push o):=
 I.grown (fun b o' e=>Heap.get?_push_of_some _ e) (by rw [Heap.size_push]; lia)
theorem Inv.fresh (I:Inv prog w Z hb U am σ h) {o:Obj} (ho:o.isFreed=false):Fz U am σ (h.push o) h.objs.size o:=
 ⟨Heap.get?_push_size _ ho,fun x=>e1_1 ((I.xat x).2) fun o e=>Nat.lt_irrefl _ (Heap.lt_size e)⟩
theorem X_set {n:Nat} {O O':Cel} {a:Addr} (hn:σ[n]?=some O) (hl:O.isLive=true) (hl':O'.isLive=true):X U am (σ.set n O') a↔X U am σ a:=by
 have hlt:=(List.getElem?_eq_some_iff.mp hn).1
 unfold X
 constructor
 ·rintro (x | ⟨m,Om,h1,h2,h3⟩)
  ·exact .inl x
  ·by_cases e:n=m
   ·subst e; exact .inr ⟨n,O,hn,hl,h3⟩
   ·rw [List.getElem?_set_ne e] at h1; exact .inr ⟨m,Om,h1,h2,h3⟩
 ·rintro (x | ⟨m,Om,h1,h2,h3⟩)
  ·exact .inl x
  ·by_cases e:n=m
   ·subst e; exact .inr ⟨n,O',List.getElem?_set_self hlt,hl',h3⟩
   ·exact .inr ⟨m,Om,by rw [List.getElem?_set_ne e]; exact h1,h2,h3⟩
theorem Inv.set (I:Inv prog w Z hb U am σ h) {n:Nat} {O O':Cel} {a:Addr} {o':Obj} (hn:σ[n]?=some O) (hl:O.isLive=true) (ha:am[n]?=some a) (hs:Heap.SameBut a h h') (ho:h'.get? a=some o') (hl':O'.isLive=true)
  (hr:OR prog w Z (Fz U am σ h) am n o' O') (hp:∀ a,P a→U a):Inv prog w Z hb U am (σ.set n O') h'∧Stp P U am σ h am (σ.set n O') h':=by
 have hlt:=(List.getElem?_eq_some_iff.mp hn).1
 have hXa:X U am σ a:=.inr ⟨n,O,hn,hl,ha⟩
 refine e0_3 (I.live n O a hn hl ha) fun w9_ hUa hba=>?_; refine e1_2 w9_ fun o hoa _=>?_
 have hF:∀ b ob,Fz U am σ h b ob→Fz U am (σ.set n O') h' b ob:=fun b ob e=>
  ⟨(hs.2 b fun q=>e.2 (q▸hXa)).trans e.1,fun x=>e.2 ((X_set hn hl hl').mp x)⟩
 refine ⟨⟨fun b ob e=>(hs.2 b fun q=>?_).trans (I.base b ob e),by rw [List.length_set]; exact I.len,fun m Om b h1 h2 h3=>?_,fun i j Oi Oj b h1 h2 h3 h4 h5 h6=>?_,fun m xs b h1 h2=>?_,fun b u=>⟨(I.out b u).1,e1_1 ((I.out b u).2) fun o e=>⟨o,(hs.2 b fun q=>hUa (q▸u)).trans e⟩⟩⟩,
  ⟨List.prefix_rfl,fun b ob p e=>(hs.2 b fun q=>hUa (q▸hp b p)).trans e,hF⟩⟩
 ·have hba:=e▸q▸hba; exact noN hba
 ·by_cases e:n=m
  ·subst e
   rw [List.getElem?_set_self hlt] at h1
   cases h1
   have h3:=ha▸h3; cases h3
   exact i0_3 ⟨o',ho,hr.mono prog w hF List.prefix_rfl⟩ hUa hba
  ·have h1:=(List.getElem?_set_ne e)▸h1
   refine e0_3 (I.live m Om b h1 h2 h3) fun w10_ h4 h5=>?_; refine e1_2 w10_ fun om hom hrm=>?_
   exact i0_3 ⟨om,(hs.2 b fun q=>e (I.inj n m O Om a hn hl h1 h2 ha (q▸h3))).trans hom,hrm.mono prog w hF List.prefix_rfl⟩ h4 h5
 ·have live':∀ (k:Nat) (Ok:Cel),(σ.set n O')[k]?=some Ok→Ok.isLive=true→∃ Ok':Cel,σ[k]?=some Ok'∧Ok'.isLive=true:=fun k Ok g1 g2=>by
   by_cases e:n=k
   ·subst e; exact i1_2 O hn hl
   ·rw [List.getElem?_set_ne e] at g1; exact i1_2 Ok g1 g2
  refine e1_2 (live' i Oi h1 h2) fun Oi' g1 g2=>?_
  refine e1_2 (live' j Oj h3 h4) fun Oj' g3 g4=>?_
  exact I.inj i j _ _ b g1 g2 g3 g4 h5 h6
 ·by_cases e:n=m
  ·subst e; have h1:=(List.getElem?_set_self hlt)▸h1; cases h1; exact noF hl'
  ·have h1:=(List.getElem?_set_ne e)▸h1; exact (I.fl m xs b h1 h2).mono hF List.prefix_rfl
end
end
section
open PySem PySem.W PySem.Calls PyProof.Rows
structure Bs (K:Frag) (mg mb:Str→Option Value) (hb:Heap):Prop where
 k:K.In hb
 g:hb.Ns mainGlobals mg
 b:hb.Ns builtinsNs mb
 bi:∀ x:Str,x≠"__name__"→mb x=bootBuiltins x
 lim:hb.NoLimit
structure Cx where
 prog:Program
 w:World
 K:Frag
 mg:Str→Option Value
 mb:Str→Option Value
 hb:Heap
 Z:Stat
 bs:Bs K mg mb hb
noncomputable abbrev Cx.M (c:Cx):Model:=model c.prog c.w
noncomputable abbrev Cx.I (c:Cx) (U:Addr→Prop) (am:List Addr) (σ:St) (h:Heap):Prop:=Inv c.prog c.w c.Z c.hb U am σ h
noncomputable abbrev Cx.R (c:Cx) (U:Addr→Prop) (am:List Addr) (σ:St) (h:Heap) (u:Value) (v:V):Prop:=VR c.Z (Fz U am σ h) am u v
noncomputable abbrev Cx.Rs (c:Cx) (U:Addr→Prop) (am:List Addr) (σ:St) (h:Heap) (u:List Value) (v:List V):Prop:=VRs c.Z (Fz U am σ h) am u v
structure Ctx where
 names:List (Option Str)
 scope:Scope
structure FR (c:Cx) (G:Ctx) (U:Addr→Prop) (env:Env) (ρ:Loc) (am:List Addr) (σ:St) (h:Heap):Prop where
 sc:env.scope=G.scope
 fn:env.scope.kind = .function
 gl:env.globals=mainGlobals
 bu:env.builtins=builtinsNs
 uL:U env.locals
 uC:∀ x a,env.cells.lookup x=some a→U a∧a≠env.locals
 inj:∀ x y a,env.cells.lookup x=some a→env.cells.lookup y=some a→x=y
 loc:∃ m,h.Ns env.locals m∧∀ (i:Nat) x v,G.names[i]?=some (some x)→ρ[i]?=some (some v)→env.kindOf x=some .local→∃ u,m x=some u∧c.R U am σ h u v
 cel:∀ (i:Nat) x,G.names[i]?=some (some x)→env.kindOf x=some .cell∨env.kindOf x=some .free→∃ a o,env.cells.lookup x=some a∧h.get? a=some o∧∃ ov,o.data = .cell ov∧∀ v,ρ[i]?=some (some v)→∃ u,ov=some u∧c.R U am σ h u v
noncomputable def Own (env:Env) (a:Addr):Prop:=a=env.locals∨∃ x,env.cells.lookup x=some a
theorem FR.move {c:Cx} {G:Ctx} {U U':Addr→Prop} {env:Env} {ρ:Loc} {am am':List Addr} {σ σ':St} {h h':Heap} (F:FR c G U env ρ am σ h) (e:∀ a o,Fz U am σ h a o→Fz U' am' σ' h' a o) (pre:am <+: am') (k:∀ a o,Own env a→h.get? a=some o→h'.get? a=some o) (hU:∀ a,Own env a→U' a):FR c G U' env ρ am' σ' h':=
 ⟨F.sc,F.fn,F.gl,F.bu,hU _ (.inl rfl),fun x a q=>⟨hU _ (.inr ⟨x,q⟩),(F.uC x a q).2⟩,F.inj,
  e1_2 F.loc fun m w hm=>e3_2 w fun o es ep ho hr=>⟨m,⟨o,es,ep,k _ _ (.inl rfl) ho,hr⟩,fun i x v h1 h2 h3=>e1_2 (hm i x v h1 h2 h3) fun u a b=>⟨u,a,b.mono e pre⟩⟩,
  fun i x h1 h2=>e2_3 (F.cel i x h1 h2) fun a o h3 h4 w=>e1_2 w fun ov h5 h6=>⟨a,o,h3,k _ _ (.inr ⟨x,h3⟩) h4,ov,h5,fun v hv=>e1_2 (h6 v hv) fun u e1 e2=>⟨u,e1,e2.mono e pre⟩⟩⟩
theorem FR.mine {c:Cx} {G:Ctx} {U:Addr→Prop} {env:Env} {ρ:Loc} {am:List Addr} {σ:St} {h:Heap} (F:FR c G U env ρ am σ h) (a:Addr) (q:Own env a):U a:=q.elim (fun q=>q▸F.uL) fun q=>q.elim fun x q=>(F.uC x a q).1
theorem FR.step {c:Cx} {G:Ctx} {U P:Addr→Prop} {env:Env} {ρ:Loc} {am am':List Addr} {σ σ':St} {h h':Heap} (F:FR c G U env ρ am σ h) (y:Stp P U am σ h am' σ' h') (hp:∀ a,U a→P a):FR c G U env ρ am' σ' h':=F.move y.keepF y.pre (fun a o q=>y.keepP a o (hp a (F.mine a q))) F.mine
noncomputable def PostE (c:Cx) (U:Addr→Prop) (am:List Addr) (s:Shared) (σ σ':St) (v:V) (Q:Value→Shared→Prop):Prop:=
 ∀ am' h' tk u,Stp U U am σ s.heap am' σ' h'→c.I U am' σ' h'→c.R U am' σ' h' u v→s.toks≤tk→Q u { s with heap:=h',toks:=tk }
noncomputable def PostB (c:Cx) (U:Addr→Prop) (am:List Addr) (s:Shared) (σ σ':St) (v:Bool) (Q:Bool→Shared→Prop):Prop:=
 ∀ am' h' tk,Stp U U am σ s.heap am' σ' h'→c.I U am' σ' h'→s.toks≤tk→Q v { s with heap:=h',toks:=tk }
noncomputable def PostL (c:Cx) (U:Addr→Prop) (am:List Addr) (s:Shared) (σ σ':St) (v:List V) (Q:List Value→Shared→Prop):Prop:=
 ∀ am' h' tk u,Stp U U am σ s.heap am' σ' h'→c.I U am' σ' h'→c.Rs U am' σ' h' u v→s.toks≤tk→Q u { s with heap:=h',toks:=tk }
noncomputable abbrev NoE:Value→Shared→Prop:=fun _ _=>False
noncomputable def SE (c:Cx) (G:Ctx) (RA:Around→Prop) (e:Expr) (f:Loc→St→Option (V×St)):Prop:=
 ∀ U A env ρ am σ v σ' (s:Shared) Q,RA A→0<s.toks→c.I U am σ s.heap→FR c G U env ρ am σ s.heap→f ρ σ=some (v,σ')→PostE c U am s σ σ' v Q→wpAny c.M A (eval e env) Q NoE s
noncomputable def STt (c:Cx) (G:Ctx) (RA:Around→Prop) (e:Expr) (f:Loc→St→Option (Bool×St)):Prop:=
 ∀ U A env ρ am σ v σ' (s:Shared) Q,RA A→0<s.toks→c.I U am σ s.heap→FR c G U env ρ am σ s.heap→f ρ σ=some (v,σ')→PostB c U am s σ σ' v Q→wpAny c.M A (isTrue e env (eval e env)) Q NoE s
noncomputable def SEs (c:Cx) (G:Ctx) (RA:Around→Prop) (es:List Expr) (f:Loc→St→Option (List V×St)):Prop:=
 ∀ U A env ρ am σ v σ' (s:Shared) pos Q,RA A→0<s.toks→c.I U am σ s.heap→FR c G U env ρ am σ s.heap→f ρ σ=some (v,σ')→PostL c U am s σ σ' v Q→wpAny c.M A (spliced (backTo pos (starEach es env))) Q NoE s
section
variable {c:Cx} {G:Ctx} {RA:Around→Prop} {U:Addr→Prop} {am am₁:List Addr} {σ σ₁ σ₂:St} {s:Shared} {v:V} {h₁:Heap} {tk₁:Nat}
theorem PostE.at {w:V} {Q:Value→Shared→Prop} (P:PostE c U am s σ σ₂ v Q) (e:w=v):PostE c U am s σ σ₂ w Q:=e▸P
theorem PostE.atp {w:V} {τ:St} {Q:Value→Shared→Prop} (P:PostE c U am s σ σ₂ v Q) (e:(w,τ)=(v,σ₂)):PostE c U am s σ τ w Q:=(Prod.mk.inj e).2▸P.at (Prod.mk.inj e).1
theorem PostE.ats {w:V} {τ:St} {Q:Value→Shared→Prop} (P:PostE c U am s σ σ₂ v Q) (e:some (w,τ)=some (v,σ₂)):PostE c U am s σ τ w Q:=P.atp (Option.some.inj e)
theorem PostB.atp {q w:Bool} {τ:St} {Q:Bool→Shared→Prop} (P:PostB c U am s σ σ₂ q Q) (e:(w,τ)=(q,σ₂)):PostB c U am s σ τ w Q:=(Prod.mk.inj e).2▸(Prod.mk.inj e).1▸P
theorem PostB.ats {q w:Bool} {τ:St} {Q:Bool→Shared→Prop} (P:PostB c U am s σ σ₂ q Q) (e:some (w,τ)=some (q,σ₂)):PostB c U am s σ τ w Q:=P.atp (Option.some.inj e)
theorem PostL.atp {q w:List V} {τ:St} {Q:List Value→Shared→Prop} (P:PostL c U am s σ σ₂ q Q) (e:(w,τ)=(q,σ₂)):PostL c U am s σ τ w Q:=(Prod.mk.inj e).2▸(Prod.mk.inj e).1▸P
theorem PostL.ats {q w:List V} {τ:St} {Q:List Value→Shared→Prop} (P:PostL c U am s σ σ₂ q Q) (e:some (w,τ)=some (q,σ₂)):PostL c U am s σ τ w Q:=P.atp (Option.some.inj e)
theorem PostE.after {Q:Value→Shared→Prop} (P:PostE c U am s σ σ₂ v Q) (y:Stp U U am σ s.heap am₁ σ₁ h₁) (ht:s.toks≤tk₁):PostE c U am₁ { s with heap:=h₁,toks:=tk₁ } σ₁ σ₂ v Q:=
 fun am' h' tk u z I R t=>P am' h' tk u (y.trans z) I R (Nat.le_trans ht t)
theorem PostB.after {q:Bool} {Q:Bool→Shared→Prop} (P:PostB c U am s σ σ₂ q Q) (y:Stp U U am σ s.heap am₁ σ₁ h₁) (ht:s.toks≤tk₁):PostB c U am₁ { s with heap:=h₁,toks:=tk₁ } σ₁ σ₂ q Q:=
 fun am' h' tk z I t=>P am' h' tk (y.trans z) I (Nat.le_trans ht t)
theorem PostE.here {Q:Value→Shared→Prop} (P:PostE c U am s σ σ v Q) (I:c.I U am σ s.heap) {u:Value} (R:c.R U am σ s.heap u v) {tk:Nat} (ht:s.toks≤tk):Q u { s with toks:=tk }:=
 P am s.heap tk u Stp.refl I R ht
theorem PostE.kept {Q:Value→Shared→Prop} (P:PostE c U am s σ σ v Q) (I:c.I U am σ s.heap) {h':Heap} (k:∀ b o,s.heap.get? b=some o→h'.get? b=some o)
  {u:Value} (R:c.R U am σ h' u v) {tk:Nat} (ht:s.toks≤tk):Q u { s with heap:=h',toks:=tk }:=
 let ⟨I',y⟩:=I.kept (P:=U) k
 P am h' tk u y I' R ht
theorem SE.none {k:Nat} {pos:Pos}:SE c G RA (.Constant .none k pos) fun _ σ=>some (.none,σ):=fun _ _ _ _ _ _ _ _ _ _ _ _ I _ e P=>wpAny_Constant_none ((P.ats e).here I .none (Nat.le_refl _))
theorem SE.bool {b:Bool} {k:Nat} {pos:Pos}:SE c G RA (.Constant (.bool b) k pos) fun _ σ=>some (.bool b,σ):=fun _ _ _ _ _ _ _ _ _ _ _ _ I _ e P=>wpAny_Constant_bool ((P.ats e).here I .bool (Nat.le_refl _))
theorem SE.int {i:Int} {k:Nat} {pos:Pos}:SE c G RA (.Constant (.int i) k pos) fun _ σ=>some (.int i,σ):=fun _ _ _ _ _ _ _ _ _ _ _ _ I _ e P=>wpAny_Constant_int ((P.ats e).here I .int (Nat.le_succ _))
theorem SE.str {x:Str} {l:Txt} {k:Nat} {pos:Pos} (hx:x.cps.toList=l):SE c G RA (.Constant (.str x) k pos) fun _ σ=>some (.str l,σ):=fun _ _ _ _ _ _ _ _ _ _ _ _ I _ e P=>wpAny_Constant_str ((P.ats e).here I (.str hx) (Nat.le_succ _))
noncomputable def kindB (G:Ctx) (x:Str) (k:NameKind):Bool:=decide (G.scope.names.lookup x=some k)
noncomputable def slotKind (G:Ctx) (x:Str):Bool:=kindB G x .local || (kindB G x .cell || (kindB G x .free && !(x == ("__classdict__":Str))))
theorem FR.kind {env:Env} {ρ:Loc} {x:Str} {k:NameKind} (F:FR c G U env ρ am σ h₁) (h:G.scope.names.lookup x=some k):env.kindOf x=some k:=by unfold Env.kindOf; rw [F.sc]; exact h
theorem FR.kindB {env:Env} {ρ:Loc} {x:Str} {k:NameKind} (F:FR c G U env ρ am σ h₁) (h:Mini.kindB G x k=true):env.kindOf x=some k:=F.kind (of_decide_eq_true h)
theorem load_slot {A:Around} {env:Env} {ρ:Loc} {x:Str} {i:Nat} {v:V} {Q:Value→Shared→Prop} (F:FR c G U env ρ am σ s.heap) (hn:G.names[i]?=some (some x)) (hk:slotKind G x=true) (hv:ρ[i]?=some (some v)) (h:∀ u,c.R U am σ s.heap u v→Q u s) :
  wpAny c.M A (loadName env x) Q NoE s:=by
 rcases Bool.or_eq_true_iff.mp hk with k | k
 ·exact e1_2 F.loc fun m hm hl=>e1_2 (hl i x v hn hv (F.kindB k)) fun u hu R=>wpAny_loadName_local F.fn (F.kindB k) hm hu (h u R)
 ·rcases Bool.or_eq_true_iff.mp k with k | k
  ·exact e2_3 (F.cel i x hn (.inl (F.kindB k))) fun a o h1 h2 w=>e1_2 w fun ov h3 h4=>e1_2 (h4 v hv) fun u e R=>wpAny_loadName_cell F.fn (F.kindB k) h1 ⟨o,h2,e▸h3⟩ (h u R)
  ·exact e2_3 (F.cel i x hn (.inr (F.kindB (Bool.and_eq_true_iff.mp k).1))) fun a o h1 h2 w=>e1_2 w fun ov h3 h4=>e1_2 (h4 v hv) fun u e R=>
    wpAny_loadName_free F.fn (F.kindB (Bool.and_eq_true_iff.mp k).1) h1 ⟨o,h2,e▸h3⟩ (h u R) (by simpa using (Bool.and_eq_true_iff.mp k).2)
theorem SE.slot {x:Str} {pos:Pos} {i:Nat} (hn:G.names[i]?=some (some x)) (hk:slotKind G x=true) (hd:(x == ("__debug__":Str))=false) :
  SE c G RA (.Name x pos) fun ρ σ=>ρ[i]?.bind fun o=>o.map fun v=>(v,σ):=
 fun U A env ρ am σ v σ' s Q _ _ I F e P=>bindI e fun o hv e=>mapI e fun w e1 e=>wpAny_Name (load_slot F hn hk (e1▸hv) fun u R=>(P.atp e).here I R (Nat.le_refl _)) hd
theorem loadGlobalMain {A:Around} {env:Env} {ρ:Loc} {x:Str} {u:Value} {Q:Value→Shared→Prop} (I:c.I U am σ s.heap) (F:FR c G U env ρ am σ s.heap) (e:nsIn c.K mainGlobals x=some (some u)) (h:Q u s):wpAny c.M A (loadGlobal env x) Q NoE s:=
 loadGlobal_global (by refine F.gl▸?_; exact c.bs.g.keeps I.base) (mg_of c.bs.k c.bs.g e) h
theorem nameGlobal {A:Around} {env:Env} {ρ:Loc} {x:Str} {pos:Pos} {u:Value} {Q:Value→Shared→Prop} (I:c.I U am σ s.heap) (F:FR c G U env ρ am σ s.heap) (hk:G.scope.names.lookup x=some .globalImplicit) (hd:(x == ("__debug__":Str))=false)
  (e:nsIn c.K mainGlobals x=some (some u)) (h:Q u s):wpAny c.M A (eval (.Name x pos) env) Q NoE s:=
 Name_function_global F.fn (F.kind hk) (loadGlobalMain I F e h) hd
theorem nameBuiltin {A:Around} {env:Env} {ρ:Loc} {x:Str} {pos:Pos} {u:Value} {Q:Value→Shared→Prop} (I:c.I U am σ s.heap) (F:FR c G U env ρ am σ s.heap) (hk:G.scope.names.lookup x=some .globalImplicit) (hd:(x == ("__debug__":Str))=false)
  (e:nsIn c.K mainGlobals x=some none) (hx:x≠"__name__") (hu:bootBuiltins x=some u) (h:Q u s):wpAny c.M A (eval (.Name x pos) env) Q NoE s:=
 Name_function_global F.fn (F.kind hk) (loadGlobal_builtin (F.gl.symm▸c.bs.g.keeps I.base) (mg_none_of c.bs.k c.bs.g e) (F.bu.symm▸c.bs.b.keeps I.base) ((c.bs.bi x hx).trans hu) h) hd
end
noncomputable def mapO (f:Value→Option V):List Value→Option (List V):=List.rec (some []) fun v _ ih=>(f v).bind fun x=>ih.map (x :: ·)
noncomputable def seqO (d:Data):Option (Array Value):=d.casesOn none (fun _=>none) (fun its _=>some its) (fun _ _=>none) (fun _ _ _=>none) (fun _ _=>none) (fun _=>none) (fun _=>none) (fun _=>none) (fun _=>none) none
noncomputable def tupO (o:Obj):Option (Array Value):=cond (decide (o.cls = .type "tuple")) (seqO o.data) none
noncomputable def toV1 (g:Addr→Option V) (u:Value):Option V:=
 u.casesOn (some .none) none none (fun b=>some (.bool b)) (fun i _=>some (.int i)) (fun _ _=>none) (fun s _=>some (.str s.cps.toList)) (fun _ _=>none) (fun _=>none) (fun _=>none) g
noncomputable def toV (K:Frag):Nat→Value→Option V:=Nat.rec (toV1 fun _=>none) fun _ ih=>toV1 fun a=>((K.lookup a).bind tupO).bind fun its=>(mapO ih its.toList).map .tup
noncomputable def chkV (K:Frag) (n:Nat) (u:Value) (v:V):Bool:=@decide (toV K n u=some v) (V.decO _ _)
theorem seqO_ok {d:Data} {its:Array Value}:seqO d=some its→∃ n,d = .seq its n:=
 d.casesOn (motive:=fun d=>seqO d=some its→∃ n,d = .seq its n) noS (fun _=>noS) (fun _ n e=>⟨n,Option.some.inj e▸rfl⟩) (fun _ _=>noS) (fun _ _ _=>noS) (fun _ _=>noS) (fun _=>noS) (fun _=>noS) (fun _=>noS) (fun _=>noS) noS
theorem cond_some {α:Type} {p:Prop} [i:Decidable p] {x:Option α} {y:α}:cond (decide p) x none=some y→p∧x=some y:=
 i.casesOn (motive:=fun i=>cond (@decide p i) x none=some y→p∧x=some y) (fun _=>noS) fun h e=>⟨h,e⟩
section
variable {K:Frag} {Z:Stat} {F:Addr→Obj→Prop} {am:List Addr}
theorem toV1_ok {g:Addr→Option V} {u:Value} {v:V} (h:∀ a,g a=some v→VR Z F am (.ref a) v):toV1 g u=some v→VR Z F am u v:=
 u.casesOn (motive:=fun u=>toV1 g u=some v→VR Z F am u v) (fun e=>Option.some.inj e▸.none) noS noS (fun _ e=>Option.some.inj e▸.bool) (fun _ _ e=>Option.some.inj e▸.int) (fun _ _=>noS) (fun _ _ e=>Option.some.inj e▸.str rfl) (fun _ _=>noS) (fun _=>noS) (fun _=>noS) h
theorem mapO_ok {f:Value→Option V} (h:∀ u v,f u=some v→VR Z F am u v) (us:List Value):∀ vs,mapO f us=some vs→VRs Z F am us vs:=
 us.rec (motive:=fun us=>∀ vs,mapO f us=some vs→VRs Z F am us vs) (fun _ e=>Option.some.inj e▸.nil) fun u us i vs e=>bindI e fun x e1 e=>mapI e fun xs e2 e=>e▸.cons (h _ _ e1) (i _ e2)
theorem toV_ok (hF:∀ a o,K.lookup a=some o→F a o) (n:Nat):∀ u v,toV K n u=some v→VR Z F am u v:=
 n.rec (motive:=fun n=>∀ u v,toV K n u=some v→VR Z F am u v) (fun _ _=>toV1_ok fun _=>noS) fun n ih _ _=>toV1_ok fun a e=>bindI e fun its e1 e=>bindI e1 fun o e1 e2=>mapI e fun vs e3 e=>
  (cond_some e2).elim fun hc hs=>(seqO_ok hs).elim fun n hd=>e▸.tup (hF a o e1) hc hd (mapO_ok ih _ _ e3)
end
section
variable {c:Cx} {G:Ctx} {RA:Around→Prop}
theorem Cx.keepK (c:Cx) {U:Addr→Prop} {am:List Addr} {σ:St} {h:Heap} (I:c.I U am σ h) {a:Addr} {o:Obj} (ho:c.K.lookup a=some o):Fz U am σ h a o:=
 have hb:=c.bs.k a o ho
 ⟨I.base a o hb,fun x=>noS ((I.xat x).1.symm.trans hb)⟩
theorem SE.glob {x:Str} {pos:Pos} {u:Value} {v:V} {n:Nat} (hk:G.scope.names.lookup x=some .globalImplicit) (hd:(x == ("__debug__":Str))=false) (e:nsIn c.K mainGlobals x=some (some u)) (hv:chkV c.K n u v=true) :
  SE c G RA (.Name x pos) fun _ σ=>some (v,σ):=
 fun U A env ρ am σ v' σ' s Q _ _ I F e' P=>nameGlobal I F hk hd e ((P.ats e').here I (toV_ok (fun _ _=>c.keepK I) n u v (@of_decide_eq_true _ (V.decO _ _) hv)) (Nat.le_refl _))
noncomputable def Op2 (c:Cx) (RA:Around→Prop) (t:Value→Value→Sem Value) (g:V→V→St→Option V):Prop:=
 ∀ U A am σ (s:Shared) ua ub a b v Q,RA A→0<s.toks→c.I U am σ s.heap→c.R U am σ s.heap ua a→c.R U am σ s.heap ub b→g a b σ=some v→PostE c U am s σ σ v Q→wpAny c.M A (t ua ub) Q NoE s
theorem SE.bin {l r:Expr} {op:Operator} {pos:Pos} {fl fr:Loc→St→Option (V×St)} {g:V→V→St→Option V} (hl:SE c G RA l fl) (hr:SE c G RA r fr) (ho:Op2 c RA (binaryOp op) g) :
  SE c G RA (.BinOp l op r pos) fun ρ σ=>(fl ρ σ).bind fun (va,σ₁)=>(fr ρ σ₁).bind fun (vb,σ₂)=>(g va vb σ₂).map fun v=>(v,σ₂):=
 fun U A env ρ am σ v σ' s Q rA ht I F e P=>bindP e fun va σ₁ e1 e=>bindP e fun vb σ₂ e2 e=>mapI e fun v' e3 e=>
 wpAny_BinOp (hl U A env ρ am σ va σ₁ s _ rA ht I F e1 fun am₁ h₁ tk₁ ua y₁ I₁ R₁ t₁=>hr U A env ρ am₁ σ₁ vb _ _ _ rA (Nat.lt_of_lt_of_le ht t₁) I₁ (F.step y₁ fun _ p=>p) e2 fun am₂ h₂ tk₂ ub y₂ I₂ R₂ t₂=>
  ho U A am₂ _ _ ua ub va vb _ Q rA (Nat.lt_of_lt_of_le ht (Nat.le_trans t₁ t₂)) I₂ (R₁.step y₂) R₂ e3 (((P.atp e).after y₁ t₁).after y₂ t₂))
end
end
section
theorem noTk {α:Type} {M:Model} {A:Around} {t:Sem α} {Q:α→Shared→Prop} {s:Shared} (h:wpAny M A t (fun a s'=>s.toks≤s'.toks→Q a s') NoE s):wpAny M A t Q NoE s:=
 wpAny_with_toks (Nat.le_refl _) (wpAny_mono h (fun _ _ x=>x) fun _ _ x=>x.elim)
section
variable {c:Cx} {G:Ctx} {RA:Around→Prop} {U:Addr→Prop} {am:List Addr} {σ σ':St} {s:Shared}
noncomputable def LsR (c:Cx) (U:Addr→Prop) (am:List Addr) (σ:St) (h:Heap) (xs:List V) (u:Value):Prop:=∃ l its,u = .ref l∧h.IsList l its∧c.Rs U am σ h its.toList xs
theorem LsR.of {u:Value} {xs:List V} {h:Heap} (R:c.R U am σ h u (.list xs)):LsR c U am σ h xs u:=R.onList fun l o its n h1 h2 h3 h4=>⟨l,its,rfl,⟨_,h1.1,h2,_,h3⟩,h4⟩
theorem items_R {a:V} {u:Value} {xs:List V} {h:Heap} (I:c.I U am σ h) (R:c.R U am σ h u a) (e:items a σ=some xs):LsR c U am σ h xs u:=
 V.sw_inv e (fun _ _=>noS) (fun _ _=>noS) (fun ys ha e=>.of (R.at (ha.trans (congrArg V.list (Option.some.inj e))))) (fun _ _=>noS) fun n ha e=>(R.at ha).onLoc fun l hl=>
  Cel.sw_inv e (fun ys hn e=>e1_2 (I.live n _ l hn rfl hl).1 fun o ho r=>e2_2 r fun its ep eo r=>⟨l,its,rfl,by subst eo; exact ⟨_,ho,rfl,_,rfl⟩,r.at (Option.some.inj e)⟩) (fun _ _=>noS) (fun _ _=>noS) (fun _ _=>noS)
   fun ys hn e=>.of ((I.fl n ys l hn hl).at (congrArg V.list (Option.some.inj e)))
theorem R_str {u:Value} {l:Txt} {h:Heap} (R:c.R U am σ h u (.str l)):∃ x t,u = .str x t∧x.cps.toList=l:=R.onStr (P:=fun u=>∃ x t,u = .str x t∧x.cps.toList=l) fun x t e=>⟨x,t,rfl,e⟩
theorem R_none {u:Value} {h:Heap} (R:c.R U am σ h u .none):u = .none:=R.onNone (P:=(· = .none)) rfl
theorem str_len {x:Str} {l:Txt} (h:x.cps.toList=l):x.length=l.length:=h▸Array.length_toList.symm
theorem strnil_of {x:Str} (h:(x.length == 0)=true):x.cps.toList=[]:=List.length_eq_zero_iff.mp (Array.length_toList.trans (beq_iff_eq.mp h))
@[elab_as_elim] theorem toInt_on {P:Value→Prop} {u:Value} {a:V} {i:Int} {h:Heap} (R:c.R U am σ h u a) (e:a.toInt=some i) (k:∀ t,P (.int i t)):P u:=(R.at (V.toInt_ok e)).onInt k
@[elab_as_elim] theorem toTxt_on {P:Value→Prop} {u:Value} {a:V} {l:Txt} {h:Heap} (R:c.R U am σ h u a) (e:a.toTxt=some l) (k:∀ x t,x.cps.toList=l→P (.str x t)):P u:=(R.at (V.toTxt_ok e)).onStr k
theorem add_of {op:Operator→Value→Value→Sem Value} (hi:∀ {A s a b t u} {Q:Value→Shared→Prop},Q (.int (a+b) s.toks) { s with toks:=s.toks+1 }→wpAny c.M A (op .Add (.int a t) (.int b u)) Q NoE s)
  (hs:∀ {A:Around} {s:Shared} {x y:Str} {t u:Tok} {Q:Value→Shared→Prop},(if x.length == 0 then Made.val (.str y u) else if y.length == 0 then Made.val (.str x t) else Made.str (x++y)).post Q s→wpAny c.M A (op .Add (.str x t) (.str y u)) Q NoE s) :
  Op2 c RA (op .Add) fun a b _=>augop .add a b:=by
 intro U A am σ s ua ub a b v Q rA ht I ra rb e P
 refine V.sw_inv e (fun i ha e=>mapI e fun j e1 e=>?_) (fun l ha e=>bindI e fun l' e1 e=>ite_some e fun hz e=>?_) (fun _ _=>noS) (fun _ _=>noS) (fun _ _=>noS)
 ·exact (ra.at ha).onInt fun t=>toInt_on rb e1 fun t'=>hi ((P.at e).here I .int (Nat.le_succ _))
 ·have P:=P.at (Option.some.inj e)
  refine (ra.at ha).onStr fun x t hx=>toTxt_on rb e1 fun y t' hy=>hs ?_
  by_cases zx:(x.length == 0)=true
  ·rw [if_pos zx]
   exact P.here I (.str (hy.trans (by rw [← hx,strnil_of zx]; rfl))) (Nat.le_refl _)
  ·rw [if_neg zx]
   by_cases zy:(y.length == 0)=true
   ·rw [if_pos zy]
    exact P.here I (.str (hx.trans (by rw [← hy,strnil_of zy,List.append_nil]))) (Nat.le_refl _)
   ·rw [if_neg zy]
    exact ⟨by rw [Str.length_append,sizeLine_eq,str_len hx,str_len hy]; exact Nat.le_of_lt (Nat.lt_of_lt_of_le hz (Nat.le_of_ble_eq_true rfl)),P.here I (.str (by rw [← hx,← hy]; exact Array.toList_append)) (Nat.le_succ _)⟩
theorem add_lists_raw {A:Around} {s:Shared} {l b:Addr} {its its2:Array Value} {Q:Value→Shared→Prop} (hl:s.heap.IsList l its) (hb:s.heap.IsList b its2) (hz:its.size+its2.size≤sizeLine)
  (h:Q (.ref s.heap.objs.size) { s with heap:=s.heap.push { cls:=.type "list",data:=.seq (its.toList++its2.toList).toArray } }):wpAny c.M A (binaryOp .Add (.ref l) (.ref b)) Q NoE s:=by
 obtain ⟨⟨k1,d1,a1,s1⟩,o1,rfl,n1,rfl⟩:=hl
 obtain ⟨⟨k2,d2,a2,s2⟩,o2,rfl,n2,rfl⟩:=hb
 have e:its++its2=(its.toList++its2.toList).toArray:=by simp
 refine concat_meets ⟨_,o1,rfl⟩ ⟨_,o2,rfl⟩ noFill_list_add seq_list_add PySem.F.slot_list_add PySem.F.entry_list_add (PySem.F.args_list_add_2 _ _) (list_addW l b its its2 n1 n2 d1 d2 s1 s2 hz) ⟨o1,o2,?_⟩
 rw [e]; exact h
theorem op_add:Op2 c RA (binaryOp .Add) addV:=by
 intro U A am σ s ua ub a b v Q rA ht I ra rb e P
 have is:augop .add a b=some v→wpAny c.M A (binaryOp .Add ua ub) Q NoE s:=fun e=>add_of (op:=binaryOp) PySem.P.add_int PySem.P.add_str U A am σ s ua ub a b v Q rA ht I ra rb e P
 have lst:addL a b σ=some v→wpAny c.M A (binaryOp .Add ua ub) Q NoE s:=fun e=>bindI e fun xs ha e=>bindI e fun ys hb e=>ite_some e fun hz e=>by
  refine e2_3 (items_R I ra ha) fun l its q1 h1 h2=>e2_3 (items_R I rb hb) fun l' its' q2 h3 h4=>?_
  rw [q1,q2]
  have k1:=h2.length
  have k2:=h4.length
  rw [Array.length_toList] at k1 k2
  exact add_lists_raw h1 h3 (by rw [sizeLine_eq,k1,k2]; exact Nat.le_of_lt (Nat.lt_of_lt_of_le hz (Nat.le_of_ble_eq_true rfl)))
   ((P.at (Option.some.inj e)).kept I (fun b o e=>Heap.get?_push_of_some _ e) (.list (I.fresh rfl) rfl rfl (((h2.append h4).step (P:=U) (I.push _).2))) (Nat.le_refl _))
 exact V.sw_inv e (fun i ha e=>is (by subst ha; exact e)) (fun i ha e=>is (by subst ha; exact e)) (fun _ _=>lst) (fun _ _=>noS) (fun _ _=>lst)
theorem op_sub:Op2 c RA (binaryOp .Sub) fun a b _=>subV a b:=
 fun U A am σ s ua ub a b v Q rA ht I ra rb e P=>bindI e fun i e1 e=>mapI e fun j e2 e=>toInt_on ra e1 fun t=>toInt_on rb e2 fun t'=>PySem.P.sub_int ((P.at e).here I .int (Nat.le_succ _))
theorem op_mod:Op2 c RA (binaryOp .Mod) fun a b _=>modV a b:=
 fun U A am σ s ua ub a b v Q rA ht I ra rb e P=>bindI e fun i e1 e=>bindI e fun j e2 e=>ite_some e fun hj e=>toInt_on ra e1 fun t=>toInt_on rb e2 fun t'=>
  mod_int' (Int.ne_of_gt hj) ((Int.fmod_eq_emod_of_nonneg i (Int.le_of_lt hj)).symm▸(P.at (Option.some.inj e)).here I .int (Nat.le_succ _))
theorem bitAnd_zero (j:Int):Builtin.bitAnd 0 j=0:=by unfold Builtin.bitAnd; cases hj:decide (0≤j) <;> simp
theorem op_band:Op2 c RA (binaryOp .BitAnd) fun a b _=>bandV a b:=
 fun U A am σ s ua ub a b v Q rA ht I ra rb e P=>bindI e fun i e1 e=>bindI e fun j e2 e=>ite_some e fun hi e=>toInt_on ra e1 fun t=>toInt_on rb e2 fun t'=>
  and_int (hi▸(bitAnd_zero j).symm▸(P.at (Option.some.inj e)).here I .int (Nat.le_succ _))
theorem foldl_flat:∀ (l:List (Array Nat)) (a:Array Nat),(l.foldl (· ++ ·) a).toList=a.toList++(l.map Array.toList).flatten
 | [],a=>by simp
 | b :: l,a=>by rw [List.foldl_cons,foldl_flat l]; simp
theorem op_mul:Op2 c RA (binaryOp .Mult) fun a b _=>mulV a b:=by
 intro U A am σ s ua ub a b v Q rA ht I ra rb e P
 refine bindI e fun l e1 e=>bindI e fun j e2 e=>ite_some e fun hj e=>?_
 have P:=P.at (Option.some.inj e)
 clear e
 refine toTxt_on ra e1 fun x t hx=>toInt_on rb e2 fun t'=>?_
 clear e1 e2 ra rb
 obtain ⟨h1,h2,h3⟩:=hj
 refine noTk (SB.mul (x:=x) (t:=t) ⟨?_,?_,?_⟩ fun tk' k hk=>?_)
 ·have e1:decide (j < -(2 ^ 63:Int))=false:=decide_eq_false (by lia)
  have e2:decide (j ≥ 2 ^ 63)=false:=decide_eq_false (by lia)
  rw [e1,e2]; rfl
 ·intro q1 _
  have hl:(x.length:Int)<64:=by rw [str_len hx]; lia
  have hq:(2 ^ 63 - 1:Int) / 63≤(2 ^ 63 - 1) / j:=by
   rw [Int.le_ediv_iff_mul_le (by lia)]
   have:(2 ^ 63 - 1:Int) / 63 * j≤(2 ^ 63 - 1:Int) / 63 * 63:=Int.mul_le_mul_of_nonneg_left (by lia) (by decide)
   exact Int.le_trans this (by decide)
  have:(64:Int)≤(2 ^ 63 - 1:Int) / 63:=by decide
  lia
 ·intro _ _
  have hl:x.length<64:=by rw [str_len hx]; exact h3
  unfold Builtin.Str.tooLong
  refine decide_eq_false ?_
  have:x.length * j.toNat≤64 * 64:=Nat.mul_le_mul (Nat.le_of_lt hl) (by lia)
  rw [sizeLine_eq]; exact Nat.not_lt.mpr (Nat.le_trans this (Nat.le_of_ble_eq_true rfl))
 ·refine P.here I (.str ?_) hk
  clear P hk
  subst hx
  unfold Txt.mul
  by_cases q:j<1
  ·rw [if_pos q]
   have:j=0:=by lia
   subst this; rfl
  ·rw [if_neg q]
   split
   ·rename_i z
    rcases Bool.or_eq_true_iff.mp z with z | z
    ·rw [beq_iff_eq.mp z]; simp
    ·rw [strnil_of z]; simp
   ·refine (?_:(List.foldl (· ++ ·) #[] (List.replicate j.toNat x.cps)).toList=_)
    rw [foldl_flat]
    simp
theorem op_iadd:Op2 c RA (inplaceOp .Add) fun a b _=>augop .add a b:=add_of PySem.P.iadd_int PySem.P.iadd_str
theorem op_isub:Op2 c RA (inplaceOp .Sub) fun a b _=>augop .sub a b:=
 fun U A am σ s ua ub a b v Q rA ht I ra rb e P=>bindI e fun i e1 e=>mapI e fun j e2 e=>toInt_on ra e1 fun t=>toInt_on rb e2 fun t'=>PySem.P.isub_int ((P.at e).here I .int (Nat.le_succ _))
noncomputable def toD:V→PyData:=V.rec (motive_1:=fun _=>PyData) (motive_2:=fun _=>List PyData) (motive_3:=fun _=>PyData) (motive_4:=fun _=>PyData) .none .bool .int (fun s=>.str (toStr s)) (fun _ d=>.list d) (fun _ d=>.tuple d) (fun _ _ _=>.none) (fun _=>.none) [] (fun _ _ d ds=>d :: ds) .none (fun _ _ _ _=>.none) fun _ _ _=>.none
noncomputable def toDs (l:List V):List PyData:=l.map toD
theorem toD_list (xs:List V):toD (.list xs) = .list (toDs xs):=congrArg PyData.list (xs.rec rfl fun x xs ih=>congrArg (toD x :: ·) ih)
theorem toStr_of {x:Str} {l:Txt} (h:x.cps.toList=l):toStr l=x:=h▸rfl
theorem strOk_of {l:Txt} (h:okTxt l=true):PyData.strOk (toStr l)=true:=List.all_toArray.trans h
noncomputable def Rd0 (h:Heap) (x:V) (n:Nat) (u:Value):Prop:=∃ as,Reads h u (toD x) as∧(toD x).canLay0=true∧(toD x).depth≤n
noncomputable def RdA (h:Heap) (us:List Value) (xs:List V) (n:Nat):Prop:=∃ as,ReadsAll h us (toDs xs) as∧PyData.canLayAll0 (toDs xs)=true∧PyData.depthAll (toDs xs)≤n
theorem txt_reads {h:Heap} {x:V} {u:Value} {n:Nat} (R:c.R U am σ h u x) (e:x.isTxt=true):Rd0 h x n u:=
 anyI e fun l e1 e2=>(V.toTxt_ok e1).symm▸toTxt_on (P:=Rd0 h (.str l) n) R e1 fun y t hy=>⟨[],(congrArg (fun z=>Reads h (.str y t) (.str z) []) (toStr_of hy)).mpr (.str y t),by simp only [toD,PyData.canLay0]; exact strOk_of e2,by simp only [toD,PyData.depth]; exact Nat.zero_le _⟩
theorem rows_read {p:V→Bool} {n:Nat} {h:Heap} (hp:∀ x u,p x=true→c.R U am σ h u x→Rd0 h x n u) {us:List Value} {xs:List V} (r:c.Rs U am σ h us xs):xs.all p=true→RdA h us xs n:=
 r.ind (P:=fun us xs=>xs.all p=true→RdA h us xs n) (fun _=>⟨[],.nil,rfl,Nat.zero_le _⟩) fun {_ _ _ _} r _ ih e=>
  have e:=Bool.and_eq_true_iff.mp e
  e1_3 (hp _ _ e.1 r) fun as a1 a2 a3=>e1_3 (ih e.2) fun bs b1 b2 b3=>⟨_,.cons a1 b1,Bool.and_eq_true_iff.mpr ⟨a2,b2⟩,Nat.max_le.mpr ⟨a3,b3⟩⟩
theorem eqd_reads {h:Heap} (n:Nat):∀ (x:V) (u:Value),V.eqd n x=true→c.R U am σ h u x→Rd0 h x n u:=
 n.rec (motive:=fun n=>∀ (x:V) (u:Value),V.eqd n x=true→c.R U am σ h u x→Rd0 h x n u) (fun _ _ e R=>txt_reads R e) fun n ih x u e R=>(Bool.or_eq_true_iff.mp e).elim (txt_reads R) fun e=>anyI e fun xs e1 e2=>
  (V.toL_ok e1).symm▸(R.at (V.toL_ok e1)).onList (P:=Rd0 h (.list xs) (n+1)) fun a o its k h1 h2 h3 h4=>e1_3 (rows_read ih h4 e2) fun as a1 a2 a3=>by
   unfold Rd0; rw [toD_list]; exact ⟨_,.list h1.1 h2 h3 a1,a2,Nat.succ_le_succ a3⟩
theorem toStr_inj {a b:Txt} (h:toStr a=toStr b):a=b:=congrArg (fun x:Str=>x.cps.toList) h
noncomputable def Same (x y:V):Prop:=noMix (toD x) (toD y)=true∧(toD x=toD y→x=y)
theorem rows_same {n:Nat} (ih:∀ x y,V.eqd n x=true→V.eqd n y=true→Same x y) (xs:List V):∀ ys,xs.all (V.eqd n)=true→ys.all (V.eqd n)=true→noMixAll (toDs xs) (toDs ys)=true∧(toDs xs=toDs ys→xs=ys):=
 xs.rec (fun ys _ _=>ys.casesOn (by simp [toDs,noMixAll]) fun _ _=>⟨by simp [toDs,noMixAll],fun h=>nomatch h⟩) fun x xs i ys e1=>ys.casesOn (fun _=>⟨by simp [toDs,noMixAll],fun h=>nomatch h⟩) fun y ys e2=>
  have e1:=Bool.and_eq_true_iff.mp e1
  have e2:=Bool.and_eq_true_iff.mp e2
  have a:=ih x y e1.1 e2.1
  have b:=i ys e1.2 e2.2
  ⟨(by simp only [toDs,List.map_cons,noMixAll]; exact Bool.and_eq_true_iff.mpr ⟨a.1,b.1⟩),fun h=>congr (congrArg List.cons (a.2 (List.cons.inj h).1)) (b.2 (List.cons.inj h).2)⟩
theorem eqd_or {n:Nat} {x:V} {X:Prop} (e:V.eqd (n+1) x=true) (k1:∀ l,x = .str l→X) (k2:∀ xs,x = .list xs→xs.all (V.eqd n)=true→X):X:=
 (Bool.or_eq_true_iff.mp e).elim (fun e=>anyI e fun l e1 _=>k1 l (V.toTxt_ok e1)) fun e=>anyI e fun xs e1 e2=>k2 xs (V.toL_ok e1) e2
theorem same_txt (a b:Txt):Same (.str a) (.str b):=⟨by simp [toD,noMix],fun h=>congrArg V.str (toStr_inj (PyData.str.inj h))⟩
theorem eqd_same (n:Nat):∀ (x y:V),V.eqd n x=true→V.eqd n y=true→Same x y:=
 n.rec (motive:=fun n=>∀ (x y:V),V.eqd n x=true→V.eqd n y=true→Same x y) (fun x y ex ey=>anyI ex fun a e1 _=>anyI ey fun b e2 _=>(V.toTxt_ok e1).symm▸(V.toTxt_ok e2).symm▸same_txt a b)
  fun n ih x y ex ey=>eqd_or ex (fun a e1=>eqd_or ey (fun b e2=>e1.symm▸e2.symm▸same_txt a b) fun ys e2 _=>e1.symm▸e2.symm▸⟨by simp [toD,noMix],fun h=>nomatch h⟩)
   fun xs e1 h1=>eqd_or ey (fun b e2=>e1.symm▸e2.symm▸⟨by simp [toD,noMix],fun h=>nomatch h⟩) fun ys e2 h2=>
    have a:=rows_same ih xs ys h1 h2
    e1.symm▸e2.symm▸by unfold Same; rw [toD_list,toD_list]; exact ⟨by simp only [noMix]; exact a.1,fun h=>congrArg V.list (a.2 (PyData.list.inj h))⟩
theorem V.eqd_list {n:Nat} {xs:List V} (h:xs.all (V.eqd n)=true):V.eqd (n+1) (.list xs)=true:=h
noncomputable def Rc2 (A:Around) (s:Shared) (ua ub:Value) (q:Bool):Prop:=RcAt A s ua ub q∧RcNeAt A s ua ub (!q)
theorem eqL_rc {A:Around} {xs ys:List V} {ua ub:Value} {q:Bool} (hA:A.units+64<cLine) (ra:c.R U am σ s.heap ua (.list xs)) (rb:c.R U am σ s.heap ub (.list ys)) (e:eqL xs ys=some q):Rc2 A s ua ub q:=
 ite_some e fun hz e=>by
  have hz:=Bool.and_eq_true_iff.mp hz
  refine e1_3 (eqd_reads 51 (.list xs) ua (V.eqd_list hz.1) ra) fun as a1 a2 a3=>e1_3 (eqd_reads 51 (.list ys) ub (V.eqd_list hz.2) rb) fun bs b1 b2 b3=>?_
  have n:=eqd_same 51 (.list xs) (.list ys) (V.eqd_list hz.1) (V.eqd_list hz.2)
  have w:PyData.eqv (toD (.list xs)) (toD (.list ys))=@decide (xs=ys) (V.decEqs xs ys):=by
   rw [← same_eq_eqv _ _ n.1]
   refine Bool.eq_iff_iff.mpr (PyProof.Rows.same_iff.trans ⟨fun z=>@decide_eq_true _ (V.decEqs xs ys) (V.list.inj (n.2 z)),fun z=>congrArg _ (congrArg V.list (@of_decide_eq_true _ (V.decEqs xs ys) z))⟩)
  rw [← Option.some.inj e,← w]
  exact ⟨rcAt_reads a1 b1 a2 b2 (by lia),rcNeAt_reads a1 b1 a2 b2 (by lia)⟩
theorem Rc2.at {A:Around} {ua ub:Value} {q r:Bool} (h:Rc2 A s ua ub q) (e:q=r):Rc2 A s ua ub r:=e▸h
theorem eqv_rc {A:Around} {a b:V} {ua ub:Value} {q:Bool} (hA:A.units+64<cLine) (ra:c.R U am σ s.heap ua a) (rb:c.R U am σ s.heap ub b) (e:eqv a b=some q):Rc2 A s ua ub q:=by
 have room:A.units+8<cLine:=by lia
 revert ra e
 refine a.casesOn (motive_1:=fun a=>c.R U am σ s.heap ua a→eqv a b=some q→Rc2 A s ua ub q) (fun ra e=>mapI e fun ys e1 e=>?_) (fun x ra e=>mapI e fun y e1 e=>?_) (fun x ra e=>mapI e fun y e1 e=>?_) (fun x ra e=>mapI e fun y e1 e=>?_)
  (fun xs ra e=>?_) (fun _ _=>noS) (fun _ _ _=>noS) fun _ _=>noS
 ·exact (VR.onNone (P:=fun ua=>Rc2 A s ua ub false) ra ((rb.at (V.toL_ok e1)).onList (P:=fun ub=>Rc2 A s .none ub false) fun a o its n h1 h2 h3 h4=>⟨RcAt.none_list ⟨_,h1.1,h2,_,h3⟩ (by lia),RcNeAt.none_list ⟨_,h1.1,h2,_,h3⟩ (by lia)⟩)).at e
 ·refine (VR.onBool (P:=fun ua=>Rc2 A s ua ub (decide (x=y))) ra ((rb.at (V.toBool_ok e1)).onBool (P:=fun ub=>Rc2 A s (.bool x) ub (decide (x=y))) ?_)).at e
  exact Rc2.at (q:=x == y) ⟨RcAt.bool_bool _ _,RcNeAt.bool_bool _ _⟩ (by cases x <;> cases y <;> rfl)
 ·exact (ra.onInt (P:=fun ua=>Rc2 A s ua ub (decide (x=y))) fun t=>toInt_on (P:=fun ub=>Rc2 A s (.int x t) ub (decide (x=y))) rb e1 fun t'=>⟨RcAt.int_int _ _ _ _,RcNeAt.int_int _ _ _ _⟩).at e
 ·refine (ra.onStr (P:=fun ua=>Rc2 A s ua ub (decide (x=y))) fun k t hx=>toTxt_on (P:=fun ub=>Rc2 A s (.str k t) ub (decide (x=y))) rb e1 fun k' t' hy=>?_).at e
  refine Rc2.at (q:=k == k') ⟨RcAt.str_str _ _ _ _,RcNeAt.str_str _ _ _ _⟩ ?_
  rw [← hx,← hy,← str_beq]; exact Bool.eq_iff_iff.mpr (by rw [decide_eq_true_iff,beq_iff_eq])
 ·by_cases z:b.isNone=true
  ·have e:some false=some q:=(congrArg (fun w=>cond w (some false) _) z).symm.trans e
   have hb:b = .none:=by cases b <;> first | rfl | exact nomatch z
   exact ((rb.at hb).onNone (P:=fun ub=>Rc2 A s ua ub false) (ra.onList (P:=fun ua=>Rc2 A s ua .none false) fun a o its n h1 h2 h3 h4=>⟨RcAt.list_none ⟨_,h1.1,h2,_,h3⟩ (by lia),RcNeAt.list_none ⟨_,h1.1,h2,_,h3⟩ (by lia)⟩)).at (Option.some.inj e)
  ·have e:b.toL.bind (eqL xs)=some q:=(congrArg (fun w=>cond w (some false) (b.toL.bind (eqL xs))) (eq_false_of_ne_true z)).symm.trans e
   exact bindI e fun ys e1 e=>eqL_rc hA ra (rb.at (V.toL_ok e1)) e
end
end
section
noncomputable def coOf:CO→CmpOp
 | .eq=>.Eq
 | .ne=>.NotEq
 | .lt=>.Lt
 | .gt=>.Gt
 | .is=>.Is
 | .isnt=>.IsNot
 | .isin=>.In
structure RoomE (A:Around):Prop where
 hh:A.handled=none
 un:A.units+200<cLine
section
variable {c:Cx} {G:Ctx} {RA:Around→Prop} {U:Addr→Prop} {am:List Addr} {σ σ':St} {s:Shared}
theorem isNone_R {u:Value} {a:V} {h:Heap} (R:c.R U am σ h u a):(u == Value.none)=a.isNone:=
 R.casesOn (motive_1:=fun u a _=>(u == Value.none)=a.isNone) rfl rfl rfl (fun _=>rfl) (fun _ _ _ _=>rfl) (fun _ _ _ _=>rfl) (fun _ _ _ _=>rfl) fun _=>rfl
noncomputable def V.flat (v:V):Bool:=v.isInt || v.isTxt
theorem int_of {v:V} {X:Prop} (e:v.isInt=true) (k:∀ i,v = .int i→X):X:=(Option.isSome_iff_exists.mp e).elim fun i e=>k i (V.toInt_ok e)
theorem flat_reads {x:V} {u:Value} {h:Heap} (e:x.flat=true) (R:c.R U am σ h u x):Rd0 h x 0 u:=
 (Bool.or_eq_true_iff.mp e).elim (fun e=>int_of e fun i e=>e.symm▸(R.at e).onInt (P:=Rd0 h (.int i) 0) fun t=>⟨_,.int i t,by simp only [toD,PyData.canLay0],by simp only [toD,PyData.depth]; exact Nat.le_refl _⟩) fun e=>txt_reads R e
theorem eqv_flat [DecidableEq V] {a x:V} (h:a.isInt=true∧x.isInt=true∨a.isTxt=true∧x.isTxt=true):PyData.eqv (toD x) (toD a)=decide (a=x):=
 h.elim (fun h=>int_of h.1 fun i e1=>int_of h.2 fun j e2=>by
   rw [e1,e2]; refine (?_:(j == i)=_); exact Bool.eq_iff_iff.mpr (beq_iff_eq.trans (eq_comm.trans ⟨fun h=>decide_eq_true (congrArg V.int h),fun h=>V.int.inj (of_decide_eq_true h)⟩)))
  fun h=>anyI h.1 fun i e1 _=>anyI h.2 fun j e2 _=>by
   rw [V.toTxt_ok e1,V.toTxt_ok e2]; refine (?_:(toStr j == toStr i)=_); exact Bool.eq_iff_iff.mpr (beq_iff_eq.trans (eq_comm.trans (⟨fun h=>decide_eq_true (congrArg V.str (toStr_inj h)),fun h=>congrArg toStr (V.str.inj (of_decide_eq_true h))⟩)))
theorem both_all {p:V→Bool} {b:Bool} {x:V} {xs:List V} (h:b=true∧(x :: xs).all p=true):(b=true∧p x=true)∧(b=true∧xs.all p=true):=
 have z:=Bool.and_eq_true_iff.mp h.2
 ⟨⟨h.1,z.1⟩,⟨h.1,z.2⟩⟩
theorem mem_dec [DecidableEq V] {a x:V} {xs:List V}:(decide (a=x) || decide (a ∈ xs))=decide (a ∈ x :: xs):=Bool.eq_iff_iff.mpr (Bool.or_eq_true_iff.trans (by rw [decide_eq_true_iff,decide_eq_true_iff,decide_eq_true_iff]; exact List.mem_cons.symm))
theorem toDs_contains [DecidableEq V] (a:V) (xs:List V):(a.isInt=true∧xs.all V.isInt=true)∨(a.isTxt=true∧xs.all V.isTxt=true)→((toDs xs).any fun y=>PyData.eqv y (toD a))=decide (a ∈ xs):=
 xs.rec (fun _=>(decide_eq_false List.not_mem_nil).symm) fun x xs ih h=>
  (congr (congrArg or (eqv_flat (h.imp (fun h=>(both_all h).1) fun h=>(both_all h).1))) (ih (h.imp (fun h=>(both_all h).2) fun h=>(both_all h).2))).trans mem_dec
theorem all_flat {a:V} {xs:List V} (h:(a.isInt && xs.all V.isInt || a.isTxt && xs.all V.isTxt)=true):a.flat=true∧xs.all V.flat=true∧((a.isInt=true∧xs.all V.isInt=true)∨(a.isTxt=true∧xs.all V.isTxt=true)):=by
 have h:=(Bool.or_eq_true_iff.mp h).imp Bool.and_eq_true_iff.mp Bool.and_eq_true_iff.mp
 exact ⟨Bool.or_eq_true_iff.mpr (h.imp (·.1) (·.1)),List.all_eq_true.mpr fun x hx=>Bool.or_eq_true_iff.mpr (h.imp (fun h=>List.all_eq_true.mp h.2 x hx) fun h=>List.all_eq_true.mp h.2 x hx),h⟩
theorem castQ {β:Type} {Q:β→Shared→Prop} {a b:β} (h:Q b s) (e:a=b):Q a s:=e▸h
theorem none_of {b:V} {q r:Bool} {X:Prop} (e:cond b.isNone (some q) none=some r) (k:b = .none→q=r→X):X:=by
 revert e
 exact b.casesOn (motive_1:=fun w=>b=w→cond w.isNone (some q) none=some r→X) (fun h e=>k h (Option.some.inj e)) (fun _ _=>noS) (fun _ _=>noS) (fun _ _=>noS) (fun _ _=>noS) (fun _ _=>noS) (fun _ _ _=>noS) (fun _ _=>noS) rfl
theorem cmp_ok {A:Around} {o:CO} {ua ub:Value} {a b:V} {q:Bool} {Q:Value→Shared→Prop} (rA:RoomE A) (I:c.I U am σ s.heap) (ra:c.R U am σ s.heap ua a) (rb:c.R U am σ s.heap ub b) (e:cmpop o a b σ=some q)
  (h:Q (.bool q) s):wpAny c.M A (compareOp (coOf o) ua ub) Q NoE s:=by
 have hu:A.units+64<cLine:=Nat.lt_of_le_of_lt (Nat.add_le_add_left (Nat.le_of_ble_eq_true rfl) _) rA.un
 revert e
 refine o.casesOn (motive:=fun o=>cmpop o a b σ=some q→wpAny c.M A (compareOp (coOf o) ua ub) Q NoE s) (fun e=>(eqv_rc hu ra rb e).1 _ _ _ _ h) (fun e=>mapI e fun p e1 e=>?_) (fun e=>bindI e fun i e1 e=>mapI e fun j e2 e=>?_) (fun e=>bindI e fun i e1 e=>mapI e fun j e2 e=>?_)
  (fun e=>none_of e fun hb e=>?_) (fun e=>none_of e fun hb e=>?_) fun e=>bindI e fun bs e1 e=>ite_some e fun hz e=>?_
 ·exact (eqv_rc hu ra rb e1).2 _ _ _ _ (castQ h (congrArg Value.bool e))
 ·exact toInt_on ra e1 fun t=>toInt_on rb e2 fun t'=>PySem.P.lt_int (castQ h (congrArg Value.bool e))
 ·exact toInt_on ra e1 fun t=>toInt_on rb e2 fun t'=>PySem.P.gt_int (castQ h (congrArg Value.bool e))
 ·exact (rb.at hb).onNone (is_none (castQ h (congrArg Value.bool ((isNone_R ra).trans e))))
 ·exact (rb.at hb).onNone (isNot_none (castQ h (congrArg Value.bool ((congrArg not (isNone_R ra)).trans e))))
 ·have hz:=all_flat hz
  exact (rb.at (V.toTup_ok e1)).onTup fun l o its n h1 h2 h3 h4=>e1_3 (flat_reads hz.1 ra) fun as a1 a2 a3=>e1_3 (rows_read (fun _ _=>flat_reads) h4 hz.2.1) fun cs b1 b2 b3=>
   in_tuple_reads (.tuple h1.1 h2 h3 b1) a1 b2 a2 (by rw [Nat.le_zero.mp a3,Nat.le_zero.mp b3]; lia) (castQ h (congrArg Value.bool ((haveI:DecidableEq V:=V.decEq; toDs_contains a bs hz.2.2).trans (Option.some.inj e))))
theorem empty_R {its:Array Value} {xs:List V} (h:its.toList.length=xs.length):(!its.isEmpty)=(!xs.isEmpty):=
 congrArg not (Bool.eq_iff_iff.mpr (Array.isEmpty_iff_size_eq_zero.trans (by rw [List.isEmpty_iff_length_eq_zero,← h,Array.length_toList])))
theorem truth_ok {A:Around} {u:Value} {a:V} {q:Bool} {Q:Bool→Shared→Prop} (I:c.I U am σ s.heap) (R:c.R U am σ s.heap u a) (e:truth a σ=some q) (h:∀ tk,s.toks≤tk→Q q { s with toks:=tk }):wpAny c.M A (truthy u) Q NoE s:=by
 have lst:truthL a σ=some q→wpAny c.M A (truthy u) Q NoE s:=fun e=>bindI e fun xs hx e=>ite_some e fun hz e=>e2_3 (items_R I R hx) fun l its hu h1 h2=>by
  rw [hu]
  refine wpAny_truthy_list h1 (by have:=h2.length; rw [Array.length_toList] at this; rw [this]; lia) ?_
  rw [empty_R h2.length,Option.some.inj e]
  exact h _ (by lia)
 have h0:=h _ (Nat.le_refl _)
 revert R e lst
 refine a.casesOn (motive_1:=fun a=>c.R U am σ s.heap u a→truth a σ=some q→(truthL a σ=some q→wpAny c.M A (truthy u) Q NoE s)→wpAny c.M A (truthy u) Q NoE s) (fun R e _=>VR.onNone R (truthy_none (Option.some.inj e▸h0))) (fun b R e _=>VR.onBool R (wpAny_truthy_bool (Option.some.inj e▸h0))) (fun i R e _=>VR.onInt R fun t=>PySem.P.truthy_int (Option.some.inj e▸h0))
  (fun _ _=>noS) (fun _ _ e l=>l e) (fun _ _=>noS) (fun _ _ _=>noS) fun _ _ e l=>l e
theorem SE.cmp {l r:Expr} {o:CO} {pos:Pos} {fl fr:Loc→St→Option (V×St)} (hA:∀ A,RA A→RoomE A) (hl:SE c G RA l fl) (hr:SE c G RA r fr) (hm:behindInMarks (coOf o) r=false) :
  SE c G RA (.Compare l [coOf o] [r] pos) fun ρ σ=>(fl ρ σ).bind fun (va,σ₁)=>(fr ρ σ₁).bind fun (vb,σ₂)=>(cmpop o va vb σ₂).map fun v=>(.bool v,σ₂):=
 fun U A env ρ am σ v σ' s Q rA ht I F e P=>bindP e fun va σ₁ e1 e=>bindP e fun vb σ₂ e2 e=>mapI e fun q e3 e=>
 wpAny_Compare1 (hl U A env ρ am σ va σ₁ s _ rA ht I F e1 fun am₁ h₁ tk₁ ua y₁ I₁ R₁ t₁=>hr U A env ρ am₁ σ₁ vb _ _ _ rA (Nat.lt_of_lt_of_le ht t₁) I₁ (F.step y₁ fun _ p=>p) e2 fun am₂ h₂ tk₂ ub y₂ I₂ R₂ t₂=>
  cmp_ok (hA A rA) I₂ (R₁.step y₂) R₂ e3 (PostE.here (((P.atp e).after y₁ t₁).after y₂ t₂) I₂ .bool (Nat.le_refl _))) hm
theorem STt.cmp {l r:Expr} {o:CO} {pos:Pos} {fl fr:Loc→St→Option (V×St)} (hA:∀ A,RA A→RoomE A) (hl:SE c G RA l fl) (hr:SE c G RA r fr) (hm:behindInMarks (coOf o) r=false) :
  STt c G RA (.Compare l [coOf o] [r] pos) fun ρ σ=>(fl ρ σ).bind fun (va,σ₁)=>(fr ρ σ₁).bind fun (vb,σ₂)=>(cmpop o va vb σ₂).map fun v=>(v,σ₂):=
 fun U A env ρ am σ v σ' s Q rA ht I F e P=>bindP e fun va σ₁ e1 e=>bindP e fun vb σ₂ e2 e=>mapI e fun q e3 e=>
 wpAny_isTrue_Compare1 (hl U A env ρ am σ va σ₁ s _ rA ht I F e1 fun am₁ h₁ tk₁ ua y₁ I₁ R₁ t₁=>hr U A env ρ am₁ σ₁ vb _ _ _ rA (Nat.lt_of_lt_of_le ht t₁) I₁ (F.step y₁ fun _ p=>p) e2 fun am₂ h₂ tk₂ ub y₂ I₂ R₂ t₂=>
  cmp_ok (hA A rA) I₂ (R₁.step y₂) R₂ e3 (wpAny_truthy_bool (P.atp e am₂ h₂ tk₂ (y₁.trans y₂) I₂ (Nat.le_trans t₁ t₂)))) hm
noncomputable def valueTest (e:Expr):Bool:=![0,3,5,15].contains e.ctorIdx
theorem value_test {env:Env} {whole:Sem Value} {e:Expr}:valueTest e=true→isTrue e env whole=(do let v ← whole; standAt e.pos; holding [v] (truthy v)):=by
 cases e <;> first | exact noF | exact fun _=>rfl
theorem STt.value {e:Expr} {f:Loc→St→Option (V×St)} (hv:valueTest e=true) (h:SE c G RA e f):STt c G RA e fun ρ σ=>(f ρ σ).bind fun (v,σ₁)=>(truth v σ₁).map fun q=>(q,σ₁):=
 fun U A env ρ am σ v σ' s Q rA ht I F e' P=>bindP e' fun va σ₁ e1 e'=>mapI e' fun q e3 e'=>
 wpAny_isTrue_value (h U A env ρ am σ va _ s _ rA ht I F e1 fun am₁ h₁ tk₁ ua y₁ I₁ R₁ t₁=>truth_ok (s:={ s with heap:=h₁,toks:=tk₁ }) I₁ R₁ e3 fun tk h=>P.atp e' am₁ h₁ tk y₁ I₁ (Nat.le_trans t₁ h)) (value_test hv)
theorem STt.not {x:Expr} {pos:Pos} {f:Loc→St→Option (Bool×St)} (h:STt c G RA x f):STt c G RA (.UnaryOp .Not x pos) fun ρ σ=>(f ρ σ).map fun (q,σ₁)=>(!q,σ₁):=
 fun U A env ρ am σ v σ' s Q rA ht I F e P=>mapP e fun q σ₁ e1 e=>wpAny_isTrue_Not (h U A env ρ am σ q _ s _ rA ht I F e1 (P.atp e))
noncomputable def SAll (c:Cx) (G:Ctx) (RA:Around→Prop) (op:BoolOp) (es:List Expr) (f:Loc→St→Option (Bool×St)):Prop:=
 ∀ U A env ρ am σ v σ' (s:Shared) Q,RA A→0<s.toks→c.I U am σ s.heap→FR c G U env ρ am σ s.heap→f ρ σ=some (v,σ')→PostB c U am s σ σ' v Q→wpAny c.M A (allTrue op es env) Q NoE s
theorem PostB.now {q:Bool} {Q:Bool→Shared→Prop} (P:PostB c U am s σ σ q Q) (I:c.I U am σ s.heap):Q q s:=P am s.heap s.toks Stp.refl I (Nat.le_refl _)
theorem SAll.and_nil:SAll c G RA .And [] fun _ σ=>some (true,σ):=fun U A env ρ am σ v σ' s Q rA ht I F e P=>wpAny_allTrue_And_nil ((P.ats e).now I)
theorem SAll.or_nil:SAll c G RA .Or [] fun _ σ=>some (false,σ):=fun U A env ρ am σ v σ' s Q rA ht I F e P=>wpAny_allTrue_Or_nil ((P.ats e).now I)
theorem SAll.and_cons {x:Expr} {xs:List Expr} {f g:Loc→St→Option (Bool×St)} (h:STt c G RA x f) (hs:SAll c G RA .And xs g) :
  SAll c G RA .And (x :: xs) fun ρ σ=>(f ρ σ).bind fun (q,σ₁)=>if q then g ρ σ₁ else some (false,σ₁):=
 fun U A env ρ am σ v σ' s Q rA ht I F e P=>bindP e fun q σ₁ e1 e=>wpAny_allTrue_And_cons (h U A env ρ am σ q σ₁ s _ rA ht I F e1 fun am₁ h₁ tk₁ y₁ I₁ t₁=>by
  cases q with
  | true=>exact hs U A env ρ am₁ σ₁ v σ' { s with heap:=h₁,toks:=tk₁ } Q rA (Nat.lt_of_lt_of_le ht t₁) I₁ (F.step y₁ fun _ p=>p) e (P.after y₁ t₁)
  | false=>exact P.ats e am₁ h₁ tk₁ y₁ I₁ t₁)
theorem SAll.or_cons {x:Expr} {xs:List Expr} {f g:Loc→St→Option (Bool×St)} (h:STt c G RA x f) (hs:SAll c G RA .Or xs g) :
  SAll c G RA .Or (x :: xs) fun ρ σ=>(f ρ σ).bind fun (q,σ₁)=>if q then some (true,σ₁) else g ρ σ₁:=
 fun U A env ρ am σ v σ' s Q rA ht I F e P=>bindP e fun q σ₁ e1 e=>wpAny_allTrue_Or_cons (h U A env ρ am σ q σ₁ s _ rA ht I F e1 fun am₁ h₁ tk₁ y₁ I₁ t₁=>by
  cases q with
  | false=>exact hs U A env ρ am₁ σ₁ v σ' { s with heap:=h₁,toks:=tk₁ } Q rA (Nat.lt_of_lt_of_le ht t₁) I₁ (F.step y₁ fun _ p=>p) e (P.after y₁ t₁)
  | true=>exact P.ats e am₁ h₁ tk₁ y₁ I₁ t₁)
theorem STt.all {op:BoolOp} {xs:List Expr} {pos:Pos} {f:Loc→St→Option (Bool×St)} (h:SAll c G RA op xs f):STt c G RA (.BoolOp op xs pos) f:=
 fun U A env ρ am σ v σ' s Q rA ht I F e P=>wpAny_isTrue_BoolOp (h U A env ρ am σ v σ' s Q rA ht I F e P)
theorem SE.ite {t a b:Expr} {pos:Pos} {ft:Loc→St→Option (Bool×St)} {fa fb:Loc→St→Option (V×St)} (h:STt c G RA t ft) (ha:SE c G RA a fa) (hb:SE c G RA b fb) :
  SE c G RA (.IfExp t a b pos) fun ρ σ=>(ft ρ σ).bind fun (q,σ₁)=>if q then fa ρ σ₁ else fb ρ σ₁:=
 fun U A env ρ am σ v σ' s Q rA ht I F e P=>bindP e fun q σ₁ e1 e=>wpAny_IfExp (h U A env ρ am σ q σ₁ s _ rA ht I F e1 fun am₁ h₁ tk₁ y₁ I₁ t₁=>by
  cases q with
  | true=>exact ha U A env ρ am₁ σ₁ v σ' { s with heap:=h₁,toks:=tk₁ } Q rA (Nat.lt_of_lt_of_le ht t₁) I₁ (F.step y₁ fun _ p=>p) e (P.after y₁ t₁)
  | false=>exact hb U A env ρ am₁ σ₁ v σ' { s with heap:=h₁,toks:=tk₁ } Q rA (Nat.lt_of_lt_of_le ht t₁) I₁ (F.step y₁ fun _ p=>p) e (P.after y₁ t₁))
theorem SEs.nil:SEs c G RA [] fun _ σ=>some ([],σ):=fun U A env ρ am σ v σ' s pos Q rA ht I F e P=>wpAny_items_nil (P.ats e am s.heap s.toks [] Stp.refl I .nil (Nat.le_refl _))
noncomputable def notStar (e:Expr):Bool:=!(e.ctorIdx == 22)
theorem star_of {env:Env} {rest:List Expr} {e:Expr}:notStar e=true→starEach (e :: rest) env=(false,eval e env) :: starEach rest env:=by
 cases e <;> first | exact noF | exact fun _=>rfl
theorem SEs.cons {x:Expr} {xs:List Expr} {f:Loc→St→Option (V×St)} {g:Loc→St→Option (List V×St)} (hx:notStar x=true) (h:SE c G RA x f) (hs:SEs c G RA xs g) :
  SEs c G RA (x :: xs) fun ρ σ=>(f ρ σ).bind fun (v,σ₁)=>(g ρ σ₁).map fun (vs,σ₂)=>(v :: vs,σ₂):=
 fun U A env ρ am σ v σ' s pos Q rA ht I F e P=>bindP e fun w σ₁ e1 e=>mapP e fun ws σ₂ e2 e=>
 wpAny_items_cons (h U A env ρ am σ w σ₁ s _ rA ht I F e1 fun am₁ h₁ tk₁ u y₁ I₁ R₁ t₁=>hs U A env ρ am₁ σ₁ ws _ _ pos _ rA (Nat.lt_of_lt_of_le ht t₁) I₁ (F.step y₁ fun _ p=>p) e2 fun am₂ h₂ tk₂ us y₂ I₂ R₂ t₂=>
  P.atp e am₂ h₂ tk₂ (u :: us) (y₁.trans y₂) I₂ (.cons (R₁.step y₂) R₂) (Nat.le_trans t₁ t₂)) (star_of hx)
end
end
section
section
variable {prog:Program} {w:World} {Z:Stat} {hb:Heap} {U:Addr→Prop} {am am₂:List Addr} {σ σ₂ σ':St} {h h':Heap}
theorem ext_at (hl:am.length=σ.length) {n:Nat} {O:Cel} {a:Addr} (h1:(σ++σ₂)[n]?=some O) (h3:(am++am₂)[n]?=some a):(σ[n]?=some O∧am[n]?=some a)∨∃ i,n=σ.length+i∧σ₂[i]?=some O∧am₂[i]?=some a:=
 if q:n<σ.length then .inl ⟨(List.getElem?_append_left q).symm.trans h1,(List.getElem?_append_left (hl.symm▸q)).symm.trans h3⟩
 else .inr ⟨n - σ.length,(Nat.add_sub_cancel' (Nat.le_of_not_lt q)).symm,(List.getElem?_append_right (Nat.le_of_not_lt q)).symm.trans h1,hl▸(List.getElem?_append_right (hl.symm▸Nat.le_of_not_lt q)).symm.trans h3⟩
theorem noH {x:Option Obj} {o:Obj} {X:Prop} (e:x=some o) (e':x=none):X:=noS (e'.symm.trans e)
theorem Inv.extend (I:Inv prog w Z hb U am σ h) (k:∀ b o,h.get? b=some o→h'.get? b=some o) (hlen:am₂.length=σ₂.length)
  (hlive:(∀ a o,Fz U am σ h a o→Fz U (am++am₂) (σ++σ₂) h' a o)→∀ (i:Nat) (O:Cel) a,σ₂[i]?=some O→am₂[i]?=some a→∃ o,h'.get? a=some o∧OR prog w Z (Fz U (am++am₂) (σ++σ₂) h') (am++am₂) (σ.length+i) o O)
  (hnew:∀ (i:Nat) (O:Cel) a,σ₂[i]?=some O→am₂[i]?=some a→O.isLive=true∧h.get? a=none)
  (hinj:∀ (i j:Nat) a,am₂[i]?=some a→am₂[j]?=some a→i=j):Inv prog w Z hb U (am++am₂) (σ++σ₂) h'∧Stp U U am σ h (am++am₂) (σ++σ₂) h':=
 have hX:∀ a o,h.get? a=some o→X U (am++am₂) (σ++σ₂) a→X U am σ a:=fun a o e x=>x.elim .inl fun x=>e2_3 x fun n O h1 h2 h3=>
  (ext_at I.len h1 h3).elim (fun g=>.inr ⟨n,O,g.1,h2,g.2⟩) fun g=>e1_3 g fun i _ g1 g3=>noH e (hnew i O a g1 g3).2
 have hF:∀ a o,Fz U am σ h a o→Fz U (am++am₂) (σ++σ₂) h' a o:=fun a o e=>⟨k a o e.1,fun x=>e.2 (hX a o e.1 x)⟩
 have hl:∀ {n:Nat} {O:Cel} {a:Addr},σ[n]?=some O→O.isLive=true→am[n]?=some a→h.get? a=none→False:=fun h1 h2 h3 z=>e1_2 (I.live _ _ _ h1 h2 h3).1 fun o ho _=>noH ho z
 ⟨⟨fun b o e=>k b o (I.base b o e),by rw [List.length_append,List.length_append,I.len,hlen],
  fun n O a h1 h2 h3=>(ext_at I.len h1 h3).elim (fun g=>(I.live n O a g.1 h2 g.2).imp (fun z=>e1_2 z fun o ho hr=>⟨o,k a o ho,hr.mono prog w hF ⟨am₂,rfl⟩⟩) id)
   fun g=>e1_3 g fun i e g1 g3=>have z:=hnew i O a g1 g3; ⟨e▸hlive hF i O a g1 g3,fun u=>(I.out a u).2.elim fun o e=>noH e z.2,I.nob z.2⟩,
  fun i j O O' a h1 h2 h3 h4 h5 h6=>(ext_at I.len h1 h5).elim
   (fun g=>(ext_at I.len h3 h6).elim (fun g'=>I.inj i j O O' a g.1 h2 g'.1 h4 g.2 g'.2) fun g'=>e1_3 g' fun j e g1 g3=>(hl g.1 h2 g.2 (hnew j O' a g1 g3).2).elim)
   fun g=>e1_3 g fun i' e g1 g3=>(ext_at I.len h3 h6).elim (fun g'=>(hl g'.1 h4 g'.2 (hnew i' O a g1 g3).2).elim) fun g'=>e1_3 g' fun j' e' g1' g3'=>e.trans ((congrArg (σ.length + ·) (hinj i' j' a g3 g3')).trans e'.symm),
  fun n xs a h1 h2=>(ext_at I.len h1 h2).elim (fun g=>(I.fl n xs a g.1 g.2).mono hF ⟨am₂,rfl⟩) fun g=>e1_3 g fun i _ g1 g3=>noF (hnew i _ a g1 g3).1,
  fun a u=>⟨(I.out a u).1,(I.out a u).2.elim fun o e=>⟨o,k a o e⟩⟩⟩,
  ⟨⟨am₂,rfl⟩,fun a o _ e=>k a o e,hF⟩⟩
theorem Inv.dim (I:Inv prog w Z hb U am σ h) (hlen:σ'.length=σ.length) (hl:∀ (m:Nat) (O:Cel),σ'[m]?=some O→O.isLive=true→σ[m]?=some O)
  (hfl:(∀ a o,Fz U am σ h a o→Fz U am σ' h a o)→∀ (m:Nat) xs a,σ'[m]?=some (.flist xs)→am[m]?=some a→VR Z (Fz U am σ' h) am (.ref a) (.list xs)):Inv prog w Z hb U am σ' h∧Stp U U am σ h am σ' h:=
 have hX:∀ a,X U am σ' a→X U am σ a:=fun a x=>x.imp id fun x=>e2_3 x fun n O h1 h2 h3=>⟨n,O,hl n O h1 h2,h2,h3⟩
 have hF:∀ a o,Fz U am σ h a o→Fz U am σ' h a o:=fun a o e=>⟨e.1,fun x=>e.2 (hX a x)⟩
 ⟨⟨I.base,I.len.trans hlen.symm,fun n O a h1 h2 h3=>(I.live n O a (hl n O h1 h2) h2 h3).imp (fun z=>e1_2 z fun o ho hr=>⟨o,ho,hr.mono prog w hF List.prefix_rfl⟩) id,
  fun i j O O' a h1 h2 h3 h4 h5 h6=>I.inj i j O O' a (hl i O h1 h2) h2 (hl j O' h3 h4) h4 h5 h6,hfl hF,I.out⟩,⟨List.prefix_rfl,fun _ _ _ e=>e,hF⟩⟩
theorem set_at {n m:Nat} {O O':Cel} (h:(σ.set n O)[m]?=some O'):(m=n∧O'=O)∨(m≠n∧σ[m]?=some O'):=
 if q:n=m then .inl ⟨q.symm,by
  subst q
  rw [List.getElem?_set,if_pos rfl] at h
  exact ite_some h fun _ e=>(Option.some.inj e).symm⟩
 else .inr ⟨fun z=>q z.symm,(List.getElem?_set_ne q).symm.trans h⟩
theorem Inv.free (I:Inv prog w Z hb U am σ h) {D:Nat→Prop} (hd:∀ (m:Nat) (O:Cel),σ'[m]?=some O→O.isLive=true→¬ D m∧σ[m]?=some O) {n:Nat} {O:Cel} {a:Addr} {o:Obj} (hn:σ[n]?=some O) (hl:O.isLive=true) (ha:am[n]?=some a) (hD:D n) (ho:h.get? a=some o):Fz U am σ' h a o:=
 ⟨ho,fun x=>x.elim (I.live n O a hn hl ha).2.1 fun x=>e2_3 x fun m O' h1 h2 h3=>have q:=hd m O' h1 h2; q.1 (I.inj n m O O' a hn hl q.2 h2 ha h3▸hD)⟩
theorem Inv.freezeList (I:Inv prog w Z hb U am σ h) {n:Nat} {xs:List V} {a:Addr} (hn:σ[n]?=some (.list xs)) (ha:am[n]?=some a) :
  Inv prog w Z hb U am (σ.set n (.flist xs)) h∧Stp U U am σ h am (σ.set n (.flist xs)) h∧VR Z (Fz U am (σ.set n (.flist xs)) h) am (.ref a) (.list xs):=by
 have hd:∀ (m:Nat) (O:Cel),(σ.set n (.flist xs))[m]?=some O→O.isLive=true→¬ m=n∧σ[m]?=some O:=fun m O h1 h2=>(set_at h1).elim (fun q=>noF ((congrArg Cel.isLive q.2).symm.trans h2)) id
 have R:(∀ a o,Fz U am σ h a o→Fz U am (σ.set n (.flist xs)) h a o)→VR Z (Fz U am (σ.set n (.flist xs)) h) am (.ref a) (.list xs):=fun hF=>e1_2 (I.live n _ a hn rfl ha).1 fun o ho hr=>e2_2 hr fun its e eo hr=>
  .list (I.free (D:=(·=n)) hd hn rfl ha rfl (eo▸ho)) rfl rfl (hr.mono hF List.prefix_rfl)
 have q:=I.dim (σ':=σ.set n (.flist xs)) List.length_set (fun m O h1 h2=>(hd m O h1 h2).2) fun hF m ys b h1 h2=>(set_at h1).elim
  (fun q=>(congrArg (fun z=>VR Z (Fz U am (σ.set n (.flist xs)) h) am (.ref z) (.list ys)) (Option.some.inj (ha.symm.trans (q.1▸h2)))).mp ((R hF).at (congrArg V.list (Cel.flist.inj q.2).symm))) fun q=>(I.fl m ys b q.2 h2).mono hF List.prefix_rfl
 exact ⟨q.1,q.2,R q.2.keepF⟩
theorem Inv.freezeObj (I:Inv prog w Z hb U am σ h) {n c:Nat} {kv:List (Nat×V)} {a:Addr} (hn:σ[n]?=some (.inst c)) (hn':σ[n+1]?=some (.attrs kv)) (ha:am[n]?=some a) :
  Inv prog w Z hb U am ((σ.set n .gone).set (n+1) .gone) h∧Stp U U am σ h am ((σ.set n .gone).set (n+1) .gone) h∧VR Z (Fz U am ((σ.set n .gone).set (n+1) .gone) h) am (.ref a) (.obj c kv):=by
 have hd:∀ (m:Nat) (O:Cel),((σ.set n .gone).set (n+1) .gone)[m]?=some O→(O = .gone)∨(¬ (m=n∨m=n+1)∧σ[m]?=some O):=fun m O h1=>(set_at h1).elim (fun q=>.inl q.2) fun q=>(set_at q.2).imp (·.2) fun q'=>⟨fun z=>z.elim q'.1 q.1,q'.2⟩
 have hl:∀ (m:Nat) (O:Cel),((σ.set n .gone).set (n+1) .gone)[m]?=some O→O.isLive=true→¬ (m=n∨m=n+1)∧σ[m]?=some O:=fun m O h1 h2=>(hd m O h1).elim (fun q=>noF ((congrArg Cel.isLive q).symm.trans h2)) id
 have q:=I.dim (σ':=(σ.set n .gone).set (n+1) .gone) (List.length_set.trans List.length_set) (fun m O h1 h2=>(hl m O h1 h2).2) fun hF m ys b h1 h2=>(hd m _ h1).elim (fun q=>nomatch q) fun q=>(I.fl m ys b q.2 h2).mono hF List.prefix_rfl
 refine ⟨q.1,q.2,?_⟩
 refine e1_2 (I.live n _ a hn rfl ha).1 fun o ho hr=>e2_3 hr fun C dx hC hdx eo=>e1_2 (I.live (n+1) _ dx hn' rfl hdx).1 fun o' ho' hr'=>e2_3 hr' fun es e' eo' _ hr'=>?_
 exact .obj hC (I.free (D:=fun m=>m=n∨m=n+1) hl hn rfl ha (.inl rfl) (eo▸ho)) (I.free (D:=fun m=>m=n∨m=n+1) hl hn' rfl hdx (.inr rfl) (eo'▸ho')) (hr'.mono q.2.keepF List.prefix_rfl)
end
end
section
section
variable {c:Cx} {G:Ctx} {RA:Around→Prop} {U:Addr→Prop} {am:List Addr} {σ σ':St} {s:Shared}
theorem Nat.le_line {n:Nat} (h:n<1000000):n≤sizeLine:=by rw [sizeLine_eq]; exact Nat.le_of_lt (Nat.lt_of_lt_of_le h (Nat.le_of_ble_eq_true rfl))
theorem Nat.le_line3 {n:Nat} (h:n<1000):n≤sizeLine:=Nat.le_line (Nat.lt_of_lt_of_le h (Nat.le_of_ble_eq_true rfl))
theorem one_at {α:Type} {x y:α} {i:Nat} (h:[x][i]?=some y):i=0∧y=x:=by
 cases i with
 | zero=>exact ⟨rfl,(Option.some.inj h).symm⟩
 | succ i=>exact noS h
theorem pushed {h:Heap} {ob:Obj} (b:Addr) (o:Obj) (e:h.get? b=some o):(h.push ob).get? b=some o:=Heap.get?_push_of_some _ e
theorem PostE.newList {m:Bool} {vs:List V} {us:List Value} {Q:Value→Shared→Prop} {v:V} (e:Mini.newList m vs σ=(v,σ')) (P:PostE c U am s σ σ' v Q) (I:c.I U am σ s.heap) (R:c.Rs U am σ s.heap us vs) :
  Q (.ref s.heap.objs.size) { s with heap:=s.heap.push { cls:=.type "list",data:=.seq us.toArray } }:=by
 cases m with
 | false=>exact (P.atp e).kept I pushed (.list (I.fresh rfl) rfl rfl (R.step (P:=U) (I.push _).2)) (Nat.le_refl _)
 | true=>
  have q:=I.extend (am₂:=[s.heap.objs.size]) (σ₂:=[Cel.list vs]) (h':=s.heap.push { cls:=.type "list",data:=.seq us.toArray }) pushed rfl
   (fun hF i O a h1 h2=>(one_at h1).2.symm▸(one_at h2).2.symm▸⟨_,Heap.get?_push_size _ rfl,us.toArray,0,rfl,R.mono hF ⟨_,rfl⟩⟩)
   (fun i O a h1 h2=>(one_at h1).2.symm▸(one_at h2).2.symm▸⟨rfl,get_size _⟩) fun i j a h1 h2=>(one_at h1).1.trans (one_at h2).1.symm
  exact (P.atp e) (am++[s.heap.objs.size]) _ s.toks _ q.2 q.1 (.loc (I.len▸List.getElem?_concat_length)) (Nat.le_refl _)
theorem SE.list {m:Bool} {es:List Expr} {pos:Pos} {f:Loc→St→Option (List V×St)} (h:SEs c G RA es f) :
  SE c G RA (.List es pos) fun ρ σ=>(f ρ σ).bind fun (vs,σ₁)=>if vs.length<1000 then some (newList m vs σ₁) else Option.none:=
 fun U A env ρ am σ v σ' s Q rA ht I F e P=>bindP e fun vs σ₁ e1 e=>ite_some e fun hz e=>
 wpAny_List (h U A env ρ am σ vs σ₁ s pos _ rA ht I F e1 fun am₁ h₁ tk₁ us y₁ I₁ R₁ t₁=>⟨R₁.length▸Nat.le_line3 hz,PostE.newList (Option.some.inj e) (P.after y₁ t₁) I₁ R₁⟩)
theorem SE.tup {es:List Expr} {k:Nat} {pos:Pos} {f:Loc→St→Option (List V×St)} (h:SEs c G RA es f) :
  SE c G RA (.Tuple es k pos) fun ρ σ=>(f ρ σ).bind fun (vs,σ₁)=>if vs.length<1000 then some (.tup vs,σ₁) else Option.none:=
 fun U A env ρ am σ v σ' s Q rA ht I F e P=>bindP e fun vs σ₁ e1 e=>ite_some e fun hz e=>
 wpAny_Tuple (h U A env ρ am σ vs _ s pos _ rA ht I F e1 fun am₁ h₁ tk₁ us y₁ I₁ R₁ t₁=>⟨R₁.length▸Nat.le_line3 hz,
  ((P.ats e).after y₁ t₁).kept (s:={ s with heap:=h₁,toks:=tk₁ }) I₁ pushed (.tup (I₁.fresh rfl) rfl rfl (R₁.step (P:=U) (I₁.push _).2)) (Nat.le_refl _)⟩)
theorem freeze_cases {w v:V} {σ σ':St} {X:Prop} (e:freeze w σ=some (v,σ')) (k0:(w,σ)=(v,σ')→X) (k1:∀ n xs,w = .loc n→σ[n]?=some (.list xs)→(V.list xs,σ.set n (.flist xs))=(v,σ')→X)
  (k2:∀ n xs,w = .loc n→σ[n]?=some (.flist xs)→(V.list xs,σ)=(v,σ')→X) (k3:∀ n c kv,w = .loc n→σ[n]?=some (.inst c)→σ[n+1]?=some (.attrs kv)→(V.obj c kv,(σ.set n .gone).set (n+1) .gone)=(v,σ')→X):X:=
 have k0:=fun e=>k0 (Option.some.inj e)
 w.casesOn (motive_1:=fun x=>w=x→(some (w,σ)=some (v,σ')→X)→freeze x σ=some (v,σ')→X) (fun h k e=>k (h▸e)) (fun _ h k e=>k (h▸e)) (fun _ h k e=>k (h▸e)) (fun _ h k e=>k (h▸e)) (fun _ h k e=>k (h▸e)) (fun _ h k e=>k (h▸e)) (fun _ _ h k e=>k (h▸e))
  (fun n h _ e=>Cel.sw_inv e (fun xs hn e=>k1 n xs h hn (Option.some.inj e)) (fun _ _=>noS) (fun c hn e=>mapI e fun kv e1 e=>Cel.sw_inv e1 (fun _ _=>noS) (fun _ _=>noS) (fun _ _=>noS) (fun kv' hn' e1=>k3 n c kv h hn (Option.some.inj e1▸hn') e) fun _ _=>noS)
   (fun _ _=>noS) fun xs hn e=>k2 n xs h hn (Option.some.inj e)) rfl k0 e
theorem SE.frz {e:Expr} {f:Loc→St→Option (V×St)} (h:SE c G RA e f):SE c G RA e fun ρ σ=>(f ρ σ).bind fun (v,σ₁)=>freeze v σ₁:=
 fun U A env ρ am σ v σ' s Q rA ht I F e' P=>bindP e' fun w σ₁ e1 e'=>h U A env ρ am σ w σ₁ s Q rA ht I F e1 fun am₁ h₁ tk₁ u y₁ I₁ R₁ t₁=>
 freeze_cases e' (fun z=>P.atp z am₁ h₁ tk₁ u y₁ I₁ R₁ t₁)
  (fun n xs hw hn z=>(R₁.at hw).onLoc fun a ha=>e0_3 (I₁.freezeList hn ha) fun I₂ y₂ R₂=>P.atp z am₁ h₁ tk₁ _ (y₁.trans y₂) I₂ R₂ t₁)
  (fun n xs hw hn z=>(R₁.at hw).onLoc fun a ha=>P.atp z am₁ h₁ tk₁ _ y₁ I₁ (I₁.fl n xs a hn ha) t₁)
  fun n cl kv hw hn hn' z=>(R₁.at hw).onLoc fun a ha=>e0_3 (I₁.freezeObj hn hn' ha) fun I₂ y₂ R₂=>P.atp z am₁ h₁ tk₁ _ (y₁.trans y₂) I₂ R₂ t₁
theorem place_spec {i:Int} {n j:Nat} (e:place i n=some j):n<1000000∧j<n∧((0≤i∧i=j)∨(i<0∧i+n=j)):=
 ite_none e fun h e=>if q:0≤i then ite_some ((if_pos q).symm.trans e) fun q' e=>⟨Nat.lt_of_not_le h,Option.some.inj e▸(Int.toNat_lt q).mpr q',.inl ⟨q,(Int.toNat_of_nonneg q).symm.trans (congrArg Int.ofNat (Option.some.inj e))⟩⟩
  else ite_some ((if_neg q).symm.trans e) fun q' e=>⟨Nat.lt_of_not_le h,Option.some.inj e▸(Int.toNat_lt q').mpr (by have:=Int.not_le.mp q; lia),.inr ⟨Int.not_le.mp q,(Int.toNat_of_nonneg q').symm.trans (congrArg Int.ofNat (Option.some.inj e))⟩⟩
theorem place_seqIndex {i:Int} {n j:Nat} (e:place i n=some j):seqIndex? i n=some j∧-(2 ^ 63)≤i∧i<2 ^ 63:=by
 refine e0_3 (place_spec e) fun h0 h1 h2=>?_
 refine i0_3 ?_ (by lia) (by lia)
 unfold seqIndex?
 rcases h2 with ⟨h2,rfl⟩ | ⟨h2,h3⟩
 ·have:¬ ((j:Int)<0):=by lia
  simp only [this,if_false]
  have:(decide (0≤(j:Int)) && decide ((j:Int)<n))=true:=by simp; lia
  refine (if_pos this)▸?_; simp
 ·simp only [h2,if_true]
  have:(decide (0≤i+n) && decide (i+n<n))=true:=by simp; lia
  refine (if_pos this)▸?_
  congr 1; lia
theorem getItem_list_ok {A:Around} {l:Addr} {its:Array Value} {xs:List V} {i:Int} {t:Tok} {j:Nat} {v:V} {Q:Value→Shared→Prop} (hl:s.heap.IsList l its) (hr:c.Rs U am σ s.heap its.toList xs) (e:place i xs.length=some j) (ev:xs[j]?=some v)
  (h:∀ u,c.R U am σ s.heap u v→Q u s):wpAny c.M A (getItem (.ref l) (.int i t)) Q NoE s:=by
 refine e0_3 (place_spec e) fun h0 h1 h2=>?_
 refine e1_2 (hr.get ev) fun u hu R=>?_
 have k:=hr.length
 rw [Array.length_toList] at k
 have hu':its[j]?=some u:=Array.getElem?_toList.symm.trans hu
 rcases h2 with ⟨h2,rfl⟩ | ⟨h2,h3⟩
 ·exact wpAny_getItem_list hl h2 (by lia) hu' (h u R)
 ·exact wpAny_getItem_list_neg hl h2 (by lia) (by lia) (by rw [k,h3]; exact hu') (h u R)
noncomputable def plainSub (e:Expr):Bool:=!(e.ctorIdx == 26)
theorem subscripted_plain {e:Expr} (h:plainSub e=true):∀ (o i:Value),subscripted e false o i=operate [o,i] (getItem o i):=by
 revert h
 cases e <;> first | exact fun _ _ _=>rfl | exact noF
theorem DR.dictOf {prog:Program} {w:World} {K:Type} [DecidableEq K] {knd:KeyKind prog w K} {enc:K→V} {Z:Stat} {F:Addr→Obj→Prop} {am:List Addr} {o:Obj} {kv:List (V×V)} {h:Heap} {a:Addr} (d:DR knd enc Z F am o kv) (ho:h.get? a=some o) :
  ∃ kvs,h.DictOf knd a kvs∧kvs.length≤1000∧KV enc Z F am kvs kv:=e0_2 d fun h1 d=>e3_6 d fun es ep kvs h2 h3 h4 h5 h6 h7=>⟨kvs,⟨o,es,ep,ho,h1,h2,h3,h4,h5⟩,h6,h7⟩
theorem KV.get {K:Type} [DecidableEq K] {enc:K→V} (hi:∀ a b,enc a=enc b→a=b) {Z:Stat} {F:Addr→Obj→Prop} {am:List Addr} {xs:List (K×Value)} {kv:List (V×V)} (h:KV enc Z F am xs kv) :
  (∀ x v,dget kv x=some v→∃ k u,x=enc k∧valueAt xs k=some u∧VR Z F am u v)∧∀ k,dget kv (enc k)=none→valueAt xs k=none:=
 h.rec (motive:=fun xs kv _=>(∀ x v,dget kv x=some v→∃ k u,x=enc k∧valueAt xs k=some u∧VR Z F am u v)∧∀ k,dget kv (enc k)=none→valueAt xs k=none) ⟨fun _ _=>noS,fun _ _=>rfl⟩ fun {k u v xs kv} r _ ih=>
  ⟨fun x v' e=>@dite _ (enc k=x) (V.decEq _ _) (fun q=>⟨k,u,q.symm,by simp [valueAt],r.at (Option.some.inj ((if_pos q).symm.trans e))⟩)
   fun q=>e2_3 (ih.1 x v' ((if_neg q).symm.trans e)) fun k' u' h1 h2 h3=>⟨k',u',h1,by
    have:¬ k=k':=fun z=>q (z▸h1.symm)
    rw [← h2]; simp [valueAt,this],h3⟩,
   fun k' e=>if q:k=k' then noN ((if_pos (congrArg enc q)).symm.trans e) else by
    have:=ih.2 k' ((if_neg fun z=>q (hi _ _ z)).symm.trans e)
    rw [← this]; simp [valueAt,q]⟩
theorem encS_inj (a b:Str) (h:encS a=encS b):a=b:=congrArg Str.mk (Array.toList_inj.mp (V.str.inj h))
theorem encI_inj (a b:Int) (h:encI a=encI b):a=b:=V.int.inj h
noncomputable def GetOk (c:Cx) (A:Around) (uo ui:Value) (Q:Value→Shared→Prop) (s:Shared):Prop:=
 ∃ T id,s.TypeIs uo T∧typeLookup (.type T) "__getitem__"=pure (some (.builtin id))∧wpAny c.M A (getItem uo ui) Q NoE s
theorem GetOk.of {A:Around} {uo ui:Value} {Q:Value→Shared→Prop} {T id:String} (h1:s.TypeIs uo T) (h2:typeLookup (.type T) "__getitem__"=pure (some (.builtin id))) (h3:wpAny c.M A (getItem uo ui) Q NoE s):GetOk c A uo ui Q s:=⟨T,id,h1,h2,h3⟩
theorem PostE.now {v:V} {Q:Value→Shared→Prop} (P:PostE c U am s σ σ v Q) (I:c.I U am σ s.heap) (u:Value) (R:c.R U am σ s.heap u v):Q u s:=P am s.heap s.toks u Stp.refl I R (Nat.le_refl _)
section
variable {A:Around} {ui uo:Value} {i v:V} {Q:Value→Shared→Prop} (I:c.I U am σ s.heap) (ri:c.R U am σ s.heap ui i) (P:PostE c U am s σ σ v Q)
include I ri P
theorem get_lst {xs:List V} (L:LsR c U am σ s.heap xs uo) (e:ati xs i=some v):GetOk c A uo ui Q s:=
 e2_3 L fun l its hu h1 h2=>bindI e fun j e1 e=>bindI e fun k e2 e3=>toInt_on (P:=fun ui=>GetOk c A uo ui Q s) ri e1 fun t=>hu▸GetOk.of h1.typeIs slot_list_getitem.lookup (getItem_list_ok h1 h2 e2 e3 (P.now I))
theorem get_tup {xs:List V} (ro:c.R U am σ s.heap uo (.tup xs)) (e:ati xs i=some v):GetOk c A uo ui Q s:=
 ro.onTup (P:=fun uo=>GetOk c A uo ui Q s) fun l o its n h1 h2 h3 h4=>bindI e fun j e1 e=>bindI e fun k e2 e3=>toInt_on (P:=fun ui=>GetOk c A (.ref l) ui Q s) ri e1 fun t=>e0_3 (place_seqIndex e2) fun q1 q2 q3=>e1_2 (h4.get e3) fun u hu R=>
  have ht:IsTup s.heap l its:=⟨_,h1.1,h2,_,h3⟩
  GetOk.of ht.typeIs slot_tuple_getitem.lookup (getItem_tuple ht q2 q3 ((Array.length_toList.symm.trans h4.length).symm▸q1) (Array.getElem?_toList.symm.trans hu) (P.now I u R))
theorem get_str {l:Txt} (ro:c.R U am σ s.heap uo (.str l)) (e:atS l i=some v):GetOk c A uo ui Q s:=
 ro.onStr (P:=fun uo=>GetOk c A uo ui Q s) fun x t' hx=>bindI e fun j e1 e=>bindI e fun k e2 e3=>mapI e3 fun ch e3 e4=>toInt_on (P:=fun ui=>GetOk c A (.str x t') ui Q s) ri e1 fun t=>e0_3 (place_seqIndex e2) fun q1 q2 q3=>
  GetOk.of (typeIs_str s x t') PySem.F.slot_str_getitem.lookup (PySem.P.getItem_str (c:=ch) (by
   rw [show decide (j < -(2 ^ 63:Int))=false from decide_eq_false (Int.not_lt.mpr q2),show decide (j ≥ 2 ^ 63)=false from decide_eq_false (Int.not_le.mpr q3)]; rfl)
   (by subst hx; rw [str_len rfl,q1]; simpa using e3) ((P.at e4).here I (.str rfl) (Nat.le_succ _)))
theorem get_dct {kv:List (V×V)} {n:Nat} (ro:c.R U am σ s.heap uo (.loc n)) (hn:σ[n]?=some (.dict kv)) (e:(i.toTxt.bind fun _=>dget kv i)=some v):GetOk c A uo ui Q s:=
 ro.onLoc (P:=fun uo=>GetOk c A uo ui Q s) fun a ha=>bindI e fun l e1 e=>toTxt_on (P:=fun ui=>GetOk c A (.ref a) ui Q s) ri e1 fun x t hx=>e1_2 (I.live n _ a hn rfl ha).1 fun ob ho hd=>by
  have e:dget kv (encS x)=some v:=(congrArg (dget kv) (((V.toTxt_ok e1).trans (congrArg V.str hx.symm)))).symm.trans e
  exact hd.elim (fun hd=>e1_3 (hd.dictOf ho) fun kvs hm hz hk=>e2_3 ((hk.get encS_inj).1 _ v e) fun k u h1 h2 R=>
    GetOk.of hm.typeIs slot_dict_getitem.lookup (wpAny_getItem_of (strKind_is _ _ _ _) hm.mapOf (encS_inj _ _ h1▸h2) (P.here I R (Nat.le_succ _))))
   fun hd=>e1_3 (hd.dictOf ho) fun kvs hm hz hk=>e2_3 ((hk.get encI_inj).1 _ v e) fun k u h1 h2 R=>nomatch h1
theorem getItem_ok {o:V} (ro:c.R U am σ s.heap uo o) (e:index o i σ=some v):GetOk c A uo ui Q s:=
 V.sw_inv e (fun _ _=>noS) (fun l h e=>get_str I ri P (ro.at h) e) (fun xs h e=>get_lst I ri P (.of (ro.at h)) e) (fun xs h e=>get_tup I ri P (ro.at h) e) fun n h e=>
  Cel.sw_inv e (fun xs hn e=>get_lst I ri P (items_R I (ro.at h) (by exact (congrArg (Option.bind · celL) hn:σ[n]?.bind celL=some xs))) e) (fun kv hn e=>get_dct I ri P (ro.at h) hn e) (fun _ _=>noS) (fun _ _=>noS)
   fun xs hn e=>get_lst I ri P (items_R I (ro.at h) (by exact (congrArg (Option.bind · celL) hn:σ[n]?.bind celL=some xs))) e
theorem index_ok {ve se:Expr} {o:V} (hp:plainSub se=true) (ro:c.R U am σ s.heap uo o) (e:index o i σ=some v):wpAny c.M A (subscriptTail ve se uo ui) Q NoE s:=
 e2_3 (getItem_ok (A:=A) I ri P ro e) fun T id h1 h2 h3=>tail_any h1 h2 h3 (subscripted_plain hp uo ui)
end
end
end
section
section
variable {c:Cx} {G:Ctx} {RA:Around→Prop} {U:Addr→Prop} {am:List Addr} {σ σ':St} {s:Shared}
theorem SE.idx {l r:Expr} {pos:Pos} {fl fr:Loc→St→Option (V×St)} (hl:SE c G RA l fl) (hr:SE c G RA r fr) (hp:plainSub r=true) :
  SE c G RA (.Subscript l r pos) fun ρ σ=>(fl ρ σ).bind fun (va,σ₁)=>(fr ρ σ₁).bind fun (vb,σ₂)=>(index va vb σ₂).map fun v=>(v,σ₂):=
 fun U A env ρ am σ v σ' s Q rA ht I F e P=>bindP e fun va σ₁ e1 e=>bindP e fun vb σ₂ e2 e=>mapI e fun v' e3 e=>
 Subscript_ (hl U A env ρ am σ va σ₁ s _ rA ht I F e1 fun am₁ h₁ tk₁ ua y₁ I₁ R₁ t₁=>hr U A env ρ am₁ σ₁ vb _ _ _ rA (Nat.lt_of_lt_of_le ht t₁) I₁ (F.step y₁ fun _ p=>p) e2 fun am₂ h₂ tk₂ ub y₂ I₂ R₂ t₂=>
  index_ok I₂ R₂ (((P.atp e).after y₁ t₁).after y₂ t₂) hp (R₁.step y₂) e3)
noncomputable def Cx.Ro (c:Cx) (U:Addr→Prop) (am:List Addr) (σ:St) (h:Heap) (u:Value) (o:Option V):Prop:=o.casesOn (u = .none) (c.R U am σ h u)
noncomputable def PostO (c:Cx) (U:Addr→Prop) (am:List Addr) (s:Shared) (σ σ':St) (v:Option V) (Q:Value→Shared→Prop):Prop:=
 ∀ am' h' tk u,Stp U U am σ s.heap am' σ' h'→c.I U am' σ' h'→c.Ro U am' σ' h' u v→s.toks≤tk→Q u { s with heap:=h',toks:=tk }
theorem PostO.atp {v w:Option V} {τ:St} {Q:Value→Shared→Prop} (P:PostO c U am s σ σ' v Q) (e:(w,τ)=(v,σ')):PostO c U am s σ τ w Q:=(Prod.mk.inj e).2▸(Prod.mk.inj e).1▸P
noncomputable def SO (c:Cx) (G:Ctx) (RA:Around→Prop) (e:Option Expr) (f:Loc→St→Option (Option V×St)):Prop:=
 ∀ U A env ρ am σ v σ' (s:Shared) (Q:Value→Shared→Prop),RA A→0<s.toks→c.I U am σ s.heap→FR c G U env ρ am σ s.heap→f ρ σ=some (v,σ')→PostO c U am s σ σ' v Q→wpAny c.M A (evalPart e env) Q NoE s
theorem SO.none:SO c G RA none fun _ σ=>some (none,σ):=
 fun U A env ρ am σ v σ' s Q rA ht I F e P=>by rw [evalPart_none]; exact wpAny_pure (P.atp (Option.some.inj e) am s.heap s.toks .none Stp.refl I rfl (Nat.le_refl _))
theorem SO.some {e:Expr} {f:Loc→St→Option (V×St)} (h:SE c G RA e f):SO c G RA (some e) fun ρ σ=>(f ρ σ).map fun (v,σ₁)=>(some v,σ₁):=
 fun U A env ρ am σ v σ' s Q rA ht I F e' P=>mapP e' fun w σ₁ e1 e'=>by rw [evalPart_some]; exact h U A env ρ am σ w _ s Q rA ht I F e1 (P.atp e')
noncomputable def clipTo (n:Nat) (d:Int) (o:Option Int):Int:=o.casesOn d fun i=>max 0 (min (if i<0 then i+n else i) n)
theorem clip_eq {n:Nat} {i:Int}:max 0 (min (if i<0 then i+n else i) (n:Int))=((if 0≤i then min i.toNat n else (i+n).toNat:Nat):Int):=by
 by_cases h:0≤i
 ·rw [if_neg (Int.not_lt.mpr h),if_pos h,Int.max_eq_right (Int.le_min.mpr ⟨h,Int.natCast_nonneg n⟩)]
  rcases Nat.le_total i.toNat n with q | q
  ·rw [Nat.min_eq_left q,Int.min_eq_left (Int.toNat_le.mp q),Int.toNat_of_nonneg h]
  ·rw [Nat.min_eq_right q,Int.min_eq_right ((Int.le_toNat h).mp q)]
 ·have h':=Int.not_le.mp h
  rw [if_pos h',if_neg h,Int.min_eq_left (Int.le_of_lt (by have:=Int.add_lt_add_right h' (n:Int); rwa [Int.zero_add] at this)),Int.ofNat_toNat,Int.max_comm]
noncomputable def partI (k:Option (Int×Tok)):Option Int:=k.map (·.1)
theorem bound_spec {n d:Nat} {o:Option V} {b:Nat} {u:Value} {h:Heap} (e:bound n d o=some b) (R:c.Ro U am σ h u o) :
  ∃ k:Option (Int×Tok),u=partValue k∧IsPart u (partI k)∧clipTo n d (partI k)=b:=by
 cases o with
 | none=>exact R.symm▸⟨none,rfl,.none,congrArg Int.ofNat (Option.some.inj e)⟩
 | some v=>exact mapI e fun i e1 e=>toInt_on (P:=fun u=>∃ k:Option (Int×Tok),u=partValue k∧IsPart u (partI k)∧clipTo n d (partI k)=b) (show c.R U am σ h u v from R) e1 fun t=>⟨some (i,t),rfl,IsPart.int i t,clip_eq.trans (congrArg Int.ofNat e)⟩
theorem slicePick_of {its:Array Value} {lo hi:Option Int} {a b:Nat} (ha:clipTo its.size (0:Nat) lo=a) (hb:clipTo its.size its.size hi=b):slicePick its lo hi none=((its.toList.take b).drop a).toArray:=by
 have e:sliceBounds lo hi none its.size=((a:Int),(b:Int),1):=by
  simp only [sliceBounds,Option.getD_none,show (1:Int) > 0 by decide,if_true]
  refine ha▸hb▸?_
  cases lo <;> cases hi <;> rfl
 unfold slicePick
 rw [e]
 simp only [sliceRange_one,pick_run,List.drop_take]
theorem clipTo_le {n:Nat} {d:Int} {o:Option Int} (h:d≤n):clipTo n d o≤n:=by
 cases o with
 | none=>exact h
 | some i=>exact Int.max_le.mpr ⟨Int.natCast_nonneg n,Int.min_le_right _ _⟩
theorem strRange_of {x:Str} {lo hi:Option Int} {a b:Nat} (ha:clipTo x.length (0:Nat) lo=a) (hb:clipTo x.length x.length hi=b):Builtin.Str.strSliceIndices lo hi 1 x.length=sliceRange a b 1:=by
 simp only [Builtin.Str.strSliceIndices,show (1:Int) > 0 by decide,if_true]
 refine ha▸hb▸?_
 cases lo <;> cases hi <;> rfl
theorem strPick_of {x:Str} {lo hi:Option Int} {a b:Nat} (ha:clipTo x.length (0:Nat) lo=a) (hb:clipTo x.length x.length hi=b):(Builtin.Str.strSliceIndices lo hi 1 x.length).filterMap (x.cps[·]?)=(x.cps.toList.take b).drop a:=by
 rw [strRange_of ha hb,sliceRange_one,pick_run,List.drop_take]
theorem whole_of {x:Str} {ka kb:Option (Int×Tok)} {a b:Nat} (qa:clipTo x.length (0:Nat) (partI ka)=a) (qb:clipTo x.length x.length (partI kb)=b) (h:(slicePicked x ka kb none).length=x.length):x.cps.toList=(x.cps.toList.take b).drop a:=by
 have h:(Builtin.Str.strSliceIndices (partI ka) (partI kb) 1 x.length).length=x.length:=h
 rw [strRange_of qa qb,sliceRange_one,List.length_map,List.length_range] at h
 have hb:(b:Int)≤x.length:=qb▸clipTo_le (Int.le_refl _)
 have hx:x.cps.toList.length=x.length:=Array.length_toList
 by_cases h0:x.length=0
 ·rw [List.length_eq_zero_iff.mp (hx.trans h0)]; rw [List.take_nil,List.drop_nil]
 ·have:a=0:=by lia
  subst this
  rw [List.drop_zero,List.take_of_length_le (by lia)]
section
variable {A:Around} {ve:Expr} {lo hi:Option Expr} {p:Pos} {uo ul uh:Value} {vl vh:Option V} {v:V} {Q:Value→Shared→Prop} (I:c.I U am σ s.heap) (P:PostE c U am s σ σ v Q) (R₂:c.Ro U am σ s.heap ul vl) (R₃:c.Ro U am σ s.heap uh vh)
include I P R₂ R₃
theorem slc_list {xs:List V} (R:c.R U am σ s.heap uo (.list xs)) (e:cut .list xs vl vh=some v) :
  wpAny c.M A (subscriptTail ve (.Slice lo hi none p) uo (.ref s.heap.objs.size)) Q NoE { s with heap:=s.heap.push { cls:=.type "slice",data:=.fields #[ul,uh,.none] } }:=
 ite_none e fun hz e=>bindI e fun a ea e=>mapI e fun b eb e=>e2_3 (LsR.of R) fun l its hu g1 g2=>e1_3 (bound_spec ea R₂) fun ka _ pa qa=>e1_3 (bound_spec eb R₃) fun kb _ pb qb=>by
  have k:=g2.length
  rw [Array.length_toList] at k
  rw [← k] at qa qb
  rw [hu]
  refine tail_any (g1.push _).typeIs slot_list_getitem.lookup (wpAny_getItem_list_slice (g1.push _) (Heap.IsSliceOf.new ..) pa pb .none (by simp) ?_ (k▸Nat.le_line (Nat.lt_of_not_le hz))) rfl
  rw [slicePick_of qa qb]
  have I₄:=I.push (P:=U) { cls:=.type "slice",data:=.fields #[ul,uh,.none] }
  exact (P.at e).kept I (fun b o e=>pushed b o (pushed b o e)) (.list (I₄.1.fresh rfl) rfl rfl ((((g2.take b).drop a).step I₄.2).step (P:=U) (I₄.1.push _).2)) (Nat.le_refl _)
theorem slc_str {l:Txt} (R:c.R U am σ s.heap uo (.str l)) (e:cut .str l vl vh=some v) :
  wpAny c.M A (subscriptTail ve (.Slice lo hi none p) uo (.ref s.heap.objs.size)) Q NoE { s with heap:=s.heap.push { cls:=.type "slice",data:=.fields #[ul,uh,.none] } }:=
 ite_none e fun hz e=>bindI e fun a ea e=>mapI e fun b eb e=>e1_3 (bound_spec ea R₂) fun ka qa' _ qa=>e1_3 (bound_spec eb R₃) fun kb qb' _ qb=>R.onStr fun x t hx=>by
  have P:=P.at e
  rw [← hx] at hz P
  rw [← hx,← str_len (x:=x) rfl] at qa qb
  subst qa'; subst qb'
  refine tail_any (typeIs_str _ x t) PySem.F.slot_str_getitem.lookup (wpAny_getItem_str_slice (l:=ka) (u:=kb) (st:=none) ⟨_,Heap.get?_push_size _ rfl,rfl,rfl⟩ rfl ?_) rfl
  have hk:=strPick_of qa qb
  have I₄:=I.push (P:=U) { cls:=.type "slice",data:=.fields #[partValue ka,partValue kb,.none] }
  unfold sliceMade
  split
  ·rename_i hfull
   exact P.kept I pushed (.str (whole_of qa qb (beq_iff_eq.mp hfull))) (Nat.le_refl _)
  ·refine ⟨(?_:(Str.length ⟨(List.filterMap _ (Builtin.Str.strSliceIndices (partI ka) (partI kb) 1 x.length)).toArray⟩)≤_),P.kept I pushed (.str ?_) (Nat.le_succ _)⟩
   ·rw [hk]
    refine (?_:((List.take b x.cps.toList).drop a).toArray.size≤sizeLine)
    exact Nat.le_line (Nat.lt_of_le_of_lt (by rw [List.size_toArray,List.length_drop]; exact Nat.le_trans (Nat.sub_le _ _) (List.length_take_le' b _)) (Nat.lt_of_not_le hz))
   ·exact hk
end
theorem Cx.Ro.step {u:Value} {o:Option V} {am':List Addr} {h h':Heap} (R:c.Ro U am σ h u o) (y:Stp U U am σ h am' σ' h'):c.Ro U am' σ' h' u o:=by
 cases o with
 | none=>exact R
 | some v=>exact VR.step (show c.R U am σ h u v from R) y
theorem SE_slc {e:Expr} {lo hi:Option Expr} {p pos:Pos} {f:Loc→St→Option (V×St)} {fl fh:Loc→St→Option (Option V×St)} (h:SE c G RA e f) (hl:SO c G RA lo fl) (hh:SO c G RA hi fh) :
  SE c G RA (.Subscript e (.Slice lo hi none p) pos) fun ρ σ=>(f ρ σ).bind fun (vo,σ₁)=>(fl ρ σ₁).bind fun (vl,σ₂)=>(fh ρ σ₂).bind fun (vh,σ₃)=>(slice vo vl vh).map fun v=>(v,σ₃):=
 fun U A env ρ am σ v σ' s Q rA ht I F e' P=>bindP e' fun vo σ₁ e1 e'=>bindP e' fun vl σ₂ e2 e'=>bindP e' fun vh σ₃ e3 e'=>mapI e' fun v' e4 e'=>
 Subscript_ (h U A env ρ am σ vo σ₁ s _ rA ht I F e1 fun am₁ h₁ tk₁ uo y₁ I₁ R₁ t₁=>wpAny_Slice (hl U A env ρ am₁ σ₁ vl σ₂ _ _ rA (Nat.lt_of_lt_of_le ht t₁) I₁ (F.step y₁ fun _ p=>p) e2 fun am₂ h₂ tk₂ ul y₂ I₂ R₂ t₂=>
  hh U A env ρ am₂ σ₂ vh σ₃ _ _ rA (Nat.lt_of_lt_of_le ht (Nat.le_trans t₁ t₂)) I₂ (F.step (y₁.trans y₂) fun _ p=>p) e3 fun am₃ h₃ tk₃ uh y₃ I₃ R₃ t₃=>by
   rw [evalPart_none]
   refine wpAny_pure ?_
   have P₃:=(((P.atp e').after y₁ t₁).after y₂ t₂).after y₃ t₃
   have R₁':=R₁.step (y₂.trans y₃)
   exact V.sw_inv e4 (fun _ _=>noS) (fun l h e=>slc_str (s:={ s with heap:=h₃,toks:=tk₃ }) I₃ P₃ (R₂.step y₃) R₃ (R₁'.at h) e) (fun xs h e=>slc_list (s:={ s with heap:=h₃,toks:=tk₃ }) I₃ P₃ (R₂.step y₃) R₃ (R₁'.at h) e) (fun _ _=>noS) fun _ _=>noS))
structure BuiltinName (c:Cx) (G:Ctx) (x:Str) (u:Value):Prop where
 hk:G.scope.names.lookup x=some .globalImplicit
 hd:(x == ("__debug__":Str))=false
 e:nsIn c.K mainGlobals x=some none
 hx:x≠"__name__"
 hu:bootBuiltins x=some u
theorem len_ok {A:Around} {u:Value} {a:V} {v:V} {Q:Value→Shared→Prop} (I:c.I U am σ s.heap) (R:c.R U am σ s.heap u a) (e:lenV a σ=some v) (P:PostE c U am s σ σ v Q) :
  wpAny c.M A (call (.builtin "len") [u]) Q NoE s:=by
 have lst:lenL a σ=some v→wpAny c.M A (call (.builtin "len") [u]) Q NoE s:=fun e=>bindI e fun xs h1 e=>ite_some e fun hz e=>e2_3 (items_R I R h1) fun l its hu g1 g2=>by
  have k:=g2.length
  rw [Array.length_toList] at k
  rw [hu]
  refine call_len_list g1 (by rw [k]; lia) ?_
  rw [k]
  exact (P.at (Option.some.inj e)).here I .int (by lia)
 exact V.sw_inv e (fun _ _=>noS) (fun l h e=>ite_some e fun hz e=>(R.at h).onStr fun x t hx=>by
  rw [← hx,← str_len (x:=x) rfl] at hz e
  exact PySem.P.len_str (by lia) ((P.at (Option.some.inj e)).here I .int (by lia))) (fun _ _=>lst) (fun _ _=>noS) fun _ _=>lst
theorem SE_len {x:Str} {a:Expr} {p pos:Pos} {f:Loc→St→Option (V×St)} (B:BuiltinName c G x (.builtin "len")) (hs:notStar a=true) (h:SE c G RA a f) :
  SE c G RA (.Call (.Name x p) [a] [] pos) fun ρ σ=>(f ρ σ).bind fun (va,σ₁)=>(lenV va σ₁).map fun v=>(v,σ₁):=
 fun U A env ρ am σ v σ' s Q rA ht I F e P=>bindP e fun va σ₁ e1 e=>mapI e fun v' e2 e=>
 Call_ (nameBuiltin I F B.hk B.hd B.e B.hx B.hu (callWith_builtin1 ((SEs.cons hs h SEs.nil) U A env ρ am σ [va] _ s pos _ rA ht I F (by dsimp only; rw [e1]; rfl) fun am₁ h₁ tk₁ us y₁ I₁ R₁ t₁=>
  R₁.onCons fun u us r rs=>rs.onNil (len_ok I₁ r e2 ((P.atp e).after y₁ t₁))) (star_of hs)))
end
end
section
theorem attrN_nodup:attrN.Nodup:=by decide +kernel
theorem attrN_inj {i j:Nat} {x:Str} (h:attrN[i]?=some x) (h':attrN[j]?=some x):i=j:=by
 have hi:=(List.getElem?_eq_some_iff.mp h).1
 exact (List.getElem?_inj hi attrN_nodup).mp (h.trans h'.symm)
theorem getL_AR {Z:Stat} {F:Addr→Obj→Prop} {am:List Addr} {k:Nat} {nm:Str} (hk:attrN[k]?=some nm) {es:List DictEntry} {kv:List (Nat×V)} (h:AR Z F am es kv) :
  (∀ v,aget kv k=some v→∃ u,getL nm es=some (some u)∧VR Z F am u v)∧(aget kv k=none→getL nm es=some none):=by
 have key:=h.ind (P:=fun es kv=>(∀ v,aget kv k=some v→∃ e,es.find? (fun e=>e.key.isStr nm)=some e∧VR Z F am e.val v)∧(aget kv k=none→es.find? (fun e=>e.key.isStr nm)=none)∧es.any (·.refKey)=false)
  ⟨fun _=>noS,fun _=>rfl,rfl⟩ fun {hs nm' t w k' x es kv} h1 r _ ih=>by
   by_cases q:k'=k
   ·have e':(nm' == nm)=true:=beq_iff_eq.mpr (Option.some.inj (h1.symm.trans (q▸hk)))
    exact ⟨fun v e=>⟨_,List.find?_cons_of_pos (p:=fun e:DictEntry=>e.key.isStr nm) (a:=⟨hs,.str nm' t,w⟩) e',r.at (Option.some.inj ((if_pos q).symm.trans e))⟩,fun e=>noN ((if_pos q).symm.trans e),ih.2.2⟩
   ·have ne:¬ (nm' == nm)=true:=fun z=>q (attrN_inj h1 ((beq_iff_eq.mp z).symm▸hk))
    exact ⟨fun v e=>e1_2 (ih.1 v ((if_neg q).symm.trans e)) fun e' b1 b2=>⟨e',(List.find?_cons_of_neg (p:=fun e:DictEntry=>e.key.isStr nm) (a:=⟨hs,.str nm' t,w⟩) ne).trans b1,b2⟩,fun e=>(List.find?_cons_of_neg (p:=fun e:DictEntry=>e.key.isStr nm) (a:=⟨hs,.str nm' t,w⟩) ne).trans (ih.2.1 ((if_neg q).symm.trans e)),ih.2.2⟩
 exact ⟨fun v e=>e1_2 (key.1 v e) fun e' b1 b2=>⟨_,by unfold getL; rw [b1],b2⟩,fun e=>by unfold getL; rw [key.2.1 e,key.2.2]; rfl⟩
noncomputable def attrOk (K:Frag) (C:Addr) (nm:Str):Bool:=plainGet K C nm && hasDictIn K C && (findIn K (.ref C) nm).any (noGet K)
noncomputable def setOk (K:Frag) (C:Addr) (nm:Str):Bool:=(findIn K (.ref C) "__setattr__" == some (some (.builtin "object.__setattr__"))) && plainOver K C && (takerIn K C nm == some none)
noncomputable def clsOk (K:Frag) (C:Addr):Bool:=attrN.all fun nm=>attrOk K C nm && setOk K C nm
section
variable {c:Cx} {G:Ctx} {RA:Around→Prop} {U:Addr→Prop} {am:List Addr} {σ σ':St} {s:Shared}
noncomputable def Cx.Cls (c:Cx):Prop:=∀ (i:Nat) (C:Addr),c.Z.cls[i]?=some C→clsOk c.K C=true
theorem clsOk_at {K:Frag} {C:Addr} {k:Nat} {nm:Str} (h:clsOk K C=true) (hk:attrN[k]?=some nm):attrOk K C nm=true∧setOk K C nm=true:=
 Bool.and_eq_true_iff.mp (List.all_eq_true.mp h nm (List.mem_of_getElem? hk))
theorem Inv.instAt (I:c.I U am σ s.heap) {n i:Nat} {kv:List (Nat×V)} {a:Addr} {X:Prop} (e:Mini.instAt n σ=some (i,kv)) (ha:am[n]?=some a)
  (k:∀ C dx es m,σ[n]?=some (.inst i)→σ[n+1]?=some (.attrs kv)→c.Z.cls[i]?=some C→am[n+1]?=some dx→s.heap.get? a=some (instObj C dx)→s.heap.get? dx=some (dictOf es m)→es.length≤100→AR c.Z (Fz U am σ s.heap) am es kv→X):X:=
 e0_2 (instAt_ok e) fun hn hn'=>e1_2 (I.live n _ a hn rfl ha).1 fun o ho r=>e2_3 r fun C dx hC hd eo=>e1_2 (I.live (n+1) _ dx hn' rfl hd).1 fun o' ho' r'=>e2_3 r' fun es m eo' hz hr=>
  k C dx es m hn hn' hC hd (eo▸ho) (eo'▸ho') hz hr
noncomputable def InsR (c:Cx) (U:Addr→Prop) (am:List Addr) (σ:St) (h:Heap) (a:Nat) (v:V) (u:Value):Prop:=
 ∃ (x:Addr) (i:Nat) (C dx:Addr) (es:List DictEntry) (n:Nat) (kv:List (Nat×V)),u = .ref x∧c.Z.cls[i]?=some C∧PySem.W.InstAt h x (instObj C dx) C (some (dictOf es n))∧AR c.Z (Fz U am σ h) am es kv∧aget kv a=some v
theorem inst_of {o:V} {u:Value} {a:Nat} {v:V} (I:c.I U am σ s.heap) (R:c.R U am σ s.heap u o) (e:getAttr o a σ=some v):InsR c U am σ s.heap a v u:=by
 revert R e
 exact o.casesOn (motive_1:=fun o=>c.R U am σ s.heap u o→getAttr o a σ=some v→InsR c U am σ s.heap a v u) (fun _=>noS) (fun _ _=>noS) (fun _ _=>noS) (fun _ _=>noS) (fun _ _=>noS) (fun _ _=>noS)
  (fun i kv R e=>R.onObj (P:=InsR c U am σ s.heap a v) fun x dx C es n h1 h2 h3 h4=>⟨x,i,C,dx,es,n,kv,rfl,h1,⟨h2.1,rfl,rfl,h3.1⟩,h4,e⟩)
  fun m R e=>R.onLoc (P:=InsR c U am σ s.heap a v) fun l hl=>bindI e fun q e1 e=>Inv.instAt I (i:=q.1) (kv:=q.2) e1 hl fun C dx es n _ _ hC hd ho ho' _ hr=>⟨l,_,C,dx,es,n,_,rfl,hC,⟨ho,rfl,rfl,ho'⟩,hr,e⟩
theorem handedIn_R {u:Value} {v:V} {h:Heap} (R:c.R U am σ h u v):handedIn u=true:=
 R.casesOn (motive_1:=fun u _ _=>handedIn u=true) rfl rfl rfl (fun _=>rfl) (fun _ _ _ _=>rfl) (fun _ _ _ _=>rfl) (fun _ _ _ _=>rfl) fun _=>rfl
theorem getAttr_ok {A:Around} {u:Value} {o v:V} {a:Nat} {nm:Str} {ex:Bool} {Q:Value→Shared→Prop} (H:c.Cls) (hk:attrN[a]?=some nm) (I:c.I U am σ s.heap) (R:c.R U am σ s.heap u o) (e:getAttr o a σ=some v)
  (P:PostE c U am s σ σ v Q):wpAny c.M A (PySem.getAttr u nm ex) Q NoE s:=
 e7_5 (inst_of I R e) fun x i C dx es n kv hu hC hI hA hv=>e0_2 (Bool.and_eq_true_iff.mp (clsOk_at (H i C hC) hk).1) fun h1 h2=>e0_2 (Bool.and_eq_true_iff.mp h1) fun h1 h3=>anyI h2 fun at' hat h2=>e1_2 ((getL_AR hk hA).1 v hv) fun w g1 g2=>
  hu▸get_value (c.bs.k.keeps I.base) hI (plainGet_of h1).1 (findObj_own h3 hat h2 ((lookIn_dict ..).trans g1)) (handedIn_R g2) (P.here I g2 (Nat.le_succ _))
noncomputable def plainBase (e:Expr):Bool:=[19,20,21,23].contains e.ctorIdx || (if h:e.ctorIdx=16 then Expr.Call.elim (motive_1:=fun _=>Bool) e h (fun f _ _ _=>f.ctorIdx == 20) else false)
theorem attributeBase_plain {o:Expr} {nm:Str} {env:Env} {t:Sem Value}:plainBase o=true→attributeBase o nm env t=t:=by
 cases o <;> first | exact fun _=>rfl | exact noF | skip
 rename_i f _ _ _
 cases f <;> first | exact fun _=>rfl | exact noF
theorem SE_attr {e:Expr} {nm:Str} {a:Nat} {pos:Pos} {f:Loc→St→Option (V×St)} (H:c.Cls) (hk:attrN[a]?=some nm) (hb:plainBase e=true) (h:SE c G RA e f) :
  SE c G RA (.Attribute e nm pos) fun ρ σ=>(f ρ σ).bind fun (vo,σ₁)=>(getAttr vo a σ₁).map fun v=>(v,σ₁):=
 fun U A env ρ am σ v σ' s Q rA ht I F e' P=>bindP e' fun vo σ₁ e1 e'=>mapI e' fun v' e2 e'=>
 Attribute_any_ (h U A env ρ am σ vo _ s _ rA ht I F e1 fun am₁ h₁ tk₁ u y₁ I₁ R₁ t₁=>getAttr_ok H hk I₁ R₁ e2 ((P.atp e').after y₁ t₁)) (by rw [arm_eval_Attribute,attributeBase_plain hb])
end
end
section
section
variable {prog:Program} {w:World} {A:Around} {K:Frag} {s:Shared}
theorem putL_length {nm:Str} {hsh:Int} {key v:Value}:∀ es:List DictEntry,(putL nm hsh key v es).length≤es.length+1
 | []=>Nat.le_refl _
 | e :: r=>by
  unfold putL
  split
  ·exact Nat.le_succ _
  ·exact Nat.succ_le_succ (putL_length r)
theorem noref {nm:Str} {es:List DictEntry} (hl:(getL nm es).isSome=true):(!es.toArray.any (·.key.isStr nm) && es.toArray.any (·.refKey))=false:=by
 unfold getL at hl
 rw [← Array.any_toList,← Array.any_toList]
 split at hl
 ·rename_i en he
  have z:es.any (·.key.isStr nm)=true:=List.any_eq_true.mpr ⟨en,List.mem_of_find?_eq_some he,List.find?_some (p:=fun e:DictEntry=>e.key.isStr nm) he⟩
  rw [z]; rfl
 ·split at hl
  ·exact noF hl
  ·rename_i z; rw [eq_false_of_ne_true z,Bool.and_false]
theorem setAttr_raw {x dx C:Addr} {es:List DictEntry} {n:Nat} {nm:Str} {v:Value} {Q:Unit→Shared→Prop} (X:K.In s.heap) (I:PySem.W.InstAt s.heap x (instObj C dx) C (some (dictOf es n))) (hs:setOk K C nm=true) (hh:hasDictIn K C=true)
  (hl:(getL nm es).isSome=true) (hz:es.length≤1000)
  (h:Q () { s with heap:=s.heap.update dx (Obj.putName nm (PyData.keyHash w.params nm) (.str nm (s.toks+1)) v),toks:=s.toks+1+1 }):wpAny (model prog w) A (PySem.setAttr (.ref x) nm v) Q NoE s:=by
 unfold setOk at hs
 refine e0_2 (Bool.and_eq_true_iff.mp hs) fun hs h3=>?_
 refine e0_2 (Bool.and_eq_true_iff.mp hs) fun h1 h2=>?_
 refine e1_2 (any_some hh) fun cd hc hd'=>?_
 have hD:s.heap.get? dx=some (dictOf es n):=I.dict
 refine set_plain X I (beq_iff_eq.mp h1) ?_
 refine osa_open (s:={ s with toks:=s.toks+1 }) X I h2 (beq_iff_eq.mp h3) fun b=>?_
 have hx:=I.at_
 obtain ⟨hh',g,dr,tk,os⟩:=s
 dsimp only at *
 refine wpAny_bind (wpAny_pure (wpAny_bind (wpAny_bind (wpAny_loadPart hx (wpAny_bind ((looks_clsIn X hc).here ?_))))))
 rw [hd']
 refine wpAny_pure (a:=some dx) (wpAny_bind (wpAny_pure (wpAny_bind ?_)))
 unfold nsSet
 refine wpAny_bind (wpAny_bind (wpAny_askSetting (wpAny_pure (wpAny_bind (wpAny_mkText (wpAny_bind (wpAny_loadPart hD ?_)))))))
 show wpAny _ _ _ _ _ _
 dsimp only
 rw [aRefKeyMayBeTheName_at,noref hl]
 refine wpAny_updatePart hD ?_
 have D':(hh'.update dx (Obj.putName nm (PyData.keyHash w.params nm) (.str nm (tk+1)) v)).get? dx=some (dictOf (putL nm (PyData.keyHash w.params nm) (.str nm (tk+1)) v es) (putN nm es n)):=by
  rw [← putName_dict]
  exact Heap.get?_update_self _ hD (by rw [putName_dict]; rfl)
 refine wpAny_bind (wpAny_lookBehind D' (pastItsLine_dict ?_) ?_)
 ·rw [List.size_toArray,sizeLine_eq]
  have:=putL_length (nm:=nm) (hsh:=PyData.keyHash w.params nm) (key:=.str nm (tk+1)) (v:=v) es
  lia
 ·exact wpAny_pure h
end
theorem aset_hit {k k':Nat} {x v:V} {kv:List (Nat×V)} (h:k'=k):aset ((k',x) :: kv) k v=(k',v) :: kv:=if_pos h
theorem aset_miss {k k':Nat} {x v:V} {kv:List (Nat×V)} (h:¬ k'=k):aset ((k',x) :: kv) k v=(k',x) :: aset kv k v:=if_neg h
theorem dset_hit {k k':V} {x v:V} {kv:List (V×V)} (h:k'=k):dset ((k',x) :: kv) k v=(k',v) :: kv:=if_pos h
theorem dset_miss {k k':V} {x v:V} {kv:List (V×V)} (h:¬ k'=k):dset ((k',x) :: kv) k v=(k',x) :: dset kv k v:=if_neg h
theorem dget_miss {k k':V} {x:V} {kv:List (V×V)} (h:¬ k'=k):dget ((k',x) :: kv) k=dget kv k:=if_neg h
theorem AR.put {Z:Stat} {F:Addr→Obj→Prop} {am:List Addr} {k:Nat} {nm:Str} {hs:Int} {t:Tok} {u:Value} {v:V} (hk:attrN[k]?=some nm) (hu:VR Z F am u v) {es:List DictEntry} {kv:List (Nat×V)} (h:AR Z F am es kv):AR Z F am (putL nm hs (.str nm t) u es) (aset kv k v):=
 h.ind (P:=fun es kv=>AR Z F am (putL nm hs (.str nm t) u es) (aset kv k v)) (.cons hk hu .nil) fun {hs' nm' t' w k' x es kv} h1 h2 h3 ih=>by
  by_cases q:k'=k
  ·have e1:(Value.str nm' t').isStr nm=true:=beq_iff_eq.mpr (Option.some.inj (h1.symm.trans (q▸hk)))
   unfold putL
   rw [if_pos e1,aset_hit q]
   exact .cons h1 hu h3
  ·have ne:¬ (Value.str nm' t').isStr nm=true:=fun z=>q (attrN_inj h1 ((beq_iff_eq.mp z).symm▸hk))
   unfold putL
   rw [if_neg ne,aset_miss q]
   exact .cons h1 h2 ih
theorem AR.length {Z:Stat} {F:Addr→Obj→Prop} {am:List Addr} {es:List DictEntry} {kv:List (Nat×V)} (h:AR Z F am es kv):es.length=kv.length:=h.ind (P:=fun es kv=>es.length=kv.length) rfl fun _ _ _ ih=>congrArg (·+1) ih
theorem aset_length (k:Nat) (v:V) (kv:List (Nat×V)):(aset kv k v).length≤kv.length+1:=
 kv.rec (Nat.le_refl _) fun p r ih=>if q:p.1=k then (congrArg List.length (aset_hit q)).symm▸Nat.le_succ _ else (congrArg List.length (aset_miss q)).symm▸Nat.succ_le_succ ih
section
variable {c:Cx} {G:Ctx} {RA:Around→Prop} {U:Addr→Prop} {am:List Addr} {σ σ':St} {s:Shared}
noncomputable def PostU (c:Cx) (U:Addr→Prop) (am:List Addr) (s:Shared) (σ σ':St) (Q:Unit→Shared→Prop):Prop:=
 ∀ am' h' tk,Stp U U am σ s.heap am' σ' h'→c.I U am' σ' h'→s.toks≤tk→Q () { s with heap:=h',toks:=tk }
theorem PostU.ats {τ:St} {Q:Unit→Shared→Prop} (P:PostU c U am s σ σ' Q) (e:some τ=some σ'):PostU c U am s σ τ Q:=Option.some.inj e▸P
theorem setAttr_ok {A:Around} {u uo:Value} {o v:V} {a:Nat} {nm:Str} {Q:Unit→Shared→Prop} (H:c.Cls) (hk:attrN[a]?=some nm) (I:c.I U am σ s.heap) (Ro:c.R U am σ s.heap uo o) (R:c.R U am σ s.heap u v) (e:setAttr o a v σ=some σ')
  (P:PostU c U am s σ σ' Q):wpAny c.M A (PySem.setAttr uo nm u) Q NoE s:=
 bindI e fun n e0 e=>bindI e fun q e1 e=>ite_some e fun hz e=>(Ro.at (V.toLoc_ok e0)).onLoc fun l ha=>Inv.instAt I (i:=q.1) (kv:=q.2) e1 ha fun C dx es m hn hn' hC hd ho ho' hz' hr=>by
  have h1:=clsOk_at (H _ C hC) hk
  have h4:=Bool.and_eq_true_iff.mp (Bool.and_eq_true_iff.mp h1.1).1
  have P:=P.ats e
  have g:=getL_AR hk hr
  have r:=AR.put (hs:=PyData.keyHash c.w.params nm) (t:=s.toks+1) hk R hr
  have hl:=r.length▸Nat.le_trans (aset_length a v q.2) hz
  have len:=hr.length
  clear e e0 e1 Ro hr
  refine setAttr_raw (es:=es) (n:=m) (c.bs.k.keeps I.base) ⟨ho,rfl,rfl,ho'⟩ h1.2 h4.2 ?_ (Nat.le_trans hz' (Nat.le_of_ble_eq_true rfl)) ?_
  ·cases hg:aget q.2 a with
   | none=>rw [g.2 hg]; rfl
   | some w=>exact e1_2 (g.1 w hg) fun w' g1 _=>by rw [g1]; rfl
  ·refine e0_2 (I.set (P:=U) hn' rfl hd (o':=dictOf (putL nm (PyData.keyHash c.w.params nm) (.str nm (s.toks+1)) u es) (putN nm es m)) (O':=.attrs (aset q.2 a v)) (h':=s.heap.update dx (Obj.putName nm (PyData.keyHash c.w.params nm) (.str nm (s.toks+1)) u))
    ⟨Heap.size_update _ _ _,fun b hb=>Heap.get?_update_ne _ _ _ _ hb⟩ (by rw [← putName_dict]; exact Heap.get?_update_self _ ho' (by rw [putName_dict]; rfl)) rfl ⟨_,_,rfl,hl,r⟩ (fun _ p=>p)) fun I' y=>?_
   exact P am _ _ y I' (Nat.le_succ_of_le (Nat.le_succ _))
theorem KV.store {K:Type} [DecidableEq K] {enc:K→V} (hi:∀ a b,enc a=enc b→a=b) {Z:Stat} {F:Addr→Obj→Prop} {am:List Addr} {k:K} {u:Value} {v:V} (hu:VR Z F am u v) {xs:List (K×Value)} {kv:List (V×V)} (h:KV enc Z F am xs kv) (hn:(xs.map (·.1)).Nodup) (hs:(dget kv (enc k)).isSome=true) :
  KV enc Z F am (stored xs k u) (dset kv (enc k) v)∧(stored xs k u).length=xs.length:=by
 have key:(xs.map (·.1)).Nodup→(dget kv (enc k)).isSome=true→KV enc Z F am (xs.map fun kv=>if kv.1=k then (kv.1,u) else kv) (dset kv (enc k) v)∧(xs.any fun kv=>decide (kv.1=k))=true:=
  h.rec (motive:=fun xs kv _=>(xs.map (·.1)).Nodup→(dget kv (enc k)).isSome=true→KV enc Z F am (xs.map fun kv=>if kv.1=k then (kv.1,u) else kv) (dset kv (enc k) v)∧(xs.any fun kv=>decide (kv.1=k))=true) (fun _=>noF) fun {k' u' v' xs kv} r rs ih hn hs=>by
   rw [List.map_cons,List.nodup_cons] at hn
   by_cases q:k'=k
   ·subst q
    refine ⟨?_,by rw [List.any_cons,decide_eq_true rfl,Bool.true_or]⟩
    rw [List.map_cons,map_store_of_not_mem _ _ _ hn.1,if_pos rfl,dset_hit rfl]
    exact .cons hu rs
   ·have ne:¬ enc k'=enc k:=fun z=>q (hi _ _ z)
    have i:=ih hn.2 (dget_miss ne▸hs)
    refine ⟨?_,by rw [List.any_cons,i.2,Bool.or_true]⟩
    rw [List.map_cons,if_neg q,dset_miss ne]
    exact .cons r i.1
 have key:=key hn hs
 unfold stored
 rw [if_pos key.2]
 exact ⟨key.1,List.length_map _⟩
section
variable {A:Around} {u uo ui:Value} {i v:V} {n:Nat} {Q:Unit→Shared→Prop} (I:c.I U am σ s.heap) (Ro:c.R U am σ s.heap uo (.loc n)) (Ri:c.R U am σ s.heap ui i) (R:c.R U am σ s.heap u v) (P:PostU c U am s σ σ' Q)
include I Ro Ri R P
theorem setIdx_lst {xs:List V} (hn:σ[n]?=some (.list xs)) (e:(i.toInt.bind fun i=>if 0≤i∧i<xs.length∧xs.length<1000000 then some (σ.set n (.list (xs.set i.toNat v))) else none)=some σ'):wpAny c.M A (setItem uo ui u) Q NoE s:=
 Ro.onLoc fun l ha=>bindI e fun j e1 e=>ite_some e fun hj e=>toInt_on Ri e1 fun t=>e1_2 (I.live n _ l hn rfl ha).1 fun o ho r=>e2_2 r fun its ep eo hr=>by
  have k:=Array.length_toList.symm.trans hr.length
  have P:=P.ats e
  subst eo
  refine ki_setAt ho hj.1 (by lia) (by lia) ?_
  have q:=PySem.IsL.update (items:=its) (n:=ep) ho (·.setIfInBounds j.toNat u)
  refine e0_2 (I.set (P:=U) hn rfl ha (O':=.list (xs.set j.toNat v)) (Heap.SameBut.update s.heap _ _) q rfl ⟨_,_,rfl,by rw [Array.toList_setIfInBounds]; exact hr.set j.toNat R⟩ (fun _ p=>p)) fun I' y=>?_
  exact P am _ s.toks y I' (Nat.le_refl _)
theorem setIdx_dct {kv:List (V×V)} (hn:σ[n]?=some (.dict kv)) (e:(i.toTxt.bind fun _=>if (dget kv i).isSome then some (σ.set n (.dict (dset kv i v))) else none)=some σ'):wpAny c.M A (setItem uo ui u) Q NoE s:=
 Ro.onLoc fun l ha=>bindI e fun k e1 e=>ite_some e fun hs e=>toTxt_on Ri e1 fun x t hx=>e1_2 (I.live n _ l hn rfl ha).1 fun o ho hd=>by
  have ei:i=encS x:=(V.toTxt_ok e1).trans (congrArg V.str hx.symm)
  rw [ei] at e hs
  have P:=P.ats e
  have hd':DR (PySem.strKind c.prog c.w) encS c.Z (Fz U am σ s.heap) am o kv:=hd.elim id fun hd=>e1_3 (hd.dictOf ho) fun kvs hm hz hk=>(Option.isSome_iff_exists.mp hs).elim fun v' hv'=>e2_3 ((hk.get encI_inj).1 _ v' hv') fun k u h1 h2 R=>nomatch h1
  clear hd e e1
  refine e1_3 (hd'.dictOf ho) fun kvs hm hz hk=>wpAny_setItem_pairs (strKind_is _ _ _ _) hm (fun h' hm' hs'=>?_) (by rw [sizeLine_eq]; lia)
  refine e0_2 (hk.store encS_inj R (e3_6 hm fun _ _ _ _ _ _ _ _ q=>q) hs) fun hk' hz'=>e3_6 hm' fun o' es' ep' ho' g1 g2 g3 g4 g5=>?_
  refine e0_2 (I.set (P:=U) hn rfl ha (O':=.dict (dset kv (encS x) v)) hs' ho' rfl (.inl ⟨g1,es',ep',_,g2,g3,g4,g5,hz'.symm▸hz,hk'⟩) (fun _ p=>p)) fun I' y=>?_
  exact P am _ _ y I' (Nat.le_succ _)
end
theorem setIdx_ok {A:Around} {u uo ui:Value} {o i v:V} {Q:Unit→Shared→Prop} (I:c.I U am σ s.heap) (Ro:c.R U am σ s.heap uo o) (Ri:c.R U am σ s.heap ui i) (R:c.R U am σ s.heap u v) (e:setIdx o i v σ=some σ')
  (P:PostU c U am s σ σ' Q):wpAny c.M A (setItem uo ui u) Q NoE s:=
 bindI e fun n e0 e=>have Ro:=Ro.at (V.toLoc_ok e0)
 Cel.sw_inv e (fun xs hn e=>setIdx_lst I Ro Ri R P hn e) (fun kv hn e=>setIdx_dct I Ro Ri R P hn e) (fun _ _=>noS) (fun _ _=>noS) fun _ _=>noS
end
end
section
section
variable {prog:Program} {w:World} {Z:Stat} {hb:Heap} {P U:Addr→Prop} {am:List Addr} {σ:St} {h h':Heap}
theorem Inv.ownX (I:Inv prog w Z hb U am σ h) {a:Addr} (hs:∀ b o,b≠a→h.get? b=some o→h'.get? b=some o) (ha:∃ o,h'.get? a=some o) (hU:U a) (hP:∀ b,P b→b≠a):Inv prog w Z hb U am σ h'∧Stp P U am σ h am σ h':=
 have hF:∀ b ob,Fz U am σ h b ob→Fz U am σ h' b ob:=fun b ob e=>⟨hs b ob (fun q=>e.2 (.inl (q▸hU))) e.1,e.2⟩
 ⟨⟨fun b ob e=>hs b ob (fun q=>noH e (q▸(I.out a hU).1)) (I.base b ob e),I.len,fun n O b h1 h2 h3=>e0_3 (I.live n O b h1 h2 h3) fun z h4 h5=>⟨e1_2 z fun o ho hr=>⟨o,hs b o (fun q=>h4 (q▸hU)) ho,hr.mono prog w hF List.prefix_rfl⟩,h4,h5⟩,I.inj,
  fun n xs b h1 h2=>(I.fl n xs b h1 h2).mono hF List.prefix_rfl,fun b u=>⟨(I.out b u).1,if q:b=a then q▸ha else (I.out b u).2.elim fun o e=>⟨o,hs b o q e⟩⟩⟩,⟨List.prefix_rfl,fun b ob p e=>hs b ob (hP b p) e,hF⟩⟩
theorem Inv.own (I:Inv prog w Z hb U am σ h) {a:Addr} (hs:Heap.SameBut a h h') (ha:∃ o,h'.get? a=some o) (hU:U a) (hP:∀ b,P b→b≠a):Inv prog w Z hb U am σ h'∧Stp P U am σ h am σ h':=I.ownX (fun b o q e=>(hs.2 b q).trans e) ha hU hP
end
structure Outer (P U:Addr→Prop) (env:Env):Prop where
 sub:∀ a,P a→U a
 nl:∀ a,P a→a≠env.locals
 nc:∀ a x b,P a→env.cells.lookup x=some b→a≠b
noncomputable def Ctx.Inj (G:Ctx):Prop:=∀ (i j:Nat) x,G.names[i]?=some (some x)→G.names[j]?=some (some x)→i=j
section
variable {c:Cx} {G:Ctx} {RA:Around→Prop} {P U:Addr→Prop} {am:List Addr} {σ σ':St} {s:Shared} {env:Env} {ρ:Loc}
theorem set_slot {ρ:Loc} {i j:Nat} {v w:V} (h:(ρ.set i (some v))[j]?=some (some w)):(i=j∧w=v)∨(i≠j∧ρ[j]?=some (some w)):=
 if q:i=j then .inl ⟨q,by
  subst q
  rw [List.getElem?_set,if_pos rfl] at h
  exact ite_some h fun _ e=>(Option.some.inj (Option.some.inj e)).symm⟩
 else .inr ⟨q,(List.getElem?_set_ne q).symm.trans h⟩
noncomputable def storeKind (G:Ctx) (x:Str):Bool:=kindB G x .local || kindB G x .cell
theorem slot_of_store {x:Str} (h:storeKind G x=true):slotKind G x=true:=Bool.or_eq_true_iff.mpr ((Bool.or_eq_true_iff.mp h).imp id fun h=>Bool.or_eq_true_iff.mpr (.inl h))
theorem slot_name {i:Nat} {x y:Str} (hn:G.names[i]?=some (some x)) (h:G.names[i]?=some (some y)):y=x:=Option.some.inj (Option.some.inj (h.symm.trans hn))
theorem noLC {x:Option NameKind} {X:Prop} (h:x=some .local) (h':x=some .cell):X:=nomatch (h.symm.trans h':some NameKind.local=some NameKind.cell)
theorem noLF {x:Option NameKind} {X:Prop} (h:x=some .local) (h':x=some .free):X:=nomatch (h.symm.trans h':some NameKind.local=some NameKind.free)
theorem store_loc {A:Around} {x:Str} {i:Nat} {u:Value} {v:V} {Q:Unit→Shared→Prop} (gi:G.Inj) (onl:∀ b,P b→b≠env.locals) (I:c.I U am σ s.heap) (F:FR c G U env ρ am σ s.heap) (hn:G.names[i]?=some (some x)) (hk0:G.scope.names.lookup x=some .local) (R:c.R U am σ s.heap u v)
  (h:∀ h' tk,Stp P U am σ s.heap am σ h'→c.I U am σ h'→FR c G U env (ρ.set i (some v)) am σ h'→s.toks≤tk→(env.kindOf x=some .local→∃ m,h'.Ns env.locals m∧m x=some u)→Q () { s with heap:=h',toks:=tk }):wpAny c.M A (storeName env x u) Q NoE s:=
 have hk':=F.kind hk0
 e1_2 F.loc fun m hm hl=>wpAny_storeName_local hk' hm (fun h' hm' hs=>e0_2 (I.own (P:=P) hs (e3_2 hm' fun o' _ _ e _=>⟨o',e⟩) F.uL onl) fun I' y=>
  h h' _ y I' ⟨F.sc,F.fn,F.gl,F.bu,F.uL,F.uC,F.inj,⟨_,hm',fun j y' w h1 h2 h3=>(set_slot h2).elim (fun z=>⟨u,if_pos (slot_name hn (z.1▸h1)),(R.step y).at z.2.symm⟩)
    fun z=>e1_2 (hl j y' w h1 z.2 h3) fun u' e1 e2=>⟨u',(if_neg fun q:y'=x=>z.1 (gi _ _ _ hn (q▸h1))).trans e1,e2.step y⟩⟩,
   fun j y' h1 h2=>e2_3 (F.cel j y' h1 h2) fun a ob g1 g2 g=>e1_2 g fun ov g3 g4=>⟨a,ob,g1,(hs.2 a (F.uC _ _ g1).2).trans g2,ov,g3,fun w hw=>(set_slot hw).elim
    (fun z=>have e:=slot_name hn (z.1▸h1); h2.elim (fun h2=>noLC hk' (e▸h2)) fun h2=>noLF hk' (e▸h2)) fun z=>e1_2 (g4 w z.2) fun u' e1 e2=>⟨u',e1,e2.step y⟩⟩⟩
   (Nat.le_succ _) fun _=>⟨_,hm',if_pos rfl⟩) (F.fn.symm▸rfl)
theorem store_cel {A:Around} {x:Str} {i:Nat} {u:Value} {v:V} {Q:Unit→Shared→Prop} (gi:G.Inj) (o:Outer P U env) (I:c.I U am σ s.heap) (F:FR c G U env ρ am σ s.heap) (hn:G.names[i]?=some (some x)) (hk':env.kindOf x=some .cell) (R:c.R U am σ s.heap u v)
  (h:∀ h' tk,Stp P U am σ s.heap am σ h'→c.I U am σ h'→FR c G U env (ρ.set i (some v)) am σ h'→s.toks≤tk→(env.kindOf x=some .local→∃ m,h'.Ns env.locals m∧m x=some u)→Q () { s with heap:=h',toks:=tk }):wpAny c.M A (storeName env x u) Q NoE s:=
 e2_3 (F.cel i x hn (.inl hk')) fun ca ob g1 g2 g=>e1_2 g fun ov g3 _=>wpAny_storeName_cell F.fn hk' g1 ⟨ob,g2,g3⟩ fun h' hc hs=>e0_2 (I.own (P:=P) hs (e1_2 hc fun o' e _=>⟨o',e⟩) (F.uC x ca g1).1 fun b p=>o.nc b x ca p g1) fun I' y=>
  h h' _ y I' ⟨F.sc,F.fn,F.gl,F.bu,F.uL,F.uC,F.inj,e1_2 F.loc fun m w15_ hl=>e3_2 w15_ fun o' es ep ho hr=>⟨m,⟨o',es,ep,(hs.2 _ fun z=>(F.uC x ca g1).2 z.symm).trans ho,hr⟩,fun j y' w h1 h2 h3=>(set_slot h2).elim
    (fun z=>noLC (slot_name hn (z.1▸h1)▸h3) hk') fun z=>e1_2 (hl j y' w h1 z.2 h3) fun u' e1 e2=>⟨u',e1,e2.step y⟩⟩,
   fun j y' h1 h2=>if q:y'=x then e1_2 hc fun ob'' k1 k2=>⟨ca,ob'',q▸g1,k1,_,k2,fun w hw=>(set_slot hw).elim (fun z=>⟨u,rfl,(R.step y).at z.2.symm⟩) fun z=>absurd (gi _ _ _ hn (q▸h1)) z.1⟩
    else e2_3 (F.cel j y' h1 h2) fun a ob' f1 f2 g=>e1_2 g fun ov' f3 f4=>⟨a,ob',f1,(hs.2 a fun z=>q (F.inj _ _ _ f1 (z▸g1))).trans f2,ov',f3,fun w hw=>(set_slot hw).elim (fun z=>absurd (slot_name hn (z.1▸h1)) q)
     fun z=>e1_2 (f4 w z.2) fun u' e1 e2=>⟨u',e1,e2.step y⟩⟩⟩
   (Nat.le_refl _) fun q=>noLC q hk'
theorem store_at {A:Around} {x:Str} {i:Nat} {u:Value} {v:V} {Q:Unit→Shared→Prop} (gi:G.Inj) (o:Outer P U env) (I:c.I U am σ s.heap) (F:FR c G U env ρ am σ s.heap) (hn:G.names[i]?=some (some x)) (hk:storeKind G x=true) (R:c.R U am σ s.heap u v)
  (h:∀ h' tk,Stp P U am σ s.heap am σ h'→c.I U am σ h'→FR c G U env (ρ.set i (some v)) am σ h'→s.toks≤tk→(env.kindOf x=some .local→∃ m,h'.Ns env.locals m∧m x=some u)→Q () { s with heap:=h',toks:=tk }):wpAny c.M A (storeName env x u) Q NoE s:=
 (Bool.or_eq_true_iff.mp hk).elim (fun k=>store_loc gi o.nl I F hn (of_decide_eq_true k) R h) fun k=>store_cel gi o I F hn (F.kindB k) R h
theorem store_ok {A:Around} {x:Str} {i:Nat} {u:Value} {v:V} {Q:Unit→Shared→Prop} (gi:G.Inj) (o:Outer P U env) (I:c.I U am σ s.heap) (F:FR c G U env ρ am σ s.heap) (hn:G.names[i]?=some (some x)) (hk:storeKind G x=true) (R:c.R U am σ s.heap u v)
  (h:∀ h' tk,Stp P U am σ s.heap am σ h'→c.I U am σ h'→FR c G U env (ρ.set i (some v)) am σ h'→s.toks≤tk→Q () { s with heap:=h',toks:=tk }):wpAny c.M A (storeName env x u) Q NoE s:=
 store_at gi o I F hn hk R fun h' tk y I' F' t _=>h h' tk y I' F' t
noncomputable def FlR (c:Cx) (U:Addr→Prop) (am:List Addr) (σ:St) (h:Heap) (fl:Flow) (r:Ctl):Prop:=r.casesOn (fl = .next) fun v=>∃ u,fl = .ret u∧c.R U am σ h u v
noncomputable def PostS (c:Cx) (G:Ctx) (P U:Addr→Prop) (env:Env) (am:List Addr) (s:Shared) (σ:St) (r:Ctl×Loc×St) (Q:Flow→Shared→Prop):Prop:=
 ∀ am' h' tk fl,Stp P U am σ s.heap am' r.2.2 h'→c.I U am' r.2.2 h'→FR c G U env r.2.1 am' r.2.2 h'→s.toks≤tk→FlR c U am' r.2.2 h' fl r.1→Q fl { s with heap:=h',toks:=tk }
theorem PostS.after {r:Ctl×Loc×St} {Q:Flow→Shared→Prop} {am₁:List Addr} {σ₁:St} {h₁:Heap} {tk₁:Nat} (p:PostS c G P U env am s σ r Q) (y:Stp P U am σ s.heap am₁ σ₁ h₁) (t:s.toks≤tk₁):PostS c G P U env am₁ { s with heap:=h₁,toks:=tk₁ } σ₁ r Q:=
 fun am' h' tk fl z I F t' f=>p am' h' tk fl (y.trans z) I F (Nat.le_trans t t') f
theorem PostS.at {r r':Ctl×Loc×St} {Q:Flow→Shared→Prop} (p:PostS c G P U env am s σ r Q) (e:r'=r):PostS c G P U env am s σ r' Q:=e▸p
theorem PostS.ats {r r':Ctl×Loc×St} {Q:Flow→Shared→Prop} (p:PostS c G P U env am s σ r Q) (e:some r'=some r):PostS c G P U env am s σ r' Q:=Option.some.inj e▸p
noncomputable def SS (c:Cx) (G:Ctx) (RA:Around→Prop) (st:Stmt) (f:Loc→St→Option (Ctl×Loc×St)):Prop:=
 ∀ P U A env ρ am σ r (s:Shared) Q,RA A→0<s.toks→Outer P U env→c.I U am σ s.heap→FR c G U env ρ am σ s.heap→f ρ σ=some r→PostS c G P U env am s σ r Q→wpAny c.M A (exec st env) Q NoE s
noncomputable def SSs (c:Cx) (G:Ctx) (RA:Around→Prop) (st:List Stmt) (f:Loc→St→Option (Ctl×Loc×St)):Prop:=
 ∀ P U A env ρ am σ r (s:Shared) Q,RA A→0<s.toks→Outer P U env→c.I U am σ s.heap→FR c G U env ρ am σ s.heap→f ρ σ=some r→PostS c G P U env am s σ r Q→wpAny c.M A (execs st env) Q NoE s
noncomputable def SSsZ (z:Nat) (c:Cx) (G:Ctx) (RA:Around→Prop) (st:List Stmt) (f:Loc→St→Option (Ctl×Loc×St)):Prop:=
 ∀ P U A env ρ am σ r (s:Shared) Q,RA A→z≤s.toks→Outer P U env→c.I U am σ s.heap→FR c G U env ρ am σ s.heap→f ρ σ=some r→PostS c G P U env am s σ r Q→wpAny c.M A (execs st env) Q NoE s
theorem seq_on {g:Loc→St→Option (Ctl×Loc×St)} {q:Option (Ctl×Loc×St)} {r:Ctl×Loc×St} {X:Prop} (e:q.bind (seqC g)=some r) (k1:∀ ρ σ,q=some (.next,ρ,σ)→g ρ σ=some r→X) (k2:∀ v ρ σ,q=some (.ret v,ρ,σ)→(.ret v,ρ,σ)=r→X):X:=
 bindI e fun a e1 e=>a.casesOn (motive:=fun a=>q=some a→seqC g a=some r→X) (fun t=>t.casesOn (motive:=fun t=>∀ z,q=some (t,z)→seqC g (t,z)=some r→X) (fun z e1 e=>k1 z.1 z.2 e1 e) fun v z e1 e=>k2 v z.1 z.2 e1 (Option.some.inj e)) e1 e
theorem SSs_nil:SSs c G RA [] fun ρ σ=>some (.next,ρ,σ):=fun P U A env ρ am σ r s Q rA ht o I F e p=>wpAny_execs_nil (p.ats e am s.heap s.toks .next Stp.refl I F (Nat.le_refl _) rfl)
theorem SSs_cons {st:Stmt} {rest:List Stmt} {f g:Loc→St→Option (Ctl×Loc×St)} (h:SS c G RA st f) (hs:SSs c G RA rest g) :
  SSs c G RA (st :: rest) fun ρ σ=>(f ρ σ).bind (seqC g):=
 fun P U A env ρ am σ r s Q rA ht o I F e p=>seq_on e (fun ρ₁ σ₁ e1 e=>wpAny_execs_cons (h P U A env ρ am σ _ s _ rA ht o I F e1 fun am₁ h₁ tk₁ fl y₁ I₁ F₁ t₁ f₁=>by
   subst f₁; exact hs P U A env ρ₁ am₁ σ₁ r _ Q rA (Nat.lt_of_lt_of_le ht t₁) o I₁ F₁ e (p.after y₁ t₁)))
  fun v ρ₁ σ₁ e1 e=>wpAny_execs_cons (h P U A env ρ am σ _ s _ rA ht o I F e1 fun am₁ h₁ tk₁ fl y₁ I₁ F₁ t₁ f₁=>e1_2 f₁ fun u ef R=>by
   subst ef; exact p.at e am₁ h₁ tk₁ _ y₁ I₁ F₁ t₁ ⟨u,rfl,R⟩)
noncomputable def plainValue (e:Expr):Bool:=![8,9,10].contains e.ctorIdx
theorem swaps_plain {e:Expr} {t:Option Expr} {n:Nat} {env:Env}:plainValue e=true→swapsWith e t n env=pure false:=by
 cases e <;> first | exact fun _=>rfl | exact noF
theorem Outer.p {P U:Addr→Prop} {env:Env} (o:Outer P U env) {am am':List Addr} {σ σ':St} {h h':Heap} (y:Stp U U am σ h am' σ' h'):Stp P U am σ h am' σ' h':=y.weaken o.sub
theorem SS_asg {x:Str} {p' pos:Pos} {i:Nat} {e:Expr} {f:Loc→St→Option (V×St)} (gi:G.Inj) (hn:G.names[i]?=some (some x)) (hk:storeKind G x=true) (hp:plainValue e=true) (h:SE c G RA e f) :
  SS c G RA (.Assign [.Name x p'] e pos) fun ρ σ=>(f ρ σ).map fun (v,σ₁)=>(.next,ρ.set i (some v),σ₁):=
 fun P U A env ρ am σ r s Q rA ht o I F e' p=>mapP e' fun v σ₁ e1 e'=>wpAny_Assign_Name (h U A env ρ am σ v _ s _ rA ht I F e1 fun am₁ h₁ tk₁ u y₁ I₁ R₁ t₁=>
  store_ok (s:={ s with heap:=h₁,toks:=tk₁ }) gi o I₁ (F.step y₁ fun _ p=>p) hn hk R₁ fun h₂ tk₂ y₂ I₂ F₂ t₂=>p.at e' am₁ h₂ tk₂ .next ((o.p y₁).trans y₂) I₂ F₂ (Nat.le_trans t₁ t₂) rfl) (swaps_plain hp)
theorem SS_asgI {oe ie e:Expr} {p' pos:Pos} {fo fi f:Loc→St→Option (V×St)} (hp:plainValue e=true) (h:SE c G RA e f) (ho:SE c G RA oe fo) (hi:SE c G RA ie fi) :
  SS c G RA (.Assign [.Subscript oe ie p'] e pos) fun ρ σ=>(f ρ σ).bind fun (v,σ₁)=>(fo ρ σ₁).bind fun (vo,σ₂)=>(fi ρ σ₂).bind fun (vi,σ₃)=>(setIdx vo vi v σ₃).map fun σ₄=>(.next,ρ,σ₄):=
 fun P U A env ρ am σ r s Q rA ht o I F e' p=>bindP e' fun v σ₁ e1 e'=>bindP e' fun vo σ₂ e2 e'=>bindP e' fun vi σ₃ e3 e'=>mapI e' fun σ₄ e4 e'=>wpAny_Assign_Subscript (h U A env ρ am σ v σ₁ s _ rA ht I F e1 fun am₁ h₁ tk₁ u y₁ I₁ R₁ t₁=>
  ho U A env ρ am₁ σ₁ vo σ₂ _ _ rA (Nat.lt_of_lt_of_le ht t₁) I₁ (F.step y₁ fun _ p=>p) e2 fun am₂ h₂ tk₂ uo y₂ I₂ R₂ t₂=>hi U A env ρ am₂ σ₂ vi σ₃ _ _ rA (Nat.lt_of_lt_of_le ht (Nat.le_trans t₁ t₂)) I₂ (F.step (y₁.trans y₂) fun _ p=>p) e3 fun am₃ h₃ tk₃ ui y₃ I₃ R₃ t₃=>
  setIdx_ok (s:={ s with heap:=h₃,toks:=tk₃ }) I₃ (R₂.step y₃) R₃ (R₁.step (y₂.trans y₃)) e4 fun am₄ h₄ tk₄ y₄ I₄ t₄=>
   have y:=((y₁.trans y₂).trans y₃).trans y₄
   p.at e' am₄ h₄ tk₄ .next (o.p y) I₄ (F.step y fun _ p=>p) (Nat.le_trans t₁ (Nat.le_trans t₂ (Nat.le_trans t₃ t₄))) rfl) (swaps_plain hp)
theorem SS_asgA {oe e:Expr} {nm:Str} {a:Nat} {p' pos:Pos} {fo f:Loc→St→Option (V×St)} (H:c.Cls) (hk:attrN[a]?=some nm) (hp:plainValue e=true) (h:SE c G RA e f) (ho:SE c G RA oe fo) :
  SS c G RA (.Assign [.Attribute oe nm p'] e pos) fun ρ σ=>(f ρ σ).bind fun (v,σ₁)=>(fo ρ σ₁).bind fun (vo,σ₂)=>(setAttr vo a v σ₂).map fun σ₃=>(.next,ρ,σ₃):=
 fun P U A env ρ am σ r s Q rA ht o I F e' p=>bindP e' fun v σ₁ e1 e'=>bindP e' fun vo σ₂ e2 e'=>mapI e' fun σ₄ e4 e'=>plainObj_wpAny_Assign_Attribute (h U A env ρ am σ v σ₁ s _ rA ht I F e1 fun am₁ h₁ tk₁ u y₁ I₁ R₁ t₁=>
  ho U A env ρ am₁ σ₁ vo σ₂ _ _ rA (Nat.lt_of_lt_of_le ht t₁) I₁ (F.step y₁ fun _ p=>p) e2 fun am₂ h₂ tk₂ uo y₂ I₂ R₂ t₂=>setAttr_ok (s:={ s with heap:=h₂,toks:=tk₂ }) H hk I₂ R₂ (R₁.step y₂) e4 fun am₄ h₄ tk₄ y₄ I₄ t₄=>
   have y:=(y₁.trans y₂).trans y₄
   p.at e' am₄ h₄ tk₄ .next (o.p y) I₄ (F.step y fun _ p=>p) (Nat.le_trans t₁ (Nat.le_trans t₂ t₄)) rfl) (swaps_plain hp)
theorem SS_ret {e:Expr} {pos:Pos} {f:Loc→St→Option (V×St)} (h:SE c G RA e f):SS c G RA (.Return (some e) pos) fun ρ σ=>(f ρ σ).map fun (v,σ₁)=>(.ret v,ρ,σ₁):=
 fun P U A env ρ am σ r s Q rA ht o I F e' p=>mapP e' fun v σ₁ e1 e'=>wpAny_Return_some (h U A env ρ am σ v _ s _ rA ht I F e1 fun am₁ h₁ tk₁ u y₁ I₁ R₁ t₁=>p.at e' am₁ h₁ tk₁ (.ret u) (o.p y₁) I₁ (F.step y₁ fun _ p=>p) t₁ ⟨u,rfl,R₁⟩)
theorem SS_ret0 {pos:Pos}:SS c G RA (.Return none pos) fun ρ σ=>some (.ret .none,ρ,σ):=
 fun P U A env ρ am σ r s Q rA ht o I F e' p=>wpAny_Return_none (p.ats e' am s.heap s.toks (.ret .none) Stp.refl I F (Nat.le_refl _) ⟨_,rfl,VR.none⟩)
theorem SS_ifs {t:Expr} {a b:List Stmt} {pos:Pos} {ft:Loc→St→Option (Bool×St)} {fa fb:Loc→St→Option (Ctl×Loc×St)} (h:STt c G RA t ft) (ha:SSs c G RA a fa) (hb:SSs c G RA b fb) :
  SS c G RA (.If t a b pos) fun ρ σ=>(ft ρ σ).bind fun (q,σ₁)=>if q then fa ρ σ₁ else fb ρ σ₁:=
 fun P U A env ρ am σ r s Q rA ht o I F e' p=>bindP e' fun q σ₁ e1 e'=>wpAny_If (h U A env ρ am σ q σ₁ s _ rA ht I F e1 fun am₁ h₁ tk₁ y₁ I₁ t₁=>by
  cases q with
  | true=>exact ha P U A env ρ am₁ σ₁ r { s with heap:=h₁,toks:=tk₁ } Q rA (Nat.lt_of_lt_of_le ht t₁) o I₁ (F.step y₁ fun _ p=>p) e' (p.after (o.p y₁) t₁)
  | false=>exact hb P U A env ρ am₁ σ₁ r { s with heap:=h₁,toks:=tk₁ } Q rA (Nat.lt_of_lt_of_le ht t₁) o I₁ (F.step y₁ fun _ p=>p) e' (p.after (o.p y₁) t₁))
end
end
section
section
variable {c:Cx} {G:Ctx} {RA:Around→Prop} {P U:Addr→Prop} {am:List Addr} {σ σ':St} {s:Shared} {env:Env} {ρ:Loc}
noncomputable def opOf:BO→Operator
 | .add=>.Add
 | .sub=>.Sub
 | .mod=>.Mod
 | .mul=>.Mult
 | .band=>.BitAnd
theorem op_bin (o:BO):Op2 c RA (binaryOp (opOf o)) (binop o):=by
 cases o
 ·exact op_add
 ·exact op_sub
 ·exact op_mod
 ·exact op_mul
 ·exact op_band
theorem op_aug (o:BO):Op2 c RA (inplaceOp (opOf o)) fun a b _=>augop o a b:=
 o.casesOn op_iadd op_isub (fun _ _ _ _ _ _ _ _ _ _ _ _ _ _ _ _=>noS) (fun _ _ _ _ _ _ _ _ _ _ _ _ _ _ _ _=>noS) fun _ _ _ _ _ _ _ _ _ _ _ _ _ _ _ _=>noS
theorem SS_aug {x:Str} {p' pos:Pos} {i:Nat} {op:BO} {e:Expr} {f:Loc→St→Option (V×St)} (gi:G.Inj) (hn:G.names[i]?=some (some x)) (hk:storeKind G x=true) (h:SE c G RA e f) :
  SS c G RA (.AugAssign (.Name x p') (opOf op) e pos) fun ρ σ=>augF op i (f ρ σ) ρ ρ[i]?:=
 fun P U A env ρ am σ r s Q rA ht o I F e' p=>bindI e' fun old e0 e'=>bindP e' fun v σ₁ e1 e'=>mapI e' fun w e2 e'=>bindI e0 fun oo hold eo=>wpAny_AugAssign_Name (load_slot F hn (slot_of_store hk) (hold.trans (congrArg some eo)) fun uo Ro=>
  h U A env ρ am σ v _ s _ rA ht I F e1 fun am₁ h₁ tk₁ u y₁ I₁ R₁ t₁=>op_aug (RA:=RA) op U A am₁ _ _ uo u old v w _ rA (Nat.lt_of_lt_of_le ht t₁) I₁ (Ro.step y₁) R₁ e2 fun am₂ h₂ tk₂ u₂ y₂ I₂ R₂ t₂=>
   have y:=y₁.trans y₂
   store_ok (s:={ s with heap:=h₂,toks:=tk₂ }) gi o I₂ (F.step y fun _ p=>p) hn hk R₂ fun h₃ tk₃ y₃ I₃ F₃ t₃=>p.at e' am₂ h₃ tk₃ .next ((o.p y).trans y₃) I₃ F₃ (Nat.le_trans t₁ (Nat.le_trans t₂ t₃)) rfl)
theorem augStore_plain {i:Expr}:plainSub i=true→∀ (ov iv new:Value),augStore i ov iv new=(do holding [new,ov,iv] (setItem ov iv new); release [new,ov,iv] []; pure .next):=by
 cases i <;> first | exact fun _ _ _ _=>rfl | exact noF
theorem SS_augI {oe ie e:Expr} {p' pos:Pos} {op:BO} {fo fi f:Loc→St→Option (V×St)} (hp:plainSub ie=true) (ho:SE c G RA oe fo) (hi:SE c G RA ie fi) (h:SE c G RA e f) :
  SS c G RA (.AugAssign (.Subscript oe ie p') (opOf op) e pos) fun ρ σ=>(fo ρ σ).bind fun (vo,σ₁)=>(fi ρ σ₁).bind fun (vi,σ₂)=>(index vo vi σ₂).bind fun old=>
   (f ρ σ₂).bind fun (v,σ₃)=>(augop op old v).bind fun r=>(setIdx vo vi r σ₃).map fun σ₄=>(.next,ρ,σ₄):=
 fun P U A env ρ am σ r s Q rA ht o I F e' p=>bindP e' fun vo σ₁ e1 e'=>bindP e' fun vi σ₂ e2 e'=>bindI e' fun old e3 e'=>bindP e' fun v σ₃ e4 e'=>bindI e' fun w e5 e'=>mapI e' fun σ₄ e6 e'=>
 wpAny_AugAssign_SubscriptAny (ho U A env ρ am σ vo σ₁ s _ rA ht I F e1 fun am₁ h₁ tk₁ uo y₁ I₁ R₁ t₁=>hi U A env ρ am₁ σ₁ vi σ₂ _ _ rA (Nat.lt_of_lt_of_le ht t₁) I₁ (F.step y₁ fun _ p=>p) e2 fun am₂ h₂ tk₂ ui y₂ I₂ R₂ t₂=>
  e2_3 (getItem_ok (A:=A) (s:={ s with heap:=h₂,toks:=tk₂ }) (Q:=fun old s₃=>wpAny c.M A (eval e env) (fun v s₄=>wpAny c.M A (inplaceOp (opOf op) old v) (fun new s₅=>wpAny c.M A (setItem uo ui new) (fun _=>Q .next) NoE s₅) NoE s₄) NoE s₃) I₂ R₂
   (fun am₃ h₃ tk₃ ud y₃ I₃ R₃ t₃=>h U A env ρ am₃ σ₂ v σ₃ _ _ rA (Nat.lt_of_lt_of_le ht (Nat.le_trans t₁ (Nat.le_trans t₂ t₃))) I₃ (F.step ((y₁.trans y₂).trans y₃) fun _ p=>p) e4 fun am₄ h₄ tk₄ u y₄ I₄ R₄ t₄=>
    op_aug (RA:=RA) op U A am₄ _ _ ud u old v w _ rA (Nat.lt_of_lt_of_le ht (Nat.le_trans t₁ (Nat.le_trans t₂ (Nat.le_trans t₃ t₄)))) I₄ (R₃.step y₄) R₄ e5 fun am₅ h₅ tk₅ u₅ y₅ I₅ R₅ t₅=>
    setIdx_ok (s:={ s with heap:=h₅,toks:=tk₅ }) I₅ (R₁.step (y₂.trans (y₃.trans (y₄.trans y₅)))) (R₂.step (y₃.trans (y₄.trans y₅))) R₅ e6 fun am₆ h₆ tk₆ y₆ I₆ t₆=>
     have y:=y₁.trans (y₂.trans (y₃.trans (y₄.trans (y₅.trans y₆))))
     p.at e' am₆ h₆ tk₆ .next (o.p y) I₆ (F.step y fun _ p=>p) (Nat.le_trans t₁ (Nat.le_trans t₂ (Nat.le_trans t₃ (Nat.le_trans t₄ (Nat.le_trans t₅ t₆))))) rfl) (R₁.step y₂) e3) fun _ _ _ _ hg=>hg) (fun ov iv new=>augStore_plain hp ov iv new)
theorem SS_augA {oe e:Expr} {nm:Str} {a:Nat} {p' pos:Pos} {op:BO} {fo f:Loc→St→Option (V×St)} (H:c.Cls) (hk:attrN[a]?=some nm) (ho:SE c G RA oe fo) (h:SE c G RA e f) :
  SS c G RA (.AugAssign (.Attribute oe nm p') (opOf op) e pos) fun ρ σ=>(fo ρ σ).bind fun (vo,σ₁)=>(getAttr vo a σ₁).bind fun old=>
   (f ρ σ₁).bind fun (v,σ₂)=>(augop op old v).bind fun r=>(setAttr vo a r σ₂).map fun σ₃=>(.next,ρ,σ₃):=
 fun P U A env ρ am σ r s Q rA ht o I F e' p=>bindP e' fun vo σ₁ e1 e'=>bindI e' fun old e3 e'=>bindP e' fun v σ₂ e4 e'=>bindI e' fun w e5 e'=>mapI e' fun σ₃ e6 e'=>
 wpAny_AugAssign_AttributeAny (ho U A env ρ am σ vo σ₁ s _ rA ht I F e1 fun am₁ h₁ tk₁ uo y₁ I₁ R₁ t₁=>getAttr_ok (s:={ s with heap:=h₁,toks:=tk₁ }) H hk I₁ R₁ e3 fun am₃ h₃ tk₃ ud y₃ I₃ R₃ t₃=>
  h U A env ρ am₃ σ₁ v σ₂ _ _ rA (Nat.lt_of_lt_of_le ht (Nat.le_trans t₁ t₃)) I₃ (F.step (y₁.trans y₃) fun _ p=>p) e4 fun am₄ h₄ tk₄ u y₄ I₄ R₄ t₄=>
  op_aug (RA:=RA) op U A am₄ _ _ ud u old v w _ rA (Nat.lt_of_lt_of_le ht (Nat.le_trans t₁ (Nat.le_trans t₃ t₄))) I₄ (R₃.step y₄) R₄ e5 fun am₅ h₅ tk₅ u₅ y₅ I₅ R₅ t₅=>
  setAttr_ok (s:={ s with heap:=h₅,toks:=tk₅ }) H hk I₅ (R₁.step (y₃.trans (y₄.trans y₅))) R₅ e6 fun am₆ h₆ tk₆ y₆ I₆ t₆=>
   have y:=y₁.trans (y₃.trans (y₄.trans (y₅.trans y₆)))
   p.at e' am₆ h₆ tk₆ .next (o.p y) I₆ (F.step y fun _ p=>p) (Nat.le_trans t₁ (Nat.le_trans t₃ (Nat.le_trans t₄ (Nat.le_trans t₅ t₆)))) rfl)
end
end
section
section
variable {prog:Program} {w:World} {Z:Stat} {hb:Heap} {P P' U U' N:Addr→Prop} {am am':List Addr} {σ σ':St} {h h₁ h':Heap}
theorem Inv.enter (I:Inv prog w Z hb U am σ h) (k:∀ b o,h.get? b=some o→h₁.get? b=some o) (hN:∀ a,N a→h.get? a=none∧∃ o,h₁.get? a=some o) :
  Inv prog w Z hb (fun a=>U a∨N a) am σ h₁∧∀ a o,Fz U am σ h a o→Fz (fun a=>U a∨N a) am σ h₁ a o:=
 have hF:∀ a o,Fz U am σ h a o→Fz (fun a=>U a∨N a) am σ h₁ a o:=fun a o e=>⟨k a o e.1,fun x=>x.elim (fun x=>x.elim (fun x=>e.2 (.inl x)) fun x=>noH e.1 (hN a x).1) fun x=>e.2 (.inr x)⟩
 ⟨⟨fun b o e=>k b o (I.base b o e),I.len,fun n O a h1 h2 h3=>e0_3 (I.live n O a h1 h2 h3) fun z h4 h5=>e1_2 z fun o ho hr=>⟨⟨o,k a o ho,hr.mono prog w hF List.prefix_rfl⟩,fun x=>x.elim h4 fun x=>noH ho (hN a x).1,h5⟩,I.inj,
  fun n xs a h1 h2=>(I.fl n xs a h1 h2).mono hF List.prefix_rfl,fun a u=>u.elim (fun u=>(I.out a u).imp id fun z=>z.elim fun o q=>⟨o,k a o q⟩) fun u=>⟨I.nob (hN a u).1,(hN a u).2⟩⟩,hF⟩
theorem Inv.exit (I:Inv prog w Z hb U' am σ h) (hU:∀ a,U a→U' a):Inv prog w Z hb U am σ h∧∀ a o,Fz U' am σ h a o→Fz U am σ h a o:=
 have hF:∀ a o,Fz U' am σ h a o→Fz U am σ h a o:=fun a o e=>⟨e.1,fun x=>e.2 (x.imp (hU a) id)⟩
 ⟨⟨I.base,I.len,fun n O a h1 h2 h3=>e0_3 (I.live n O a h1 h2 h3) fun z h4 h5=>⟨e1_2 z fun o ho hr=>⟨o,ho,hr.mono prog w hF List.prefix_rfl⟩,fun u=>h4 (hU a u),h5⟩,I.inj,fun n xs a h1 h2=>(I.fl n xs a h1 h2).mono hF List.prefix_rfl,fun a u=>I.out a (hU a u)⟩,hF⟩
theorem Inv.lose (I:Inv prog w Z hb U' am σ h) {a:Addr} (hs:∀ b o,b≠a→h.get? b=some o→h'.get? b=some o) (ha:U' a) (hU:∀ b,U b→U' b∧b≠a):Inv prog w Z hb U am σ h'∧∀ b o,Fz U' am σ h b o→Fz U am σ h' b o:=
 have hF:∀ b ob,Fz U' am σ h b ob→Fz U am σ h' b ob:=fun b ob e=>⟨hs b ob (fun q=>e.2 (.inl (q▸ha))) e.1,fun x=>e.2 (x.imp (fun x=>(hU b x).1) id)⟩
 ⟨⟨fun b ob e=>hs b ob (fun q=>noH e (q▸(I.out a ha).1)) (I.base b ob e),I.len,fun n O b h1 h2 h3=>e0_3 (I.live n O b h1 h2 h3) fun z h4 h5=>⟨e1_2 z fun o ho hr=>⟨o,hs b o (fun q=>h4 (q▸ha)) ho,hr.mono prog w hF List.prefix_rfl⟩,fun u=>h4 (hU b u).1,h5⟩,I.inj,
  fun n xs b h1 h2=>(I.fl n xs b h1 h2).mono hF List.prefix_rfl,fun b u=>(I.out b (hU b u).1).imp id fun z=>z.elim fun o e=>⟨o,hs b o (hU b u).2 e⟩⟩,hF⟩
theorem Stp.around (e:∀ a o,Fz U am σ h a o→Fz U' am σ h₁ a o) (k:∀ b o,h.get? b=some o→h₁.get? b=some o) (hP:∀ a,P a→P' a) (hU:∀ a o,Fz U' am' σ' h' a o→Fz U am' σ' h' a o) (y:Stp P' U' am σ h₁ am' σ' h'):Stp P U am σ h am' σ' h':=
 ⟨y.pre,fun a o p q=>y.keepP a o (hP a p) (k a o q),fun a o q=>hU a o (y.keepF a o (e a o q))⟩
end
section
variable {c:Cx} {G:Ctx} {RA:Around→Prop} {P U U':Addr→Prop} {am am':List Addr} {σ σ':St} {s:Shared} {env:Env} {ρ ρ':Loc} {h h₁ h':Heap}
theorem FR.enter (F:FR c G U env ρ am σ h) (e:∀ a o,Fz U am σ h a o→Fz U' am σ h₁ a o) (k:∀ b o,h.get? b=some o→h₁.get? b=some o) (hU:∀ a,U a→U' a):FR c G U' env ρ am σ h₁:=F.move e List.prefix_rfl (fun a o _=>k a o) fun a q=>hU a (F.mine a q)
inductive Tgts (G:Ctx):List Expr→List Nat→Prop
 | nil:Tgts G [] []
 | cons {x:Str} {p:Pos} {i:Nat} {es:List Expr} {is:List Nat}:G.names[i]?=some (some x)→storeKind G x=true→Tgts G es is→Tgts G (.Name x p :: es) (i :: is)
theorem Tgts.each {es:List Expr} {is:List Nat} (T:Tgts G es is) (env:Env):(assignEach es env).length=is.length∧(assignEach es env).findIdx? (·.1)=none:=
 T.rec (motive:=fun es is _=>(assignEach es env).length=is.length∧(assignEach es env).findIdx? (·.1)=none) ⟨rfl,rfl⟩ fun {x p i es is} _ _ _ ih=>⟨congrArg (·+1) ih.1,by
  refine (?_:List.findIdx? _ ((false,_) :: assignEach es env)=_)
  rw [List.findIdx?_cons,ih.2]; rfl⟩
theorem assign_all {A:Around} {es:List Expr} {is:List Nat} (gi:G.Inj) (o:Outer P U env) (T:Tgts G es is):∀ {us:List Value} {vs:List V} {ρ ρ':Loc} {s:Shared} {Q:Unit→Shared→Prop},c.I U am σ s.heap→FR c G U env ρ am σ s.heap→c.Rs U am σ s.heap us vs→setAll is vs ρ=some ρ'→
  (∀ h' tk,Stp P U am σ s.heap am σ h'→c.I U am σ h'→FR c G U env ρ' am σ h'→s.toks≤tk→Q () { s with heap:=h',toks:=tk })→wpAny c.M A (assignInOrder ((assignEach es env).map (·.2)) us) Q NoE s:=by
 induction T with
 | nil=>exact fun {us vs ρ ρ' s Q} I F R e h=>nilO_inv e fun hv e=>(R.at hv).onNil (assignInOrder_nil (h s.heap s.toks Stp.refl I (Option.some.inj e▸F) (Nat.le_refl _)))
 | cons hn hk T ih=>
  intro us vs ρ ρ' s Q I F R e h
  cases vs with
  | nil=>exact noS e
  | cons v vs=>exact R.onCons fun u us r rs=>assignInOrder_cons (wpAny_assign_Name (store_ok gi o I F hn hk r fun h₁ tk₁ y₁ I₁ F₁ t₁=>ih (s:={ s with heap:=h₁,toks:=tk₁ }) I₁ F₁ (rs.step y₁) e fun h₂ tk₂ y₂ I₂ F₂ t₂=>h h₂ tk₂ (y₁.trans y₂) I₂ F₂ (Nat.le_trans t₁ t₂)))
theorem setAll_length {is:List Nat}:∀ {vs:List V} {ρ ρ':Loc},setAll is vs ρ=some ρ'→is.length=vs.length:=
 is.rec (motive:=fun is=>∀ {vs:List V} {ρ ρ':Loc},setAll is vs ρ=some ρ'→is.length=vs.length) (fun e=>nilO_inv e fun h _=>h▸rfl) fun x is ih {vs ρ ρ'}=>vs.casesOn noS fun v vs e=>congrArg (·+1) (ih (vs:=vs) e)
noncomputable def SqR (c:Cx) (U:Addr→Prop) (am:List Addr) (σ:St) (h:Heap) (xs:List V) (u:Value):Prop:=∃ l its,u = .ref l∧(h.IsList l its∨IsTup h l its)∧c.Rs U am σ h its.toList xs
theorem seqItems_R {v:V} {u:Value} {xs:List V} (R:c.R U am σ h u v) (e:seqItems v=some xs):SqR c U am σ h xs u:=
 V.sw_inv e (fun _ _=>noS) (fun _ _=>noS) (fun ys hv e=>(R.at hv).onList (P:=SqR c U am σ h xs) fun a o its n h1 h2 h3 h4=>⟨a,its,rfl,.inl ⟨_,h1.1,h2,_,h3⟩,h4.at (Option.some.inj e)⟩)
  (fun ys hv e=>(R.at hv).onTup (P:=SqR c U am σ h xs) fun a o its n h1 h2 h3 h4=>⟨a,its,rfl,.inr ⟨_,h1.1,h2,_,h3⟩,h4.at (Option.some.inj e)⟩) fun _ _=>noS
theorem unpack_ok {A:Around} {es:List Expr} {is:List Nat} {k:Nat} {p:Pos} {u:Value} {v:V} {vs:List V} {Q:Unit→Shared→Prop} (hh:A.handled=none) (gi:G.Inj) (o:Outer P U env) (T:Tgts G es is) (I:c.I U am σ s.heap) (F:FR c G U env ρ am σ s.heap)
  (R:c.R U am σ s.heap u v) (ev:seqItems v=some vs) (e:setAll is vs ρ=some ρ')
  (h:∀ h' tk,Stp P U am σ s.heap am σ h'→c.I U am σ h'→FR c G U env ρ' am σ h'→s.toks≤tk→Q () { s with heap:=h',toks:=tk }):wpAny c.M A (assign (.Tuple es k p) env u) Q NoE s:=
 e2_3 (seqItems_R R ev) fun l its hu hl hr=>by
  have t:=T.each env
  have hn:(assignEach es env).length=its.size:=t.1.trans ((setAll_length e).trans (hr.length.symm.trans Array.length_toList))
  have fin:∀ h',Heap.ExtBut s.heap.objs.size s.heap h'→wpAny c.M A (assignInOrder ((assignEach es env).map (·.2)) its.toList) Q NoE { s with heap:=h' }:=fun h₁ he=>
   e0_2 (I.kept (P:=U) (h':=h₁) fun b o q=>he b o (Nat.ne_of_lt (Heap.lt_size q)) q) fun I₁ y₁=>assign_all (s:={ s with heap:=h₁ }) gi o T I₁ (F.step y₁ fun _ p=>p) (hr.step y₁) e fun h₂ tk₂ y₂ I₂ F₂ t₂=>h h₂ tk₂ ((o.p y₁).trans y₂) I₂ F₂ t₂
  rw [hu]
  refine hl.elim (fun hl=>?_) fun hl=>assign_Tuple_tuple hh hl hn t.2 fin
  rw [PyProof.Rows.assign_Tuple]
  refine wpAny_bind (wpAny_standAt ?_)
  unfold unpack
  rw [hn,t.2]
  exact wpAny_bind (wpAny_holding (kun_itemsOf hh hl fin))
noncomputable def notTuple (e:Expr):Bool:=!(e.ctorIdx == 25)
theorem swapsSole_plain {es:List Expr} {k:Nat} {p':Pos} {env:Env} {e:Expr}:notTuple e=true→swappedStores [.Tuple es k p'] e env=pure none:=by
 cases e <;> first | exact fun _=>rfl | exact noF
theorem SS_asgT {es:List Expr} {is:List Nat} {k:Nat} {p' pos:Pos} {e:Expr} {f:Loc→St→Option (V×St)} (hA:∀ A,RA A→RoomE A) (gi:G.Inj) (T:Tgts G es is) (hp:plainValue e=true) (hnt:notTuple e=true) (h:SE c G RA e f) :
  SS c G RA (.Assign [.Tuple es k p'] e pos) fun ρ σ=>(f ρ σ).bind fun (v,σ₁)=>(seqItems v).bind fun vs=>(setAll is vs ρ).map fun ρ'=>(.next,ρ',σ₁):=
 fun P U A env ρ am σ r s Q rA ht o I F e' p=>bindP e' fun v σ₁ e1 e'=>bindI e' fun vs e2 e'=>mapI e' fun ρ' e3 e'=>
 Assign_Tuple (h U A env ρ am σ v _ s _ rA ht I F e1 fun am₁ h₁ tk₁ u y₁ I₁ R₁ t₁=>unpack_ok (s:={ s with heap:=h₁,toks:=tk₁ }) (hA A rA).hh gi o T I₁ (F.step y₁ fun _ p=>p) R₁ e2 e3 fun h₂ tk₂ y₂ I₂ F₂ t₂=>
  p.at e' am₁ h₂ tk₂ .next ((o.p y₁).trans y₂) I₂ F₂ (Nat.le_trans t₁ t₂) rfl) (by unfold swapsWithSole; exact swaps_plain hp) (swapsSole_plain hnt)
theorem isNone_eq {v:V}:v.isNone=true→v = .none:=v.casesOn (motive_1:=fun v=>v.isNone=true→v = .none) (fun _=>rfl) (fun _=>noF) (fun _=>noF) (fun _=>noF) (fun _=>noF) (fun _=>noF) (fun _ _=>noF) fun _=>noF
theorem SS_expr {e:Expr} {pos:Pos} {f:Loc→St→Option (V×St)} (hp:plainValue e=true) (h:SE c G RA e f) :
  SS c G RA (.Expr e pos) fun ρ σ=>(f ρ σ).bind fun (v,σ₁)=>if v.isNone then some (.next,ρ,σ₁) else none:=
 fun P U A env ρ am σ r s Q rA ht o I F e' p=>bindP e' fun v σ₁ e1 e'=>ite_some e' fun hv e'=>
 wpAny_Expr (h U A env ρ am σ v _ s _ rA ht I F e1 fun am₁ h₁ tk₁ u y₁ I₁ R₁ t₁=>(R₁.at (isNone_eq hv)).onNone (p.ats e' am₁ h₁ tk₁ .next (o.p y₁) I₁ (F.step y₁ fun _ p=>p) t₁ rfl)) (by unfold interactive; rw [F.fn]; rfl) (swaps_plain hp)
end
end
section
theorem noE {α:Type} {M:Model} {A:Around} {t:Sem α} {Q:α→Shared→Prop} {E:Value→Shared→Prop} {s:Shared} (h:wpAny M A t Q NoE s):wpAny M A t Q E s:=
 wpAny_mono h (fun _ _ x=>x) fun _ _ x=>x.elim
section
variable {c:Cx} {G:Ctx} {RA:Around→Prop} {P U U':Addr→Prop} {am am':List Addr} {σ σ':St} {s:Shared} {env:Env} {ρ ρ':Loc} {h h₁ h':Heap}
noncomputable def WI (c:Cx) (G:Ctx) (P U:Addr→Prop) (env:Env) (ft:Loc→St→Option (Bool×St)) (fb:Loc→St→Option (Ctl×Loc×St)) (r:Ctl×Loc×St) (Q:Flow→Shared→Prop) (n:Nat) (s:Shared):Prop:=
 ∃ am σ ρ,0<s.toks∧c.I U am σ s.heap∧FR c G U env ρ am σ s.heap∧whileN ft fb n ρ σ=some r∧PostS c G P U env am s σ r Q
theorem while_turn {A:Around} {b:List Stmt} {fb:Loc→St→Option (Ctl×Loc×St)} (hb:SSs c G RA b fb) {P U:Addr→Prop} {ft:Loc→St→Option (Bool×St)} {r:Ctl×Loc×St} {Q:Flow→Shared→Prop} {n:Nat} (rA:RA A) (h0:0<s.toks) (o:Outer P U env) (I:c.I U am σ s.heap) (F:FR c G U env ρ am σ s.heap)
  (e:(fb ρ σ).bind (seqC fun ρ σ=>whileN ft fb n ρ σ)=some r) (p:PostS c G P U env am s σ r Q):wpAny c.M A (execs b env) (fun f s₃=>match f with | .next | .cont=>∃ m,m<n+1∧WI c G P U env ft fb r Q m s₃ | .brk=>Q .next s₃ | .ret v=>Q (.ret v) s₃) NoE s:=
 seq_on e (fun ρ₂ σ₂ e2 e=>hb P U A env ρ am σ _ s _ rA h0 o I F e2 fun am₂ h₂ tk₂ fl y₂ I₂ F₂ t₂ f₂=>by
   subst f₂; exact ⟨n,Nat.lt_succ_self n,am₂,σ₂,ρ₂,Nat.lt_of_lt_of_le h0 t₂,I₂,F₂,e,p.after y₂ t₂⟩)
  (fun v ρ₂ σ₂ e2 e=>hb P U A env ρ am σ _ s _ rA h0 o I F e2 fun am₂ h₂ tk₂ fl y₂ I₂ F₂ t₂ f₂=>e1_2 f₂ fun u ef R=>by
   subst ef; exact p.at e am₂ h₂ tk₂ _ y₂ I₂ F₂ t₂ ⟨u,rfl,R⟩)
theorem SS_while {t:Expr} {b:List Stmt} {pos:Pos} {W:Nat} {ft:Loc→St→Option (Bool×St)} {fb:Loc→St→Option (Ctl×Loc×St)} (ht:STt c G RA t ft) (hb:SSs c G RA b fb) :
  SS c G RA (.While t b [] pos) fun ρ σ=>whileN ft fb W ρ σ:=by
 intro P U A env ρ am σ r s Q rA h0 o I F e p
 refine wpAny_While (codeAny_whileLoop (WI c G P U env ft fb r Q) (fun n s w=>e3_5 w fun am σ ρ h0 I F e p=>?_) W ⟨am,σ,ρ,h0,I,F,e,p⟩)
 cases n with
 | zero=>exact noS e
 | succ n=>
  refine bindP e fun q σ₁ e1 e=>?_
  refine noE (ht U A env ρ am σ q σ₁ s _ rA h0 I F e1 fun am₁ h₁ tk₁ y₁ I₁ t₁=>?_)
  have F₁:=F.step y₁ fun _ p=>p
  cases q with
  | true=>exact noE (while_turn (s:={ s with heap:=h₁,toks:=tk₁ }) hb rA (Nat.lt_of_lt_of_le h0 t₁) o I₁ F₁ e (p.after (o.p y₁) t₁))
  | false=>exact wpAny_execs_nil (p.ats e am₁ h₁ tk₁ .next (o.p y₁) I₁ F₁ t₁ rfl)
noncomputable def owns (n:String):Bool:=["enumerate","zip","dict_itemiterator","dict_reverseitemiterator","odict_iterator","itertools.zip_longest","itertools.pairwise"].contains n
theorem letOwned_ok {A:Around} {target:Expr} {J:Addr} {u:Value} {o:Obj} {n:String} {M:Model} {Q:Unit→Shared→Prop} (ho:s.heap.get? J=some o) (hc:o.cls = .type n) (hn:owns n=false) (h:Q () s):wpAny M A (letOwnedTupleGo target (.ref J) u) Q NoE s:=by
 have go:wpAny M A (do
   let (.ref r,.ref a):=(Value.ref J,u) | return
   let o ← load r
   match o.cls,o.data with
   | .type n,.fields vs=>
    if ["enumerate","zip","dict_itemiterator","dict_reverseitemiterator","odict_iterator","itertools.zip_longest","itertools.pairwise"].contains n && vs[0]? == some (rawInt a) then
     rule "for.unpacks-the-owned-tuple"
     updateField r 0 .none
   | _,_=>pure ():Sem Unit) Q NoE s:=by
  cases u <;> first | exact wpAny_pure h | skip
  refine wpAny_bind (wpAny_load ho ?_)
  refine hc▸?_
  unfold owns at hn
  cases o.data <;> first | exact wpAny_pure h | skip
  dsimp only
  refine hn▸?_
  exact wpAny_pure h
 revert target
 intro target
 cases target <;> first | exact wpAny_pure h | exact go
inductive Iter (c:Cx) (A:Around) (J:Addr) (D:Value→Nat→Prop) (U:Addr→Prop) (am:List Addr) (σ:St) (h:Heap) (xs:List V):Prop
 | mk (fp:List Addr) (Pv:Nat→Value→Prop) (Sta:Nat→Heap→Prop)
  (item:∀ i (s:Shared) (Q:Option Value→Shared→Prop),i<xs.length→0<s.toks→Sta i s.heap→(∀ v h' tk,Pv i v→D v tk→Sta (i+1) h'→(∀ b o,b≠J→s.heap.get? b=some o→h'.get? b=some o)→s.toks≤tk→Q (some v) { s with heap:=h',toks:=tk })→wpAny c.M A (pyNext (.ref J)) Q NoE s)
  (done:∀ (s:Shared) (Q:Option Value→Shared→Prop),Sta xs.length s.heap→(∀ h' tk,(∀ b o,b≠J→s.heap.get? b=some o→h'.get? b=some o)→s.toks≤tk→Q none { s with heap:=h',toks:=tk })→wpAny c.M A (pyNext (.ref J)) Q NoE s)
  (frame:∀ i h h',Sta i h→(∀ b ∈ fp,∀ o,h.get? b=some o→h'.get? b=some o)→Sta i h')
  (first:Sta 0 h) (hex:∀ i h',Sta i h'→∃ o n,h'.get? J=some o∧o.cls = .type n∧owns n=false)
  (hfp:∀ b ∈ fp,b=J∨∃ o,Fz U am σ h b o) (hP:∀ i u,i<xs.length→Pv i u→∃ x,xs[i]?=some x∧c.R U am σ h u x)
  (self:∀ i (s:Shared) (Q:Value→Shared→Prop),Sta i s.heap→Q (.ref J) s→wpAny c.M A (pyIter (.ref J)) Q NoE s)
theorem notJ {J b:Addr} (h:b≠J):b ∉ [J]:=fun z=>h (List.mem_singleton.mp z)
theorem Iter.of {A:Around} {J:Addr} {xs:List V} {fp:List Addr} {Pv:Nat→Value→Prop} {Sta:Nat→Heap→Prop} (W:Walks c.prog c.w A J fp [J] xs.length Pv Sta) (h0:Sta 0 h) (hex:∀ i h',Sta i h'→∃ o n,h'.get? J=some o∧o.cls = .type n∧owns n=false)
  (hfp:∀ b ∈ fp,b=J∨∃ o,Fz U am σ h b o) (hP:∀ i u,i<xs.length→Pv i u→∃ x,xs[i]?=some x∧c.R U am σ h u x):Iter c A J (fun _ _=>True) U am σ h xs:=
 .mk fp Pv Sta (fun i s Q hi _ st hQ=>noTk (W.item i s _ _ hi st fun v h' tk p q k t=>hQ v h' tk p trivial q (fun b o hb=>k b o (notJ hb)) t)) (fun s Q st hQ=>noTk (W.done s _ _ st fun h' tk k t=>hQ h' tk (fun b o hb=>k b o (notJ hb)) t))
  W.frame h0 hex hfp hP fun i s Q st q=>W.self i s Q _ st q
section
variable {A:Around} {u:Value} {xs:List V} {Q:Value→Shared→Prop} (hh:A.handled=none) (I:c.I U am σ s.heap)
 (kq:∀ ob,Iter c A s.heap.objs.size (fun _ _=>True) (fun a=>U a∨a=s.heap.objs.size) am σ (s.heap.push ob) xs→ob.isFreed=false→Q (.ref s.heap.objs.size) { s with heap:=s.heap.push ob })
include I
theorem iter_F {ob:Obj} (hf:ob.isFreed=false):∀ a o,Fz U am σ s.heap a o→Fz (fun a=>U a∨a=s.heap.objs.size) am σ (s.heap.push ob) a o:=
 (I.enter (N:=fun a=>a=s.heap.objs.size) pushed fun a e=>e▸⟨get_size _,_,Heap.get?_push_size _ hf⟩).2
include hh kq
theorem iter_list (R:c.R U am σ s.heap u (.list xs)):wpAny c.M A (pyIter u) Q NoE s:=
 R.onList fun l ob its n h1 h2 h3 h4=>
  have hl:s.heap.IsList l its:=⟨_,h1.1,h2,_,h3⟩
  have len:=Array.length_toList.symm.trans h4.length
  wpAny_pyIter_list hl (kq _ (Iter.of (Sta:=fun i h=>h.IsListIter s.heap.objs.size l i∧h.IsList l its) (len▸Walks.list hh _ l (Nat.ne_of_lt (Heap.lt_size h1.1)) its) ⟨⟨_,Heap.get?_push_size _ rfl,rfl,rfl⟩,hl.push _⟩ (fun i h' x=>x.1.elim fun o z=>⟨o,_,z.1,z.2.1,by decide +kernel⟩)
   (fun b hb=>(List.mem_cons.mp hb).imp id fun hb=>⟨_,iter_F I rfl _ _ (List.mem_singleton.mp hb▸h1)⟩) fun i u _ hu=>e1_2 (h4.get' (Array.getElem?_toList.trans hu)) fun x e1 e2=>⟨x,e1,e2.mono (iter_F I rfl) List.prefix_rfl⟩) rfl)
theorem iter_tup (R:c.R U am σ s.heap u (.tup xs)):wpAny c.M A (pyIter u) Q NoE s:=
 R.onTup fun l ob its n h1 h2 h3 h4=>
  have hl:s.heap.IsTuple l its:=⟨_,h1.1,h2,_,h3⟩
  have len:=Array.length_toList.symm.trans h4.length
  wpAny_pyIter_tuple hl (kq _ (Iter.of (Sta:=fun i h=>h.IsTupleIter s.heap.objs.size l i∧h.IsTuple l its) (len▸Walks.tuple hh _ l (Nat.ne_of_lt (Heap.lt_size h1.1)) its) ⟨⟨_,Heap.get?_push_size _ rfl,rfl,rfl⟩,⟨_,pushed _ _ h1.1,h2,_,h3⟩⟩ (fun i h' x=>x.1.elim fun o z=>⟨o,_,z.1,z.2.1,by decide +kernel⟩)
   (fun b hb=>(List.mem_cons.mp hb).imp id fun hb=>⟨_,iter_F I rfl _ _ (List.mem_singleton.mp hb▸h1)⟩) fun i u _ hu=>e1_2 (h4.get' (Array.getElem?_toList.trans hu)) fun x e1 e2=>⟨x,e1,e2.mono (iter_F I rfl) List.prefix_rfl⟩) rfl)
theorem iter_str {l:Txt} (ex:(l.map fun ch=>V.str [ch])=xs) (R:c.R U am σ s.heap u (.str l)):wpAny c.M A (pyIter u) Q NoE s:=
 R.onStr fun x t hx=>by
  subst hx; subst ex
  have conv:∀ {h':Heap} (i:Nat) (u:Value),i<(x.cps.toList.map fun ch=>V.str [ch]).length→SignAt x i u→∃ y,(x.cps.toList.map fun ch=>V.str [ch])[i]?=some y∧c.R (fun a=>U a∨a=s.heap.objs.size) am σ h' u y:=fun i u _ z=>e2_2 z fun ch t' e1 e2=>
   ⟨.str [ch],by rw [List.getElem?_map,Array.getElem?_toList,e1]; rfl,e2▸.str rfl⟩
  cases ha:x.cps.all (·<128) with
  | false=>
   exact wpAny_pyIter_wide ha (kq _ (Iter.of (Sta:=fun i h=>h.IsStrIter s.heap.objs.size "str_iterator" x t i) (by rw [List.length_map,Array.length_toList]; exact Walks.strWide hh _ x t) ⟨_,Heap.get?_push_size _ rfl,rfl,rfl⟩ (fun i h' z=>z.elim fun o z=>⟨o,_,z.1,z.2.1,by decide +kernel⟩) (fun b hb=>.inl (List.mem_singleton.mp hb)) conv) rfl)
  | true=>
   exact wpAny_pyIter_ascii ha (kq _ (Iter.of (Sta:=fun i h=>h.IsStrIter s.heap.objs.size "str_ascii_iterator" x t i) (by rw [List.length_map,Array.length_toList]; exact Walks.strAscii hh _ x t) ⟨_,Heap.get?_push_size _ rfl,rfl,rfl⟩ (fun i h' z=>z.elim fun o z=>⟨o,_,z.1,z.2.1,by decide +kernel⟩) (fun b hb=>.inl (List.mem_singleton.mp hb)) conv) rfl)
theorem iter_ok {v:V} (R:c.R U am σ s.heap u v) (e:iterItems v=some xs):wpAny c.M A (pyIter u) Q NoE s:=
 V.sw_inv e (fun _ _=>noS) (fun l hv e=>iter_str hh I kq (Option.some.inj e) (R.at hv)) (fun l hv e=>iter_list hh I kq (R.at (hv.trans (congrArg V.list (Option.some.inj e))))) (fun l hv e=>iter_tup hh I kq (R.at (hv.trans (congrArg V.tup (Option.some.inj e))))) fun _ _=>noS
end
noncomputable def Turn (c:Cx) (G:Ctx) (RA:Around→Prop) (D:Value→Nat→Prop) (target:Expr) (body:List Stmt) (g:V→Loc→St→Option (Ctl×Loc×St)):Prop:=
 ∀ P U A env ρ am σ r u v (s:Shared) Q,RA A→0<s.toks→Outer P U env→c.I U am σ s.heap→FR c G U env ρ am σ s.heap→c.R U am σ s.heap u v→D u s.toks→g v ρ σ=some r→PostS c G P U env am s σ r Q→
  wpAny c.M A (assign target env u) (fun _ s₂=>wpAny c.M A (execs body env) Q NoE s₂) NoE s
noncomputable def Iters (c:Cx) (RA:Around→Prop) (D:Value→Nat→Prop) (it:V→Option (List V)):Prop:=
 ∀ A U am σ (s:Shared) u v xs Q,RA A→0<s.toks→c.I U am σ s.heap→c.R U am σ s.heap u v→it v=some xs→
  (∀ ob tk,Iter c A s.heap.objs.size D (fun a=>U a∨a=s.heap.objs.size) am σ (s.heap.push ob) xs→ob.isFreed=false→s.toks≤tk→Q (.ref s.heap.objs.size) { s with heap:=s.heap.push ob,toks:=tk })→wpAny c.M A (pyIter u) Q NoE s
theorem iters_all (hA:∀ A,RA A→RoomE A):Iters c RA (fun _ _=>True) iterItems:=
 fun A U am σ s u v xs Q rA ht I R e h=>iter_ok (hA A rA).hh I (fun ob it hf=>h ob s.toks it hf (Nat.le_refl _)) R e
structure Stx (P V U:Addr→Prop) (am:List Addr) (σ:St) (h:Heap) (am':List Addr) (σ':St) (h':Heap):Prop where
 pre:am <+: am'
 keepP:∀ a o,P a→h.get? a=some o→h'.get? a=some o
 keepF:∀ a o,Fz V am σ h a o→Fz U am' σ' h' a o
noncomputable def PostX (c:Cx) (G:Ctx) (P V U:Addr→Prop) (env:Env) (am:List Addr) (s:Shared) (σ:St) (r:Ctl×Loc×St) (Q:Flow→Shared→Prop):Prop:=
 ∀ am' h' tk fl,Stx P V U am σ s.heap am' r.2.2 h'→c.I U am' r.2.2 h'→FR c G U env r.2.1 am' r.2.2 h'→s.toks≤tk→FlR c U am' r.2.2 h' fl r.1→Q fl { s with heap:=h',toks:=tk }
theorem PostX.after {O:Addr→Prop} {r:Ctl×Loc×St} {Q:Flow→Shared→Prop} {am₁:List Addr} {σ₁:St} {h₁:Heap} {tk₁:Nat} (p:PostX c G P O U env am s σ r Q) (y:Stp P O am σ s.heap am₁ σ₁ h₁) (t:s.toks≤tk₁):PostX c G P O U env am₁ { s with heap:=h₁,toks:=tk₁ } σ₁ r Q:=
 fun am' h' tk fl z I F t' f=>p am' h' tk fl ⟨y.pre.trans z.pre,fun a o q e=>z.keepP a o q (y.keepP a o q e),fun a o e=>z.keepF a o (y.keepF a o e)⟩ I F (Nat.le_trans t t') f
theorem PostX.at {O:Addr→Prop} {r r':Ctl×Loc×St} {Q:Flow→Shared→Prop} (p:PostX c G P O U env am s σ r Q) (e:r'=r):PostX c G P O U env am s σ r' Q:=e▸p
theorem PostX.of {O:Addr→Prop} {r:Ctl×Loc×St} {Q:Flow→Shared→Prop} {tk₁:Nat} (p:PostS c G P U env am s σ r Q) (hF:∀ a o,Fz U am σ s.heap a o→Fz O am σ h₁ a o) (k:∀ b o,s.heap.get? b=some o→h₁.get? b=some o) (t:s.toks≤tk₁):PostX c G P O U env am { s with heap:=h₁,toks:=tk₁ } σ r Q:=
 fun am' h' tk fl z I F t' f=>p am' h' tk fl ⟨z.pre,fun a o q e=>z.keepP a o q (k a o e),fun a o e=>z.keepF a o (hF a o e)⟩ I F (Nat.le_trans t t') f
noncomputable def LI (c:Cx) (G:Ctx) (P O U:Addr→Prop) (env:Env) (Sta:Nat→Heap→Prop) (g:V→Loc→St→Option (Ctl×Loc×St)) (xs:List V) (am₀:List Addr) (σ₀:St) (h₀:Heap) (r:Ctl×Loc×St) (Q:Flow→Shared→Prop) (n:Nat) (s:Shared):Prop:=
 ∃ am σ ρ i,0<s.toks∧i≤xs.length∧n=xs.length - i∧Stp P O am₀ σ₀ h₀ am σ s.heap∧c.I O am σ s.heap∧FR c G O env ρ am σ s.heap∧Sta i s.heap∧forL g (xs.drop i) ρ σ=some r∧PostX c G P O U env am s σ r Q
theorem drop_at {α:Type} {xs:List α} {i:Nat} {x:α} (h:xs[i]?=some x):xs.drop i=x :: xs.drop (i+1):=(List.getElem?_eq_some_iff.mp h).elim fun hn e=>(List.drop_eq_getElem_cons hn).trans (congrArg (· :: _) e)
noncomputable def notSet (e:Expr):Bool:=!(e.ctorIdx == 7)
theorem foldedSet_plain {e:Expr} {env:Env}:notSet e=true→∀ x,foldedSetIterable e env x=pure x:=by
 cases e <;> first | exact fun _ _=>rfl | exact noF
section
variable {O:Addr→Prop} {J:Addr} {A:Around} {D:Value→Nat→Prop} {xs:List V} {target:Expr} {body:List Stmt} {g:V→Loc→St→Option (Ctl×Loc×St)} {r:Ctl×Loc×St} {Q:Flow→Shared→Prop}
theorem loop_go (ht:Turn c G RA D target body g) (rA:RA A) (o:Outer P U env) (mine:∀ a,Own env a→U a) (hUO:∀ a,U a→O a) (OJ:O J) (hJ:∀ a,U a→a≠J) (it:Iter c A J D O am σ s.heap xs) (h0:0<s.toks) (I:c.I O am σ s.heap) (F:FR c G O env ρ am σ s.heap) (e:forL g xs ρ σ=some r)
  (p:PostX c G P O U env am s σ r Q):codeAny c.M A (.forLoop target (.ref J) body [] env) (fun r s'=>match r with | .ok f=>Q f s' | .error e=>cameBackBy c.M A env NoE e s') s:=by
 obtain ⟨fp,Pv,Sta,Wi,Wd,Wf,S0,hex,hfp,hP,_⟩:=it
 refine codeAny_forLoop_any (LI c G P O U env Sta g xs am σ s.heap r Q) (fun n s w=>e4_9 w fun am σ ρ i h0 hi hm y I F Si e p=>?_) xs.length ⟨am,σ,ρ,0,h0,Nat.zero_le _,rfl,Stp.refl,I,F,S0,e,p⟩
 have own:∀ a,Own env a→a≠J:=fun a q=>hJ a (mine a q)
 by_cases hn:i<xs.length
 ·refine noE (Wi i _ _ hn h0 Si fun u h₂ tk₂ hPu hDu S₂ hk t₂=>e1_2 (hP i u hn hPu) fun x hx Rx=>e2_3 (hex _ _ S₂) fun ob' n' hob hcl how=>?_)
  have z:=I.ownX (P:=P) (a:=J) hk ⟨ob',hob⟩ OJ fun b q=>hJ b (o.sub b q)
  have F₃:=F.move z.2.keepF z.2.pre (fun a ob q=>hk a ob (own a q)) F.mine
  have p₃:=p.after z.2 t₂
  refine noE (letOwned_ok hob hcl how ?_)
  have e:(g x ρ σ).bind (seqC (forL g (xs.drop (i+1))))=some r:=(congrArg (fun l=>forL g l ρ σ) (drop_at hx)).symm.trans e
  have oJ:Outer (fun a=>P a∨a=J) O env:=⟨fun a x=>x.elim (fun x=>hUO a (o.sub a x)) fun x=>x▸OJ,fun a x=>x.elim (o.nl a) fun x q=>own _ (.inl rfl) (q.symm.trans x),fun a x b y z=>y.elim (fun y=>o.nc a x b y z) fun y q=>own _ (.inr ⟨x,z⟩) (q.symm.trans y)⟩
  have R₃:=(Rx.step y).step z.2
  have h0:=Nat.lt_of_lt_of_le h0 t₂
  refine seq_on e (fun ρ₄ σ₄ e4 e=>?_) (fun v ρ₄ σ₄ e4 e=>?_)
  ·refine wpAny_mono (ht _ O A env ρ am σ _ u x { s with heap:=h₂,toks:=tk₂ } _ rA h0 oJ z.1 F₃ R₃ hDu e4 fun am₄ h₄ tk₄ fl y₄ I₄ F₄ t₄ f₄=>?_) (fun _ _ x=>noE x) fun _ _ x=>x.elim
   subst f₄
   have y₄':=y₄.weaken (P':=P) fun _ q=>.inl q
   refine ⟨xs.length - (i+1),by lia,am₄,σ₄,ρ₄,i+1,Nat.lt_of_lt_of_le h0 t₄,hn,rfl,y.trans (z.2.trans y₄'),I₄,F₄,Wf _ _ _ S₂ fun b hb ob hob=>(hfp b hb).elim (fun q=>q▸y₄.keepP _ _ (.inr rfl) (q▸hob)) fun w=>w.elim fun o' x=>?_,e,p₃.after y₄' t₄⟩
   have q:=z.2.keepF _ _ (y.keepF _ _ x)
   exact Option.some.inj (q.1.symm.trans hob)▸(y₄.keepF _ _ q).1
  ·refine wpAny_mono (ht _ O A env ρ am σ _ u x { s with heap:=h₂,toks:=tk₂ } _ rA h0 oJ z.1 F₃ R₃ hDu e4 fun am₄ h₄ tk₄ fl y₄ I₄ F₄ t₄ f₄=>e1_2 f₄ fun u' ef R=>?_) (fun _ _ x=>noE x) fun _ _ x=>x.elim
   subst ef
   have L:=I₄.exit hUO
   exact (p₃.after (y₄.weaken fun _ q=>.inl q) t₄).at e am₄ h₄ tk₄ _ ⟨List.prefix_rfl,fun _ _ _ q=>q,L.2⟩ L.1 (F₄.move L.2 List.prefix_rfl (fun _ _ _ q=>q) mine) (Nat.le_refl _) ⟨u',rfl,R.mono L.2 List.prefix_rfl⟩
 ·have hi':i=xs.length:=Nat.le_antisymm hi (Nat.le_of_not_lt hn)
  refine noE (Wd _ _ (hi'▸Si) fun h₂ tk₂ hk t₂=>?_)
  have e:some (Ctl.next,ρ,σ)=some r:=(congrArg (fun l=>forL g l ρ σ) (List.drop_eq_nil_of_le (Nat.le_of_eq hi'.symm))).symm.trans e
  have L:=I.lose (U:=U) (a:=J) hk OJ fun b q=>⟨hUO b q,hJ b q⟩
  exact noE (wpAny_execs_nil (p.at (Option.some.inj e) am h₂ tk₂ .next ⟨List.prefix_rfl,fun a ob q=>hk a ob (hJ a (o.sub a q)),L.2⟩ L.1 (F.move L.2 List.prefix_rfl (fun a ob q=>hk a ob (own a q)) mine) t₂ rfl))
end
theorem SS_loop {it:V→Option (List V)} {D:Value→Nat→Prop} {target e:Expr} {body:List Stmt} {pos:Pos} {f:Loc→St→Option (V×St)} {g:V→Loc→St→Option (Ctl×Loc×St)} (hA:∀ A,RA A→RoomE A) (hs:notSet e=true) (h:SE c G RA e f) (hit:Iters c RA D it) (ht:Turn c G RA D target body g) :
  SS c G RA (.For target e body [] pos) fun ρ σ=>(f ρ σ).bind fun (v,σ₁)=>(it v).bind fun xs=>forL g xs ρ σ₁:=
 fun P U A env ρ am σ r s Q rA h0 o I F e' p=>bindP e' fun v σ₁ e1 e'=>bindI e' fun xs e2 e'=>wpAny_For (h U A env ρ am σ v σ₁ s _ rA h0 I F e1 fun am₁ h₁ tk₁ u y₁ I₁ R₁ t₁=>
  have F₁:=F.step y₁ fun _ p=>p
  hit A U am₁ σ₁ { s with heap:=h₁,toks:=tk₁ } u v xs _ rA (Nat.lt_of_lt_of_le h0 t₁) I₁ R₁ e2 fun ob tk₀ it hf t₀=>
  have N:=I₁.enter (N:=fun a=>a=h₁.objs.size) (h₁:=h₁.push ob) pushed fun a e=>e▸⟨get_size _,_,Heap.get?_push_size _ hf⟩
  loop_go (s:={ s with heap:=h₁.push ob,toks:=tk₀ }) ht rA o F₁.mine (fun a u=>.inl u) (.inr rfl) (fun a u q=>(I₁.out a u).2.elim fun _ e=>noH e (q▸get_size _)) it (Nat.lt_of_lt_of_le h0 (Nat.le_trans t₁ t₀)) N.1 (F₁.enter N.2 pushed fun a u=>.inl u) e'
   (PostX.of (s:={ s with heap:=h₁,toks:=tk₁ }) (tk₁:=tk₀) (p.after (o.p y₁) t₁) N.2 pushed t₀)) (foldedSet_plain hs)
end
end
section
section
variable {c:Cx} {G:Ctx} {RA:Around→Prop} {P U U':Addr→Prop} {am am':List Addr} {σ σ':St} {s:Shared} {env:Env} {ρ ρ':Loc} {h h₁ h':Heap}
theorem turn_name {D:Value→Nat→Prop} {x:Str} {p':Pos} {i:Nat} {body:List Stmt} {fb:Loc→St→Option (Ctl×Loc×St)} (gi:G.Inj) (hn:G.names[i]?=some (some x)) (hk:storeKind G x=true) (hb:SSs c G RA body fb) :
  Turn c G RA D (.Name x p') body fun v ρ σ=>fb (ρ.set i (some v)) σ:=
 fun P U A env ρ am σ r u v s Q rA h0 o I F R _ e p=>wpAny_assign_Name (store_ok gi o I F hn hk R fun h₁ tk₁ y₁ I₁ F₁ t₁=>hb P U A env _ am σ r _ Q rA (Nat.lt_of_lt_of_le h0 t₁) o I₁ F₁ e (p.after y₁ t₁))
theorem turn_names {D:Value→Nat→Prop} {es:List Expr} {is:List Nat} {k:Nat} {p':Pos} {body:List Stmt} {fb:Loc→St→Option (Ctl×Loc×St)} (hA:∀ A,RA A→RoomE A) (gi:G.Inj) (T:Tgts G es is) (hb:SSs c G RA body fb) :
  Turn c G RA D (.Tuple es k p') body fun v ρ σ=>(seqItems v).bind fun vs=>(setAll is vs ρ).bind fun ρ'=>fb ρ' σ:=
 fun P U A env ρ am σ r u v s Q rA h0 o I F R _ e p=>bindI e fun vs e1 e=>bindI e fun ρ' e2 e=>unpack_ok (hA A rA).hh gi o T I F R e1 e2 fun h₁ tk₁ y₁ I₁ F₁ t₁=>hb P U A env _ am σ r _ Q rA (Nat.lt_of_lt_of_le h0 t₁) o I₁ F₁ e (p.after y₁ t₁)
theorem SS_for {x:Str} {p' pos:Pos} {i:Nat} {e:Expr} {body:List Stmt} {f:Loc→St→Option (V×St)} {fb:Loc→St→Option (Ctl×Loc×St)} (hA:∀ A,RA A→RoomE A) (gi:G.Inj) (hn:G.names[i]?=some (some x)) (hk:storeKind G x=true) (hs:notSet e=true)
  (h:SE c G RA e f) (hb:SSs c G RA body fb):SS c G RA (.For (.Name x p') e body [] pos) fun ρ σ=>(f ρ σ).bind fun (v,σ₁)=>(iterItems v).bind fun xs=>forL (fun v ρ' σ'=>fb (ρ'.set i (some v)) σ') xs ρ σ₁:=
 SS_loop hA hs h (iters_all hA) (turn_name gi hn hk hb)
theorem iter_of_seq {v:V} {xs:List V} (e:seqItems v=some xs):iterItems v=some xs:=V.sw_inv e (fun _ _=>noS) (fun _ _=>noS) (fun l h e=>h▸e) (fun l h e=>h▸e) fun _ _=>noS
theorem SS_forT {es:List Expr} {is:List Nat} {k:Nat} {p' pos:Pos} {e:Expr} {body:List Stmt} {f:Loc→St→Option (V×St)} {fb:Loc→St→Option (Ctl×Loc×St)} (hA:∀ A,RA A→RoomE A) (gi:G.Inj) (T:Tgts G es is) (hs:notSet e=true)
  (h:SE c G RA e f) (hb:SSs c G RA body fb):SS c G RA (.For (.Tuple es k p') e body [] pos) fun ρ σ=>(f ρ σ).bind fun (v,σ₁)=>(seqItems v).bind fun xs=>forL (fun v ρ' σ'=>(seqItems v).bind fun vs=>(setAll is vs ρ').bind fun ρ''=>fb ρ'' σ') xs ρ σ₁:=
 SS_loop hA hs h (fun A U am σ s u v xs Q rA ht I R e h=>iters_all hA A U am σ s u v xs Q rA ht I R (iter_of_seq e) h) (turn_names hA gi T hb)
end
end
section
theorem list_extendW (l:Addr) (items:Array Value) (n:Nat) (b:Addr) (items2:Array Value) (n2:Nat) (d2:Option Addr) (sl2:Array (Option Value)) (hc0:¬(!items.isEmpty && Builtin.List.listTooLong (items.size+items2.size))=true) (hc1:items.size≤sizeLine) (hs2:items.size+items2.size≤sizeLine+1) :
  Meets (Builtin.«list.extend» ⟨[.ref l,.ref b],[]⟩) (fun _ R s=>s.heap.get? l=some { cls:=.type "list",dict:=none,data:=.seq items n,slots:=#[] }∧s.heap.get? b=some { cls:=.type "list",dict:=d2,data:=.seq items2 n2,slots:=sl2 }∧R (.ok (.ret Value.none)) { s with heap:=s.heap.update l (Obj.mapSeq fun x=>x++items2),toks:=s.toks }):=
 .of_wp fun prog w A R s h=>by
  obtain ⟨hp,g,d,tk,os⟩:=s; refine e0_3 h fun hl hb h=>?_
  have f1:=AutoSeq1.idx_int; have f2:=AutoSeq1.sub_tuple_tuple; have f3:=AutoSeq1.sub_list_list; have f4:=AutoSeq1.sub_tuple_list; have f5:=AutoSeq1.sub_list_tuple
  have hz':(items++items2).size≤sizeLine+1:=by refine Array.size_append▸?_; exact hs2
  wp_walk using (wpAny_updateSeq hl rfl (hz:=hc1) (_hz':=hz')),AutoSeq1.wpAny_loadPart' hl,AutoSeq1.wpAny_loadPart' hb
  exact i1_2 _ rfl h
section
variable {c:Cx} {G:Ctx} {RA:Around→Prop} {P U:Addr→Prop} {am:List Addr} {σ σ':St} {s:Shared} {env:Env} {ρ:Loc}
theorem anyStar {l:List Expr} {env:Env} {pos:Pos}:l.all notStar=true→(backTo pos (starEach l env)).all (fun x=>!x.1)=true∧(backTo pos (starEach l env)).any (·.1)=false:=by
 induction l with
 | nil=>exact fun _=>⟨rfl,rfl⟩
 | cons e l ih=>
  intro h
  have h:=Bool.and_eq_true_iff.mp h
  rw [star_of h.1]
  exact ih h.2
theorem callWithB {A:Around} {id:String} {first:List Value} {args:List Expr} {pos:Pos} {Q:Value→Shared→Prop} (hs:args.all notStar=true)
  (h:wpAny c.M A (spliced (backTo pos (starEach args env))) (fun us s₁=>wpAny c.M A (call (.builtin id) (first++us)) Q NoE s₁) NoE s):wpAny c.M A (callWith pos (.builtin id) first (backTo pos (starEach args env)) []) Q NoE s:=by
 cases args with
 | nil=>
  refine callWith_builtin rfl ?_
  unfold evalArgs
  refine (?_:wpAny c.M A (spliced [] >>= _) _ _ s)
  refine wpAny_bind (wpAny_mono h (fun us s' h'=>?_) fun _ _ x=>x)
  exact wpAny_bind (wpAny_pure (wpAny_holding (wpAny_bind (wpAny_pure (wpAny_bind (wpAny_pure (wpAny_pure h')))))))
 | cons e rest=>
  have hs:=Bool.and_eq_true_iff.mp hs
  rw [star_of hs.1] at h ⊢
  exact callWith_builtin (anyStar hs.2).2 (evalArgs_plain h)
structure BM (T:String) (name:Str) (id:String):Prop where
 pa:PlainAttrs T
 slot:Slot T name id
 ty:typeOf (.builtin id)=pure (.type "method_descriptor")
theorem SE_methodB {o:Expr} {name:Str} {apos pos:Pos} {args:List Expr} {T id:String} {fo:Loc→St→Option (V×St)} {fa:Loc→St→Option (List V×St)} {kd:V→St→Prop} {st:V→List V→St→Option (V×St)} (B:BM T name id) (hb:plainBase o=true) (hs:args.all notStar=true) (hl:args.length<30)
  (hline:(apos.endLine == pos.line)=true) (ho:SE c G RA o fo) (ha:SEs c G RA args fa)
  (ht:∀ U am σ (s:Shared) u v,c.I U am σ s.heap→c.R U am σ s.heap u v→kd v σ→s.TypeIs u T∧∀ a,u = .ref a→∃ ob,s.heap.get? a=some ob∧ob.dict=none)
  (hm:∀ U A am σ (s:Shared) uo us vo vs v σ' Q,RA A→0<s.toks→c.I U am σ s.heap→c.R U am σ s.heap uo vo→c.Rs U am σ s.heap us vs→st vo vs σ=some (v,σ')→PostE c U am s σ σ' v Q→wpAny c.M A (call (.builtin id) (uo :: us)) Q NoE s)
  {f:Loc→St→Option (V×St)} (hf:∀ ρ σ v σ',f ρ σ=some (v,σ')→∃ vo σ₁ vs σ₂,fo ρ σ=some (vo,σ₁)∧kd vo σ₁∧fa ρ σ₁=some (vs,σ₂)∧st vo vs σ₂=some (v,σ')) :
  SE c G RA (.Call (.Attribute o name apos) args [] pos) f:=
 fun U A env ρ am σ v σ' s Q rA h0 I F e P=>e4_4 (hf _ _ _ _ e) fun vo σ₁ vs σ₂ e1 k1 e2 e3=>wpAny_Call_method (attributeBase_plain hb) (by
   rw [(anyStar hs).1,(decide_eq_true hl:decide (args.length+([]:List Keyword).length+(if ([]:List Keyword).isEmpty then 0 else 1)<30)=true)]; rfl)
  hline B.pa B.slot B.ty (ho U A env ρ am σ vo σ₁ s _ rA h0 I F e1 fun am₁ h₁ tk₁ uo y₁ I₁ R₁ t₁=>e0_2 (ht U am₁ σ₁ { s with heap:=h₁,toks:=tk₁ } uo vo I₁ R₁ k1) fun g1 g2=>⟨g1,g2,callWithB hs (ha U A env ρ am₁ σ₁ vs σ₂ _ pos _ rA (Nat.lt_of_lt_of_le h0 t₁) I₁ (F.step y₁ fun _ p=>p) e2 fun am₂ h₂ tk₂ us y₂ I₂ R₂ t₂=>
   hm U A am₂ σ₂ { s with heap:=h₂,toks:=tk₂ } uo us vo vs v σ' Q rA (Nat.lt_of_lt_of_le h0 (Nat.le_trans t₁ t₂)) I₂ (R₁.step y₂) R₂ e3 ((P.after y₁ t₁).after y₂ t₂))⟩)
theorem bm_append:BM "list" "append" "list.append":=⟨PySem.F.plainAttrs_list,PySem.F.slot_list_append,PySem.F.type_list_append⟩
theorem bm_extend:BM "list" "extend" "list.extend":=⟨PySem.F.plainAttrs_list,PySem.F.slot_list_extend,PySem.F.type_list_extend⟩
theorem bm_pop:BM "list" "pop" "list.pop":=⟨PySem.F.plainAttrs_list,PySem.F.slot_list_pop,PySem.F.type_list_pop⟩
theorem bm_get:BM "dict" "get" "dict.get":=⟨PySem.F.plainAttrs_dict,PySem.F.slot_dict_get,PySem.F.type_dict_get⟩
theorem bm_split:BM "str" "split" "str.split":=⟨PySem.F.plainAttrs_str,PySem.F.slot_str_split,PySem.F.type_str_split⟩
theorem bm_join:BM "str" "join" "str.join":=⟨PySem.F.plainAttrs_str,PySem.F.slot_str_join,PySem.F.type_str_join⟩
theorem bm_replace:BM "str" "replace" "str.replace":=⟨PySem.F.plainAttrs_str,PySem.F.slot_str_replace,PySem.F.type_str_replace⟩
noncomputable def isLst (v:V) (σ:St):Prop:=∃ n xs,v = .loc n∧σ[n]?=some (.list xs)
noncomputable def isDct (v:V) (σ:St):Prop:=∃ n kv,v = .loc n∧σ[n]?=some (.dict kv)
noncomputable def isTxt (v:V) (_:St):Prop:=∃ t,v = .str t
theorem lst_at {n:Nat} {xs:List V} {u:Value} {h:Heap} {X:Prop} (I:c.I U am σ h) (R:c.R U am σ h u (.loc n)) (hn:σ[n]?=some (.list xs)) (k:∀ a its e,u = .ref a→am[n]?=some a→h.get? a=some (listOf its e)→c.Rs U am σ h its.toList xs→X):X:=
 R.onLoc (P:=fun u=>(∀ a its e,u = .ref a→am[n]?=some a→h.get? a=some (listOf its e)→c.Rs U am σ h its.toList xs→X)→X) (fun a ha k=>e1_2 (I.live n _ a hn rfl ha).1 fun o ho r=>e2_2 r fun its e eo hr=>k a its e rfl ha (eo▸ho) hr) k
theorem ref_none {s:Shared} {u:Value} {a:Addr} {ob:Obj} (hu:u = .ref a) (h:s.heap.get? a=some ob) (hd:ob.dict=none):∀ b,u = .ref b→∃ ob,s.heap.get? b=some ob∧ob.dict=none:=fun b q=>⟨ob,Value.ref.inj (hu.symm.trans q)▸h,hd⟩
theorem ty_lst {u:Value} {v:V} (I:c.I U am σ s.heap) (R:c.R U am σ s.heap u v) (k:isLst v σ):s.TypeIs u "list"∧∀ a,u = .ref a→∃ ob,s.heap.get? a=some ob∧ob.dict=none:=
 e2_2 k fun n xs hv hn=>lst_at I (R.at hv) hn fun a its e hu ha ho hr=>⟨hu▸⟨_,ho,rfl⟩,ref_none hu ho rfl⟩
theorem ty_dct {u:Value} {v:V} (I:c.I U am σ s.heap) (R:c.R U am σ s.heap u v) (k:isDct v σ):s.TypeIs u "dict"∧∀ a,u = .ref a→∃ ob,s.heap.get? a=some ob∧ob.dict=none:=
 e2_2 k fun n kv hv hn=>(R.at hv).onLoc (P:=fun u=>s.TypeIs u "dict"∧∀ a,u = .ref a→∃ ob,s.heap.get? a=some ob∧ob.dict=none) fun a ha=>e1_2 (I.live n _ a hn rfl ha).1 fun o ho hr=>
  have d:o.ExactDict:=hr.elim (fun hr=>hr.1) fun hr=>hr.1
  ⟨⟨_,ho,d.1⟩,ref_none rfl ho d.2.1⟩
theorem ty_txt {u:Value} {v:V} (I:c.I U am σ s.heap) (R:c.R U am σ s.heap u v) (k:isTxt v σ):s.TypeIs u "str"∧∀ a,u = .ref a→∃ ob,s.heap.get? a=some ob∧ob.dict=none:=
 k.elim fun t hv=>(R.at hv).onStr (P:=fun u=>s.TypeIs u "str"∧∀ a,u = .ref a→∃ ob,s.heap.get? a=some ob∧ob.dict=none) fun x t' _=>⟨typeIs_str s x t',fun a q=>nomatch q⟩
section
variable {A:Around} {uo:Value} {us:List Value} {n:Nat} {xs:List V} {vs:List V} {v:V} {Q:Value→Shared→Prop} (I:c.I U am σ s.heap) (R:c.Rs U am σ s.heap us vs) (p:PostE c U am s σ σ' v Q)
include I R p
section
variable (Ro:c.R U am σ s.heap uo (.loc n)) (hn:σ[n]?=some (.list xs))
include Ro hn
theorem m_append (e:lappend n xs vs σ=some (v,σ')):wpAny c.M A (call (.builtin "list.append") (uo :: us)) Q NoE s:=
 oneO_inv e fun w hv e=>ite_some e fun hz e=>(R.at hv).onCons fun u us r rs=>rs.onNil (lst_at I Ro hn fun a its ep hu ha ho hr=>by
  have k:=Array.length_toList.symm.trans hr.length
  have P:=p.ats e
  rw [hu]
  refine wpAny_list_append_plain ⟨ep,ho⟩ (fun h' hp hs=>hp.elim fun n' ho'=>?_) (by rw [k]; exact Nat.le_line hz)
  have q:=I.set (P:=U) hn rfl ha hs ho' (O':=.list (xs++[w])) rfl ⟨_,n',rfl,by rw [Array.toList_push]; exact hr.append (.cons r .nil)⟩ (fun _ p=>p)
  exact P _ h' s.toks .none q.2 q.1 .none (Nat.le_refl _))
theorem m_extend (e:lextend n xs vs σ=some (v,σ')):wpAny c.M A (call (.builtin "list.extend") (uo :: us)) Q NoE s:=
 oneO_inv e fun w hv e=>bindI e fun ys e1 e=>ite_some e fun hz e=>(R.at hv).onCons fun u us r rs=>rs.onNil (lst_at I Ro hn fun a its ep hu ha ho hr=>(r.at (V.toL_ok e1)).onList fun b ob its2 n2 h1 h2 h3 h4=>by
  have k:=Array.length_toList.symm.trans hr.length
  have k':=Array.length_toList.symm.trans h4.length
  have P:=p.ats e
  obtain ⟨cl,d2,da,sl2⟩:=ob
  subst h2 h3
  rw [hu]
  have z:its.size+its2.size≤sizeLine:=by rw [k,k']; exact Nat.le_line hz
  refine call_meets PySem.F.slot_list_extend ⟨_,ho,rfl⟩ PySem.F.entry_list_extend (PySem.F.args_list_extend_2 _ _) (list_extendW a its ep b its2 n2 d2 sl2 (extend_door z) (Nat.le_trans (Nat.le_add_right _ _) z) (Nat.le_succ_of_le z)) ⟨ho,h1.1,?_⟩
  have q:=PySem.IsL.update (items:=its) (n:=ep) ho (fun x=>x++its2)
  have q:=I.set (P:=U) hn rfl ha (Heap.SameBut.update s.heap _ _) q (O':=.list (xs++ys)) rfl ⟨_,_,rfl,by rw [Array.toList_append]; exact hr.append h4⟩ (fun _ p=>p)
  exact P _ _ s.toks .none q.2 q.1 .none (Nat.le_refl _))
omit I R p Ro hn in
theorem VRs.dropLast {Z:Stat} {F:Addr→Obj→Prop} {am:List Addr} {us:List Value} {vs:List V} (h:VRs Z F am us vs):VRs Z F am us.dropLast vs.dropLast:=by
 rw [List.dropLast_eq_take,List.dropLast_eq_take,h.length]
 exact h.take _
theorem m_pop (e:lpop n xs vs σ=some (v,σ')):wpAny c.M A (call (.builtin "list.pop") (uo :: us)) Q NoE s:=
 nilO_inv e fun hv e=>ite_some e fun hz e=>mapI e fun w e1 e=>(R.at hv).onNil (lst_at I Ro hn fun a its ep hu ha ho hr=>by
  have k:=Array.length_toList.symm.trans hr.length
  have P:=p.atp e
  rw [List.getLast?_eq_getElem?] at e1
  refine e1_2 (hr.get e1) fun u hu' Ru=>?_
  rw [hu]
  have hlt:=(List.getElem?_eq_some_iff.mp e1).1
  refine call_meets PySem.F.slot_list_pop ⟨_,ho,rfl⟩ PySem.F.entry_list_pop (PySem.F.args_list_pop_1 _) (MeetsSeq.list_pop_last a its ep u (by rw [k,← Array.getElem?_toList]; exact hu') (by rw [k]; exact Nat.le_line hz)) ⟨ho,?_⟩
  have q:=PySem.IsL.update (items:=its) (n:=ep) ho (fun x=>x.eraseIdxIfInBounds (its.size - 1))
  have hl:(its.eraseIdxIfInBounds (its.size - 1)).toList=its.toList.dropLast:=by
   rw [Array.toList_eraseIdxIfInBounds,← Array.length_toList]; exact List.eraseIdx_length_sub_one
  have q:=I.set (P:=U) hn rfl ha (Heap.SameBut.update s.heap _ _) q (O':=.list xs.dropLast) rfl ⟨_,_,rfl,by rw [hl]; exact hr.dropLast⟩ (fun _ p=>p)
  exact P _ _ s.toks u q.2 q.1 (Ru.step q.2) (Nat.le_refl _))
end
theorem m_get {kv:List (V×V)} (hsm:∃ o,c.hb.get? sysModules=some o) (Ro:c.R U am σ s.heap uo (.loc n)) (hn:σ[n]?=some (.dict kv)) (e:bdict kv vs σ=some (v,σ')):wpAny c.M A (call (.builtin "dict.get") (uo :: us)) Q NoE s:=
 oneO_inv e fun w hv e=>bindI e fun i e1 e=>mapI e fun x hg e=>(R.at hv).onCons fun u us r rs=>rs.onNil (Ro.onLoc fun a ha=>toInt_on r e1 fun t=>e0_3 (I.live n _ a hn rfl ha) fun z _ hb=>e1_2 z fun o ho hr=>by
  have P:=p.atp e
  rw [V.toInt_ok e1] at hg
  have hd:(a == sysModules)=false:=eq_false_of_ne_true fun q=>hsm.elim fun o' ho'=>noH ho' (beq_iff_eq.mp q▸hb)
  refine hr.elim (fun hr=>e1_3 (hr.dictOf ho) fun kvs hm hz hk=>e2_3 ((hk.get encS_inj).1 _ x hg) fun k' u h1 h2 Ru=>nomatch h1) fun hr=>e1_3 (hr.dictOf ho) fun kvs hm hz hk=>?_
  refine call_meetsIn PySem.F.slot_dict_get hm.typeIs PySem.F.entry_dict_get (PySem.F.args_dict_get_2 _ _) (meets_dict_get (intKind c.prog c.w) a (intKind_is _ _ i t) hd) ⟨_,hm.mapOf,?_⟩
  refine (?_:Q _ _)
  refine e2_3 ((hk.get encI_inj).1 _ x hg) fun k' u h1 h2 Ru=>?_
  rw [encI_inj _ _ h1,h2]
  exact P.here I Ru (Nat.le_succ _))
end
theorem join_cons (sep x:Txt):∀ r:List Txt,join sep (x :: r)=x++(r.map (sep ++ ·)).flatten
 | []=>(List.append_nil x).symm
 | y :: r=>by rw [join,join_cons sep y r,List.map_cons,List.flatten_cons,List.append_assoc,List.append_assoc]
theorem glued_fold (sep:Str):∀ (l:List Str) (a:Array Nat),(l.foldl (fun acc p=>acc++sep.cps++p.cps) a).toList=a.toList++(l.map fun p=>sep.cps.toList++p.cps.toList).flatten
 | [],a=>(List.append_nil _).symm
 | b :: l,a=>by rw [List.foldl_cons,glued_fold sep l,List.map_cons,List.flatten_cons,Array.toList_append,Array.toList_append,List.append_assoc,List.append_assoc,List.append_assoc]
theorem glued_join (sep:Str):∀ ps:List Str,(Builtin.Str.glued sep ps).cps.toList=join sep.cps.toList (ps.map fun p=>p.cps.toList)
 | []=>rfl
 | x :: r=>by
  rw [List.map_cons,join_cons,List.map_map]
  exact glued_fold sep r x.cps
theorem allStr_R {us:List Value} {xs:List V} {h:Heap} (R:c.Rs U am σ h us xs):∀ {ts:List Txt},allStr xs=some ts→∃ l:List (Str×Tok),us=strValues l∧(l.map fun p=>p.1.cps.toList)=ts:=
 R.ind (P:=fun us xs=>∀ {ts:List Txt},allStr xs=some ts→∃ l:List (Str×Tok),us=strValues l∧(l.map fun p=>p.1.cps.toList)=ts) (fun e=>⟨[],rfl,Option.some.inj e⟩) fun {u v us xs} r _ ih ts e=>bindI e fun s e1 e=>mapI e fun ts' e2 e=>
  e1_2 (ih e2) fun l h1 h2=>toTxt_on (P:=fun u=>∃ l:List (Str×Tok),u :: us=strValues l∧(l.map fun p=>p.1.cps.toList)=ts) r e1 fun y t hy=>⟨(y,t) :: l,congrArg (_ :: ·) h1,(congr (congrArg List.cons hy) h2).trans e⟩
theorem total_cons (x:Txt) (r:List Txt):total (x :: r)=x.length+total r:=rfl
theorem join_fold (sep:Str) (hs:sep.length<10):∀ (l:List Str) (a:Nat),l.foldl (fun a p=>a+p.length+sep.length) a≤a+total (l.map fun p=>p.cps.toList)+l.length * 10
 | [],a=>Nat.le_refl _
 | x :: l,a=>by
  rw [List.foldl_cons,List.map_cons,total_cons,List.length_cons,Array.length_toList]
  refine Nat.le_trans (join_fold sep hs l _) ?_
  refine (?_:a+x.cps.size+sep.length+_+_≤_)
  lia
theorem join_ok (sep:Str) (k:Nat) (hs:sep.cps.toList.length<10) (l:List Str) (hl:l.length<k) (hk:k≤1000) (ht:total (l.map fun p=>p.cps.toList)<1000000):JoinOk sep l=true:=by
 unfold JoinOk Builtin.Str.tooLong
 have:=join_fold sep (by rw [str_len rfl]; exact hs) l 0
 simp only [Bool.not_eq_true',List.foldl_toArray',List.size_toArray]
 refine decide_eq_false ?_
 rw [sizeLine_eq]
 clear hs
 lia
theorem wsum_length:∀ l:List (Nat×Nat),l.length≤PySem.StrLaws.wsum l
 | []=>Nat.le_refl _
 | p :: r=>by have:=wsum_length r; simp only [List.length_cons,PySem.StrLaws.wsum]; lia
theorem strsFrom_R:∀ (l:List Str) (n:Nat) {h:Heap},c.Rs U am σ h (strsFrom n l) ((l.map ofStr).map V.str)
 | [],_,_=>.nil
 | y :: l,n,_=>.cons (.str rfl) (strsFrom_R l _)
section
variable {A:Around} {uo:Value} {us:List Value} {t:Txt} {vs:List V} {v:V} {Q:Value→Shared→Prop} (I:c.I U am σ s.heap) (R:c.Rs U am σ s.heap us vs) (p:PostE c U am s σ σ' v Q) (Ro:c.R U am σ s.heap uo (.str t))
include I R p Ro
theorem m_split (e:ssplit t vs σ=some (v,σ')):wpAny c.M A (call (.builtin "str.split") (uo :: us)) Q NoE s:=
 nilO_inv e fun hv e=>ite_some e fun hz e=>(R.at hv).onNil (Ro.onStr fun x tk hx=>by
  have P:=p.ats e
  subst hx
  have hx:=str_len (x:=x) rfl
  have hsp:split x.cps.toList=(PySem.wordsOf x).map ofStr:=by unfold split; rw [toStr_of rfl]
  rw [hsp] at P
  rw [← hx] at hz
  have hw:(Builtin.Str.spaceWords x (x.length+1)).length≤x.length+1:=Nat.le_trans (wsum_length _) (PySem.StrLaws.sw_weight x).1
  refine call_meets PySem.F.slot_str_split (typeIs_str s x tk) PySem.F.entry_str_split (PySem.F.args_str_split_1 _) (meets_str_split_space x tk (by rw [sizeLine_eq]; lia) (by rw [sizeLine_eq]; lia)) ?_
  split
  ·rename_i hw1
   have hwo:PySem.wordsOf x=[x]:=by
    unfold PySem.wordsOf
    rw [beq_iff_eq.mp hw1]
    simp [PyProof.Rows.strSub_whole]
   rw [hwo] at P
   exact P.kept I pushed (.list (I.fresh rfl) rfl rfl (.cons (.str rfl) .nil)) (Nat.le_refl _)
  ·exact P.kept I pushed (.list (I.fresh rfl) rfl rfl (strsFrom_R _ _)) (Nat.le_add_right _ _))
theorem m_join (e:sjoin t vs σ=some (v,σ')):wpAny c.M A (call (.builtin "str.join") (uo :: us)) Q NoE s:=
 oneO_inv e fun w hv e=>bindI e fun xs e1 e=>bindI e fun ts e2 e=>ite_some e fun hz e=>(R.at hv).onCons fun u us r rs=>rs.onNil (Ro.onStr fun x tk hx=>e2_3 (items_R I r e1) fun a its hu hl hr=>e1_2 (allStr_R hr e2) fun l e3 e4=>by
  have P:=p.ats e
  have hits:its=(strValues l).toArray:=e3▸rfl
  have hlen:=(congrArg List.length e3).symm.trans hr.length
  have hlen:l.length=xs.length:=(List.length_map _).symm.trans hlen
  subst hx; subst hits
  rw [hu]
  have hj:=join_ok x 1000 hz.2.1 (l.map (·.1)) (by rw [List.length_map,hlen]; exact hz.1) (Nat.le_refl _) (by rw [List.map_map]; exact e4▸hz.2.2)
  refine noTk (call_meets PySem.F.slot_str_join (typeIs_str s x tk) PySem.F.entry_str_join (PySem.F.args_str_join_2 _ _) (meets_str_join_list x tk a l (by simpa [JoinOk] using hj)) ⟨hl,post_join l ⟨joinOk_length hj,fun t' k hk=>?_⟩⟩)
  refine P.here I (.str ?_) hk
  refine (?_:(Builtin.Str.glued x (l.map (·.1))).cps.toList=_)
  rw [glued_join,List.map_map,← e4]
  rfl)
end
end
end
section
section
variable {c:Cx} {G:Ctx} {RA:Around→Prop} {P U:Addr→Prop} {am:List Addr} {σ σ':St} {s:Shared} {env:Env} {ρ:Loc}
section
variable {vo:V} {m:Nat} {vs:List V} {r:V×St} {X:Prop}
theorem bmeth_inv (e:bmeth vo m vs σ=some r) (kl:∀ n xs,vo = .loc n→σ[n]?=some (.list xs)→blist n xs m vs σ=some r→X) (kd:∀ n kv,vo = .loc n→σ[n]?=some (.dict kv)→m=3→bdict kv vs σ=some r→X) (ks:∀ t,vo = .str t→bstr t m vs σ=some r→X):X:=
 V.sw_inv e (fun _ _=>noS) ks (fun _ _=>noS) (fun _ _=>noS) fun n h e=>Cel.sw_inv e (fun xs hn e=>kl n xs h hn e) (fun kv hn e=>ite_some e fun hm e=>kd n kv h hn hm e) (fun _ _=>noS) (fun _ _=>noS) fun _ _=>noS
theorem bkind_inv (e:bkind vo m σ=true) (kl:∀ n xs,vo = .loc n→σ[n]?=some (.list xs)→m<3→X) (kd:∀ n kv,vo = .loc n→σ[n]?=some (.dict kv)→m=3→X) (ks:∀ t,vo = .str t→m=4∨m=5→X):X:=
 vo.casesOn (motive_1:=fun w=>vo=w→bkind w m σ=true→X) (fun _=>noF) (fun _ _=>noF) (fun _ _=>noF) (fun t h e=>ks t h ((Bool.or_eq_true_iff.mp e).imp beq_iff_eq.mp beq_iff_eq.mp)) (fun _ _=>noF) (fun _ _=>noF) (fun _ _ _=>noF)
  (fun n h e=>anyI e fun O hO e=>O.casesOn (motive:=fun O=>σ[n]?=some O→Cel.sw false (fun _=>decide (m<3)) (fun _=>m == 3) (fun _=>false) (fun _=>false) (fun _=>false) O=true→X) (fun xs hn e=>kl n xs h hn (of_decide_eq_true e)) (fun kv hn e=>kd n kv h hn (beq_iff_eq.mp e)) (fun _ _=>noF) (fun _ _=>noF) (fun _ _=>noF) (fun _=>noF) hO e) rfl e
theorem cond_inv {α:Type} {b:Bool} {x:Option α} {y:α} {X:Prop} (e:cond b x none=some y) (k:b=true→x=some y→X):X:=b.casesOn (motive:=fun q=>b=q→cond q x none=some y→X) (fun _=>noS) k rfl e
noncomputable def methF (Pm:Nat→Nat→Option Nat) (C:Callee) (fo:Loc→St→Option (V×St)) (m:Nat) (fa:Loc→St→Option (List V×St)):Loc→St→Option (V×St):=fun ρ σ=>(fo ρ σ).bind fun (vo,σ₁)=>mthF Pm C m (fa ρ) vo σ₁
theorem mthF_inv {Pm:Nat→Nat→Option Nat} {C:Callee} {fa:St→Option (List V×St)} (e:mthF Pm C m fa vo σ=some r) (k0:clsOf vo σ=none→bkind vo m σ=true→((fa σ).bind fun q=>bmeth vo m q.1 q.2)=some r→X) (k1:∀ i f,clsOf vo σ=some i→Pm i m=some f→((fa σ).bind fun q=>C f (vo :: q.1) q.2)=some r→X):X:=
 Option.casesOn (motive:=fun o=>clsOf vo σ=o→(o.casesOn (cond (bkind vo m σ) ((fa σ).bind fun q=>bmeth vo m q.1 q.2) none) fun c=>(Pm c m).bind fun f=>(fa σ).bind fun q=>C f (vo :: q.1) q.2)=some r→X) (clsOf vo σ) (fun h e=>cond_inv e fun hb e=>k0 h hb e) (fun i h e=>bindI e fun f hf e=>k1 i f h hf e) rfl e
end
inductive BMs:Nat→Str→Prop
 | append:BMs 0 "append"
 | extend:BMs 1 "extend"
 | pop:BMs 2 "pop"
 | get:BMs 3 "get"
 | split:BMs 4 "split"
 | join:BMs 5 "join"
section
variable {o:Expr} {name:Str} {m:Nat} {apos pos:Pos} {args:List Expr} {Pm:Nat→Nat→Option Nat} {C:Callee} {fo:Loc→St→Option (V×St)} {fa:Loc→St→Option (List V×St)} (hsm:∃ o,c.hb.get? sysModules=some o) (hP:∀ c,Pm c m=none) (hb:plainBase o=true) (hs:args.all notStar=true) (hl:args.length<30)
 (hline:(apos.endLine == pos.line)=true) (ho:SE c G RA o fo) (ha:SEs c G RA args fa)
include hP hb hs hl hline ho ha
theorem SE_mth {T id:String} {kd:V→St→Prop} (B:BM T name id) (hk:∀ vo σ,bkind vo m σ=true→kd vo σ) (ht:∀ U am σ (s:Shared) u v,c.I U am σ s.heap→c.R U am σ s.heap u v→kd v σ→s.TypeIs u T∧∀ a,u = .ref a→∃ ob,s.heap.get? a=some ob∧ob.dict=none)
  (hm:∀ U A am σ (s:Shared) uo us vo vs v σ' Q,RA A→0<s.toks→c.I U am σ s.heap→c.R U am σ s.heap uo vo→c.Rs U am σ s.heap us vs→bmeth vo m vs σ=some (v,σ')→PostE c U am s σ σ' v Q→wpAny c.M A (call (.builtin id) (uo :: us)) Q NoE s):SE c G RA (.Call (.Attribute o name apos) args [] pos) (methF Pm C fo m fa):=
 SE_methodB (kd:=kd) (st:=fun vo vs σ=>bmeth vo m vs σ) B hb hs hl hline ho ha ht hm fun ρ σ v σ' e=>bindP e fun vo σ₁ e1 e=>mthF_inv e (fun _ hb e=>bindP e fun vs σ₂ e2 e=>⟨vo,σ₁,vs,σ₂,e1,hk _ _ hb,e2,e⟩) fun i f _ hf _=>noS ((hP i).symm.trans hf)
include hsm
theorem SE_methB (B:BMs m name):SE c G RA (.Call (.Attribute o name apos) args [] pos) (methF Pm C fo m fa):=by
 cases B with
 | append=>
  exact SE_mth hP hb hs hl hline ho ha bm_append (fun vo σ e=>bkind_inv e (fun n xs h hn _=>⟨n,xs,h,hn⟩) (fun _ _ _ _ h=>nomatch h) fun _ _ h=>h.elim (fun h=>nomatch h) fun h=>nomatch h) (fun U am σ s u v I R k=>ty_lst I R k)
   fun U A am σ s uo us vo vs v σ' Q rA h0 I Ro R e P=>bmeth_inv e (fun n xs h hn e=>m_append I R P (Ro.at h) hn e) (fun _ _ _ _ h _=>nomatch h) fun _ _=>noS
 | extend=>
  exact SE_mth hP hb hs hl hline ho ha bm_extend (fun vo σ e=>bkind_inv e (fun n xs h hn _=>⟨n,xs,h,hn⟩) (fun _ _ _ _ h=>nomatch h) fun _ _ h=>h.elim (fun h=>nomatch h) fun h=>nomatch h) (fun U am σ s u v I R k=>ty_lst I R k)
   fun U A am σ s uo us vo vs v σ' Q rA h0 I Ro R e P=>bmeth_inv e (fun n xs h hn e=>m_extend I R P (Ro.at h) hn e) (fun _ _ _ _ h _=>nomatch h) fun _ _=>noS
 | pop=>
  exact SE_mth hP hb hs hl hline ho ha bm_pop (fun vo σ e=>bkind_inv e (fun n xs h hn _=>⟨n,xs,h,hn⟩) (fun _ _ _ _ h=>nomatch h) fun _ _ h=>h.elim (fun h=>nomatch h) fun h=>nomatch h) (fun U am σ s u v I R k=>ty_lst I R k)
   fun U A am σ s uo us vo vs v σ' Q rA h0 I Ro R e P=>bmeth_inv e (fun n xs h hn e=>m_pop I R P (Ro.at h) hn e) (fun _ _ _ _ h _=>nomatch h) fun _ _=>noS
 | get=>
  exact SE_mth hP hb hs hl hline ho ha bm_get (fun vo σ e=>bkind_inv e (fun _ _ _ _ h=>absurd h (Nat.lt_irrefl 3)) (fun n kv h hn _=>⟨n,kv,h,hn⟩) fun _ _ h=>h.elim (fun h=>nomatch h) fun h=>nomatch h) (fun U am σ s u v I R k=>ty_dct I R k)
   fun U A am σ s uo us vo vs v σ' Q rA h0 I Ro R e P=>bmeth_inv e (fun _ _ _ _=>noS) (fun n kv h hn _ e=>m_get I R P hsm (Ro.at h) hn e) fun _ _=>noS
 | split=>
  exact SE_mth hP hb hs hl hline ho ha bm_split (fun vo σ e=>bkind_inv e (fun _ _ _ _ h=>nomatch h) (fun _ _ _ _ h=>nomatch h) fun t h _=>⟨t,h⟩) (fun U am σ s u v I R k=>ty_txt I R k)
   fun U A am σ s uo us vo vs v σ' Q rA h0 I Ro R e P=>bmeth_inv e (fun _ _ _ _=>noS) (fun _ _ _ _ h _=>nomatch h) fun t h e=>m_split I R P (Ro.at h) e
 | join=>
  exact SE_mth hP hb hs hl hline ho ha bm_join (fun vo σ e=>bkind_inv e (fun _ _ _ _ h=>nomatch h) (fun _ _ _ _ h=>nomatch h) fun t h _=>⟨t,h⟩) (fun U am σ s u v I R k=>ty_txt I R k)
   fun U A am σ s uo us vo vs v σ' Q rA h0 I Ro R e P=>bmeth_inv e (fun _ _ _ _=>noS) (fun _ _ _ _ h _=>nomatch h) fun t h e=>m_join I R P (Ro.at h) e
end
theorem replace_ok {A:Around} {x y z:Str} {t u v:Tok} {Q:Value→Shared→Prop} {w:V} (I:c.I U am σ s.heap) (hu:u≠0) (hv:v≠0) (huv:u≠v) (e:replV (.str x.cps.toList) y.cps.toList z.cps.toList=some w) (P:PostE c U am s σ σ w Q) :
  wpAny c.M A (call (.builtin "str.replace") [.str x t,.str y u,.str z v]) Q NoE s:=
 ite_some e fun h e=>noTk (SC.replace hu hv huv (eq_false_of_ne_true fun q=>h.1 (beq_iff_eq.mp q▸rfl)) (by
   have:(x.length+1) * z.length≤100000 * 10:=Nat.mul_le_mul (by rw [str_len (x:=x) rfl]; exact h.2.1) (by rw [str_len (x:=z) rfl]; exact Nat.le_of_lt h.2.2)
   have:=str_len (x:=x) rfl
   lia) fun t' k hk=>(P.at (Option.some.inj e)).here I (.str (by
   unfold replace
   rw [toStr_of rfl,toStr_of rfl,toStr_of rfl]
   rfl)) hk)
theorem SE_repl {o:Expr} {xa xb:Str} {a b:Txt} {ka kb:Nat} {apos pa pb pos:Pos} {fo:Loc→St→Option (V×St)} (hxa:xa.cps.toList=a) (hxb:xb.cps.toList=b) (hb:plainBase o=true) (hline:(apos.endLine == pos.line)=true) (ho:SE c G RA o fo) :
  SE c G RA (.Call (.Attribute o "replace" apos) [.Constant (.str xa) ka pa,.Constant (.str xb) kb pb] [] pos) fun ρ σ=>(fo ρ σ).bind fun (vo,σ₁)=>(replV vo a b).map fun v=>(v,σ₁):=by
 subst hxa hxb
 exact fun U A env ρ am σ v σ' s Q rA h0 I F e P=>bindP e fun vo σ₁ e1 e=>mapI e fun w e2 e=>wpAny_Call_method (attributeBase_plain hb) rfl hline bm_replace.pa bm_replace.slot bm_replace.ty (ho U A env ρ am σ vo _ s _ rA h0 I F e1 fun am₁ h₁ tk₁ uo y₁ I₁ R₁ t₁=>
  bindI e2 fun l e3 e2'=>toTxt_on R₁ e3 fun x t hx=>⟨typeIs_str _ x t,(fun a q=>nomatch q),callWithB rfl (wpAny_items_cons (wpAny_Constant_str (wpAny_items_cons (wpAny_Constant_str (wpAny_items_nil
   (replace_ok (s:={ s with heap:=h₁,toks:=tk₁+1+1 }) I₁ (Nat.ne_of_gt (Nat.lt_of_lt_of_le h0 t₁)) (Nat.succ_ne_zero _) (Nat.ne_of_lt (Nat.lt_succ_self _)) (hx▸e2') (((P.atp e).after y₁ t₁).after (tk₁:=tk₁+1+1) Stp.refl (show tk₁≤tk₁+1+1 from Nat.le_add_right tk₁ 2))))) rfl)) rfl)⟩)
noncomputable def OldStr (u:Value) (tk:Nat):Prop:=∃ x t,u = .str x t∧0<t∧t<tk
noncomputable def signsI (v:V):Option (List V):=v.toTxt.bind fun l=>if l.all (·<128) then some (l.map fun ch=>.str [ch]) else none
theorem iters_signs (hA:∀ A,RA A→RoomE A):Iters c RA OldStr signsI:=
 fun A U am σ s u v xs Q rA h0 I R e h=>bindI e fun l e1 e=>ite_some e fun ha e=>toTxt_on R e1 fun x t hx=>by
  have hh:=(hA A rA).hh
  rw [← Option.some.inj e,← hx] at h
  rw [← hx] at ha
  clear e e1 R
  have ha':x.cps.all (·<128)=true:=Array.all_toList.symm.trans ha
  have len:(x.cps.toList.map fun ch=>V.str [ch]).length=x.cps.size:=(List.length_map _).trans Array.length_toList
  exact wpAny_pyIter_ascii ha' (h _ s.toks (.mk [s.heap.objs.size] (SignAt x) (fun i h=>h.IsStrIter s.heap.objs.size "str_ascii_iterator" x t i)
   (fun i s₁ Q₁ hi ht st hQ=>have hi:=len▸hi; wpAny_pyNext_ascii_item st (c:=x.cps[i]) (Array.getElem?_eq_getElem hi) fun h' hit' hs'=>hQ _ h' (s₁.toks+1) ⟨_,_,Array.getElem?_eq_getElem hi,rfl⟩ ⟨_,_,rfl,ht,Nat.lt_succ_self _⟩ hit' (fun b o hb e=>(hs'.2 b hb).trans e) (Nat.le_succ _))
   (fun s₁ Q₁ st hQ=>wpAny_pyNext_ascii_end hh (len▸st) (Array.getElem?_eq_none (Nat.le_refl _)) fun h' he'=>hQ h' s₁.toks (fun b o hb e=>he' b o hb e) (Nat.le_refl _))
   (fun i h h' st hk=>st.elim fun o z=>⟨o,hk _ List.mem_cons_self o z.1,z.2⟩) ⟨_,Heap.get?_push_size _ rfl,rfl,rfl⟩ (fun i h' z=>z.elim fun o z=>⟨o,_,z.1,z.2.1,by decide +kernel⟩) (fun b hb=>.inl (List.mem_singleton.mp hb))
   (fun i u _ hu=>e2_2 hu fun ch t' e1 e2=>⟨.str [ch],by rw [List.getElem?_map,Array.getElem?_toList,e1]; rfl,e2▸.str rfl⟩) fun i s₁ Q₁ st q=>wpAny_pyIter_striter_ascii st q) rfl (Nat.le_refl _))
noncomputable def signTurn (x y:Nat) (v:V) (ρ:Loc) (σ:St):Option (Ctl×Loc×St):=
 v.toTxt.bind fun ch=>((slotV ρ y).bind V.toTxt).bind fun t=>if ch.length=1∧t.length<100000 then some (.next,(ρ.set x (some v)).set y (some (.str (replace t ch ([32]++ch++[32])))),σ) else none
theorem signs_forL {x y:Nat} (cs:Txt):∀ (ρ:Loc) (σ:St),forL (signTurn x y) (cs.map fun ch=>.str [ch]) ρ σ=(signsL x y cs ρ).map fun ρ'=>(.next,ρ',σ):=
 cs.rec (fun _ _=>rfl) fun ch cs ih ρ σ=>by
  show ((((slotV ρ y).bind V.toTxt).bind _).bind (seqC _))=Option.map _ (((slotV ρ y).bind V.toTxt).bind _)
  cases (slotV ρ y).bind V.toTxt with
  | none=>rfl
  | some t=>
   by_cases h:t.length<100000
   ·show Option.bind (if _ then _ else _) _=Option.map _ (if _ then _ else _)
    rw [if_pos ⟨rfl,h⟩,if_pos h]
    exact ih _ σ
   ·show Option.bind (if _ then _ else _) _=Option.map _ (if _ then _ else _)
    rw [if_neg fun q=>h q.2,if_neg h]
    rfl
theorem signs_turn {xs y sp1 sp2:Str} {i j k1 k2:Nat} {p1 p3 p4 p5 p6 p7 p8 p9 pa pb pc pos:Pos} (gi:G.Inj) (hx:G.names[i]?=some (some xs)) (hy:G.names[j]?=some (some y)) (hkx:G.scope.names.lookup xs=some .local) (hky:storeKind G y=true) (hne:i≠j)
  (h1:sp1.cps.toList=[32]) (h2:sp2.cps.toList=[32]) (hd:(xs == ("__debug__":Str))=false) (hd':(y == ("__debug__":Str))=false) (hline:(p5.endLine == pc.line)=true) :
  Turn c G RA OldStr (.Name xs p1) [.Assign [.Name y p3] (.Call (.Attribute (.Name y p4) "replace" p5) [.Name xs p6,.BinOp (.BinOp (.Constant (.str sp1) k1 p7) .Add (.Name xs p8) p9) .Add (.Constant (.str sp2) k2 pa) pb] [] pc) pos] (signTurn i j):=
 fun P U A env ρ am σ r u v s Q rA h0 o I F R D e p=>e2_3 D fun ux ut hux ht0 ht1=>bindI e fun ch ec e=>bindI e fun t et e=>ite_some e fun hc e=>bindI et fun w ew et=>bindI ew fun oo hyv eo=>by
  have hyv:ρ[j]?=some (some w):=hyv.trans (congrArg some eo)
  rw [V.toTxt_ok et] at hyv
  have ev:=V.toTxt_ok ec
  subst ev
  have hch:ux.cps.toList=ch:=e2_2 (R_str R) fun x' t' q e1=>(Value.str.inj (hux.symm.trans q)).1▸e1
  have p:=p.ats e
  subst hux
  clear e et ec ew eo D
  have hkl:env.kindOf xs=some .local:=F.kind hkx
  refine wpAny_assign_Name (store_loc gi o.nl I F hx hkx R fun h₁ tk₁ y₁ I₁ F₁ t₁ hm=>e1_2 (hm hkl) fun m hm hmx=>?_)
  refine wpAny_execs_cons (wpAny_Assign_Name ?_ rfl)
  refine wpAny_Call_method rfl rfl hline bm_replace.pa bm_replace.slot bm_replace.ty (wpAny_Name (load_slot F₁ hy (slot_of_store hky) ((List.getElem?_set_ne hne).trans hyv) fun uy Ry=>Ry.onStr fun xy ty hxy=>?_) hd')
  refine ⟨typeIs_str _ xy ty,(fun a q=>nomatch q),callWithB rfl (wpAny_items_cons (wpAny_Name (wpAny_loadName_local F₁.fn hkl hm hmx ?_) hd) rfl)⟩
  have l1:sp1.length=1:=str_len h1
  have l2:sp2.length=1:=str_len h2
  have lx:ux.length=1:=(str_len hch).trans hc.1
  refine wpAny_items_cons (wpAny_BinOp (wpAny_BinOp (wpAny_Constant_str (wpAny_Name (wpAny_loadName_local F₁.fn hkl hm hmx (PySem.P.add_str ?_)) hd)))) rfl
  rw [if_neg (by rw [l1]; decide),if_neg (by rw [lx]; decide)]
  refine ⟨by rw [Str.length_append,l1,lx,sizeLine_eq]; decide,wpAny_Constant_str (PySem.P.add_str ?_)⟩
  rw [if_neg (by rw [Str.length_append,l1,lx]; decide),if_neg (by rw [l2]; decide)]
  refine ⟨by rw [Str.length_append,Str.length_append,l1,l2,lx,sizeLine_eq]; decide,wpAny_items_nil ?_⟩
  have hz:((sp1++ux)++sp2).cps.toList=[32]++ch++[32]:=by
   refine (?_:((sp1.cps++ux.cps)++sp2.cps).toList=_)
   rw [Array.toList_append,Array.toList_append,h1,h2,hch]
  have ne:ch≠[32]++ch++[32]:=fun q=>by
   have:=congrArg List.length q
   rw [List.length_append,List.length_append,hc.1] at this
   exact absurd this (by decide)
  refine replace_ok (c:=c) (U:=U) (am:=am) (σ:=σ) (w:=.str (replace t ch ([32]++ch++[32]))) (s:={ s with heap:=h₁,toks:=tk₁+1+1+1+1 }) I₁ (Nat.ne_of_gt ht0) (Nat.succ_ne_zero _) (Nat.ne_of_lt (Nat.lt_of_lt_of_le ht1 (Nat.le_trans t₁ (Nat.le_add_right tk₁ 3)))) (by
   rw [hz,hxy,hch]; exact if_pos ⟨ne,hc.2,by rw [List.length_append,List.length_append,hc.1]; decide⟩) fun am₂ h₂ tk₂ u₂ y₂ I₂ R₂ t₂=>?_
  refine store_ok (s:={ s with heap:=h₂,toks:=tk₂ }) gi o I₂ (F₁.step y₂ fun _ q=>q) hy hky R₂ fun h₃ tk₃ y₃ I₃ F₃ t₃=>?_
  exact wpAny_execs_nil (p am₂ h₃ tk₃ .next (y₁.trans ((o.p y₂).trans y₃)) I₃ F₃ (Nat.le_trans t₁ (Nat.le_trans (Nat.le_add_right tk₁ 4) (Nat.le_trans t₂ t₃))) rfl)
theorem SS_signs {xs y sp1 sp2 cs:Str} {l:Txt} {i j k0 k1 k2:Nat} {p0 p1 p3 p4 p5 p6 p7 p8 p9 pa pb pc pos pf:Pos} (hA:∀ A,RA A→RoomE A) (gi:G.Inj) (hx:G.names[i]?=some (some xs)) (hy:G.names[j]?=some (some y)) (hkx:G.scope.names.lookup xs=some .local) (hky:storeKind G y=true) (hne:i≠j)
  (h0:cs.cps.toList=l) (ha:l.all (·<128)=true) (h1:sp1.cps.toList=[32]) (h2:sp2.cps.toList=[32]) (hd:(xs == ("__debug__":Str))=false) (hd':(y == ("__debug__":Str))=false) (hline:(p5.endLine == pc.line)=true) :
  SS c G RA (.For (.Name xs p1) (.Constant (.str cs) k0 p0) [.Assign [.Name y p3] (.Call (.Attribute (.Name y p4) "replace" p5) [.Name xs p6,.BinOp (.BinOp (.Constant (.str sp1) k1 p7) .Add (.Name xs p8) p9) .Add (.Constant (.str sp2) k2 pa) pb] [] pc) pos] [] pf)
   fun ρ σ=>(signsL i j l ρ).map fun ρ'=>(.next,ρ',σ):=
 fun P U A env ρ am σ r s Q rA ht o I F e p=>SS_loop hA rfl (SE.str h0) (iters_signs hA) (signs_turn gi hx hy hkx hky hne h1 h2 hd hd' hline) P U A env ρ am σ r s Q rA ht o I F (bnd (a:=(V.str l,σ)) rfl (bnd (if_pos ha) ((signs_forL l ρ σ).trans e))) p
end
end
theorem zip_lookup:∀ {names:List Str} {vals:List Value},names.Nodup→vals.length=names.length→∀ {i:Nat} {x:Str},names[i]?=some x→(names.zip vals).lookup x=vals[i]?
 | [],_,_,_,i,x,h=>by simp at h
 | n :: ns,[],_,hl,_,_,_=>by simp at hl
 | n :: ns,v :: vs,hn,hl,i,x,h=>by
  rw [List.nodup_cons] at hn
  rw [List.zip_cons_cons,List.lookup_cons]
  cases i with
  | zero=>
   simp only [List.getElem?_cons_zero,Option.some.injEq] at h ⊢
   subst h; simp
  | succ i=>
   simp only [List.getElem?_cons_succ] at h ⊢
   have:¬ x=n:=fun q=>hn.1 (q▸List.mem_of_getElem? h)
   have:(x == n)=false:=by simpa using this
   refine this▸?_
   exact zip_lookup hn.2 (by simpa using hl) h
theorem zip_filterMap:∀ {names:List Str} {vals:List Value},names.Nodup→vals.length=names.length→(names.filterMap fun n=>((names.zip vals).lookup n).map fun v=>(n,v))=names.zip vals:=by
 intro names vals hn hl
 have key:∀ (ns:List Str) (vs:List Value) (f:Str→Option Value),vs.length=ns.length→(∀ (i:Nat) (x:Str),ns[i]?=some x→f x=vs[i]?)→(ns.filterMap fun n=>(f n).map fun v=>(n,v))=ns.zip vs:=by
  intro ns
  induction ns with
  | nil=>intro vs f _ _; rfl
  | cons n ns ih=>
   intro vs f hl hf
   cases vs with
   | nil=>simp at hl
   | cons v vs=>
    have h0:=hf 0 n rfl
    simp only [List.getElem?_cons_zero] at h0
    rw [List.filterMap_cons,h0]
    simp only [Option.map_some,List.zip_cons_cons]
    exact (ih vs f (by simpa using hl) fun i x h=>hf (i+1) x h)▸rfl
 exact key names vals _ hl fun i x h=>zip_lookup hn hl h
theorem forIn_no {α β γ τ:Type} {l:List α} {d:List β} {s:τ} {f:α×β→τ→Sem (ForInStep τ)} {g:τ→Sem γ} {x:Sem γ} (hd:d=[]) (h:g s=x):(forIn (l.zip d) s f >>= g)=x:=by
 subst hd
 rw [List.zip_nil_right]
 exact h
theorem bind_ok {fd:FuncData} {vals:List Value} {names:List Str} (h1:fd.params.posonlyargs=[]) (h2:fd.params.args.map (·.arg)=names) (h3:fd.params.kwonlyargs=[]) (h4:fd.params.vararg=none) (h5:fd.params.kwarg=none) (h6:fd.defaults = .none) (hn:names.Nodup) (hl:vals.length=names.length) :
  bindArgs fd ⟨vals,[]⟩=pure (names.zip vals):=by
 have hd:((#[]:Array Value).toList.drop ((#[]:Array Value).toList.length - names.length))=[]:=List.drop_nil
 have g1:¬ (decide (vals.length > names.length) && true)=true:=by rw [decide_eq_false (fun h=>Nat.lt_irrefl _ (hl▸h))]; exact Bool.false_ne_true
 have g2:¬ (!((names.take (names.length - ((#[]:Array Value).toList.drop ((#[]:Array Value).toList.length - names.length)).length)).filter fun n=>((names.zip vals).lookup n).isNone).isEmpty)=true:=by
  rw [hd,List.length_nil,Nat.sub_zero,List.take_length,List.filter_eq_nil_iff.mpr fun x hx=>?_]
  ·exact Bool.false_ne_true
  ·refine (List.getElem?_of_mem hx).elim fun i hi=>?_
   rw [zip_lookup hn hl hi,List.getElem?_eq_getElem (hl▸(List.getElem?_eq_some_iff.mp hi).1:i<vals.length)]
   exact Bool.false_ne_true
 have hf:=zip_filterMap hn hl
 obtain ⟨nm,qual,⟨po,ar,va,ko,kd,kwa,df⟩,bd,sc,gl,cl,dV,kV,doc,pm,an,cdv,ct,bu⟩:=fd
 dsimp only at h1 h2 h3 h4 h5 h6
 subst h1 h3 h4 h5 h6
 subst h2
 refine Eq.trans (b:=ite ((decide (vals.length > (ar.map (·.arg)).length) && true)=true) _ (ite ((!(((ar.map (·.arg)).take ((ar.map (·.arg)).length - ((#[]:Array Value).toList.drop ((#[]:Array Value).toList.length - (ar.map (·.arg)).length)).length)).filter fun n=>(((ar.map (·.arg)).zip vals).lookup n).isNone).isEmpty)=true) _ _)) rfl ((if_neg g1).trans ((if_neg g2).trans (forIn_no hd ?_)))
 exact ((congrArg (fun l=>Sem.pure (List.filterMap (fun n=>(((ar.map (·.arg)).zip vals).lookup n).map fun v=>(n,v)) l)) (List.append_nil _)).trans (congrArg Sem.pure hf))
section
section
variable {Z:Stat} {F F0 F':Addr→Obj→Prop} {am am':List Addr}
theorem pre_get {n:Nat} {a b:Addr} (ha:am <+: am') (h:am[n]?=some a) (h':am'[n]?=some b):am[n]?=some b:=pre_down ha h' (get_lt h)
theorem KV.on {K:Type} {enc:K→V} {P:List (K×Value)→Prop} {xs:List (K×Value)} {kv:List (V×V)} (h:KV enc Z F am xs kv):kv.casesOn (P []→P xs) fun p kv=>(∀ k u ys,p.1=enc k→VR Z F am u p.2→KV enc Z F am ys kv→P ((k,u) :: ys))→P xs:=
 h.casesOn (motive:=fun xs kv _=>kv.casesOn (P []→P xs) fun p kv=>(∀ k u ys,p.1=enc k→VR Z F am u p.2→KV enc Z F am ys kv→P ((k,u) :: ys))→P xs) (fun h=>h) fun r rs h=>h _ _ _ rfl r rs
theorem KV.shrink (ha:am <+: am') {K K0:Type} {enc:K→V} {enc0:K0→V} {xs0:List (K0×Value)} {kv:List (V×V)} (h0:KV enc0 Z F0 am xs0 kv):∀ {xs:List (K×Value)},KV enc Z F' am' xs kv→KV enc Z F' am xs kv:=
 h0.rec (motive:=fun _ kv _=>∀ {xs:List (K×Value)},KV enc Z F' am' xs kv→KV enc Z F' am xs kv) (fun h=>h.on (P:=fun xs=>KV enc Z F' am xs []) .nil) fun {k0 u0 v xs kv} r0 _ ih {xs} h=>h.on (P:=fun xs=>KV enc Z F' am xs ((enc0 k0,v) :: kv)) fun k u ys e r rs=>(show enc0 k0=enc k from e).symm▸.cons (r0.shrink ha r) (ih rs)
end
section
variable {prog:Program} {w:World} {Z:Stat} {hb:Heap} {U:Addr→Prop} {F F0 F':Addr→Obj→Prop} {am am':List Addr} {σ σ':St} {h h':Heap}
theorem DR.shrink (ha:am <+: am') {K K0:Type} [DecidableEq K] [DecidableEq K0] {knd:KeyKind prog w K} {knd0:KeyKind prog w K0} {enc:K→V} {enc0:K0→V} {o o0:Obj} {kv:List (V×V)} (h0:DR knd0 enc0 Z F0 am o0 kv) (h:DR knd enc Z F' am' o kv):DR knd enc Z F' am o kv:=
 e3_6 h0.2 fun _ _ _ _ _ _ _ _ k0=>e3_6 h.2 fun es ep kvs h2 h3 h4 h5 h6 h7=>⟨h.1,es,ep,kvs,h2,h3,h4,h5,h6,k0.shrink ha h7⟩
theorem OR.shrink (ha:am <+: am') {n:Nat} {o o0:Obj} {O:Cel}:OR prog w Z F0 am n o0 O→OR prog w Z F' am' n o O→OR prog w Z F' am n o O:=
 O.casesOn (motive:=fun O=>OR prog w Z F0 am n o0 O→OR prog w Z F' am' n o O→OR prog w Z F' am n o O) (fun xs h0 h=>e2_2 h0 fun _ _ _ r0=>e2_2 h fun its e h1 r=>⟨its,e,h1,r0.shrink ha r⟩)
  (fun kv h0 h=>h.elim (fun h=>.inl (h0.elim (fun h0=>h0.shrink ha h) fun h0=>h0.shrink ha h)) fun h=>.inr (h0.elim (fun h0=>h0.shrink ha h) fun h0=>h0.shrink ha h))
  (fun c h0 h=>e2_3 h0 fun C0 dx0 _ g0 _=>e2_3 h fun C dx h1 h2 h3=>⟨C,dx,h1,pre_get ha g0 h2,h3⟩) (fun kv h0 h=>e2_3 h0 fun _ _ _ _ r0=>e2_3 h fun es e h1 h2 r=>⟨es,e,h1,h2,r0.shrink ha r⟩) (fun _ _ _=>trivial) fun _ _=>trivial
theorem take_at (ht:σ'.take σ.length=σ) {n:Nat} {O:Cel} (e:σ[n]?=some O):σ'[n]?=some O:=(List.getElem?_take_of_lt (List.getElem?_eq_some_iff.mp e).1).symm.trans ((congrArg (fun l:St=>l[n]?) ht).trans e)
theorem Inv.leave (I0:Inv prog w Z hb U am σ h) (I:Inv prog w Z hb U am' σ' h') (ha:am <+: am') (ht:σ'.take σ.length=σ):Inv prog w Z hb U am σ h'∧∀ a o,Fz U am' σ' h' a o→Fz U am σ h' a o:=
 have hX:∀ a,X U am σ a→X U am' σ' a:=fun a x=>x.imp id fun x=>e2_3 x fun n O h1 h2 h3=>⟨n,O,take_at ht h1,h2,pre_up ha h3⟩
 have hF:∀ a o,Fz U am' σ' h' a o→Fz U am σ h' a o:=fun a o e=>⟨e.1,fun x=>e.2 (hX a x)⟩
 ⟨⟨I.base,I0.len,fun n O a h1 h2 h3=>e1_2 (I0.live n O a h1 h2 h3).1 fun o0 _ r0=>e0_3 (I.live n O a (take_at ht h1) h2 (pre_up ha h3)) fun z h4 h5=>⟨e1_2 z fun o ho r=>⟨o,ho,r0.shrink ha (r.mono prog w hF List.prefix_rfl)⟩,h4,h5⟩,
  I0.inj,fun n xs a h1 h2=>(I0.fl n xs a h1 h2).shrink ha ((I.fl n xs a (take_at ht h1) (pre_up ha h2)).mono hF List.prefix_rfl),I.out⟩,hF⟩
end
end
structure Room (d:Nat) (A:Around):Prop where
 hh:A.handled=none
 dp:A.depth+4 * d≤900
 un:A.units+12 * d≤9000
theorem Room.e {d:Nat} {A:Around} (r:Room d A):RoomE A:=⟨r.hh,by have:=r.un; unfold cLine; lia⟩
structure RoomB (d:Nat) (A:Around):Prop where
 hh:A.handled=none
 dp:A.depth+4 * d+3≤900
 un:A.units+12 * d+9≤9000
theorem RoomB.room {d:Nat} {A:Around} (r:RoomB d A):Room d A:=⟨r.hh,by have:=r.dp; lia,by have:=r.un; lia⟩
theorem RoomB.e {d:Nat} (A:Around) (r:RoomB d A):RoomE A:=r.room.e
theorem Room.deeper {d:Nat} {A:Around} {env:Env} (r:Room (d+1) A):RoomB d (A.deeper env):=
 ⟨r.hh,by have:=r.dp; refine (?_:A.depth+1+4 * d+3≤900); lia,by have:=r.un; refine (?_:A.units+3+12 * d+9≤9000); lia⟩
theorem RoomB.make {d:Nat} {A:Around} {C:Addr} {rest:List Value} (r:RoomB d A):Room d (A.under (.builtin "type.__call__" ⟨.ref C :: rest,[]⟩)):=
 ⟨r.hh,by have:=r.dp; refine (?_:A.depth+1+4 * d≤900); lia,by have:=r.un; refine (?_:A.units+1+12 * d≤9000); lia⟩
structure FnOk (c:Cx) (f:Nat) (arity:Nat) (a:Addr) (o:Obj) (fd:FuncData) (body:List Stmt) (G:Ctx) (names:List Str):Prop where
 hz:c.Z.fn[f]?=some a
 hk:c.K.lookup a=some o
 hd:o.data = .func fd
 hb:fd.body = .stmts body
 hcl:fd.closure=[]
 p1:fd.params.posonlyargs=[]
 p2:fd.params.args.map (·.arg)=names
 p3:fd.params.kwonlyargs=[]
 p4:fd.params.vararg=none
 p5:fd.params.kwarg=none
 p6:fd.defaults = .none
 nod:names.Nodup
 ar:names.length=arity
 hG:G.scope=fd.scope
 hGn:∀ (i:Nat) x,names[i]?=some x→G.names[i]?=some (some x)
 gi:G.Inj
 hloc:∀ x ∈ names,storeKind G x=true
 nofree:∀ x ∈ fd.scope.names,x.2≠.free
 gl:fd.globals=mainGlobals
 bu:fd.builtins=builtinsNs
 hcd:codeIn c.K fd.code fd.qualname=true
 hco:fd.scope.isCoroutine=false
 hgen:fd.scope.isGenerator=false
 hkind:fd.scope.kind = .function
theorem names_zip {names:List Str} {vals:List Value} {n:Str} (h:n ∈ (names.zip vals).map (·.1)):n ∈ names:=(List.mem_map.mp h).elim fun p z=>z.2▸(List.of_mem_zip z.1).1
theorem bindL_notin {k:Str→Option NameKind} {x:Str}:∀ {bs:List (Str×Value)} {m:Str→Option Value},x ∉ bs.map (·.1)→bindL k bs m x=m x
 | [],_,_=>rfl
 | (n,v) :: r,m,h=>by
  have h:=not_or.mp (mt List.mem_cons.mpr h)
  unfold bindL
  rw [bindL_notin h.2]
  split
  ·exact if_neg h.1
  ·rfl
theorem bindC_notin {k:Str→Option NameKind} {x:Str}:∀ {bs:List (Str×Value)} {m:Str→Option Value},x ∉ bs.map (·.1)→bindC k bs m x=m x
 | [],_,_=>rfl
 | (n,v) :: r,m,h=>by
  have h:=not_or.mp (mt List.mem_cons.mpr h)
  unfold bindC
  rw [bindC_notin h.2]
  split
  ·rfl
  ·exact if_neg h.1
theorem bind_get {x:Str} {B:List (Str×Value)→(Str→Option Value)→Str→Option Value} (hn:∀ {bs m},x ∉ bs.map (·.1)→B bs m x=m x) (hc:∀ n v r m,∃ m',B ((n,v) :: r) m=B r m'∧(n=x→m' x=some v)) :
  ∀ {names:List Str} {vals:List Value} {m:Str→Option Value} {i:Nat},names.Nodup→vals.length=names.length→names[i]?=some x→B (names.zip vals) m x=vals[i]?
 | [],_,_,_,_,_,h=>noS h
 | n :: ns,[],_,_,_,hl,_=>nomatch hl
 | n :: ns,v :: vs,m,i,hd,hl,h=>by
  have hd:=List.nodup_cons.mp hd
  refine (hc n v (ns.zip vs) m).elim fun m' z=>?_
  rw [List.zip_cons_cons,z.1]
  cases i with
  | zero=>
   have e:n=x:=Option.some.inj h
   exact (hn fun q=>hd.1 (e▸names_zip q)).trans (z.2 e)
  | succ i=>exact bind_get hn hc hd.2 (Nat.succ.inj hl) h
theorem bindL_get {k:Str→Option NameKind} {x:Str} {names:List Str} {vals:List Value} {m:Str→Option Value} {i:Nat} (hn:names.Nodup) (hl:vals.length=names.length) (hk:k x=some .local) (h:names[i]?=some x):bindL k (names.zip vals) m x=vals[i]?:=
 bind_get (B:=bindL k) bindL_notin (fun n v r m=>⟨_,rfl,fun e=>(if_pos (e▸hk)).symm▸if_pos e.symm⟩) hn hl h
theorem bindC_get {k:Str→Option NameKind} {x:Str} {names:List Str} {vals:List Value} {m:Str→Option Value} {i:Nat} (hn:names.Nodup) (hl:vals.length=names.length) (hk:¬ k x=some .local) (h:names[i]?=some x):bindC k (names.zip vals) m x=vals[i]?:=
 bind_get (B:=bindC k) bindC_notin (fun n v r m=>⟨_,rfl,fun e=>(if_neg (e▸hk)).symm▸if_pos e.symm⟩) hn hl h
theorem cellsFrom_some {x:Str}:∀ {names:List (Str×NameKind)} {n:Nat} {acc:List (Str×Addr)},(x,NameKind.cell) ∈ names∨(acc.lookup x).isSome=true→((cellsFrom n names acc).lookup x).isSome=true
 | [],n,acc,h=>h.elim (fun h=>nomatch h) id
 | (y,k) :: r,n,acc,h=>by
  unfold cellsFrom
  split
  ·refine cellsFrom_some (h.elim (fun h=>(List.mem_cons.mp h).elim (fun e=>.inr ?_) .inl) fun h=>.inr ?_)
   ·rw [List.lookup_cons,beq_iff_eq.mpr (Prod.mk.inj e).1]; rfl
   ·rw [List.lookup_cons]
    split
    ·rfl
    ·exact h
  ·rename_i hk
   exact cellsFrom_some (h.imp (fun h=>(List.mem_cons.mp h).elim (fun e=>absurd (beq_iff_eq.mpr (Prod.mk.inj e).2.symm) hk) id) id)
noncomputable def CallOk (c:Cx) (d:Nat) (C:Callee):Prop:=
 ∀ f vs σ v σ',C f vs σ=some (v,σ')→∀ U A am (s:Shared) us a Q,Room d A→0<s.toks→c.I U am σ s.heap→c.Rs U am σ s.heap us vs→c.Z.fn[f]?=some a→PostE c U am s σ σ' v Q→
  codeAny c.M A (.call (.ref a) ⟨us,[]⟩) (fun r s'=>match r with | .ok (.ret u)=>Q u s' | _=>False) s
theorem args_at {vs:List V} {n i:Nat} {v:V} (q:(vs.map some++List.replicate n none)[i]?=some (some v)):vs[i]?=some v:=by
 by_cases hi:i<vs.length
 ·rw [List.getElem?_append_left (by rw [List.length_map]; exact hi),List.getElem?_map] at q
  exact mapI q fun w e1 e2=>e1.trans e2
 ·rw [List.getElem?_append_right (by rw [List.length_map]; exact Nat.le_of_not_lt hi),List.getElem?_replicate] at q
  exact ite_some q fun _ e=>noS (Option.some.inj e)
theorem leave_on {v w:V} {σ σ' σ'':St} {X:Prop} (e:leave w σ σ'=(v,σ'')) (k1:w.pure=true→σ'.take σ.length=σ→(w,σ)=(v,σ'')→X) (k2:(w,σ')=(v,σ'')→X):X:=by
 unfold leave at e
 split at e
 ·rename_i h; exact k1 h.1 h.2 e
 ·exact k2 e
theorem leave_end {c:Cx} {U:Addr→Prop} {am am':List Addr} {σ σ' σ'':St} {s:Shared} {h':Heap} {tk:Nat} {u:Value} {v w:V} {Q:Value→Shared→Prop} (e:leave w σ σ'=(v,σ'')) (P:PostE c U am s σ σ'' v Q) (I:c.I U am σ s.heap) (I₂:c.I U am' σ' h') (y:Stp U U am σ s.heap am' σ' h') (r:c.R U am' σ' h' u w) (t:s.toks≤tk) :
  Q u { s with heap:=h',toks:=tk }:=
 leave_on e (fun hp ht e=>e0_2 (I.leave I₂ y.pre ht) fun I₃ hF₃=>P.atp e am h' tk u ⟨List.prefix_rfl,y.keepP,fun a o q=>hF₃ a o (y.keepF a o q)⟩ I₃ ((r.mono hF₃ List.prefix_rfl).ofPure hp) t) fun e=>P.atp e am' h' tk u y I₂ r t
theorem call_fn {z:Nat} {c:Cx} {f arity slots:Nat} {a:Addr} {o:Obj} {fd:FuncData} {body:List Stmt} {G:Ctx} {names:List Str} {d:Nat} {g:Loc→St→Option (Ctl×Loc×St)} (H:FnOk c f arity a o fd body G names) (hb:SSsZ z c G (RoomB d) body g)
  {vs:List V} {σ σ'':St} {v:V} {r:Ctl×Loc×St} (hl:vs.length=arity) (e:g (vs.map some++List.replicate (slots - arity) none) σ=some r) (e2:bodyR r σ=(v,σ''))
  {U:Addr→Prop} {A:Around} {am:List Addr} {s:Shared} {us:List Value} {Q:Value→Shared→Prop} (rA:Room (d+1) A) (h0:z≤s.toks) (I:c.I U am σ s.heap) (R:c.Rs U am σ s.heap us vs) (P:PostE c U am s σ σ'' v Q) :
  codeAny c.M A (.call (.ref a) ⟨us,[]⟩) (fun r s'=>match r with | .ok (.ret u)=>Q u s' | _=>False) s:=by
 have X:c.K.In s.heap:=c.bs.k.keeps I.base
 have len:us.length=names.length:=R.length.trans (hl.trans H.ar.symm)
 refine codeAny_call_function (by have:=rA.dp; unfold recursionLimit; lia) (X a o H.hk) H.hd H.hco H.hgen H.hb (codeRec_of X H.hcd) ?_
 rw [bind_ok H.p1 H.p2 H.p3 H.p4 H.p5 H.p6 H.nod len,H.hcl]
 refine wpAny_pure (wpAny_with_toks (Nat.le_refl _) (wpAny_newFunctionEnv_cells H.hkind (fun y hy=>?_) fun env he s' x t'=>?_))
 ·exact (Bool.or_eq_true_iff.mp (H.hloc y.1 (List.of_mem_zip (a:=y.1) (b:=y.2) hy).1)).imp (fun k=>H.hG▸of_decide_eq_true k) fun k=>have k:fd.scope.names.lookup y.1=some .cell:=H.hG▸of_decide_eq_true k; ⟨k,cellsFrom_some (.inl (mem_of_lookup k))⟩
 ·refine e2_1 x.toInCall.same fun h₁ tk₁ es=>?_
  subst es
  have k:∀ b o,s.heap.get? b=some o→h₁.get? b=some o:=x.toInCall.keep
  have hL:env.locals=s.heap.objs.size:=by rw [he]; rfl
  have hsc:env.scope=fd.scope:=by rw [he]; rfl
  have hgl:env.globals=mainGlobals:=by rw [← H.gl,he]; rfl
  have hbu:env.builtins=builtinsNs:=by rw [← H.bu,he]; rfl
  have hcs:env.cells=cellsFrom (s.heap.objs.size+1) fd.scope.names []:=by rw [he]; rfl
  clear he
  have hko:∀ y,env.kindOf y=fd.scope.names.lookup y:=fun y=>by unfold Env.kindOf; rw [hsc]
  have big:∀ {b},s.heap.objs.size≤b→s.heap.get? b=none:=fun {b} q=>Option.eq_none_iff_forall_ne_some.mpr fun o' e=>absurd (Heap.lt_size e) (Nat.not_lt.mpr q)
  have hcell:∀ {y b},env.cells.lookup y=some b→s.heap.get? b=none∧b≠env.locals:=fun {y b} q=>have z:=x.above y b (mem_of_lookup q); ⟨big (hL▸Nat.le_of_lt z),fun w=>Nat.lt_irrefl _ (w▸z)⟩
  have own:∀ b,Own env b→s.heap.get? b=none∧∃ o,h₁.get? b=some o:=fun b q=>q.elim (fun q=>q▸⟨hL▸get_size _,e3_2 x.toInCall.ns fun o' _ _ e _=>⟨o',e⟩⟩) fun q=>q.elim fun y hy=>⟨(hcell hy).1,e1_2 (x.cell y b hy) fun o' e _=>⟨o',e⟩⟩
  have N:=I.enter (N:=Own env) k own
  have hlim:h₁.NoLimit:=(c.bs.lim.keeps I.base).keeps k
  refine ⟨hlim,codeAny_func ?_⟩
  have arg:∀ {i:Nat} {v:V} {y:Str},G.names[i]?=some (some y)→(vs.map some++List.replicate (slots - arity) none)[i]?=some (some v)→∃ u,names[i]?=some y∧us[i]?=some u∧c.R (fun a=>U a∨Own env a) am σ h₁ u v:=fun {i v y} q1 q=>
   have q:=args_at q
   have hi:=(List.getElem?_eq_some_iff.mp q).1
   have hn:=List.getElem?_eq_getElem (show i<names.length from H.ar▸hl▸hi)
   e1_2 (R.get q) fun u hu r=>⟨u,hn.trans (congrArg some (slot_name q1 (H.hGn i _ hn))),hu,r.mono N.2 List.prefix_rfl⟩
  have F₁:FR c G (fun a=>U a∨Own env a) env (vs.map some++List.replicate (slots - arity) none) am σ h₁:=
   ⟨hsc.trans H.hG.symm,hsc.symm▸H.hkind,hgl,hbu,.inr (.inl rfl),fun y b q=>⟨.inr (.inr ⟨y,q⟩),(hcell q).2⟩,fun y z b q q'=>name_of_addr x.apart (mem_of_lookup q) (mem_of_lookup q'),
    ⟨_,x.toInCall.ns,fun i y v q1 q2 q3=>e1_3 (arg q1 q2) fun u g1 g2 g3=>⟨u,(bindL_get H.nod len q3 g1).trans g2,g3⟩⟩,
    fun i y q1 q2=>by
     have q2:env.kindOf y=some .cell:=q2.elim id fun q2=>absurd rfl (H.nofree _ (mem_of_lookup ((hko y).symm.trans q2)))
     refine (Option.isSome_iff_exists.mp (hcs▸cellsFrom_some (.inl (mem_of_lookup ((hko y).symm.trans q2))):(env.cells.lookup y).isSome=true)).elim fun b hb'=>e1_2 (x.cell y b hb') fun o' e hd'=>?_
     exact ⟨b,o',hb',e,_,hd',fun v q=>e1_3 (arg q1 q) fun u g1 g2 g3=>⟨u,(bindC_get H.nod len (fun z=>noLC z q2) g1).trans g2,g3⟩⟩⟩
  have oU:Outer U (fun a=>U a∨Own env a) env:=⟨fun _ q=>.inl q,fun b q z=>(I.out b q).2.elim fun o' e=>noH e (own b (.inl z)).1,fun b y b' q q' z=>(I.out b q).2.elim fun o' e=>noH e (z▸(hcell q').1)⟩
  refine noE (hb U _ (A.deeper env) env _ am σ r { s with heap:=h₁,toks:=tk₁ } _ rA.deeper (Nat.le_trans h0 t') oU N.1 F₁ e fun am' h' tk fl y I' F' t fr=>?_)
  have L:=I'.exit (U:=U) fun _ q=>.inl q
  have y₂:Stp U U am σ s.heap am' r.2.2 h':=Stp.around N.2 k (fun _ q=>q) L.2 y
  have t:=Nat.le_trans t' t
  clear arg F₁ oU own N big
  obtain ⟨ctl,ρ',σ'⟩:=r
  cases ctl with
  | next=>subst fr; exact leave_end (s:=s) e2 P I L.1 y₂ .none t
  | ret w=>exact e1_2 fr fun u ef R=>by subst ef; exact leave_end (s:=s) e2 P I L.1 y₂ (R.mono L.2 List.prefix_rfl) t
section
section
variable {c:Cx} {G:Ctx} {RA:Around→Prop} {P U:Addr→Prop} {am:List Addr} {σ σ':St} {s:Shared} {env:Env} {ρ:Loc} {d:Nat}
theorem callWithK {A:Around} {f:Value} {first:List Value} {args:List Expr} {pos:Pos} {Q:Value→Shared→Prop} (hs:args.all notStar=true) (hk:keepIn c.K f=true)
  (h:wpAny c.M A (spliced (backTo pos (starEach args env))) (fun us s₁=>c.K.In s₁.heap∧wpAny c.M A (call f (first++us)) Q NoE s₁) NoE s):wpAny c.M A (callWith pos f first (backTo pos (starEach args env)) []) Q NoE s:=by
 cases args with
 | nil=>
  refine callWith_of rfl (keeps_K hk) ?_
  unfold evalArgs
  refine wpAny_bind (wpAny_mono h (fun us s' h'=>?_) fun _ _ x=>x)
  exact wpAny_bind (wpAny_pure (wpAny_holding (wpAny_bind (wpAny_pure (wpAny_bind (wpAny_pure (wpAny_pure h')))))))
 | cons e rest=>
  have hs:=Bool.and_eq_true_iff.mp hs
  rw [star_of hs.1] at h ⊢
  refine callWith_of ?_ (keeps_K hk) (evalArgs_plain h)
  refine (?_:((false || (backTo pos (starEach rest env)).any (·.1)) || false)=false)
  rw [(anyStar hs.2).2]; rfl
structure GlobName (c:Cx) (G:Ctx) (x:Str) (a:Addr):Prop where
 hk:G.scope.names.lookup x=some .globalImplicit
 hd:(x == ("__debug__":Str))=false
 e:nsIn c.K mainGlobals x=some (some (.ref a))
 keep:keepIn c.K (.ref a)=true
theorem codeR {A:Around} {f:Value} {us:List Value} {Q:Value→Shared→Prop} (h:codeAny c.M A (.call f ⟨us,[]⟩) (fun r s'=>match r with | .ok (.ret u)=>Q u s' | _=>False) s):wpAny c.M A (call f us) Q NoE s:=by
 refine wpAny_call (codeAny_mono h fun r s' x=>?_)
 cases r with
 | error e=>exact x.elim
 | ok fl=>cases fl <;> first | exact x | exact x.elim
theorem SE_call {x:Str} {args:List Expr} {f:Nat} {a:Addr} {C:Callee} {p pos:Pos} {fa:Loc→St→Option (List V×St)} (hC:CallOk c d C) (N:GlobName c G x a) (hz:c.Z.fn[f]?=some a) (hs:args.all notStar=true) (ha:SEs c G (RoomB d) args fa) :
  SE c G (RoomB d) (.Call (.Name x p) args [] pos) fun ρ σ=>(fa ρ σ).bind fun (vs,σ₁)=>C f vs σ₁:=
 fun U A env ρ am σ v σ' s Q rA h0 I F e P=>bindP e fun vs σ₁ e1 e=>Call_ (nameGlobal I F N.hk N.hd N.e (callWithK hs N.keep (ha U A env ρ am σ vs σ₁ s pos _ rA h0 I F e1 fun am₁ h₁ tk₁ us y₁ I₁ R₁ t₁=>
  ⟨c.bs.k.keeps I₁.base,codeR (hC f vs σ₁ v σ' e U A am₁ { s with heap:=h₁,toks:=tk₁ } us a Q rA.room (Nat.lt_of_lt_of_le h0 t₁) I₁ R₁ hz (P.after y₁ t₁))⟩)))
theorem make0_raw {A:Around} {K:Frag} {C:Addr} {R:Result→Shared→Prop} {prog:Program} {w:World} (X:K.In s.heap) (hm:makesIn K C=true) (hi:findIn K (.ref C) "__init__"=some (some (.builtin "object.__init__")))
  (h:R (.ok (.ret (.ref (s.heap.objs.size+1)))) { s with heap:=(s.heap.push emptyDict).push (instObj C s.heap.objs.size) }):codeAny (model prog w) A (.call (.ref C) ⟨[],[]⟩) R s:=by
 obtain ⟨hh,g,dr,t,os⟩:=s
 have Y:=makes_of (M:=model prog w) X hm
 refine make_core Y (looks_findIn X hi) (fun self=>Looks.of_pure (oi_bind self)) (.inr ⟨rfl,rfl⟩) ?_
 have at_:((hh.push emptyDict).push (instObj C hh.objs.size)).get? (hh.objs.size+1)=some (instObj C hh.objs.size):=by
  have:=Heap.get?_push_size (hh.push emptyDict) (o:=instObj C hh.objs.size) rfl
  rwa [Heap.size_push] at this
 have t1:Looks (model prog w) ((hh.push emptyDict).push (instObj C hh.objs.size)) (typeOf (.ref (hh.objs.size+1))) (.ref C):=(Looks.ld at_).andThen .now
 have t2:Looks (model prog w) ((hh.push emptyDict).push (instObj C hh.objs.size)) (isInstance (.ref (hh.objs.size+1)) (.type "object")) true:=t1.andThen (Y.top.keeps fun b o e=>Heap.get?_push_of_some _ (Heap.get?_push_of_some _ e))
 refine codeAny_call_builtin oi_plain entry_oi (@check_slot (model prog w) _ _ _ "object.__init__" "object" "__init__" (.ref (hh.objs.size+1)) [] [] _ oi_kind oi_split t2 (oi_args (.ref (hh.objs.size+1))) ?_)
 rw [oi_run]
 exact wpAny_pure (And.intro rfl h)
theorem two_at {α:Type} {x y z:α} {i:Nat} (h:[x,y][i]?=some z):(i=0∧z=x)∨(i=1∧z=y):=by
 cases i with
 | zero=>exact .inl ⟨rfl,(Option.some.inj h).symm⟩
 | succ i=>exact .inr ((one_at h).imp (congrArg (·+1)) id)
theorem Inv.inst {i:Nat} {C:Addr} (I:c.I U am σ s.heap) (hz:c.Z.cls[i]?=some C) :
  c.I U (am++[s.heap.objs.size+1,s.heap.objs.size]) (σ++[.inst i,.attrs []]) ((s.heap.push emptyDict).push (instObj C s.heap.objs.size))∧
  Stp U U am σ s.heap (am++[s.heap.objs.size+1,s.heap.objs.size]) (σ++[.inst i,.attrs []]) ((s.heap.push emptyDict).push (instObj C s.heap.objs.size)):=by
 have at1:((s.heap.push emptyDict).push (instObj C s.heap.objs.size)).get? (s.heap.objs.size+1)=some (instObj C s.heap.objs.size):=by
  have:=Heap.get?_push_size (s.heap.push emptyDict) (o:=instObj C s.heap.objs.size) rfl
  rwa [Heap.size_push] at this
 have at0:((s.heap.push emptyDict).push (instObj C s.heap.objs.size)).get? s.heap.objs.size=some emptyDict:=Heap.get?_push_of_some _ (Heap.get?_push_size _ rfl)
 have no1:s.heap.get? (s.heap.objs.size+1)=none:=Option.eq_none_iff_forall_ne_some.mpr fun o e=>absurd (Heap.lt_size e) (Nat.not_lt.mpr (Nat.le_succ _))
 have dx:(am++[s.heap.objs.size+1,s.heap.objs.size])[σ.length+0+1]?=some s.heap.objs.size:=by
  rw [← I.len]; show (am++_)[am.length+1]?=_; rw [List.getElem?_append_right (Nat.le_add_right _ 1),Nat.add_sub_cancel_left]; rfl
 revert at1 at0 no1 dx
 generalize hn:s.heap.objs.size+1=n
 generalize ho:s.heap.objs.size=m
 generalize hh:(s.heap.push emptyDict).push (instObj C m)=h'
 intro at1 at0 no1 dx
 have nm:n≠m:=fun z=>absurd (hn.trans z) (ho▸Nat.succ_ne_self _)
 refine I.extend (fun b o e=>hh▸pushed b o (pushed b o e)) rfl (fun hF j O a h1 h2=>?_) (fun j O a h1 h2=>?_) (fun j k a h1 h2=>?_)
 ·refine (two_at h1).elim (fun z=>(two_at h2).elim (fun z'=>?_) fun z'=>absurd (z.1.symm.trans z'.1) (by decide)) fun z=>(two_at h2).elim (fun z'=>absurd (z.1.symm.trans z'.1) (by decide)) fun z'=>?_
  ·rw [z.2,z'.2,z.1]; exact ⟨_,at1,C,m,hz,dx,rfl⟩
  ·rw [z.2,z'.2]; exact ⟨_,at0,[],0,rfl,Nat.zero_le _,.nil⟩
 ·refine (two_at h1).elim (fun z=>(two_at h2).elim (fun z'=>?_) fun z'=>absurd (z.1.symm.trans z'.1) (by decide)) fun z=>(two_at h2).elim (fun z'=>absurd (z.1.symm.trans z'.1) (by decide)) fun z'=>?_
  ·rw [z.2,z'.2]; exact ⟨rfl,no1⟩
  ·rw [z.2,z'.2]; exact ⟨rfl,ho▸get_size _⟩
 ·exact (two_at h1).elim (fun z=>(two_at h2).elim (fun z'=>z.1.trans z'.1.symm) fun z'=>absurd (z.2.symm.trans z'.2) nm) fun z=>(two_at h2).elim (fun z'=>absurd (z'.2.symm.trans z.2) nm) fun z'=>z.1.trans z'.1.symm
structure ClsName (c:Cx) (G:Ctx) (x:Str) (i:Nat) (C:Addr):Prop extends GlobName c G x C where
 hz:c.Z.cls[i]?=some C
 mak:makesIn c.K C=true
theorem inst_at (I:c.I U am σ s.heap) {x y:Addr}:(am++[x,y])[σ.length]?=some x:=by rw [← I.len,List.getElem?_append_right (Nat.le_refl _),Nat.sub_self]; rfl
theorem SE_new0 {x:Str} {i:Nat} {C:Addr} {p pos:Pos} (N:ClsName c G x i C) (hi:findIn c.K (.ref C) "__init__"=some (some (.builtin "object.__init__"))) :
  SE c G RA (.Call (.Name x p) [] [] pos) fun ρ σ=>some (.loc σ.length,σ++[.inst i,.attrs []]):=
 fun U A env ρ am σ v σ' s Q rA h0 I F e P=>Call_ (nameGlobal I F N.hk N.hd N.e (callWithK rfl N.keep (wpAny_items_nil ⟨c.bs.k.keeps I.base,codeR (make0_raw (c.bs.k.keeps I.base) N.mak hi (e0_2 (I.inst N.hz) fun I' y=>P.ats e _ _ s.toks _ y I' (.loc (inst_at I)) (Nat.le_refl _)))⟩)))
theorem SE_new1 {x:Str} {i f:Nat} {C a:Addr} {args:List Expr} {Cl:Callee} {p pos:Pos} {fa:Loc→St→Option (List V×St)} (hC:CallOk c d Cl) (N:ClsName c G x i C) (hi:findIn c.K (.ref C) "__init__"=some (some (.ref a))) (hf:typeIn c.K (.ref a)=some (.type "function")) (hz:c.Z.fn[f]?=some a)
  (hs:args.all notStar=true) (ha:SEs c G (RoomB d) args fa) :
  SE c G (RoomB d) (.Call (.Name x p) args [] pos) fun ρ σ=>(fa ρ σ).bind fun (vs,σ₁)=>newF Cl (some (some f)) i vs σ₁:=
 fun U A env ρ am σ v σ' s Q rA h0 I F e P=>bindP e fun vs σ₁ e1 e=>bindP e fun r σ₂ e2 e=>cond_inv e fun hr e=>Call_ (nameGlobal I F N.hk N.hd N.e (callWithK hs N.keep (ha U A env ρ am σ vs σ₁ s pos _ rA h0 I F e1 fun am₁ h₁ tk₁ us y₁ I₁ R₁ t₁=>by
  refine ⟨c.bs.k.keeps I₁.base,codeR ?_⟩
  have X:c.K.In h₁:=c.bs.k.keeps I₁.base
  have P:=(P.ats e).after y₁ t₁
  refine make_core (makes_of X N.mak) (looks_findIn X hi) (fun self=>bind_fn X self hf) (.inl rfl) ?_
  refine e0_2 (Inv.inst (s:={ s with heap:=h₁,toks:=tk₁ }) I₁ N.hz) fun I₂ y₂=>?_
  have at_:(am₁++[h₁.objs.size+1,h₁.objs.size])[σ₁.length]?=some (h₁.objs.size+1):=inst_at (s:={ s with heap:=h₁,toks:=tk₁ }) I₁
  refine codeAny_mono (hC f _ _ _ _ e2 U _ _ { s with heap:=(h₁.push emptyDict).push (instObj C h₁.objs.size),toks:=tk₁ } (.ref (h₁.objs.size+1) :: us) a (fun u s'=>u = .none∧Q (.ref (h₁.objs.size+1)) s') rA.make (Nat.lt_of_lt_of_le h0 t₁) I₂ (.cons (.loc at_) (R₁.step y₂)) hz fun am₃ h₃ tk₃ u y₃ I₃ R₃ t₃=>
   ⟨R_none (R₃.at (isNone_eq hr)),P am₃ h₃ tk₃ _ (y₂.trans y₃) I₃ (.loc (pre_up y₃.pre at_)) t₃⟩) fun r s' x=>?_
  cases r with
  | error e=>exact x.elim
  | ok fl=>cases fl <;> first | exact x | exact x.elim)))
end
end
section
section
variable {c:Cx} {G:Ctx} {RA:Around→Prop} {P U:Addr→Prop} {am:List Addr} {σ σ':St} {s:Shared} {env:Env} {ρ:Loc} {d:Nat}
theorem wpCallM {A:Around} {o:Expr} {name:Str} {apos pos:Pos} {args:List Expr} {Q:Value→Shared→Prop} (hb:plainBase o=true) (hs:args.all notStar=true) (hl:args.length<30) (hline:(apos.endLine == pos.line)=true)
  (h:wpAny c.M A (eval o env) (fun ov s₁=>∀ pl,wpAny c.M A (getMethod ov name pl) (fun fx s₂=>wpAny c.M A (callWith pos fx.1 fx.2 (backTo pos (starEach args env)) []) Q NoE s₂) NoE s₁) NoE s) :
  wpAny c.M A (eval (.Call (.Attribute o name apos) args [] pos) env) Q NoE s:=by
 rw [arm_eval_Call,attributeBase_plain hb]
 refine wpAny_bind (wpAny_mono h (fun ov s₁ h₁=>?_) fun _ _ e=>e)
 refine wpAny_bind (wpAny_standAt ?_)
 have hform:methodCallForm (args.length+([]:List Keyword).length) (backTo pos (starEach args env)) (backToKw pos (keywordEach [] env))=true:=by
  unfold methodCallForm
  rw [(anyStar hs).1,(decide_eq_true hl:decide (args.length+([]:List Keyword).length+(if (backToKw pos (keywordEach [] env)).isEmpty then 0 else 1)<30)=true)]; rfl
 have hpos:methodCallPos true o env apos pos=pure pos:=by unfold methodCallPos; simp [hline]
 unfold methodCall
 refine hform▸?_
 refine wpAny_bind (wpAny_holding ?_)
 unfold calleeOf
 rw [if_pos rfl]
 exact wpAny_mono (h₁ _) (fun fx s₂ h₂=>wpAny_bind (wpAny_of_eq hpos h₂)) fun _ _ e=>e
theorem getL_notin {Z:Stat} {F:Addr→Obj→Prop} {nm:Str} (hn:nm ∉ attrN) {es:List DictEntry} {kv:List (Nat×V)} (h:AR Z F am es kv):getL nm es=some none:=by
 have key:=h.ind (P:=fun es _=>es.find? (fun e=>e.key.isStr nm)=none∧es.any (·.refKey)=false) ⟨rfl,rfl⟩ fun {hs nm' t w k' x es kv} h1 r _ ih=>
  ⟨(List.find?_cons_of_neg (p:=fun e:DictEntry=>e.key.isStr nm) (a:=⟨hs,.str nm' t,w⟩) fun q=>hn (beq_iff_eq.mp q▸List.mem_of_getElem? h1)).trans ih.1,ih.2⟩
 unfold getL
 rw [key.1,key.2]; rfl
structure MethOk (c:Cx) (Pm:Nat→Nat→Option Nat) (m:Nat) (name:Str):Prop where
 big:10≤m
 no:name ∉ attrN
 at_:∀ i f,Pm i m=some f→∃ C a,c.Z.cls[i]?=some C∧c.Z.fn[f]?=some a∧findIn c.K (.ref C) name=some (some (.ref a))∧typeIn c.K (.ref a)=some (.type "function")∧keepIn c.K (.ref a)=true∧plainGet c.K C name=true
theorem SE_methU {o:Expr} {name:Str} {m:Nat} {apos pos:Pos} {args:List Expr} {Pm:Nat→Nat→Option Nat} {Cl:Callee} {fo:Loc→St→Option (V×St)} {fa:Loc→St→Option (List V×St)} (hCl:CallOk c d Cl) (M:MethOk c Pm m name) (hb:plainBase o=true) (hs:args.all notStar=true) (hl:args.length<30)
  (hline:(apos.endLine == pos.line)=true) (ho:SE c G (RoomB d) o fo) (ha_:SEs c G (RoomB d) args fa):SE c G (RoomB d) (.Call (.Attribute o name apos) args [] pos) (methF Pm Cl fo m fa):=
 fun U A env ρ am σ v σ' s Q rA h0 I F e P=>bindP e fun vo σ₁ e1 e=>wpCallM hb hs hl hline (ho U A env ρ am σ vo σ₁ s _ rA h0 I F e1 fun am₁ h₁ tk₁ uo y₁ I₁ R₁ t₁ pl=>
  mthF_inv e (fun _ hk _=>absurd M.big (bkind_inv hk (fun _ _ _ _ h=>Nat.not_le.mpr (Nat.lt_trans h (by decide))) (fun _ _ _ _ h=>h▸by decide) fun _ _ h=>h.elim (fun h=>h▸by decide) fun h=>h▸by decide))
   fun i f hcl e2 e=>bindP e fun vs σ₂ e3 e=>bindI hcl fun n e0 hcl=>mapI hcl fun q eq ei=>e2_6 (M.at_ i f e2) fun C' a g1 g2 g3 g4 g5 g6=>(R₁.at (V.toLoc_ok e0)).onLoc fun l ha=>Inv.instAt (s:={ s with heap:=h₁,toks:=tk₁ }) I₁ (i:=q.1) (kv:=q.2) eq ha fun C dx es m' hn hn' hC hd hob ho' hz hr=>by
    have hC:=Option.some.inj (g1.symm.trans (ei▸hC))
    subst hC
    refine method_fn (s:={ s with heap:=h₁,toks:=tk₁ }) (od:=some (dictOf es m')) (c.bs.k.keeps I₁.base) ⟨hob,rfl,rfl,ho'⟩ (plainGet_of g6).1 (plainGet_of g6).2 g3 g4 (by refine (?_:(lookIn name (dictOf es m')).map _=_); rw [lookIn_dict,getL_notin M.no hr]; rfl) ?_
    refine callWithK hs g5 (ha_ U A env ρ am₁ σ₁ vs σ₂ _ pos _ rA (Nat.lt_of_lt_of_le h0 t₁) I₁ (F.step y₁ fun _ p=>p) e3 fun am₂ h₂ tk₂ us y₂ I₂ R₂ t₂=>?_)
    exact ⟨c.bs.k.keeps I₂.base,codeR (hCl _ _ σ₂ v σ' e U A am₂ { s with heap:=h₂,toks:=tk₂ } (_ :: us) a Q rA.room (Nat.lt_of_lt_of_le h0 (Nat.le_trans t₁ t₂)) I₂ (.cons (VR.step ((VR.loc ha).at (V.toLoc_ok e0).symm) y₂) R₂) g2 ((P.after y₁ t₁).after y₂ t₂))⟩)
end
end
section
theorem lk_self {x:Str} {a:Addr} {acc:List (Str×Addr)}:(((x,a) :: acc).lookup x).isSome=true:=by rw [List.lookup_cons,beq_self_eq_true]; rfl
theorem lk_more {x y:Str} {a:Addr} {acc:List (Str×Addr)} (h:(acc.lookup x).isSome=true):(((y,a) :: acc).lookup x).isSome=true:=by
 rw [List.lookup_cons]
 split
 ·rfl
 ·exact h
theorem closure_each {env:Env} (f:Str×NameKind→List (Str×Addr)→Sem (ForInStep (List (Str×Addr)))) (hf:∀ n k acc,f (n,k) acc=if k == .free then (do let a ← cellOf env n; pure (.yield ((n,a) :: acc))) else pure (.yield acc)) :
  ∀ (names:List (Str×NameKind)) (acc:List (Str×Addr)),(∀ n,(n,NameKind.free) ∈ names→(env.cells.lookup n).isSome=true)→(∀ n a,(n,a) ∈ acc→env.cells.lookup n=some a)→
   ∃ cl,forIn names acc f=pure cl∧(∀ n a,(n,a) ∈ cl→env.cells.lookup n=some a)∧∀ n,(n,NameKind.free) ∈ names∨(acc.lookup n).isSome=true→(cl.lookup n).isSome=true:=by
 intro names
 induction names with
 | nil=>exact fun acc h1 h2=>⟨acc,rfl,h2,fun n h=>h.elim (fun h=>nomatch h) id⟩
 | cons p r ih=>
  intro acc h1 h2
  obtain ⟨n,k⟩:=p
  rw [List.forIn_cons,hf]
  have h1':=fun m hm=>h1 m (List.mem_cons_of_mem _ hm)
  by_cases hk:(k == NameKind.free)=true
  ·have hk':k = .free:=beq_iff_eq.mp hk
   refine (Option.isSome_iff_exists.mp (h1 n (hk'▸List.mem_cons_self))).elim fun a ha=>?_
   refine e1_3 (ih ((n,a) :: acc) h1' fun m b hm=>(List.mem_cons.mp hm).elim (fun q=>(Prod.mk.inj q).1▸(Prod.mk.inj q).2▸ha) (h2 m b)) fun cl e1 e2 e3=>⟨cl,?_,e2,fun m hm=>e3 m (hm.elim (fun hm=>(List.mem_cons.mp hm).elim (fun q=>.inr ((Prod.mk.inj q).1▸lk_self)) .inl) fun hm=>.inr (lk_more hm))⟩
   rw [if_pos hk,(show cellOf env n=pure a by unfold cellOf; rw [ha])]
   exact e1
  ·refine e1_3 (ih acc h1' h2) fun cl e1 e2 e3=>⟨cl,?_,e2,fun m hm=>e3 m (hm.imp (fun hm=>(List.mem_cons.mp hm).elim (fun q=>absurd (beq_iff_eq.mpr (Prod.mk.inj q).2.symm) hk) id) id)⟩
   rw [if_neg hk]; exact e1
theorem closure_ok {scope:Scope} {env:Env} (h:∀ n,(n,NameKind.free) ∈ scope.names→(env.cells.lookup n).isSome=true) :
  ∃ cl,closureFor scope env=pure cl∧(∀ n a,(n,a) ∈ cl→env.cells.lookup n=some a)∧∀ n,(n,NameKind.free) ∈ scope.names→(cl.lookup n).isSome=true:=by
 refine e1_3 (closure_each (env:=env) (fun (name,kind) cs=>if kind == .free then (do let a ← cellOf env name; pure (.yield ((name,a) :: cs))) else pure (.yield cs)) (fun _ _ _=>rfl) scope.names [] h (fun _ _ q=>by cases q)) fun cl e1 e2 e3=>?_
 refine i1_3 cl ?_ e2 (fun n hn=>e3 n (.inl hn))
 unfold closureFor
 rw [← e1]
 simp only [bind_pure]
section
variable {prog:Program} {w:World} {Z:Stat} {hb:Heap} {U U':Addr→Prop} {am:List Addr} {σ:St} {h:Heap}
theorem Inv.adopt (I:Inv prog w Z hb U' am σ h) {D:Addr} {od:Obj} {Od:Cel} (hD:U' D) (hU:∀ a,U a→U' a∧a≠D) (ho:h.get? D=some od) (hl:Od.isLive=true) (hr:OR prog w Z (Fz U' am σ h) am σ.length od Od) :
  Inv prog w Z hb U (am++[D]) (σ++[Od]) h∧∀ a o,Fz U' am σ h a o→Fz U (am++[D]) (σ++[Od]) h a o:=
 have hX:∀ a,X U (am++[D]) (σ++[Od]) a→X U' am σ a:=fun a x=>x.elim (fun x=>.inl (hU a x).1) fun x=>e2_3 x fun n O h1 h2 h3=>(ext_at I.len h1 h3).elim (fun g=>.inr ⟨n,O,g.1,h2,g.2⟩) fun g=>e1_3 g fun i _ _ g3=>.inl ((one_at g3).2.symm▸hD)
 have hF:∀ a o,Fz U' am σ h a o→Fz U (am++[D]) (σ++[Od]) h a o:=fun a o e=>⟨e.1,fun x=>e.2 (hX a x)⟩
 have pre:am <+: am++[D]:=⟨_,rfl⟩
 ⟨⟨I.base,by rw [List.length_append,List.length_append,I.len]; rfl,fun k O a h1 h2 h3=>(ext_at I.len h1 h3).elim (fun g=>e0_3 (I.live k O a g.1 h2 g.2) fun z h4 h5=>⟨e1_2 z fun o ho' hr'=>⟨o,ho',hr'.mono prog w hF pre⟩,fun u=>h4 (hU a u).1,h5⟩)
   fun g=>e1_3 g fun i en g1 g3=>by
    obtain ⟨rfl,rfl⟩:=one_at g1
    obtain ⟨_,rfl⟩:=one_at g3
    subst en
    exact ⟨⟨od,ho,hr.mono prog w hF pre⟩,fun u=>(hU _ u).2 rfl,(I.out _ hD).1⟩,
  fun i j O O' a h1 h2 h3 h4 h5 h6=>(ext_at I.len h1 h5).elim
   (fun g=>(ext_at I.len h3 h6).elim (fun g'=>I.inj i j O O' a g.1 h2 g'.1 h4 g.2 g'.2) fun g'=>e1_3 g' fun _ _ _ g3=>absurd ((one_at g3).2.symm▸hD) (I.live i O a g.1 h2 g.2).2.1)
   fun g=>e1_3 g fun _ e _ g3=>(ext_at I.len h3 h6).elim (fun g'=>absurd ((one_at g3).2.symm▸hD) (I.live j O' a g'.1 h4 g'.2).2.1) fun g'=>e1_3 g' fun _ e' _ g3'=>e.trans ((congrArg (σ.length + ·) ((one_at g3).1.trans (one_at g3').1.symm)).trans e'.symm),
  fun k xs a h1 h2=>(ext_at I.len h1 h2).elim (fun g=>(I.fl k xs a g.1 g.2).mono hF pre) fun g=>e1_3 g fun _ _ g1 _=>noF ((congrArg Cel.isLive (one_at g1).2).trans hl),fun a u=>I.out a (hU a u).1⟩,hF⟩
end
section
variable {c:Cx} {G:Ctx} {RA:Around→Prop} {P U:Addr→Prop} {am:List Addr} {σ σ':St} {s:Shared} {env:Env} {ρ ρ':Loc} {h:Heap}
theorem FR.less (F:FR c G U env ρ am σ h) (hl:∀ (j:Nat) (v:V),ρ'[j]?=some (some v)→ρ[j]?=some (some v)):FR c G U env ρ' am σ h:=
 ⟨F.sc,F.fn,F.gl,F.bu,F.uL,F.uC,F.inj,e1_2 F.loc fun m hn hm=>⟨m,hn,fun i x v h1 h2 h3=>hm i x v h1 (hl i v h2) h3⟩,fun i x h1 h2=>e2_3 (F.cel i x h1 h2) fun a o h3 h4 w=>e1_2 w fun ov h5 h6=>⟨a,o,h3,h4,ov,h5,fun v hv=>h6 v (hl i v hv)⟩⟩
noncomputable def relabelS (scope gs:Scope):Scope:=
 { scope with names:=scope.names.map fun (n,k)=>if (k == .free && gs.kind == .function && gs.names.lookup n == some .cell) then (n,.cell) else (n,k) }
structure CompOk (G G':Ctx) (scope:Scope) (x:Str) (i:Nat):Prop where
 hkind:scope.kind = .function
 nocell:∀ y ∈ scope.names,y.2≠.cell
 hnames:∀ y ∈ scope.names,y.2 = .local→scope.names.lookup y.1=some .local
 hx:scope.names.lookup x=some .local
 free:∀ n,(n,NameKind.free) ∈ scope.names→∃ j:Nat,G.names[j]?=some (some n)∧(G.scope.names.lookup n=some .cell∨G.scope.names.lookup n=some .free)
 hG:G'.scope=relabelS scope G.scope
 hGx:G'.names[i]?=some (some x)
 hGn:∀ (j:Nat) y,G'.names[j]?=some (some y)→j≠i→G.names[j]?=some (some y)∧(y,NameKind.free) ∈ scope.names∧(G.scope.names.lookup y=some .cell∨G.scope.names.lookup y=some .free)∧G'.scope.names.lookup y≠some .local
 hxl:G'.scope.names.lookup x=some .local
 gi:G'.Inj
noncomputable def SIt (c:Cx) (G:Ctx) (RA:Around→Prop) (e:Expr) (f:Loc→St→Option (List V×St)):Prop:=
 ∀ U A env ρ am σ xs σ' (s:Shared) (Q:Value→Shared→Prop),RA A→0<s.toks→c.I U am σ s.heap→FR c G U env ρ am σ s.heap→f ρ σ=some (xs,σ')→
  (∀ am' h' tk ob,Stp U U am σ s.heap am' σ' h'→c.I U am' σ' h'→s.toks≤tk→Iter c A h'.objs.size (fun _ _=>True) (fun a=>U a∨a=h'.objs.size) am' σ' (h'.push ob) xs→ob.isFreed=false→Q (.ref h'.objs.size) { s with heap:=h'.push ob,toks:=tk })→
  wpAny c.M A (eval e env) (fun xv s₁=>wpAny c.M A (pyIter xv) Q NoE s₁) NoE s
theorem SIt.seq {e:Expr} {f:Loc→St→Option (V×St)} (hA:∀ A,RA A→RoomE A) (h:SE c G RA e f):SIt c G RA e fun ρ σ=>(f ρ σ).bind fun (v,σ₁)=>(seqItems v).map fun xs=>(xs,σ₁):=by
 intro U A env ρ am σ xs σ' s Q rA h0 I F e' K
 refine bindP e' fun v σ₁ e1 e'=>mapI e' fun ys e2 e'=>?_
 obtain ⟨e3,e4⟩:=Prod.mk.inj e'
 subst e3; subst e4
 exact h U A env ρ am σ v σ₁ s _ rA h0 I F e1 fun am₁ h₁ tk₁ u y₁ I₁ R₁ t₁=>iter_ok (s:={ s with heap:=h₁,toks:=tk₁ }) (hA A rA).hh I₁ (fun ob it hf=>K am₁ h₁ tk₁ ob y₁ I₁ t₁ it hf) R₁ (iter_of_seq e2)
end
end
section
section
variable {c:Cx} {G G':Ctx} {RA:Around→Prop} {P U U':Addr→Prop} {am am':List Addr} {σ σ':St} {s:Shared} {env:Env} {ρ ρ':Loc} {h h':Heap}
theorem Iter.go {A:Around} {J:Addr} {D:Value→Nat→Prop} {xs:List V} (it:Iter c A J D U am σ h xs) (hF:∀ a o,Fz U am σ h a o→Fz U' am σ h' a o) (k:∀ b o,h.get? b=some o→h'.get? b=some o):Iter c A J D U' am σ h' xs:=
 it.casesOn fun fp Pv Sta Wi Wd Wf S0 hex hfp hP hself=>.mk fp Pv Sta Wi Wd Wf (Wf _ _ _ S0 fun b _ o q=>k b o q) hex (fun b hb=>(hfp b hb).imp id fun z=>z.imp fun o q=>hF b o q) (fun i u hi hu=>e1_2 (hP i u hi hu) fun x e r=>⟨x,e,r.mono hF List.prefix_rfl⟩) hself
noncomputable def Acc (c:Cx) (O:Addr→Prop) (am:List Addr) (σ:St) (h:Heap) (D:Addr) (ws:List V):Prop:=∃ ys n,h.get? D=some (listOf ys n)∧c.Rs O am σ h ys.toList ws
noncomputable def PostC (c:Cx) (G:Ctx) (U O E:Addr→Prop) (env:Env) (ρ:Loc) (D C:Addr) (am:List Addr) (s:Shared) (σ σ':St) (ws:List V) (R:Result→Shared→Prop):Prop:=
 ∀ am' h' tk m,Stx U O E am σ s.heap am' σ' h'→c.I E am' σ' h'→FR c G E env ρ am' σ' h'→Acc c E am' σ' h' D ws→h'.Ns C m→s.toks≤tk→R (.ok .next) { s with heap:=h',toks:=tk }
theorem PostC.after {O E:Addr→Prop} {D C:Addr} {σ₁:St} {ws:List V} {R:Result→Shared→Prop} {tk₁:Nat} (p:PostC c G U O E env ρ D C am s σ σ' ws R) (y:Stp U O am σ s.heap am' σ₁ h) (t:s.toks≤tk₁):PostC c G U O E env ρ D C am' { s with heap:=h,toks:=tk₁ } σ₁ σ' ws R:=
 fun am₂ h₂ tk m z I F A n t'=>p am₂ h₂ tk m ⟨y.pre.trans z.pre,fun a o q e=>z.keepP a o q (y.keepP a o q e),fun a o e=>z.keepF a o (y.keepF a o e)⟩ I F A n (Nat.le_trans t t')
noncomputable def CI (c:Cx) (G G':Ctx) (U O E:Addr→Prop) (env cenv:Env) (ρ:Loc) (i:Nat) (D C:Addr) (Sta:Nat→Heap→Prop) (f:V→St→Option (V×St)) (xs ws:List V) (am₀:List Addr) (σ₀:St) (h₀:Heap) (σ':St) (R:Result→Shared→Prop) (n:Nat) (s:Shared):Prop:=
 ∃ am σ j wsd rest,0<s.toks∧j≤xs.length∧n=xs.length - j∧Stp U O am₀ σ₀ h₀ am σ s.heap∧c.I O am σ s.heap∧FR c G O env ρ am σ s.heap∧FR c G' O cenv (ρ.set i none) am σ s.heap∧Sta j s.heap∧Acc c O am σ s.heap D wsd∧wsd.length=j∧mapL f (xs.drop j) σ=some (rest,σ')∧ws=wsd++rest∧PostC c G U O E env ρ D C am s σ σ' ws R
theorem set_less {ρ:Loc} {i k:Nat} {v w:V} (q:(ρ.set i none)[k]?=some (some v)):(ρ.set i (some w))[k]?=some (some v)∧k≠i∧ρ[k]?=some (some v):=by
 by_cases z:i=k
 ·subst z
  rw [List.getElem?_set,if_pos rfl] at q
  exact ite_some q fun _ e=>noS (Option.some.inj e)
 ·rw [List.getElem?_set_ne z] at q
  exact ⟨(List.getElem?_set_ne z).trans q,fun w=>z w.symm,q⟩
section
variable {O E:Addr→Prop} {J D C:Addr} {cenv:Env} {elt iter:Expr} {x:Str} {px pos:Pos} {scope:Scope} {i:Nat} {fe:Loc→St→Option (V×St)} {A:Around} {xs ws:List V} {R:Result→Shared→Prop}
theorem comp_go (he:SE c G' RA elt fe) (gi:G'.Inj) (hx:G'.names[i]?=some (some x)) (hxl:G'.scope.names.lookup x=some .local) (rA:RA A) (UE:∀ a,U a→E a) (EO:∀ a,E a→O a∧a≠J) (OJ:O J) (ED:E D) (EC:E C) (hU:∀ a,U a→a≠D∧a≠C) (hC:cenv.locals=C) (JC:J≠C) (DC:D≠C)
  (mine:∀ a,Own env a→U a) (cown:∀ a,Own cenv a→U a∨a=C) (it:Iter c A J (fun _ _=>True) O am σ s.heap xs) (I:c.I O am σ s.heap) (F:FR c G O env ρ am σ s.heap) (Fc:FR c G' O cenv (ρ.set i none) am σ s.heap) (hD:s.heap.get? D=some (listOf #[] 0)) (h0:0<s.toks) (hz:xs.length<1000000)
  (e:mapL (fun v σ'=>fe (ρ.set i (some v)) σ') xs σ=some (ws,σ')) (p:PostC c G U O E env ρ D C am s σ σ' ws R):codeAny c.M A (.compLoop (.ListComp elt [⟨.Name x px,iter,[],0⟩] scope pos) 0 (.ref J) (.ref D) cenv) R s:=by
 obtain ⟨fp,Pv,Sta,Wi,Wd,Wf,S0,hex,hfp,hP,_⟩:=it
 refine codeAny_compLoop_tests (CI c G G' U O E env cenv ρ i D C Sta (fun v σ'=>fe (ρ.set i (some v)) σ') xs ws am σ s.heap σ' R) (fun n s w=>?_) xs.length ⟨am,σ,0,[],ws,h0,Nat.zero_le _,rfl,Stp.refl,I,F,Fc,S0,⟨#[],0,hD,.nil⟩,rfl,e,rfl,p⟩
 clear I F Fc hD h0 e p S0
 refine e5_13 w fun am₁ σ₁ j wsd rest h0 hj hm y I F Fc Sj ac hlen e hws p=>?_
 have JD:J≠D:=fun z=>(EO D ED).2 z.symm
 by_cases hn:j<xs.length
 ·refine noE (Wi j _ _ hn h0 Sj fun u h₂ tk₂ hPu _ S₂ hk t₂=>e1_2 (hP j u hn hPu) fun xv hxv Rx=>e2_3 (hex _ _ S₂) fun ob' n' hob _ _=>?_)
  have z:=I.ownX (P:=E) (a:=J) hk ⟨ob',hob⟩ OJ fun b q=>(EO b q).2
  have F₃:=F.move z.2.keepF z.2.pre (fun a o q=>z.2.keepP a o (UE a (mine a q))) F.mine
  have Fc₃:=Fc.move z.2.keepF z.2.pre (fun a o q=>z.2.keepP a o ((cown a q).elim (UE a) fun q=>q▸EC)) Fc.mine
  have Rx₃:=(Rx.step y).step z.2
  refine noE (wpAny_assign_Name (store_loc (s:={ s with heap:=h₂,toks:=tk₂ }) (P:=fun a=>U a∨(a=J∨a=D)) gi (fun b q=>hC.symm▸q.elim (fun q=>(hU b q).2) fun q=>q.elim (fun q=>q▸JC) fun q=>q▸DC) z.1 Fc₃ hx hxl Rx₃ fun h₄ tk₄ y₄ I₄ F₄ t₄ _=>?_))
  rw [List.set_set] at F₄
  rw [List.forIn_nil]
  refine wpAny_pure ?_
  rw [if_pos rfl]
  have e:=(congrArg (fun l=>mapL (fun v σ'=>fe (ρ.set i (some v)) σ') l σ₁) (drop_at hxv)).symm.trans e
  refine bindP e fun w σ₂ e4 e=>mapP e fun ws' σ₃ e5 e=>?_
  refine noE (he _ A cenv _ am₁ σ₁ w σ₂ { s with heap:=h₄,toks:=tk₄ } _ rA (Nat.lt_of_lt_of_le h0 (Nat.le_trans t₂ t₄)) I₄ F₄ e4 fun am₅ h₅ tk₅ uw y₅ I₅ R₅ t₅=>e2_2 ac fun ys n hD hr=>?_)
  have D₅:=y₅.keepP _ _ (EO D ED).1 (y₄.keepP _ _ (.inr (.inr rfl)) (z.2.keepP _ _ ED hD))
  have hr₅:=((hr.step z.2).step y₄).step y₅
  refine noE (wpAny_list_append_plain (s:={ s with heap:=h₅,toks:=tk₅ }) ⟨n,D₅⟩ (fun h₆ hp hs=>hp.elim fun n₆ D₆=>?_) (Nat.le_line (Nat.lt_of_le_of_lt (Nat.le_of_eq (Array.length_toList.symm.trans (hr.length.trans hlen))) (Nat.lt_trans hn hz))))
  have z₆:=I₅.own (P:=fun a=>U a∨(a=J∨a=C)) hs ⟨_,D₆⟩ (EO D ED).1 fun b q=>q.elim (fun q=>(hU b q).1) fun q=>q.elim (fun q=>q▸JD) fun q=>q▸DC.symm
  have yy:Stp U O am₁ σ₁ s.heap am₅ σ₂ h₆:=(z.2.weaken UE).trans ((y₄.weaken fun _ q=>.inl q).trans ((y₅.weaken fun a q=>(EO a (UE a q)).1).trans (z₆.2.weaken fun _ q=>.inl q)))
  have F₅:=(F₄.step y₅ fun _ q=>q).move z₆.2.keepF z₆.2.pre (fun a o q=>z₆.2.keepP a o ((cown a q).imp id .inr)) F₄.mine
  have t:=Nat.le_trans t₂ (Nat.le_trans t₄ t₅)
  have e:=(Prod.mk.inj e).imp Eq.symm id
  refine ⟨xs.length - (j+1),by lia,am₅,σ₂,j+1,wsd++[w],ws',Nat.lt_of_lt_of_le h0 t,hn,rfl,y.trans yy,z₆.1,F.move yy.keepF yy.pre (fun a o q=>yy.keepP a o (mine a q)) F.mine,F₅.less fun k v q=>(set_less q).1,
   Wf _ _ _ S₂ fun b hb o q=>(hfp b hb).elim (fun q'=>q'▸z₆.2.keepP _ _ (.inr (.inl rfl)) (y₅.keepP _ _ OJ (y₄.keepP _ _ (.inr (.inl rfl)) (q'▸q)))) fun w=>w.elim fun o' g=>?_,
   ⟨_,n₆,D₆,by rw [Array.toList_push]; exact (hr₅.append (.cons R₅ .nil)).step z₆.2⟩,List.length_append.trans (congrArg (·+1) hlen),e.2▸e5,by rw [hws,e.1,List.append_assoc]; rfl,p.after yy t⟩
  have g₂:=z.2.keepF _ _ (y.keepF _ _ g)
  exact Option.some.inj (g₂.1.symm.trans q)▸(z₆.2.keepF _ _ (y₅.keepF _ _ (y₄.keepF _ _ g₂))).1
 ·have hj':j=xs.length:=Nat.le_antisymm hj (Nat.le_of_not_lt hn)
  refine noE (Wd _ _ (hj'▸Sj) fun h₂ tk₂ hk t₂=>?_)
  have e:some ([],σ₁)=some (rest,σ'):=(congrArg (fun l=>mapL (fun v σ'=>fe (ρ.set i (some v)) σ') l σ₁) (List.drop_eq_nil_of_le (Nat.le_of_eq hj'.symm))).symm.trans e
  have e:=Prod.mk.inj (Option.some.inj e)
  have L:=I.lose (U:=E) (a:=J) hk OJ EO
  have hws:ws=wsd:=hws.trans (e.1▸List.append_nil wsd)
  rw [← e.2,hws] at p
  refine e1_2 Fc.loc fun m w _=>e3_2 w fun o' es ep g1 g2=>?_
  exact p am₁ h₂ tk₂ m ⟨List.prefix_rfl,fun a o u=>hk a o (EO a (UE a u)).2,L.2⟩ L.1 (F.move L.2 List.prefix_rfl (fun a o q=>hk a o (EO a (UE a (mine a q))).2) fun a q=>UE a (mine a q))
   (e2_2 ac fun ys n hD hr=>⟨ys,n,hk _ _ JD.symm hD,hr.mono L.2 List.prefix_rfl⟩) ⟨o',es,ep,hk _ _ JC.symm (hC▸g1),g2⟩ t₂
end
theorem comp_enter {elt iter:Expr} {x:Str} {px pos:Pos} {scope:Scope} {i:Nat} {fe:Loc→St→Option (V×St)} (K:CompOk G G' scope x i) (he:SE c G' RA elt fe) {cl:List (Str×Addr)} {A:Around} {xs ws:List V} {R:Result→Shared→Prop} {J D C:Addr} {h₀ h₁:Heap} {m:Str→Option Value} {tk:Nat}
  (hcl1:∀ n a,(n,a) ∈ cl→env.cells.lookup n=some a) (hcl2:∀ n,(n,NameKind.free) ∈ scope.names→(cl.lookup n).isSome=true) (rA:RA A) (h0:0<tk) (I:c.I U am σ s.heap) (F:FR c G U env ρ am σ s.heap) (hz:xs.length<1000000)
  (it:Iter c A J (fun _ _=>True) (fun a=>U a∨a=J) am σ h₀ xs) (e:mapL (fun v σ'=>fe (ρ.set i (some v)) σ') xs σ=some (ws,σ')) (nJ:s.heap.get? J=none) (nD:h₀.get? D=none) (nC:h₀.get? C=none) (JC:J≠C) (DC:D≠C) (JD:J≠D)
  (k0:∀ b o,s.heap.get? b=some o→h₀.get? b=some o) (k1:∀ b o,h₀.get? b=some o→h₁.get? b=some o) (atJ:∃ o,h₁.get? J=some o) (atD:h₁.get? D=some (listOf #[] 0)) (atC:h₁.Ns C m)
  (hR:(∀ a,U a→a≠D∧a≠C)→(∀ b o,s.heap.get? b=some o→h₁.get? b=some o)→(∀ a o,Fz U am σ s.heap a o→Fz (fun a=>U a∨(a=J∨(a=D∨a=C))) am σ h₁ a o)→PostC c G U (fun a=>U a∨(a=J∨(a=D∨a=C))) (fun a=>U a∨(a=D∨a=C)) env ρ D C am { s with heap:=h₁,toks:=tk } σ σ' ws R) :
  codeAny c.M A (.compLoop (.ListComp elt [⟨.Name x px,iter,[],0⟩] scope pos) 0 (.ref J) (.ref D) (compEnvC scope cl C env)) R { s with heap:=h₁,toks:=tk }:=by
 have old:∀ {a o},s.heap.get? a=some o→a≠J∧a≠D∧a≠C:=fun q=>⟨fun z=>noH q (z▸nJ),fun z=>noH (k0 _ _ q) (z▸nD),fun z=>noH (k0 _ _ q) (z▸nC)⟩
 have hU:∀ a,U a→a≠J∧a≠D∧a≠C:=fun a u=>(I.out a u).2.elim fun o' q=>old q
 have k:∀ b o,s.heap.get? b=some o→h₁.get? b=some o:=fun b o q=>k1 b o (k0 b o q)
 have mD:s.heap.get? D=none:=Option.eq_none_iff_forall_ne_some.mpr fun o q=>noH (k0 _ _ q) nD
 have mC:s.heap.get? C=none:=Option.eq_none_iff_forall_ne_some.mpr fun o q=>noH (k0 _ _ q) nC
 have N:=I.enter (N:=fun a=>a=J∨(a=D∨a=C)) k fun a q=>q.elim (fun q=>q▸⟨nJ,atJ⟩) fun q=>q.elim (fun q=>q▸⟨mD,_,atD⟩) fun q=>q▸⟨mC,e3_2 atC fun o _ _ g _=>⟨o,g⟩⟩
 have F₁:=F.enter N.2 k fun a u=>.inl u
 have hsc:(compEnvC scope cl C env).scope=G'.scope:=by rw [K.hG,← F.sc]; rfl
 have hko:∀ y,(compEnvC scope cl C env).kindOf y=G'.scope.names.lookup y:=fun y=>by unfold Env.kindOf; rw [hsc]
 have cellU:∀ {y a},cl.lookup y=some a→env.cells.lookup y=some a:=fun q=>hcl1 _ _ (mem_of_lookup q)
 have Fc:FR c G' (fun a=>U a∨(a=J∨(a=D∨a=C))) (compEnvC scope cl C env) (ρ.set i none) am σ h₁:=
  ⟨hsc,K.hkind,F.gl,F.bu,.inr (.inr (.inr rfl)),fun y a q=>⟨.inl (F.uC y a (cellU q)).1,(hU a (F.uC y a (cellU q)).1).2.2⟩,fun y z a q q'=>F.inj y z a (cellU q) (cellU q'),
   ⟨m,atC,fun j y v q1 q2 q3=>absurd ((hko y).symm.trans q3) (K.hGn j y q1 (set_less (w:=v) q2).2.1).2.2.2⟩,fun j y q1 q2=>by
   by_cases z:j=i
   ·have e:y=x:=slot_name K.hGx (z▸q1)
    have q2:=e▸q2
    rw [hko,K.hxl] at q2
    exact q2.elim (fun q=>nomatch q) fun q=>nomatch q
   ·exact e0_4 (K.hGn j y q1 z) fun g1 g2 g3 _=>e2_3 (F.cel j y g1 (g3.imp F.kind F.kind)) fun a o' f1 f2 w=>e1_2 w fun ov f3 f4=>(Option.isSome_iff_exists.mp (hcl2 y g2)).elim fun a' ha'=>
     ⟨a,o',ha'.trans (congrArg some (Option.some.inj ((cellU ha').symm.trans f1))),k _ _ f2,ov,f3,fun v q=>e1_2 (f4 v (set_less (w:=v) q).2.2) fun u e1 e2=>⟨u,e1,e2.mono N.2 List.prefix_rfl⟩⟩⟩
 exact comp_go (s:={ s with heap:=h₁,toks:=tk }) he K.gi K.hGx K.hxl rA (fun a u=>.inl u) (fun a q=>⟨q.imp id .inr,q.elim (fun q=>(hU a q).1) fun q=>q.elim (fun q=>q▸JD.symm) fun q=>q▸JC.symm⟩) (.inr (.inl rfl)) (.inr (.inl rfl)) (.inr (.inr rfl)) (fun a u=>(hU a u).2) rfl JC DC F.mine
  (fun a q=>q.elim .inr fun q=>q.elim fun y q=>.inl (F.uC y a (cellU q)).1) (it.go (fun a o q=>⟨k1 a o q.1,fun x=>x.elim (fun x=>x.elim (fun x=>q.2 (.inl (.inl x))) fun x=>x.elim (fun x=>q.2 (.inl (.inr x))) fun x=>x.elim (fun x=>noH q.1 (x▸nD)) fun x=>noH q.1 (x▸nC)) fun x=>q.2 (.inr x)⟩) k1) N.1 F₁ Fc atD h0 hz e
  (hR (fun a u=>(hU a u).2) k N.2)
theorem comp_loop {elt iter:Expr} {x:Str} {px pos:Pos} {scope:Scope} {i:Nat} {fe:Loc→St→Option (V×St)} (K:CompOk G G' scope x i) (he:SE c G' RA elt fe) {cl:List (Str×Addr)} {A:Around} {xs ws:List V} {ob:Obj} {R:Value→Addr→Result→Shared→Prop}
  (hcl1:∀ n a,(n,a) ∈ cl→env.cells.lookup n=some a) (hcl2:∀ n,(n,NameKind.free) ∈ scope.names→(cl.lookup n).isSome=true)
  (rA:RA A) (h0:0<s.toks) (I:c.I U am σ s.heap) (F:FR c G U env ρ am σ s.heap) (hz:xs.length<1000000) (it:Iter c A s.heap.objs.size (fun _ _=>True) (fun a=>U a∨a=s.heap.objs.size) am σ (s.heap.push ob) xs) (hf:ob.isFreed=false)
  (e:mapL (fun v σ'=>fe (ρ.set i (some v)) σ') xs σ=some (ws,σ'))
  (hR:∀ D C am' h' tk m,D≠C→(∀ a,U a→a≠D∧a≠C)→Stx U U (fun a=>U a∨(a=D∨a=C)) am σ s.heap am' σ' h'→c.I (fun a=>U a∨(a=D∨a=C)) am' σ' h'→FR c G (fun a=>U a∨(a=D∨a=C)) env ρ am' σ' h'→Acc c (fun a=>U a∨(a=D∨a=C)) am' σ' h' D ws→h'.Ns C m→s.toks≤tk→R (.ref D) C (.ok .next) { s with heap:=h',toks:=tk }) :
  wpAny c.M A (PySem.newList []) (fun acc s₃=>wpAny c.M A (newFunctionEnv scope env.globals cl [] env.qual none .none (some env)) (fun cenv s₄=>
   codeAny c.M A (.compStart (.ListComp elt [⟨.Name x px,iter,[],0⟩] scope pos) 0 (.ref s.heap.objs.size) acc { cenv with scope:=relabel scope env }) (R acc cenv.locals) s₄) NoE s₃) NoE { s with heap:=s.heap.push ob }:=by
 have nJ:∀ {h:Heap},h.get? h.objs.size=none:=get_size _
 have nS:(s.heap.push ob).get? (s.heap.objs.size+1)=none:=by
  have:=get_size (s.heap.push ob); rwa [Heap.size_push] at this
 have nC:(s.heap.push ob).get? (s.heap.objs.size+2)=none:=Option.eq_none_iff_forall_ne_some.mpr fun o q=>absurd (Heap.lt_size q) (by rw [Heap.size_push]; exact Nat.not_lt.mpr (Nat.le_succ _))
 have lt2:∀ {b o},(s.heap.push ob).get? b=some o→b≠s.heap.objs.size+2:=fun q z=>noH q (z▸nC)
 have atJ:(s.heap.push ob).get? s.heap.objs.size=some ob:=Heap.get?_push_size _ hf
 refine wpAny_newObj_type (wpAny_newFunctionEnv K.nocell (fun y hy=>absurd hy List.not_mem_nil) (fun h₁ hns₁ hsb₁=>?_) K.hkind)
 dsimp only at hns₁ hsb₁ ⊢
 have atD:=Heap.get?_push_size (s.heap.push ob) (o:={ cls:=.type "list",data:=.seq ([]:List Value).toArray }) rfl
 rw [Heap.size_push,Heap.size_push] at hns₁ hsb₁ ⊢
 rw [Heap.size_push] at atD ⊢
 have k1:∀ b o,(s.heap.push ob).get? b=some o→h₁.get? b=some o:=fun b o q=>(hsb₁.2 b (lt2 q)).trans (pushed b o (pushed b o q))
 have go:=comp_enter (tk:=s.toks+([]:List (Str×Value)).length) (pos:=pos) (px:=px) (iter:=iter) (R:=R (.ref (s.heap.objs.size+1)) (s.heap.objs.size+2)) K he hcl1 hcl2 rA h0 I F hz it e (get_size _) nS nC (Nat.ne_of_lt (Nat.lt_succ_of_lt (Nat.lt_succ_self _))) (Nat.ne_of_lt (Nat.lt_succ_self _)) (Nat.ne_of_lt (Nat.lt_succ_self _)) pushed k1 ⟨ob,k1 _ _ atJ⟩
  ((hsb₁.2 _ (Nat.ne_of_lt (Nat.lt_succ_self _))).trans (pushed _ _ atD)) hns₁ fun hU k hF am' h' tk m z I F A n t=>hR _ _ am' h' tk m (Nat.ne_of_lt (Nat.lt_succ_self _)) hU ⟨z.pre,fun a o u q=>z.keepP a o u (k a o q),fun a o q=>z.keepF a o (hF a o q)⟩ I F A n t
 refine codeAny_compStart_list go (noE ?_)
 obtain ⟨fp,Pv,Sta,Wi,Wd,Wf,S0,hex,hfp,hP,hself⟩:=it
 exact hself 0 _ _ (Wf _ _ _ S0 fun b _ o q=>k1 b o q) go
end
end
section
section
variable {c:Cx} {G G':Ctx} {RA:Around→Prop} {P U U':Addr→Prop} {am am':List Addr} {σ σ':St} {s:Shared} {env:Env} {ρ ρ':Loc} {h h':Heap}
theorem comp_made {E E':Addr→Prop} {m:Bool} {D:Addr} {ws:List V} {v:V} (e:Mini.newList m ws σ=(v,σ')) (I:c.I E am σ h) (ED:E D) (hE:∀ a,E' a→E a∧a≠D) (ac:Acc c E am σ h D ws) :
  ∃ am',am <+: am'∧c.I E' am' σ' h∧c.R E' am' σ' h (.ref D) v∧∀ a o,Fz E am σ h a o→Fz E' am' σ' h a o:=
 e2_2 ac fun ys n hD hr=>by
  cases m with
  | false=>
   have e:=Prod.mk.inj e
   have L:=I.exit (U:=E') fun a q=>(hE a q).1
   rw [← e.1,← e.2]
   exact ⟨am,List.prefix_rfl,L.1,.list ⟨hD,fun x=>x.elim (fun x=>(hE D x).2 rfl) fun x=>e2_3 x fun k O h1 h2 h3=>(I.live k O D h1 h2 h3).2.1 ED⟩ rfl rfl (hr.mono L.2 List.prefix_rfl),L.2⟩
  | true=>
   have e:=Prod.mk.inj e
   have L:=I.adopt (U:=E') ED hE hD (Od:=.list ws) rfl ⟨ys,n,rfl,hr⟩
   rw [← e.1,← e.2]
   exact ⟨am++[D],⟨_,rfl⟩,L.1,.loc (I.len▸List.getElem?_concat_length),L.2⟩
theorem free_cells {scope:Scope} {x:Str} {i:Nat} (K:CompOk G G' scope x i) (F:FR c G U env ρ am σ h) (n:Str) (hn:(n,NameKind.free) ∈ scope.names):(env.cells.lookup n).isSome=true:=
 e1_2 (K.free n hn) fun j h1 h2=>e2_2 (F.cel j n h1 (h2.imp F.kind F.kind)) fun a o h3 _=>h3▸rfl
noncomputable def compF (m:Bool) (i:Nat) (fi:Loc→St→Option (List V×St)) (fe:Loc→St→Option (V×St)):Loc→St→Option (V×St):=
 fun ρ σ=>(fi ρ σ).bind fun (xs,σ₁)=>if xs.length<1000000 then (mapL (fun v σ'=>fe (ρ.set i (some v)) σ') xs σ₁).map fun (ws,σ₂)=>newList m ws σ₂ else none
theorem comp_walk {elt iter:Expr} {x:Str} {px pos:Pos} {scope:Scope} {i:Nat} {m:Bool} {fi:Loc→St→Option (List V×St)} {fe:Loc→St→Option (V×St)} {A:Around} {v:V} {use:Option (Value→Sem Unit)} {Q:Value→Shared→Prop} (K:CompOk G G' scope x i) (hs:notSet iter=true) (hi:SIt c G RA iter fi) (he:SE c G' RA elt fe)
  (rA:RA A) (h0:0<s.toks) (I:c.I U am σ s.heap) (F:FR c G U env ρ am σ s.heap) (e:compF m i fi fe ρ σ=some (v,σ'))
  (h:∀ am' h' tk D C n,Stx U U (fun a=>U a∨a=C) am σ s.heap am' σ' h'→c.I (fun a=>U a∨a=C) am' σ' h'→FR c G (fun a=>U a∨a=C) env ρ am' σ' h'→c.R (fun a=>U a∨a=C) am' σ' h' (.ref D) v→h'.Ns C n→(∀ a,U a→a≠C)→s.toks≤tk→compPost c.M A NoE use Q (.ref D) C (.ok .next) { s with heap:=h',toks:=tk }) :
  wpAny c.M A (comprehension (.ListComp elt [⟨.Name x px,iter,[],0⟩] scope pos) scope env (firstIterPos [⟨.Name x px,iter,[],0⟩] pos) (PySem.newList []) (firstAsync [⟨.Name x px,iter,[],0⟩]) (firstIter [⟨.Name x px,iter,[],0⟩] env) use) Q NoE s:=
 bindP e fun xs σ₁ e1 e=>ite_some e fun hz e=>mapP e fun ws σ₂ e2 e=>e1_3 (closure_ok (free_cells K F)) fun cl c1 c2 c3=>wpAny_comprehension_free (use:=use) rfl (foldedSet_plain hs) c1 K.hkind K.hnames
  (hi U A env ρ am σ xs σ₁ s _ rA h0 I F e1 fun am₁ h₁ tk₁ ob y₁ I₁ t₁ it hf=>comp_loop (s:={ s with heap:=h₁,toks:=tk₁ }) (R:=fun acc C=>compPost c.M A NoE use Q acc C) K he c2 c3 rA (Nat.lt_of_lt_of_le h0 t₁) I₁ (F.step y₁ fun _ p=>p) hz it hf e2
   fun D C am₂ h₂ tk₂ n DC hU z I₂ F₂ ac hC t₂=>e1_4 (comp_made (E':=fun a=>U a∨a=C) e I₂ (.inr (.inl rfl)) (fun a q=>⟨q.imp id .inr,q.elim (fun q=>(hU a q).1) fun q=>q▸DC.symm⟩) ac) fun am₃ pre₃ I₃ R₃ hF₃=>
    h am₃ h₂ tk₂ D C n ⟨y₁.pre.trans (z.pre.trans pre₃),fun a o u q=>z.keepP a o u (y₁.keepP a o u q),fun a o q=>hF₃ a o (z.keepF a o (y₁.keepF a o q))⟩ I₃ (F₂.move hF₃ pre₃ (fun a o _ q=>q) fun a q=>.inl (F.mine a q)) R₃ hC (fun a u=>(hU a u).2) (Nat.le_trans t₁ t₂))
theorem SE_comp {elt iter:Expr} {x:Str} {px pos:Pos} {scope:Scope} {i:Nat} {m:Bool} {fi:Loc→St→Option (List V×St)} {fe:Loc→St→Option (V×St)} (K:CompOk G G' scope x i) (hs:notSet iter=true) (hi:SIt c G RA iter fi) (he:SE c G' RA elt fe) :
  SE c G RA (.ListComp elt [⟨.Name x px,iter,[],0⟩] scope pos) (compF m i fi fe):=
 fun U A env ρ am σ v σ' s Q rA h0 I F e P=>by
  rw [eval_ListComp]
  refine comp_walk (use:=none) (Q:=Q) K hs hi he rA h0 I F e fun am₃ h₂ tk D C n z I₃ F₃ R₃ hC hU t=>⟨n,hC,fun h₃ hs₃=>?_⟩
  have L:=I₃.lose (U:=U) (a:=C) (h':=h₃) (fun b o hb q=>(hs₃.2 b hb).trans q) (.inr rfl) fun b u=>⟨.inl u,hU b u⟩
  exact P am₃ h₃ tk _ ⟨z.pre,fun a o u q=>(hs₃.2 a (hU a u)).trans (z.keepP a o u q),fun a o q=>L.2 a o (z.keepF a o q)⟩ L.1 (R₃.mono L.2 List.prefix_rfl) t
noncomputable def swapsNow (G:Ctx) (scope:Scope) (t:Str) (pt pv:Pos):Bool:=G.scope.names.lookup t == some .local && pt.line == pv.line && !(scope.names.any fun (n,k)=>n == t && (k == .local || k == .cell))
theorem swap_now {elt iter:Expr} {x t:Str} {px pt pos:Pos} {scope:Scope} {line:Nat} (F:FR c G U env ρ am σ h) (hkt:G.scope.names.lookup t=some .local) (w2:(pt.line == pos.line)=true) (w3:(!(scope.names.any fun (n,k)=>n == t && (k == .local || k == .cell)))=true) :
  swapsWith (.ListComp elt [⟨.Name x px,iter,[],0⟩] scope pos) (some (.Name t pt)) line env=pure true:=by
 unfold swapsWith
 have b1:(env.blockKind == .function)=true:=by unfold Env.blockKind; rw [F.fn]; rfl
 have b2:(env.kindOf t == some .local)=true:=by unfold Env.kindOf; rw [F.sc,hkt]; rfl
 dsimp only
 rw [b1,b2]
 show pure (true && true && (pt.line == pos.line) && _)=_
 rw [w2,w3]; rfl
theorem SS_asgComp {elt iter:Expr} {x t:Str} {px pt pos spos:Pos} {scope:Scope} {i j:Nat} {m:Bool} {fi:Loc→St→Option (List V×St)} {fe:Loc→St→Option (V×St)} (gi:G.Inj) (K:CompOk G G' scope x i) (hs:notSet iter=true) (hi:SIt c G RA iter fi) (he:SE c G' RA elt fe)
  (hn:G.names[j]?=some (some t)) (hsw:swapsNow G scope t pt pos=true) (hk:G.scope.kind = .function) :
  SS c G RA (.Assign [.Name t pt] (.ListComp elt [⟨.Name x px,iter,[],0⟩] scope pos) spos) fun ρ σ=>(compF m i fi fe ρ σ).map fun (v,σ₁)=>(.next,ρ.set j (some v),σ₁):=
 fun P U A env ρ am σ r s Q rA h0 o I F e p=>mapP e fun v σ' e er=>by
  have w:=Bool.and_eq_true_iff.mp hsw
  have w12:=Bool.and_eq_true_iff.mp w.1
  have hkt:G.scope.names.lookup t=some .local:=beq_iff_eq.mp w12.1
  have p:=p.at er
  rw [exec_Assign_Name_used _ _ _ _ (swap_now F hkt w12.2 w.2)]
  refine wpAny_bind (wpAny_standAt (wpAny_bind (wpAny_bind (wpAny_mono (comp_walk (use:=some (assign (.Name t pt) env)) (Q:=fun _ s'=>Q .next s') K hs hi he rA h0 I F e fun am₃ h₂ tk D C n z I₃ F₃ R₃ hC hU t₂=>?_) (fun _ s' hq=>wpAny_pure (wpAny_pure hq)) fun _ _ e=>e))))
  refine wpAny_assign_Name (store_loc (s:={ s with heap:=h₂,toks:=tk }) (P:=fun a=>P a∨a=C) gi (fun b q=>q.elim (o.nl b) fun q z=>hU _ F.uL (z.symm.trans q)) I₃ F₃ hn hkt R₃ fun h₄ tk₄ y₄ I₄ F₄ t₄ _=>e3_2 hC fun oC esC epC g1 g2=>⟨n,⟨oC,esC,epC,y₄.keepP _ _ (.inr rfl) g1,g2⟩,fun h₅ hs₅=>?_⟩)
  have L:=I₄.lose (U:=U) (a:=C) (h':=h₅) (fun b o hb q=>(hs₅.2 b hb).trans q) (.inr rfl) fun b u=>⟨.inl u,hU b u⟩
  exact p am₃ h₅ tk₄ .next ⟨z.pre,fun a ob' u q=>(hs₅.2 a (hU a (o.sub a u))).trans (y₄.keepP a ob' (.inl u) (z.keepP a ob' (o.sub a u) q)),fun a ob' q=>L.2 a ob' (y₄.keepF a ob' (z.keepF a ob' q))⟩ L.1
   (F₄.move L.2 List.prefix_rfl (fun a ob' q g=>(hs₅.2 a (hU a (F.mine a q))).trans g) F.mine) (Nat.le_trans t₂ t₄) rfl
end
end
section
section
variable {c:Cx} {G G':Ctx} {RA:Around→Prop} {P U U':Addr→Prop} {am am':List Addr} {σ σ':St} {s:Shared} {env:Env} {ρ ρ':Loc} {h h':Heap}
theorem SE.weaken {e:Expr} {f f':Loc→St→Option (V×St)} (h:SE c G RA e f') (hf:∀ ρ σ v σ',f ρ σ=some (v,σ')→f' ρ σ=some (v,σ')):SE c G RA e f:=
 fun U A env ρ am σ v σ' s Q rA h0 I F e P=>h U A env ρ am σ v σ' s Q rA h0 I F (hf _ _ _ _ e) P
theorem range_size {k:Int} (h:0≤k):Builtin.Range.rangeSize 0 k 1=k:=by
 unfold Builtin.Range.rangeSize
 rw [if_pos (by decide)]
 split
 ·rw [Int.ediv_one]; lia
 ·lia
theorem range_fit {x:Int} (h1:-10≤x) (h2:x<10000):Builtin.Range.rangeFitsLong x=true:=by
 unfold Builtin.Range.rangeFitsLong
 exact Bool.and_eq_true_iff.mpr ⟨decide_eq_true (Int.le_trans (by decide) h1),decide_eq_true (Int.lt_trans h2 (by decide))⟩
theorem range_small {k:Int} (h:0≤k) (h':k<1000):Builtin.Range.small 0 k 1=true:=by
 unfold Builtin.Range.small
 have hk:Builtin.Range.rangeFitsLong k=true:=range_fit (by lia) (by lia)
 have hk':Builtin.Range.rangeFitsLong (k+(1 - 1))=true:=range_fit (by lia) (by lia)
 rw [range_size h,range_fit (x:=0) (by decide) (by decide),hk,range_fit (x:=1) (by decide) (by decide),if_pos (by decide),hk',Bool.or_true]
 rfl
theorem rangeV_ok {v:V} {xs:List V} {X:Prop} (e:rangeV v=some xs) (j:∀ k:Int,v = .int k→0≤k→k<1000→((List.range k.toNat).map fun (j:Nat)=>V.int j)=xs→X):X:=
 bindI e fun k e1 e=>ite_some e fun hk e=>j k (V.toInt_ok e1) hk.1 hk.2 (Option.some.inj e)
theorem iter_range {A:Around} {k:Int} {a:Addr} {h₂:Heap} (hh:A.handled=none) (h0:0≤k) (hr:IsRangeIter h₂ a 0 k 1):Iter c A a (fun _ _=>True) U am σ h₂ ((List.range k.toNat).map fun (j:Nat)=>V.int j):=
 Iter.of (Pv:=fun i v=>∃ t,v = .int ((0:Int)+(i:Nat) * 1) t) (Sta:=fun i h=>IsRangeIter h a (0+(i:Nat) * 1) ((k.toNat:Int) - (i:Nat)) 1) (by rw [List.length_map,List.length_range]; exact Walks.range hh _ 0 1 k.toNat)
  (by rw [Int.toNat_of_nonneg h0]; exact (Int.sub_zero k).symm▸hr) (fun i h' x=>⟨_,_,x,rfl,by decide +kernel⟩) (fun b hb=>.inl (List.mem_singleton.mp hb))
  fun i u hi hu=>Exists.elim hu fun t' eu=>⟨.int (i:Int),by
   rw [List.length_map,List.length_range] at hi
   rw [List.getElem?_map,List.getElem?_range hi]; rfl,eu▸(by rw [Int.mul_one,Int.zero_add]; exact .int)⟩
theorem SIt_range {x:Str} {a:Expr} {p pos:Pos} {f:Loc→St→Option (V×St)} (hA:∀ A,RA A→RoomE A) (B:BuiltinName c G x (.type "range")) (hs:notStar a=true) (h:SE c G RA a f) :
  SIt c G RA (.Call (.Name x p) [a] [] pos) fun ρ σ=>(f ρ σ).bind fun (v,σ₁)=>(rangeV v).map fun xs=>(xs,σ₁):=
 fun U A env ρ am σ xs σ' s Q rA h0 I F e K=>bindP e fun v σ₁ e1 e=>mapI e fun ys e2 e=>rangeV_ok e2 fun k ek hk hk' eys=>
 Call_ (nameBuiltin I F B.hk B.hd B.e B.hx B.hu (callWith_type1 ((SEs.cons hs h SEs.nil) U A env ρ am σ [v] _ s pos _ rA h0 I F (by dsimp only; rw [e1]; rfl) fun am₁ h₁ tk₁ us y₁ I₁ R₁ t₁=>R₁.onCons fun u us r rs=>rs.onNil ((r.at ek).onInt fun t=>call_range_1 (by
  have e:=Prod.mk.inj e
  rw [← e.1,← e.2,← eys] at K
  have N:=I₁.push (P:=U) { cls:=.type "range",data:=.fields #[.int 0 tk₁,.int k t,.int 1 (tk₁+1)] }
  have hr:IsRange (h₁.push { cls:=.type "range",data:=.fields #[.int 0 tk₁,.int k t,.int 1 (tk₁+1)] }) h₁.objs.size 0 k 1 tk₁ t (tk₁+1):=Heap.get?_push_size _ rfl
  refine wpAny_pyIter_range (s:={ s with heap:=h₁.push { cls:=.type "range",data:=.fields #[.int 0 tk₁,.int k t,.int 1 (tk₁+1)] },toks:=tk₁+1+1 }) hr (range_small hk hk') ?_
  rw [range_size hk]
  exact K am₁ _ (tk₁+1+1) _ (y₁.trans N.2) N.1 (Nat.le_trans t₁ (Nat.le_add_right tk₁ 2)) (iter_range (hA A rA).hh hk (Heap.get?_push_size _ rfl)) rfl))) (star_of hs)))
end
end
section
theorem merged_new {K:Type} [DecidableEq K]:∀ (more acc:List (K×Value)),((acc++more).map (·.1)).Nodup→merged acc more=acc++more
 | [],acc,_=>(List.append_nil acc).symm
 | p :: more,acc,h=>by
  have hn:acc.any (fun kv=>decide (kv.1=p.1))=false:=List.any_eq_false.mpr fun q hq z=>by
   rw [List.map_append,List.map_cons] at h
   exact (List.nodup_append.mp h).2.2 q.1 (List.mem_map.mpr ⟨q,hq,rfl⟩) p.1 List.mem_cons_self (of_decide_eq_true z)
  have e:merged acc (p :: more)=merged (acc++[(p.1,p.2)]) more:=by
   unfold merged
   rw [List.foldl_cons]
   congr 1
   unfold stored
   rw [if_neg (by rw [hn]; decide)]
  rw [e,merged_new more _ (by rw [List.append_assoc]; exact h),List.append_assoc]
  rfl
section
variable {c:Cx} {G G':Ctx} {RA:Around→Prop} {P U U':Addr→Prop} {am am':List Addr} {σ σ':St} {s:Shared} {env:Env} {ρ ρ':Loc} {h h':Heap}
variable {K:Type} [DecidableEq K]
noncomputable def LitKey (c:Cx) (G:Ctx) (knd:KeyKind c.prog c.w K) (e:Expr) (k:K):Prop:=
 ∀ U A env ρ am σ (s:Shared) (Q:Value→Shared→Prop),c.I U am σ s.heap→FR c G U env ρ am σ s.heap→(∀ u tk,knd.is k u=true→s.toks≤tk→Q u { s with toks:=tk })→wpAny c.M A (eval e env) Q NoE s
theorem litStr {x:Str} {k:Nat} {pos:Pos}:LitKey c G (PySem.strKind c.prog c.w) (.Constant (.str x) k pos) x:=
 fun U A env ρ am σ s Q I F h=>wpAny_Constant_str (h _ _ (strKind_is _ _ _ _) (Nat.le_succ _))
theorem litInt {i:Int} {k:Nat} {pos:Pos}:LitKey c G (intKind c.prog c.w) (.Constant (.int i) k pos) i:=
 fun U A env ρ am σ s Q I F h=>wpAny_Constant_int (h _ _ (intKind_is _ _ _ _) (Nat.le_succ _))
theorem litGlob {i:Int} {t:Tok} {x:Str} {pos:Pos} (hk:G.scope.names.lookup x=some .globalImplicit) (hd:(x == ("__debug__":Str))=false) (e:nsIn c.K mainGlobals x=some (some (.int i t))):LitKey c G (intKind c.prog c.w) (.Name x pos) i:=
 fun U A env ρ am σ s Q I F h=>nameGlobal I F hk hd e (h _ _ (intKind_is _ _ _ _) (Nat.le_refl _))
noncomputable def SPs (c:Cx) (G:Ctx) (RA:Around→Prop) (knd:KeyKind c.prog c.w K) (keys:List (Option Expr)) (vals:List Expr) (kk:List K) (f:Loc→St→Option (List V×St)):Prop:=
 ∀ U A env ρ am σ vs σ' (s:Shared) pos (Q:List (Value×Value)→Shared→Prop),RA A→0<s.toks→c.I U am σ s.heap→FR c G U env ρ am σ s.heap→f ρ σ=some (vs,σ')→
  (∀ am' h' tk ps us,Stp U U am σ s.heap am' σ' h'→c.I U am' σ' h'→Carries knd ps (kk.zip us)→us.length=kk.length→c.Rs U am' σ' h' us vs→s.toks≤tk→Q ps { s with heap:=h',toks:=tk })→
  wpAny c.M A (evalPairs (pairTrees keys vals env pos)) Q NoE s
noncomputable def PostP (c:Cx) (knd:KeyKind c.prog c.w K) (U:Addr→Prop) (am:List Addr) (s:Shared) (σ σ':St) (kk:List K) (vs:List V) (Q:List (Value×Value)→Shared→Prop):Prop:=
 ∀ am' h' tk ps us,Stp U U am σ s.heap am' σ' h'→c.I U am' σ' h'→Carries knd ps (kk.zip us)→us.length=kk.length→c.Rs U am' σ' h' us vs→s.toks≤tk→Q ps { s with heap:=h',toks:=tk }
theorem PostP.atp {knd:KeyKind c.prog c.w K} {kk:List K} {vs ws:List V} {τ:St} {Q:List (Value×Value)→Shared→Prop} (P:PostP c knd U am s σ σ' kk vs Q) (e:(ws,τ)=(vs,σ')):PostP c knd U am s σ τ kk ws Q:=(Prod.mk.inj e).2▸(Prod.mk.inj e).1▸P
theorem SPs_nil {knd:KeyKind c.prog c.w K}:SPs c G RA knd [] [] [] fun _ σ=>some ([],σ):=
 fun U A env ρ am σ vs σ' s pos Q rA h0 I F e P=>pairTrees_nil_walk (PostP.atp P (Option.some.inj e) am s.heap s.toks [] [] Stp.refl I trivial rfl .nil (Nat.le_refl _))
theorem SPs_cons {knd:KeyKind c.prog c.w K} {ke ve:Expr} {keys:List (Option Expr)} {vals:List Expr} {k:K} {kk:List K} {f:Loc→St→Option (V×St)} {g:Loc→St→Option (List V×St)} (hk:LitKey c G knd ke k) (h:SE c G RA ve f) (hs:SPs c G RA knd keys vals kk g) :
  SPs c G RA knd (some ke :: keys) (ve :: vals) (k :: kk) fun ρ σ=>(f ρ σ).bind fun (v,σ₁)=>(g ρ σ₁).map fun (vs,σ₂)=>(v :: vs,σ₂):=
 fun U A env ρ am σ vs σ' s pos Q rA h0 I F e P=>bindP e fun v σ₁ e1 e=>mapP e fun ws σ₂ e2 e=>pairTrees_cons_walk (hk U A env ρ am σ s _ I F fun uk tk₀ hu t₀=>
  h U A env ρ am σ v σ₁ { s with toks:=tk₀ } _ rA (Nat.lt_of_lt_of_le h0 t₀) I F e1 fun am₁ h₁ tk₁ u y₁ I₁ R₁ t₁=>hs U A env ρ am₁ σ₁ ws _ { s with heap:=h₁,toks:=tk₁ } pos _ rA (Nat.lt_of_lt_of_le h0 (Nat.le_trans t₀ t₁)) I₁ (F.step y₁ fun _ p=>p) e2
   fun am₂ h₂ tk₂ ps us y₂ I₂ hc hl R₂ t₂=>PostP.atp P e am₂ h₂ tk₂ ((uk,u) :: ps) (u :: us) (y₁.trans y₂) I₂ ⟨hu,rfl,hc⟩ (congrArg (·+1) hl) (.cons (R₁.step y₂) R₂) (Nat.le_trans t₀ (Nat.le_trans t₁ t₂)))
theorem KV.zip {enc:K→V} {Z:Stat} {F:Addr→Obj→Prop} {us:List Value} {vs:List V} (r:VRs Z F am us vs) {kk:List K} (hl:us.length=kk.length):KV enc Z F am (kk.zip us) ((kk.map enc).zip vs):=
 r.ind (P:=fun us vs=>∀ kk:List K,us.length=kk.length→KV enc Z F am (kk.zip us) ((kk.map enc).zip vs)) (fun kk _=>kk.casesOn .nil fun _ _=>.nil) (fun {_ _ _ _} r _ ih kk=>kk.casesOn (fun h=>nomatch h) fun k kk h=>.cons r (ih kk (Nat.succ.inj h))) kk hl
noncomputable def SPsZ (z:Nat) (c:Cx) (G:Ctx) (RA:Around→Prop) (knd:KeyKind c.prog c.w K) (keys:List (Option Expr)) (vals:List Expr) (kk:List K) (f:Loc→St→Option (List V×St)):Prop:=
 ∀ U A env ρ am σ vs σ' (s:Shared) pos (Q:List (Value×Value)→Shared→Prop),RA A→z≤s.toks→c.I U am σ s.heap→FR c G U env ρ am σ s.heap→f ρ σ=some (vs,σ')→
  (∀ am' h' tk ps us,Stp U U am σ s.heap am' σ' h'→c.I U am' σ' h'→Carries knd ps (kk.zip us)→us.length=kk.length→c.Rs U am' σ' h' us vs→s.toks≤tk→0<tk→Q ps { s with heap:=h',toks:=tk })→
  wpAny c.M A (evalPairs (pairTrees keys vals env pos)) Q NoE s
noncomputable def SEZ (z:Nat) (c:Cx) (G:Ctx) (RA:Around→Prop) (e:Expr) (f:Loc→St→Option (V×St)):Prop:=
 ∀ U A env ρ am σ v σ' (s:Shared) Q,RA A→z≤s.toks→c.I U am σ s.heap→FR c G U env ρ am σ s.heap→f ρ σ=some (v,σ')→PostE c U am s σ σ' v (fun u s'=>0<s'.toks→Q u s')→wpAny c.M A (eval e env) Q NoE s
theorem dict_enter (I:c.I U am σ s.heap):(c.I (fun a=>U a∨a=s.heap.objs.size) am σ (s.heap.push { cls:=.type "dict",data:=.dict #[] })∧∀ a o,Fz U am σ s.heap a o→Fz (fun a=>U a∨a=s.heap.objs.size) am σ (s.heap.push { cls:=.type "dict",data:=.dict #[] }) a o)∧∀ a,U a→a≠s.heap.objs.size:=
 ⟨I.enter (N:=fun a=>a=s.heap.objs.size) pushed fun a q=>q▸⟨get_size _,_,Heap.get?_push_size _ rfl⟩,fun a u z=>(I.out a u).2.elim fun o q=>noH q (z▸get_size _)⟩
theorem dict_made {V':Addr→Prop} {D:Addr} {am':List Addr} {σ₁:St} {h₁ h₃:Heap} {kv:List (V×V)} {o:Obj} {v:V} {tk:Nat} {Q:Value→Shared→Prop} (e:some (V.loc σ₁.length,σ₁++[Cel.dict kv])=some (v,σ')) (P:PostE c U am s σ σ' v Q) (hF:∀ a o,Fz U am σ s.heap a o→Fz V' am σ h₁ a o) (k:∀ b o,s.heap.get? b=some o→h₁.get? b=some o) (y:Stp U V' am σ h₁ am' σ₁ h₃)
  (I:c.I V' am' σ₁ h₃) (VD:V' D) (hU:∀ a,U a→V' a∧a≠D) (ho:h₃.get? D=some o) (dr:OR c.prog c.w c.Z (Fz V' am' σ₁ h₃) am' σ₁.length o (.dict kv)) (t:s.toks≤tk):Q (.ref D) { s with heap:=h₃,toks:=tk }:=
 have L:=I.adopt (U:=U) VD hU ho (Od:=.dict kv) rfl dr
 P.ats e _ h₃ tk _ ⟨y.pre.trans ⟨_,rfl⟩,fun a o' u q=>y.keepP a o' u (k a o' q),fun a o' q=>L.2 a o' (y.keepF a o' (hF a o' q))⟩ L.1 (.loc (I.len▸List.getElem?_concat_length)) t
theorem SE_dictZ {z:Nat} {knd:KeyKind c.prog c.w K} {enc:K→V} (hor:∀ {F:Addr→Obj→Prop} {am:List Addr} {n:Nat} {o:Obj} {kv:List (V×V)},DR knd enc c.Z F am o kv→OR c.prog c.w c.Z F am n o (.dict kv))
  {keys:List (Option Expr)} {vals:List Expr} {kk:List K} {pos:Pos} {f:Loc→St→Option (List V×St)} (hall:keys.all (·.isSome)=true) (hl:keys.length=vals.length) (h0:keys≠[]) (hlen:keys.length≤15) (nod:kk.Nodup) (h:SPsZ z c G RA knd keys vals kk f) :
  SEZ z c G RA (.Dict keys vals pos) fun ρ σ=>(f ρ σ).bind fun (vv,σ₁)=>if (kk.map enc).length=vv.length∧(kk.map enc).length<1000 then some (.loc σ₁.length,σ₁++[.dict ((kk.map enc).zip vv)]) else none:=
 fun U A env ρ am σ v σ' s Q rA ht I F e P=>bindP e fun vv σ₁ e1 e=>ite_some e fun hz e=>
  have N:=dict_enter I
  wpAny_Dict_walk (knd:=knd) hall hl h0 hlen (h _ A env ρ am σ vv σ₁ { s with heap:=s.heap.push { cls:=.type "dict",data:=.dict #[] } } pos _ rA ht N.1.1 (F.enter N.1.2 pushed fun _ q=>.inl q) e1 fun am₂ h₂ tk₂ ps us y₂ I₂ hc hlu R₂ t₂ p₂=>
   ⟨kk.zip us,hc,e3_2 (Heap.DictOf.new (knd:=knd) s.heap) fun o es ep q r=>⟨o,es,ep,y₂.keepP _ _ (.inr rfl) q,r⟩,fun h₃ hd hs=>by
    have fst:(kk.zip us).map (·.1)=kk:=List.map_fst_zip (Nat.le_of_eq hlu.symm)
    rw [merged_new _ _ (fst.symm▸nod),List.nil_append] at hd
    refine e3_6 hd fun o es ep q1 q2 q3 q4 q5 q6=>?_
    have z:=I₂.own (P:=U) hs ⟨o,q1⟩ (.inr rfl) N.2
    exact dict_made (s:=s) (Q:=fun u s'=>0<s'.toks→Q u s') e P N.1.2 pushed ((y₂.weaken fun _ q=>.inl q).trans z.2) z.1 (.inr rfl) (fun a u=>⟨.inl u,N.2 a u⟩) q1
     (hor ⟨q2,es,ep,_,q3,q4,q5,q6,(by rw [← List.length_map (f:=(·.1)),fst,← List.length_map (f:=enc)]; exact Nat.le_of_lt hz.2),KV.zip (R₂.step z.2) hlu⟩) (Nat.le_trans t₂ (Nat.le_add_right _ _)) (Nat.lt_of_lt_of_le p₂ (Nat.le_add_right _ _))⟩)
theorem SE_dict {knd:KeyKind c.prog c.w K} {enc:K→V} (hor:∀ {F:Addr→Obj→Prop} {am:List Addr} {n:Nat} {o:Obj} {kv:List (V×V)},DR knd enc c.Z F am o kv→OR c.prog c.w c.Z F am n o (.dict kv))
  {keys:List (Option Expr)} {vals:List Expr} {kk:List K} {pos:Pos} {f:Loc→St→Option (List V×St)} (hall:keys.all (·.isSome)=true) (hl:keys.length=vals.length) (h0:keys≠[]) (hlen:keys.length≤15) (nod:kk.Nodup) (h:SPs c G RA knd keys vals kk f) :
  SE c G RA (.Dict keys vals pos) fun ρ σ=>(f ρ σ).bind fun (vv,σ₁)=>if (kk.map enc).length=vv.length∧(kk.map enc).length<1000 then some (.loc σ₁.length,σ₁++[.dict ((kk.map enc).zip vv)]) else none:=
 fun U A env ρ am σ v σ' s Q rA ht I F e P=>SE_dictZ (z:=1) hor hall hl h0 hlen nod (fun U A env ρ am σ vs σ' s pos Q rA ht I F e P=>h U A env ρ am σ vs σ' s pos Q rA ht I F e fun am' h' tk ps us y I' a b r t=>P am' h' tk ps us y I' a b r t (Nat.lt_of_lt_of_le ht t)) U A env ρ am σ v σ' s Q rA ht I F e fun am' h' tk u y I' r t _=>P am' h' tk u y I' r t
theorem SPsZ_str {ve:Expr} {x:Str} {kn:Nat} {kp:Pos} {keys:List (Option Expr)} {vals:List Expr} {kk:List Str} {f:Loc→St→Option (V×St)} {g:Loc→St→Option (List V×St)} (h:SE c G RA ve f) (hs:SPs c G RA (PySem.strKind c.prog c.w) keys vals kk g) :
  SPsZ 0 c G RA (PySem.strKind c.prog c.w) (some (.Constant (.str x) kn kp) :: keys) (ve :: vals) (x :: kk) fun ρ σ=>(f ρ σ).bind fun (v,σ₁)=>(g ρ σ₁).map fun (vs,σ₂)=>(v :: vs,σ₂):=
 fun U A env ρ am σ vs σ' s pos Q rA _ I F e P=>bindP e fun v σ₁ e1 e=>mapP e fun ws σ₂ e2 e=>pairTrees_cons_walk (wpAny_Constant_str (
  have t0:0<s.toks+1:=Nat.succ_pos _
  h U A env ρ am σ v σ₁ { s with toks:=s.toks+1 } _ rA t0 I F e1 fun am₁ h₁ tk₁ u y₁ I₁ R₁ t₁=>hs U A env ρ am₁ σ₁ ws _ { s with heap:=h₁,toks:=tk₁ } pos _ rA (Nat.lt_of_lt_of_le t0 t₁) I₁ (F.step y₁ fun _ p=>p) e2 fun am₂ h₂ tk₂ ps us y₂ I₂ hc hl R₂ t₂=>
   PostP.atp (Q:=fun ps s'=>0<s'.toks→Q ps s') (fun a b c d e f g h i j k l=>P a b c d e f g h i j k l) e am₂ h₂ tk₂ ((_,u) :: ps) (u :: us) (y₁.trans y₂) I₂ ⟨strKind_is _ _ _ _,rfl,hc⟩ (congrArg (·+1) hl) (.cons (R₁.step y₂) R₂) (Nat.le_trans (Nat.le_succ _) (Nat.le_trans t₁ t₂)) (Nat.lt_of_lt_of_le t0 (Nat.le_trans t₁ t₂))))
theorem SSsZ_asg {x:Str} {p' pos:Pos} {i:Nat} {e:Expr} {rest:List Stmt} {f:Loc→St→Option (V×St)} {g:Loc→St→Option (Ctl×Loc×St)} (gi:G.Inj) (hn:G.names[i]?=some (some x)) (hk:storeKind G x=true) (hp:plainValue e=true) (h:SEZ 0 c G RA e f) (hs:SSs c G RA rest g) :
  SSsZ 0 c G RA (.Assign [.Name x p'] e pos :: rest) fun ρ σ=>(f ρ σ).bind fun (v,σ₁)=>g (ρ.set i (some v)) σ₁:=
 fun P U A env ρ am σ r s Q rA ht o I F e' p=>bindP e' fun v σ₁ e1 e'=>wpAny_execs_cons (wpAny_Assign_Name (h U A env ρ am σ v _ s _ rA ht I F e1 fun am₁ h₁ tk₁ u y₁ I₁ R₁ t₁ p₁=>store_ok (s:={ s with heap:=h₁,toks:=tk₁ }) gi o I₁ (F.step y₁ fun _ p=>p) hn hk R₁ fun h₂ tk₂ y₂ I₂ F₂ t₂=>
  hs P U A env _ am₁ σ₁ r _ Q rA (Nat.lt_of_lt_of_le p₁ t₂) o I₂ F₂ e' (p.after ((o.p y₁).trans y₂) (Nat.le_trans t₁ t₂))) (swaps_plain hp))
theorem SE_dict0 {pos:Pos}:SE c G RA (.Dict [] [] pos) fun ρ σ=>some (.loc σ.length,σ++[.dict []]):=
 fun U A env ρ am σ v σ' s Q rA ht I F e P=>
  have N:=dict_enter I
  wpAny_Dict_empty (e3_6 (Heap.DictOf.new (knd:=intKind c.prog c.w) s.heap) fun o es ep q1 q2 q3 q4 q5 q6=>dict_made e P N.1.2 pushed Stp.refl N.1.1 (.inr rfl) (fun a u=>⟨.inl u,N.2 a u⟩) q1
   (.inr ⟨q2,es,ep,[],q3,q4,q5,q6,Nat.zero_le _,.nil⟩) (Nat.le_refl _))
end
end
section
section
variable {prog:Program} {w:World} {K:Type} [DecidableEq K] {knd:KeyKind prog w K} {A:Around} {s:Shared}
theorem dictPut_new {d:Addr} {kvs:List (K×Value)} {k:K} {key v:Value} {Q:Unit→Shared→Prop} (hkey:knd.is k key=true) (hm:s.heap.DictOf knd d kvs) (hnew:k ∉ kvs.map (·.1)) (hsz:kvs.length≤1000)
  (hQ:∀ h',h'.DictOf knd d (kvs++[(k,v)])→Heap.SameBut d s.heap h'→Q () { s with heap:=h' }):wpAny (model prog w) A (dictPut d (knd.hash k) key v) Q NoE s:=by
 refine e3_6 hm fun o es ep ho hc hd hk hp hn=>?_
 have e1:=hp.length
 rw [Array.length_toList] at e1
 unfold dictPut
 refine wpAny_bind (wpAny_dictFind_of hkey ho hd hk ?_)
 have hidx:(es.findIdx? fun e=>knd.is k e.key)=kvs.findIdx? fun kv=>decide (kv.1=k):=by
  refine (hp.findIdx k)▸?_; obtain ⟨l⟩:=es; simp
 cases hi:es.findIdx? fun e=>knd.is k e.key with
 | some i=>
  have:=any_of_findIdx_some (hidx▸hi)
  rw [List.any_eq_true] at this
  refine e1_2 this fun kv h1 h2=>?_
  exact absurd (List.mem_map.mpr ⟨kv,h1,of_decide_eq_true h2⟩) hnew
 | none=>
  refine wpAny_updateDictKeys (hz:=by refine e1▸sizeLine_eq▸?_; lia) ho hd (hQ _ ⟨_,_,ep+1,Heap.get?_update_self _ ho (Obj.isFreed_of_dict (Obj.data_mapDictKeys hd _)),
   hc.mapDictKeys _,Obj.data_mapDictKeys hd _,hk.push hkey _,?_,?_⟩ (Heap.SameBut.update ..))
  ·have:=hp.append hkey (knd.hash k) v
   obtain ⟨l⟩:=es
   simpa using this
  ·rw [List.map_append,List.nodup_append]
   refine ⟨hn,by simp,?_⟩
   intro a ha b hb
   refine byC fun w4_=>?_
   simp only [List.map_cons,List.map_nil,List.mem_singleton] at hb
   subst hb
   exact w4_ (fun e=>hnew (e▸ha))
theorem Pairs.get {es:List DictEntry} {kvs:List (K×Value)} (h:Pairs knd es kvs):∀ {i:Nat} {e:DictEntry},es[i]?=some e→∃ k,kvs[i]?=some (k,e.val)∧knd.is k e.key=true:=by
 induction h with
 | nil=>intro i e q; simp at q
 | cons h1 h2 _ ih=>
  intro i e q
  cases i with
  | zero=>simp only [List.getElem?_cons_zero,Option.some.injEq] at q ⊢; subst q; exact i1_2 _ (by rw [h2]) h1
  | succ i=>simp only [List.getElem?_cons_succ] at q ⊢; exact ih q
theorem forRange {M:Model} (f:Nat→PUnit→Sem (ForInStep PUnit)) (J:Nat→Shared→Prop) {Q:PUnit→Shared→Prop}:∀ (n i:Nat) (s':Shared),J i s'→(∀ j s',i≤j→j<i+n→J j s'→wpAny M A (f j PUnit.unit) (fun r s''=>r=ForInStep.yield PUnit.unit∧J (j+1) s'') NoE s')→(∀ s',J (i+n) s'→Q PUnit.unit s')→
  wpAny M A (forIn (List.range' i n) PUnit.unit f) Q NoE s'
 | 0,i,s',h0,_,hQ=>by
  rw [show List.range' i 0=[] from rfl,List.forIn_nil]
  exact wpAny_pure (hQ s' h0)
 | n+1,i,s',h0,hs,hQ=>by
  rw [List.range'_succ,List.forIn_cons]
  refine wpAny_bind (wpAny_mono (hs i s' (Nat.le_refl _) (by lia) h0) (fun r s'' h=>?_) fun _ _ x=>x)
  obtain ⟨rfl,h1⟩:=h
  exact forRange f J n (i+1) s'' h1 (fun j s₁ a b c=>hs j s₁ (by lia) (by lia) c) fun s₁ h=>hQ s₁ (by refine (show i+(n+1)=i+1+n by lia)▸?_; exact h)
theorem wp_pos {α:Type} {M:Model} {c:Prop} [Decidable c] {x y:Sem α} {Q:α→Shared→Prop} {E:Value→Shared→Prop} {s:Shared} (h:c) (k:wpAny M A x Q E s):wpAny M A (ite c x y) Q E s:=(if_pos h).symm▸k
theorem wp_neg {α:Type} {M:Model} {c:Prop} [Decidable c] {x y:Sem α} {Q:α→Shared→Prop} {E:Value→Shared→Prop} {s:Shared} (h:¬ c) (k:wpAny M A y Q E s):wpAny M A (ite c x y) Q E s:=(if_neg h).symm▸k
theorem wp_pure {α:Type} {M:Model} {a b:α} {Q:α→Shared→Prop} {E:Value→Shared→Prop} {s:Shared} (e:a=b) (k:Q b s):wpAny M A (pure a) Q E s:=wpAny_pure (e.symm▸k)
theorem mergeMapping_new {d a:Addr} {kvs more:List (K×Value)} {Q:Unit→Shared→Prop} (hda:d≠a) (has:(a == sysModules)=false) (hd:s.heap.DictOf knd d kvs) (ha:s.heap.DictOf knd a more) (hne:kvs≠[]) (nod:((kvs++more).map (·.1)).Nodup) (hsz:kvs.length+more.length≤1000)
  (hQ:∀ h',h'.DictOf knd d (kvs++more)→Heap.SameBut d s.heap h'→Q () { s with heap:=h' }):wpAny (model prog w) A (mergeMapping d (.ref a) false) Q NoE s:=by
 obtain ⟨oa,esa,epa,hoa,hca,hda',hka,hpa,hna⟩:=id ha
 obtain ⟨od,esd,epd,hod,hcd,hdd,hkd,hpd,hnd⟩:=id hd
 have hlen:more.length=esa.size:=by rw [← hpa.length]; simp
 unfold mergeMapping
 refine wpAny_bind (wpAny_isInstance ha.typeIs isSubtype_dict_dict (wp_pos rfl (wpAny_bind (wpAny_specialOf ha.typeIs PySem.F.slot_dict_iter.lookup ?_))))
 refine wpAny_bind (wp_pure (beq_self_eq_true _) ?_)
 refine wp_neg (fun h=>Bool.false_ne_true (has.symm.trans h)) (wpAny_bind (wpAny_dictEntries hod hdd ?_))
 have hne':esd.isEmpty=false:=eq_false_of_ne_true fun q=>hne (List.length_eq_zero_iff.mp (hpd.length.symm.trans (congrArg (fun e=>e.toList.length) (Array.isEmpty_iff.mp q))))
 refine wp_neg (fun h=>Bool.false_ne_true (hne'.symm.trans h)) ?_
 refine wpAny_bind (wpAny_dictEntries hoa hda' (wpAny_bind (wpAny_dictEpoch hoa hda' (wpAny_bind ?_))))
 rw [List.range_eq_range']
 refine forRange _ (fun i s'=>∃ h',s'={ s with heap:=h' }∧h'.DictOf knd d (kvs++more.take i)∧Heap.SameBut d s.heap h') esa.size 0 s ⟨s.heap,rfl,by simpa using hd,Heap.SameBut.refl ..⟩ ?_ ?_
 ·rintro i s' _ hlt ⟨h',rfl,hd',hs'⟩
  rw [Nat.zero_add] at hlt
  have hoa':h'.get? a=some oa:=(hs'.2 a (Ne.symm hda)).trans hoa
  obtain ⟨k,g1,g2⟩:=Pairs.get hpa (i:=i) (e:=esa[i]) (by simp [hlt])
  have hh:esa[i].hash=knd.hash k:=by
   obtain ⟨k',q1,q2⟩:=hka esa[i] (Array.getElem_mem hlt)
   rw [q2,knd.inj _ _ _ q1 g2]
  have hi':more.take (i+1)=more.take i++[(k,esa[i].val)]:=by rw [List.take_add_one,g1]; rfl
  refine wpAny_bind (wpAny_dictEntries (s:={ s with heap:=h' }) hoa' hda' ?_)
  rw [Array.getElem?_eq_getElem hlt]
  dsimp only
  rw [hh]
  have hnew:k ∉ (kvs++more.take i).map (·.1):=fun q=>by
   have nod':((kvs++more.take i++[(k,esa[i].val)]++more.drop (i+1)).map (·.1)).Nodup:=by
    have:kvs++more.take i++[(k,esa[i].val)]++more.drop (i+1)=kvs++more:=by
     rw [List.append_assoc kvs,← hi',List.append_assoc,List.take_append_drop]
    rw [this]; exact nod
   rw [List.map_append,List.map_append] at nod'
   have:=(List.nodup_append.mp (List.nodup_append.mp nod').1).2.2 k q k (by simp)
   exact this rfl
  refine wpAny_bind (wpAny_holding (wp_neg Bool.false_ne_true (dictPut_new (s:={ s with heap:=h' }) g2 hd' hnew (by
   rw [List.length_append]
   have:=List.length_take_le i more
   lia) fun h₂ hd₂ hs₂=>?_)))
  have hs₂':Heap.SameBut d s.heap h₂:=hs'.trans hs₂
  refine wpAny_bind (wpAny_dictEpoch (s:={ s with heap:=h₂ }) ((hs₂'.2 a (Ne.symm hda)).trans hoa) hda' ?_)
  exact wp_neg (by simp) (wpAny_pure ⟨rfl,h₂,rfl,by rw [hi',← List.append_assoc]; exact hd₂,hs₂'⟩)
 ·rintro s' ⟨h',rfl,hd',hs'⟩
  rw [Nat.zero_add,List.take_of_length_le (by lia)] at hd'
  exact wpAny_pure (hQ h' hd' hs')
end
theorem gather3 (f:(Option (Sem Value)×Sem Value)→(Option Addr×List (Sem Value×Sem Value))→Sem (ForInStep (Option Addr×List (Sem Value×Sem Value)))) (d:Addr)
  (hf:∀ (p:Sem Value×Sem Value) (run:List (Sem Value×Sem Value)),run.length+1<17→f (some p.1,p.2) (some d,run)=pure (.yield (some d,run++[p]))) :
  ∀ (items run:List (Sem Value×Sem Value)),run.length+items.length<17→forIn (items.map fun p=>(some p.1,p.2)) (some d,run) f=pure (some d,run++items)
 | [],run,_=>by simp
 | p :: rest,run,h=>by
  rw [List.map_cons,List.forIn_cons,hf p run (by simp at h; lia),pure_bind]
  have:=gather3 f d hf rest (run++[p]) (by simp at h ⊢; lia)
  simpa using this
theorem gather17 (f:(Option (Sem Value)×Sem Value)→(Option Addr×List (Sem Value×Sem Value))→Sem (ForInStep (Option Addr×List (Sem Value×Sem Value))))
  (hf1:∀ (p:Sem Value×Sem Value) (run:List (Sem Value×Sem Value)),run.length+1<17→f (some p.1,p.2) (none,run)=pure (.yield (none,run++[p])))
  (hf2:∀ (p:Sem Value×Sem Value) (run:List (Sem Value×Sem Value)),run.length+1=17→f (some p.1,p.2) (none,run)=(do let d ← subDict (run++[p]); pure (.yield (some d,[]))))
  (hf3:∀ (d:Addr) (p:Sem Value×Sem Value) (run:List (Sem Value×Sem Value)),run.length+1<17→f (some p.1,p.2) (some d,run)=pure (.yield (some d,run++[p]))) (ps2:List (Sem Value×Sem Value)) (h2:ps2.length<17) :
  ∀ (items run:List (Sem Value×Sem Value)),items≠[]→run.length+items.length=17→forIn ((items++ps2).map fun p=>(some p.1,p.2)) ((none:Option Addr),run) f=(do let d ← subDict (run++items); pure (some d,ps2))
 | [],run,h0,_=>absurd rfl h0
 | [p],run,_,h=>by
  rw [List.cons_append,List.nil_append,List.map_cons,List.forIn_cons,hf2 p run (by simpa using h),bind_assoc]
  congr 1
  funext d
  rw [pure_bind]
  have:=gather3 f d (hf3 d) ps2 [] (by simpa using h2)
  simpa using this
 | p :: q :: rest,run,_,h=>by
  rw [List.cons_append,List.map_cons,List.forIn_cons,hf1 p run (by simp at h; lia),pure_bind]
  have:=gather17 f hf1 hf2 hf3 ps2 h2 (q :: rest) (run++[p]) (by simp) (by simp at h ⊢; lia)
  simpa using this
theorem dictDisplay_long (ps1 ps2:List (Sem Value×Sem Value)) (h1:ps1.length=17) (h0:ps2≠[]) (h2:ps2.length<17) :
  dictDisplay ((ps1++ps2).map fun p=>(some p.1,p.2))=(do
   let d ← subDict ps1
   let sub ← holding [.ref d] (subDict ps2)
   (holding [.ref d,.ref sub] (mergeMapping d (.ref sub) false)).onRaise fun x=>do let _ ← holding [.ref d,x] (runValue (.builtin "proto.let_go" {}))
   pure (.ref d)):=by
 unfold dictDisplay
 dsimp only
 rw [gather17 _ (fun p run h=>by
  have hne:((run++[(p.1,p.2)]).length == 17)=false:=by simp; lia
  simp only [hne,Bool.false_eq_true,if_false]) (fun p run h=>by
  have hne:((run++[(p.1,p.2)]).length == 17)=true:=by simp; lia
  simp only [hne,if_true]
  simp) (fun d p run h=>by
  have hne:((run++[(p.1,p.2)]).length == 17)=false:=by simp; lia
  simp only [hne,Bool.false_eq_true,if_false]) ps2 h2 ps1 [] (by intro z; have h1:=z▸h1; cases h1) (by simpa using h1)]
 simp [h0]
end
section
section
variable {c:Cx} {G G':Ctx} {RA:Around→Prop} {P U U':Addr→Prop} {am am':List Addr} {σ σ':St} {s:Shared} {env:Env} {ρ ρ':Loc} {h h':Heap}
variable {K:Type} [DecidableEq K]
noncomputable def SPd (c:Cx) (G:Ctx) (RA:Around→Prop) (knd:KeyKind c.prog c.w K) (keys:List (Option Expr)) (vals:List Expr) (kk:List K) (f:Loc→St→Option (List V×St)):Prop:=
 ∀ U A env ρ am σ vs σ' (s:Shared) pos D (kk0:List K) us0 vs0 (Q:PUnit→Shared→Prop) (body:(Sem Value×Sem Value)→PUnit→Sem (ForInStep PUnit)),
  (∀ p u,body p u=(do let kv ← p.1; let vv ← holding [kv] p.2; holding [kv,vv] (dictSet D kv vv); pure (ForInStep.yield PUnit.unit)))→
  RA A→0<s.toks→c.I U am σ s.heap→U D→FR c G U env ρ am σ s.heap→(∀ a,(a=env.locals∨∃ x,env.cells.lookup x=some a)→a≠D)→f ρ σ=some (vs,σ')→
  s.heap.DictOf knd D (kk0.zip us0)→us0.length=kk0.length→c.Rs U am σ s.heap us0 vs0→(kk0++kk).Nodup→(kk0++kk).length≤1000→
  (∀ am' h' tk us,Stp (fun a=>U a∧a≠D) U am σ s.heap am' σ' h'→c.I U am' σ' h'→h'.DictOf knd D ((kk0++kk).zip us)→us.length=(kk0++kk).length→c.Rs U am' σ' h' us (vs0++vs)→s.toks≤tk→Q PUnit.unit { s with heap:=h',toks:=tk })→
  wpAny c.M A (forIn (pairTrees keys vals env pos) PUnit.unit body) Q NoE s
theorem SPd_nil {knd:KeyKind c.prog c.w K}:SPd c G RA knd [] [] [] fun _ σ=>some ([],σ):=by
 intro U A env ρ am σ vs σ' s pos D kk0 us0 vs0 Q body hb rA h0 I hD F hne e hd hl hr nod hz P
 refine byC fun w1_=>?_
 cases e
 refine w1_ ?_
 refine (?_:wpAny c.M A (forIn [] PUnit.unit body) Q NoE s)
 rw [List.forIn_nil]
 exact wpAny_pure (P am s.heap s.toks us0 Stp.refl I (by rw [List.append_nil]; exact hd) (by rw [List.append_nil]; exact hl) (by rw [List.append_nil]; exact hr) (Nat.le_refl _))
theorem SPd_cons {knd:KeyKind c.prog c.w K} {ke ve:Expr} {keys:List (Option Expr)} {vals:List Expr} {k:K} {kk:List K} {f:Loc→St→Option (V×St)} {g:Loc→St→Option (List V×St)} (hk:LitKey c G knd ke k) (h:SE c G RA ve f) (hs:SPd c G RA knd keys vals kk g) :
  SPd c G RA knd (some ke :: keys) (ve :: vals) (k :: kk) fun ρ σ=>(f ρ σ).bind fun (v,σ₁)=>(g ρ σ₁).map fun (vs,σ₂)=>(v :: vs,σ₂):=by
 intro U A env ρ am σ vs σ' s pos D kk0 us0 vs0 Q body hb rA h0 I hD F hne e hd hl hr nod hz P
 refine byC fun w4_=>?_
 refine bindP (e) fun v σ₁ e1 e=>?_
 refine mapP (e) fun ws σ₂ e2 e=>?_
 cases e
 refine w4_ ?_
 refine (?_:wpAny c.M A (forIn ((eval ke env,do let x ← eval ve env; standAt pos; pure x) :: pairTrees keys vals env pos) PUnit.unit body) Q NoE s)
 rw [List.forIn_cons,hb]
 refine wpAny_bind (wpAny_bind (hk U A env ρ am σ s _ I F fun uk tk₀ hu t₀=>?_))
 refine wpAny_bind (wpAny_holding (wpAny_bind ?_))
 refine h U A env ρ am σ v σ₁ { s with toks:=tk₀ } _ rA (Nat.lt_of_lt_of_le h0 t₀) I F e1 fun am₁ h₁ tk₁ u y₁ I₁ R₁ t₁=>?_
 refine wpAny_bind (wpAny_standAt (wpAny_pure ?_))
 have hd₁:h₁.DictOf knd D (kk0.zip us0):=by
  refine e3_2 hd fun o es ep q r=>?_
  exact i3_2 o es ep (y₁.keepP _ _ hD q) r
 have nk:k ∉ kk0:=fun q=>(List.nodup_append.mp nod).2.2 k q k List.mem_cons_self rfl
 have hst:stored (kk0.zip us0) k u=(kk0++[k]).zip (us0++[u]):=by
  unfold stored
  rw [if_neg,List.zip_append hl.symm]
  ·rfl
  ·rw [Bool.not_eq_true,List.any_eq_false]
   intro q hq
   have:=(List.of_mem_zip (a:=q.1) (b:=q.2) hq).1
   simpa using fun z:q.1=k=>nk (z▸this)
 refine wpAny_bind (wpAny_holding (wpAny_dictSet_pairs (s:={ s with heap:=h₁,toks:=tk₁ }) hu hd₁ (fun h₂ hd₂ hs₂=>wpAny_pure ?_) (by
  rw [List.length_zip,sizeLine_eq]
  rw [List.length_append] at hz
  lia)))
 refine byC fun w6_=>?_
 have hd₂:=hst▸hd₂
 refine e0_2 (I₁.own (P:=fun a=>U a∧a≠D) hs₂ (by refine e3_2 hd₂ fun o _ _ q _=>?_; exact ⟨o,q⟩) hD fun b q=>q.2) fun I₂ y₂=>?_
 have y:Stp (fun a=>U a∧a≠D) U am σ s.heap am₁ σ₁ h₂:=(y₁.weaken fun _ q=>q.1).trans y₂
 have F₂:=F.move y.keepF y.pre (fun a o q g=>y.keepP a o ⟨F.mine a q,hne a q⟩ g) F.mine
 have ea:kk0++[k]++kk=kk0++k :: kk:=by simp
 refine w6_ ?_
 refine hs U A env ρ am₁ σ₁ ws _ { s with heap:=h₂,toks:=tk₁+1 } pos D (kk0++[k]) (us0++[u]) (vs0++[v]) Q body hb rA (Nat.lt_of_lt_of_le h0 (Nat.le_trans t₀ (Nat.le_trans t₁ (Nat.le_succ _)))) I₂ hD F₂ hne e2 hd₂ (by simp [hl]) ((hr.step y).append (.cons (R₁.step y₂) .nil)) (by rw [ea]; exact nod) (by rw [ea]; exact hz) fun am₃ h₃ tk₃ us y₃ I₃ hd₃ hl₃ R₃ t₃=>?_
 rw [ea] at hd₃ hl₃
 exact P am₃ h₃ tk₃ us (y.trans y₃) I₃ hd₃ hl₃ (by simpa using R₃) (Nat.le_trans t₀ (Nat.le_trans t₁ (Nat.le_trans (Nat.le_succ _) t₃)))
theorem pairTrees_append {env:Env} {pos:Pos}:∀ {k1 k2:List (Option Expr)} {v1 v2:List Expr},k1.all (·.isSome)=true→k1.length=v1.length→pairTrees (k1++k2) (v1++v2) env pos=pairTrees k1 v1 env pos++pairTrees k2 v2 env pos
 | [],_,[],_,_,_=>rfl
 | [],_,_ :: _,_,_,h=>by simp at h
 | _ :: _,_,[],_,_,h=>by simp at h
 | none :: _,_,_ :: _,_,h,_=>by simp at h
 | some k :: k1,k2,v :: v1,v2,h,hl=>by
  refine (?_:(_ :: pairTrees (k1++k2) (v1++v2) env pos)=_ :: (pairTrees k1 v1 env pos++_))
  exact (pairTrees_append (by simpa using h) (by simpa using hl))▸rfl
theorem subDict_far (pairs:List (Sem Value×Sem Value)) (h:¬ pairs.length≤15):subDict pairs=(do
  let d ← alloc { cls:=.type "dict",data:=.dict #[] }
  holding [.ref d] do
   rule "dict.display.long"
   forIn pairs PUnit.unit fun p (_:PUnit)=>(do let kv ← p.1; let vv ← holding [kv] p.2; holding [kv,vv] (dictSet d kv vv); pure (ForInStep.yield PUnit.unit):Sem (ForInStep PUnit))
   pure ()
  return d):=by
 unfold subDict
 simp only [if_neg h]
theorem SE_dictLong {knd:KeyKind c.prog c.w K} {enc:K→V} (hsm:∃ o,c.hb.get? sysModules=some o) (hor:∀ {F:Addr→Obj→Prop} {am:List Addr} {n:Nat} {o:Obj} {kv:List (V×V)},DR knd enc c.Z F am o kv→OR c.prog c.w c.Z F am n o (.dict kv))
  {k1 k2:List (Option Expr)} {v1 v2:List Expr} {kk1 kk2:List K} {pos:Pos} {f1 f2:Loc→St→Option (List V×St)} (a1:k1.all (·.isSome)=true) (a2:k2.all (·.isSome)=true) (l1:k1.length=v1.length) (l2:k2.length=v2.length) (n1:k1.length=17) (z1:kk1.length=17) (z2:kk2.length=k2.length) (n2:k2≠[]) (m2:k2.length≤15)
  (nod:(kk1++kk2).Nodup) (h1:SPd c G RA knd k1 v1 kk1 f1) (h2:SPs c G RA knd k2 v2 kk2 f2) :
  SE c G RA (.Dict (k1++k2) (v1++v2) pos) fun ρ σ=>((f1 ρ σ).bind fun (w1,σ₁)=>(f2 ρ σ₁).map fun (w2,σ₂)=>(w1++w2,σ₂)).bind fun (vv,σ₁)=>if ((kk1++kk2).map enc).length=vv.length∧((kk1++kk2).map enc).length<1000 then some (.loc σ₁.length,σ₁++[.dict (((kk1++kk2).map enc).zip vv)]) else none:=by
 intro U A env ρ am σ v σ' s Q rA ht I F e P
 refine bindP e fun vv σ₂ e1 e=>ite_some e fun hz e=>bindP e1 fun w1 σ₁ e2 e1=>mapP e1 fun w2 σ₂' e3 e1=>?_
 clear hz
 cases e1
 have p1:=(pairTrees_length k1 v1 env pos a1 l1).trans n1
 have p2:=pairTrees_length k2 v2 env pos a2 l2
 rw [arm_eval_Dict,zip_pairTrees _ _ env pos (by rw [List.all_append,a1,a2]; rfl) (by rw [List.length_append,List.length_append,l1,l2]),pairTrees_append a1 l1,dictDisplay_long _ _ p1 (fun z=>n2 (List.length_eq_zero_iff.mp (p2.symm.trans (congrArg List.length z)))) (Nat.lt_of_le_of_lt (Nat.le_of_eq p2) (Nat.lt_of_le_of_lt m2 (by decide)))]
 refine wpAny_bind (wpAny_standAt (wpAny_bind ?_))
 rw [subDict_far (pairTrees k1 v1 env pos) (p1▸(by decide))]
 refine wpAny_bind (wpAny_alloc (wpAny_bind (wpAny_holding (wpAny_bind (wpAny_rule (wpAny_bind ?_))))))
 have N:=dict_enter I
 have nods:=List.nodup_append.mp nod
 refine h1 (fun a=>U a∨a=s.heap.objs.size) A env ρ am σ w1 σ₁ { s with heap:=s.heap.push { cls:=.type "dict",data:=.dict #[] } } pos s.heap.objs.size [] [] [] _ _ (fun p u=>rfl) rA ht N.1.1 (.inr rfl) (F.enter N.1.2 pushed fun _ q=>.inl q) (fun a q=>N.2 a (F.mine a q)) e2 (Heap.DictOf.new s.heap) rfl .nil nods.1 (z1▸(by decide)) fun am₁ h₁ tk₁ us1 y₁ I₂ hd₁ hl₁ R₁ t₁=>wpAny_pure (wpAny_pure ?_)
 rw [List.nil_append] at hd₁ hl₁ R₁
 have F₂:=(F.enter N.1.2 pushed fun _ q=>.inl q).move y₁.keepF y₁.pre (fun a o q g=>y₁.keepP a o ⟨.inl (F.mine a q),N.2 a (F.mine a q)⟩ g) (fun a q=>.inl (F.mine a q))
 have M:=dict_enter (s:={ s with heap:=h₁,toks:=tk₁ }) I₂
 refine wpAny_bind (wpAny_holding (wpAny_subDict (knd:=knd) (s:={ s with heap:=h₁,toks:=tk₁ }) (p2▸m2) ?_))
 refine h2 (fun a=>(U a∨a=s.heap.objs.size)∨a=h₁.objs.size) A env ρ am₁ σ₁ w2 σ₂ { s with heap:=h₁.push { cls:=.type "dict",data:=.dict #[] },toks:=tk₁ } pos _ rA (Nat.lt_of_lt_of_le ht t₁) M.1.1 (F₂.enter M.1.2 pushed fun _ q=>.inl q) e3 fun am₂ h₂ tk₂ ps us2 y₃ I₄ hc hl₂ R₂ t₂=>
  ⟨kk2.zip us2,hc,e3_2 (Heap.DictOf.new (knd:=knd) h₁) fun o es ep q r=>⟨o,es,ep,y₃.keepP _ _ (.inr rfl) q,r⟩,fun h₃ hd₃ hs₃=>?_⟩
 have m1:(kk1.zip us1).map (·.1)=kk1:=List.map_fst_zip (Nat.le_of_eq hl₁.symm)
 have mm2:(kk2.zip us2).map (·.1)=kk2:=List.map_fst_zip (Nat.le_of_eq hl₂.symm)
 have len1:(kk1.zip us1).length=17:=(List.length_map _).symm.trans ((congrArg List.length m1).trans z1)
 have len2:(kk2.zip us2).length=k2.length:=(List.length_map _).symm.trans ((congrArg List.length mm2).trans z2)
 rw [merged_new _ _ (mm2.symm▸nods.2.1),List.nil_append] at hd₃
 have z5:=I₄.own (P:=fun a=>U a∨a=s.heap.objs.size) hs₃ (e3_6 hd₃ fun o _ _ q _ _ _ _ _=>⟨o,q⟩) (.inr rfl) M.2
 have hdd:h₃.DictOf knd s.heap.objs.size (kk1.zip us1):=e3_2 hd₁ fun o es ep q r=>⟨o,es,ep,z5.2.keepP _ _ (.inr rfl) (y₃.keepP _ _ (.inl (.inr rfl)) (pushed _ _ q)),r⟩
 refine wpAny_bind (wpAny_onRaise (noE (wpAny_holding (mergeMapping_new (M.2 _ (.inr rfl)) (beq_eq_false_iff_ne.mpr fun z=>hsm.elim fun o' ho'=>noH (I₂.base _ _ ho') (z▸get_size _)) hdd hd₃ (fun z=>nomatch len1.symm.trans (congrArg List.length z))
  (by rw [List.map_append,m1,mm2]; exact nod) (by rw [len1,len2]; exact Nat.le_trans (Nat.add_le_add_left m2 17) (by decide)) fun h₄ hd₄ hs₄=>wpAny_pure ?_))))
 have z6:=z5.1.own (P:=U) hs₄ (e3_6 hd₄ fun o _ _ q _ _ _ _ _=>⟨o,q⟩) (.inl (.inr rfl)) N.2
 have len3:((kk1++kk2).zip (us1++us2)).length≤1000:=by
  rw [List.zip_append hl₁.symm,List.length_append,len1,len2]
  exact Nat.le_trans (Nat.add_le_add_left m2 17) (by decide)
 rw [← List.zip_append hl₁.symm] at hd₄
 refine e3_6 hd₄ fun o es ep q1 q2 q3 q4 q5 q6=>?_
 have L:=z6.1.adopt (U:=U) (.inl (.inr rfl)) (fun a u=>⟨.inl (.inl u),N.2 a u⟩) q1 (Od:=.dict (((kk1++kk2).map enc).zip (w1++w2))) rfl (hor ⟨q2,es,ep,_,q3,q4,q5,q6,len3,KV.zip (((((R₁.mono M.1.2 List.prefix_rfl).step y₃).append R₂).step z5.2).step z6.2) (by rw [List.length_append,List.length_append,hl₁,hl₂])⟩)
 exact P.ats e _ h₄ _ _ ⟨(y₁.pre.trans y₃.pre).trans ⟨_,rfl⟩,fun a o' u q=>z6.2.keepP a o' u (z5.2.keepP a o' (.inl u) (y₃.keepP a o' (.inl (.inl u)) (pushed _ _ (y₁.keepP a o' ⟨.inl u,N.2 a u⟩ (pushed a o' q))))),fun a o' q=>L.2 a o' (z6.2.keepF a o' (z5.2.keepF a o' (y₃.keepF a o' (M.1.2 a o' (y₁.keepF a o' (N.1.2 a o' q))))))⟩ L.1 (.loc (z6.1.len▸List.getElem?_concat_length)) (Nat.le_trans t₁ (Nat.le_trans t₂ (Nat.le_add_right _ _)))
end
end
section
section
variable {c:Cx} {G:Ctx} {RA:Around→Prop}
theorem SE_neg {i:Int} {k:Nat} {p pos:Pos}:SE c G RA (.UnaryOp .USub (.Constant (.int i) k p) pos) fun _ σ=>some (.int (-i),σ):=by
 intro U A env ρ am σ v σ' s Q rA h0 I F e P
 refine byC fun w1_=>?_
 cases e
 exact w1_ (wpAny_UnaryOp (wpAny_Constant_int (PySem.P.neg_int (P.here I .int (Nat.le_add_right s.toks 2)))))
end
end
noncomputable def injL:List (Option Str)→Bool
 | []=>true
 | none :: r=>injL r
 | some x :: r=>!(r.contains (some x)) && injL r
theorem injL_ok:∀ {l:List (Option Str)},injL l=true→∀ (i j:Nat) x,l[i]?=some (some x)→l[j]?=some (some x)→i=j
 | [],_,i,_,_,h,_=>by simp at h
 | none :: r,h,i,j,x,h1,h2=>by
  cases i with
  | zero=>simp at h1
  | succ i=>
   cases j with
   | zero=>simp at h2
   | succ j=>
    simp only [List.getElem?_cons_succ] at h1 h2
    rw [injL_ok (l:=r) (by simpa [injL] using h) i j x h1 h2]
 | some y :: r,h,i,j,x,h1,h2=>by
  rw [injL,Bool.and_eq_true_iff] at h
  refine e0_2 h fun ha hb=>?_
  have no:∀ k:Nat,r[k]?=some (some y)→False:=fun k q=>by
   have:=List.mem_of_getElem? q
   simp only [Bool.not_eq_true',List.contains_eq_mem,decide_eq_false_iff_not] at ha
   exact ha this
  cases i with
  | zero=>
   simp only [List.getElem?_cons_zero,Option.some.injEq] at h1
   subst h1
   cases j with
   | zero=>rfl
   | succ j=>exact (no j (by simpa using h2)).elim
  | succ i=>
   cases j with
   | zero=>
    simp only [List.getElem?_cons_zero,Option.some.injEq] at h2
    subst h2
    exact (no i (by simpa using h1)).elim
   | succ j=>
    simp only [List.getElem?_cons_succ] at h1 h2
    rw [injL_ok hb i j x h1 h2]
noncomputable def compNames (G:Ctx) (scope:Scope) (x:Str) (i:Nat):List (Option Str):=
 (List.range (max G.names.length (i+1))).map fun j=>if j=i then some x else match G.names[j]? with
  | some (some y)=>if scope.names.lookup y == some .free then some y else none
  | _=>none
noncomputable def compCtx (G:Ctx) (scope:Scope) (x:Str) (i:Nat):Ctx:=⟨compNames G scope x i,relabelS scope G.scope⟩
noncomputable def isFreeOrCell (G:Ctx) (y:Str):Bool:=G.scope.names.lookup y == some .cell || G.scope.names.lookup y == some .free
noncomputable def compB (G:Ctx) (scope:Scope) (x:Str) (i:Nat):Bool:=
 scope.kind == .function && scope.names.all (fun y=>!(y.2 == .cell)) && scope.names.all (fun y=>!(y.2 == .local) || scope.names.lookup y.1 == some .local) && scope.names.lookup x == some .local &&
 scope.names.all (fun y=>!(y.2 == .free) || (G.names.contains (some y.1) && isFreeOrCell G y.1 && !((relabelS scope G.scope).names.lookup y.1 == some .local))) &&
 (relabelS scope G.scope).names.lookup x == some .local && injL (compNames G scope x i)
theorem compNames_at {G:Ctx} {scope:Scope} {x:Str} {i j:Nat} {y:Str} (h:(compNames G scope x i)[j]?=some (some y)) (hj:j≠i):G.names[j]?=some (some y)∧scope.names.lookup y=some .free:=by
 unfold compNames at h
 rw [List.getElem?_map] at h
 refine mapI (h) fun k h1 h2=>?_
 have hk:k=j:=by
  have:=List.getElem?_eq_some_iff.mp h1
  refine e1_1 this fun hlt e=>?_
  simpa using e.symm
 subst hk
 rw [if_neg hj] at h2
 split at h2
 ·rename_i z hz
  split at h2
  ·rename_i hf
   cases h2
   exact ⟨hz,beq_iff_eq.mp hf⟩
  ·exact noS h2
 ·exact noS h2
theorem compB_ok {G:Ctx} {scope:Scope} {x:Str} {i:Nat} (h:compB G scope x i=true):CompOk G (compCtx G scope x i) scope x i:=by
 refine byC fun w12_=>?_
 unfold compB at h
 simp only [Bool.and_eq_true] at h
 refine e0_2 h fun w6_ h7=>?_; refine e0_2 w6_ fun w7_ h6=>?_; refine e0_2 w7_ fun w8_ h5=>?_; refine e0_2 w8_ fun w9_ h4=>?_; refine e0_2 w9_ fun w10_ h3=>?_; refine e0_2 w10_ fun h1 h2=>?_
 have fr:∀ n,(n,NameKind.free) ∈ scope.names→G.names.contains (some n)=true∧isFreeOrCell G n=true∧¬ (relabelS scope G.scope).names.lookup n=some .local:=fun n hn=>by
  have:=List.all_eq_true.mp h5 _ hn
  simp only [beq_self_eq_true,Bool.not_true,Bool.false_or,Bool.and_eq_true,Bool.not_eq_true'] at this
  exact i0_3 this.1.1 this.1.2 (fun z=>by have:=this.2; rw [z] at this; simp at this)
 have foc:∀ n,isFreeOrCell G n=true→G.scope.names.lookup n=some .cell∨G.scope.names.lookup n=some .free:=fun n q=>by
  unfold isFreeOrCell at q
  rcases Bool.or_eq_true_iff.mp q with q | q
  ·exact .inl (beq_iff_eq.mp q)
  ·exact .inr (beq_iff_eq.mp q)
 refine w12_ ?_
 refine ⟨beq_iff_eq.mp h1,fun y hy z=>?_,fun y hy z=>?_,beq_iff_eq.mp h4,fun n hn=>?_,rfl,?_,fun j y q hj=>?_,beq_iff_eq.mp h6,injL_ok h7⟩
 ·have:=List.all_eq_true.mp h2 y hy
  rw [z] at this; simp at this
 ·have:=List.all_eq_true.mp h3 y hy
  rw [z] at this
  simpa using this
 ·refine e0_3 (fr n hn) fun a b _=>?_
  rw [List.contains_eq_mem] at a
  obtain ⟨j,hj⟩:=List.getElem?_of_mem (of_decide_eq_true a)
  exact i1_2 j hj (foc n b)
 ·refine (?_:(compNames G scope x i)[i]?=_)
  unfold compNames
  rw [List.getElem?_map,List.getElem?_range (by omega)]
  simp
 ·refine byC fun w15_=>?_
  refine e0_2 (compNames_at q hj) fun a b=>?_
  have hm:=mem_of_lookup b
  refine e0_3 (fr y hm) fun _ c1 c2=>?_
  exact w15_ (⟨a,hm,foc y c1,c2⟩)
section
noncomputable def onBinOp (k:Expr→Operator→Expr→Pos→Bool) (e:Expr):Bool:=if h:e.ctorIdx=2 then Expr.BinOp.elim (motive_1:=fun _=>Bool) e h k else false
theorem elBinOp {k:Expr→Operator→Expr→Pos→Bool} {M:Expr→Prop} {e:Expr} (h:onBinOp k e=true) (j:∀ x y z u,k x y z u=true→M (.BinOp x y z u)):M e:=
 if q:e.ctorIdx=2 then Expr.BinOp.elim (motive_1:=fun e=>onBinOp k e=true→M e) e q j h else absurd h (fun z=>Bool.false_ne_true ((dif_neg q).symm.trans z))
noncomputable def onUnaryOp (k:UnaryOp→Expr→Pos→Bool) (e:Expr):Bool:=if h:e.ctorIdx=3 then Expr.UnaryOp.elim (motive_1:=fun _=>Bool) e h k else false
theorem elUnaryOp {k:UnaryOp→Expr→Pos→Bool} {M:Expr→Prop} {e:Expr} (h:onUnaryOp k e=true) (j:∀ x y z,k x y z=true→M (.UnaryOp x y z)):M e:=
 if q:e.ctorIdx=3 then Expr.UnaryOp.elim (motive_1:=fun e=>onUnaryOp k e=true→M e) e q j h else absurd h (fun z=>Bool.false_ne_true ((dif_neg q).symm.trans z))
noncomputable def onBoolOp (k:BoolOp→(List Expr)→Pos→Bool) (e:Expr):Bool:=if h:e.ctorIdx=0 then Expr.BoolOp.elim (motive_1:=fun _=>Bool) e h k else false
theorem elBoolOp {k:BoolOp→(List Expr)→Pos→Bool} {M:Expr→Prop} {e:Expr} (h:onBoolOp k e=true) (j:∀ x y z,k x y z=true→M (.BoolOp x y z)):M e:=
 if q:e.ctorIdx=0 then Expr.BoolOp.elim (motive_1:=fun e=>onBoolOp k e=true→M e) e q j h else absurd h (fun z=>Bool.false_ne_true ((dif_neg q).symm.trans z))
noncomputable def onIfExp (k:Expr→Expr→Expr→Pos→Bool) (e:Expr):Bool:=if h:e.ctorIdx=5 then Expr.IfExp.elim (motive_1:=fun _=>Bool) e h k else false
theorem elIfExp {k:Expr→Expr→Expr→Pos→Bool} {M:Expr→Prop} {e:Expr} (h:onIfExp k e=true) (j:∀ x y z u,k x y z u=true→M (.IfExp x y z u)):M e:=
 if q:e.ctorIdx=5 then Expr.IfExp.elim (motive_1:=fun e=>onIfExp k e=true→M e) e q j h else absurd h (fun z=>Bool.false_ne_true ((dif_neg q).symm.trans z))
noncomputable def onDict (k:(List (Option Expr))→(List Expr)→Pos→Bool) (e:Expr):Bool:=if h:e.ctorIdx=6 then Expr.Dict.elim (motive_1:=fun _=>Bool) e h k else false
theorem elDict {k:(List (Option Expr))→(List Expr)→Pos→Bool} {M:Expr→Prop} {e:Expr} (h:onDict k e=true) (j:∀ x y z,k x y z=true→M (.Dict x y z)):M e:=
 if q:e.ctorIdx=6 then Expr.Dict.elim (motive_1:=fun e=>onDict k e=true→M e) e q j h else absurd h (fun z=>Bool.false_ne_true ((dif_neg q).symm.trans z))
noncomputable def onListComp (k:Expr→(List Comprehension)→Scope→Pos→Bool) (e:Expr):Bool:=if h:e.ctorIdx=8 then Expr.ListComp.elim (motive_1:=fun _=>Bool) e h k else false
theorem elListComp {k:Expr→(List Comprehension)→Scope→Pos→Bool} {M:Expr→Prop} {e:Expr} (h:onListComp k e=true) (j:∀ x y z u,k x y z u=true→M (.ListComp x y z u)):M e:=
 if q:e.ctorIdx=8 then Expr.ListComp.elim (motive_1:=fun e=>onListComp k e=true→M e) e q j h else absurd h (fun z=>Bool.false_ne_true ((dif_neg q).symm.trans z))
noncomputable def onCompare (k:Expr→(List CmpOp)→(List Expr)→Pos→Bool) (e:Expr):Bool:=if h:e.ctorIdx=15 then Expr.Compare.elim (motive_1:=fun _=>Bool) e h k else false
theorem elCompare {k:Expr→(List CmpOp)→(List Expr)→Pos→Bool} {M:Expr→Prop} {e:Expr} (h:onCompare k e=true) (j:∀ x y z u,k x y z u=true→M (.Compare x y z u)):M e:=
 if q:e.ctorIdx=15 then Expr.Compare.elim (motive_1:=fun e=>onCompare k e=true→M e) e q j h else absurd h (fun z=>Bool.false_ne_true ((dif_neg q).symm.trans z))
noncomputable def onCall (k:Expr→(List Expr)→(List Keyword)→Pos→Bool) (e:Expr):Bool:=if h:e.ctorIdx=16 then Expr.Call.elim (motive_1:=fun _=>Bool) e h k else false
theorem elCall {k:Expr→(List Expr)→(List Keyword)→Pos→Bool} {M:Expr→Prop} {e:Expr} (h:onCall k e=true) (j:∀ x y z u,k x y z u=true→M (.Call x y z u)):M e:=
 if q:e.ctorIdx=16 then Expr.Call.elim (motive_1:=fun e=>onCall k e=true→M e) e q j h else absurd h (fun z=>Bool.false_ne_true ((dif_neg q).symm.trans z))
noncomputable def onConstant (k:Const→Nat→Pos→Bool) (e:Expr):Bool:=if h:e.ctorIdx=19 then Expr.Constant.elim (motive_1:=fun _=>Bool) e h k else false
theorem elConstant {k:Const→Nat→Pos→Bool} {M:Expr→Prop} {e:Expr} (h:onConstant k e=true) (j:∀ x y z,k x y z=true→M (.Constant x y z)):M e:=
 if q:e.ctorIdx=19 then Expr.Constant.elim (motive_1:=fun e=>onConstant k e=true→M e) e q j h else absurd h (fun z=>Bool.false_ne_true ((dif_neg q).symm.trans z))
noncomputable def onAttribute (k:Expr→Str→Pos→Bool) (e:Expr):Bool:=if h:e.ctorIdx=20 then Expr.Attribute.elim (motive_1:=fun _=>Bool) e h k else false
theorem elAttribute {k:Expr→Str→Pos→Bool} {M:Expr→Prop} {e:Expr} (h:onAttribute k e=true) (j:∀ x y z,k x y z=true→M (.Attribute x y z)):M e:=
 if q:e.ctorIdx=20 then Expr.Attribute.elim (motive_1:=fun e=>onAttribute k e=true→M e) e q j h else absurd h (fun z=>Bool.false_ne_true ((dif_neg q).symm.trans z))
noncomputable def onSubscript (k:Expr→Expr→Pos→Bool) (e:Expr):Bool:=if h:e.ctorIdx=21 then Expr.Subscript.elim (motive_1:=fun _=>Bool) e h k else false
theorem elSubscript {k:Expr→Expr→Pos→Bool} {M:Expr→Prop} {e:Expr} (h:onSubscript k e=true) (j:∀ x y z,k x y z=true→M (.Subscript x y z)):M e:=
 if q:e.ctorIdx=21 then Expr.Subscript.elim (motive_1:=fun e=>onSubscript k e=true→M e) e q j h else absurd h (fun z=>Bool.false_ne_true ((dif_neg q).symm.trans z))
noncomputable def onName (k:Str→Pos→Bool) (e:Expr):Bool:=if h:e.ctorIdx=23 then Expr.Name.elim (motive_1:=fun _=>Bool) e h k else false
theorem elName {k:Str→Pos→Bool} {M:Expr→Prop} {e:Expr} (h:onName k e=true) (j:∀ x y,k x y=true→M (.Name x y)):M e:=
 if q:e.ctorIdx=23 then Expr.Name.elim (motive_1:=fun e=>onName k e=true→M e) e q j h else absurd h (fun z=>Bool.false_ne_true ((dif_neg q).symm.trans z))
noncomputable def onList (k:(List Expr)→Pos→Bool) (e:Expr):Bool:=if h:e.ctorIdx=24 then Expr.List.elim (motive_1:=fun _=>Bool) e h k else false
theorem elList {k:(List Expr)→Pos→Bool} {M:Expr→Prop} {e:Expr} (h:onList k e=true) (j:∀ x y,k x y=true→M (.List x y)):M e:=
 if q:e.ctorIdx=24 then Expr.List.elim (motive_1:=fun e=>onList k e=true→M e) e q j h else absurd h (fun z=>Bool.false_ne_true ((dif_neg q).symm.trans z))
noncomputable def onTuple (k:(List Expr)→Nat→Pos→Bool) (e:Expr):Bool:=if h:e.ctorIdx=25 then Expr.Tuple.elim (motive_1:=fun _=>Bool) e h k else false
theorem elTuple {k:(List Expr)→Nat→Pos→Bool} {M:Expr→Prop} {e:Expr} (h:onTuple k e=true) (j:∀ x y z,k x y z=true→M (.Tuple x y z)):M e:=
 if q:e.ctorIdx=25 then Expr.Tuple.elim (motive_1:=fun e=>onTuple k e=true→M e) e q j h else absurd h (fun z=>Bool.false_ne_true ((dif_neg q).symm.trans z))
noncomputable def onSlice (k:(Option Expr)→(Option Expr)→(Option Expr)→Pos→Bool) (e:Expr):Bool:=if h:e.ctorIdx=26 then Expr.Slice.elim (motive_1:=fun _=>Bool) e h k else false
theorem elSlice {k:(Option Expr)→(Option Expr)→(Option Expr)→Pos→Bool} {M:Expr→Prop} {e:Expr} (h:onSlice k e=true) (j:∀ x y z u,k x y z u=true→M (.Slice x y z u)):M e:=
 if q:e.ctorIdx=26 then Expr.Slice.elim (motive_1:=fun e=>onSlice k e=true→M e) e q j h else absurd h (fun z=>Bool.false_ne_true ((dif_neg q).symm.trans z))
noncomputable def onSReturn (k:(Option Expr)→Pos→Bool) (e:Stmt):Bool:=if h:e.ctorIdx=3 then Stmt.Return.elim (motive_2:=fun _=>Bool) e h k else false
theorem elSReturn {k:(Option Expr)→Pos→Bool} {M:Stmt→Prop} {e:Stmt} (h:onSReturn k e=true) (j:∀ x y,k x y=true→M (.Return x y)):M e:=
 if q:e.ctorIdx=3 then Stmt.Return.elim (motive_2:=fun e=>onSReturn k e=true→M e) e q j h else absurd h (fun z=>Bool.false_ne_true ((dif_neg q).symm.trans z))
noncomputable def onSAssign (k:(List Expr)→Expr→Pos→Bool) (e:Stmt):Bool:=if h:e.ctorIdx=5 then Stmt.Assign.elim (motive_2:=fun _=>Bool) e h k else false
theorem elSAssign {k:(List Expr)→Expr→Pos→Bool} {M:Stmt→Prop} {e:Stmt} (h:onSAssign k e=true) (j:∀ x y z,k x y z=true→M (.Assign x y z)):M e:=
 if q:e.ctorIdx=5 then Stmt.Assign.elim (motive_2:=fun e=>onSAssign k e=true→M e) e q j h else absurd h (fun z=>Bool.false_ne_true ((dif_neg q).symm.trans z))
noncomputable def onSAugAssign (k:Expr→Operator→Expr→Pos→Bool) (e:Stmt):Bool:=if h:e.ctorIdx=7 then Stmt.AugAssign.elim (motive_2:=fun _=>Bool) e h k else false
theorem elSAugAssign {k:Expr→Operator→Expr→Pos→Bool} {M:Stmt→Prop} {e:Stmt} (h:onSAugAssign k e=true) (j:∀ x y z u,k x y z u=true→M (.AugAssign x y z u)):M e:=
 if q:e.ctorIdx=7 then Stmt.AugAssign.elim (motive_2:=fun e=>onSAugAssign k e=true→M e) e q j h else absurd h (fun z=>Bool.false_ne_true ((dif_neg q).symm.trans z))
noncomputable def onSFor (k:Expr→Expr→(List Stmt)→(List Stmt)→Pos→Bool) (e:Stmt):Bool:=if h:e.ctorIdx=9 then Stmt.For.elim (motive_2:=fun _=>Bool) e h k else false
theorem elSFor {k:Expr→Expr→(List Stmt)→(List Stmt)→Pos→Bool} {M:Stmt→Prop} {e:Stmt} (h:onSFor k e=true) (j:∀ x y z u v,k x y z u v=true→M (.For x y z u v)):M e:=
 if q:e.ctorIdx=9 then Stmt.For.elim (motive_2:=fun e=>onSFor k e=true→M e) e q j h else absurd h (fun z=>Bool.false_ne_true ((dif_neg q).symm.trans z))
noncomputable def onSWhile (k:Expr→(List Stmt)→(List Stmt)→Pos→Bool) (e:Stmt):Bool:=if h:e.ctorIdx=11 then Stmt.While.elim (motive_2:=fun _=>Bool) e h k else false
theorem elSWhile {k:Expr→(List Stmt)→(List Stmt)→Pos→Bool} {M:Stmt→Prop} {e:Stmt} (h:onSWhile k e=true) (j:∀ x y z u,k x y z u=true→M (.While x y z u)):M e:=
 if q:e.ctorIdx=11 then Stmt.While.elim (motive_2:=fun e=>onSWhile k e=true→M e) e q j h else absurd h (fun z=>Bool.false_ne_true ((dif_neg q).symm.trans z))
noncomputable def onSIf (k:Expr→(List Stmt)→(List Stmt)→Pos→Bool) (e:Stmt):Bool:=if h:e.ctorIdx=12 then Stmt.If.elim (motive_2:=fun _=>Bool) e h k else false
theorem elSIf {k:Expr→(List Stmt)→(List Stmt)→Pos→Bool} {M:Stmt→Prop} {e:Stmt} (h:onSIf k e=true) (j:∀ x y z u,k x y z u=true→M (.If x y z u)):M e:=
 if q:e.ctorIdx=12 then Stmt.If.elim (motive_2:=fun e=>onSIf k e=true→M e) e q j h else absurd h (fun z=>Bool.false_ne_true ((dif_neg q).symm.trans z))
noncomputable def onSExpr (k:Expr→Pos→Bool) (e:Stmt):Bool:=if h:e.ctorIdx=24 then Stmt.Expr.elim (motive_2:=fun _=>Bool) e h k else false
theorem elSExpr {k:Expr→Pos→Bool} {M:Stmt→Prop} {e:Stmt} (h:onSExpr k e=true) (j:∀ x y,k x y=true→M (.Expr x y)):M e:=
 if q:e.ctorIdx=24 then Stmt.Expr.elim (motive_2:=fun e=>onSExpr k e=true→M e) e q j h else absurd h (fun z=>Bool.false_ne_true ((dif_neg q).symm.trans z))
noncomputable def onCBool (k:Bool→Bool) (e:Const):Bool:=if h:e.ctorIdx=1 then Const.bool.elim (motive:=fun _=>Bool) e h k else false
theorem elCBool {k:Bool→Bool} {M:Const→Prop} {e:Const} (h:onCBool k e=true) (j:∀ x,k x=true→M (.bool x)):M e:=
 if q:e.ctorIdx=1 then Const.bool.elim (motive:=fun e=>onCBool k e=true→M e) e q j h else absurd h (fun z=>Bool.false_ne_true ((dif_neg q).symm.trans z))
noncomputable def onCInt (k:Int→Bool) (e:Const):Bool:=if h:e.ctorIdx=2 then Const.int.elim (motive:=fun _=>Bool) e h k else false
theorem elCInt {k:Int→Bool} {M:Const→Prop} {e:Const} (h:onCInt k e=true) (j:∀ x,k x=true→M (.int x)):M e:=
 if q:e.ctorIdx=2 then Const.int.elim (motive:=fun e=>onCInt k e=true→M e) e q j h else absurd h (fun z=>Bool.false_ne_true ((dif_neg q).symm.trans z))
noncomputable def onCStr (k:Str→Bool) (e:Const):Bool:=if h:e.ctorIdx=5 then Const.str.elim (motive:=fun _=>Bool) e h k else false
theorem elCStr {k:Str→Bool} {M:Const→Prop} {e:Const} (h:onCStr k e=true) (j:∀ x,k x=true→M (.str x)):M e:=
 if q:e.ctorIdx=5 then Const.str.elim (motive:=fun e=>onCStr k e=true→M e) e q j h else absurd h (fun z=>Bool.false_ne_true ((dif_neg q).symm.trans z))
noncomputable def on1 {α:Type} (k:α→Bool):List α→Bool
 | []=>false
 | x :: l=>l.isEmpty && k x
theorem b2 {a b:Bool} {G:Prop} (h:(a && b)=true) (k:a=true→b=true→G):G:=And.elim k (Bool.and_eq_true_iff.mp h)
theorem b3 {a0 a1 a2:Bool} {G:Prop} (h:(a0 && (a1 && a2))=true) (k:a0=true→a1=true→a2=true→G):G:=b2 h fun p h=>b2 h (k p)
theorem b4 {a0 a1 a2 a3:Bool} {G:Prop} (h:(a0 && (a1 && (a2 && a3)))=true) (k:a0=true→a1=true→a2=true→a3=true→G):G:=b2 h fun p h=>b3 h (k p)
theorem b5 {a0 a1 a2 a3 a4:Bool} {G:Prop} (h:(a0 && (a1 && (a2 && (a3 && a4))))=true) (k:a0=true→a1=true→a2=true→a3=true→a4=true→G):G:=b2 h fun p h=>b4 h (k p)
theorem b6 {a0 a1 a2 a3 a4 a5:Bool} {G:Prop} (h:(a0 && (a1 && (a2 && (a3 && (a4 && a5)))))=true) (k:a0=true→a1=true→a2=true→a3=true→a4=true→a5=true→G):G:=b2 h fun p h=>b5 h (k p)
theorem b7 {a0 a1 a2 a3 a4 a5 a6:Bool} {G:Prop} (h:(a0 && (a1 && (a2 && (a3 && (a4 && (a5 && a6))))))=true) (k:a0=true→a1=true→a2=true→a3=true→a4=true→a5=true→a6=true→G):G:=b2 h fun p h=>b6 h (k p)
theorem b8 {a0 a1 a2 a3 a4 a5 a6 a7:Bool} {G:Prop} (h:(a0 && (a1 && (a2 && (a3 && (a4 && (a5 && (a6 && a7)))))))=true) (k:a0=true→a1=true→a2=true→a3=true→a4=true→a5=true→a6=true→a7=true→G):G:=b2 h fun p h=>b7 h (k p)
theorem b20 {a0 a1 a2 a3 a4 a5 a6 a7 a8 a9 a10 a11 a12 a13 a14 a15 a16 a17 a18 a19:Bool} {G:Prop} (h:(a0 && (a1 && (a2 && (a3 && (a4 && (a5 && (a6 && (a7 && (a8 && (a9 && (a10 && (a11 && (a12 && (a13 && (a14 && (a15 && (a16 && (a17 && (a18 && a19)))))))))))))))))))=true) (k:a0=true→a1=true→a2=true→a3=true→a4=true→a5=true→a6=true→a7=true→a8=true→a9=true→a10=true→a11=true→a12=true→a13=true→a14=true→a15=true→a16=true→a17=true→a18=true→a19=true→G):G:=b8 h fun p0 p1 p2 p3 p4 p5 p6 h=>b8 h fun q0 q1 q2 q3 q4 q5 q6 h=>b6 h (k p0 p1 p2 p3 p4 p5 p6 q0 q1 q2 q3 q4 q5 q6)
theorem bb {a b:Bool} (h:(a && b)=true):a=true∧b=true:=Bool.and_eq_true_iff.mp h
theorem oo {a b:Bool} (h:(a || b)=true):a=true∨b=true:=Bool.or_eq_true_iff.mp h
theorem dd {p:Prop} {i:Decidable p} (h:@decide p i=true):p:=@of_decide_eq_true p i h
theorem nil_of {α:Type} {l:List α} (h:l.isEmpty=true):l=[]:=List.isEmpty_iff.mp h
theorem el1 {α:Type} {k:α→Bool} {M:List α→Prop} {l:List α} (h:on1 k l=true) (j:∀ x,k x=true→M [x]):M l:=by
 cases l with
 | nil=>exact noF h
 | cons x l=>refine b2 h fun h1 h2=>?_; refine (nil_of h1)▸?_; exact j x h2
noncomputable def onS {α:Type} (k:α→Bool):Option α→Bool
 | none=>false
 | some x=>k x
theorem elS {α:Type} {k:α→Bool} {M:Option α→Prop} {o:Option α} (h:onS k o=true) (j:∀ x,k x=true→M (some x)):M o:=by
 cases o with
 | none=>exact noF h
 | some x=>exact j x h
theorem inS {α:Type} {k:α→Bool} {o:Option α} (h:onS k o=true):∃ x,o=some x∧k x=true:=elS (M:=fun o=>∃ x,o=some x∧k x=true) h fun x h=>⟨x,rfl,h⟩
noncomputable def chkC:V→Const→Bool
 | .none,k=>decide (k = .none)
 | .bool b,k=>onCBool (fun a=>a == b) k
 | .int i,k=>onCInt (fun j=>decide (j=i)) k
 | .str l,k=>onCStr (fun x=>decide (x.cps.toList=l)) k
 | _,_=>false
noncomputable def notDebug (x:Str):Bool:=!(x == ("__debug__":Str))
noncomputable def isGlob (G:Ctx) (x:Str):Bool:=G.scope.names.lookup x == some .globalImplicit && notDebug x
noncomputable def slotB (G:Ctx) (x:Str) (i:Nat):Bool:=G.names[i]? == some (some x) && (slotKind G x && notDebug x)
noncomputable def storeB (G:Ctx) (x:Str) (i:Nat):Bool:=G.names[i]? == some (some x) && storeKind G x
noncomputable def globB (K:Frag) (G:Ctx) (x:Str) (v:V):Bool:=isGlob G x && onS (onS fun u=>chkV K 5 u v) (nsIn K mainGlobals x)
noncomputable def refB (K:Frag) (x:Str) (a:Addr):Bool:=nsIn K mainGlobals x == some (some (.ref a)) && keepIn K (.ref a)
noncomputable def fnB (K:Frag) (Z:Stat) (G:Ctx) (x:Str) (f:Nat):Bool:=isGlob G x && onS (refB K x) Z.fn[f]?
noncomputable def init2 (K:Frag) (C a:Addr):Bool:=findIn K (.ref C) "__init__" == some (some (.ref a)) && typeIn K (.ref a) == some (.type "function")
noncomputable def init1 (K:Frag) (Z:Stat) (C:Addr) (f:Nat):Bool:=onS (init2 K C) Z.fn[f]?
noncomputable def initB (K:Frag) (Z:Stat) (C:Addr) (p:Option Nat):Bool:=(p.isNone && findIn K (.ref C) "__init__" == some (some (.builtin "object.__init__"))) || onS (init1 K Z C) p
noncomputable def clsB (K:Frag) (Z:Stat) (G:Ctx) (x:Str) (i:Nat) (Pi:Nat→Option (Option Nat)):Bool:=isGlob G x && onS (fun C=>refB K x C && (makesIn K C && onS (initB K Z C) (Pi i))) Z.cls[i]?
noncomputable def bltB (K:Frag) (G:Ctx) (x:Str) (u:Value):Bool:=isGlob G x && (nsIn K mainGlobals x == some none && (!(x == ("__name__":Str)) && bootBuiltins x == some u))
noncomputable def methNames:List Str:=["append","extend","pop","get","split","join","","","","","text","block","breaks"]
noncomputable def methName (m:Nat):Str:=methNames.getD m ""
theorem methName_big {m:Nat} (h:13≤m):methName m="":=by unfold methName; rw [List.getD_eq_getElem?_getD,List.getElem?_eq_none h]; rfl
noncomputable def isI (v:V):Value→Bool
 | .int i _=>@decide (v = .int i) (V.decEq _ _)
 | _=>false
noncomputable def kS:List V→List (Option Expr)→Bool
 | [],ks=>ks.isEmpty
 | v :: vs,ks=>match ks with
  | []=>false
  | k :: ks=>onS (onConstant fun c _ _=>onCStr (fun x=>@decide (v = .str x.cps.toList) (V.decEq _ _)) c) k && kS vs ks
noncomputable def kI1 (K:Frag) (G:Ctx) (v:V) (e:Expr):Bool:=onConstant (fun c _ _=>onCInt (fun i=>@decide (v = .int i) (V.decEq _ _)) c) e || onName (fun x _=>isGlob G x && onS (onS (isI v)) (nsIn K mainGlobals x)) e
noncomputable def kI (K:Frag) (G:Ctx):List V→List (Option Expr)→Bool
 | [],ks=>ks.isEmpty
 | v :: vs,ks=>match ks with
  | []=>false
  | k :: ks=>onS (kI1 K G v) k && kI K G vs ks
noncomputable def chkKeys (K:Frag) (G:Ctx) (ks:List V) (ks':List (Option Expr)):Bool:=
 !ks'.isEmpty && ((decide (ks'.length≤15) || (decide (18≤ks'.length) && decide (ks'.length≤32))) && (@decide ks.Nodup (V.decN ks) && (kS ks ks' || kI K G ks ks')))
noncomputable def cStr (l:Txt):Expr→Bool:=onConstant fun c _ _=>onCStr (fun x=>decide (x.cps.toList=l)) c
noncomputable def replB (a b:Txt) (as:List Expr):Bool:=match as with
 | []=>false
 | x :: l=>cStr a x && on1 (cStr b) l
section
variable (K:Frag) (Z:Stat) (Pi:Nat→Option (Option Nat))
noncomputable def chkConst (G:Ctx) (v:V) (e:Expr):Bool:=onConstant (fun k _ _=>chkC v k) e ||
 (onUnaryOp (fun op x _=>decide (op = .USub) && onConstant (fun k _ _=>onCInt (fun i=>@decide (v = .int (-i)) (V.decEq _ _)) k) x) e || onName (fun x _=>globB K G x v) e)
noncomputable def onComp (k:Expr→Expr→Bool):List Comprehension→Bool:=on1 fun g=>g.ifs.isEmpty && (decide (g.is_async=0) && k g.target g.iter)
mutual
noncomputable def chkE:E→Ctx→Expr→Bool
 | .c v,G,e=>chkConst K G v e
 | .x i,G,e=>onName (fun x _=>slotB G x i) e
 | .bin o a b,G,e=>onBinOp (fun l op r _=>decide (op=opOf o) && (chkE a G l && chkE b G r)) e
 | .cmp o a b,G,e=>onCompare (fun l ops rs _=>decide (ops=[coOf o]) && on1 (fun r=>!(behindInMarks (coOf o) r) && (chkE a G l && chkE b G r)) rs) e
 | .not _,_,_=>true
 | .and _,_,_=>true
 | .or _,_,_=>true
 | .tst _,_,_=>true
 | .ite t a b,G,e=>onIfExp (fun t' a' b' _=>chkT t G t' && (chkE a G a' && chkE b G b')) e
 | .call f args,G,e=>onCall (fun fe as ks _=>ks.isEmpty && (as.all notStar && (chkEs args G as && onName (fun x _=>fnB K Z G x f) fe))) e
 | .new i args,G,e=>onCall (fun fe as ks _=>ks.isEmpty && (as.all notStar && (chkEs args G as && onName (fun x _=>clsB K Z G x i Pi) fe))) e
 | .meth o m args,G,e=>onCall (fun fe as ks pos=>ks.isEmpty && (as.all notStar && (chkEs args G as && ((decide (m<6) || decide (10≤m)) && (decide (as.length<30) && onAttribute (fun o' name apos=>name == methName m && (plainBase o' && (apos.endLine == pos.line && chkE o G o'))) fe))))) e
 | .repl o a b,G,e=>onCall (fun fe as ks pos=>ks.isEmpty && onAttribute (fun o' name apos=>name == ("replace":Str) && (plainBase o' && (apos.endLine == pos.line && (replB a b as && chkE o G o')))) fe) e
 | .len a,G,e=>onCall (fun fe as ks _=>ks.isEmpty && (onName (fun x _=>bltB K G x (.builtin "len")) fe && on1 (fun a'=>notStar a' && chkE a G a') as)) e
 | .attr o k,G,e=>onAttribute (fun o' name _=>attrN[k]? == some name && (plainBase o' && chkE o G o')) e
 | .idx o i,G,e=>onSubscript (fun o' i' _=>plainSub i' && (chkE o G o' && chkE i G i')) e
 | .slc o lo hi,G,e=>onSubscript (fun o' s _=>chkE o G o' && onSlice (fun lo' hi' st _=>st.isNone && (chkO lo G lo' && chkO hi G hi')) s) e
 | .list _ es,G,e=>onList (fun es' _=>es'.all notStar && chkEs es G es') e
 | .tup es,G,e=>onTuple (fun es' _ _=>es'.all notStar && chkEs es G es') e
 | .dict ks vs,G,e=>onDict (fun ks' vs' _=>chkEs vs G vs' && ((ks.isEmpty && (vs.isEmpty && (ks'.isEmpty && vs'.isEmpty))) || (chkKeys K G ks ks' && decide (ks'.length=vs'.length)))) e
 | .comp _ i it elt,G,e=>onListComp (fun elt' gs scope _=>onComp (fun t it'=>notSet it' && (chkE it G it' && onName (fun x _=>compB G scope x i && chkE elt (compCtx G scope x i) elt') t)) gs) e
 | .compR _ i n elt,G,e=>onListComp (fun elt' gs scope _=>onComp (fun t it'=>onCall (fun fe as ks _=>ks.isEmpty && (onName (fun y _=>bltB K G y (.type "range")) fe && on1 (fun n'=>notStar n' && chkE n G n') as)) it' &&
   onName (fun x _=>compB G scope x i && chkE elt (compCtx G scope x i) elt') t) gs) e
 | .frz e',G,e=>chkE e' G e
 | .fail,_,_=>true
noncomputable def chkEs:List E→Ctx→List Expr→Bool
 | [],_,es=>es.isEmpty
 | e :: es,G,es'=>match es' with
  | []=>false
  | e' :: es'=>chkE e G e' && chkEs es G es'
noncomputable def chkO:Option E→Ctx→Option Expr→Bool
 | none,_,e=>e.isNone
 | some m,G,e=>onS (fun e=>chkE m G e) e
noncomputable def chkT:E→Ctx→Expr→Bool
 | .not a,G,e=>onUnaryOp (fun op x _=>decide (op = .Not) && chkT a G x) e
 | .and l,G,e=>onBoolOp (fun op xs _=>decide (op = .And) && chkTs l G xs) e
 | .or l,G,e=>onBoolOp (fun op xs _=>decide (op = .Or) && chkTs l G xs) e
 | .cmp o a b,G,e=>onCompare (fun l ops rs _=>decide (ops=[coOf o]) && on1 (fun r=>!(behindInMarks (coOf o) r) && (chkE a G l && chkE b G r)) rs) e
 | .tst a,G,e=>valueTest e && chkE a G e
 | _,_,_=>true
noncomputable def chkTs:List E→Ctx→List Expr→Bool
 | [],_,es=>es.isEmpty
 | e :: es,G,es'=>match es' with
  | []=>false
  | e' :: es'=>chkT e G e' && chkTs es G es'
end
end
end
section
structure Env0 (c:Cx) (P:Prog) (C:Callee) (d:Nat):Prop where
 call:CallOk c d C
 cls:c.Cls
 sm:∃ o,c.hb.get? sysModules=some o
 low:∀ m,m<10→∀ i,P.meth i m=none
 high:∀ m,10≤m→MethOk c P.meth m (methName m)
section
variable {c:Cx} {P:Prog} {C:Callee} {d:Nat} {G:Ctx} {RA:Around→Prop}
theorem SE_never {e:Expr} {f:Loc→St→Option (V×St)} (h:∀ ρ σ,f ρ σ=none):SE c G RA e f:=
 fun U A env ρ am σ v σ' s Q rA h0 I F e' P=>absurd ((h ρ σ).symm.trans e') (fun z=>nomatch z)
theorem STt_never {e:Expr} {f:Loc→St→Option (Bool×St)} (h:∀ ρ σ,f ρ σ=none):STt c G RA e f:=
 fun U A env ρ am σ v σ' s Q rA h0 I F e' P=>absurd ((h ρ σ).symm.trans e') (fun z=>nomatch z)
theorem chkC_ok {k:Const} {n:Nat} {pos:Pos}:∀ {v:V},chkC v k=true→SE c G RA (.Constant k n pos) fun _ σ=>some (v,σ)
 | .none,h=>by refine (dd h)▸?_; exact SE.none
 | .bool b,h=>elCBool (M:=fun k=>SE c G RA (.Constant k n pos) _) h fun a h=>by refine (beq_iff_eq.mp h)▸?_; exact SE.bool
 | .int i,h=>elCInt (M:=fun k=>SE c G RA (.Constant k n pos) _) h fun a h=>by refine (dd h)▸?_; exact SE.int
 | .str l,h=>elCStr (M:=fun k=>SE c G RA (.Constant k n pos) _) h fun a h=>SE.str (dd h)
 | .list _,h | .tup _,h | .obj _ _,h | .loc _,h=>nomatch h
theorem notDebug_ok {x:Str} (h:notDebug x=true):(x == ("__debug__":Str))=false:=(Bool.not_eq_true' _).mp h
theorem isGlob_ok {x:Str} (h:isGlob G x=true):G.scope.names.lookup x=some .globalImplicit∧(x == ("__debug__":Str))=false:=⟨beq_iff_eq.mp (bb h).1,notDebug_ok (bb h).2⟩
theorem chkConst_ok {v:V} {e:Expr} (h:chkConst c.K G v e=true):SE c G RA e fun _ σ=>some (v,σ):=by
 rcases oo h with h | h
 ·exact elConstant (M:=fun e=>SE c G RA e _) h fun k n p h=>chkC_ok h
 rcases oo h with h | h
 ·refine elUnaryOp (M:=fun e=>SE c G RA e _) h fun op x p h=>?_
  refine b2 h fun h1 h=>?_
  refine (dd h1)▸?_
  exact elConstant (M:=fun x=>SE c G RA (.UnaryOp .USub x p) _) h fun k n q h=>elCInt (M:=fun k=>SE c G RA (.UnaryOp .USub (.Constant k n q) p) _) h fun i h=>by refine (dd h)▸?_; exact SE_neg
 ·refine elName (M:=fun e=>SE c G RA e _) h fun x p h=>?_
  refine byC fun w4_=>?_
  refine b2 h fun h1 h2=>?_
  refine e1_2 (inS h2) fun u hu h2=>?_
  refine e1_2 (inS h2) fun w w2_ h2=>?_; subst w2_
  exact w4_ (SE.glob (isGlob_ok h1).1 (isGlob_ok h1).2 hu h2)
theorem slotB_ok {x:Str} {i:Nat} {pos:Pos} (h:slotB G x i=true):SE c G RA (.Name x pos) (evalE P C (.x i)):=
 SE.slot (beq_iff_eq.mp (bb h).1) (bb (bb h).2).1 (notDebug_ok (bb (bb h).2).2)
theorem refB_ok {x:Str} {a:Addr} (g:isGlob G x=true) (h:refB c.K x a=true):GlobName c G x a:=⟨(isGlob_ok g).1,(isGlob_ok g).2,beq_iff_eq.mp (bb h).1,(bb h).2⟩
theorem fnB_ok {x:Str} {f:Nat} (h:fnB c.K c.Z G x f=true):∃ a,c.Z.fn[f]?=some a∧GlobName c G x a:=
 let ⟨a,ha,h2⟩:=inS (bb h).2
 ⟨a,ha,refB_ok (bb h).1 h2⟩
theorem bltB_ok {x:Str} {u:Value} (h:bltB c.K G x u=true):BuiltinName c G x u:=
 ⟨(isGlob_ok (bb h).1).1,(isGlob_ok (bb h).1).2,beq_iff_eq.mp (bb (bb h).2).1,bne_iff_ne.mp (bb (bb (bb h).2).2).1,beq_iff_eq.mp (bb (bb (bb h).2).2).2⟩
theorem clsB_ok {x:Str} {i:Nat} {Pi:Nat→Option (Option Nat)} (h:clsB c.K c.Z G x i Pi=true) :
  ∃ C,ClsName c G x i C∧((Pi i=some none∧findIn c.K (.ref C) "__init__"=some (some (.builtin "object.__init__")))∨
  (∃ f a,Pi i=some (some f)∧findIn c.K (.ref C) "__init__"=some (some (.ref a))∧typeIn c.K (.ref a)=some (.type "function")∧c.Z.fn[f]?=some a)):=by
 refine byC fun w6_=>?_
 refine b2 h fun h1 h2=>?_
 refine e1_2 (inS h2) fun C hC h2=>?_
 refine b2 h2 fun h3 h2=>?_
 refine b2 h2 fun h4 h2=>?_
 refine e1_2 (inS h2) fun p hp h2=>?_
 refine w6_ ?_
 refine i1_2 C ⟨refB_ok h1 h3,hC,h4⟩ ?_
 rcases oo h2 with h2 | h2
 ·refine b2 h2 fun h2 h5=>?_
  rw [Option.isNone_iff_eq_none.mp h2] at hp
  exact .inl ⟨hp,beq_iff_eq.mp h5⟩
 ·refine byC fun w8_=>?_
  refine e1_2 (inS h2) fun f w5_ h6=>?_; subst w5_
  refine e1_2 (inS h6) fun a ha h7=>?_
  exact w8_ (.inr ⟨f,a,hp,beq_iff_eq.mp (bb h7).1,beq_iff_eq.mp (bb h7).2,ha⟩)
end
abbrev EF:=Loc→St→Option (V×St)
noncomputable def rowF (fs:List EF) (ρ:Loc):St→Option (List V×St):=fs.rec (fun σ=>some ([],σ)) fun f _ ih σ=>(f ρ σ).bind fun q=>(ih q.2).map fun r=>(q.1 :: r.1,r.2)
section
variable (c:Cx) (G:Ctx) (RA:Around→Prop)
inductive Row:List Expr→List EF→Prop
 | nil:Row [] []
 | cons {e:Expr} {es:List Expr} {f:EF} {fs:List EF}:SE c G RA e f→Row es fs→Row (e :: es) (f :: fs)
end
section
variable {c:Cx} {G:Ctx} {RA:Around→Prop} {P:Prog} {C:Callee}
theorem evalEs_row (es:List E) (ρ:Loc):∀ σ:St,evalEs P C es ρ σ=rowF (es.map (evalE P C)) ρ σ:=
 es.rec (fun _=>rfl) fun e _ ih σ=>congrArg (Option.bind (evalE P C e ρ σ)) (funext fun q=>congrArg (Option.map _) (ih q.2))
theorem Row.SEs {es:List Expr} {fs:List EF} (h:Row c G RA es fs):es.all notStar=true→SEs c G RA es fun ρ σ=>rowF fs ρ σ:=
 h.rec (motive:=fun es fs _=>es.all notStar=true→Mini.SEs c G RA es fun ρ σ=>rowF fs ρ σ) (fun _=>SEs.nil) fun h _ ih hs=>SEs.cons (Bool.and_eq_true_iff.mp hs).1 h (ih (Bool.and_eq_true_iff.mp hs).2)
theorem Row.split {es:List Expr} {fs:List EF} (h:Row c G RA es fs):∀ n:Nat,Row c G RA (es.take n) (fs.take n)∧Row c G RA (es.drop n) (fs.drop n):=
 h.rec (motive:=fun es fs _=>∀ n:Nat,Row c G RA (es.take n) (fs.take n)∧Row c G RA (es.drop n) (fs.drop n)) (fun n=>n.casesOn ⟨.nil,.nil⟩ fun _=>⟨.nil,.nil⟩) fun h hs ih n=>n.casesOn ⟨.nil,.cons h hs⟩ fun n=>⟨.cons h (ih n).1,(ih n).2⟩
theorem row_asc (o:Option (V×St)) (A B:St→Option (List V×St)):(o.bind fun q=>((A q.2).bind fun p=>(B p.2).map fun r=>(p.1++r.1,r.2)).map fun r=>(q.1 :: r.1,r.2))=(o.bind fun q=>(A q.2).map fun r=>(q.1 :: r.1,r.2)).bind fun p=>(B p.2).map fun r=>(p.1++r.1,r.2):=by
 cases o with
 | none=>rfl
 | some q=>
  show Option.map _ (Option.bind (A q.2) _)=Option.bind (Option.map _ (A q.2)) _
  cases A q.2 with
  | none=>rfl
  | some p=>
   show Option.map _ (Option.map _ (B p.2))=Option.map _ (B p.2)
   cases B p.2 <;> rfl
theorem rowF_append (a b:List EF) (ρ:Loc):∀ σ:St,rowF (a++b) ρ σ=(rowF a ρ σ).bind fun (w1,σ₁)=>(rowF b ρ σ₁).map fun (w2,σ₂)=>(w1++w2,σ₂):=
 a.rec (fun σ=>(by show rowF b ρ σ=Option.map _ (rowF b ρ σ); cases rowF b ρ σ <;> rfl)) fun f a ih σ=>(congrArg (Option.bind (f ρ σ)) (funext fun q=>congrArg (Option.map _) (ih q.2))).trans (row_asc (f ρ σ) (rowF a ρ) (rowF b ρ))
variable {K:Type} [DecidableEq K]
inductive LitKeys (G:Ctx) (knd:KeyKind c.prog c.w K):List (Option Expr)→List K→Prop
 | nil:LitKeys G knd [] []
 | cons {e:Expr} {es:List (Option Expr)} {k:K} {ks:List K}:LitKey c G knd e k→LitKeys G knd es ks→LitKeys G knd (some e :: es) (k :: ks)
theorem LitKeys.length {knd:KeyKind c.prog c.w K} {es:List (Option Expr)} {kk:List K} (h:LitKeys G knd es kk):kk.length=es.length:=h.rec (motive:=fun (es:List (Option Expr)) (kk:List K) _=>kk.length=es.length) rfl fun _ _ ih=>congrArg (·+1) ih
theorem LitKeys.all {knd:KeyKind c.prog c.w K} {es:List (Option Expr)} {kk:List K} (h:LitKeys G knd es kk):es.all (·.isSome)=true:=h.rec (motive:=fun (es:List (Option Expr)) (_:List K) _=>es.all (·.isSome)=true) rfl fun _ _ ih=>ih
theorem LitKeys.split {knd:KeyKind c.prog c.w K} {es:List (Option Expr)} {kk:List K} (h:LitKeys G knd es kk):∀ n:Nat,LitKeys G knd (es.take n) (kk.take n)∧LitKeys G knd (es.drop n) (kk.drop n):=
 h.rec (motive:=fun (es:List (Option Expr)) (kk:List K) _=>∀ n:Nat,LitKeys G knd (es.take n) (kk.take n)∧LitKeys G knd (es.drop n) (kk.drop n)) (fun n=>n.casesOn ⟨.nil,.nil⟩ fun _=>⟨.nil,.nil⟩) fun h hs ih n=>n.casesOn ⟨.nil,.cons h hs⟩ fun n=>⟨.cons h (ih n).1,(ih n).2⟩
theorem Row.SPs {knd:KeyKind c.prog c.w K} {ks:List (Option Expr)} {kk:List K} (hk:LitKeys G knd ks kk):∀ {es:List Expr} {fs:List EF},Row c G RA es fs→ks.length=es.length→SPs c G RA knd ks es kk fun ρ σ=>rowF fs ρ σ:=by
 induction hk with
 | nil=>exact fun h hl=>h.casesOn (motive:=fun es fs _=>[].length=es.length→Mini.SPs c G RA knd [] es [] fun ρ σ=>rowF fs ρ σ) (fun _=>SPs_nil) (fun _ _ h=>nomatch h) hl
 | cons h1 _ ih=>exact fun h hl=>h.casesOn (motive:=fun es fs _=>(_ :: _).length=es.length→Mini.SPs c G RA knd (_ :: _) es (_ :: _) fun ρ σ=>rowF fs ρ σ) (fun h=>nomatch h) (fun h hs hl=>SPs_cons h1 h (ih hs (Nat.succ.inj hl))) hl
theorem Row.SPd {knd:KeyKind c.prog c.w K} {ks:List (Option Expr)} {kk:List K} (hk:LitKeys G knd ks kk):∀ {es:List Expr} {fs:List EF},Row c G RA es fs→ks.length=es.length→SPd c G RA knd ks es kk fun ρ σ=>rowF fs ρ σ:=by
 induction hk with
 | nil=>exact fun h hl=>h.casesOn (motive:=fun es fs _=>[].length=es.length→Mini.SPd c G RA knd [] es [] fun ρ σ=>rowF fs ρ σ) (fun _=>SPd_nil) (fun _ _ h=>nomatch h) hl
 | cons h1 _ ih=>exact fun h hl=>h.casesOn (motive:=fun es fs _=>(_ :: _).length=es.length→Mini.SPd c G RA knd (_ :: _) es (_ :: _) fun ρ σ=>rowF fs ρ σ) (fun h=>nomatch h) (fun h hs hl=>SPd_cons h1 h (ih hs (Nat.succ.inj hl))) hl
theorem kS_ok:∀ {vs:List V} {ks:List (Option Expr)},kS vs ks=true→∃ kk,LitKeys (c:=c) G (PySem.strKind c.prog c.w) ks kk∧vs=kk.map encS
 | [],ks,h=>by refine (nil_of h)▸?_; exact i1_2 ([]) .nil rfl
 | v :: vs,[],h=>nomatch h
 | v :: vs,k :: ks,h=>by
  refine b2 h fun h1 h2=>?_
  refine e1_2 (kS_ok h2) fun kk g1 g2=>?_
  refine e1_2 (inS h1) fun e w11_ h1=>?_; subst w11_
  exact elConstant (M:=fun e=>∃ kk,LitKeys (c:=c) G (PySem.strKind c.prog c.w) (some e :: ks) kk∧v :: vs=kk.map encS) h1 fun k n p h1=>
   elCStr (M:=fun k=>∃ kk,LitKeys (c:=c) G (PySem.strKind c.prog c.w) (some (.Constant k n p) :: ks) kk∧v :: vs=kk.map encS) h1 fun x h1=>⟨x :: kk,.cons litStr g1,by refine (dd h1)▸g2▸?_; rfl⟩
theorem isI_ok {v:V} {u:Value} (h:isI v u=true):∃ i t,u = .int i t∧v = .int i:=by
 cases u <;> first | exact ⟨_,_,rfl,dd h⟩ | exact noF h
theorem kI1_ok {v:V} {e:Expr} (h:kI1 c.K G v e=true):∃ i,LitKey c G (intKind c.prog c.w) e i∧v = .int i:=by
 rcases oo h with h | h
 ·exact elConstant (M:=fun e=>∃ i,LitKey c G (intKind c.prog c.w) e i∧v = .int i) h fun k n p h=>elCInt (M:=fun k=>∃ i,LitKey c G (intKind c.prog c.w) (.Constant k n p) i∧v = .int i) h fun i h=>⟨i,litInt,dd h⟩
 ·refine elName (M:=fun e=>∃ i,LitKey c G (intKind c.prog c.w) e i∧v = .int i) h fun x p h=>?_
  refine byC fun w15_=>?_
  refine b2 h fun h1 h2=>?_
  refine e1_2 (inS h2) fun u hu h2=>?_
  refine e1_2 (inS h2) fun w w13_ h2=>?_; subst w13_
  refine e2_2 (isI_ok h2) fun i t w14_ hi=>?_; subst w14_
  exact w15_ (⟨i,litGlob (isGlob_ok h1).1 (isGlob_ok h1).2 hu,hi⟩)
theorem kI_ok:∀ {vs:List V} {ks:List (Option Expr)},kI c.K G vs ks=true→∃ kk,LitKeys (c:=c) G (intKind c.prog c.w) ks kk∧vs=kk.map encI
 | [],ks,h=>by refine (nil_of h)▸?_; exact i1_2 ([]) .nil rfl
 | v :: vs,[],h=>nomatch h
 | v :: vs,k :: ks,h=>by
  refine byC fun w17_=>?_
  refine b2 h fun h1 h2=>?_
  refine e1_2 (kI_ok h2) fun kk g1 g2=>?_
  refine e1_2 (inS h1) fun e w16_ h1=>?_; subst w16_
  refine e1_2 (kI1_ok h1) fun i a b=>?_
  exact w17_ (⟨i :: kk,.cons a g1,by refine b▸g2▸?_; rfl⟩)
theorem Row.dict {knd:KeyKind c.prog c.w K} {enc:K→V} (hsm:∃ o,c.hb.get? sysModules=some o) (hor:∀ {F:Addr→Obj→Prop} {am:List Addr} {n:Nat} {o:Obj} {kv:List (V×V)},DR knd enc c.Z F am o kv→OR c.prog c.w c.Z F am n o (.dict kv))
  {es:List Expr} {fs:List EF} {ks:List (Option Expr)} {kk:List K} {pos:Pos} (h:Row c G RA es fs) (hk:LitKeys G knd ks kk) (hl:ks.length=es.length) (h0:ks≠[]) (hn:ks.length≤15∨(18≤ks.length∧ks.length≤32)) (nod:kk.Nodup) :
  SE c G RA (.Dict ks es pos) fun ρ σ=>(rowF fs ρ σ).bind fun (vv,σ₁)=>if (kk.map enc).length=vv.length∧(kk.map enc).length<1000 then some (.loc σ₁.length,σ₁++[.dict ((kk.map enc).zip vv)]) else none:=by
 rcases hn with hn | ⟨hn,hm⟩
 ·exact SE_dict hor hk.all hl h0 hn nod (Row.SPs hk h hl)
 ·refine byC fun w18_=>?_
  refine e0_2 (h.split 17) fun r1 r2=>?_
  refine e0_2 (hk.split 17) fun k1 k2=>?_
  have lk:kk.length=ks.length:=hk.length
  have a1:(ks.take 17).length=(es.take 17).length:=by rw [List.length_take,List.length_take,hl]
  have a2:(ks.drop 17).length=(es.drop 17).length:=by rw [List.length_drop,List.length_drop,hl]
  have:=SE_dictLong (pos:=pos) hsm hor k1.all k2.all a1 a2 (by rw [List.length_take]; omega) (by rw [List.length_take]; omega) k2.length
   (fun z=>by have:=congrArg List.length z; rw [List.length_drop] at this; simp at this; omega) (by rw [List.length_drop]; omega) (by rw [List.take_append_drop]; exact nod) (Row.SPd k1 r1 a1) (Row.SPs k2 r2 a2)
  rw [List.take_append_drop,List.take_append_drop,List.take_append_drop] at this
  refine w18_ ?_
  refine this.weaken fun ρ σ v σ' q=>?_
  rw [← List.take_append_drop 17 fs,rowF_append] at q
  exact q
end
end
section
theorem nodup_of_map {α β:Type} (f:α→β):∀ {l:List α},(l.map f).Nodup→l.Nodup
 | [],_=>.nil
 | x :: l,h=>by
  rw [List.map_cons,List.nodup_cons] at h
  exact List.nodup_cons.mpr ⟨fun q=>h.1 (List.mem_map_of_mem q),nodup_of_map f h.2⟩
section
variable (c:Cx) (P:Prog) (C:Callee) (d:Nat)
def PE (m:E):Prop:=(∀ G e,chkE c.K c.Z P.init m G e=true→SE c G (RoomB d) e (evalE P C m))∧(∀ G e,chkT c.K c.Z P.init m G e=true→STt c G (RoomB d) e (evalT P C m))
def PEs (ms:List E):Prop:=(∀ G es,chkEs c.K c.Z P.init ms G es=true→Row c G (RoomB d) es (ms.map (evalE P C)))∧
 (∀ G es,chkTs c.K c.Z P.init ms G es=true→SAll c G (RoomB d) .And es (evalAnd P C ms)∧SAll c G (RoomB d) .Or es (evalOr P C ms))
def PO (m:Option E):Prop:=∀ G e,chkO c.K c.Z P.init m G e=true→SO c G (RoomB d) e (evalO P C m)
end
section
variable {c:Cx} {P:Prog} {C:Callee} {d:Nat}
theorem PE.of {m:E} (h:∀ G e,chkE c.K c.Z P.init m G e=true→SE c G (RoomB d) e (evalE P C m)) (hn:∀ ρ σ,evalT P C m ρ σ=none):PE c P C d m:=⟨h,fun G e _=>STt_never hn⟩
theorem PE.ofT {m:E} (h:∀ G e,chkT c.K c.Z P.init m G e=true→STt c G (RoomB d) e (evalT P C m)) (hn:∀ ρ σ,evalE P C m ρ σ=none):PE c P C d m:=⟨fun G e _=>SE_never hn,h⟩
theorem PEs.args {ms:List E} (h:PEs c P C d ms) {G:Ctx} {es:List Expr} (hs:es.all notStar=true) (k:chkEs c.K c.Z P.init ms G es=true):SEs c G (RoomB d) es (evalEs P C ms):=by
 refine (show evalEs P C ms=rowF (ms.map (evalE P C)) from funext fun _=>funext fun _=>evalEs_row _ _ _)▸?_
 exact (h.1 G es k).SEs hs
theorem bms_of {m:Nat} (h:m<6):BMs m (methName m):=
 Nat.casesOn (motive:=fun m=>m<6→BMs m (methName m)) m (fun _=>.append) (fun m=>Nat.casesOn (motive:=fun m=>m+1<6→BMs (m+1) (methName (m+1))) m (fun _=>.extend) (fun m=>Nat.casesOn (motive:=fun m=>m+2<6→BMs (m+2) (methName (m+2))) m (fun _=>.pop) (fun m=>Nat.casesOn (motive:=fun m=>m+3<6→BMs (m+3) (methName (m+3))) m (fun _=>.get) (fun m=>Nat.casesOn (motive:=fun m=>m+4<6→BMs (m+4) (methName (m+4))) m (fun _=>.split) (fun m=>Nat.casesOn (motive:=fun m=>m+5<6→BMs (m+5) (methName (m+5))) m (fun _=>.join) (fun m h=>absurd h (Nat.not_lt.mpr (Nat.le_add_left 6 m)))))))) h
theorem meth_ok (V0:Env0 c P C d) {G:Ctx} {o:Expr} {name:Str} {m:Nat} {apos pos:Pos} {args:List Expr} {mo:E} {ms:List E} (hm:(decide (m<6) || decide (10≤m))=true) (hn:name=methName m) (hb:plainBase o=true) (hs:args.all notStar=true) (hl:args.length<30)
  (hline:(apos.endLine == pos.line)=true) (ho:SE c G (RoomB d) o (evalE P C mo)) (ha:SEs c G (RoomB d) args (evalEs P C ms)):SE c G (RoomB d) (.Call (.Attribute o name apos) args [] pos) (evalE P C (.meth mo m ms)):=by
 subst hn
 rcases oo hm with q | q
 ·have hm6:=dd q
  exact SE_methB V0.sm (V0.low m (Nat.lt_of_lt_of_le hm6 (Nat.le_of_ble_eq_true rfl))) hb hs hl hline ho ha (bms_of hm6)
 ·exact SE_methU V0.call (V0.high m (dd q)) hb hs hl hline ho ha
theorem ok_cmp {o:CO} {a b:E} (ha:PE c P C d a) (hb:PE c P C d b):PE c P C d (.cmp o a b):=by
 refine ⟨fun G e h=>elCompare (M:=fun e=>SE c G (RoomB d) e _) h fun l ops rs p h=>?_,fun G e h=>elCompare (M:=fun e=>STt c G (RoomB d) e _) h fun l ops rs p h=>?_⟩
 all_goals
  refine b2 h fun h1 h=>?_
  refine (dd h1)▸?_
 ·refine el1 (M:=fun rs=>SE c G (RoomB d) (.Compare l _ rs p) _) h fun r h=>?_
  refine b2 h fun h2 h=>?_
  exact SE.cmp RoomB.e (ha.1 G l (bb h).1) (hb.1 G r (bb h).2) ((Bool.not_eq_true' _).mp h2)
 ·refine el1 (M:=fun rs=>STt c G (RoomB d) (.Compare l _ rs p) _) h fun r h=>?_
  refine b2 h fun h2 h=>?_
  exact STt.cmp RoomB.e (ha.1 G l (bb h).1) (hb.1 G r (bb h).2) ((Bool.not_eq_true' _).mp h2)
theorem ok_call (V0:Env0 c P C d) {f:Nat} {args:List E} (ha:PEs c P C d args):PE c P C d (.call f args):=.of (fun G e h=>elCall (M:=fun e=>SE c G (RoomB d) e _) h fun fe as ks p h=>by
 refine byC fun w8_=>?_
 refine b4 h fun h1 h2 h3 h=>?_
 refine w8_ ?_
 refine (nil_of h1)▸?_
 refine elName (M:=fun fe=>SE c G (RoomB d) (.Call fe as [] p) _) h fun x q h=>?_
 refine e1_2 (fnB_ok h) fun a z N=>?_
 exact SE_call V0.call N z h2 (ha.args h2 h3)) fun _ _=>rfl
theorem evalEs_fun (ms:List E):(fun ρ σ=>rowF (ms.map (evalE P C)) ρ σ)=evalEs P C ms:=funext fun _=>funext fun _=>(evalEs_row _ _ _).symm
theorem cons_no {o:Option (V×St)} {f:St→Option (List V×St)} {i:Nat}:((o.bind fun q=>(f q.2).map fun r=>(q.1 :: r.1,r.2)).bind fun q=>newF C (some none) i q.1 q.2)=none:=by
 refine o.rec rfl fun q=>?_
 show ((f q.2).map _).bind _=none
 exact (f q.2).rec rfl fun _=>rfl
theorem new0_ok {G:Ctx} {x:Str} {i:Nat} {K:Addr} {q p:Pos} {as:List Expr} {fs:List EF} (N:ClsName c G x i K) (hi:findIn c.K (.ref K) "__init__"=some (some (.builtin "object.__init__"))) (R:Row c G (RoomB d) as fs) :
  SE c G (RoomB d) (.Call (.Name x q) as [] p) fun ρ σ=>(rowF fs ρ σ).bind fun q=>newF C (some none) i q.1 q.2:=
 R.casesOn (motive:=fun as fs _=>SE c G (RoomB d) (.Call (.Name x q) as [] p) fun ρ σ=>(rowF fs ρ σ).bind fun q=>newF C (some none) i q.1 q.2) (SE_new0 N hi) fun _ _=>SE_never fun _ _=>cons_no
theorem ok_new (V0:Env0 c P C d) {i:Nat} {args:List E} (ha:PEs c P C d args):PE c P C d (.new i args):=.of (fun G e h=>elCall (M:=fun e=>SE c G (RoomB d) e _) h fun fe as ks p h=>by
 refine b4 h fun h1 h2 h3 h=>?_
 refine (nil_of h1)▸?_
 refine elName (M:=fun fe=>SE c G (RoomB d) (.Call fe as [] p) _) h fun x q h=>(clsB_ok h).elim fun K h=>h.2.elim (fun z=>?_) fun z=>z.elim fun f z=>z.elim fun a z=>?_
 ·exact (z.1.symm▸evalEs_fun args▸new0_ok h.1 z.2 (ha.1 G as h3):SE c G (RoomB d) (.Call (.Name x q) as [] p) fun ρ σ=>(evalEs P C args ρ σ).bind fun q=>newF C (P.init i) i q.1 q.2)
 ·exact (z.1.symm▸SE_new1 V0.call h.1 z.2.1 z.2.2.1 z.2.2.2 h2 (ha.args h2 h3):SE c G (RoomB d) (.Call (.Name x q) as [] p) fun ρ σ=>(evalEs P C args ρ σ).bind fun q=>newF C (P.init i) i q.1 q.2)) fun _ _=>rfl
theorem ok_meth (V0:Env0 c P C d) {o:E} {m:Nat} {args:List E} (ho:PE c P C d o) (ha:PEs c P C d args):PE c P C d (.meth o m args):=.of (fun G e h=>elCall (M:=fun e=>SE c G (RoomB d) e _) h fun fe as ks p h=>by
 refine byC fun w14_=>?_
 refine b6 h fun h1 h2 h3 h4 h5 h=>?_
 refine w14_ ?_
 refine (nil_of h1)▸?_
 refine elAttribute (M:=fun fe=>SE c G (RoomB d) (.Call fe as [] p) _) h fun o' name q h=>?_
 refine byC fun w15_=>?_
 refine b3 h fun h6 h7 h=>?_
 refine w15_ ?_
 exact meth_ok V0 h4 (beq_iff_eq.mp h6) h7 h2 (dd h5) (bb h).1 (ho.1 G o' (bb h).2) (ha.args h2 h3)) fun _ _=>rfl
theorem cStr_ok {l:Txt} {M:Expr→Prop} {x:Expr} (h:cStr l x=true) (j:∀ s n p,s.cps.toList=l→M (.Constant (.str s) n p)):M x:=
 elConstant (M:=M) h fun k n p h=>elCStr (M:=fun k=>M (.Constant k n p)) h fun s h=>j s n p (dd h)
theorem ok_repl {o:E} {a b:Txt} (ho:PE c P C d o):PE c P C d (.repl o a b):=.of (fun G e h=>elCall (M:=fun e=>SE c G (RoomB d) e _) h fun fe as ks p h=>by
 refine b2 h fun h1 h=>?_
 refine (nil_of h1)▸?_
 refine elAttribute (M:=fun fe=>SE c G (RoomB d) (.Call fe as [] p) _) h fun o' name q h=>?_
 refine b5 h fun h6 h7 h8 h9 h0=>?_
 have ho':=ho.1 G o' h0
 refine (beq_iff_eq.mp h6)▸?_
 cases as with
 | nil=>exact noF h9
 | cons x l=>
  refine b2 h9 fun g1 g2=>?_
  refine el1 (M:=fun l=>SE c G (RoomB d) (.Call _ (x :: l) [] p) _) g2 fun y g2=>?_
  refine cStr_ok (M:=fun x=>SE c G (RoomB d) (.Call _ [x,y] [] p) _) g1 fun s n q1 g1=>?_
  refine cStr_ok (M:=fun y=>SE c G (RoomB d) (.Call _ [_,y] [] p) _) g2 fun s' n' q2 g2=>?_
  exact SE_repl g1 g2 h7 h8 ho') fun _ _=>rfl
theorem ok_len {a:E} (ha:PE c P C d a):PE c P C d (.len a):=.of (fun G e h=>elCall (M:=fun e=>SE c G (RoomB d) e _) h fun fe as ks p h=>by
 refine byC fun w19_=>?_
 refine b3 h fun h1 h2 h=>?_
 refine w19_ ?_
 refine (nil_of h1)▸?_
 refine elName (M:=fun fe=>SE c G (RoomB d) (.Call fe as [] p) _) h2 fun x q h2=>?_
 refine el1 (M:=fun as=>SE c G (RoomB d) (.Call _ as [] p) _) h fun y h=>?_
 exact SE_len (bltB_ok h2) (bb h).1 (ha.1 G y (bb h).2)) fun _ _=>rfl
theorem ok_slc {o:E} {lo hi:Option E} (ho:PE c P C d o) (hl:PO c P C d lo) (hh:PO c P C d hi):PE c P C d (.slc o lo hi):=.of (fun G e h=>elSubscript (M:=fun e=>SE c G (RoomB d) e _) h fun o' s p h=>by
 refine b2 h fun h1 h=>?_
 refine elSlice (M:=fun s=>SE c G (RoomB d) (.Subscript o' s p) _) h fun x y st q h=>?_
 refine b2 h fun h2 h=>?_
 refine (Option.isNone_iff_eq_none.mp h2)▸?_
 exact SE_slc (ho.1 G o' h1) (hl G x (bb h).1) (hh G y (bb h).2)) fun _ _=>rfl
theorem dict_fun {ks:List V} {vs:List E}:(fun ρ σ=>(rowF (vs.map (evalE P C)) ρ σ).bind fun (vv,σ₁)=>if ks.length=vv.length∧ks.length<1000 then some (V.loc σ₁.length,σ₁++[.dict (ks.zip vv)]) else none)=evalE P C (.dict ks vs):=
 congrArg (fun (f:Loc→St→Option (List V×St)) ρ σ=>(f ρ σ).bind fun (vv,σ₁)=>if ks.length=vv.length∧ks.length<1000 then some (V.loc σ₁.length,σ₁++[.dict (ks.zip vv)]) else none) (evalEs_fun vs)
theorem ok_dict (V0:Env0 c P C d) {ks:List V} {vs:List E} (hv:PEs c P C d vs):PE c P C d (.dict ks vs):=.of (fun G e h=>elDict (M:=fun e=>SE c G (RoomB d) e _) h fun ks' vs' pos h=>by
 refine b2 h fun h3 h=>?_
 rcases oo h with h | h
 ·refine b2 h fun g1 a1=>?_
  refine b2 a1 fun g2 a2=>?_
  refine b2 a2 fun g3 g4=>?_
  rw [nil_of g1,nil_of g2,nil_of g3,nil_of g4]
  exact SE_dict0
 refine b2 h fun h1 h2=>?_
 have hl:=dd h2
 have R:=hv.1 G vs' h3
 refine b2 h1 fun g1 h1=>?_
 refine b2 h1 fun g2 h1=>?_
 refine b2 h1 fun g3 g4=>?_
 have g0:ks'≠[]:=fun z=>by rw [z] at g1; exact noF g1
 have g2':ks'.length≤15∨(18≤ks'.length∧ks'.length≤32):=(oo g2).imp dd fun q=>⟨dd (bb q).1,dd (bb q).2⟩
 have nod:=dd g3
 rcases oo g4 with g4 | g4
 ·obtain ⟨kk,hk,rfl⟩:=kS_ok (c:=c) (G:=G) g4
  exact dict_fun▸R.dict (enc:=encS) V0.sm (fun d=>.inl d) hk hl g0 g2' (nodup_of_map _ nod)
 ·obtain ⟨kk,hk,rfl⟩:=kI_ok (c:=c) (G:=G) g4
  exact dict_fun▸R.dict (enc:=encI) V0.sm (fun d=>.inr d) hk hl g0 g2' (nodup_of_map _ nod)) fun _ _=>rfl
theorem comp_of {k:Expr→Expr→Bool} {M:List Comprehension→Prop} {gs:List Comprehension} (h:onComp k gs=true) (j:∀ t it,k t it=true→M [⟨t,it,[],0⟩]):M gs:=by
 refine el1 (M:=M) h fun g h=>?_
 refine b3 h fun h1 h2 h=>?_
 obtain ⟨t,it,ifs,as⟩:=g
 cases nil_of h1
 cases dd h2
 exact j t it h
theorem range_of {G:Ctx} {n:E} (hn:PE c P C d n) {it:Expr} (h:onCall (fun fe as ks _=>ks.isEmpty && (onName (fun y _=>bltB c.K G y (.type "range")) fe && on1 (fun n'=>notStar n' && chkE c.K c.Z P.init n G n') as)) it=true) {M:Expr→Prop}
  (j:∀ x p a q,SIt c G (RoomB d) (.Call (.Name x p) [a] [] q) (fun ρ σ=>(evalE P C n ρ σ).bind fun (v,σ₁)=>(rangeV v).map fun xs=>(xs,σ₁))→M (.Call (.Name x p) [a] [] q)):M it:=by
 refine elCall (M:=M) h fun fe as ks p h=>?_
 refine b2 h fun h1 h3=>?_
 refine b2 h3 fun h2 h4=>?_
 refine (nil_of h1)▸?_
 refine elName (M:=fun fe=>M (.Call fe as [] p)) h2 fun x q h2=>?_
 refine el1 (M:=fun as=>M (.Call _ as [] p)) h4 fun y h=>?_
 exact j _ _ _ _ (SIt_range RoomB.e (bltB_ok h2) (bb h).1 (hn.1 G y (bb h).2))
theorem bind_assoc3 {α β:Type} {o:Option (V×St)} {f:V→Option α} {g:α→St→Option β}:((o.bind fun (v,σ₁)=>(f v).map fun xs=>(xs,σ₁)).bind fun (xs,σ₁)=>g xs σ₁)=o.bind fun (v,σ₁)=>(f v).bind fun xs=>g xs σ₁:=by
 refine o.rec rfl fun p=>?_
 show ((f p.1).map _).bind _=(f p.1).bind _
 exact (f p.1).rec rfl fun _=>rfl
noncomputable def cmpF (m:Bool) (fe:EF) (i:Nat) (ρ:Loc) (xs:List V) (σ₁:St):Option (V×St):=if xs.length<1000000 then (mapL (fun v σ'=>fe (ρ.set i (some v)) σ') xs σ₁).map fun (ws,σ₂)=>newList m ws σ₂ else none
theorem comp_fun {m:Bool} {i:Nat} {it elt:E}:compF m i (fun ρ σ=>(evalE P C it ρ σ).bind fun (v,σ₁)=>(seqItems v).map fun xs=>(xs,σ₁)) (evalE P C elt)=evalE P C (.comp m i it elt):=funext fun ρ=>funext fun σ=>bind_assoc3 (o:=evalE P C it ρ σ) (f:=seqItems) (g:=cmpF m (evalE P C elt) i ρ)
theorem compR_fun {m:Bool} {i:Nat} {n elt:E}:compF m i (fun ρ σ=>(evalE P C n ρ σ).bind fun (v,σ₁)=>(rangeV v).map fun xs=>(xs,σ₁)) (evalE P C elt)=evalE P C (.compR m i n elt):=funext fun ρ=>funext fun σ=>bind_assoc3 (o:=evalE P C n ρ σ) (f:=rangeV) (g:=cmpF m (evalE P C elt) i ρ)
theorem ok_comp {m:Bool} {i:Nat} {it elt:E} (hi:PE c P C d it) (he:PE c P C d elt):PE c P C d (.comp m i it elt):=.of (fun G e h=>elListComp (M:=fun e=>SE c G (RoomB d) e _) h fun elt' gs scope pos h=>comp_of (M:=fun gs=>SE c G (RoomB d) (.ListComp elt' gs scope pos) _) h fun t it' h=>b3 h fun h1 h2 h=>
 elName (M:=fun t=>SE c G (RoomB d) (.ListComp elt' [⟨t,it',[],0⟩] scope pos) _) h fun x p h=>comp_fun▸SE_comp (m:=m) (compB_ok (bb h).1) h1 (SIt.seq RoomB.e (hi.1 G it' h2)) (he.1 _ elt' (bb h).2)) fun _ _=>rfl
theorem ok_compR {m:Bool} {i:Nat} {n elt:E} (hi:PE c P C d n) (he:PE c P C d elt):PE c P C d (.compR m i n elt):=.of (fun G e h=>elListComp (M:=fun e=>SE c G (RoomB d) e _) h fun elt' gs scope pos h=>comp_of (M:=fun gs=>SE c G (RoomB d) (.ListComp elt' gs scope pos) _) h fun t it' h=>b2 h fun h1 h=>
 range_of hi h1 (M:=fun it=>SE c G (RoomB d) (.ListComp elt' [⟨t,it,[],0⟩] scope pos) _) fun _ _ _ _ hr=>elName (M:=fun t=>SE c G (RoomB d) (.ListComp elt' [⟨t,_,[],0⟩] scope pos) _) h fun x p h=>compR_fun▸SE_comp (m:=m) (compB_ok (bb h).1) rfl hr (he.1 _ elt' (bb h).2)) fun _ _=>rfl
theorem ok_not {a:E} (ha:PE c P C d a):PE c P C d (.not a):=.ofT (fun G e h=>elUnaryOp (M:=fun e=>STt c G (RoomB d) e _) h fun op x p h=>by
 refine (dd (bb h).1)▸?_; exact STt.not (ha.2 G x (bb h).2)) fun _ _=>rfl
theorem ok_and {l:List E} (hl:PEs c P C d l):PE c P C d (.and l):=.ofT (fun G e h=>elBoolOp (M:=fun e=>STt c G (RoomB d) e _) h fun op xs p h=>by
 refine (dd (bb h).1)▸?_; exact STt.all (hl.2 G xs (bb h).2).1) fun _ _=>rfl
theorem ok_or {l:List E} (hl:PEs c P C d l):PE c P C d (.or l):=.ofT (fun G e h=>elBoolOp (M:=fun e=>STt c G (RoomB d) e _) h fun op xs p h=>by
 refine (dd (bb h).1)▸?_; exact STt.all (hl.2 G xs (bb h).2).2) fun _ _=>rfl
theorem ok_cons {m:E} {ms:List E} (h:PE c P C d m) (hs:PEs c P C d ms):PEs c P C d (m :: ms):=by
 refine ⟨fun G es k=>?_,fun G es k=>?_⟩
 all_goals cases es with
 | nil=>exact noF k
 | cons e es=>?_
 ·exact .cons (h.1 G e (bb k).1) (hs.1 G es (bb k).2)
 ·have a:=h.2 G e (bb k).1
  have b:=hs.2 G es (bb k).2
  exact ⟨SAll.and_cons a b.1,SAll.or_cons a b.2⟩
theorem ok_nil:PEs c P C d []:=⟨fun G es k=>by rw [nil_of k]; exact .nil,fun G es k=>by rw [nil_of k]; exact ⟨SAll.and_nil,SAll.or_nil⟩⟩
theorem ok_none:PO c P C d none:=fun G e k=>by rw [Option.isNone_iff_eq_none.mp k]; exact SO.none
theorem ok_some {m:E} (h:PE c P C d m):PO c P C d (some m):=fun G e k=>elS (M:=fun e=>SO c G (RoomB d) e _) k fun x k=>SO.some (h.1 G x k)
theorem all_ok (V0:Env0 c P C d) (m:E):PE c P C d m:=by
 refine E.rec (motive_1:=PE c P C d) (motive_2:=PEs c P C d) (motive_3:=PO c P C d) ?_ ?_ ?_ (fun o a b ha hb=>ok_cmp ha hb) (fun a ha=>ok_not ha) (fun l hl=>ok_and hl) (fun l hl=>ok_or hl) ?_ (fun f as ha=>ok_call V0 ha) (fun i as ha=>ok_new V0 ha) (fun o m as ho ha=>ok_meth V0 ho ha) (fun o a b ho=>ok_repl ho) (fun a ha=>ok_len ha) ?_ ?_ (fun o lo hi ho hl hh=>ok_slc ho hl hh) ?_ ?_ (fun ks vs hv=>ok_dict V0 hv) (fun m i it elt h1 h2=>ok_comp h1 h2) (fun m i n elt h1 h2=>ok_compR h1 h2) ?_ ?_ ?_ ok_nil (fun m ms h hs=>ok_cons h hs) ok_none (fun m h=>ok_some h) m
 ·exact fun v=>.of (fun G e h=>chkConst_ok h) fun _ _=>rfl
 ·exact fun i=>.of (fun G e h=>elName (M:=fun e=>SE c G (RoomB d) e _) h fun x p h=>slotB_ok h) fun _ _=>rfl
 ·exact fun o a b ha hb=>.of (fun G e h=>elBinOp (M:=fun e=>SE c G (RoomB d) e _) h fun l op r p h=>by refine (dd (bb h).1)▸?_; exact SE.bin (ha.1 G l (bb (bb h).2).1) (hb.1 G r (bb (bb h).2).2) (op_bin o)) fun _ _=>rfl
 ·exact fun t a b ht ha hb=>.of (fun G e h=>elIfExp (M:=fun e=>SE c G (RoomB d) e _) h fun x y z p h=>SE.ite (ht.2 G x (bb h).1) (ha.1 G y (bb (bb h).2).1) (hb.1 G z (bb (bb h).2).2)) fun _ _=>rfl
 ·exact fun o k ho=>.of (fun G e h=>elAttribute (M:=fun e=>SE c G (RoomB d) e _) h fun x y p h=>SE_attr V0.cls (beq_iff_eq.mp (bb h).1) (bb (bb h).2).1 (ho.1 G x (bb (bb h).2).2)) fun _ _=>rfl
 ·exact fun o i ho hi=>.of (fun G e h=>elSubscript (M:=fun e=>SE c G (RoomB d) e _) h fun x y p h=>SE.idx (ho.1 G x (bb (bb h).2).1) (hi.1 G y (bb (bb h).2).2) (bb h).1) fun _ _=>rfl
 ·exact fun m es h'=>.of (fun G e h=>elList (M:=fun e=>SE c G (RoomB d) e _) h fun xs p h=>SE.list (m:=m) (h'.args (bb h).1 (bb h).2)) fun _ _=>rfl
 ·exact fun es h'=>.of (fun G e h=>elTuple (M:=fun e=>SE c G (RoomB d) e _) h fun xs n p h=>SE.tup (h'.args (bb h).1 (bb h).2)) fun _ _=>rfl
 ·exact fun e' h'=>.of (fun G e h=>SE.frz (h'.1 G e h)) fun _ _=>rfl
 ·exact fun e' h'=>.ofT (fun G e h=>STt.value (bb h).1 (h'.1 G e (bb h).2)) fun _ _=>rfl
 ·exact .of (fun G e h=>SE_never fun _ _=>rfl) fun _ _=>rfl
end
end
section
noncomputable def tgtsB (G:Ctx):List Expr→List Nat→Bool
 | [],is=>is.isEmpty
 | e :: es,is=>match is with
  | []=>false
  | i :: is=>onName (fun x _=>storeB G x i) e && tgtsB G es is
noncomputable def onComp3 (k k':Nat→E→E→Bool) (e:E):Bool:=if h:e.ctorIdx=19 then E.comp.elim (motive_1:=fun _=>Bool) e h fun _=>k else if h:e.ctorIdx=20 then E.compR.elim (motive_1:=fun _=>Bool) e h fun _=>k' else false
theorem elComp3 {k k':Nat→E→E→Bool} {M:E→Prop} {e:E} (h:onComp3 k k' e=true) (j:∀ m i x y,k i x y=true→M (.comp m i x y)) (j':∀ m i x y,k' i x y=true→M (.compR m i x y)):M e:=
 if q:e.ctorIdx=19 then E.comp.elim (motive_1:=fun e=>onComp3 k k' e=true→M e) e q j h else
 if q':e.ctorIdx=20 then E.compR.elim (motive_1:=fun e=>onComp3 k k' e=true→M e) e q' j' h else absurd h (fun z=>Bool.false_ne_true ((dif_neg q').symm.trans ((dif_neg q).symm.trans z)))
section
variable (K:Frag) (Z:Stat) (Pi:Nat→Option (Option Nat))
noncomputable def chkAsgC (t:Str) (pt:Pos) (G:Ctx) (e':Expr) (e:E):Bool:=
 onComp3 (fun i it elt=>onListComp (fun elt' gs scope p=>swapsNow G scope t pt p && (G.scope.kind == .function && onComp (fun x it'=>notSet it' && (chkE K Z Pi it G it' && onName (fun x _=>compB G scope x i && chkE K Z Pi elt (compCtx G scope x i) elt') x)) gs)) e')
  (fun i n elt=>onListComp (fun elt' gs scope p=>swapsNow G scope t pt p && (G.scope.kind == .function && onComp (fun x it'=>onCall (fun fe as ks _=>ks.isEmpty && (onName (fun y _=>bltB K G y (.type "range")) fe && on1 (fun n'=>notStar n' && chkE K Z Pi n G n') as)) it' &&
   onName (fun x _=>compB G scope x i && chkE K Z Pi elt (compCtx G scope x i) elt') x) gs)) e') e
noncomputable def isName (x:Str):Expr→Bool:=onName fun y _=>y == x
noncomputable def padB (x:Str):Expr→Bool:=onBinOp fun l o r _=>cStr [32] r && (decide (o = .Add) && onBinOp (fun l o r _=>cStr [32] l && (decide (o = .Add) && isName x r)) l)
noncomputable def swapB (x y:Str) (st:Stmt):Bool:=onSAssign (fun ts v _=>on1 (isName y) ts && onCall (fun f as ks pc=>ks.isEmpty && (onAttribute (fun o r p=>r == ("replace":Str) && (isName y o && p.endLine == pc.line)) f && (match as with
 | []=>false
 | a :: l=>isName x a && on1 (padB x) l))) v) st
noncomputable def signsB (G:Ctx) (i j:Nat) (l:Txt) (st:Stmt):Bool:=onSFor (fun t it b el _=>el.isEmpty && (cStr l it && onName (fun x _=>G.names[i]? == some (some x) && (G.scope.names.lookup x == some .local && (notDebug x && (l.all (·<128) && (!(i == j) &&
 onS (onS fun y=>storeB G y j && (notDebug y && on1 (swapB x y) b)) G.names[j]?))))) t)) st
mutual
noncomputable def chkS:S→Ctx→Stmt→Bool
 | .asg i e,G,st=>onSAssign (fun ts e' _=>on1 (onName fun t pt=>storeB G t i && ((plainValue e' && chkE K Z Pi e G e') || chkAsgC K Z Pi t pt G e' e)) ts) st
 | .asgT is e,G,st=>onSAssign (fun ts e' _=>on1 (onTuple fun es _ _=>tgtsB G es is && (plainValue e' && (notTuple e' && chkE K Z Pi e G e'))) ts) st
 | .asgI o i e,G,st=>onSAssign (fun ts e' _=>on1 (onSubscript fun o' i' _=>plainValue e' && (chkE K Z Pi e G e' && (chkE K Z Pi o G o' && chkE K Z Pi i G i'))) ts) st
 | .asgA o a e,G,st=>onSAssign (fun ts e' _=>on1 (onAttribute fun o' nm _=>attrN[a]? == some nm && (plainValue e' && (chkE K Z Pi e G e' && chkE K Z Pi o G o'))) ts) st
 | .aug i op e,G,st=>onSAugAssign (fun t op' e' _=>decide (op'=opOf op) && (chkE K Z Pi e G e' && onName (fun x _=>storeB G x i) t)) st
 | .augI o i op e,G,st=>onSAugAssign (fun t op' e' _=>decide (op'=opOf op) && (chkE K Z Pi e G e' && onSubscript (fun o' i' _=>plainSub i' && (chkE K Z Pi o G o' && chkE K Z Pi i G i')) t)) st
 | .augA o a op e,G,st=>onSAugAssign (fun t op' e' _=>decide (op'=opOf op) && (chkE K Z Pi e G e' && onAttribute (fun o' nm _=>attrN[a]? == some nm && chkE K Z Pi o G o') t)) st
 | .ret none,G,st=>onSReturn (fun r _=>r.isNone) st
 | .ret (some e),G,st=>onSReturn (fun r _=>onS (chkE K Z Pi e G) r) st
 | .ifs t a b,G,st=>onSIf (fun t' a' b' _=>chkT K Z Pi t G t' && (chkSs a G a' && chkSs b G b')) st
 | .while t b,G,st=>onSWhile (fun t' b' el _=>el.isEmpty && (chkT K Z Pi t G t' && chkSs b G b')) st
 | .for i e b,G,st=>onSFor (fun t e' b' el _=>el.isEmpty && (notSet e' && (chkE K Z Pi e G e' && (chkSs b G b' && onName (fun x _=>storeB G x i) t)))) st
 | .forT is e b,G,st=>onSFor (fun t e' b' el _=>el.isEmpty && (notSet e' && (chkE K Z Pi e G e' && (chkSs b G b' && onTuple (fun es _ _=>tgtsB G es is) t)))) st
 | .expr e,G,st=>onSExpr (fun e' _=>plainValue e' && chkE K Z Pi e G e') st
 | .signs i j l,G,st=>signsB G i j l st
 | .fail,_,_=>true
noncomputable def chkSs:List S→Ctx→List Stmt→Bool
 | [],_,ss=>ss.isEmpty
 | s :: ss,G,ss'=>match ss' with
  | []=>false
  | s' :: ss'=>chkS s G s' && chkSs ss G ss'
end
end
section
variable {c:Cx} {P:Prog} {C:Callee} {d:Nat} {G:Ctx} {W:Nat}
theorem storeB_ok {x:Str} {i:Nat} (h:storeB G x i=true):G.names[i]?=some (some x)∧storeKind G x=true:=⟨beq_iff_eq.mp (bb h).1,(bb h).2⟩
theorem tgtsB_ok:∀ {es:List Expr} {is:List Nat},tgtsB G es is=true→Tgts G es is
 | [],is,h=>by refine (nil_of h)▸?_; exact .nil
 | e :: es,[],h=>nomatch h
 | e :: es,i :: is,h=>elName (M:=fun e=>Tgts G (e :: es) (i :: is)) (bb h).1 fun x p g=>.cons (storeB_ok g).1 (storeB_ok g).2 (tgtsB_ok (bb h).2)
theorem SS_never {st:Stmt} {RA:Around→Prop} {f:Loc→St→Option (Ctl×Loc×St)} (h:∀ ρ σ,f ρ σ=none):SS c G RA st f:=
 fun P U A env ρ am σ r s Q rA ht o I F e p=>absurd ((h ρ σ).symm.trans e) (fun z=>nomatch z)
noncomputable def asgF (j:Nat) (f:Loc→St→Option (V×St)) (ρ:Loc) (σ:St):Option (Ctl×Loc×St):=(f ρ σ).map fun (v,σ₁)=>(.next,ρ.set j (some v),σ₁)
theorem chkAsgC_ok (V0:Env0 c P C d) (gi:G.Inj) {t:Str} {pt spos:Pos} {e':Expr} {j:Nat} {e:E} (hn:G.names[j]?=some (some t)) (h:chkAsgC c.K c.Z P.init t pt G e' e=true):SS c G (RoomB d) (.Assign [.Name t pt] e' spos) (evalS P W C (.asg j e)):=
 elComp3 (M:=fun e=>SS c G (RoomB d) (.Assign [.Name t pt] e' spos) (asgF j (evalE P C e))) h
  (fun m i it elt h=>elListComp (M:=fun e'=>SS c G (RoomB d) (.Assign [.Name t pt] e' spos) _) h fun elt' gs scope pos h=>b3 h fun h1 h2 h=>comp_of (M:=fun gs=>SS c G (RoomB d) (.Assign [.Name t pt] (.ListComp elt' gs scope pos) spos) _) h fun x it' h=>b3 h fun h3 h4 h=>
   elName (M:=fun x=>SS c G (RoomB d) (.Assign [.Name t pt] (.ListComp elt' [⟨x,it',[],0⟩] scope pos) spos) _) h fun x p h=>comp_fun▸SS_asgComp (m:=m) gi (compB_ok (bb h).1) h3 (SIt.seq RoomB.e ((all_ok V0 it).1 G it' h4)) ((all_ok V0 elt).1 _ elt' (bb h).2) hn h1 (beq_iff_eq.mp h2))
  (fun m i n elt h=>elListComp (M:=fun e'=>SS c G (RoomB d) (.Assign [.Name t pt] e' spos) _) h fun elt' gs scope pos h=>b3 h fun h1 h2 h=>comp_of (M:=fun gs=>SS c G (RoomB d) (.Assign [.Name t pt] (.ListComp elt' gs scope pos) spos) _) h fun x it' h=>b2 h fun h3 h=>
   range_of (all_ok V0 n) h3 (M:=fun it=>SS c G (RoomB d) (.Assign [.Name t pt] (.ListComp elt' [⟨x,it,[],0⟩] scope pos) spos) _) fun _ _ _ _ hr=>
   elName (M:=fun x=>SS c G (RoomB d) (.Assign [.Name t pt] (.ListComp elt' [⟨x,_,[],0⟩] scope pos) spos) _) h fun x p h=>compR_fun▸SS_asgComp (m:=m) gi (compB_ok (bb h).1) rfl hr ((all_ok V0 elt).1 _ elt' (bb h).2) hn h1 (beq_iff_eq.mp h2))
theorem isName_ok {x:Str} {M:Expr→Prop} {e:Expr} (h:isName x e=true) (j:∀ p,M (.Name x p)):M e:=elName (M:=M) h fun y p h=>by rw [beq_iff_eq.mp h]; exact j p
theorem padB_ok {x:Str} {M:Expr→Prop} {e:Expr} (h:padB x e=true) (j:∀ s1 s2 k1 k2 p7 p8 p9 pa pb,s1.cps.toList=[32]→s2.cps.toList=[32]→M (.BinOp (.BinOp (.Constant (.str s1) k1 p7) .Add (.Name x p8) p9) .Add (.Constant (.str s2) k2 pa) pb)):M e:=by
 refine elBinOp (M:=M) h fun l o r p h=>?_
 refine b3 h fun h1 h2 h=>?_
 refine (dd h2).symm▸?_
 refine cStr_ok (M:=fun r=>M (.BinOp l .Add r p)) h1 fun s2 k2 pa g2=>?_
 refine elBinOp (M:=fun l=>M (.BinOp l .Add _ p)) h fun l o r p9 h=>?_
 refine b3 h fun h1 h2 h=>?_
 refine (dd h2).symm▸?_
 refine cStr_ok (M:=fun l=>M (.BinOp (.BinOp l .Add r p9) .Add _ p)) h1 fun s1 k1 p7 g1=>?_
 exact isName_ok (M:=fun r=>M (.BinOp (.BinOp _ .Add r p9) .Add _ p)) h fun p8=>j _ _ _ _ _ _ _ _ _ g1 g2
theorem swapB_ok {x y:Str} {M:Stmt→Prop} {st:Stmt} (h:swapB x y st=true) (j:∀ s1 s2 k1 k2 p3 p4 p5 p6 p7 p8 p9 pa pb pc pos,s1.cps.toList=[32]→s2.cps.toList=[32]→(p5.endLine == pc.line)=true→
  M (.Assign [.Name y p3] (.Call (.Attribute (.Name y p4) "replace" p5) [.Name x p6,.BinOp (.BinOp (.Constant (.str s1) k1 p7) .Add (.Name x p8) p9) .Add (.Constant (.str s2) k2 pa) pb] [] pc) pos)):M st:=by
 refine elSAssign (M:=M) h fun ts v pos h=>?_
 refine b2 h fun h1 h=>?_
 refine el1 (M:=fun ts=>M (.Assign ts v pos)) h1 fun t h1=>isName_ok (M:=fun t=>M (.Assign [t] v pos)) h1 fun p3=>?_
 refine elCall (M:=fun v=>M (.Assign _ v pos)) h fun f as ks pc h=>?_
 refine b3 h fun h2 h3 h=>?_
 refine (nil_of h2)▸?_
 refine elAttribute (M:=fun f=>M (.Assign _ (.Call f as [] pc) pos)) h3 fun o r p5 h3=>?_
 refine b2 h3 fun h4 h3=>?_
 refine b2 h3 fun h5 h6=>?_
 refine (beq_iff_eq.mp h4)▸?_
 refine isName_ok (M:=fun o=>M (.Assign _ (.Call (.Attribute o _ p5) as [] pc) pos)) h5 fun p4=>?_
 cases as with
 | nil=>exact noF h
 | cons a l=>
  refine b2 h fun h7 h8=>?_
  refine isName_ok (M:=fun a=>M (.Assign _ (.Call _ (a :: l) [] pc) pos)) h7 fun p6=>?_
  refine el1 (M:=fun l=>M (.Assign _ (.Call _ (_ :: l) [] pc) pos)) h8 fun b h8=>?_
  exact padB_ok (M:=fun b=>M (.Assign _ (.Call _ [_,b] [] pc) pos)) h8 fun _ _ _ _ _ _ _ _ _ g1 g2=>j _ _ _ _ _ _ _ _ _ _ _ _ _ _ _ g1 g2 h6
theorem signsB_ok {i j:Nat} {l:Txt} {st:Stmt} (gi:G.Inj) (h:signsB G i j l st=true):SS c G (RoomB d) st (evalS P W C (.signs i j l)):=by
 refine elSFor (M:=fun st=>SS c G (RoomB d) st _) h fun t it b el pf h=>?_
 refine byC fun w22_=>?_
 refine b3 h fun h1 h2 h=>?_
 refine w22_ ?_
 refine (nil_of h1).symm▸?_
 refine cStr_ok (M:=fun it=>SS c G (RoomB d) (.For t it b [] pf) _) h2 fun cs k0 p0 g0=>?_
 refine elName (M:=fun t=>SS c G (RoomB d) (.For t _ b [] pf) _) h fun x p1 h=>?_
 refine byC fun w23_=>?_
 refine b6 h fun h3 h4 h5 h6 h7 h=>?_
 refine e1_2 (inS h) fun o hy h8=>?_
 refine e1_2 (inS h8) fun y ho h9=>?_
 rw [ho] at hy
 refine b2 h9 fun g1 g2=>?_
 refine b2 g2 fun g3 g4=>?_
 refine w23_ ?_
 refine el1 (M:=fun b=>SS c G (RoomB d) (.For _ _ b [] pf) _) g4 fun st g4=>swapB_ok (M:=fun st=>SS c G (RoomB d) (.For _ _ [st] [] pf) _) g4 fun _ _ _ _ _ _ _ _ _ _ _ _ _ _ _ e1 e2 e3=>?_
 exact SS_signs RoomB.e gi (beq_iff_eq.mp h3) hy (beq_iff_eq.mp h4) (storeB_ok g1).2 (bne_iff_ne.mp h7) g0 h6 e1 e2 (notDebug_ok h5) (notDebug_ok g3) e3
variable (c P C d G W) in
def PS (m:S):Prop:=∀ st,chkS c.K c.Z P.init m G st=true→SS c G (RoomB d) st (evalS P W C m)
variable (c P C d G W) in
def PSs (ms:List S):Prop:=∀ ss,chkSs c.K c.Z P.init ms G ss=true→SSs c G (RoomB d) ss (evalSs P W C ms)
theorem ok_asg (V0:Env0 c P C d) (gi:G.Inj) (i:Nat) (e:E):PS c P C d G W (.asg i e):=fun st h=>elSAssign (M:=fun st=>SS c G (RoomB d) st _) h fun ts e' p h=>by
 refine el1 (M:=fun ts=>SS c G (RoomB d) (.Assign ts e' p) _) h fun t h=>elName (M:=fun t=>SS c G (RoomB d) (.Assign [t] e' p) _) h fun x q h=>?_
 refine b2 h fun h1 h=>?_
 rcases oo h with h | h
 ·exact SS_asg gi (storeB_ok h1).1 (storeB_ok h1).2 (bb h).1 ((all_ok V0 e).1 G e' (bb h).2)
 ·exact chkAsgC_ok V0 gi (storeB_ok h1).1 h
theorem ok_asgT (V0:Env0 c P C d) (gi:G.Inj) (is:List Nat) (e:E):PS c P C d G W (.asgT is e):=fun st h=>elSAssign (M:=fun st=>SS c G (RoomB d) st _) h fun ts e' p h=>by
 refine el1 (M:=fun ts=>SS c G (RoomB d) (.Assign ts e' p) _) h fun t h=>elTuple (M:=fun t=>SS c G (RoomB d) (.Assign [t] e' p) _) h fun es k q h=>?_
 refine b3 h fun h1 h2 h=>?_
 exact SS_asgT RoomB.e gi (tgtsB_ok h1) h2 (bb h).1 ((all_ok V0 e).1 G e' (bb h).2)
theorem ok_asgI (V0:Env0 c P C d) (o i e:E):PS c P C d G W (.asgI o i e):=fun st h=>elSAssign (M:=fun st=>SS c G (RoomB d) st _) h fun ts e' p h=>by
 refine el1 (M:=fun ts=>SS c G (RoomB d) (.Assign ts e' p) _) h fun t h=>elSubscript (M:=fun t=>SS c G (RoomB d) (.Assign [t] e' p) _) h fun x y q h=>?_
 refine b3 h fun h1 h2 h=>?_
 exact SS_asgI h1 ((all_ok V0 e).1 G e' h2) ((all_ok V0 o).1 G x (bb h).1) ((all_ok V0 i).1 G y (bb h).2)
theorem ok_asgA (V0:Env0 c P C d) (o:E) (a:Nat) (e:E):PS c P C d G W (.asgA o a e):=fun st h=>elSAssign (M:=fun st=>SS c G (RoomB d) st _) h fun ts e' p h=>by
 refine el1 (M:=fun ts=>SS c G (RoomB d) (.Assign ts e' p) _) h fun t h=>elAttribute (M:=fun t=>SS c G (RoomB d) (.Assign [t] e' p) _) h fun x y q h=>?_
 refine b3 h fun h1 h2 h=>?_
 exact SS_asgA V0.cls (beq_iff_eq.mp h1) h2 ((all_ok V0 e).1 G e' (bb h).1) ((all_ok V0 o).1 G x (bb h).2)
theorem ok_aug (V0:Env0 c P C d) (gi:G.Inj) (i:Nat) (op:BO) (e:E):PS c P C d G W (.aug i op e):=fun st h=>elSAugAssign (M:=fun st=>SS c G (RoomB d) st _) h fun t op' e' p h=>by
 refine b3 h fun h1 h2 h=>?_
 refine (dd h1).symm▸?_
 refine elName (M:=fun t=>SS c G (RoomB d) (.AugAssign t _ e' p) _) h fun x q h=>?_
 exact SS_aug gi (storeB_ok h).1 (storeB_ok h).2 ((all_ok V0 e).1 G e' h2)
theorem ok_augI (V0:Env0 c P C d) (o i:E) (op:BO) (e:E):PS c P C d G W (.augI o i op e):=fun st h=>elSAugAssign (M:=fun st=>SS c G (RoomB d) st _) h fun t op' e' p h=>by
 refine b3 h fun h1 h2 h=>?_
 refine (dd h1).symm▸?_
 refine elSubscript (M:=fun t=>SS c G (RoomB d) (.AugAssign t _ e' p) _) h fun x y q h=>?_
 refine b2 h fun h3 h=>?_
 exact SS_augI h3 ((all_ok V0 o).1 G x (bb h).1) ((all_ok V0 i).1 G y (bb h).2) ((all_ok V0 e).1 G e' h2)
theorem ok_augA (V0:Env0 c P C d) (o:E) (a:Nat) (op:BO) (e:E):PS c P C d G W (.augA o a op e):=fun st h=>elSAugAssign (M:=fun st=>SS c G (RoomB d) st _) h fun t op' e' p h=>by
 refine b3 h fun h1 h2 h=>?_
 refine (dd h1).symm▸?_
 refine elAttribute (M:=fun t=>SS c G (RoomB d) (.AugAssign t _ e' p) _) h fun x y q h=>?_
 exact SS_augA V0.cls (beq_iff_eq.mp (bb h).1) ((all_ok V0 o).1 G x (bb h).2) ((all_ok V0 e).1 G e' h2)
theorem ok_ret (V0:Env0 c P C d):∀ e:Option E,PS c P C d G W (.ret e)
 | none=>fun st h=>elSReturn (M:=fun st=>SS c G (RoomB d) st _) h fun r p h=>by rw [Option.isNone_iff_eq_none.mp h]; exact SS_ret0
 | some e=>fun st h=>elSReturn (M:=fun st=>SS c G (RoomB d) st _) h fun r p h=>elS (M:=fun r=>SS c G (RoomB d) (.Return r p) _) h fun x h=>SS_ret ((all_ok V0 e).1 G x h)
theorem ok_for (V0:Env0 c P C d) (gi:G.Inj) (i:Nat) (e:E) (b:List S) (hb:PSs c P C d G W b):PS c P C d G W (.for i e b):=fun st h=>elSFor (M:=fun st=>SS c G (RoomB d) st _) h fun t e' b' el p h=>by
 refine b5 h fun h1 h2 h3 h4 h=>?_
 refine (nil_of h1).symm▸?_
 refine elName (M:=fun t=>SS c G (RoomB d) (.For t e' b' [] p) _) h fun x q h=>?_
 exact SS_for RoomB.e gi (storeB_ok h).1 (storeB_ok h).2 h2 ((all_ok V0 e).1 G e' h3) (hb b' h4)
theorem ok_forT (V0:Env0 c P C d) (gi:G.Inj) (is:List Nat) (e:E) (b:List S) (hb:PSs c P C d G W b):PS c P C d G W (.forT is e b):=fun st h=>elSFor (M:=fun st=>SS c G (RoomB d) st _) h fun t e' b' el p h=>by
 refine b5 h fun h1 h2 h3 h4 h=>?_
 refine (nil_of h1).symm▸?_
 refine elTuple (M:=fun t=>SS c G (RoomB d) (.For t e' b' [] p) _) h fun es k q h=>?_
 exact SS_forT RoomB.e gi (tgtsB_ok h) h2 ((all_ok V0 e).1 G e' h3) (hb b' h4)
theorem ok_scons {m:S} {ms:List S} (h:PS c P C d G W m) (hs:PSs c P C d G W ms):PSs c P C d G W (m :: ms):=fun ss k=>by
 cases ss with
 | nil=>cases k
 | cons st ss=>
  exact SSs_cons (h st (bb k).1) (hs ss (bb k).2)
theorem alls_ok (V0:Env0 c P C d) (gi:G.Inj) (ms:List S):PSs c P C d G W ms:=by
 refine S.rec_1 (motive_1:=PS c P C d G W) (motive_2:=PSs c P C d G W) (ok_asg V0 gi) (ok_asgT V0 gi) (ok_asgI V0) (ok_asgA V0) (ok_aug V0 gi) (ok_augI V0) (ok_augA V0) (ok_ret V0) ?_ ?_ (ok_for V0 gi) (ok_forT V0 gi) ?_ ?_ ?_ ?_ (fun m ms h hs=>ok_scons h hs) ms
 ·exact fun t a b ha hb st h=>elSIf (M:=fun st=>SS c G (RoomB d) st _) h fun t' a' b' p h=>SS_ifs ((all_ok V0 t).2 G t' (bb h).1) (ha a' (bb (bb h).2).1) (hb b' (bb (bb h).2).2)
 ·exact fun t b hb st h=>elSWhile (M:=fun st=>SS c G (RoomB d) st _) h fun t' b' el p h=>by rw [nil_of (bb h).1]; exact SS_while ((all_ok V0 t).2 G t' (bb (bb h).2).1) (hb b' (bb (bb h).2).2)
 ·exact fun e st h=>elSExpr (M:=fun st=>SS c G (RoomB d) st _) h fun e' p h=>SS_expr (bb h).1 ((all_ok V0 e).1 G e' (bb h).2)
 ·exact fun i j l st h=>signsB_ok gi h
 ·exact fun st h=>SS_never fun _ _=>rfl
 ·exact fun ss k=>by rw [nil_of k]; exact SSs_nil
end
end
section
noncomputable def onFunc (k:FuncData→Bool) (e:Data):Bool:=if h:e.ctorIdx=7 then Data.func.elim (motive:=fun _=>Bool) e h k else false
theorem inFunc {k:FuncData→Bool} {e:Data} (h:onFunc k e=true):∃ f,e = .func f∧k f=true:=
 if q:e.ctorIdx=7 then Data.func.elim (motive:=fun e=>onFunc k e=true→∃ f,e = .func f∧k f=true) e q (fun f h=>⟨f,rfl,h⟩) h else absurd h (fun z=>Bool.false_ne_true ((dif_neg q).symm.trans z))
noncomputable def onStmts (k:List Stmt→Bool):FuncBody→Bool
 | .stmts b=>k b
 | .expr _=>false
theorem inStmts {k:List Stmt→Bool} {e:FuncBody} (h:onStmts k e=true):∃ f,e = .stmts f∧k f=true:=by
 cases e with
 | stmts b=>exact i1_2 b rfl h
 | expr _=>exact noF h
noncomputable def fdB (K:Frag) (Z:Stat) (Pi:Nat→Option (Option Nat)) (fn:Fn) (G:Ctx) (names:List Str) (fd:FuncData) (body:List Stmt):Bool:=
 fd.closure.isEmpty && (fd.params.posonlyargs.isEmpty && (fd.params.args.map (·.arg) == names && (fd.params.kwonlyargs.isEmpty && (fd.params.vararg.isNone && (fd.params.kwarg.isNone && (fd.defaults == .none &&
 (decide names.Nodup && (names.length == fn.arity && ((G.names.take fn.arity) == names.map some && (injL G.names && (names.all (storeKind G) && (fd.scope.names.all (fun x=>!(x.2 == .free)) &&
 (fd.globals == mainGlobals && (fd.builtins == builtinsNs && (codeIn K fd.code fd.qualname && (!fd.scope.isCoroutine && (!fd.scope.isGenerator && (fd.scope.kind == .function && chkSs K Z Pi fn.body G body))))))))))))))))))
noncomputable def fnChk (K:Frag) (Z:Stat) (Pi:Nat→Option (Option Nat)) (f:Nat) (fn:Fn) (names:List (Option Str)):Bool:=
 onS (fun a=>onS (fun o=>onFunc (fun fd=>onStmts (fdB K Z Pi fn ⟨names,fd.scope⟩ ((names.take fn.arity).filterMap id) fd) fd.body) o.data) (K.lookup a)) Z.fn[f]?
section
variable {c:Cx} {P:Prog} {C:Callee} {d:Nat} {W:Nat}
theorem names_at {names:List (Option Str)} {nm:List Str} {n i:Nat} {x:Str} (e:names.take n=nm.map some) (q:nm[i]?=some x):names[i]?=some (some x):=by
 have z:(names.take n)[i]?=some (some x):=e.symm▸List.getElem?_map.trans (congrArg (Option.map some) q)
 exact if w:i<n then (List.getElem?_take_of_lt w).symm.trans z else noS ((List.getElem?_eq_none (Nat.le_trans (List.length_take_le n names) (Nat.not_lt.mp w))).symm.trans z)
theorem all_free {l:List (Str×NameKind)} (h:(l.all fun x=>!(x.2 == .free))=true) {x:Str×NameKind} (hx:x ∈ l):x.2≠.free:=fun z=>Bool.false_ne_true (((Bool.not_eq_true' _).mp (List.all_eq_true.mp h x hx)).symm.trans (beq_iff_eq.mpr z))
theorem not_of {b:Bool} (h:(!b)=true):b=false:=(Bool.not_eq_true' _).mp h
theorem fdB_ok {f:Nat} {fn:Fn} {names:List (Option Str)} {nm:List Str} {a:Addr} {o:Obj} {fd:FuncData} {body:List Stmt} (ha:c.Z.fn[f]?=some a) (ho:c.K.lookup a=some o) (hd:o.data = .func fd) (hb:fd.body = .stmts body) (h:fdB c.K c.Z P.init fn ⟨names,fd.scope⟩ nm fd body=true) :
  FnOk c f fn.arity a o fd body ⟨names,fd.scope⟩ nm∧chkSs c.K c.Z P.init fn.body ⟨names,fd.scope⟩ body=true:=
 b20 h fun h1 h2 h3 h4 h5 h6 h7 h8 h9 ha' hb' hc' hd' he hf hg hh hi hj h=>
 ⟨⟨ha,ho,hd,hb,nil_of h1,nil_of h2,beq_iff_eq.mp h3,nil_of h4,Option.isNone_iff_eq_none.mp h5,Option.isNone_iff_eq_none.mp h6,beq_iff_eq.mp h7,dd h8,beq_iff_eq.mp h9,rfl,fun _ _=>names_at (beq_iff_eq.mp ha'),injL_ok hb',fun x hx=>List.all_eq_true.mp hc' x hx,fun _=>all_free hd',beq_iff_eq.mp he,beq_iff_eq.mp hf,hg,not_of hh,not_of hi,beq_iff_eq.mp hj⟩,h⟩
theorem fnChk_on {f:Nat} {fn:Fn} {names:List (Option Str)} {X:Prop} (h:fnChk c.K c.Z P.init f fn names=true) (k:∀ a o fd body G nm,FnOk c f fn.arity a o fd body G nm→chkSs c.K c.Z P.init fn.body G body=true→X):X:=
 (inS h).elim fun a h=>(inS h.2).elim fun o h'=>(inFunc h'.2).elim fun fd z=>(inStmts z.2).elim fun body y=>e0_2 (fdB_ok h.1 h'.1 z.1 y.1 y.2) (k a o fd body _ _)
structure Env1 (c:Cx) (P:Prog):Prop where
 cls:c.Cls
 sm:∃ o,c.hb.get? sysModules=some o
 low:∀ m,m<10→∀ i,P.meth i m=none
 high:∀ m,10≤m→MethOk c P.meth m (methName m)
 fns:∀ f fn,P.fn[f]?=some fn→∃ names,fnChk c.K c.Z P.init f fn names=true
theorem callF_on {f:Nat} {vs:List V} {σ σ':St} {v:V} {X:Prop} (e:callF P W (d+1) f vs σ=some (v,σ')) (k:∀ fn r,P.fn[f]?=some fn→vs.length=fn.arity→evalSs P W (callF P W d) fn.body (vs.map some++List.replicate (fn.slots - fn.arity) none) σ=some r→bodyR r σ=(v,σ')→X):X:=
 bindI e fun fn hf e=>ite_some e fun hl e=>mapI e fun r es e2=>k fn r hf hl es e2
theorem Env1.at (H:Env1 c P) (ok:CallOk c d C):Env0 c P C d:=⟨ok,H.cls,H.sm,H.low,H.high⟩
theorem calls_ok (H:Env1 c P) (d:Nat):CallOk c d (callF P W d):=
 d.rec (fun _ _ _ _ _ e=>noS e) fun d ih f vs σ v σ' e U A am s us a Q rA h0 I R hz K=>callF_on e fun fn r hf hl es e2=>(H.fns f fn hf).elim fun names hc=>fnChk_on hc fun a' o fd body G nm F hb=>
  (Option.some.inj (F.hz.symm.trans hz))▸call_fn (z:=1) F (alls_ok (W:=W) (H.at ih) F.gi fn.body body hb) hl es e2 rA h0 I R K
theorem PEs_all (V0:Env0 c P C d) (ms:List E):PEs c P C d ms:=ms.rec ok_nil fun m _ ih=>ok_cons (all_ok V0 m) ih
theorem asg_fun {i:Nat} {f:Loc→St→Option (V×St)} {g:Loc→St→Option (Ctl×Loc×St)}:(fun ρ σ=>(f ρ σ).bind fun (v,σ₁)=>g (ρ.set i (some v)) σ₁)=fun ρ σ=>(asgF i f ρ σ).bind (seqC g):=funext fun ρ=>funext fun σ=>by
 show (f ρ σ).bind _=((f ρ σ).map _).bind _
 exact (f ρ σ).rec rfl fun _=>rfl
theorem kI_no {K:Frag} {G:Ctx} {t:Txt} {vs:List V} {ks:List (Option Expr)} {X:Prop} (h:kI K G (.str t :: vs) ks=true):X:=by
 cases ks with
 | nil=>exact noF h
 | cons k ks=>exact (inS (bb h).1).elim fun e h=>(oo h.2).elim (fun h=>elConstant (M:=fun _=>X) h fun _ _ _ h=>elCInt (M:=fun _=>X) h fun _ h=>nomatch dd h) fun h=>elName (M:=fun _=>X) h fun _ _ h=>(inS (bb h).2).elim fun _ h=>(inS h.2).elim fun _ h=>(isI_ok h.2).elim fun _ h=>h.elim fun _ h=>nomatch h.2
theorem key0 {G:Ctx} {t:Txt} {ks:List V} {ks':List (Option Expr)} {M:List (Option Expr)→Prop} (h:kS (.str t :: ks) ks'=true) (j:∀ ks' kk x0 n p',LitKeys (c:=c) G (PySem.strKind c.prog c.w) ks' kk→V.str t :: ks=V.str x0.cps.toList :: kk.map encS→M (some (.Constant (.str x0) n p') :: ks')):M ks':=by
 cases ks' with
 | nil=>exact noF h
 | cons k ks'=>
  exact b2 h fun h h2=>(kS_ok (c:=c) (G:=G) h2).elim fun kk z=>elS (M:=fun k=>M (k :: ks')) h fun e h=>elConstant (M:=fun e=>M (some e :: ks')) h fun k n p h=>elCStr (M:=fun k=>M (some (.Constant k n p) :: ks')) h fun x h=>j ks' kk x n p z.1 (by
   rw [dd h,z.2])
theorem dictZ_row {G:Ctx} {x0:Str} {n:Nat} {p' dpos:Pos} {ks':List (Option Expr)} {kk:List Str} {vs':List Expr} {fs:List EF} (R:Row c G (RoomB d) vs' fs) (hr:LitKeys (c:=c) G (PySem.strKind c.prog c.w) ks' kk) (hn:kk.length<15) (nod:(V.str x0.cps.toList :: kk.map encS).Nodup) :
  (some (PySem.Expr.Constant (.str x0) n p') :: ks').length=vs'.length→SEZ 0 c G (RoomB d) (.Dict (some (.Constant (.str x0) n p') :: ks') vs' dpos) fun ρ σ=>(rowF fs ρ σ).bind fun (vv,σ₁)=>if (V.str x0.cps.toList :: kk.map encS).length=vv.length∧(V.str x0.cps.toList :: kk.map encS).length<1000 then some (.loc σ₁.length,σ₁++[.dict ((V.str x0.cps.toList :: kk.map encS).zip vv)]) else none:=
 R.rec (motive:=fun vs' fs _=>(some (PySem.Expr.Constant (.str x0) n p') :: ks').length=vs'.length→SEZ 0 c G (RoomB d) (.Dict (some (.Constant (.str x0) n p') :: ks') vs' dpos) fun ρ σ=>(rowF fs ρ σ).bind fun (vv,σ₁)=>if (V.str x0.cps.toList :: kk.map encS).length=vv.length∧(V.str x0.cps.toList :: kk.map encS).length<1000 then some (.loc σ₁.length,σ₁++[.dict ((V.str x0.cps.toList :: kk.map encS).zip vv)]) else none)
  (fun h=>absurd h (Nat.succ_ne_zero _)) fun h hs _ hl=>SE_dictZ (kk:=x0 :: kk) (enc:=encS) (fun d=>.inl d) hr.all hl (fun z=>nomatch z) (Nat.succ_le_of_lt (hr.length▸hn)) (nodup_of_map encS nod) (SPsZ_str h (hs.SPs hr (Nat.succ.inj hl)))
theorem dict0_ok {G:Ctx} (V0:Env0 c P C d) {t:Txt} {ks:List V} {vs:List E} {e':Expr} (hn:ks.length<15) (h:chkE c.K c.Z P.init (.dict (.str t :: ks) vs) G e'=true):SEZ 0 c G (RoomB d) e' (evalE P C (.dict (.str t :: ks) vs)):=
 elDict (M:=fun e'=>SEZ 0 c G (RoomB d) e' _) h fun ks' vs' dpos h=>b2 h fun k3 g3=>b2 ((oo g3).resolve_left (fun z=>nomatch z)) fun k1 k2=>b2 k1 fun _ k1=>b2 k1 fun _ k1=>b2 k1 fun nod k4=>
  key0 (M:=fun ks'=>(ks'.length=vs'.length)→SEZ 0 c G (RoomB d) (.Dict ks' vs' dpos) _) ((oo k4).resolve_right fun k4=>kI_no k4) (fun ks' kk x0 n p' hr z hl=>by
   cases z
   exact dict_fun▸dictZ_row ((PEs_all V0 vs).1 G vs' k3) hr (List.length_map encS▸hn) (dd nod) hl) (dd k2)
theorem chk0_ok {G:Ctx} (V0:Env0 c P C d) (gi:G.Inj) {i:Nat} {t:Txt} {ks:List V} {vs:List E} {rest:List S} {body:List Stmt} (hn:ks.length<15) (h:chkSs c.K c.Z P.init (.asg i (.dict (.str t :: ks) vs) :: rest) G body=true) :
  SSsZ 0 c G (RoomB d) body (evalSs P W C (.asg i (.dict (.str t :: ks) vs) :: rest)):=by
 cases body with
 | nil=>exact noF h
 | cons st ss=>
  exact b2 h fun h1 h2=>elSAssign (M:=fun st=>SSsZ 0 c G (RoomB d) (st :: ss) _) h1 fun ts e' p h1=>el1 (M:=fun ts=>SSsZ 0 c G (RoomB d) (.Assign ts e' p :: ss) _) h1 fun t' h1=>elName (M:=fun t=>SSsZ 0 c G (RoomB d) (.Assign [t] e' p :: ss) _) h1 fun x q h1=>b2 h1 fun g1 g2=>b2 ((oo g2).resolve_right (fun z=>nomatch z)) fun g2 g3=>
   (asg_fun (i:=i) (f:=evalE P C (.dict (.str t :: ks) vs)) (g:=evalSs P W C rest)▸SSsZ_asg gi (storeB_ok g1).1 (storeB_ok g1).2 g2 (dict0_ok V0 hn g3) (alls_ok (W:=W) V0 gi rest ss h2):SSsZ 0 c G (RoomB d) _ fun ρ σ=>(asgF i (evalE P C (.dict (.str t :: ks) vs)) ρ σ).bind (seqC (evalSs P W C rest)))
theorem call0_ok (H:Env1 c P) {f:Nat} {fn:Fn} {i:Nat} {t:Txt} {ks:List V} {vs0:List E} {rest:List S} (hf:P.fn[f]?=some fn) (hn:ks.length<15) (hb:fn.body = .asg i (.dict (.str t :: ks) vs0) :: rest)
  {vs:List V} {σ:St} {v:V} {σ':St} (e:callF P W (d+1) f vs σ=some (v,σ')) {U:Addr→Prop} {A:Around} {am:List Addr} {s:Shared} {us:List Value} {a:Addr} {Q:Value→Shared→Prop}
  (rA:Room (d+1) A) (I:c.I U am σ s.heap) (R:c.Rs U am σ s.heap us vs) (hz:c.Z.fn[f]?=some a) (K:PostE c U am s σ σ' v Q) :
  codeAny c.M A (.call (.ref a) ⟨us,[]⟩) (fun r s'=>match r with | .ok (.ret u)=>Q u s' | _=>False) s:=by
 refine callF_on e fun fn' r hf' hl es e2=>?_
 cases Option.some.inj (hf.symm.trans hf')
 refine (H.fns f fn hf).elim fun names hc=>fnChk_on hc fun a' o fd body G nm F hb'=>?_
 have B:=hb▸chk0_ok (W:=W) (H.at (calls_ok (W:=W) H d)) F.gi hn (hb▸hb')
 exact (Option.some.inj (F.hz.symm.trans hz))▸call_fn (z:=0) F B hl es e2 rA (Nat.zero_le _) I R K
end
end
noncomputable def statZ:Stat:={ fn:=[35,49,56,141,148,155,162,218,246,253,260,274,281,288,295,309,321,328,335,342,349,363,382,401,420,439,458,477,496,515,527,541,560,579,598,617,636,655,674,688,695,702,707,714,721,728,733,740,747,754,761,768,773,780,787,794,801,808,815,820],cls:=[38,228,263,312,366,385,404,423,442,461,480,499,518,544,563,582,601,620,639,658,677] }
noncomputable def methA (K:Frag) (C:Addr) (n:Str) (a:Addr):Bool:=findIn K (.ref C) n == some (some (.ref a)) && (typeIn K (.ref a) == some (.type "function") && (keepIn K (.ref a) && plainGet K C n))
noncomputable def methChk (K:Frag) (Z:Stat) (e:(Nat×Nat)×Nat):Bool:=onS (fun C=>onS (methA K C (methName e.1.2)) Z.fn[e.2]?) Z.cls[e.1.1]?
noncomputable def fnAt (K:Frag) (Z:Stat) (f:Nat):Bool:=onS (fun fn=>onS (fnChk K Z prog.init f fn) namesT[f]?) fns[f]?
theorem methAll {p:(Nat×Nat)×Nat→Bool} {x:Nat×Nat} {f:Nat} {l:List ((Nat×Nat)×Nat)}:l.all p=true→l.lookup x=some f→p (x,f)=true:=
 l.rec (fun _ h=>noS h) fun y l ih h e=>b2 h fun h1 h2=>by
  rw [List.lookup_cons] at e
  cases q:x == y.1 with
  | true=>exact (congrArg p (Prod.ext (beq_iff_eq.mp q) (Option.some.inj ((congrArg (fun b:Bool=>match b with | true=>some y.2 | false=>l.lookup x) q).symm.trans e)).symm)).trans h1
  | false=>exact ih h2 ((congrArg (fun b:Bool=>match b with | true=>some y.2 | false=>l.lookup x) q).symm.trans e)
theorem methName_not (m:Nat):methName m ∉ attrN:=
 if h:m<13 then of_decide_eq_true (List.all_eq_true.mp (by decide +kernel:(List.range 13).all (fun m=>decide (methName m ∉ attrN))=true) m (List.mem_range.mpr h)) else by
  rw [methName_big (Nat.not_lt.mp h)]
  decide +kernel
theorem meth_low {m i:Nat} (h:m<10):prog.meth i m=none:=by
 cases e:prog.meth i m with
 | none=>rfl
 | some f=>exact absurd h (Nat.not_lt.mpr (of_decide_eq_true (methAll (p:=fun p=>decide (10≤p.1.2)) (l:=methT) (by decide +kernel) e)))
theorem env1_of {c:Cx} (hc:c.Z.cls.all (clsOk c.K)=true) (hs:∃ o,c.hb.get? sysModules=some o) (hm:methT.all (methChk c.K c.Z)=true) (hf:∀ f,f<60→fnAt c.K c.Z f=true):Env1 c prog where
 cls:=fun i C h=>List.all_eq_true.mp hc C (List.mem_of_getElem? h)
 sm:=hs
 low:=fun m h i=>meth_low h
 high:=fun m h=>⟨h,methName_not m,fun i f e=>(inS (methAll hm e)).elim fun C h=>(inS h.2).elim fun a h'=>b4 h'.2 fun h1 h2 h3 h4=>⟨C,a,h.1,h'.1,beq_iff_eq.mp h1,beq_iff_eq.mp h2,h3,h4⟩⟩
 fns:=fun f fn h=>(inS (hf f (Nat.lt_of_lt_of_eq (List.getElem?_eq_some_iff.mp h).1 (by decide +kernel:fns.length=60)))).elim fun fn' z=>(inS z.2).elim fun n z'=>⟨n,(Option.some.inj (z.1.symm.trans h))▸z'.2⟩
noncomputable def PureLaw:Prop:=∀ xs:List Int,xs.length≤63→∃ W d,d<140∧callF prog W (d+1) 59 [.list (xs.map .int)] []=some (.bool true,[])
theorem ints_VRs {Z:Stat} {F:Addr→Obj→Prop} {am:List Addr} {vs:List Value} {ns:List Int} (h:IntsAre vs ns):VRs Z F am vs (ns.map .int):=by
 exact h.rec (motive:=fun vs ns _=>VRs Z F am vs (ns.map .int)) .nil fun _ _ _ _ _ ih=>.cons .int ih
theorem law_call (PL:PureLaw) {c:Cx} (H:Env1 c prog) {s:Shared} (hs:s.heap=c.hb) {fa l:Addr} (hz:c.Z.fn[59]?=some fa) {vs:List Value} {ns:List Int} (hl:s.heap.IsList l vs.toArray) (hi:IntsAre vs ns) (hn:ns.length≤63) {R:Result→Shared→Prop}
  (hQ:∀ h' tk,(∀ b o,s.heap.get? b=some o→h'.get? b=some o)→R (.ok (.ret (.bool true))) { s with heap:=h',toks:=tk }) :
  codeAny c.M callerA (.call (.ref fa) ⟨[.ref l],[]⟩) R s:=by
 refine byC fun w2_=>?_
 refine (PL ns hn).elim fun W z=>z.elim fun d z=>?_
 have hd:=z.1
 have I:c.I (fun _=>False) [] [] s.heap:=⟨fun b o q=>hs▸q,rfl,fun n O a q=>noS q,fun i j O O' a q=>noS q,fun n xs a q=>noS q,fun a q=>q.elim⟩
 obtain ⟨o,ho,hc,n,hdat⟩:=hl
 have Rv:c.Rs (fun _=>False) [] [] s.heap [.ref l] [.list (ns.map .int)]:=by
  refine .cons (.list (o:=o) ⟨ho,?_⟩ hc hdat (ints_VRs hi)) .nil
  exact fun x=>x.elim id fun x=>x.elim fun n x=>x.elim fun O x=>noS x.1
 refine w2_ ?_
 refine codeAny_mono (R:=fun r s'=>match r with | .ok (.ret u)=>R (.ok (.ret u)) s' | _=>False) ?_ fun r s' x=>by
  cases r with
  | error e=>exact x.elim
  | ok fl=>cases fl <;> first | exact x | exact x.elim
 refine call0_ok (Q:=fun u s'=>R (.ok (.ret u)) s') (vs0:=[(E.slc (E.x 0) none (some (E.c (V.int 60)))),(E.c (V.int 0)),(E.c (V.int 16))]) H (fn:=⟨1,18,b_law⟩) rfl (by decide) rfl z.2 ⟨rfl,?_,?_⟩ I Rv hz fun am' h' tk u y I' R' t=>?_
 ·exact Nat.le_trans (Nat.add_le_add_left (Nat.mul_le_mul_left 4 hd) 301) (by decide)
 ·exact Nat.le_trans (Nat.add_le_add_left (Nat.mul_le_mul_left 12 hd) 4) (by decide)
 ·cases R'
  exact hQ h' tk fun b o q=>I'.base b o (hs▸q)
end
section
set_option maxHeartbeats 2000000
open PySem
section
section
variable {W:Nat} {C:Callee} {ρ:Loc} {σ σ₁ σ₂ σ₃ σ₄:St} {e a b t o i lo hi:E} {v va vb vo vi vl vh:V} {vs:List V} {es:List E} {q:Bool}
noncomputable abbrev EvE (C:Callee) (e:E) (ρ:Loc) (σ:St) (v:V) (σ':St):Prop:=evalE prog C e ρ σ=some (v,σ')
noncomputable abbrev EvEs (C:Callee) (es:List E) (ρ:Loc) (σ:St) (vs:List V) (σ':St):Prop:=evalEs prog C es ρ σ=some (vs,σ')
noncomputable abbrev EvO (C:Callee) (e:Option E) (ρ:Loc) (σ:St) (v:Option V) (σ':St):Prop:=evalO prog C e ρ σ=some (v,σ')
noncomputable abbrev EvT (C:Callee) (e:E) (ρ:Loc) (σ:St) (q:Bool) (σ':St):Prop:=evalT prog C e ρ σ=some (q,σ')
noncomputable abbrev EvAnd (C:Callee) (l:List E) (ρ:Loc) (σ:St) (q:Bool) (σ':St):Prop:=evalAnd prog C l ρ σ=some (q,σ')
noncomputable abbrev EvOr (C:Callee) (l:List E) (ρ:Loc) (σ:St) (q:Bool) (σ':St):Prop:=evalOr prog C l ρ σ=some (q,σ')
theorem ev_c:EvE C (.c v) ρ σ v σ:=rfl
theorem ev_x {x:Nat} (h:ρ[x]?=some (some v)):EvE C (.x x) ρ σ v σ:=bnd h rfl
theorem ev_bin {op:BO} (h1:EvE C a ρ σ va σ₁) (h2:EvE C b ρ σ₁ vb σ₂) (h3:binop op va vb σ₂=some v):EvE C (.bin op a b) ρ σ v σ₂:=
 bnd h1 (bnd h2 (mp_ h3))
theorem ev_cmp {op:CO} (h1:EvE C a ρ σ va σ₁) (h2:EvE C b ρ σ₁ vb σ₂) (h3:cmpop op va vb σ₂=some q):EvE C (.cmp op a b) ρ σ (.bool q) σ₂:=
 bnd h1 (bnd h2 (mp_ h3))
theorem ev_ite (h1:EvT C t ρ σ q σ₁) (h2:EvE C (cond q a b) ρ σ₁ v σ₂):EvE C (.ite t a b) ρ σ v σ₂:=
 bnd h1 (by cases q <;> exact h2)
theorem ev_call {f:Nat} (h1:EvEs C es ρ σ vs σ₁) (h2:C f vs σ₁=some (v,σ₂)):EvE C (.call f es) ρ σ v σ₂:=
 bnd h1 (h2)
theorem ev_new1 {c f:Nat} (h2:prog.init c=some (some f)) (h1:EvEs C es ρ σ vs σ₁) (h3:C f (.loc σ₁.length :: vs) (σ₁++[.inst c,.attrs []])=some (.none,σ₂)):EvE C (.new c es) ρ σ (.loc σ₁.length) σ₂:=
 bnd h1 (by
  refine (?_:newF C (prog.init c) c vs σ₁=_)
  refine h2▸?_
  refine (?_:(C f _ _).bind _=_)
  refine h3▸?_; rfl)
theorem mthB {Pm:Nat→Nat→Option Nat} {m:Nat} {fa:St→Option (List V×St)} {r:Option (V×St)} (h2:clsOf vo σ₁=none) (h3:bkind vo m σ₁=true) (h:((fa σ₁).bind fun q=>bmeth vo m q.1 q.2)=r):mthF Pm C m fa vo σ₁=r:=by
 unfold mthF; rw [h2,h3]; exact h
theorem mthU {Pm:Nat→Nat→Option Nat} {m c f:Nat} {fa:St→Option (List V×St)} {r:Option (V×St)} (h2:clsOf vo σ₁=some c) (h3:Pm c m=some f) (h:((fa σ₁).bind fun q=>C f (vo :: q.1) q.2)=r):mthF Pm C m fa vo σ₁=r:=by
 unfold mthF; rw [h2]; exact bnd h3 h
theorem ev_meth {m c f:Nat} (h1:EvE C o ρ σ vo σ₁) (h2:clsOf vo σ₁=some c) (h3:prog.meth c m=some f) (h4:EvEs C es ρ σ₁ vs σ₂) (h5:C f (vo :: vs) σ₂=some (v,σ₃)):EvE C (.meth o m es) ρ σ v σ₃:=
 bnd h1 (mthU h2 h3 (bnd h4 h5))
theorem ev_methB {m:Nat} (h1:EvE C o ρ σ vo σ₁) (h2:clsOf vo σ₁=none) (h3:bkind vo m σ₁=true) (h4:EvEs C es ρ σ₁ vs σ₂) (h5:bmeth vo m vs σ₂=some (v,σ₃)):EvE C (.meth o m es) ρ σ v σ₃:=
 bnd h1 (mthB h2 h3 (bnd h4 h5))
theorem ev_repl {x y:Txt} (h1:EvE C o ρ σ vo σ₁) (h2:replV vo x y=some v):EvE C (.repl o x y) ρ σ v σ₁:=
 bnd h1 (mp_ h2)
theorem ev_len (h1:EvE C a ρ σ va σ₁) (h2:lenV va σ₁=some v):EvE C (.len a) ρ σ v σ₁:=
 bnd h1 (mp_ h2)
theorem ev_attr {k:Nat} (h1:EvE C o ρ σ vo σ₁) (h2:getAttr vo k σ₁=some v):EvE C (.attr o k) ρ σ v σ₁:=
 bnd h1 (mp_ h2)
theorem ev_idx (h1:EvE C o ρ σ vo σ₁) (h2:EvE C i ρ σ₁ vi σ₂) (h3:index vo vi σ₂=some v):EvE C (.idx o i) ρ σ v σ₂:=
 bnd h1 (bnd h2 (mp_ h3))
theorem ev_slc {lo hi:Option E} {vl vh:Option V} (h1:EvE C o ρ σ vo σ₁) (h2:EvO C lo ρ σ₁ vl σ₂) (h3:EvO C hi ρ σ₂ vh σ₃) (h4:slice vo vl vh=some v):EvE C (.slc o lo hi) ρ σ v σ₃:=
 bnd h1 (bnd h2 (bnd h3 (mp_ h4)))
theorem ev_o0:EvO C none ρ σ none σ:=rfl
theorem ev_o1 (h:EvE C e ρ σ v σ₁):EvO C (some e) ρ σ (some v) σ₁:=mp_ h
theorem ev_list {m:Bool} (h1:EvEs C es ρ σ vs σ₁) (h2:vs.length<1000):EvE C (.list m es) ρ σ (newList m vs σ₁).1 (newList m vs σ₁).2:=
 bnd h1 (if_pos h2)
theorem ev_listF (h1:EvEs C es ρ σ vs σ₁) (h2:vs.length<1000):EvE C (.list false es) ρ σ (.list vs) σ₁:=ev_list (m:=false) h1 h2
theorem ev_listT (h1:EvEs C es ρ σ vs σ₁) (h2:vs.length<1000):EvE C (.list true es) ρ σ (.loc σ₁.length) (σ₁++[.list vs]):=ev_list (m:=true) h1 h2
theorem ev_tup (h1:EvEs C es ρ σ vs σ₁) (h2:vs.length<1000):EvE C (.tup es) ρ σ (.tup vs) σ₁:=
 bnd h1 (if_pos h2)
theorem ev_dict {ks:List V} (h1:EvEs C es ρ σ vs σ₁) (h2:ks.length=vs.length∧ks.length<1000):EvE C (.dict ks es) ρ σ (.loc σ₁.length) (σ₁++[.dict (ks.zip vs)]):=
 bnd h1 (if_pos h2)
theorem ev_frz (h1:EvE C e ρ σ va σ₁) (h2:freeze va σ₁=some (v,σ₂)):EvE C (.frz e) ρ σ v σ₂:=
 bnd h1 (h2)
theorem ev_compF {x:Nat} {xs ws:List V} (h1:EvE C i ρ σ vi σ₁) (h2:seqItems vi=some xs) (h3:xs.length<1000000) (h4:mapL (fun v σ'=>evalE prog C e (ρ.set x (some v)) σ') xs σ₁=some (ws,σ₂)):EvE C (.comp false x i e) ρ σ (.list ws) σ₂:=
 bnd h1 (bnd h2 ((if_pos h3).trans (mp_ h4)))
theorem ev_compT {x:Nat} {xs ws:List V} (h1:EvE C i ρ σ vi σ₁) (h2:seqItems vi=some xs) (h3:xs.length<1000000) (h4:mapL (fun v σ'=>evalE prog C e (ρ.set x (some v)) σ') xs σ₁=some (ws,σ₂)):EvE C (.comp true x i e) ρ σ (.loc σ₂.length) (σ₂++[.list ws]):=
 bnd h1 (bnd h2 ((if_pos h3).trans (mp_ h4)))
theorem ev_compR {x:Nat} {xs ws:List V} (h1:EvE C i ρ σ vi σ₁) (h2:rangeV vi=some xs) (h3:xs.length<1000000) (h4:mapL (fun v σ'=>evalE prog C e (ρ.set x (some v)) σ') xs σ₁=some (ws,σ₂)):EvE C (.compR false x i e) ρ σ (.list ws) σ₂:=
 bnd h1 (bnd h2 ((if_pos h3).trans (mp_ h4)))
theorem mapL_nil {f:V→St→Option (V×St)}:mapL f [] σ=some ([],σ):=rfl
theorem mapL_cons {f:V→St→Option (V×St)} {x w:V} {xs ws:List V} (h:f x σ=some (w,σ₁)) (h':mapL f xs σ₁=some (ws,σ₂)):mapL f (x :: xs) σ=some (w :: ws,σ₂):=
 bnd h (mp_ h')
theorem evs_nil:EvEs C [] ρ σ [] σ:=rfl
theorem evs_cons (h1:EvE C e ρ σ v σ₁) (h2:EvEs C es ρ σ₁ vs σ₂):EvEs C (e :: es) ρ σ (v :: vs) σ₂:=
 bnd h1 (mp_ h2)
theorem et_not (h:EvT C a ρ σ q σ₁):EvT C (.not a) ρ σ (!q) σ₁:=mp_ h
theorem et_and {l:List E} (h:EvAnd C l ρ σ q σ₁):EvT C (.and l) ρ σ q σ₁:=h
theorem et_or {l:List E} (h:EvOr C l ρ σ q σ₁):EvT C (.or l) ρ σ q σ₁:=h
theorem et_cmp {op:CO} (h1:EvE C a ρ σ va σ₁) (h2:EvE C b ρ σ₁ vb σ₂) (h3:cmpop op va vb σ₂=some q):EvT C (.cmp op a b) ρ σ q σ₂:=
 bnd h1 (bnd h2 (mp_ h3))
theorem et_tst (h:EvE C e ρ σ v σ₁) (h':truth v σ₁=some q):EvT C (.tst e) ρ σ q σ₁:=bnd h (mp_ h')
theorem ea_nil:EvAnd C [] ρ σ true σ:=rfl
theorem ea_cons {q':Bool} (h1:EvT C e ρ σ q σ₁) (h2:cond q (evalAnd prog C es ρ σ₁) (some (false,σ₁))=some (q',σ₂)):EvAnd C (e :: es) ρ σ q' σ₂:=
 bnd h1 (by cases q <;> exact h2)
theorem eo_nil:EvOr C [] ρ σ false σ:=rfl
theorem eo_cons {q':Bool} (h1:EvT C e ρ σ q σ₁) (h2:cond q (some (true,σ₁)) (evalOr prog C es ρ σ₁)=some (q',σ₂)):EvOr C (e :: es) ρ σ q' σ₂:=
 bnd h1 (by cases q <;> exact h2)
theorem ea_t {q':Bool} (h1:EvT C e ρ σ true σ₁) (h2:EvAnd C es ρ σ₁ q' σ₂):EvAnd C (e :: es) ρ σ q' σ₂:=ea_cons h1 h2
theorem ea_f (h1:EvT C e ρ σ false σ₁):EvAnd C (e :: es) ρ σ false σ₁:=ea_cons h1 rfl
theorem eo_t (h1:EvT C e ρ σ true σ₁):EvOr C (e :: es) ρ σ true σ₁:=eo_cons h1 rfl
theorem eo_f {q':Bool} (h1:EvT C e ρ σ false σ₁) (h2:EvOr C es ρ σ₁ q' σ₂):EvOr C (e :: es) ρ σ q' σ₂:=eo_cons h1 h2
noncomputable def Run (W:Nat) (C:Callee) (ss:List S) (ρ:Loc) (σ:St) (Q:Ctl→Loc→St→Prop):Prop:=∃ c ρ' σ',evalSs prog W C ss ρ σ=some (c,ρ',σ')∧Q c ρ' σ'
variable {Q:Ctl→Loc→St→Prop} {ss r x y:List S}
theorem run_nil (h:Q .next ρ σ):Run W C [] ρ σ Q:=⟨_,_,_,rfl,h⟩
theorem run_of {s:S} {ρ':Loc} (h:evalS prog W C s ρ σ=some (.next,ρ',σ₁)) (h':Run W C ss ρ' σ₁ Q):Run W C (s :: ss) ρ σ Q:=e3_2 h' fun c ρ₂ σ₂ e k=>⟨c,ρ₂,σ₂,bnd h e,k⟩
theorem run_ret_of {s:S} {ρ':Loc} (h:evalS prog W C s ρ σ=some (.ret v,ρ',σ₁)) (k:Q (.ret v) ρ' σ₁):Run W C (s :: ss) ρ σ Q:=⟨_,_,_,bnd h rfl,k⟩
theorem run_asg {x:Nat} (h:EvE C e ρ σ v σ₁) (h':Run W C ss (ρ.set x (some v)) σ₁ Q):Run W C (.asg x e :: ss) ρ σ Q:=
 run_of (mp_ h) h'
theorem run_asgT {xs:List Nat} {ρ':Loc} (h:EvE C e ρ σ v σ₁) (h2:seqItems v=some vs) (h3:setAll xs vs ρ=some ρ') (h':Run W C ss ρ' σ₁ Q):Run W C (.asgT xs e :: ss) ρ σ Q:=
 run_of (bnd h (bnd h2 (mp_ h3))) h'
theorem run_asgI (h:EvE C e ρ σ v σ₁) (h1:EvE C o ρ σ₁ vo σ₂) (h2:EvE C i ρ σ₂ vi σ₃) (h3:setIdx vo vi v σ₃=some σ₄) (h':Run W C ss ρ σ₄ Q):Run W C (.asgI o i e :: ss) ρ σ Q:=
 run_of (bnd h (bnd h1 (bnd h2 (mp_ h3)))) h'
theorem run_asgA {k:Nat} (h:EvE C e ρ σ v σ₁) (h1:EvE C o ρ σ₁ vo σ₂) (h3:setAttr vo k v σ₂=some σ₃) (h':Run W C ss ρ σ₃ Q):Run W C (.asgA o k e :: ss) ρ σ Q:=
 run_of (bnd h (bnd h1 (mp_ h3))) h'
theorem run_aug {x:Nat} {op:BO} {old w:V} (h0:ρ[x]?=some (some old)) (h:EvE C e ρ σ v σ₁) (h1:augop op old v=some w) (h':Run W C ss (ρ.set x (some w)) σ₁ Q):Run W C (.aug x op e :: ss) ρ σ Q:=
 run_of (bnd (x:=ρ[x]?.bind id) (bnd h0 rfl) (bnd h (mp_ h1))) h'
theorem run_augI {op:BO} {old w:V} (h1:EvE C o ρ σ vo σ₁) (h2:EvE C i ρ σ₁ vi σ₂) (h0:index vo vi σ₂=some old) (h:EvE C e ρ σ₂ v σ₃) (h3:augop op old v=some w) (h4:setIdx vo vi w σ₃=some σ₄) (h':Run W C ss ρ σ₄ Q):Run W C (.augI o i op e :: ss) ρ σ Q:=
 run_of (bnd h1 (bnd h2 (bnd h0 (bnd h (bnd h3 (mp_ h4)))))) h'
theorem run_augA {k:Nat} {op:BO} {old w:V} (h1:EvE C o ρ σ vo σ₁) (h0:getAttr vo k σ₁=some old) (h:EvE C e ρ σ₁ v σ₂) (h3:augop op old v=some w) (h4:setAttr vo k w σ₂=some σ₃) (h':Run W C ss ρ σ₃ Q):Run W C (.augA o k op e :: ss) ρ σ Q:=
 run_of (bnd h1 (bnd h0 (bnd h (bnd h3 (mp_ h4))))) h'
theorem run_ret (h:EvE C e ρ σ v σ₁) (k:Q (.ret v) ρ σ₁):Run W C (.ret (some e) :: ss) ρ σ Q:=
 run_ret_of (mp_ h) k
theorem run_expr (h:EvE C e ρ σ .none σ₁) (h':Run W C ss ρ σ₁ Q):Run W C (.expr e :: ss) ρ σ Q:=
 run_of (bnd h (rfl)) h'
theorem seqC_append {x ss:List S} (h:∀ ρ σ,evalSs prog W C (x++ss) ρ σ=(evalSs prog W C x ρ σ).bind (seqC (evalSs prog W C ss))) (r:Ctl×Loc×St):seqC (evalSs prog W C (x++ss)) r=(seqC (evalSs prog W C x) r).bind (seqC (evalSs prog W C ss)):=
 match r with
 | (.next,ρ,σ)=>h ρ σ
 | (.ret _,_,_)=>rfl
theorem bind_seq {α β γ:Type} {f:α→Option γ} {g:α→Option β} {k:β→Option γ} (h:∀ a,f a=(g a).bind k) (o:Option α):o.bind f=(o.bind g).bind k:=o.casesOn rfl h
theorem evalSs_append (x ss:List S):∀ (ρ:Loc) (σ:St),evalSs prog W C (x++ss) ρ σ=(evalSs prog W C x ρ σ).bind (seqC (evalSs prog W C ss)):=
 x.rec (motive:=fun x=>∀ (ρ:Loc) (σ:St),evalSs prog W C (x++ss) ρ σ=(evalSs prog W C x ρ σ).bind (seqC (evalSs prog W C ss))) (fun _ _=>rfl) fun s _ ih ρ σ=>bind_seq (seqC_append ih) (evalS prog W C s ρ σ)
theorem run_ifs (h:EvT C t ρ σ q σ₁) (h':Run W C (cond q x y++ss) ρ σ₁ Q):Run W C (.ifs t x y :: ss) ρ σ Q:=
 e3_2 h' fun c ρ₂ σ₂ e k=>⟨c,ρ₂,σ₂,(congrArg (·.bind (seqC (evalSs prog W C ss))) (bnd h (by cases q <;> rfl):evalS prog W C (.ifs t x y) ρ σ=evalSs prog W C (cond q x y) ρ σ₁)).trans ((evalSs_append (cond q x y) ss ρ σ₁).symm.trans e),k⟩
theorem run_ifT (h:EvT C t ρ σ true σ₁) (h':Run W C (x++ss) ρ σ₁ Q):Run W C (.ifs t x y :: ss) ρ σ Q:=run_ifs (q:=true) h h'
theorem run_ifF (h:EvT C t ρ σ false σ₁) (h':Run W C (y++ss) ρ σ₁ Q):Run W C (.ifs t x y :: ss) ρ σ Q:=run_ifs (q:=false) h h'
theorem run_mono {Q':Ctl→Loc→St→Prop} (h:Run W C ss ρ σ Q) (k:∀ c ρ' σ',Q c ρ' σ'→Q' c ρ' σ'):Run W C ss ρ σ Q':=e3_2 (h) fun c ρ' σ' e z=>⟨c,ρ',σ',e,k _ _ _ z⟩
noncomputable def For (f:V→Loc→St→Option (Ctl×Loc×St)) (xs:List V) (ρ:Loc) (σ:St) (Q:Loc→St→Prop):Prop:=∃ ρ' σ',forL f xs ρ σ=some (.next,ρ',σ')∧Q ρ' σ'
variable {R:Loc→St→Prop} {f:V→Loc→St→Option (Ctl×Loc×St)} {xs:List V}
theorem for_nil (h:R ρ σ):For f [] ρ σ R:=⟨_,_,rfl,h⟩
theorem for_of {ρ':Loc} {w:V} (h:f w ρ σ=some (.next,ρ',σ₁)) (h':For f xs ρ' σ₁ R):For f (w :: xs) ρ σ R:=e2_2 h' fun ρ₂ σ₂ e k=>⟨ρ₂,σ₂,bnd h e,k⟩
theorem for_cons {z:Nat} {w:V} (h:Run W C x (ρ.set z (some w)) σ fun c ρ' σ'=>c = .next∧For (fun v ρ' σ'=>evalSs prog W C x (ρ'.set z (some v)) σ') xs ρ' σ' R):For (fun v ρ' σ'=>evalSs prog W C x (ρ'.set z (some v)) σ') (w :: xs) ρ σ R:=
 e3_3 h fun _ _ _ e z k=>for_of (z▸e) k
theorem for_consT {zs:List Nat} {w:V} {ρ₁:Loc} (h1:seqItems w=some vs) (h2:setAll zs vs ρ=some ρ₁) (h:Run W C x ρ₁ σ fun c ρ' σ'=>c = .next∧For (fun v ρ' σ'=>(seqItems v).bind fun vs=>(setAll zs vs ρ').bind fun ρ''=>evalSs prog W C x ρ'' σ') xs ρ' σ' R) :
  For (fun v ρ' σ'=>(seqItems v).bind fun vs=>(setAll zs vs ρ').bind fun ρ''=>evalSs prog W C x ρ'' σ') (w :: xs) ρ σ R:=
 e3_3 h fun c ρ₂ σ₂ e z k=>for_of (ρ':=ρ₂) (σ₁:=σ₂) (bnd h1 (bnd h2 (z▸e))) k
theorem run_for {z:Nat} (h:EvE C e ρ σ v σ₁) (h1:iterItems v=some xs) (h':For (fun v ρ' σ'=>evalSs prog W C x (ρ'.set z (some v)) σ') xs ρ σ₁ fun ρ' σ'=>Run W C ss ρ' σ' Q):Run W C (.for z e x :: ss) ρ σ Q:=by
 refine e2_2 h' fun ρ' σ' e' k=>?_
 exact run_of (bnd h (bnd h1 e')) k
theorem run_forT {zs:List Nat} (h:EvE C e ρ σ v σ₁) (h1:seqItems v=some xs) (h':For (fun v ρ' σ'=>(seqItems v).bind fun vs=>(setAll zs vs ρ').bind fun ρ''=>evalSs prog W C x ρ'' σ') xs ρ σ₁ fun ρ' σ'=>Run W C ss ρ' σ' Q):Run W C (.forT zs e x :: ss) ρ σ Q:=by
 refine e2_2 h' fun ρ' σ' e' k=>?_
 exact run_of (bnd h (bnd h1 e')) k
noncomputable def Whl (t:Loc→St→Option (Bool×St)) (f:Loc→St→Option (Ctl×Loc×St)) (n:Nat) (ρ:Loc) (σ:St) (Q:Ctl→Loc→St→Prop):Prop:=∃ c ρ' σ',whileN t f n ρ σ=some (c,ρ',σ')∧Q c ρ' σ'
variable {n:Nat} {tt:Loc→St→Option (Bool×St)} {ff:Loc→St→Option (Ctl×Loc×St)}
theorem whl_end (h:EvT C t ρ σ false σ₁) (k:Q .next ρ σ₁):Whl (evalT prog C t) ff (n+1) ρ σ Q:=⟨_,_,_,bnd h rfl,k⟩
theorem whl_go (h:EvT C t ρ σ true σ₁) (h':Run W C x ρ σ₁ fun c ρ' σ'=>match c with | .next=>Whl (evalT prog C t) (evalSs prog W C x) n ρ' σ' Q | .ret v=>Q (.ret v) ρ' σ'):Whl (evalT prog C t) (evalSs prog W C x) (n+1) ρ σ Q:=by
 refine e3_2 h' fun c ρ₁ σ₂ e k=>?_
 cases c with
 | next=>exact e3_2 k fun c' ρ' σ' e' k'=>⟨c',ρ',σ',bnd h (bnd e e'),k'⟩
 | ret v=>exact ⟨_,_,_,bnd h (bnd e rfl),k⟩
theorem run_while (h':Whl (evalT prog C t) (evalSs prog W C x) W ρ σ fun c ρ' σ'=>match c with | .next=>Run W C ss ρ' σ' Q | .ret v=>Q (.ret v) ρ' σ'):Run W C (.while t x :: ss) ρ σ Q:=by
 refine e3_2 h' fun c ρ₁ σ₁ e k=>?_
 cases c with
 | next=>exact run_of e k
 | ret v=>exact run_ret_of e k
theorem call_pure {d f:Nat} {fn:Fn} {args:List V} (hf:fns[f]?=some fn) (hl:args.length=fn.arity) (hp:v.pure=true)
  (h:Run W (callF prog W d) fn.body (args.map some++List.replicate (fn.slots - fn.arity) none) σ fun c ρ' σ'=>c = .ret v∧σ'.take σ.length=σ):callF prog W (d+1) f args σ=some (v,σ):=
 e3_3 h fun c ρ' σ' e z ht=>bnd hf ((if_pos hl).trans ((mp_ e).trans (congrArg some (z▸if_pos ⟨hp,ht⟩))))
theorem call_store {d f:Nat} {fn:Fn} {args:List V} (hf:fns[f]?=some fn) (hl:args.length=fn.arity)
  (h:Run W (callF prog W d) fn.body (args.map some++List.replicate (fn.slots - fn.arity) none) σ fun c ρ' σ'=>c = .ret v∧σ'=σ₁) (hn:¬(v.pure=true∧σ₁.take σ.length=σ)):callF prog W (d+1) f args σ=some (v,σ₁):=
 e3_3 h fun c ρ' σ' e z y=>bnd hf ((if_pos hl).trans ((mp_ e).trans (congrArg some (show bodyR (c,ρ',σ') σ=(v,σ₁) from z▸y▸(if_neg hn:leave v σ σ₁=(v,σ₁))))))
theorem call_next {d f:Nat} {fn:Fn} {args:List V} {ρ':Loc} (hf:fns[f]?=some fn) (hl:args.length=fn.arity)
  (e:evalSs prog W (callF prog W d) fn.body (args.map some++List.replicate (fn.slots - fn.arity) none) σ=some (.next,ρ',σ₁)) (hn:σ₁.take σ.length≠σ):callF prog W (d+1) f args σ=some (.none,σ₁):=
 bnd hf ((if_pos hl).trans ((mp_ e).trans (congrArg some (if_neg fun z=>hn z.2:leave .none σ σ₁=(.none,σ₁)))))
end
section
variable {σ:St}
theorem add_ss {s t:Txt} (h:s.length+t.length<1000000):binop .add (.str s) (.str t) σ=some (.str (s++t)):=if_pos h
theorem add_ii {i j:Int}:binop .add (.int i) (.int j) σ=some (.int (i+j)):=rfl
theorem sub_ii {i j:Int}:binop .sub (.int i) (.int j) σ=some (.int (i - j)):=rfl
theorem mod_ii {i j:Int} (h:0<j):binop .mod (.int i) (.int j) σ=some (.int (i % j)):=if_pos h
theorem aug_ss {s t:Txt} (h:s.length+t.length<1000000):augop .add (.str s) (.str t)=some (.str (s++t)):=if_pos h
end
end
section
section
variable {W:Nat} {C:Callee} {ρ:Loc} {σ σ₀:St} {r:St} {e a b t o i lo hi:E} {v w va vb vo vi vl vh:V} {vs xs ys:List V} {es:List E} {q:Bool} {k:Nat}
theorem gk {x:Option Cel} (h:r[k]?=x):(σ++r)[σ.length+k]?=x:=by
 rw [List.getElem?_append_right (Nat.le_add_right _ _),Nat.add_sub_cancel_left]; exact h
theorem sk {y:Cel}:(σ++r).set (σ.length+k) y=σ++r.set k y:=by
 rw [List.set_append_right _ _ (Nat.le_add_right _ _),Nat.add_sub_cancel_left]
theorem len_ap {n:Nat} (h:r.length=n):(σ++r).length=σ.length+n:=by rw [List.length_append,h]
theorem b_listT {r':St} {n:Nat} (h1:EvEs C es ρ σ₀ vs (σ++r)) (h2:vs.length<1000) (hn:r.length=n) (hr:r++[.list vs]=r'):EvE C (.list true es) ρ σ₀ (.loc (σ.length+n)) (σ++r'):=by
 have:=ev_listT h1 h2
 rw [len_ap hn,List.append_assoc,hr] at this
 exact this
theorem b_new1 {c f n:Nat} {r':St} {σ₂:St} (h2:prog.init c=some (some f)) (h1:EvEs C es ρ σ₀ vs (σ++r)) (hn:r.length=n) (hr:r++[.inst c,.attrs []]=r') (h3:C f (.loc (σ.length+n) :: vs) (σ++r')=some (.none,σ₂)):EvE C (.new c es) ρ σ₀ (.loc (σ.length+n)) σ₂:=by
 have:=ev_new1 (σ₂:=σ₂) h2 h1
 rw [len_ap hn,List.append_assoc,hr] at this
 exact this h3
theorem b_compT {x n:Nat} {ws:List V} {σ₁ r':St} (h1:EvE C i ρ σ₀ vi σ₁) (h2:seqItems vi=some xs) (h3:xs.length<1000000) (h4:mapL (fun v σ'=>evalE prog C e (ρ.set x (some v)) σ') xs σ₁=some (ws,σ++r)) (hn:r.length=n) (hr:r++[.list ws]=r'):EvE C (.comp true x i e) ρ σ₀ (.loc (σ.length+n)) (σ++r'):=by
 have:=ev_compT h1 h2 h3 h4
 rw [len_ap hn,List.append_assoc,hr] at this
 exact this
theorem ev_pr {j m f:Nat} {σ₂ σ₃:St} (h1:ρ[j]?=some (some (.loc 2))) (h2:clsOf (.loc 2) σ=some 2) (h3:prog.meth 2 m=some f) (h4:EvEs C es ρ σ vs σ₂) (h5:C f (.loc 2 :: vs) σ₂=some (v,σ₃)):EvE C (.meth (.x j) m es) ρ σ v σ₃:=ev_meth (ev_x h1) h2 h3 h4 h5
theorem o_idx (h:r[k]?=some (.list xs)) (h':ati xs vi=some v):index (.loc (σ.length+k)) vi (σ++r)=some v:=bnd (gk h) h'
theorem o_idxF (h:r[k]?=some (.flist xs)) (h':ati xs vi=some v):index (.loc (σ.length+k)) vi (σ++r)=some v:=bnd (gk h) h'
theorem o_items (h:r[k]?=some (.list xs)):items (.loc (σ.length+k)) (σ++r)=some xs:=bnd (gk h) rfl
theorem o_len (h:items (.loc (σ.length+k)) (σ++r)=some xs) (h':xs.length<1000000):lenV (.loc (σ.length+k)) (σ++r)=some (.int xs.length):=(bnd h (if_pos h'):lenL _ _=_)
theorem o_lenN {n:Int} (h:items va σ₀=some xs) (h':xs.length<1000000) (hn:(xs.length:Int)=n) (ht:va.isTxt=false):lenV va σ₀=some (.int n):=V.sw_inv h (fun _ _=>noS) (fun _ _=>noS) (fun _ e _=>by subst e; subst hn; exact (bnd h (if_pos h'):lenL _ _=_)) (fun _ _=>noS) fun _ e _=>by subst e; subst hn; exact (bnd h (if_pos h'):lenL _ _=_)
theorem o_lenL (h':xs.length<1000000):lenV (.list xs) σ=some (.int xs.length):=if_pos h'
theorem o_addL (h:items va σ₀=some xs) (h':items vb σ₀=some ys) (hn:xs.length+ys.length<1000000):binop .add va vb σ₀=some (.list (xs++ys)):=V.sw_inv h (fun _ _=>noS) (fun _ _=>noS) (fun _ e _=>by subst e; exact (bnd h (bnd h' (if_pos hn)):addL _ _ _=_)) (fun _ _=>noS) fun _ e _=>by subst e; exact (bnd h (bnd h' (if_pos hn)):addL _ _ _=_)
theorem o_cls (h:r[k]?=some (.list xs)):clsOf (.loc (σ.length+k)) (σ++r)=none:=congrArg (fun o=>((Option.bind o Cel.toInst).bind _).map _) (gk h)
theorem o_kind {m:Nat} (h:r[k]?=some (.list xs)) (hm:decide (m<3)=true):bkind (.loc (σ.length+k)) m (σ++r)=true:=(congrArg (Option.any _) (gk h)).trans hm
theorem o_app (h:r[k]?=some (.list xs)) (h':xs.length<1000000):bmeth (.loc (σ.length+k)) 0 [v] (σ++r)=some (.none,σ++r.set k (.list (xs++[v]))):=bnd (gk h) ((if_pos h').trans (congrArg (fun z=>some (V.none,z)) sk))
theorem o_ext (h:r[k]?=some (.list xs)) (h':xs.length+ys.length<1000000):bmeth (.loc (σ.length+k)) 1 [.list ys] (σ++r)=some (.none,σ++r.set k (.list (xs++ys))):=bnd (gk h) ((if_pos h').trans (congrArg (fun z=>some (V.none,z)) sk))
theorem o_pop (h:r[k]?=some (.list (xs++[v]))) (h':xs.length<999999):bmeth (.loc (σ.length+k)) 2 [] (σ++r)=some (v,σ++r.set k (.list xs)):=bnd (gk h) ((if_pos (by rw [List.length_append]; exact Nat.lt_of_lt_of_eq (Nat.succ_lt_succ h') rfl:(xs++[v]).length<1000000)).trans (by
  rw [List.getLast?_concat,List.dropLast_concat,Option.map_some,sk]))
theorem o_frz (h:r[k]?=some (.list xs)):freeze (.loc (σ.length+k)) (σ++r)=some (.list xs,σ++r.set k (.flist xs)):=bnd (gk h) (congrArg (fun z=>some (V.list xs,z)) sk)
theorem o_frzO {c:Nat} {kv:List (Nat×V)} (h:r[k]?=some (.inst c)) (h':r[k+1]?=some (.attrs kv)):freeze (.loc (σ.length+k)) (σ++r)=some (.obj c kv,σ++(r.set k .gone).set (k+1) .gone):=bnd (gk h) ((congrArg (Option.map _) (bnd (gk h') rfl:(σ++r)[σ.length+(k+1)]?.bind Cel.toAttrs=some kv)).trans (by
  show some _=_; rw [sk,Nat.add_assoc,sk]))
theorem o_setA {c n:Nat} {kv:List (Nat×V)} (h:r[k]?=some (.inst c)) (h':r[k+1]?=some (.attrs kv)) (hn:kv.length<100):setAttr (.loc (σ.length+k)) n v (σ++r)=some (σ++r.set (k+1) (.attrs (aset kv n v))):=bnd (a:=σ.length+k) rfl (bnd (bnd (bnd (gk h) rfl) (mp_ (bnd (gk h') rfl)):instAt (σ.length+k) (σ++r)=some (c,kv)) ((if_pos hn).trans (congrArg some (sk (k:=k+1)))))
theorem o_setI {j:Int} (h:r[k]?=some (.list xs)) (hj:0≤j∧j<xs.length∧xs.length<1000000):setIdx (.loc (σ.length+k)) (.int j) v (σ++r)=some (σ++r.set k (.list (xs.set j.toNat v))):=bnd (a:=σ.length+k) rfl (bnd (gk h) ((if_pos hj).trans (congrArg some sk)))
theorem call_p {d f:Nat} {fn:Fn} {args:List V} (hf:fns[f]?=some fn) (hl:args.length=fn.arity) (hp:v.pure=true)
  (h:Run W (callF prog W d) fn.body (args.map some++List.replicate (fn.slots - fn.arity) none) (σ++[]) fun c ρ' σ'=>c = .ret v∧∃ r,σ'=σ++r):callF prog W (d+1) f args σ=some (v,σ):=by
 rw [List.append_nil] at h
 refine call_pure hf hl hp (run_mono h ?_)
 rintro c ρ' σ' ⟨h1,r,rfl⟩
 exact ⟨h1,List.take_left⟩
end
end
local macro_rules | `(tactic| wtm_at "ql") => `(tactic| first | lia | (simp only [List.length_append, List.length_cons, List.length_nil, List.length_map, List.length_range]; lia))
local macro_rules | `(tactic| wtm_at "ql") => `(tactic| exact Nat.le_of_ble_eq_true rfl)
local macro_rules | `(tactic| wtm_at "qc") => `(tactic| first | exact o_cls rfl | exact o_kind rfl rfl)
local macro_rules | `(tactic| wtm_at "qc") => `(tactic| first | refine o_ext rfl ?_ | exact o_frz rfl | exact o_frzF rfl | exact o_frzO rfl rfl | refine o_setA rfl rfl ?_ | exact o_setI rfl (of_decide_eq_true rfl))
local macro_rules | `(tactic| wtm_at "qc") => `(tactic| first | exact o_idxF rfl rfl | refine o_lenL ?_ | refine o_lenS ?_ | refine o_len (o_items rfl) ?_ | refine o_len (o_itemsF rfl) ?_ | refine o_app rfl ?_)
local macro_rules | `(tactic| wtm_at "qc") => `(tactic| first | refine add_ss ?_ | refine o_addL rfl rfl ?_ | refine o_addL (o_items rfl) rfl ?_ | refine o_addL rfl (o_items rfl) ?_ | refine aug_ss ?_ | exact o_idx rfl rfl)
local macro_rules | `(tactic| wtm_at "qa") => `(tactic| first | ((with_reducible show Run _ _ (cond _ _ _ ++ _) _ _ _); dsimp only [cond, List.cons_append, List.nil_append]) | ((with_reducible show Ctl.next = Ctl.next ∧ _); refine ⟨rfl, ?_⟩))
local macro_rules | `(tactic| wtm_at "qa") => `(tactic| first | ((with_reducible apply run_aug); focus exact rfl) | ((with_reducible show evalE _ _ (cond _ _ _) _ _ = _); dsimp only [cond]) | ((with_reducible show cond false (evalAnd _ _ _ _ _) _ = _); exact rfl) | ((with_reducible show cond true (evalAnd _ _ _ _ _) _ = _); show EvAnd _ _ _ _ _ _) | ((with_reducible show cond true _ (evalOr _ _ _ _ _) = _); exact rfl) | ((with_reducible show cond false _ (evalOr _ _ _ _ _) = _); show EvOr _ _ _ _ _ _))
local macro_rules | `(tactic| wtm_at "qa") => `(tactic| ((with_reducible apply ev_x); focus exact rfl))
local macro_rules | `(tactic| wtm_at "qa") => `(tactic| with_reducible first | exact mapL_nil | apply mapL_cons | exact ⟨rfl, _, rfl⟩ | apply ev_methB)
local macro_rules | `(tactic| wtm_at "qa") => `(tactic| with_reducible first | apply run_for | apply run_forT | apply for_nil | apply for_cons | apply for_consT | apply run_nil)
local macro_rules | `(tactic| wtm_at "qa") => `(tactic| with_reducible first | apply run_asgA | apply run_augI | apply run_augA | apply run_ret | apply run_expr | apply run_ifs)
local macro_rules | `(tactic| wtm_at "qa") => `(tactic| with_reducible first | exact eo_nil | apply ea_cons | apply eo_cons | apply run_asg | apply run_asgT | apply run_asgI)
local macro_rules | `(tactic| wtm_at "qa") => `(tactic| with_reducible first | apply et_and | apply et_or | apply et_cmp | apply et_not | apply et_tst | exact ea_nil)
local macro_rules | `(tactic| wtm_at "qa") => `(tactic| with_reducible first | apply ev_listF | refine' b_listT ?_ ?_ rfl rfl | apply ev_tup | apply ev_frz | exact evs_nil | apply evs_cons)
local macro_rules | `(tactic| wtm_at "qa") => `(tactic| with_reducible first | apply ev_attr | apply ev_idx | apply ev_slc | apply ev_repl | exact ev_o0 | apply ev_o1)
local macro_rules | `(tactic| wtm_at "qa") => `(tactic| with_reducible first | exact ev_c | apply ev_bin | apply ev_cmp | apply ev_ite | apply ev_call | apply ev_len)
local macro_rules | `(tactic| wtm_at "qa") => `(tactic| ((with_reducible refine' ev_pr ?zq1 ?zq2 ?zq3 ?_ ?_); (case zq1 => exact rfl); (case zq2 => exact rfl); (case zq3 => exact rfl)))
local macro_rules | `(tactic| wtm_at "qb") => `(tactic| ((with_reducible first | show binop _ _ _ _ = _ | show augop _ _ _ = _ | show index _ _ _ = _ | show lenV _ _ = _ | show bmeth _ _ _ _ = _ | show freeze _ _ = _ | show setAttr _ _ _ _ = _ | show setIdx _ _ _ _ = _ | show clsOf _ _ = _ | show bkind _ _ _ = _); wtm_at "qc"))
local macro_rules | `(tactic| wtm_at "qb") => `(tactic| exact rfl)
local macro_rules | `(tactic| wtm_at "qb") => `(tactic| ((with_reducible show _ < _); wtm_at "ql"))
local macro_rules | `(tactic| wtm_at "qb") => `(tactic| ((with_reducible first | show cmpop _ _ _ _ = some _ | show truth _ _ = some _); first | exact (rfl : _ = some true) | exact (rfl : _ = some false)))
section
set_option linter.unusedSimpArgs false
theorem need:∀ {n d:Nat},n+1≤d→∃ d',d=d'+1∧n≤d'
 | _,_+1,h=>⟨_,rfl,Nat.le_of_succ_le_succ h⟩
variable {W:Nat}
noncomputable def nd (k:Int) (a:Txt) (kids:List V):V:=.obj 0 [(0,.int k),(1,.str a),(2,.list kids),(3,.int 0),(4,.int 0),(5,.int 0)]
theorem nd_pure {k:Int} {a:Txt} {kids:List V} (h:V.pures kids=true):(nd k a kids).pure=true:=by
 show (V.purek _)=true
 simp [V.purek,V.pure,h]
theorem node_init {d:Nat} (h:1≤d) {σ:St} {k:Int} {a:Txt} {kids:List V}:callF prog W d 0 [.loc σ.length,.int k,.str a,.list kids,.int 0,.int 0] (σ++[.inst 0,.attrs []])=some (.none,σ++[.inst 0,.attrs [(0,.int k),(1,.str a),(2,.list kids),(3,.int 0),(4,.int 0),(5,.int 0)]]):=by
 obtain ⟨d,rfl,hd⟩:=need h
 have R:Run W (callF prog W d) b_Node_init [some (.loc (σ.length+0)),some (.int k),some (.str a),some (.list kids),some (.int 0),some (.int 0)] (σ++[.inst 0,.attrs []]) fun c ρ' σ'=>c = .next∧σ'=σ++[.inst 0,.attrs [(0,.int k),(1,.str a),(2,.list kids),(3,.int 0),(4,.int 0),(5,.int 0)]]:=by
  unfold b_Node_init
  repeat' (first | wtm_at "qa" | wtm_at "qb")
 refine e3_3 R fun c ρ' σ' e z y=>call_next (fn:=⟨6,6,b_Node_init⟩) rfl rfl (y▸z▸e) fun z=>?_
 rw [List.take_of_length_le (by simp)] at z
 exact nomatch List.append_cancel_left z
theorem leaf_ok {d:Nat} (h:2≤d) {σ:St} {k:Int} {a:Txt}:callF prog W d 1 [.int k,.str a,.int 0] σ=some (nd k a [],σ):=by
 obtain ⟨d,rfl,hd⟩:=need h
 refine call_pure (fn:=⟨3,3,b_leaf⟩) rfl rfl (nd_pure rfl) ?_
 refine run_ret (ev_frz (ev_new1 rfl (vs:=[.int k,.str a,.list [],.int 0,.int 0]) (σ₁:=σ) ?_ (node_init (Nat.le_trans (Nat.le_of_ble_eq_true rfl) hd))) (o_frzO (k:=0) rfl rfl)) ⟨rfl,List.take_left⟩
 repeat' (first | wtm_at "qa" | wtm_at "qb")
theorem twig_ok {d:Nat} (h:2≤d) {σ:St} {k:Int} {a:Txt} {kids:List V} (hk:V.pures kids=true):callF prog W d 2 [.int k,.str a,.list kids,.int 0] σ=some (nd k a kids,σ):=by
 obtain ⟨d,rfl,hd⟩:=need h
 refine call_pure (fn:=⟨4,4,b_twig⟩) rfl rfl (nd_pure hk) ?_
 refine run_ret (ev_frz (ev_new1 rfl (vs:=[.int k,.str a,.list kids,.int 0,.int 0]) (σ₁:=σ) ?_ (node_init (Nat.le_trans (Nat.le_of_ble_eq_true rfl) hd))) (o_frzO (k:=0) rfl rfl)) ⟨rfl,List.take_left⟩
 repeat' (first | wtm_at "qa" | wtm_at "qb")
noncomputable def nmV (a:Txt):V:=nd 8 a []
theorem name_ok {d:Nat} (h:3≤d) {σ:St} {a:Txt}:callF prog W d 43 [.str a] σ=some (nmV a,σ):=by
 obtain ⟨d,rfl,hd⟩:=need h
 refine call_p (fn:=⟨1,1,b_law_name⟩) rfl rfl (nd_pure rfl) ?_
 show Run W _ b_law_name [some (.str a)] _ _
 unfold b_law_name
 repeat' (first | wtm_at "qa" | ((with_reducible show callF _ _ _ _ _ _=_); first | exact leaf_ok (Nat.le_trans (Nat.le_of_ble_eq_true rfl) hd)) | wtm_at "qb")
noncomputable def varV (kw x:Txt) (v:V):V:=nd 41 kw [nd 42 [] [nmV x,.none,v]]
theorem var2_at {d:Nat} (h:4≤d) {σ:St} {kw x:Txt} {w:V} (hl:lenV w σ=some (.int 2)) (h0:index w (.int 0) σ=some (.str kw)) (h1:index w (.int 1) σ=some (.str x)):callF prog W d 44 [w] σ=some (varV kw x .none,σ):=by
 obtain ⟨d,rfl,hd⟩:=need h
 refine call_pure (fn:=⟨1,2,b_law_var⟩) rfl rfl rfl ?_
 show Run W _ b_law_var [some _,none] _ _
 unfold b_law_var
 repeat' (first | wtm_at "qa" | ((with_reducible show callF _ _ _ _ _ _=_); first | exact name_ok (Nat.le_trans (Nat.le_of_ble_eq_true rfl) hd) | exact twig_ok (Nat.le_trans (Nat.le_of_ble_eq_true rfl) hd) rfl) | exact hl | exact h0 | exact h1 | exact ⟨rfl,List.take_length⟩ | wtm_at "qb")
theorem var4_at {d:Nat} (h:4≤d) {σ:St} {kw x z:Txt} {w:V} (hl:lenV w σ=some (.int 4)) (h0:index w (.int 0) σ=some (.str kw)) (h1:index w (.int 1) σ=some (.str x)) (h3:index w (.int 3) σ=some (.str z)):callF prog W d 44 [w] σ=some (varV kw x (nmV z),σ):=by
 obtain ⟨d,rfl,hd⟩:=need h
 refine call_pure (fn:=⟨1,2,b_law_var⟩) rfl rfl rfl ?_
 show Run W _ b_law_var [some _,none] _ _
 unfold b_law_var
 repeat' (first | wtm_at "qa" | ((with_reducible show callF _ _ _ _ _ _=_); first | exact name_ok (Nat.le_trans (Nat.le_of_ble_eq_true rfl) hd) | exact twig_ok (Nat.le_trans (Nat.le_of_ble_eq_true rfl) hd) rfl) | exact hl | exact h0 | exact h1 | exact h3 | exact ⟨rfl,List.take_length⟩ | wtm_at "qb")
theorem var2_ok {d:Nat} (h:4≤d) {σ:St} {kw x:Txt}:callF prog W d 44 [.list [.str kw,.str x]] σ=some (varV kw x .none,σ):=var2_at h rfl rfl rfl
theorem var4_ok {d:Nat} (h:4≤d) {σ:St} {kw x y z:Txt}:callF prog W d 44 [.list [.str kw,.str x,.str y,.str z]] σ=some (varV kw x (nmV z),σ):=var4_at h rfl rfl rfl rfl
end
@[elab_as_elim] theorem fin8 {p:Fin 8→Prop} (i:Fin 8) (h0:p 0) (h1:p 1) (h2:p 2) (h3:p 3) (h4:p 4) (h5:p 5) (h6:p 6) (h7:p 7):p i:=match i with | 0=>h0 | 1=>h1 | 2=>h2 | 3=>h3 | 4=>h4 | 5=>h5 | 6=>h6 | 7=>h7
@[elab_as_elim] theorem fin4 {p:Fin 4→Prop} (i:Fin 4) (h0:p 0) (h1:p 1) (h2:p 2) (h3:p 3):p i:=match i with | 0=>h0 | 1=>h1 | 2=>h2 | 3=>h3
theorem nat4 {p:Nat→Prop} {k:Nat} (h:k<4) (h0:p 0) (h1:p 1) (h2:p 2) (h3:p 3):p k:=match k,h with | 0,_=>h0 | 1,_=>h1 | 2,_=>h2 | 3,_=>h3
theorem nat2 {p:Nat→Prop} {k:Nat} (h:k<2) (h0:p 0) (h1:p 1):p k:=match k,h with | 0,_=>h0 | 1,_=>h1
theorem at16 {p:Nat→Prop} {k a b:Nat} (e:a=k / 4) (f:b=k % 4) (h:p (4 * a+b)):p k:=Nat.div_add_mod k 4▸e▸f▸h
theorem nat16 {p:Nat→Prop} {k:Nat} (h:k<16) (h0:p 0) (h1:p 1) (h2:p 2) (h3:p 3) (h4:p 4) (h5:p 5) (h6:p 6) (h7:p 7) (h8:p 8) (h9:p 9) (h10:p 10) (h11:p 11) (h12:p 12) (h13:p 13) (h14:p 14) (h15:p 15):p k:=
 nat4 (p:=fun j=>j=k / 4→p k) (Nat.div_lt_of_lt_mul h) (fun e=>nat4 (p:=fun j=>j=k % 4→p k) (Nat.mod_lt k (by decide)) (fun f=>at16 e f h0) (fun f=>at16 e f h1) (fun f=>at16 e f h2) (fun f=>at16 e f h3) rfl) (fun e=>nat4 (p:=fun j=>j=k % 4→p k) (Nat.mod_lt k (by decide)) (fun f=>at16 e f h4) (fun f=>at16 e f h5) (fun f=>at16 e f h6) (fun f=>at16 e f h7) rfl)
  (fun e=>nat4 (p:=fun j=>j=k % 4→p k) (Nat.mod_lt k (by decide)) (fun f=>at16 e f h8) (fun f=>at16 e f h9) (fun f=>at16 e f h10) (fun f=>at16 e f h11) rfl) (fun e=>nat4 (p:=fun j=>j=k % 4→p k) (Nat.mod_lt k (by decide)) (fun f=>at16 e f h12) (fun f=>at16 e f h13) (fun f=>at16 e f h14) (fun f=>at16 e f h15) rfl) rfl
noncomputable abbrev Lt:=Fin 6
noncomputable def lt (a:Lt):Txt:=[[97,98,99,100,101,113].getD a.val 0]
set_option genInjectivity true in
inductive H where
 | wh (a:Lt)
 | fr (f:Fin 4) (p:Option Lt) (c:Bool)
 | ea (k:Fin 3) (o:Bool) (a:Lt)
inductive BS where
 | block
 | tr
 | sw (a:Lt)
inductive US where
 | ifs (a:Lt)
 | loop (h:H)
 | lab (a:Lt)
 | dow (a:Lt)
inductive T where
 | row (i:Fin 8)
 | b0 (s:BS)
 | b1 (s:BS) (k:T)
 | b2 (s:BS) (k l:T)
 | u (s:US) (k:T)
 | ie (a:Lt) (k l:T)
noncomputable def frF:Fin 4→List Txt
 | 0=>[]
 | 1=>[[120]]
 | 2=>[[108,101,116],[120],[61],[98]]
 | 3=>[[118,97,114],[120]]
noncomputable def frP (p:Option Lt):List Txt:=match p with | none=>[] | some a=>[lt a]
noncomputable def frC (c:Bool):List Txt:=cond c [[99]] []
noncomputable def kwT:Fin 3→Txt
 | 0=>[99,111,110,115,116]
 | 1=>[108,101,116]
 | 2=>[118,97,114]
noncomputable def ofT (o:Bool):Txt:=cond o [111,102] [105,110]
noncomputable def H.in_:H→List Txt
 | .wh a=>[lt a]
 | .fr f p c=>frF f++[59] :: (frP p++[59] :: frC c)
 | .ea k o a=>[kwT k,[120],ofT o,lt a]
noncomputable def H.toks:H→List Txt
 | .wh a=>[[119,104,105,108,101],[40],lt a,[41]]
 | h=>[102,111,114] :: [40] :: (h.in_++[[41]])
noncomputable def ifT (a:Lt):List Txt:=[[105,102],[40],lt a,[41]]
noncomputable def sp (l:List Txt):Txt:=join [32] l
noncomputable def rowT:Fin 8→List Txt
 | 0=>[[98],[59]]
 | 1=>[[59]]
 | 2=>[[118,97,114],[120],[61],[98],[59]]
 | 3=>[[98,114,101,97,107],[59]]
 | 4=>[[99,111,110,116,105,110,117,101],[97],[59]]
 | 5=>[[114,101,116,117,114,110],[98],[59]]
 | 6=>[[116,104,114,111,119],[99],[59]]
 | 7=>[[100],[59]]
noncomputable def BS.sort:BS→Txt
 | .block=>[98,108,111,99,107]
 | .tr=>[116,114,121]
 | .sw _=>[115,119,105,116,99,104]
noncomputable def BS.word:BS→Txt
 | .sw a=>lt a
 | _=>[]
noncomputable def US.sort:US→Txt
 | .ifs _=>[105,102]
 | .loop _=>[108,111,111,112]
 | .lab _=>[108,97,98,101,108]
 | .dow _=>[100,111]
noncomputable def US.word:US→Txt
 | .ifs a=>sp (ifT a)
 | .loop h=>sp h.toks
 | .lab a=>lt a
 | .dow a=>lt a
noncomputable def ter (s w:Txt) (ks:List V):V:=.list [.str s,.str w,.list ks]
noncomputable def T.v:T→V
 | .row i=>ter [114,111,119] (sp (rowT i)) []
 | .b0 s=>ter s.sort s.word []
 | .b1 s k=>ter s.sort s.word [k.v]
 | .b2 s k l=>ter s.sort s.word [k.v,l.v]
 | .u s k=>ter s.sort s.word [k.v]
 | .ie a k l=>ter [105,102] (sp (ifT a)) [k.v,l.v]
noncomputable def rowN:Fin 8→V
 | 0=>nd 43 [] [nmV [98]]
 | 1=>nd 60 [] []
 | 2=>varV [118,97,114] [120] (nmV [98])
 | 3=>nd 53 [] []
 | 4=>nd 54 [97] []
 | 5=>nd 52 [] [nmV [98]]
 | 6=>nd 56 [] [nmV [99]]
 | 7=>nd 43 [] [nmV [100]]
noncomputable def oneN (l:List Txt):V:=match l with
 | [x]=>nmV x
 | _=>.none
noncomputable def frN:Fin 4→V
 | 0=>.none
 | 1=>nd 43 [] [nmV [120]]
 | 2=>varV [108,101,116] [120] (nmV [98])
 | 3=>varV [118,97,114] [120] .none
noncomputable def H.n (h:H) (k:V):V:=match h with
 | .wh a=>nd 45 [] [nmV (lt a),k]
 | .fr f p c=>nd 47 [] [frN f,oneN (frP p),oneN (frC c),k]
 | .ea x o a=>nd (cond o 48 49) [] [varV (kwT x) [120] .none,nmV (lt a),k]
noncomputable def BS.n (s:BS) (ks:List V):V:=match s with
 | .block=>nd 59 [] ks
 | .tr=>nd 57 [] [nd 59 [] [],.none,nd 59 [] ks]
 | .sw a=>nd 50 [] [nmV (lt a),nd 51 [] (.none :: ks)]
noncomputable def US.n (s:US) (k:V):V:=match s with
 | .ifs a=>nd 44 [] [nmV (lt a),k,.none]
 | .loop h=>h.n k
 | .lab a=>nd 55 (lt a) [k]
 | .dow a=>nd 46 [] [k,nmV (lt a)]
noncomputable def T.n:T→V
 | .row i=>rowN i
 | .b0 s=>s.n []
 | .b1 s k=>s.n [k.n]
 | .b2 s k l=>s.n [k.n,l.n]
 | .u s k=>s.n k.n
 | .ie a k l=>nd 44 [] [nmV (lt a),k.n,l.n]
noncomputable def allL:List Lt:=[0,1,2,3,4,5]
theorem mem_allL (a:Lt):a ∈ allL:=by revert a; decide
noncomputable def allH:List H:=allL.map .wh++([0,1,2,3].flatMap fun f=>(none :: allL.map some).flatMap fun p=>[H.fr f p true,H.fr f p false])++[0,1,2].flatMap fun k=>allL.flatMap fun a=>[H.ea k true a,H.ea k false a]
theorem H.all {p:H→Prop} (h:∀ x ∈ allH,p x) (x:H):p x:=by
 refine h x ?_
 unfold allH
 cases x with
 | wh a=>exact List.mem_append_left _ (List.mem_append_left _ (List.mem_map_of_mem (mem_allL a)))
 | fr f p c=>
  refine List.mem_append_left _ (List.mem_append_right _ (List.mem_flatMap.mpr ⟨f,?_,List.mem_flatMap.mpr ⟨p,?_,?_⟩⟩))
  ·revert f; decide
  ·cases p with
   | none=>exact List.mem_cons_self
   | some a=>exact List.mem_cons_of_mem _ (List.mem_map_of_mem (mem_allL a))
  ·cases c <;> simp
 | ea k o a=>
  refine List.mem_append_right _ (List.mem_flatMap.mpr ⟨k,?_,List.mem_flatMap.mpr ⟨a,mem_allL a,?_⟩⟩)
  ·revert k; decide
  ·cases o <;> simp
theorem H.check {p:H→Bool} (h:allH.all p=true) (x:H):p x=true:=H.all (fun x hx=>List.all_eq_true.mp h x hx) x
theorem all_at {α:Type} {p:α→Bool} {l:List α} (k n:Nat) (h1:((l.drop k).take n).all p=true) (h2:(l.drop (k+n)).all p=true):(l.drop k).all p=true:=by
 rw [← List.take_append_drop n (l.drop k),List.all_append,h1,List.drop_drop,h2]; rfl
theorem split_H (h:H):split (sp h.toks)=h.toks:=of_decide_eq_true (H.check (p:=fun h=>decide (split (sp h.toks)=h.toks)) (all_at 0 7 (by decide +kernel) (all_at 7 7 (by decide +kernel) (all_at 14 7 (by decide +kernel) (all_at 21 7 (by decide +kernel) (all_at 28 7 (by decide +kernel) (all_at 35 7 (by decide +kernel) (all_at 42 7 (by decide +kernel) (all_at 49 7 (by decide +kernel) (all_at 56 7 (by decide +kernel) (all_at 63 7 (by decide +kernel) (all_at 70 7 (by decide +kernel) (all_at 77 7 (by decide +kernel) (all_at 84 7 (by decide +kernel) (by decide +kernel)))))))))))))) h)
theorem split_if:∀ a:Lt,split (sp (ifT a))=ifT a:=by decide +kernel
theorem split_row:∀ i:Fin 8,split (sp (rowT i))=rowT i:=by decide +kernel
section
variable {W:Nat}
noncomputable abbrev vL (l:List Txt):List V:=l.map .str
theorem short_ok {d:Nat} (h:5≤d) {σ:St}:∀ i:Fin 8,callF prog W d 45 [.list (vL (rowT i))] σ=some (rowN i,σ):=by
 refine e1_2 (need h) fun d w1_ hd=>?_; subst w1_
 intro i
 refine call_p (fn:=⟨1,1,b_law_short_node⟩) rfl rfl ?_ ?_
 ·revert i; decide
 ·refine fin8 i ?_ ?_ ?_ ?_ ?_ ?_ ?_ ?_
  ·refine (?_:Run W _ b_law_short_node [some (.list [.str [98],.str [59]])] _ _); unfold b_law_short_node; repeat' (first | wtm_at "qa" | ((with_reducible show callF _ _ _ _ _ _=_); first | exact name_ok (Nat.le_trans (Nat.le_of_ble_eq_true rfl) hd) | exact twig_ok (Nat.le_trans (Nat.le_of_ble_eq_true rfl) hd) rfl) | wtm_at "qb")
  ·refine (?_:Run W _ b_law_short_node [some (.list [.str [59]])] _ _); unfold b_law_short_node; repeat' (first | wtm_at "qa" | ((with_reducible show callF _ _ _ _ _ _=_); first | exact leaf_ok (Nat.le_trans (Nat.le_of_ble_eq_true rfl) hd)) | wtm_at "qb")
  ·refine (?_:Run W _ b_law_short_node [some (.list [.str [118,97,114],.str [120],.str [61],.str [98],.str [59]])] _ _); unfold b_law_short_node; repeat' (first | wtm_at "qa" | ((with_reducible show callF _ _ _ _ _ _=_); first | exact var4_ok (by lia)) | wtm_at "qb")
  ·refine (?_:Run W _ b_law_short_node [some (.list [.str [98,114,101,97,107],.str [59]])] _ _); unfold b_law_short_node; repeat' (first | wtm_at "qa" | ((with_reducible show callF _ _ _ _ _ _=_); first | exact leaf_ok (Nat.le_trans (Nat.le_of_ble_eq_true rfl) hd)) | wtm_at "qb")
  ·refine (?_:Run W _ b_law_short_node [some (.list [.str [99,111,110,116,105,110,117,101],.str [97],.str [59]])] _ _); unfold b_law_short_node; repeat' (first | wtm_at "qa" | ((with_reducible show callF _ _ _ _ _ _=_); first | exact leaf_ok (Nat.le_trans (Nat.le_of_ble_eq_true rfl) hd)) | wtm_at "qb")
  ·refine (?_:Run W _ b_law_short_node [some (.list [.str [114,101,116,117,114,110],.str [98],.str [59]])] _ _); unfold b_law_short_node; repeat' (first | wtm_at "qa" | ((with_reducible show callF _ _ _ _ _ _=_); first | exact name_ok (Nat.le_trans (Nat.le_of_ble_eq_true rfl) hd) | exact twig_ok (Nat.le_trans (Nat.le_of_ble_eq_true rfl) hd) rfl) | wtm_at "qb")
  ·refine (?_:Run W _ b_law_short_node [some (.list [.str [116,104,114,111,119],.str [99],.str [59]])] _ _); unfold b_law_short_node; repeat' (first | wtm_at "qa" | ((with_reducible show callF _ _ _ _ _ _=_); first | exact name_ok (Nat.le_trans (Nat.le_of_ble_eq_true rfl) hd) | exact twig_ok (Nat.le_trans (Nat.le_of_ble_eq_true rfl) hd) rfl) | wtm_at "qb")
  ·refine (?_:Run W _ b_law_short_node [some (.list [.str [100],.str [59]])] _ _); unfold b_law_short_node; repeat' (first | wtm_at "qa" | ((with_reducible show callF _ _ _ _ _ _=_); first | exact name_ok (Nat.le_trans (Nat.le_of_ble_eq_true rfl) hd) | exact twig_ok (Nat.le_trans (Nat.le_of_ble_eq_true rfl) hd) rfl) | wtm_at "qb")
theorem ati_last {ls:List V} {l:V} (h:ls.length<999999):ati (ls++[l]) (.int (-1))=some l:=by
 refine (?_:(place (-1) (ls++[l]).length).bind _=_)
 have:place (-1) (ls++[l]).length=some ls.length:=by
  unfold place
  rw [List.length_append,List.length_cons,List.length_nil,if_neg (by lia),if_neg (by decide),if_pos (by lia)]
  congr 1
  lia
 refine this▸?_
 refine (?_:(ls++[l])[ls.length]?=_)
 rw [List.getElem?_append_right (Nat.le_refl _),Nat.sub_self]; rfl
theorem ati_nat {xs:List V} {v:V} {j:Nat} (h:xs.length<1000000) (h':xs[j]?=some v):ati xs (.int j)=some v:=by
 refine (?_:(place j xs.length).bind _=_)
 have hj:=(List.getElem?_eq_some_iff.mp h').1
 have:place (j:Int) xs.length=some j:=by
  unfold place
  rw [if_neg (by lia),if_pos (by lia),if_pos (by lia)]
  congr 1
 refine this▸?_; exact h'
theorem cmp_ne {a b:Txt} {σ:St} (h:a≠b):cmpop .eq (.str a) (.str b) σ=some false:=by
 show some (decide _)=_; rw [decide_eq_false h]
noncomputable def fnLB:List S:=[S.ifs (E.cmp .eq (E.x 4) (E.c (V.str [59]))) [S.expr (E.meth (E.x 3) 0 [(E.list true [])])] [S.expr (E.meth (E.idx (E.x 3) (E.c (V.int (-1)))) 0 [(E.x 4)])]]
noncomputable def fnR (w k p:V) (z:Option V):Loc:=[some w,some k,none,some p,z,none,none]
theorem seg {d j:Nat} {σ:St} {w k:V} {ls rest:List V} {R:Loc→St→Prop} (hl:ls.length<9) (hj:j≠1):∀ (X:List Txt) (xs:List V) (r:St) (z:Option V),(∀ x ∈ X,x≠[59])→xs.length+X.length<100→r[1]?=some (.list (ls++[.loc (σ.length+j)]))→r[j]?=some (.list xs)→
  (∀ z',For (fun v ρ' σ'=>evalSs prog W (callF prog W d) fnLB (ρ'.set 4 (some v)) σ') rest (fnR w k (.loc (σ.length+1)) z') (σ++r.set j (.list (xs++vL X))) R)→
  For (fun v ρ' σ'=>evalSs prog W (callF prog W d) fnLB (ρ'.set 4 (some v)) σ') (vL X++rest) (fnR w k (.loc (σ.length+1)) z) (σ++r) R
 | [],xs,r,z,_,_,_,h2,h=>by
  have:=h z
  rw [vL,List.map_nil,List.append_nil] at this
  have e:r.set j (.list xs)=r:=by
   apply List.ext_getElem?
   intro i
   rw [List.getElem?_set]
   split
   ·rename_i q; subst q
    rw [h2]
    split
    ·rfl
    ·rename_i q; exact absurd (List.getElem?_eq_some_iff.mp h2).1 q
   ·rfl
  rw [e] at this
  exact this
 | x :: X,xs,r,z,hx,hn,h1,h2,h=>by
  have hx0:=hx x List.mem_cons_self
  have hj':=(List.getElem?_eq_some_iff.mp h2).1
  have hn:=List.length_cons▸hn
  refine for_cons ?_
  have st:For (fun v ρ' σ'=>evalSs prog W (callF prog W d) fnLB (ρ'.set 4 (some v)) σ') (vL X++rest) (fnR w k (.loc (σ.length+1)) (some (.str x))) (σ++r.set j (.list (xs++[.str x]))) R:=by
   refine seg hl hj X (xs++[.str x]) _ _ (fun y hy=>hx y (List.mem_cons_of_mem _ hy)) (by rw [List.length_append,List.length_cons,List.length_nil]; lia) (by rw [List.getElem?_set_ne hj]; exact h1) (by rw [List.getElem?_set_self hj']) fun z'=>?_
   rw [List.set_set,List.append_assoc]
   exact h z'
  unfold fnLB
  repeat' (first | wtm_at "qa" | exact cmp_ne hx0 | ((with_reducible show index _ _ _=_); exact o_idx h1 (ati_last (by lia))) | ((with_reducible show bmeth _ _ _ _=_); exact o_app h2 (by lia)) | ((with_reducible show clsOf _ _=_); exact o_cls h2) | ((with_reducible show bkind _ _ _=_); exact o_kind h2 rfl) | exact st | wtm_at "qb")
theorem fn_part {d j:Nat} {ρ:Loc} {σ r:St} {X:List Txt} (hd:3≤d) (h:r[j]?=some (.list (vL X))) (hX:X.length<100) (h6:6<ρ.length):evalE prog (callF prog W d) (E.ite (E.cmp .eq (E.len (E.x 6)) (E.c (V.int 1))) (E.call 43 [(E.idx (E.x 6) (E.c (V.int 0)))]) (E.c V.none)) (ρ.set 6 (some (.loc (σ.length+j)))) (σ++r)=some (oneN X,σ++r):=by
 have e6:(ρ.set 6 (some (V.loc (σ.length+j))))[6]?=some (some (.loc (σ.length+j))):=List.getElem?_set_self h6
 have hlen:lenV (.loc (σ.length+j)) (σ++r)=some (.int (vL X).length):=o_len (o_items h) (by simp; lia)
 rcases X with _ | ⟨x,_ | ⟨y,X⟩⟩
 ·refine ev_ite (q:=false) (et_cmp (ev_len (ev_x e6) hlen) ev_c rfl) ev_c
 ·exact ev_ite (q:=true) (et_cmp (ev_len (ev_x e6) hlen) ev_c rfl) (ev_call (evs_cons (ev_idx (ev_x e6) ev_c (o_idx h rfl)) evs_nil) (name_ok hd))
 ·refine ev_ite (q:=false) (et_cmp (ev_len (ev_x e6) hlen) ev_c ?_) ev_c
  show some (decide _)=_
  rw [decide_eq_false]
  simp
  lia
noncomputable def noOf (ws:List Txt):Bool:=match slice (.list (vL ws)) (some (.int 2)) (some (.int 3)) with
 | some s=>decide (eqv s (.list [.str [111,102]])=some false) && decide (eqv s (.list [.str [105,110]])=some false)
 | none=>false
theorem noOf_fr (f:Fin 4) (p:Option Lt) (c:Bool):noOf (H.fr f p c).in_=true:=by
 have:=H.check (p:=fun h=>match h with | .fr ..=>noOf h.in_ | _=>true) (by decide +kernel) (.fr f p c)
 exact this
theorem pure_oneN (X:List Txt):(oneN X).pure=true:=by
 rcases X with _ | ⟨x,_ | ⟨y,X⟩⟩ <;> rfl
theorem frF_ne:∀ f:Fin 4,∀ x ∈ frF f,x≠[59]:=by decide
theorem frP_ne:∀ p:Option Lt,∀ x ∈ frP p,x≠[59]:=by
 intro p
 cases p with
 | none=>intro x h; cases h
 | some a=>revert a; decide
theorem frC_ne:∀ c:Bool,∀ x ∈ frC c,x≠[59]:=by decide
theorem frN_pure:∀ f:Fin 4,(frN f).pure=true:=by decide
theorem frP_len (p:Option Lt):(frP p).length<2:=by cases p <;> exact Nat.le_of_ble_eq_true rfl
theorem frC_len (c:Bool):(frC c).length<2:=by cases c <;> decide
theorem frF_len (f:Fin 4):(frF f).length<5:=by revert f; decide
theorem for_fr {d:Nat} (h:5≤d) {σ:St} {k:V} (hk:k.pure=true) (f:Fin 4) (p:Option Lt) (c:Bool):callF prog W d 46 [.list (vL (H.fr f p c).in_),.list [k]] σ=some ((H.fr f p c).n k,σ):=by
 refine e1_2 (need h) fun d w4_ hd=>?_; subst w4_
 have hN:V.pures [frN f,oneN (frP p),oneN (frC c),k]=true:=by
  simp only [V.pures,frN_pure,pure_oneN,hk,Bool.and_self]
 refine call_p (fn:=⟨2,7,b_law_for_node⟩) rfl rfl (nd_pure hN) ?_
 have hno:=noOf_fr f p c
 unfold noOf at hno
 split at hno
 ·rename_i s hs
  rw [Bool.and_eq_true_iff] at hno
  refine e0_2 hno fun ho hi=>?_
  have ho:∀ σ,cmpop .eq s (.list [.str [111,102]]) σ=some false:=fun _=>of_decide_eq_true ho
  have hi:∀ σ,cmpop .eq s (.list [.str [105,110]]) σ=some false:=fun _=>of_decide_eq_true hi
  have l1:=frF_len f
  have l2:=frP_len p
  have l3:=frC_len c
  have fin:∀ z,Run W (callF prog W d) (b_law_for_node.drop 3) [some (.list (vL (H.fr f p c).in_)),some (.list [k]),none,some (.loc (σ.length+1)),z,none,none] (σ++[.list (vL (frF f)),.list [.loc (σ.length+0),.loc (σ.length+2),.loc (σ.length+3)],.list (vL (frP p)),.list (vL (frC c))]) fun c' ρ' σ'=>c' = .ret ((H.fr f p c).n k)∧∃ r,σ'=σ++r:=by
   intro z
   refine run_asg (b_compT (σ:=σ) (ev_frz (ev_x rfl) (o_frz rfl)) rfl (Nat.le_of_ble_eq_true rfl) (mapL_cons (fn_part (Nat.le_trans (Nat.le_of_ble_eq_true rfl) hd) (j:=0) (X:=frF f) rfl (by lia) (Nat.le_of_ble_eq_true rfl)) (mapL_cons (fn_part (Nat.le_trans (Nat.le_of_ble_eq_true rfl) hd) (j:=2) (X:=frP p) rfl (by lia) (Nat.le_of_ble_eq_true rfl)) (mapL_cons (fn_part (Nat.le_trans (Nat.le_of_ble_eq_true rfl) hd) (j:=3) (X:=frC c) rfl (by lia) (Nat.le_of_ble_eq_true rfl)) mapL_nil))) rfl rfl) ?_
   refine (?_:Run W _ _ [some _,some (.list [k]),none,some (.loc (σ.length+1)),z,some (.loc (σ.length+4)),none] (σ++[.list (vL (frF f)),.flist [.loc (σ.length+0),.loc (σ.length+2),.loc (σ.length+3)],.list (vL (frP p)),.list (vL (frC c)),.list [oneN (frF f),oneN (frP p),oneN (frC c)]]) _)
   have tw:∀ σ,callF prog W d 2 [.int 47,.str [],.list [frN f,oneN (frP p),oneN (frC c),k],.int 0] σ=some ((H.fr f p c).n k,σ):=fun σ=>twig_ok (Nat.le_trans (Nat.le_of_ble_eq_true rfl) hd) hN
   revert tw
   refine fin4 f ?_ ?_ ?_ ?_ <;> intro tw
   ·repeat' (first | wtm_at "qa" | ((with_reducible show callF _ _ _ _ _ _=_); first | exact tw _) | wtm_at "qb")
   ·repeat' (first | wtm_at "qa" | ((with_reducible show callF _ _ _ _ _ _=_); first | exact tw _ | exact twig_ok (Nat.le_trans (Nat.le_of_ble_eq_true rfl) hd) rfl) | wtm_at "qb")
   ·repeat' (first | wtm_at "qa" | ((with_reducible show callF _ _ _ _ _ _=_); first | exact tw _ | exact var4_at (Nat.le_trans (Nat.le_of_ble_eq_true rfl) hd) (o_lenN (o_items rfl) (Nat.le_of_ble_eq_true rfl) rfl rfl) (o_idx rfl rfl) (o_idx rfl rfl) (o_idx rfl rfl)) | wtm_at "qb")
   ·repeat' (first | wtm_at "qa" | ((with_reducible show callF _ _ _ _ _ _=_); first | exact tw _ | exact var2_at (Nat.le_trans (Nat.le_of_ble_eq_true rfl) hd) (o_lenN (o_items rfl) (Nat.le_of_ble_eq_true rfl) rfl rfl) (o_idx rfl rfl) (o_idx rfl rfl)) | wtm_at "qb")
  refine (?_:Run W _ b_law_for_node [some (.list (vL (H.fr f p c).in_)),some (.list [k]),none,none,none,none,none] _ _)
  unfold b_law_for_node
  refine run_ifs (q:=false) (σ₁:=σ++[]) ?_ ?_
  ·repeat' (first | wtm_at "qa" | exact hs | exact ho _ | exact hi _ | wtm_at "qb")
  ·refine (?_:Run W _ (S.asg 3 _ :: S.for 4 _ _ :: _) _ _ _)
   refine run_asg (b_listT (σ:=σ) (r:=[.list []]) (vs:=[.loc (σ.length+0)]) (evs_cons (b_listT (σ:=σ) (r:=[]) evs_nil (Nat.le_of_ble_eq_true rfl) rfl rfl) evs_nil) (Nat.le_of_ble_eq_true rfl) rfl rfl) ?_
   refine run_for (ev_x rfl) rfl ?_
   refine (?_:For (fun v ρ' σ'=>evalSs prog W (callF prog W d) fnLB (ρ'.set 4 (some v)) σ') (vL (frF f++[59] :: (frP p++[59] :: frC c))) (fnR (.list (vL (H.fr f p c).in_)) (.list [k]) (.loc (σ.length+1)) none) (σ++[.list [],.list [.loc (σ.length+0)]]) _)
   rw [show vL (frF f++[59] :: (frP p++[59] :: frC c))=vL (frF f)++(.str [59] :: (vL (frP p)++(.str [59] :: (vL (frC c)++[])))) from by simp only [vL,List.map_append,List.map_cons,List.append_nil]]
   refine seg (ls:=[]) (by decide) (by decide) (frF f) [] _ _ (frF_ne f) (by refine List.length_nil▸?_; lia) rfl rfl fun z1=>?_
   refine for_cons ?_
   have st2:For (fun v ρ' σ'=>evalSs prog W (callF prog W d) fnLB (ρ'.set 4 (some v)) σ') (vL (frP p)++(.str [59] :: (vL (frC c)++[]))) (fnR (.list (vL (H.fr f p c).in_)) (.list [k]) (.loc (σ.length+1)) (some (.str [59]))) (σ++[.list (vL (frF f)),.list [.loc (σ.length+0),.loc (σ.length+2)],.list []]) (fun ρ' σ'=>Run W (callF prog W d) (b_law_for_node.drop 3) ρ' σ' fun c' ρ' σ'=>c' = .ret ((H.fr f p c).n k)∧∃ r,σ'=σ++r):=by
    refine seg (ls:=[.loc (σ.length+0)]) (Nat.le_of_ble_eq_true rfl) (by decide) (frP p) [] _ _ (frP_ne p) (by refine List.length_nil▸?_; lia) rfl rfl fun z2=>?_
    refine for_cons ?_
    have st3:For (fun v ρ' σ'=>evalSs prog W (callF prog W d) fnLB (ρ'.set 4 (some v)) σ') (vL (frC c)++[]) (fnR (.list (vL (H.fr f p c).in_)) (.list [k]) (.loc (σ.length+1)) (some (.str [59]))) (σ++[.list (vL (frF f)),.list [.loc (σ.length+0),.loc (σ.length+2),.loc (σ.length+3)],.list (vL (frP p)),.list []]) (fun ρ' σ'=>Run W (callF prog W d) (b_law_for_node.drop 3) ρ' σ' fun c' ρ' σ'=>c' = .ret ((H.fr f p c).n k)∧∃ r,σ'=σ++r):=by
     refine seg (ls:=[.loc (σ.length+0),.loc (σ.length+2)]) (Nat.le_of_ble_eq_true rfl) (by decide) (frC c) [] _ _ (frC_ne c) (by refine List.length_nil▸?_; lia) rfl rfl fun z3=>?_
     refine for_nil ?_
     exact fin z3
    unfold fnLB
    repeat' (first | wtm_at "qa" | exact st3 | wtm_at "qb")
   unfold fnLB
   repeat' (first | wtm_at "qa" | exact st2 | wtm_at "qb")
 ·exact noF hno
end
section
variable {W:Nat}
theorem for_ea {d:Nat} (h:5≤d) {σ:St} {k:V} (hk:k.pure=true) (kw x a:Txt) (o:Bool):callF prog W d 46 [.list [.str kw,.str x,.str (ofT o),.str a],.list [k]] σ=some (nd (cond o 48 49) [] [varV kw x .none,nmV a,k],σ):=by
 refine e1_2 (need h) fun d w1_ hd=>?_; subst w1_
 have hN:V.pures [varV kw x .none,nmV a,k]=true:=by
  refine (?_:(true && (true && (k.pure && true)))=true)
  rw [hk]; rfl
 refine call_p (fn:=⟨2,7,b_law_for_node⟩) rfl rfl (nd_pure hN) ?_
 refine (?_:Run W _ b_law_for_node [some (.list [.str kw,.str x,.str (ofT o),.str a]),some (.list [k]),none,none,none,none,none] _ _)
 unfold b_law_for_node
 have tw:∀ σ n,callF prog W d 2 [.int n,.str [],.list [varV kw x .none,nmV a,k],.int 0] σ=some (nd n [] [varV kw x .none,nmV a,k],σ):=fun σ n=>twig_ok (Nat.le_trans (Nat.le_of_ble_eq_true rfl) hd) hN
 cases o with
 | true=>repeat' (first | wtm_at "qa" | ((with_reducible show callF _ _ _ _ _ _=_); first | exact name_ok (Nat.le_trans (Nat.le_of_ble_eq_true rfl) hd) | exact var2_ok (Nat.le_trans (Nat.le_of_ble_eq_true rfl) hd) | exact tw _ _) | wtm_at "qb")
 | false=>repeat' (first | wtm_at "qa" | ((with_reducible show callF _ _ _ _ _ _=_); first | exact name_ok (Nat.le_trans (Nat.le_of_ble_eq_true rfl) hd) | exact var2_ok (Nat.le_trans (Nat.le_of_ble_eq_true rfl) hd) | exact tw _ _) | wtm_at "qb")
theorem split_nil:split []=[]:=by decide +kernel
theorem split_lt:∀ a:Lt,split (lt a)=[lt a]:=by decide +kernel
theorem o_split {s:Txt} {ts:List Txt} {σ:St} (hs:split s=ts) (hl:s.length<1000000):bmeth (.str s) 4 [] σ=some (.list (vL ts),σ):=by
 refine (?_:(if s.length<1000000 then _ else _)=_)
 exact (if_pos hl)▸hs▸rfl
theorem H.n_pure (h:H) {k:V} (hk:k.pure=true):(h.n k).pure=true:=by
 cases h with
 | wh a=>exact nd_pure (by simp only [V.pures,hk,Bool.and_true]; rfl)
 | fr f p c=>exact nd_pure (by simp only [V.pures,frN_pure,pure_oneN,hk,Bool.and_self])
 | ea x o a=>exact nd_pure (by simp only [V.pures,hk,Bool.and_true]; rfl)
theorem US.n_pure (s:US) {k:V} (hk:k.pure=true):(s.n k).pure=true:=by
 cases s with
 | ifs a=>exact nd_pure (by simp only [V.pures,hk,Bool.and_true]; rfl)
 | loop h=>exact h.n_pure hk
 | lab a=>exact nd_pure (by simp only [V.pures,hk,Bool.and_true])
 | dow a=>exact nd_pure (by simp only [V.pures,hk,Bool.and_true]; rfl)
theorem BS.n_pure (s:BS) {ks:List V} (hk:V.pures ks=true):(s.n ks).pure=true:=by
 cases s with
 | block=>exact nd_pure hk
 | tr=>exact nd_pure (by
   refine (?_:(true && (true && ((nd 59 [] ks).pure && true)))=true)
   rw [nd_pure hk]; rfl)
 | sw a=>exact nd_pure (by
   refine (?_:(true && ((nd 51 [] (.none :: ks)).pure && true))=true)
   rw [nd_pure (by refine (?_:(true && V.pures ks)=true); rw [hk]; rfl)]; rfl)
theorem T.n_pure:∀ t:T,t.n.pure=true
 | .row i=>by revert i; decide
 | .b0 s=>s.n_pure rfl
 | .b1 s k=>s.n_pure (by simp only [V.pures,k.n_pure,Bool.and_self])
 | .b2 s k l=>s.n_pure (by simp only [V.pures,k.n_pure,l.n_pure,Bool.and_self])
 | .u s k=>s.n_pure k.n_pure
 | .ie a k l=>nd_pure (by simp only [V.pures,k.n_pure,l.n_pure,Bool.and_true]; rfl)
theorem sp_len (h:H):(sp h.toks).length<1000000:=of_decide_eq_true (H.check (p:=fun h=>decide ((sp h.toks).length<1000000)) (by decide +kernel) h)
theorem sp_len_if:∀ a:Lt,(sp (ifT a)).length<1000000:=by decide +kernel
theorem sp_len_row:∀ i:Fin 8,(sp (rowT i)).length<1000000:=by decide +kernel
theorem node_row {d:Nat} (h:6≤d) {σ:St} (i:Fin 8):callF prog W d 47 [.str [114,111,119],.str (sp (rowT i)),.list []] σ=some (rowN i,σ):=by
 refine e1_2 (need h) fun d w3_ hd=>?_; subst w3_
 refine call_p (fn:=⟨3,4,b_law_node⟩) rfl rfl (by revert i; decide) ?_
 have hs:=split_row i
 have hl:=sp_len_row i
 have sh:∀ σ,callF prog W d 45 [.list (vL (rowT i))] σ=some (rowN i,σ):=fun σ=>short_ok hd i
 unfold b_law_node
 repeat' (first | wtm_at "qa" | ((with_reducible show callF _ _ _ _ _ _=_); first | exact sh _) | exact o_split hs hl | wtm_at "qb")
theorem node_B {d:Nat} (h:6≤d) {σ:St} (s:BS) {ks:List V} (hk:V.pures ks=true) (hn:ks.length<3):callF prog W d 47 [.str s.sort,.str s.word,.list ks] σ=some (s.n ks,σ):=by
 refine e1_2 (need h) fun d w5_ hd=>?_; subst w5_
 refine call_p (fn:=⟨3,4,b_law_node⟩) rfl rfl (s.n_pure hk) ?_
 have tw:∀ σ n,callF prog W d 2 [.int n,.str [],.list ks,.int 0] σ=some (nd n [] ks,σ):=fun σ n=>twig_ok (Nat.le_trans (Nat.le_of_ble_eq_true rfl) hd) hk
 have tw1:∀ σ,callF prog W d 2 [.int 51,.str [],.list ([V.none]++ks),.int 0] σ=some (nd 51 [] (.none :: ks),σ):=fun σ=>twig_ok (Nat.le_trans (Nat.le_of_ble_eq_true rfl) hd) (by refine (?_:(true && V.pures ks)=true); rw [hk]; rfl)
 cases s with
 | block=>
  refine (?_:Run W _ b_law_node [some (.str [98,108,111,99,107]),some (.str []),some (.list ks),none] _ _)
  unfold b_law_node
  repeat' (first | wtm_at "qa" | ((with_reducible show callF _ _ _ _ _ _=_); first | exact tw _ _) | exact o_split split_nil (Nat.le_of_ble_eq_true rfl) | wtm_at "qb")
 | tr=>
  have tw2:∀ σ,callF prog W d 2 [.int 57,.str [],.list [nd 59 [] [],.none,nd 59 [] ks],.int 0] σ=some (nd 57 [] [nd 59 [] [],.none,nd 59 [] ks],σ):=fun σ=>twig_ok (Nat.le_trans (Nat.le_of_ble_eq_true rfl) hd) (by
   refine (?_:(true && (true && ((nd 59 [] ks).pure && true)))=true)
   rw [nd_pure hk]; rfl)
  refine (?_:Run W _ b_law_node [some (.str [116,114,121]),some (.str []),some (.list ks),none] _ _)
  unfold b_law_node
  repeat' (first | wtm_at "qa" | ((with_reducible show callF _ _ _ _ _ _=_); first | exact tw _ _ | exact tw2 _ | exact twig_ok (Nat.le_trans (Nat.le_of_ble_eq_true rfl) hd) rfl) | exact o_split split_nil (Nat.le_of_ble_eq_true rfl) | wtm_at "qb")
 | sw a=>
  have hs:=split_lt a
  have tw2:∀ σ,callF prog W d 2 [.int 50,.str [],.list [nmV (lt a),nd 51 [] (.none :: ks)],.int 0] σ=some (nd 50 [] [nmV (lt a),nd 51 [] (.none :: ks)],σ):=fun σ=>twig_ok (Nat.le_trans (Nat.le_of_ble_eq_true rfl) hd) (by
   refine (?_:(true && ((nd 51 [] (.none :: ks)).pure && true))=true)
   rw [nd_pure (by refine (?_:(true && V.pures ks)=true); rw [hk]; rfl)]; rfl)
  refine (?_:Run W _ b_law_node [some (.str [115,119,105,116,99,104]),some (.str (lt a)),some (.list ks),none] _ _)
  unfold b_law_node
  repeat' (first | wtm_at "qa" | ((with_reducible show callF _ _ _ _ _ _=_); first | exact name_ok (Nat.le_trans (Nat.le_of_ble_eq_true rfl) hd) | exact tw1 _ | exact tw2 _) | exact o_split hs (Nat.le_of_ble_eq_true rfl) | wtm_at "qb")
theorem node_U {d:Nat} (h:6≤d) {σ:St} (s:US) {k:V} (hk:k.pure=true):callF prog W d 47 [.str s.sort,.str s.word,.list [k]] σ=some (s.n k,σ):=by
 obtain ⟨d,rfl,hd⟩:=need h
 refine call_p (fn:=⟨3,4,b_law_node⟩) rfl rfl (s.n_pure hk) ?_
 cases s with
 | ifs a=>
  have tw:∀ σ,callF prog W d 2 [.int 44,.str [],.list [nmV (lt a),k,.none],.int 0] σ=some (nd 44 [] [nmV (lt a),k,.none],σ):=fun σ=>twig_ok (Nat.le_trans (Nat.le_of_ble_eq_true rfl) hd) (by simp only [V.pures,hk,Bool.and_true]; rfl)
  have hs:=split_if a
  have hl:=sp_len_if a
  show Run W _ b_law_node [some (.str [105,102]),some (.str (sp (ifT a))),some (.list [k]),none] _ _
  unfold b_law_node
  repeat' (first | wtm_at "qa" | ((with_reducible show callF _ _ _ _ _ _=_); first | exact name_ok (Nat.le_trans (Nat.le_of_ble_eq_true rfl) hd) | exact tw _) | exact o_split hs hl | wtm_at "qb")
 | lab a=>
  have tw:∀ σ,callF prog W d 2 [.int 55,.str (lt a),.list [k],.int 0] σ=some (nd 55 (lt a) [k],σ):=fun σ=>twig_ok (Nat.le_trans (Nat.le_of_ble_eq_true rfl) hd) (by simp only [V.pures,hk,Bool.and_true])
  have hs:=split_lt a
  show Run W _ b_law_node [some (.str [108,97,98,101,108]),some (.str (lt a)),some (.list [k]),none] _ _
  unfold b_law_node
  repeat' (first | wtm_at "qa" | ((with_reducible show callF _ _ _ _ _ _=_); first | exact name_ok (Nat.le_trans (Nat.le_of_ble_eq_true rfl) hd) | exact tw _) | exact o_split hs (Nat.le_of_ble_eq_true rfl) | wtm_at "qb")
 | dow a=>
  have tw:∀ σ,callF prog W d 2 [.int 46,.str [],.list [k,nmV (lt a)],.int 0] σ=some (nd 46 [] [k,nmV (lt a)],σ):=fun σ=>twig_ok (Nat.le_trans (Nat.le_of_ble_eq_true rfl) hd) (by simp only [V.pures,hk,Bool.and_true]; rfl)
  have hs:=split_lt a
  show Run W _ b_law_node [some (.str [100,111]),some (.str (lt a)),some (.list [k]),none] _ _
  unfold b_law_node
  repeat' (first | wtm_at "qa" | ((with_reducible show callF _ _ _ _ _ _=_); first | exact name_ok (Nat.le_trans (Nat.le_of_ble_eq_true rfl) hd) | exact tw _) | exact o_split hs (Nat.le_of_ble_eq_true rfl) | wtm_at "qb")
 | loop hh=>
  have hs:=split_H hh
  have hl:=sp_len hh
  show Run W _ b_law_node [some (.str [108,111,111,112]),some (.str (sp hh.toks)),some (.list [k]),none] _ _
  cases hh with
  | wh a=>
   have tw:∀ σ,callF prog W d 2 [.int 45,.str [],.list [nmV (lt a),k],.int 0] σ=some (nd 45 [] [nmV (lt a),k],σ):=fun σ=>twig_ok (Nat.le_trans (Nat.le_of_ble_eq_true rfl) hd) (by simp only [V.pures,hk,Bool.and_true]; rfl)
   unfold b_law_node
   repeat' (first | wtm_at "qa" | ((with_reducible show callF _ _ _ _ _ _=_); first | exact name_ok (Nat.le_trans (Nat.le_of_ble_eq_true rfl) hd) | exact tw _) | exact o_split hs hl | wtm_at "qb")
  | fr f p c=>
   have hf:∀ σ,callF prog W d 46 [.list (vL (H.fr f p c).in_),.list [k]] σ=some ((H.fr f p c).n k,σ):=fun σ=>for_fr hd hk f p c
   have hsl:slice (.list (vL (H.fr f p c).toks)) (some (.int 2)) (some (.int (-1)))=some (.list (vL (H.fr f p c).in_)):=by
    have l1:=frF_len f
    have l2:=frP_len p
    have l3:=frC_len c
    have hln:(H.fr f p c).toks.length=(H.fr f p c).in_.length+3:=by
     show (_ :: _ :: ((H.fr f p c).in_++[_])).length=_
     simp
    have hn:(vL (H.fr f p c).toks).length=(H.fr f p c).in_.length+3:=by rw [vL,List.length_map,hln]
    have hsm:(H.fr f p c).in_.length<20:=by
     show (frF f++_ :: (frP p++_ :: frC c)).length<20
     simp only [List.length_append,List.length_cons]; lia
    show (if 1000000≤(vL (H.fr f p c).toks).length then none else (bound _ 0 (some (.int 2))).bind fun a=>(bound _ _ (some (.int (-1)))).map fun b=>V.list (((vL (H.fr f p c).toks).take b).drop a))=_
    rw [hn,if_neg (by lia)]
    have b1:bound ((H.fr f p c).in_.length+3) 0 (some (.int 2))=some 2:=by
     show some (if _ then _ else _)=_
     rw [if_pos (by decide)]
     congr 1
    have b2:bound ((H.fr f p c).in_.length+3) ((H.fr f p c).in_.length+3) (some (.int (-1)))=some ((H.fr f p c).in_.length+2):=by
     show some (if _ then _ else _)=_
     rw [if_neg (by decide)]
     congr 1
     lia
    rw [b1,b2]
    show some (V.list _)=_
    congr 2
    show ((V.str _ :: V.str _ :: (((H.fr f p c).in_++[_]).map V.str)).take ((H.fr f p c).in_.length+2)).drop 2=_
    rw [List.map_append,List.take_succ_cons,List.take_succ_cons]
    show (((H.fr f p c).in_.map V.str++_).take (H.fr f p c).in_.length)=_
    rw [List.take_left' (by simp)]
   have hi:∀ σ,index (.list (vL (H.fr f p c).toks)) (.int 0) σ=some (.str [102,111,114]):=fun _=>ati_nat (j:=0) (by
    have l1:=frF_len f
    have l2:=frP_len p
    have l3:=frC_len c
    show (V.str _ :: V.str _ :: (((frF f++_ :: (frP p++_ :: frC c))++[_]).map V.str)).length<1000000
    simp only [List.length_append,List.length_cons,List.length_map,List.length_nil]; lia) rfl
   unfold b_law_node
   repeat' (first | wtm_at "qa" | ((with_reducible show callF _ _ _ _ _ _=_); first | exact hf _) | exact o_split hs hl | exact hsl | exact hi _ | wtm_at "qb")
  | ea x o a=>
   have hf:∀ σ,callF prog W d 46 [.list [.str (kwT x),.str [120],.str (ofT o),.str (lt a)],.list [k]] σ=some ((H.ea x o a).n k,σ):=fun σ=>for_ea hd hk _ _ _ _
   unfold b_law_node
   repeat' (first | wtm_at "qa" | ((with_reducible show callF _ _ _ _ _ _=_); first | exact hf _) | exact o_split hs hl | wtm_at "qb")
theorem node_ie {d:Nat} (h:6≤d) {σ:St} (a:Lt) {k l:V} (hk:k.pure=true) (hl:l.pure=true):callF prog W d 47 [.str [105,102],.str (sp (ifT a)),.list [k,l]] σ=some (nd 44 [] [nmV (lt a),k,l],σ):=by
 obtain ⟨d,rfl,hd⟩:=need h
 have hN:V.pures [nmV (lt a),k,l]=true:=by simp only [V.pures,hk,hl,Bool.and_true]; rfl
 refine call_p (fn:=⟨3,4,b_law_node⟩) rfl rfl (nd_pure hN) ?_
 have tw:∀ σ,callF prog W d 2 [.int 44,.str [],.list [nmV (lt a),k,l],.int 0] σ=some (nd 44 [] [nmV (lt a),k,l],σ):=fun σ=>twig_ok (Nat.le_trans (Nat.le_of_ble_eq_true rfl) hd) hN
 have hs:=split_if a
 have hl:=sp_len_if a
 show Run W _ b_law_node [some (.str [105,102]),some (.str (sp (ifT a))),some (.list [k,l]),none] _ _
 unfold b_law_node
 repeat' (first | wtm_at "qa" | ((with_reducible show callF _ _ _ _ _ _=_); first | exact name_ok (Nat.le_trans (Nat.le_of_ble_eq_true rfl) hd) | exact tw _) | exact o_split hs hl | wtm_at "qb")
end
section
variable {W:Nat}
noncomputable def BS.pre:BS→List Txt
 | .block=>[[123]]
 | .tr=>[[116,114,121],[123],[125],[102,105,110,97,108,108,121],[123]]
 | .sw a=>[[115,119,105,116,99,104],[40],lt a,[41],[123],[100,101,102,97,117,108,116],[58]]
noncomputable def US.pre:US→List Txt
 | .ifs a=>ifT a
 | .loop h=>h.toks
 | .lab a=>[lt a,[58]]
 | .dow _=>[[100,111]]
noncomputable def US.post:US→List Txt
 | .dow a=>[[119,104,105,108,101],[40],lt a,[41],[59]]
 | _=>[]
noncomputable def T.tk:T→List Txt
 | .row i=>rowT i
 | .b0 s=>s.pre++[[125]]
 | .b1 s k=>s.pre++(k.tk++[[125]])
 | .b2 s k l=>s.pre++(k.tk++(l.tk++[[125]]))
 | .u s k=>s.pre++(k.tk++s.post)
 | .ie a k l=>ifT a++(k.tk++([101,108,115,101] :: l.tk))
noncomputable def T.dp:T→Nat
 | .row _=>1
 | .b0 _=>1
 | .b1 _ k=>k.dp+1
 | .b2 _ k l=>max k.dp l.dp+1
 | .u _ k=>k.dp+1
 | .ie _ k l=>max k.dp l.dp+1
inductive CR (W d f:Nat):List V→List V→Prop
 | nil:CR W d f [] []
 | cons {v w:V} {vs ws:List V}:(∀ σ,callF prog W d f [v] σ=some (w,σ))→CR W d f vs ws→CR W d f (v :: vs) (w :: ws)
theorem set_self {ρ:Loc} {z:Nat}:∃ y,ρ.set z y=ρ:=by
 by_cases h:z<ρ.length
 ·exact ⟨ρ[z],List.set_getElem_self h⟩
 ·exact ⟨none,List.set_eq_of_length_le (by lia)⟩
theorem setr_self {r:St} {j:Nat} {c:Cel} (h:r[j]?=some c):r.set j c=r:=by
 refine e1_1 (List.getElem?_eq_some_iff.mp h) fun h1 h2=>?_
 rw [← h2,List.set_getElem_self h1]
theorem for_app {d f p z j:Nat} {σ:St} {R:Loc→St→Prop} (hpz:z≠p):∀ {vs ws:List V} {ρ:Loc} {r:St} {xs:List V},CR W d f vs ws→z<ρ.length→ρ[p]?=some (some (.loc (σ.length+j)))→r[j]?=some (.list xs)→xs.length+ws.length<1000→
  (∀ y,R (ρ.set z y) (σ++r.set j (.list (xs++ws))))→
  For (fun v ρ' σ'=>evalSs prog W (callF prog W d) [S.expr (E.meth (E.x p) 0 [E.call f [E.x z]])] (ρ'.set z (some v)) σ') vs ρ (σ++r) R:=by
 intro vs ws ρ r xs c
 induction c generalizing ρ r xs with
 | nil=>
  intro hz hp hj hn h
  refine for_nil ?_
  refine e1_1 (set_self (ρ:=ρ) (z:=z)) fun y hy=>?_
  have:=h y
  rw [hy,List.append_nil,setr_self hj] at this
  exact this
 | @cons v w vs ws hv _ ih=>
  intro hz hp hj hn h
  have hn:=List.length_cons▸hn
  have hj':=(List.getElem?_eq_some_iff.mp hj).1
  refine for_cons (run_expr (ev_methB (ev_x (v:=.loc (σ.length+j)) ?_) (o_cls hj) (o_kind hj rfl) (evs_cons (ev_call (evs_cons (ev_x (List.getElem?_set_self hz)) evs_nil) (hv _)) evs_nil) (o_app hj (by lia))) (run_nil ⟨rfl,?_⟩))
  ·rw [List.getElem?_set_ne hpz]; exact hp
  ·refine ih (by rw [List.length_set]; exact hz) (by rw [List.getElem?_set_ne hpz]; exact hp) (by rw [List.getElem?_set_self hj']) (by rw [List.length_append,List.length_cons,List.length_nil]; lia) fun y=>?_
   rw [List.set_set,List.set_set,List.append_assoc]
   exact h y
theorem for_sum {d o z:Nat} {σ:St} {R:Loc→St→Prop} (hoz:o≠z):∀ {rows:List (List Txt)} {ρ:Loc} {xs:List Txt},z<ρ.length→o<ρ.length→ρ[o]?=some (some (.list (vL xs)))→xs.length+rows.flatten.length<1000000→
  (∀ y,R ((ρ.set z y).set o (some (.list (vL (xs++rows.flatten))))) σ)→
  For (fun v ρ' σ'=>evalSs prog W (callF prog W d) [S.asg o (E.bin .add (E.x o) (E.x z))] (ρ'.set z (some v)) σ') (rows.map fun x=>.list (vL x)) ρ σ R:=by
 intro rows
 induction rows with
 | nil=>
  intro ρ xs hz ho hp hn h
  refine for_nil ?_
  refine e1_1 (set_self (ρ:=ρ) (z:=z)) fun y hy=>?_
  have:=h y
  rw [hy,List.flatten_nil,List.append_nil] at this
  rw [show ρ.set o (some (.list (vL xs)))=ρ from by
   refine e1_1 (List.getElem?_eq_some_iff.mp hp) fun h1 h2=>?_
   rw [← h2,List.set_getElem_self h1]] at this
  exact this
 | cons x rows ih=>
  intro ρ xs hz ho hp hn h
  rw [List.flatten_cons,List.length_append] at hn
  refine for_cons (run_asg (ev_bin (ev_x (v:=.list (vL xs)) ?_) (ev_x (List.getElem?_set_self hz)) (o_addL rfl rfl (by rw [vL,vL,List.length_map,List.length_map]; lia))) (run_nil ⟨rfl,?_⟩))
  ·rw [List.getElem?_set_ne (Ne.symm hoz)]; exact hp
  ·refine ih (xs:=xs++x) (by rw [List.length_set,List.length_set]; exact hz) (by rw [List.length_set,List.length_set]; exact ho) (by rw [List.getElem?_set_self (by rw [List.length_set]; exact ho),vL,vL,vL,List.map_append]) (by rw [List.length_append]; lia) fun y=>?_
   have:=h y
   rw [List.flatten_cons,← List.append_assoc] at this
   rw [List.set_comm _ _ hoz,List.set_set,List.set_set]
   exact this
theorem pure_vL:∀ l:List Txt,V.pures (vL l)=true
 | []=>rfl
 | x :: l=>by refine (?_:(true && V.pures (vL l))=true); rw [pure_vL l]; rfl
theorem pure_L (l:List Txt):(V.list (vL l)).pure=true:=pure_vL l
noncomputable def tkR (t:V) (s w:Txt) (ks:List V) (p:V) (y:Option V):Loc:=[some t,some (.str s),some (.str w),some (.list ks),some p,y,none,none]
theorem toks_go {d:Nat} {σ:St} {s w:Txt} {ks ws:List V} {Q:Ctl→Loc→St→Prop} (c:CR W d 48 ks ws) (hn:ws.length<1000)
  (h:∀ y,Run W (callF prog W d) (b_law_toks.drop 3) (tkR (ter s w ks) s w ks (.loc (σ.length+0)) y) (σ++[.list ws]) Q) :
  Run W (callF prog W d) b_law_toks [some (ter s w ks),none,none,none,none,none,none,none] (σ++[]) Q:=by
 refine run_asgT (ev_x rfl) rfl rfl ?_
 refine run_asg (b_listT (r:=[]) evs_nil (Nat.le_of_ble_eq_true rfl) rfl rfl) ?_
 refine run_for (ev_x rfl) rfl ?_
 refine for_app (j:=0) (xs:=[]) (by decide) c (Nat.le_of_ble_eq_true rfl) rfl rfl (by rw [List.length_nil,Nat.zero_add]; exact hn) fun y=>?_
 exact h y
theorem toks_B {d:Nat} {σ:St} (s:BS) {ks:List V} {rows:List (List Txt)} (c:CR W d 48 ks (rows.map fun x=>.list (vL x))) (hn:rows.length<3) (hl:rows.flatten.length<100000) :
  callF prog W (d+1) 48 [ter s.sort s.word ks] σ=some (.list (vL (s.pre++(rows.flatten++[[125]]))),σ):=by
 refine call_p (fn:=⟨1,8,b_law_toks⟩) rfl rfl (pure_L _) ?_
 refine toks_go c (by rw [List.length_map]; lia) fun y=>?_
 have key:∀ (t:V) (w:Txt) (pre:List Txt),pre.length<9→Run W (callF prog W d) (b_law_toks.drop 11) [some t,some (.str s.sort),some (.str w),some (.list ks),some (.loc (σ.length+0)),y,some (.list (vL pre)),none] (σ++[.list (rows.map fun x=>.list (vL x))]) fun c ρ' σ'=>c = .ret (.list (vL (pre++(rows.flatten++[[125]]))))∧∃ r,σ'=σ++r:=by
  intro t w pre hp
  refine run_for (ev_frz (ev_x rfl) (o_frz rfl)) rfl ?_
  refine for_sum (by decide) (Nat.le_of_ble_eq_true rfl) (Nat.le_of_ble_eq_true rfl) rfl (by lia) fun y=>?_
  refine run_ret (ev_bin (ev_x rfl) (ev_listF (evs_cons ev_c evs_nil) (Nat.le_of_ble_eq_true rfl)) (o_addL rfl rfl (by rw [vL,List.length_map,List.length_append,List.length_cons,List.length_nil]; lia))) ⟨?_,_,rfl⟩
  simp only [vL,List.map_append,List.map_cons,List.map_nil,List.append_assoc]
 cases s with
 | block=>
  unfold b_law_toks
  dsimp only [List.drop]
  repeat' (first | exact key _ _ BS.block.pre (Nat.le_of_ble_eq_true rfl) | wtm_at "qa" | wtm_at "qb")
 | tr=>
  unfold b_law_toks
  dsimp only [List.drop]
  repeat' (first | exact key _ _ BS.tr.pre (Nat.le_of_ble_eq_true rfl) | wtm_at "qa" | wtm_at "qb")
 | sw a=>
  unfold b_law_toks
  dsimp only [List.drop]
  repeat' (first | exact key _ _ (BS.sw a).pre (Nat.le_of_ble_eq_true rfl) | wtm_at "qa" | wtm_at "qb")
theorem vL_app (a b:List Txt):vL (a++b)=vL a++vL b:=List.map_append
theorem H.toks_len (h:H):h.toks.length<20:=of_decide_eq_true (H.check (p:=fun h=>decide (h.toks.length<20)) (by decide +kernel) h)
theorem toks_U {d:Nat} {σ:St} (s:US) {k:V} {x:List Txt} (c:∀ σ,callF prog W d 48 [k] σ=some (.list (vL x),σ)) (hl:x.length<100000) :
  callF prog W (d+1) 48 [ter s.sort s.word [k]] σ=some (.list (vL (s.pre++(x++s.post))),σ):=by
 refine call_p (fn:=⟨1,8,b_law_toks⟩) rfl rfl (pure_L _) ?_
 refine toks_go (.cons c .nil) (Nat.le_of_ble_eq_true rfl) fun y=>?_
 have hx:(vL x).length<100000:=by rw [vL,List.length_map]; exact hl
 cases s with
 | ifs a=>
  have hs:=split_if a
  have hsl:=sp_len_if a
  have ha:(vL (ifT a)).length=4:=rfl
  unfold b_law_toks
  dsimp only [List.drop]
  repeat' (first | wtm_at "qa" | exact o_split hs hsl | wtm_at "qb")
  exact ⟨by refine (?_:_=Ctl.ret (V.list (vL (ifT a++(x++[]))))); rw [List.append_nil,vL_app],_,rfl⟩
 | loop h=>
  have hs:=split_H h
  have hsl:=sp_len h
  have ht:=h.toks_len
  have ht:(vL h.toks).length<20:=by rw [vL,List.length_map]; exact ht
  unfold b_law_toks
  dsimp only [List.drop]
  repeat' (first | wtm_at "qa" | exact o_split hs hsl | wtm_at "qb")
  exact ⟨by refine (?_:_=Ctl.ret (V.list (vL (h.toks++(x++[]))))); rw [List.append_nil,vL_app],_,rfl⟩
 | lab a=>
  unfold b_law_toks
  dsimp only [List.drop]
  repeat' (first | wtm_at "qa" | wtm_at "qb")
  exact ⟨by refine (?_:_=Ctl.ret (V.list (vL ([lt a,[58]]++(x++[]))))); rw [List.append_nil,vL_app]; rfl,_,rfl⟩
 | dow a=>
  unfold b_law_toks
  dsimp only [List.drop]
  repeat' (first | wtm_at "qa" | wtm_at "qb")
  exact ⟨by rw [← List.append_assoc,vL_app,vL_app]; rfl,_,rfl⟩
theorem toks_ie {d:Nat} {σ:St} (a:Lt) {k l:V} {x y:List Txt} (c:∀ σ,callF prog W d 48 [k] σ=some (.list (vL x),σ)) (c':∀ σ,callF prog W d 48 [l] σ=some (.list (vL y),σ)) (hl:x.length<100000) (hl':y.length<100000) :
  callF prog W (d+1) 48 [ter [105,102] (sp (ifT a)) [k,l]] σ=some (.list (vL (ifT a++(x++([101,108,115,101] :: y)))),σ):=by
 refine call_p (fn:=⟨1,8,b_law_toks⟩) rfl rfl (pure_L _) ?_
 refine toks_go (.cons c (.cons c' .nil)) (Nat.le_of_ble_eq_true rfl) fun z=>?_
 have hx:(vL x).length<100000:=by rw [vL,List.length_map]; exact hl
 have hy:(vL y).length<100000:=by rw [vL,List.length_map]; exact hl'
 have hs:=split_if a
 have hsl:=sp_len_if a
 have ha:(vL (ifT a)).length=4:=rfl
 have ha':(ifT a).length=4:=rfl
 unfold b_law_toks
 dsimp only [List.drop]
 repeat' (first | wtm_at "qa" | exact o_split hs hsl | wtm_at "qb")
 exact ⟨by rw [← List.append_assoc,vL_app,vL_app,List.append_assoc (_++_)]; rfl,_,rfl⟩
theorem toks_row {d:Nat} {σ:St} (i:Fin 8):callF prog W (d+1) 48 [ter [114,111,119] (sp (rowT i)) []] σ=some (.list (vL (rowT i)),σ):=by
 refine call_p (fn:=⟨1,8,b_law_toks⟩) rfl rfl (pure_L _) ?_
 refine toks_go .nil (Nat.le_of_ble_eq_true rfl) fun z=>?_
 have hs:=split_row i
 have hsl:=sp_len_row i
 unfold b_law_toks
 dsimp only [List.drop]
 repeat' (first | wtm_at "qa" | exact o_split hs hsl | wtm_at "qb")
theorem toks_ok:∀ (t:T) {d:Nat} {σ:St},t.dp≤d→t.tk.length<100000→callF prog W d 48 [t.v] σ=some (.list (vL t.tk),σ)
 | .row i,d,σ,h,_=>by
  refine e1_2 (need (n:=0) h) fun d w9_ hd=>?_; subst w9_
  exact toks_row i
 | .b0 s,d,σ,h,_=>by
  refine e1_2 (need (n:=0) h) fun d w10_ hd=>?_; subst w10_
  exact toks_B s (rows:=[]) .nil (Nat.le_of_ble_eq_true rfl) (Nat.le_of_ble_eq_true rfl)
 | .b1 s k,d,σ,h,hn=>by
  have w12_:=need (n:=k.dp) h; refine e1_2 w12_ fun d w13_ hd=>?_; subst w13_
  have e:(T.b1 s k).tk.length=s.pre.length+(k.tk.length+1):=by refine (?_:(s.pre++(k.tk++_)).length=_); rw [List.length_append,List.length_append]; rfl
  have:=toks_B (W:=W) (d:=d) (σ:=σ) s (ks:=[k.v]) (rows:=[k.tk]) (.cons (fun σ=>toks_ok k hd (by lia)) .nil) (Nat.le_of_ble_eq_true rfl) (by rw [List.flatten_cons,List.flatten_nil,List.append_nil]; lia)
  rw [List.flatten_cons,List.flatten_nil,List.append_nil] at this
  exact this
 | .b2 s k l,d,σ,h,hn=>by
  obtain ⟨d,rfl,hd⟩:=need (n:=max k.dp l.dp) h
  have e:(T.b2 s k l).tk.length=s.pre.length+(k.tk.length+(l.tk.length+1)):=by refine (?_:(s.pre++(k.tk++(l.tk++_))).length=_); rw [List.length_append,List.length_append,List.length_append]; rfl
  have:=toks_B (W:=W) (d:=d) (σ:=σ) s (ks:=[k.v,l.v]) (rows:=[k.tk,l.tk]) (.cons (fun σ=>toks_ok k (by lia) (by lia)) (.cons (fun σ=>toks_ok l (by lia) (by lia)) .nil)) (Nat.le_of_ble_eq_true rfl) (by rw [List.flatten_cons,List.flatten_cons,List.flatten_nil,List.append_nil,List.length_append]; lia)
  rw [List.flatten_cons,List.flatten_cons,List.flatten_nil,List.append_nil,List.append_assoc] at this
  exact this
 | .u s k,d,σ,h,hn=>by
  refine e1_2 (need (n:=k.dp) h) fun d w17_ hd=>?_; subst w17_
  have e:(T.u s k).tk.length=s.pre.length+(k.tk.length+s.post.length):=by refine (?_:(s.pre++(k.tk++_)).length=_); exact List.length_append▸List.length_append▸rfl
  exact toks_U s (fun σ=>toks_ok k hd (by lia)) (by lia)
 | .ie a k l,d,σ,h,hn=>by
  obtain ⟨d,rfl,hd⟩:=need (n:=max k.dp l.dp) h
  have e:(T.ie a k l).tk.length=(ifT a).length+(k.tk.length+(l.tk.length+1)):=by refine (?_:(ifT a++(k.tk++_)).length=_); rw [List.length_append,List.length_append]; rfl
  exact toks_ie a (fun σ=>toks_ok k (by lia) (by lia)) (fun σ=>toks_ok l (by lia) (by lia)) (by lia) (by lia)
end
section
variable {W:Nat}
noncomputable def At (tk:List Txt) (n:Nat) (rest:List Txt):Prop:=n≤tk.length∧tk.drop n=rest
theorem At.get {tk rest:List Txt} {n:Nat} {x:Txt} (h:At tk n (x :: rest)):tk[n]?=some x:=by
 refine (List.head?_drop)▸h.2▸?_; rfl
theorem At.lt {tk rest:List Txt} {n:Nat} {x:Txt} (h:At tk n (x :: rest)):n<tk.length:=(List.getElem?_eq_some_iff.mp h.get).1
theorem At.next {tk rest:List Txt} {n:Nat} {x:Txt} (h:At tk n (x :: rest)):At tk (n+1) rest:=
 ⟨h.lt,by refine List.drop_drop▸h.2▸?_; rfl⟩
theorem At.app {tk:List Txt}:∀ {a rest:List Txt} {n:Nat},At tk n (a++rest)→At tk (n+a.length) rest
 | [],_,_,h=>h
 | x :: a,rest,n,h=>by
  have:=At.app (a:=a) (rest:=rest) h.next
  rw [List.length_cons,Nat.add_comm a.length 1,← Nat.add_assoc]
  exact this
theorem At.len {tk rest:List Txt} {n:Nat} (h:At tk n rest):n+rest.length=tk.length:=by
 refine h.2▸List.length_drop▸?_; have:=h.1; lia
theorem At.idx {tk rest:List Txt} {n:Nat} {x:Txt} {σ:St} (hn:tk.length<1000000) (h:At tk n (x :: rest)):index (.list (vL tk)) (.int n) σ=some (.str x):=
 ati_nat (by rw [vL,List.length_map]; exact hn) (by rw [vL,List.getElem?_map,h.get]; rfl)
theorem ends_ok {d:Nat} {σ:St} {tk:List Txt} {sg:Txt} (hn:tk.length<100000) (hW:tk.length<W) {X Y:List Txt} {n:Nat} (hX:∀ x ∈ X,x≠sg) (h:At tk n (X++sg :: Y)) :
  callF prog W (d+1) 49 [.list (vL tk),.int n,.str sg] σ=some (.int (n+X.length+1:Nat),σ):=by
 refine call_pure (fn:=⟨3,3,b_law_ends⟩) rfl rfl rfl ?_
 refine (?_:Run W _ [S.while _ _,S.ret _] [some _,some _,some _] _ _)
 refine run_while ?_
 have hl:∀ σ,lenV (.list (vL tk)) σ=some (.int tk.length):=fun σ=>by
  have:=o_lenL (σ:=σ) (xs:=vL tk) (by rw [vL,List.length_map]; lia)
  rw [vL,List.length_map] at this; exact this
 have go:∀ (X:List Txt) (n m:Nat),(∀ x ∈ X,x≠sg)→At tk n (X++sg :: Y)→X.length<m→Whl (evalT prog (callF prog W d) (E.and [(E.cmp .lt (E.x 1) (E.len (E.x 0))),(E.cmp .ne (E.idx (E.x 0) (E.x 1)) (E.x 2))])) (evalSs prog W (callF prog W d) [S.aug 1 .add (E.c (V.int 1))]) m [some (.list (vL tk)),some (.int n),some (.str sg)] σ fun c ρ' σ'=>c = .next∧ρ'=[some (.list (vL tk)),some (.int (n+X.length:Nat)),some (.str sg)]∧σ'=σ:=by
  intro X
  induction X with
  | nil=>
   intro n m _ h hm
   refine e1_2 (need (n:=0) hm) fun m w1_ _=>?_; subst w1_
   refine whl_end (et_and (ea_t (et_cmp (ev_x rfl) (ev_len (ev_x rfl) (hl _)) ?_) (ea_f (et_cmp (ev_idx (ev_x rfl) (ev_x rfl) (h.idx (by lia))) (ev_x rfl) ?_)))) ⟨rfl,rfl,rfl⟩
   ·show some (decide _)=_
    have:=h.lt
    rw [decide_eq_true (by lia)]
   ·show (some (decide _)).map _=_
    rw [decide_eq_true rfl]; rfl
  | cons x X ih=>
   intro n m hX h hm
   rw [List.length_cons] at hm
   refine e1_2 (need hm) fun m w2_ hm=>?_; subst w2_
   refine whl_go (et_and (ea_t (et_cmp (ev_x rfl) (ev_len (ev_x rfl) (hl _)) ?_) (ea_t (et_cmp (ev_idx (ev_x rfl) (ev_x rfl) (h.idx (by lia))) (ev_x rfl) ?_) ea_nil))) (run_aug rfl ev_c rfl (run_nil ?_))
   ·show some (decide _)=_
    have:=h.lt
    rw [decide_eq_true (by lia)]
   ·show (some (decide _)).map _=_
    rw [decide_eq_false (hX x List.mem_cons_self)]; rfl
   ·have:=ih (n+1) m (fun y hy=>hX y (List.mem_cons_of_mem _ hy)) h.next (by lia)
    have this:=(show n+1+X.length=n+(x :: X).length by rw [List.length_cons]; lia)▸this
    exact this
 have:=go X n W hX h (by have:=h.len; rw [List.length_append,List.length_cons] at this; lia)
 refine e3_4 this fun c ρ' σ' e w3_ w4_ w5_=>?_; subst w3_; subst w4_; subst w5_
 refine i3_2 .next _ _ e ?_
 exact run_ret (ev_bin (ev_x rfl) ev_c rfl) ⟨rfl,List.take_length⟩
structure Fr where
 sort:Txt
 word:Txt
 kids:List V
noncomputable abbrev Fr.v (f:Fr):List V:=[.str f.sort,.str f.word,.list f.kids]
noncomputable def RS (σ r:St) (F:List Fr):Prop:=∃ is:List Nat,is.length=F.length∧r[1]?=some (.list (is.map fun i=>.loc (σ.length+i)))∧is.Nodup∧(∀ i ∈ is,i≠1)∧∀ (j i:Nat) (f:Fr),is[j]?=some i→F[j]?=some f→r[i]?=some (.list f.v)
theorem RS.push {σ r:St} {F:List Fr} (h:RS σ r F) (f:Fr):∃ ls,r[1]?=some (.list ls)∧ls.length=F.length∧RS σ ((r++[Cel.list f.v]).set 1 (Cel.list (ls++[V.loc (σ.length+r.length)]))) (F++[f]):=by
 refine e1_5 h fun is h1 h2 h3 h4 h5=>?_
 refine ⟨_,h2,by rw [List.length_map,h1],is++[r.length],by rw [List.length_append,List.length_append,h1]; rfl,?_,?_,?_,?_⟩
 ·have:=(List.getElem?_eq_some_iff.mp h2).1
  rw [List.getElem?_set_self (by rw [List.length_append]; lia),List.map_append]; rfl
 ·have lt:∀ i ∈ is,i<r.length:=fun i hi=>by
   refine e1_1 (List.getElem?_of_mem hi) fun j hj=>?_
   have hj':=(List.getElem?_eq_some_iff.mp hj).1
   exact (List.getElem?_eq_some_iff.mp (h5 j i F[j] hj (List.getElem?_eq_getElem (h1▸hj')))).1
  rw [List.nodup_append]
  refine ⟨h3,by simp,fun a ha b hb=>?_⟩
  rw [List.mem_singleton] at hb
  have:=lt a ha
  lia
 ·intro i hi
  have:=(List.getElem?_eq_some_iff.mp h2).1
  rcases List.mem_append.mp hi with hi | hi
  ·exact h4 i hi
  ·rw [List.mem_singleton] at hi; lia
 ·intro j i f' hj hf
  have hlen:is.length=F.length:=h1
  by_cases q:j<is.length
  ·have hj:=(List.getElem?_append_left q)▸hj
   rw [List.getElem?_append_left (by lia)] at hf
   have:=h5 j i f' hj hf
   have hi:=(List.getElem?_eq_some_iff.mp this).1
   rw [List.getElem?_set_ne (fun z=>h4 i (List.mem_of_getElem? hj) z.symm),List.getElem?_append_left hi]
   exact this
  ·rw [List.getElem?_append_right (by lia)] at hj
   rw [List.getElem?_append_right (by lia),← h1] at hf
   have hz:=(List.getElem?_eq_some_iff.mp hj).1
   have:j - is.length=0:=by simp at hz; lia
   rw [this] at hj hf
   cases hj
   cases hf
   have:=(List.getElem?_eq_some_iff.mp h2).1
   rw [List.getElem?_set_ne (by lia),List.getElem?_append_right (Nat.le_refl _),Nat.sub_self]
   rfl
theorem RS.top {σ r:St} {F:List Fr} {f:Fr} (h:RS σ r (F++[f])):∃ ls i,r[1]?=some (.list (ls++[.loc (σ.length+i)]))∧ls.length=F.length∧i≠1∧r[i]?=some (.list f.v)∧
  (∀ f',RS σ (r.set i (.list (Fr.v f'))) (F++[f']))∧RS σ ((r.set 1 (.list ls)).set i (.flist f.v)) F:=by
 refine byC fun w11_=>?_
 refine e1_5 h fun is h1 h2 h3 h4 h5=>?_
 have h1:=List.length_nil▸List.length_cons▸List.length_append▸h1
 obtain ⟨is,i,rfl⟩:∃ is' i,is=is'++[i]:=⟨is.dropLast,is.getLast (by intro z; rw [z] at h1; simp at h1),(List.dropLast_concat_getLast _).symm⟩
 have hl:is.length=F.length:=by simpa using h1
 have hi:=h4 i (by simp)
 have hr:=h5 is.length i f (by simp) (by rw [hl]; simp)
 rw [List.nodup_append] at h3
 have hne:∀ j i',is[j]?=some i'→i≠i':=fun j i' hj z=>h3.2.2 i' (List.mem_of_getElem? hj) i (by simp) z.symm
 refine w11_ ?_
 refine i2_6 (is.map fun i=>.loc (σ.length+i)) i (by rw [h2,List.map_append]; rfl) (by rw [List.length_map,hl]) hi hr (fun f'=>?_) ?_
 ·refine i1_5 (is++[i]) (by rw [List.length_append,List.length_append,hl]; rfl) (by rw [List.getElem?_set_ne hi]; exact h2) (by rw [List.nodup_append]; exact h3) h4 (fun j i' g hj hg=>?_)
  by_cases q:j<is.length
  ·rw [List.getElem?_append_left q] at hj
   rw [List.getElem?_append_left (by lia)] at hg
   rw [List.getElem?_set_ne (hne j i' hj)]
   exact h5 j i' g (by rw [List.getElem?_append_left q]; exact hj) (by rw [List.getElem?_append_left (by lia)]; exact hg)
  ·rw [List.getElem?_append_right (by lia)] at hj
   rw [List.getElem?_append_right (by lia),← hl] at hg
   have hz:=(List.getElem?_eq_some_iff.mp hj).1
   have:j - is.length=0:=by simp at hz; lia
   rw [this] at hj hg
   cases hj
   cases hg
   rw [List.getElem?_set_self (List.getElem?_eq_some_iff.mp hr).1]
 ·have h1':=(List.getElem?_eq_some_iff.mp h2).1
  refine i1_5 is hl (by rw [List.getElem?_set_ne hi,List.getElem?_set_self h1']) h3.1 (fun i' hi'=>h4 i' (by simp [hi'])) (fun j i' g hj hg=>?_)
  rw [List.getElem?_set_ne (hne j i' hj),List.getElem?_set_ne (fun z=>h4 i' (by simp [List.mem_of_getElem? hj]) z.symm)]
  have q:=(List.getElem?_eq_some_iff.mp hj).1
  exact h5 j i' g (by rw [List.getElem?_append_left q]; exact hj) (by rw [List.getElem?_append_left (by lia)]; exact hg)
end
section
variable {W:Nat}
theorem o_join {p:Txt} {l:List Txt} {σ:St} (hl:l.length<1000) (hp:p.length<10) (ht:total l<1000000):bmeth (.str p) 5 [.list (vL l)] σ=some (.str (join p l),σ):=by
 have ha:∀ l:List Txt,allStr (vL l)=some l:=by
  intro l
  induction l with
  | nil=>rfl
  | cons x l ih=>refine (?_:(allStr (vL l)).map _=_); refine ih▸?_; rfl
 refine (?_:(some (vL l)).bind (fun xs=>(allStr xs).bind fun ts=>if xs.length<1000∧p.length<10∧total ts<1000000 then some (V.str (join p ts),σ) else none)=_)
 rw [Option.bind_some,ha,Option.bind_some,if_pos ⟨by rw [vL,List.length_map]; exact hl,hp,ht⟩]
theorem o_slice {tk:List Txt} {a b:Nat} (hn:tk.length<1000000) (ha:a≤tk.length) (hb:b≤tk.length):slice (.list (vL tk)) (some (.int a)) (some (.int b))=some (.list (vL ((tk.take b).drop a))):=by
 refine (?_:(if 1000000≤(vL tk).length then none else (bound _ 0 (some (.int a))).bind fun a=>(bound _ _ (some (.int b))).map fun b=>V.list (((vL tk).take b).drop a))=_)
 have hv:(vL tk).length=tk.length:=List.length_map _
 rw [hv,if_neg (by lia)]
 have bb:∀ (n k:Nat),k≤tk.length→bound tk.length n (some (.int k))=some k:=fun n k h=>by
  show some (if _ then _ else _)=_
  rw [if_pos (by lia)]
  congr 1
  lia
 refine (bb _ a ha)▸(bb _ b hb)▸?_
 refine (?_:some (V.list (((tk.map V.str).take b).drop a))=_)
 exact List.map_take▸List.map_drop▸rfl
theorem o_slice1 {tk rest:List Txt} {a:Nat} (hn:tk.length<1000000) (h:At tk a rest) (j:Nat):slice (.list (vL tk)) (some (.int (a+j:Nat))) (some (.int (a+j+1:Nat)))=some (.list (vL ((rest.drop j).take 1))):=by
 refine (?_:(if 1000000≤(vL tk).length then none else (bound _ 0 (some (.int _))).bind fun a=>(bound _ _ (some (.int _))).map fun b=>V.list (((vL tk).take b).drop a))=_)
 have hv:(vL tk).length=tk.length:=List.length_map _
 rw [hv,if_neg (by lia)]
 have bb:∀ (n k:Nat),bound tk.length n (some (.int k))=some (min k tk.length):=fun n k=>by
  show some (if _ then _ else _)=_
  rw [if_pos (by lia)]
  congr 1
 rw [bb,bb]
 refine (?_:some (V.list (((tk.map V.str).take (min (a+j+1) tk.length)).drop (min (a+j) tk.length)))=_)
 rw [← List.map_take,← List.map_drop,← h.2,List.drop_drop]
 congr 3
 rw [List.take_drop]
 have e1:tk.take (min (a+j+1) tk.length)=tk.take (a+j+1):=by
  rcases Nat.le_total (a+j+1) tk.length with q | q
  ·rw [Nat.min_eq_left q]
  ·rw [Nat.min_eq_right q,List.take_of_length_le (Nat.le_refl _),List.take_of_length_le q]
 rw [e1]
 rcases Nat.le_total (a+j) tk.length with q | q
 ·rw [Nat.min_eq_left q]
 ·rw [Nat.min_eq_right q,List.drop_of_length_le (by rw [List.length_take]; lia),List.drop_of_length_le (by rw [List.length_take]; lia)]
theorem At.slice {tk a rest:List Txt} {n:Nat} (hn:tk.length<1000000) (h:At tk n (a++rest)):slice (.list (vL tk)) (some (.int n)) (some (.int (n+a.length:Nat)))=some (.list (vL a)):=by
 have l:=h.len
 rw [List.length_append] at l
 rw [o_slice hn h.1 (by lia)]
 congr 3
 rw [List.drop_take,h.2,Nat.add_sub_cancel_left,List.take_left]
theorem call_s {d f i:Nat} {fn:Fn} {args:List V} {σ r r':St} {v:V} (hf:fns[f]?=some fn) (hl:args.length=fn.arity) (hi:i<r.length) (hne:r'[i]?≠r[i]?)
  (h:Run W (callF prog W d) fn.body (args.map some++List.replicate (fn.slots - fn.arity) none) (σ++r) fun c ρ' σ'=>c = .ret v∧σ'=σ++r'):callF prog W (d+1) f args (σ++r)=some (v,σ++r'):=by
 refine call_store hf hl h fun z=>hne ?_
 have q:((σ++r').take (σ++r).length)[σ.length+i]?=(σ++r)[σ.length+i]?:=congrArg (fun l:St=>l[σ.length+i]?) z.2
 rw [List.getElem?_take_of_lt (by rw [List.length_append]; lia),gk rfl,gk rfl] at q
 exact q
noncomputable def noKw (x:Txt):Bool:=decide (isIn (.str x) [.str [105,102],.str [119,104,105,108,101],.str [102,111,114]]=some false) && decide (x≠[100,111]) && decide (x≠[123]) && decide (x≠[115,119,105,116,99,104]) && decide (x≠[116,114,121]) && decide (x≠[125])
noncomputable def NewR (σ r:St) (ls:List V) (f:Fr):St:=(r++[Cel.list f.v]).set 1 (Cel.list (ls++[V.loc (σ.length+r.length)]))
section
variable {d k:Nat} {σ r:St} {tk:List Txt} {ls:List V}
theorem begin_push {x:Txt} {rest:List Txt} {k':Int} {f:Fr} (hr:r[1]?=some (.list ls)) (h:Run W (callF prog W d) b_law_begin [some (.list (vL tk)),some (.int k),some (.loc (σ.length+1)),none,none] (σ++r) fun c ρ' σ'=>c = .ret (.tup [.int k',.none])∧σ'=σ++NewR σ r ls f) :
  callF prog W (d+1) 50 [.list (vL tk),.int k,.loc (σ.length+1)] (σ++r)=some (.tup [.int k',.none],σ++NewR σ r ls f):=by
 have h1:=(List.getElem?_eq_some_iff.mp hr).1
 refine call_s (i:=1) (fn:=⟨3,5,b_law_begin⟩) rfl rfl h1 ?_ h
 unfold NewR
 rw [List.getElem?_set_self (by rw [List.length_append]; lia),hr]
 intro z
 cases List.append_right_eq_self.mp (Cel.list.inj (Option.some.inj z))
theorem begin_head {b:Bool} {x:Txt} {X rest:List Txt} (hn:tk.length<100000) (hW:tk.length<W) (hr:r[1]?=some (.list ls)) (hls:ls.length<1000) (h:At tk k (x :: (X++[41] :: rest)))
  (hin:isIn (.str x) [.str [105,102],.str [119,104,105,108,101],.str [102,111,114]]=some true) (hb:decide (x=[105,102])=b) (hx:∀ y ∈ x :: X,y≠[41]) (hX:X.length<900) (ht:total (x :: X++[[41]])<1000000) :
  callF prog W (d+2) 50 [.list (vL tk),.int k,.loc (σ.length+1)] (σ++r)=some (.tup [.int (k+(X.length+2):Nat),.none],σ++NewR σ r ls ⟨cond b [105,102] [108,111,111,112],sp (x :: X++[[41]]),[]⟩):=by
 refine begin_push (x:=x) (rest:=rest) hr ?_
 have hst:∀ c,(r++[c])[1]?=some (.list ls):=fun c=>by rw [List.getElem?_append_left (List.getElem?_eq_some_iff.mp hr).1]; exact hr
 have hidx:∀ σ,index (.list (vL tk)) (.int k) σ=some (.str x):=fun _=>h.idx (by lia)
 have hin':∀ σ,cmpop .isin (.str x) (.tup [.str [105,102],.str [119,104,105,108,101],.str [102,111,114]]) σ=some true:=fun _=>hin
 have hif:∀ σ,cmpop .eq (.str x) (.str [105,102]) σ=some b:=fun _=>congrArg some hb
 have he:∀ σ,callF prog W (d+1) 49 [.list (vL tk),.int k,.str [41]] σ=some (.int (k+(X.length+2):Nat),σ):=fun σ=>ends_ok (X:=x :: X) hn hW hx h
 have hsl:slice (.list (vL tk)) (some (.int k)) (some (.int (k+(X.length+2):Nat)))=some (.list (vL (x :: X++[[41]]))):=by
  have h':At tk k ((x :: X++[[41]])++rest):=by rw [List.append_assoc]; exact h
  have:=h'.slice (by lia)
  have e:(x :: X++[[41]]:List Txt).length=X.length+2:=by simp
  have this:=e▸this
  exact this
 have hj:∀ σ,bmeth (.str [32]) 5 [.list (vL (x :: X++[[41]]))] σ=some (.str (sp (x :: X++[[41]])),σ):=fun _=>o_join (by rw [List.length_append,List.length_cons]; refine (?_:X.length+1+1<1000); lia) (by decide) ht
 unfold b_law_begin
 cases b with
 | true=>
  repeat' (first | wtm_at "qa" | ((with_reducible show callF _ _ _ _ _ _=_); first | exact he _) | exact hidx _ | exact hin' _ | exact hif _ | exact hsl | exact hj _ | exact o_cls hr | exact o_kind hr rfl | exact o_app (hst _) (by lia) | wtm_at "qb")
  exact ⟨rfl,rfl⟩
 | false=>
  repeat' (first | wtm_at "qa" | ((with_reducible show callF _ _ _ _ _ _=_); first | exact he _) | exact hidx _ | exact hin' _ | exact hif _ | exact hsl | exact hj _ | exact o_cls hr | exact o_kind hr rfl | exact o_app (hst _) (by lia) | wtm_at "qb")
  exact ⟨rfl,rfl⟩
theorem begin_open {x:Txt} {rest:List Txt} (hn:tk.length<100000) (hr:r[1]?=some (.list ls)) (hls:ls.length<1000) (h:At tk k (x :: rest)) (b:Bool) (hx:x=cond b [100,111] [123]) :
  callF prog W (d+1) 50 [.list (vL tk),.int k,.loc (σ.length+1)] (σ++r)=some (.tup [.int (k+1:Nat),.none],σ++NewR σ r ls ⟨cond b [100,111] [98,108,111,99,107],[],[]⟩):=by
 refine begin_push (x:=x) (rest:=rest) hr ?_
 have hst:∀ c,(r++[c])[1]?=some (.list ls):=fun c=>by rw [List.getElem?_append_left (List.getElem?_eq_some_iff.mp hr).1]; exact hr
 have hidx:∀ σ,index (.list (vL tk)) (.int k) σ=some (.str x):=fun _=>h.idx (by lia)
 unfold b_law_begin
 subst hx
 cases b with
 | true=>
  have hidx:∀ σ,index (.list (vL tk)) (.int k) σ=some (.str [100,111]):=hidx
  repeat' (first | wtm_at "qa" | exact hidx _ | exact o_cls hr | exact o_kind hr rfl | exact o_app (hst _) (by lia) | wtm_at "qb")
  exact ⟨rfl,rfl⟩
 | false=>
  have hidx:∀ σ,index (.list (vL tk)) (.int k) σ=some (.str [123]):=hidx
  repeat' (first | wtm_at "qa" | exact hidx _ | exact o_cls hr | exact o_kind hr rfl | exact o_app (hst _) (by lia) | wtm_at "qb")
  exact ⟨rfl,rfl⟩
theorem begin_try {rest:List Txt} (hn:tk.length<100000) (hr:r[1]?=some (.list ls)) (hls:ls.length<1000) (h:At tk k ([116,114,121] :: rest)) :
  callF prog W (d+1) 50 [.list (vL tk),.int k,.loc (σ.length+1)] (σ++r)=some (.tup [.int (k+5:Nat),.none],σ++NewR σ r ls ⟨[116,114,121],[],[]⟩):=by
 refine begin_push (x:=[]) (rest:=rest) hr ?_
 have hst:∀ c,(r++[c])[1]?=some (.list ls):=fun c=>by rw [List.getElem?_append_left (List.getElem?_eq_some_iff.mp hr).1]; exact hr
 have hidx:∀ σ,index (.list (vL tk)) (.int k) σ=some (.str [116,114,121]):=fun _=>h.idx (by lia)
 unfold b_law_begin
 repeat' (first | wtm_at "qa" | exact hidx _ | exact o_cls hr | exact o_kind hr rfl | exact o_app (hst _) (by lia) | wtm_at "qb")
 exact ⟨rfl,rfl⟩
theorem begin_switch {x y:Txt} {rest:List Txt} (hn:tk.length<100000) (hr:r[1]?=some (.list ls)) (hls:ls.length<1000) (h:At tk k ([115,119,105,116,99,104] :: y :: x :: rest)) (hx:x.length<100) :
  callF prog W (d+1) 50 [.list (vL tk),.int k,.loc (σ.length+1)] (σ++r)=some (.tup [.int (k+7:Nat),.none],σ++NewR σ r ls ⟨[115,119,105,116,99,104],x,[]⟩):=by
 refine begin_push (x:=[]) (rest:=rest) hr ?_
 have hst:∀ c,(r++[c])[1]?=some (.list ls):=fun c=>by rw [List.getElem?_append_left (List.getElem?_eq_some_iff.mp hr).1]; exact hr
 have hidx:∀ σ,index (.list (vL tk)) (.int k) σ=some (.str [115,119,105,116,99,104]):=fun _=>h.idx (by lia)
 have hsl:slice (.list (vL tk)) (some (.int ((k:Int)+2))) (some (.int ((k:Int)+3)))=some (.list (vL [x])):=o_slice1 (by lia) h 2
 have hj:∀ σ,bmeth (.str []) 5 [.list (vL [x])] σ=some (.str x,σ):=fun σ=>o_join (p:=[]) (l:=[x]) (Nat.le_of_ble_eq_true rfl) (Nat.le_of_ble_eq_true rfl) (by refine (?_:x.length+0<1000000); lia)
 unfold b_law_begin
 repeat' (first | wtm_at "qa" | exact hidx _ | exact hsl | exact hj _ | exact o_cls hr | exact o_kind hr rfl | exact o_app (hst _) (by lia) | wtm_at "qb")
 exact ⟨rfl,rfl⟩
theorem begin_close {f:Fr} {i:Nat} {rest:List Txt} (hn:tk.length<100000) (hr:r[1]?=some (.list (ls++[.loc (σ.length+i)]))) (hls:ls.length<1000) (hi:i≠1) (hf:r[i]?=some (.list f.v)) (h:At tk k ([125] :: rest)) :
  callF prog W (d+1) 50 [.list (vL tk),.int k,.loc (σ.length+1)] (σ++r)=some (.tup [.int (k+1:Nat),.list f.v],σ++(r.set 1 (.list ls)).set i (.flist f.v)):=by
 have h1:=(List.getElem?_eq_some_iff.mp hr).1
 have hidx:∀ σ,index (.list (vL tk)) (.int k) σ=some (.str [125]):=fun _=>h.idx (by lia)
 refine call_s (i:=1) (fn:=⟨3,5,b_law_begin⟩) rfl rfl h1 ?_ ?_
 ·rw [List.getElem?_set_ne hi,List.getElem?_set_self h1,hr]
  intro z
  have:=List.append_right_eq_self.mp (Cel.list.inj (Option.some.inj z)).symm
  exact noK this
 ·have hf':(r.set 1 (.list ls))[i]?=some (.list f.v):=by rw [List.getElem?_set_ne (Ne.symm hi)]; exact hf
  refine (?_:Run W _ b_law_begin [some _,some _,some _,none,none] _ _)
  unfold b_law_begin
  repeat' (first | wtm_at "qa" | exact hidx _ | exact o_cls hr | exact o_kind hr rfl | exact o_pop hr (by lia) | exact o_frz hf' | wtm_at "qb")
  exact ⟨rfl,rfl⟩
theorem begin_label {x:Txt} {rest:List Txt} (hn:tk.length<100000) (hr:r[1]?=some (.list ls)) (hls:ls.length<1000) (h:At tk k (x :: [58] :: rest)) (hx:noKw x=true) :
  callF prog W (d+1) 50 [.list (vL tk),.int k,.loc (σ.length+1)] (σ++r)=some (.tup [.int (k+2:Nat),.none],σ++NewR σ r ls ⟨[108,97,98,101,108],x,[]⟩):=by
 refine begin_push (x:=[]) (rest:=rest) hr ?_
 refine byC fun w15_=>?_
 have hst:∀ c,(r++[c])[1]?=some (.list ls):=fun c=>by rw [List.getElem?_append_left (List.getElem?_eq_some_iff.mp hr).1]; exact hr
 have hidx:∀ σ,index (.list (vL tk)) (.int k) σ=some (.str x):=fun _=>h.idx (by lia)
 simp only [noKw,Bool.and_eq_true,decide_eq_true_eq] at hx
 refine e0_2 hx fun w11_ x6=>?_; refine e0_2 w11_ fun w12_ x5=>?_; refine e0_2 w12_ fun w13_ x4=>?_; refine e0_2 w13_ fun w14_ x3=>?_; refine e0_2 w14_ fun x1 x2=>?_
 have x1:∀ σ,cmpop .isin (.str x) (.tup [.str [105,102],.str [119,104,105,108,101],.str [102,111,114]]) σ=some false:=fun _=>x1
 have hsl:slice (.list (vL tk)) (some (.int ((k:Int)+1))) (some (.int ((k:Int)+2)))=some (.list (vL [[58]])):=o_slice1 (by lia) h 1
 refine w15_ ?_
 unfold b_law_begin
 repeat' (first | wtm_at "qa" | exact hidx _ | exact x1 _ | exact cmp_ne x2 | exact cmp_ne x3 | exact cmp_ne x4 | exact cmp_ne x5 | exact cmp_ne x6 | exact hsl | exact o_cls hr | exact o_kind hr rfl | exact o_app (hst _) (by lia) | wtm_at "qb")
 exact ⟨rfl,rfl⟩
theorem begin_row {x:Txt} {X rest:List Txt} (hn:tk.length<100000) (hW:tk.length<W) (h:At tk k (X++[59] :: rest)) (hX:∃ Y,X++[[59]]=x :: Y) (hx:noKw x=true) (hs:∀ y ∈ X,y≠[59]) (hl:X.length<900) (ht:total (X++[[59]])<1000000)
  (hc:eqv (.list (vL (((X++[59] :: rest).drop 1).take 1))) (.list [.str [58]])=some false) :
  callF prog W (d+2) 50 [.list (vL tk),.int k,.loc (σ.length+1)] (σ++r)=some (.tup [.int (k+X.length+1:Nat),ter [114,111,119] (sp (X++[[59]])) []],σ++r):=by
 refine e1_1 hX fun Y hY=>?_
 have h0:At tk k (x :: (Y++rest)):=by rw [← List.cons_append,← hY,List.append_assoc]; exact h
 refine call_pure (fn:=⟨3,5,b_law_begin⟩) rfl rfl rfl ?_
 refine byC fun w21_=>?_
 have hidx:∀ σ,index (.list (vL tk)) (.int k) σ=some (.str x):=fun _=>h0.idx (by lia)
 simp only [noKw,Bool.and_eq_true,decide_eq_true_eq] at hx
 refine e0_2 hx fun w16_ x6=>?_; refine e0_2 w16_ fun w17_ x5=>?_; refine e0_2 w17_ fun w18_ x4=>?_; refine e0_2 w18_ fun w19_ x3=>?_; refine e0_2 w19_ fun x1 x2=>?_
 have x1:∀ σ,cmpop .isin (.str x) (.tup [.str [105,102],.str [119,104,105,108,101],.str [102,111,114]]) σ=some false:=fun _=>x1
 have hsl:slice (.list (vL tk)) (some (.int ((k:Int)+1))) (some (.int ((k:Int)+2)))=some (.list (vL (((X++[59] :: rest).drop 1).take 1))):=o_slice1 (by lia) h 1
 have hc:∀ σ,cmpop .eq (.list (vL (((X++[59] :: rest).drop 1).take 1))) (.list [.str [58]]) σ=some false:=fun _=>hc
 have he:∀ σ,callF prog W (d+1) 49 [.list (vL tk),.int k,.str [59]] σ=some (.int (k+X.length+1:Nat),σ):=fun σ=>ends_ok hn hW hs h
 have hsl2:slice (.list (vL tk)) (some (.int k)) (some (.int (k+X.length+1:Nat)))=some (.list (vL (X++[[59]]))):=by
  have h':At tk k ((X++[[59]])++rest):=by rw [List.append_assoc]; exact h
  have:=h'.slice (by lia)
  rw [List.length_append,List.length_cons,List.length_nil,Nat.zero_add,← Nat.add_assoc] at this
  exact this
 have hj:∀ σ,bmeth (.str [32]) 5 [.list (vL (X++[[59]]))] σ=some (.str (sp (X++[[59]])),σ):=fun _=>o_join (by rw [List.length_append,List.length_cons,List.length_nil]; lia) (by decide) ht
 refine w21_ ?_
 refine (?_:Run W _ b_law_begin [some _,some _,some _,none,none] _ _)
 unfold b_law_begin
 repeat' (first | wtm_at "qa" | ((with_reducible show callF _ _ _ _ _ _=_); first | exact he _) | exact hidx _ | exact x1 _ | exact cmp_ne x2 | exact cmp_ne x3 | exact cmp_ne x4 | exact cmp_ne x5 | exact cmp_ne x6 | exact hsl | exact hc _ | exact hsl2 | exact hj _ | wtm_at "qb")
 exact ⟨rfl,List.take_length⟩
end
end
section
noncomputable def RT:E:=(E.or [(E.cmp .lt (E.x 3) (E.len (E.x 0))),(E.cmp .isnt (E.x 2) (E.c V.none))])
noncomputable def RB:List S:=match b_law_read with
 | [_,_,_,.while _ b,_]=>b
 | _=>[]
noncomputable def Rd (W d:Nat) (tk:List Txt) (σ:St) (Q:Ctl→Loc→St→Prop) (n k:Nat) (wh:V) (F:List Fr):Prop:=
 ∀ r y4 y5,RS σ r F→Whl (evalT prog (callF prog W d) RT) (evalSs prog W (callF prog W d) RB) n [some (.list (vL tk)),some (.loc (σ.length+1)),some wh,some (.int k),y4,y5] (σ++r) Q
noncomputable def heldT:List V:=[.str [102,105,108,101],.str [98,108,111,99,107],.str [115,119,105,116,99,104],.str [116,114,121]]
section
variable {W d:Nat} {tk:List Txt} {σ:St} {Q:Ctl→Loc→St→Prop} {n k k':Nat} {F F':List Fr} {f:Fr}
theorem len_tk (hn:tk.length<100000) (σ:St):lenV (.list (vL tk)) σ=some (.int tk.length):=by
 have:=o_lenL (σ:=σ) (xs:=vL tk) (by rw [vL,List.length_map]; lia)
 rw [vL,List.length_map] at this; exact this
theorem rt_true (hn:tk.length<100000) {x:Txt} {rest:List Txt} (h:At tk k (x :: rest)) {σ:St} {a b y4 y5:Option V}:EvT (callF prog W d) RT [some (.list (vL tk)),a,b,some (.int k),y4,y5] σ true σ:=by
 have:=h.lt
 exact et_or (eo_t (et_cmp (ev_x rfl) (ev_len (ev_x rfl) (len_tk hn _)) (by show some (decide _)=_; rw [decide_eq_true (by lia)])))
theorem rt_whole (hn:tk.length<100000) {σ:St} {a y4 y5:Option V} {t:V} (ht:t.isNone=false):EvT (callF prog W d) RT [some (.list (vL tk)),a,some t,some (.int k),y4,y5] σ true σ:=by
 refine et_or (eo_cons (q:=decide (k<tk.length)) (et_cmp (ev_x rfl) (ev_len (ev_x rfl) (len_tk hn _)) ?_) ?_)
 ·show some (decide _)=some (decide _)
  congr 1
  rw [decide_eq_decide]
  lia
 ·cases decide (k<tk.length) with
  | true=>rfl
  | false=>exact eo_t (et_cmp (ev_x rfl) ev_c (by refine (?_:some (!_)=_); refine ht▸?_; rfl))
theorem turn_b1 {x:Txt} {rest:List Txt} {b:Bool} {wh':V} (hn:tk.length<100000) (hF:F.length<900) (h:At tk k (x :: rest)) (hx:x≠[125]) (hh:isIn (.str f.sort) heldT=some b)
  (hb:∀ r,RS σ r (F++[f])→∃ r',RS σ r' F'∧callF prog W d 50 [.list (vL tk),.int k,.loc (σ.length+1)] (σ++r)=some (.tup [.int k',wh'],σ++r'))
  (nx:Rd W d tk σ Q n k' wh' F'):Rd W d tk σ Q (n+1) k .none (F++[f]):=by
 intro r y4 y5 hR
 refine byC fun w1_=>?_
 refine e2_6 hR.top fun ls i h1 hl hi hf _ _=>?_
 refine e1_2 (hb r hR) fun r' hR' hc=>?_
 have htop:index (.loc (σ.length+1)) (.int (-1)) (σ++r)=some (.loc (σ.length+i)):=o_idx h1 (ati_last (by lia))
 have hs:index (.loc (σ.length+i)) (.int 0) (σ++r)=some (.str f.sort):=o_idx hf rfl
 have hh:∀ σ,cmpop .isin (.str f.sort) (.tup [.str [102,105,108,101],.str [98,108,111,99,107],.str [115,119,105,116,99,104],.str [116,114,121]]) σ=some b:=fun _=>hh
 have hidx:∀ σ,index (.list (vL tk)) (.int k) σ=some (.str x):=fun _=>h.idx (by lia)
 refine w1_ ?_
 refine whl_go (rt_true hn h) ?_
 unfold RB
 unfold b_law_read
 repeat' (first | wtm_at "qa" | ((with_reducible show callF _ _ _ _ _ _=_); first | exact hc) | exact htop | exact hs | exact hh _ | exact hidx _ | exact cmp_ne hx | exact nx r' _ _ hR' | wtm_at "qb")
theorem turn_b2 {rest:List Txt} (hn:tk.length<100000) (hF:F.length<900) (hF0:F.length≠0) (h:At tk k ([125] :: rest)) (hh:isIn (.str f.sort) heldT=some true)
  (nx:Rd W (d+1) tk σ Q n (k+1) (.list f.v) F):Rd W (d+1) tk σ Q (n+1) k .none (F++[f]):=by
 intro r y4 y5 hR
 refine byC fun w2_=>?_
 refine e2_6 hR.top fun ls i h1 hl hi hf _ hR'=>?_
 have hc:=begin_close (W:=W) (d:=d) hn h1 (by lia) hi hf h
 have htop:index (.loc (σ.length+1)) (.int (-1)) (σ++r)=some (.loc (σ.length+i)):=o_idx h1 (ati_last (by lia))
 have hs:index (.loc (σ.length+i)) (.int 0) (σ++r)=some (.str f.sort):=o_idx hf rfl
 have hh:∀ σ,cmpop .isin (.str f.sort) (.tup [.str [102,105,108,101],.str [98,108,111,99,107],.str [115,119,105,116,99,104],.str [116,114,121]]) σ=some true:=fun _=>hh
 have hidx:∀ σ,index (.list (vL tk)) (.int k) σ=some (.str [125]):=fun _=>h.idx (by lia)
 have tst:∀ ρ:Loc,ρ[0]?=some (some (.list (vL tk)))→ρ[1]?=some (some (.loc (σ.length+1)))→ρ[3]?=some (some (.int k))→ρ[5]?=some (some (.bool true))→
   EvT (callF prog W (d+1)) (E.and [(E.cmp .eq (E.idx (E.x 0) (E.x 3)) (E.c (V.str [125]))),(E.or [(E.cmp .eq (E.len (E.x 1)) (E.c (V.int 1))),(E.not (E.tst (E.x 5)))])]) ρ (σ++r) false (σ++r):=fun ρ e0 e1 e3 e5=>by
  refine et_and (ea_t (et_cmp (ev_idx (ev_x e0) (ev_x e3) (hidx _)) ev_c rfl) (ea_f (et_or (eo_f (et_cmp (ev_len (ev_x e1) (o_len (o_items h1) (by rw [List.length_append]; exact Nat.lt_of_lt_of_le (Nat.add_lt_add_right (by lia:ls.length<900) 1) (Nat.le_of_ble_eq_true rfl)))) ev_c ?_) (eo_f (et_not (q:=true) (et_tst (ev_x e5) rfl)) eo_nil)))))
  show some (decide _)=_
  rw [decide_eq_false]
  rw [List.length_append,List.length_cons,List.length_nil]
  lia
 refine w2_ ?_
 refine whl_go (rt_true hn h) ?_
 unfold RB
 unfold b_law_read
 repeat' (first | exact tst _ rfl rfl rfl rfl | wtm_at "qa" | ((with_reducible show callF _ _ _ _ _ _=_); first | exact hc) | exact htop | exact hs | exact hh _ | exact nx _ _ _ hR' | wtm_at "qb")
theorem turn_held {t:V} (hn:tk.length<100000) (hF:F.length<900) (ht:t.isNone=false) (hh:isIn (.str f.sort) heldT=some true) (hk:f.kids.length<900)
  (nx:Rd W d tk σ Q n k .none (F++[⟨f.sort,f.word,f.kids++[t]⟩])):Rd W d tk σ Q (n+1) k t (F++[f]):=by
 intro r y4 y5 hR
 refine e2_6 hR.top fun ls i h1 hl hi hf hR' _=>?_
 have htop:index (.loc (σ.length+1)) (.int (-1)) (σ++r)=some (.loc (σ.length+i)):=o_idx h1 (ati_last (by lia))
 have hs:index (.loc (σ.length+i)) (.int 0) (σ++r)=some (.str f.sort):=o_idx hf rfl
 have hs2:index (.loc (σ.length+i)) (.int 2) (σ++r)=some (.list f.kids):=o_idx hf rfl
 have hh:∀ σ,cmpop .isin (.str f.sort) (.tup [.str [102,105,108,101],.str [98,108,111,99,107],.str [115,119,105,116,99,104],.str [116,114,121]]) σ=some true:=fun _=>hh
 have hno:∀ σ,cmpop .is t .none σ=some false:=fun _=>congrArg some ht
 refine whl_go (rt_whole hn ht) ?_
 unfold RB
 unfold b_law_read
 repeat' (first | wtm_at "qa" | exact htop | exact hs | exact hs2 | exact hh _ | exact hno _ | exact o_setI hf (of_decide_eq_true rfl) | exact nx _ _ _ (hR' ⟨_,_,_⟩) | wtm_at "qb")
theorem turn_else {t:V} {w:Txt} {rest:List Txt} (hn:tk.length<100000) (hF:F.length<900) (ht:t.isNone=false) (h:At tk k ([101,108,115,101] :: rest))
  (nx:Rd W d tk σ Q n (k+1) .none (F++[⟨[105,102],w,[t]⟩])):Rd W d tk σ Q (n+1) k t (F++[⟨[105,102],w,[]⟩]):=by
 intro r y4 y5 hR
 refine e2_6 hR.top fun ls i h1 hl hi hf hR' _=>?_
 have htop:index (.loc (σ.length+1)) (.int (-1)) (σ++r)=some (.loc (σ.length+i)):=o_idx h1 (ati_last (by lia))
 have hs:index (.loc (σ.length+i)) (.int 0) (σ++r)=some (.str [105,102]):=o_idx hf rfl
 have hs2:index (.loc (σ.length+i)) (.int 2) (σ++r)=some (.list []):=o_idx hf rfl
 have hno:∀ σ,cmpop .is t .none σ=some false:=fun _=>congrArg some ht
 have hsl:slice (.list (vL tk)) (some (.int k)) (some (.int ((k:Int)+1)))=some (.list (vL [[101,108,115,101]])):=o_slice1 (by lia) h 0
 refine whl_go (rt_whole hn ht) ?_
 unfold RB
 unfold b_law_read
 repeat' (first | wtm_at "qa" | exact htop | exact hs | exact hs2 | exact hno _ | exact hsl | exact o_setI hf (of_decide_eq_true rfl) | exact nx _ _ _ (hR' ⟨_,_,_⟩) | wtm_at "qb")
noncomputable def noElse (f:Fr) (rest:List Txt):Prop:=f.sort≠[105,102]∨f.kids.length≠0∨eqv (.list (vL (rest.take 1))) (.list [.str [101,108,115,101]])=some false
theorem no_else {rest:List Txt} {r:St} {i:Nat} (hn:tk.length<100000) (h:At tk k rest) (hf:r[i]?=some (.list f.v)) (hk:f.kids.length<900) (ne:noElse f rest):∀ ρ:Loc,ρ[0]?=some (some (.list (vL tk)))→ρ[3]?=some (some (.int k))→ρ[4]?=some (some (.loc (σ.length+i)))→
   EvT (callF prog W d) (E.and [(E.cmp .eq (E.idx (E.x 4) (E.c (V.int 0))) (E.c (V.str [105,102]))),(E.cmp .eq (E.len (E.idx (E.x 4) (E.c (V.int 2)))) (E.c (V.int 0))),(E.cmp .eq (E.slc (E.x 0) (some (E.x 3)) (some (E.bin .add (E.x 3) (E.c (V.int 1))))) (E.list false [(E.c (V.str [101,108,115,101]))]))]) ρ (σ++r) false (σ++r):=by
 intro ρ e0 e3 e4
 have hs:index (.loc (σ.length+i)) (.int 0) (σ++r)=some (.str f.sort):=o_idx hf rfl
 have hs2:index (.loc (σ.length+i)) (.int 2) (σ++r)=some (.list f.kids):=o_idx hf rfl
 refine et_and ?_
 by_cases q1:f.sort=[105,102]
 ·refine ea_t (et_cmp (ev_idx (ev_x e4) ev_c hs) ev_c (by show some (decide _)=_; rw [decide_eq_true q1])) ?_
  have hl:EvE (callF prog W d) (E.len (E.idx (E.x 4) (E.c (V.int 2)))) ρ (σ++r) (.int f.kids.length) (σ++r):=ev_len (ev_idx (ev_x e4) ev_c hs2) (o_lenL (by lia))
  by_cases q2:f.kids.length=0
  ·refine ea_t (et_cmp hl ev_c (by refine q2▸?_; rfl)) ?_
   have q3:eqv (.list (vL (rest.take 1))) (.list [.str [101,108,115,101]])=some false:=by
    rcases ne with z | z | z
    ·exact absurd q1 z
    ·exact absurd q2 z
    ·exact z
   have hsl:slice (.list (vL tk)) (some (.int k)) (some (.int ((k:Int)+1)))=some (.list (vL (rest.take 1))):=o_slice1 (by lia) h 0
   exact ea_f (et_cmp (ev_slc (ev_x e0) (ev_o1 (ev_x e3)) (ev_o1 (ev_bin (ev_x e3) ev_c rfl)) hsl) (ev_listF (evs_cons ev_c evs_nil) (Nat.le_of_ble_eq_true rfl)) q3)
  ·exact ea_f (et_cmp hl ev_c (by show some (decide _)=_; rw [decide_eq_false (by lia)]))
 ·exact ea_f (et_cmp (ev_idx (ev_x e4) ev_c hs) ev_c (by show some (decide _)=_; rw [decide_eq_false q1]))
theorem turn_pop {t:V} {rest:List Txt} (hn:tk.length<100000) (hF:F.length<900) (ht:t.isNone=false) (h:At tk k rest) (hh:isIn (.str f.sort) heldT=some false) (hk:f.kids.length<900) (ne:noElse f rest) (hd:f.sort≠[100,111])
  (nx:Rd W d tk σ Q n k (ter f.sort f.word (f.kids++[t])) F):Rd W d tk σ Q (n+1) k t (F++[f]):=by
 intro r y4 y5 hR
 refine e2_6 hR.top fun ls i h1 hl hi hf hR' _=>?_
 have htop:index (.loc (σ.length+1)) (.int (-1)) (σ++r)=some (.loc (σ.length+i)):=o_idx h1 (ati_last (by lia))
 have hs:index (.loc (σ.length+i)) (.int 0) (σ++r)=some (.str f.sort):=o_idx hf rfl
 have hs2:index (.loc (σ.length+i)) (.int 2) (σ++r)=some (.list f.kids):=o_idx hf rfl
 have hh:∀ σ,cmpop .isin (.str f.sort) (.tup [.str [102,105,108,101],.str [98,108,111,99,107],.str [115,119,105,116,99,104],.str [116,114,121]]) σ=some false:=fun _=>hh
 have hno:∀ σ,cmpop .is t .none σ=some false:=fun _=>congrArg some ht
 have tst:=no_else (W:=W) (d:=d) (σ:=σ) hn h hf hk ne
 have h1':(r.set i (.list (Fr.v ⟨f.sort,f.word,f.kids++[t]⟩)))[1]?=some (.list (ls++[.loc (σ.length+i)])):=by rw [List.getElem?_set_ne hi]; exact h1
 have hR2:=hR' ⟨f.sort,f.word,f.kids++[t]⟩
 have hf2:((r.set i (.list (Fr.v ⟨f.sort,f.word,f.kids++[t]⟩))).set 1 (.list ls))[i]?=some (.list (Fr.v ⟨f.sort,f.word,f.kids++[t]⟩)):=by
  rw [List.getElem?_set_ne (Ne.symm hi),List.getElem?_set_self (List.getElem?_eq_some_iff.mp hf).1]
 have hR3:RS σ (((r.set i (.list (Fr.v ⟨f.sort,f.word,f.kids++[t]⟩))).set 1 (.list ls)).set i (.flist (Fr.v ⟨f.sort,f.word,f.kids++[t]⟩))) F:=by
  refine e2_6 hR2.top fun ls' i' g1 gl gi gf _ g=>?_
  rw [h1'] at g1
  have e:=List.append_inj (Cel.list.inj (Option.some.inj g1)) (by lia)
  refine e0_2 e fun e1 e2=>?_
  have e3:i'=i:=by
   have:=V.loc.inj (List.cons.inj e2).1
   lia
  rw [e1]
  rw [e3] at g
  exact g
 refine whl_go (rt_whole hn ht) ?_
 unfold RB
 unfold b_law_read
 repeat' (first | exact tst _ rfl rfl rfl | wtm_at "qa" | exact htop | exact hs | exact hs2 | exact hh _ | exact hno _ | exact cmp_ne hd | exact o_setI hf (of_decide_eq_true rfl) | exact o_pop h1' (by lia) | exact o_cls h1' | exact o_kind h1' rfl | exact o_frz hf2 | exact nx _ _ _ hR3 | wtm_at "qb")
theorem turn_do {t:V} {w x y z:Txt} {rest:List Txt} (hn:tk.length<100000) (hF:F.length<900) (ht:t.isNone=false) (h:At tk k (y :: z :: x :: rest)) (hx:x.length<100)
  (nx:Rd W d tk σ Q n (k+5) (ter [100,111] x [t]) F):Rd W d tk σ Q (n+1) k t (F++[⟨[100,111],w,[]⟩]):=by
 intro r y4 y5 hR
 refine e2_6 hR.top fun ls i h1 hl hi hf hR' _=>?_
 have htop:index (.loc (σ.length+1)) (.int (-1)) (σ++r)=some (.loc (σ.length+i)):=o_idx h1 (ati_last (by lia))
 have hs:index (.loc (σ.length+i)) (.int 0) (σ++r)=some (.str [100,111]):=o_idx hf rfl
 have hno:∀ σ,cmpop .is t .none σ=some false:=fun _=>congrArg some ht
 have hi':=(List.getElem?_eq_some_iff.mp hf).1
 have hsl:slice (.list (vL tk)) (some (.int ((k:Int)+2))) (some (.int ((k:Int)+3)))=some (.list (vL [x])):=o_slice1 (by lia) h 2
 have hj:∀ σ,bmeth (.str []) 5 [.list (vL [x])] σ=some (.str x,σ):=fun σ=>o_join (p:=[]) (l:=[x]) (Nat.le_of_ble_eq_true rfl) (Nat.le_of_ble_eq_true rfl) (by refine (?_:x.length+0<1000000); lia)
 have hf1:(r.set i (.list [.str [100,111],.str x,.list []]))[i]?=some (.list [.str [100,111],.str x,.list []]):=List.getElem?_set_self hi'
 have hs2:index (.loc (σ.length+i)) (.int 2) (σ++r.set i (.list [.str [100,111],.str x,.list []]))=some (.list []):=o_idx hf1 rfl
 have st1:setIdx (.loc (σ.length+i)) (.int 1) (.str x) (σ++r)=some (σ++r.set i (.list [.str [100,111],.str x,.list []])):=o_setI hf (of_decide_eq_true rfl)
 have st2:setIdx (.loc (σ.length+i)) (.int 2) (.list [t]) (σ++r.set i (.list [.str [100,111],.str x,.list []]))=some (σ++r.set i (.list (Fr.v ⟨[100,111],x,[t]⟩))):=by
  have:=o_setI (σ:=σ) (v:=.list [t]) hf1 (j:=2) (of_decide_eq_true rfl)
  rw [List.set_set] at this
  exact this
 have h1':(r.set i (.list (Fr.v ⟨[100,111],x,[t]⟩)))[1]?=some (.list (ls++[.loc (σ.length+i)])):=by rw [List.getElem?_set_ne hi]; exact h1
 have hR2:=hR' ⟨[100,111],x,[t]⟩
 have hf2:((r.set i (.list (Fr.v ⟨[100,111],x,[t]⟩))).set 1 (.list ls))[i]?=some (.list (Fr.v ⟨[100,111],x,[t]⟩)):=by
  rw [List.getElem?_set_ne (Ne.symm hi),List.getElem?_set_self hi']
 have hR3:RS σ (((r.set i (.list (Fr.v ⟨[100,111],x,[t]⟩))).set 1 (.list ls)).set i (.flist (Fr.v ⟨[100,111],x,[t]⟩))) F:=by
  refine e2_6 hR2.top fun ls' i' g1 gl gi gf _ g=>?_
  rw [h1'] at g1
  refine e0_2 (List.append_inj (Cel.list.inj (Option.some.inj g1)) (by lia)) fun e1 e2=>?_
  have e3:i'=i:=by
   have:=V.loc.inj (List.cons.inj e2).1
   lia
  rw [e1]
  rw [e3] at g
  exact g
 refine whl_go (rt_whole hn ht) ?_
 unfold RB
 unfold b_law_read
 repeat' (first | wtm_at "qa" | exact htop | exact hs | exact hs2 | exact hno _ | exact hsl | exact hj _ | exact st1 | exact st2 | exact o_pop h1' (by lia) | exact o_cls h1' | exact o_kind h1' rfl | exact o_frz hf2 | exact nx _ _ _ hR3 | wtm_at "qb")
end
end
section
noncomputable def T.opn:T→Bool
 | .u (.ifs _) _=>true
 | .u (.loop _) k=>k.opn
 | .u (.lab _) k=>k.opn
 | .ie _ _ l=>l.opn
 | _=>false
noncomputable def T.well:T→Prop
 | .row _=>True
 | .b0 _=>True
 | .b1 _ k=>k.well
 | .b2 _ k l=>k.well∧l.well
 | .u _ k=>k.well
 | .ie _ k l=>k.opn=false∧k.well∧l.well
noncomputable def T.att:T→T
 | .u (.ifs a) k=>if k.opn then .u (.ifs a) k.att else .ie a k (.row 1)
 | .u s k=>.u s k.att
 | .ie a k l=>.ie a k l.att
 | t=>t
noncomputable def T.cost:T→Nat
 | .row _=>1
 | .b0 _=>2
 | .b1 _ k=>k.cost+3
 | .b2 _ k l=>l.cost+1+(k.cost+1)+2
 | .u _ k=>k.cost+2
 | .ie _ k l=>l.cost+1+(k.cost+1)+1
noncomputable def nE (rest:List Txt):Prop:=eqv (.list (vL (rest.take 1))) (.list [.str [101,108,115,101]])=some false
noncomputable def nC (rest:List Txt):Prop:=eqv (.list (vL (rest.take 1))) (.list [.str [58]])=some false
noncomputable def fstB (x:Txt):Bool:=decide (eqv (.list [.str x]) (.list [.str [101,108,115,101]])=some false) && decide (eqv (.list [.str x]) (.list [.str [58]])=some false)
theorem nEC {x:Txt} {rest:List Txt} (h:fstB x=true):nE (x :: rest)∧nC (x :: rest):=by
 unfold fstB at h
 rw [Bool.and_eq_true_iff] at h
 exact ⟨(of_decide_eq_true h.1:eqv _ _=_),(of_decide_eq_true h.2:eqv _ _=_)⟩
noncomputable def H.kw:H→Txt
 | .wh _=>[119,104,105,108,101]
 | _=>[102,111,114]
noncomputable def H.mid:H→List Txt
 | .wh a=>[[40],lt a]
 | h=>[40] :: h.in_
theorem H.toks_eq:∀ h:H,h.toks=h.kw :: (h.mid++[[41]])
 | .wh _=>rfl
 | .fr ..=>rfl
 | .ea ..=>rfl
noncomputable def H.ok (h:H):Bool:=fstB h.kw && decide (h.kw≠[125]) && decide (isIn (.str h.kw) [.str [105,102],.str [119,104,105,108,101],.str [102,111,114]]=some true) && decide (decide (h.kw=[105,102])=false) && (h.kw :: h.mid).all (fun y=>decide (y≠[41])) && decide (h.mid.length<900) && decide (total (h.kw :: h.mid++[[41]])<1000000)
theorem H.oks:∀ h:H,h.ok=true:=H.check (by decide +kernel)
theorem first_ok:∀ (t:T) (rest:List Txt),nE (t.tk++rest)∧nC (t.tk++rest)
 | .row i,rest=>by
  have:∃ x Y,(T.row i).tk=x :: Y∧fstB x=true:=by
   refine fin8 i ?_ ?_ ?_ ?_ ?_ ?_ ?_ ?_
   ·exact i2_2 _ _ rfl (by decide)
   ·exact i2_2 _ _ rfl (by decide)
   ·exact i2_2 _ _ rfl (by decide)
   ·exact i2_2 _ _ rfl (by decide)
   ·exact i2_2 _ _ rfl (by decide)
   ·exact i2_2 _ _ rfl (by decide)
   ·exact i2_2 _ _ rfl (by decide)
   ·exact i2_2 _ _ rfl (by decide)
  refine e2_2 this fun x Y e hx=>?_
  refine e▸?_
  exact nEC hx
 | .b0 s,rest | .b1 s _,rest | .b2 s _ _,rest=>by cases s <;> exact nEC (by decide)
 | .u s k,rest=>by
  cases s with
  | ifs a=>exact nEC (by decide)
  | loop h=>
   have:=h.oks
   unfold H.ok at this
   simp only [Bool.and_eq_true] at this
   refine (?_:nE ((h.toks++_)++rest)∧nC ((h.toks++_)++rest))
   refine h.toks_eq▸?_
   exact nEC this.1.1.1.1.1.1
  | lab a=>exact nEC (by revert a; decide)
  | dow a=>exact nEC (by decide)
 | .ie a k l,rest=>nEC (by decide)
section
variable {W d:Nat} {tk:List Txt} {σ:St} {Q:Ctl→Loc→St→Prop}
theorem newR {σ r:St} {F:List Fr} (h:RS σ r F) (f:Fr):∃ ls,r[1]?=some (.list ls)∧ls.length=F.length∧RS σ (NewR σ r ls f) (F++[f]):=h.push f
theorem lt_cl:∀ a:Lt,lt a≠[125]:=by decide
theorem lt_kw:∀ a:Lt,noKw (lt a)=true:=by decide
theorem if_mid:∀ a:Lt,∀ y ∈ [[105,102],[40],lt a],y≠[41]:=by decide
theorem read_row {i:Fin 8} {k n:Nat} {rest:List Txt} {F:List Fr} {f:Fr} {b:Bool} (hn:tk.length<100000) (hW:tk.length<W) (hF:F.length<800) (hb:isIn (.str f.sort) heldT=some b) (h:At tk k (rowT i++rest)) (hc:nC rest)
  (nx:Rd W (d+2) tk σ Q n (k+(rowT i).length) (T.row i).v (F++[f])):Rd W (d+2) tk σ Q (n+1) k .none (F++[f]):=by
 have key:∀ (x:Txt) (X Y:List Txt),rowT i=X++[[59]]→X++[[59]]=x :: Y→x≠[125]→noKw x=true→(∀ y ∈ X,y≠[59])→X.length<900→total (X++[[59]])<1000000→eqv (.list (vL (((X++[59] :: rest).drop 1).take 1))) (.list [.str [58]])=some false→Rd W (d+2) tk σ Q (n+1) k .none (F++[f]):=by
  intro x X Y e1 e2 hx hk hs hl ht hcc
  rw [e1,List.append_assoc] at h
  have h0:At tk k (x :: (Y++rest)):=by rw [← List.cons_append,← e2,List.append_assoc]; exact h
  refine turn_b1 hn (by lia) h0 hx hb (fun r hR=>⟨r,hR,begin_row hn hW h ⟨Y,e2⟩ hk hs hl ht hcc⟩) ?_
  refine e1▸?_
  rw [e1,List.length_append,List.length_cons,List.length_nil,Nat.zero_add,← Nat.add_assoc] at nx
  exact nx
 exact fin8 (p:=fun j=>i=j→Rd W (d+2) tk σ Q (n+1) k .none (F++[f])) i
  (fun e=>key _ [[98]] _ (congrArg rowT e) rfl (by decide) (by decide) (by decide) (by decide) (by decide) (by refine (?_:eqv (.list [.str [59]]) _=_); decide))
  (fun e=>key _ [] _ (congrArg rowT e) rfl (by decide) (by decide) (by decide) (by decide) (by decide) hc)
  (fun e=>key _ [[118,97,114],[120],[61],[98]] _ (congrArg rowT e) rfl (by decide) (by decide) (by decide) (by decide) (by decide) (by refine (?_:eqv (.list [.str [120]]) _=_); decide))
  (fun e=>key _ [[98,114,101,97,107]] _ (congrArg rowT e) rfl (by decide) (by decide) (by decide) (by decide) (by decide) (by refine (?_:eqv (.list [.str [59]]) _=_); decide))
  (fun e=>key _ [[99,111,110,116,105,110,117,101],[97]] _ (congrArg rowT e) rfl (by decide) (by decide) (by decide) (by decide) (by decide) (by refine (?_:eqv (.list [.str [97]]) _=_); decide))
  (fun e=>key _ [[114,101,116,117,114,110],[98]] _ (congrArg rowT e) rfl (by decide) (by decide) (by decide) (by decide) (by decide) (by refine (?_:eqv (.list [.str [98]]) _=_); decide))
  (fun e=>key _ [[116,104,114,111,119],[99]] _ (congrArg rowT e) rfl (by decide) (by decide) (by decide) (by decide) (by decide) (by refine (?_:eqv (.list [.str [99]]) _=_); decide))
  (fun e=>key _ [[100]] _ (congrArg rowT e) rfl (by decide) (by decide) (by decide) (by decide) (by decide) (by refine (?_:eqv (.list [.str [59]]) _=_); decide)) rfl
theorem read_B {s:BS} {k n:Nat} {rest:List Txt} {F:List Fr} {f:Fr} {b:Bool} (hn:tk.length<100000) (hF:F.length<800) (hb:isIn (.str f.sort) heldT=some b) (h:At tk k (s.pre++rest))
  (nx:Rd W (d+2) tk σ Q n (k+s.pre.length) .none (F++[f]++[⟨s.sort,s.word,[]⟩])):Rd W (d+2) tk σ Q (n+1) k .none (F++[f]):=by
 cases s with
 | block=>exact turn_b1 hn (by lia) h (by decide) hb (fun r hR=>e1_3 (newR hR _) fun ls h1 hl h2=>⟨_,h2,begin_open hn h1 (by rw [hl,List.length_append,List.length_cons,List.length_nil]; lia) h false rfl⟩) nx
 | tr=>exact turn_b1 hn (by lia) h (by decide) hb (fun r hR=>e1_3 (newR hR _) fun ls h1 hl h2=>⟨_,h2,begin_try hn h1 (by rw [hl,List.length_append,List.length_cons,List.length_nil]; lia) h⟩) nx
 | sw a=>exact turn_b1 hn (by lia) h (by decide) hb (fun r hR=>e1_3 (newR hR _) fun ls h1 hl h2=>⟨_,h2,begin_switch hn h1 (by rw [hl,List.length_append,List.length_cons,List.length_nil]; lia) h (Nat.le_of_ble_eq_true rfl)⟩) nx
noncomputable def US.word0:US→Txt
 | .dow _=>[]
 | s=>s.word
theorem read_U {s:US} {k n:Nat} {rest:List Txt} {F:List Fr} {f:Fr} {b:Bool} (hn:tk.length<100000) (hW:tk.length<W) (hF:F.length<800) (hb:isIn (.str f.sort) heldT=some b) (h:At tk k (s.pre++rest))
  (nx:Rd W (d+2) tk σ Q n (k+s.pre.length) .none (F++[f]++[⟨s.sort,s.word0,[]⟩])):Rd W (d+2) tk σ Q (n+1) k .none (F++[f]):=by
 have hl':∀ ls:List V,ls.length=(F++[f]).length→ls.length<1000:=fun ls hl=>by rw [hl,List.length_append,List.length_cons,List.length_nil]; lia
 cases s with
 | ifs a=>exact turn_b1 hn (by lia) h (by decide) hb (fun r hR=>e1_3 (newR hR _) fun ls h1 hl h2=>⟨_,h2,begin_head (b:=true) (X:=[[40],lt a]) hn hW h1 (hl' ls hl) h (by decide) (by decide) (if_mid a) (Nat.le_of_ble_eq_true rfl) (Nat.le_of_ble_eq_true rfl)⟩) nx
 | loop hh=>
  refine byC fun w9_=>?_
  have ok:=hh.oks
  unfold H.ok at ok
  simp only [Bool.and_eq_true] at ok
  refine e0_2 ok fun w3_ o7=>?_; refine e0_2 w3_ fun w4_ o6=>?_; refine e0_2 w4_ fun w5_ o5=>?_; refine e0_2 w5_ fun w6_ o4=>?_; refine e0_2 w6_ fun w7_ o3=>?_; refine e0_2 w7_ fun o1 o2=>?_
  have h:At tk k (hh.toks++rest):=h
  have e:(k+hh.toks.length)=(k+(hh.mid.length+2):Nat):=by rw [hh.toks_eq,List.length_cons,List.length_append,List.length_cons,List.length_nil]
  have nx:Rd W (d+2) tk σ Q n (k+hh.toks.length) .none (F++[f]++[⟨[108,111,111,112],sp hh.toks,[]⟩]):=nx
  rw [e] at nx
  rw [hh.toks_eq] at h nx
  have h:At tk k (hh.kw :: (hh.mid++[41] :: rest)):=by rw [List.cons_append,List.append_assoc] at h; exact h
  exact w9_ (turn_b1 hn (by lia) h (of_decide_eq_true o2) hb (fun r hR=>e1_3 (newR hR _) fun ls h1 hl h2=>⟨_,h2,begin_head (b:=false) hn hW h1 (hl' ls hl) h (of_decide_eq_true o3) (of_decide_eq_true o4) (fun y hy=>of_decide_eq_true (List.all_eq_true.mp o5 y hy)) (of_decide_eq_true o6) (of_decide_eq_true o7)⟩) nx)
 | lab a=>exact turn_b1 hn (by lia) h (lt_cl a) hb (fun r hR=>e1_3 (newR hR _) fun ls h1 hl h2=>⟨_,h2,begin_label hn h1 (hl' ls hl) h (lt_kw a)⟩) nx
 | dow a=>exact turn_b1 hn (by lia) h (by decide) hb (fun r hR=>e1_3 (newR hR _) fun ls h1 hl h2=>⟨_,h2,begin_open hn h1 (hl' ls hl) h true rfl⟩) nx
end
end
section
noncomputable def T.fuel:T→Nat→Nat
 | .row _,n=>n+1
 | .b0 _,n=>n+1+1
 | .b1 _ k,n=>k.fuel (n+1+1)+1
 | .b2 _ k l,n=>k.fuel (l.fuel (n+1+1)+1)+1
 | .u _ k,n=>k.fuel (n+1)+1
 | .ie _ k l,n=>k.fuel (l.fuel (n+1)+1)+1
noncomputable def T.fuelA:T→Nat→Nat
 | .u (.ifs _) k,n=>(if k.opn then k.fuelA (n+1) else k.fuel (n+1+1+1))+1
 | .u _ k,n=>k.fuelA (n+1)+1
 | .ie _ k l,n=>k.fuel (l.fuelA (n+1)+1)+1
 | _,n=>n
theorem T.fuel_eq:∀ (t:T) (n:Nat),t.fuel n=n+t.cost
 | .row _,n=>rfl
 | .b0 _,n=>rfl
 | .b1 _ k,n=>by refine (?_:k.fuel _+1=n+(k.cost+3)); rw [k.fuel_eq]; lia
 | .b2 _ k l,n=>by refine (?_:k.fuel (l.fuel _+1)+1=n+(l.cost+1+(k.cost+1)+2)); rw [k.fuel_eq,l.fuel_eq]; lia
 | .u _ k,n=>by refine (?_:k.fuel _+1=n+(k.cost+2)); rw [k.fuel_eq]; lia
 | .ie _ k l,n=>by refine (?_:k.fuel (l.fuel _+1)+1=n+(l.cost+1+(k.cost+1)+1)); rw [k.fuel_eq,l.fuel_eq]; lia
theorem T.fuelA_eq:∀ (t:T),∃ c,c≤t.cost+2∧∀ n,t.fuelA n=n+c
 | .row _ | .b0 _ | .b1 _ _ | .b2 _ _ _=>⟨0,Nat.zero_le _,fun _=>rfl⟩
 | .u s k=>by
  refine e1_2 k.fuelA_eq fun c hc h=>?_
  have go:∃ c,c≤(T.u s k).cost+2∧∀ n,k.fuelA (n+1)+1=n+c:=⟨c+2,by refine (?_:c+2≤k.cost+2+2); lia,fun n=>by rw [h]; lia⟩
  cases s with
  | ifs a=>
   cases q:k.opn with
   | true=>
    refine e1_2 go fun c h1 h2=>?_
    exact i1_2 c h1 (fun n=>by refine (?_:(if k.opn then _ else _)+1=_); refine (if_pos q)▸?_; exact h2 n)
   | false=>exact i1_2 (k.cost+4) (Nat.le_refl _) (fun n=>by refine (?_:(if k.opn then _ else _)+1=_); rw [if_neg (by refine q▸?_; decide),k.fuel_eq]; lia)
  | loop _=>exact go
  | lab _=>exact go
  | dow _=>exact go
 | .ie _ k l=>by
  refine e1_2 l.fuelA_eq fun c hc h=>?_
  exact i1_2 (k.cost+c+3) (by refine (?_:_≤l.cost+1+(k.cost+1)+1+2); lia) (fun n=>by refine (?_:k.fuel (l.fuelA _+1)+1=_); rw [k.fuel_eq,h]; lia)
section
variable {W d:Nat} {tk:List Txt} {σ:St} {Q:Ctl→Loc→St→Prop}
theorem nC_else (rest:List Txt):nC ([101,108,115,101] :: rest):=by show eqv (.list [.str [101,108,115,101]]) (.list [.str [58]])=some false; decide
theorem held_B (s:BS):isIn (.str s.sort) heldT=some true:=by cases s <;> rfl
theorem held_U (s:US):isIn (.str s.sort) heldT=some false:=by cases s <;> rfl
theorem T.v_some (t:T):t.v.isNone=false:=by cases t <;> rfl
theorem end_U {s:US} {t:V} {k n:Nat} {rest:List Txt} {F:List Fr} {f:Fr} (hn:tk.length<100000) (hF:F.length<800) (ht:t.isNone=false) (h:At tk k (s.post++rest)) (he:s.sort=[105,102]→nE rest)
  (nx:Rd W (d+2) tk σ Q n (k+s.post.length) (ter s.sort s.word [t]) (F++[f])):Rd W (d+2) tk σ Q (n+1) k t (F++[f]++[⟨s.sort,s.word0,[]⟩]):=by
 have hl:(F++[f]).length<900:=by rw [List.length_append,List.length_cons,List.length_nil]; lia
 cases s with
 | ifs a=>exact turn_pop hn hl ht h rfl (Nat.le_of_ble_eq_true rfl) (.inr (.inr (he rfl))) (of_decide_eq_true rfl) nx
 | loop hh=>exact turn_pop hn hl ht h rfl (Nat.le_of_ble_eq_true rfl) (.inl (of_decide_eq_true rfl)) (of_decide_eq_true rfl) nx
 | lab a=>exact turn_pop hn hl ht h rfl (Nat.le_of_ble_eq_true rfl) (.inl (of_decide_eq_true rfl)) (of_decide_eq_true rfl) nx
 | dow a=>exact turn_do hn hl ht h (Nat.le_of_ble_eq_true rfl) nx
theorem end_ie {a:Lt} {t u:V} {k n:Nat} {rest:List Txt} {F:List Fr} {f:Fr} (hn:tk.length<100000) (hF:F.length<800) (ht:t.isNone=false) (h:At tk k rest)
  (nx:Rd W (d+2) tk σ Q n k (ter [105,102] (sp (ifT a)) [u,t]) (F++[f])):Rd W (d+2) tk σ Q (n+1) k t (F++[f]++[⟨[105,102],sp (ifT a),[u]⟩]):=
 turn_pop hn (by rw [List.length_append,List.length_cons,List.length_nil]; lia) ht h (by refine (?_:isIn (.str [105,102]) heldT=_); decide) (Nat.le_of_ble_eq_true rfl) (.inr (.inl (of_decide_eq_true rfl))) (by refine (?_:[105,102]≠[100,111]); decide) nx
theorem read_T (hn:tk.length<100000) (hW:tk.length<W):∀ (t:T) {k n:Nat} {rest:List Txt} {F:List Fr} {f:Fr} {b:Bool},t.well→(t.opn=true→nE rest)→nC rest→F.length+t.dp<700→isIn (.str f.sort) heldT=some b→At tk k (t.tk++rest)→
  Rd W (d+2) tk σ Q n (k+t.tk.length) t.v (F++[f])→Rd W (d+2) tk σ Q (t.fuel n) k .none (F++[f])
 | .row i,k,n,rest,F,f,b,_,_,hc,hF,hb,h,nx=>read_row hn hW (by lia) hb h hc nx
 | .b0 s,k,n,rest,F,f,b,_,_,hc,hF,hb,h,nx=>by
  refine byC fun w5_=>?_
  have h:At tk k (s.pre++([125] :: rest)):=by have h:At tk k ((s.pre++[[125]])++rest):=h; rw [List.append_assoc] at h; exact h
  have e:k+(T.b0 s).tk.length=k+s.pre.length+1:=by refine (?_:k+(s.pre++[_]).length=_); rw [List.length_append]; rfl
  rw [e] at nx
  exact w5_ (read_B hn (by lia) hb h (turn_b2 hn (by rw [List.length_append,List.length_cons,List.length_nil]; lia) (by rw [List.length_append,List.length_cons]; lia) h.app (held_B s) nx))
 | .b1 s t,k,n,rest,F,f,b,hw,_,hc,hF,hb,h,nx=>by
  have hF:F.length+(t.dp+1)<700:=hF
  have h:At tk k (s.pre++(t.tk++([125] :: rest))):=by have h:At tk k ((s.pre++(t.tk++[[125]]))++rest):=h; rw [List.append_assoc,List.append_assoc] at h; exact h
  have e:k+(T.b1 s t).tk.length=k+s.pre.length+t.tk.length+1:=by refine (?_:k+(s.pre++(t.tk++[_])).length=_); rw [List.length_append,List.length_append,← Nat.add_assoc,← Nat.add_assoc]; rfl
  rw [e] at nx
  have hl:(F++[f]).length=F.length+1:=by rw [List.length_append]; rfl
  refine read_B hn (by lia) hb h (read_T hn hW t hw (fun _=>(nEC (by decide)).1) (nEC (by decide)).2 (by rw [hl]; lia) (held_B s) h.app ?_)
  refine turn_held hn (by rw [hl]; lia) t.v_some (held_B s) (Nat.le_of_ble_eq_true rfl) ?_
  exact turn_b2 hn (by rw [hl]; lia) (by rw [hl]; lia) h.app.app (held_B s) nx
 | .b2 s t u,k,n,rest,F,f,b,hw,_,hc,hF,hb,h,nx=>by
  have hF:F.length+(max t.dp u.dp+1)<700:=hF
  have h:At tk k (s.pre++(t.tk++(u.tk++([125] :: rest)))):=by have h:At tk k ((s.pre++(t.tk++(u.tk++[[125]])))++rest):=h; rw [List.append_assoc,List.append_assoc,List.append_assoc] at h; exact h
  have e:k+(T.b2 s t u).tk.length=k+s.pre.length+t.tk.length+u.tk.length+1:=by refine (?_:k+(s.pre++(t.tk++(u.tk++[_]))).length=_); rw [List.length_append,List.length_append,List.length_append,← Nat.add_assoc,← Nat.add_assoc,← Nat.add_assoc]; rfl
  rw [e] at nx
  have hl:(F++[f]).length=F.length+1:=by rw [List.length_append]; rfl
  have f1:=first_ok u ([125] :: rest)
  refine read_B hn (by lia) hb h (read_T hn hW t hw.1 (fun _=>f1.1) f1.2 (by rw [hl]; lia) (held_B s) h.app ?_)
  refine turn_held hn (by rw [hl]; lia) t.v_some (held_B s) (Nat.le_of_ble_eq_true rfl) ?_
  refine read_T hn hW u hw.2 (fun _=>(nEC (by decide)).1) (nEC (by decide)).2 (by rw [hl]; lia) (held_B s) h.app.app ?_
  refine turn_held hn (by rw [hl]; lia) u.v_some (held_B s) (Nat.le_of_ble_eq_true rfl) ?_
  exact turn_b2 hn (by rw [hl]; lia) (by rw [hl]; lia) h.app.app.app (held_B s) nx
 | .u s t,k,n,rest,F,f,b,hw,he,hc,hF,hb,h,nx=>by
  have hF:F.length+(t.dp+1)<700:=hF
  have h:At tk k (s.pre++(t.tk++(s.post++rest))):=by have h:At tk k ((s.pre++(t.tk++s.post))++rest):=h; rw [List.append_assoc,List.append_assoc] at h; exact h
  have e:k+(T.u s t).tk.length=k+s.pre.length+t.tk.length+s.post.length:=by refine (?_:k+(s.pre++(t.tk++s.post)).length=_); rw [List.length_append,List.length_append,← Nat.add_assoc,← Nat.add_assoc]
  rw [e] at nx
  have hl:(F++[f]).length=F.length+1:=by rw [List.length_append]; rfl
  have hE:t.opn=true→nE (s.post++rest):=by
   cases s with
   | ifs a=>exact fun _=>he rfl
   | loop _=>exact he
   | lab _=>exact he
   | dow a=>exact fun _=>(nEC (by decide)).1
  have hC:nC (s.post++rest):=by
   cases s with
   | dow a=>exact (nEC (by decide)).2
   | _=>exact hc
  refine read_U hn hW (by lia) hb h (read_T hn hW t hw hE hC (by rw [hl]; lia) (held_U s) h.app ?_)
  refine end_U hn (by lia) t.v_some h.app.app (fun q=>?_) nx
  cases s with
  | ifs a=>exact he rfl
  | _=>exact absurd q (of_decide_eq_true rfl)
 | .ie a t u,k,n,rest,F,f,b,hw,he,hc,hF,hb,h,nx=>by
  have hF:F.length+(max t.dp u.dp+1)<700:=hF
  have h:At tk k ((US.ifs a).pre++(t.tk++([101,108,115,101] :: (u.tk++rest)))):=by have h:At tk k ((ifT a++(t.tk++([101,108,115,101] :: u.tk)))++rest):=h; rw [List.append_assoc,List.append_assoc] at h; exact h
  have e:k+(T.ie a t u).tk.length=k+(US.ifs a).pre.length+t.tk.length+1+u.tk.length:=by refine (?_:k+(ifT a++(t.tk++(_ :: u.tk))).length=k+(ifT a).length+_+1+_); rw [List.length_append,List.length_append,List.length_cons]; lia
  rw [e] at nx
  have hl:(F++[f]).length=F.length+1:=by rw [List.length_append]; rfl
  refine read_U (s:=.ifs a) hn hW (by lia) hb h (read_T hn hW t hw.2.1 (fun q=>absurd (hw.1.symm.trans q) (by decide)) (nC_else _) (by rw [hl]; lia) (held_U (.ifs a)) h.app ?_)
  refine turn_else hn (by rw [hl]; lia) t.v_some h.app.app ?_
  refine read_T hn hW u hw.2.2 he hc (by rw [hl]; lia) (by refine (?_:isIn (.str [105,102]) heldT=some false); decide) h.app.app.next ?_
  exact end_ie hn (by lia) u.v_some h.app.app.next.app nx
theorem read_A (hn:tk.length<100000) (hW:tk.length<W):∀ (t:T) {k n:Nat} {rest:List Txt} {F:List Fr} {f:Fr} {b:Bool},t.well→t.opn=true→nE rest→nC rest→F.length+t.dp<700→isIn (.str f.sort) heldT=some b→At tk k (t.tk++([101,108,115,101] :: [59] :: rest))→
  Rd W (d+2) tk σ Q n (k+t.tk.length+2) t.att.v (F++[f])→Rd W (d+2) tk σ Q (t.fuelA n) k .none (F++[f])
 | .row _,_,_,_,_,_,_,_,q,_,_,_,_,_,_=>by exact noF q
 | .b0 _,_,_,_,_,_,_,_,q,_,_,_,_,_,_=>by exact noF q
 | .b1 _ _,_,_,_,_,_,_,_,q,_,_,_,_,_,_=>by exact noF q
 | .b2 _ _ _,_,_,_,_,_,_,_,q,_,_,_,_,_,_=>by exact noF q
 | .u s t,k,n,rest,F,f,b,hw,ho,he,hc,hF,hb,h,nx=>by
  have hF:F.length+(t.dp+1)<700:=hF
  have hl:(F++[f]).length=F.length+1:=by rw [List.length_append]; rfl
  have hp:s.post=[]:=by
   cases s with
   | dow _=>exact noF ho
   | _=>rfl
  have h:At tk k (s.pre++(t.tk++([101,108,115,101] :: [59] :: rest))):=by have h:At tk k ((s.pre++(t.tk++s.post))++([101,108,115,101] :: [59] :: rest)):=h; rw [hp,List.append_nil,List.append_assoc] at h; exact h
  have e:k+(T.u s t).tk.length=k+s.pre.length+t.tk.length:=by refine (?_:k+(s.pre++(t.tk++s.post)).length=_); rw [hp,List.append_nil,List.length_append,← Nat.add_assoc]
  rw [e] at nx
  have h2:At tk (k+s.pre.length+t.tk.length+2) (s.post++rest):=by refine hp▸?_; exact h.app.app.next.next
  have go:t.opn=true→Rd W (d+2) tk σ Q n (k+s.pre.length+t.tk.length+2) (ter s.sort s.word [t.att.v]) (F++[f])→Rd W (d+2) tk σ Q (t.fuelA (n+1)+1) k .none (F++[f]):=fun ot nx=>by
   refine read_U hn hW (by lia) hb h (read_A hn hW t hw ot he hc (by refine hl▸?_; lia) (held_U s) h.app ?_)
   exact end_U hn (by lia) t.att.v_some h2 (fun _=>he) (by refine hp▸?_; exact nx)
  cases s with
  | ifs a=>
   have nx:Rd W (d+2) tk σ Q n (k+(US.ifs a).pre.length+t.tk.length+2) (if t.opn then T.u (.ifs a) t.att else T.ie a t (.row 1)).v (F++[f]):=nx
   refine (?_:Rd W (d+2) tk σ Q ((if t.opn then t.fuelA (n+1) else t.fuel (n+1+1+1))+1) k .none (F++[f]))
   cases ot:t.opn with
   | true=>
    rw [ot] at nx
    exact go ot nx
   | false=>
    rw [ot] at nx
    refine read_U (s:=.ifs a) hn hW (by lia) hb h (read_T hn hW t hw (fun q=>absurd (ot.symm.trans q) (by decide)) (nC_else _) (by refine hl▸?_; lia) (held_U (.ifs a)) h.app ?_)
    refine turn_else hn (by refine hl▸?_; lia) t.v_some h.app.app ?_
    refine read_row (i:=1) hn hW (by refine hl▸?_; lia) (by refine (?_:isIn (.str [105,102]) heldT=some false); decide) h.app.app.next hc ?_
    exact end_ie hn (by lia) (T.v_some (.row 1)) h2 nx
  | loop _=>exact go ho nx
  | lab _=>exact go ho nx
  | dow _=>exact noF ho
 | .ie a t u,k,n,rest,F,f,b,hw,ho,he,hc,hF,hb,h,nx=>by
  have hF:F.length+(max t.dp u.dp+1)<700:=hF
  have h:At tk k ((US.ifs a).pre++(t.tk++([101,108,115,101] :: (u.tk++([101,108,115,101] :: [59] :: rest))))):=by have h:At tk k ((ifT a++(t.tk++([101,108,115,101] :: u.tk)))++([101,108,115,101] :: [59] :: rest)):=h; rw [List.append_assoc,List.append_assoc] at h; exact h
  have e:k+(T.ie a t u).tk.length=k+(US.ifs a).pre.length+t.tk.length+1+u.tk.length:=by refine (?_:k+(ifT a++(t.tk++(_ :: u.tk))).length=k+(ifT a).length+_+1+_); rw [List.length_append,List.length_append,List.length_cons]; lia
  rw [e] at nx
  have hl:(F++[f]).length=F.length+1:=by rw [List.length_append]; rfl
  refine read_U (s:=.ifs a) hn hW (by lia) hb h (read_T hn hW t hw.2.1 (fun q=>absurd (hw.1.symm.trans q) (by decide)) (nC_else _) (by refine hl▸?_; lia) (held_U (.ifs a)) h.app ?_)
  refine turn_else hn (by refine hl▸?_; lia) t.v_some h.app.app ?_
  refine read_A hn hW u hw.2.2 ho he hc (by refine hl▸?_; lia) (by refine (?_:isIn (.str [105,102]) heldT=some false); decide) h.app.app.next ?_
  exact end_ie hn (by lia) u.att.v_some h.app.app.next.app.next.next nx
end
end
section
variable {W d:Nat}
noncomputable abbrev fileF (ks:List V):Fr:=⟨[102,105,108,101],[],ks⟩
noncomputable def QR (W d:Nat) (σ:St) (v:V):Ctl→Loc→St→Prop:=fun c ρ' σ'=>match c with
 | .next=>Run W (callF prog W d) (b_law_read.drop 4) ρ' σ' fun c ρ' σ'=>c = .ret v∧∃ r,σ'=σ++r
 | .ret w=>Ctl.ret w = .ret v∧∃ r,σ'=σ++r
theorem rd_end {tk:List Txt} {σ:St} {ks:List V} {n:Nat} (hn:tk.length<100000):Rd W d tk σ (QR W d σ (.list ks)) (n+1) tk.length .none [fileF ks]:=by
 intro r y4 y5 hR
 obtain ⟨ls,i,h1,hl,hi,hf,_,_⟩:=RS.top (F:=[]) hR
 have hl:ls=[]:=List.length_eq_zero_iff.mp hl
 subst hl
 refine whl_end (et_or (eo_f (et_cmp (ev_x rfl) (ev_len (ev_x rfl) (len_tk hn _)) ?_) (eo_f (et_cmp (ev_x rfl) ev_c rfl) eo_nil))) ?_
 ·show some (decide _)=_
  rw [decide_eq_false (by lia)]
 ·show Run W _ [S.ret _] _ _ _
  exact run_ret (ev_ite (q:=true) (et_cmp (ev_len (ev_x rfl) (o_len (o_items h1) (Nat.le_of_ble_eq_true rfl))) ev_c rfl) (ev_idx (ev_idx (ev_x rfl) ev_c (o_idx h1 rfl)) ev_c (o_idx hf rfl))) ⟨rfl,_,rfl⟩
theorem read_start {tk:List Txt} {σ:St} {ks:List V} (hp:V.pures ks=true) (h:Rd W d tk σ (QR W d σ (.list ks)) W 0 .none [fileF []]):callF prog W (d+1) 51 [.list (vL tk)] σ=some (.list ks,σ):=by
 refine call_p (fn:=⟨1,6,b_law_read⟩) rfl rfl hp ?_
 show Run W _ (S.asg 1 _ :: S.asg 2 _ :: S.asg 3 _ :: S.while RT RB :: _) [some (.list (vL tk)),none,none,none,none,none] _ _
 refine run_asg (b_listT (σ:=σ) (r:=[.list (fileF []).v]) (vs:=[.loc (σ.length+0)]) (evs_cons (b_listT (σ:=σ) (r:=[]) (evs_cons ev_c (evs_cons ev_c (evs_cons (ev_listF evs_nil (Nat.le_of_ble_eq_true rfl)) evs_nil))) (Nat.le_of_ble_eq_true rfl) rfl rfl) evs_nil) (Nat.le_of_ble_eq_true rfl) rfl rfl) ?_
 refine run_asg ev_c (run_asg ev_c (run_while ?_))
 refine h [.list (fileF []).v,.list [.loc (σ.length+0)]] none none ⟨[0],rfl,rfl,by decide,by decide,fun j i f h1 h2=>?_⟩
 match j with
 | 0=>cases h1; cases h2; rfl
 | j+1=>cases h1
theorem vs_pure:∀ t:T,t.v.pure=true
 | .row i=>rfl
 | .b0 s=>rfl
 | .b1 s k=>by show (true && (true && ((k.v.pure && true) && true)))=true; rw [vs_pure k]; rfl
 | .b2 s k l=>by show (true && (true && ((k.v.pure && (l.v.pure && true)) && true)))=true; rw [vs_pure k,vs_pure l]; rfl
 | .u s k=>by show (true && (true && ((k.v.pure && true) && true)))=true; rw [vs_pure k]; rfl
 | .ie a k l=>by show (true && (true && ((k.v.pure && (l.v.pure && true)) && true)))=true; rw [vs_pure k,vs_pure l]; rfl
theorem at0 (tk:List Txt):At tk 0 tk:=⟨Nat.zero_le _,rfl⟩
theorem nE_nil:nE []:=by show eqv (.list []) _=_; decide
theorem nC_nil:nC []:=by show eqv (.list []) _=_; decide
theorem read_1 {t:T} {σ:St} (hw:t.well) (hd:t.dp<600) (hn:t.tk.length<100000) (hW:t.tk.length<W) (hc:t.cost+2≤W):callF prog W (d+3) 51 [.list (vL t.tk)] σ=some (.list [t.v],σ):=by
 refine read_start (by show (t.v.pure && true)=true; rw [vs_pure]; rfl) ?_
 have:=read_T (W:=W) (d:=d) (σ:=σ) (Q:=QR W (d+2) σ (.list [t.v])) hn hW t (k:=0) (n:=W - t.cost - 2+1+1) (rest:=[]) (F:=[]) (f:=fileF []) (b:=true) hw (fun _=>nE_nil) nC_nil (by show 0+t.dp<700; lia) (by decide) (by rw [List.append_nil]; exact at0 _) ?_
 ·rw [t.fuel_eq,show W - t.cost - 2+1+1+t.cost=W by lia] at this
  exact this
 ·rw [Nat.zero_add]
  exact turn_held hn (by decide) t.v_some rfl (Nat.le_of_ble_eq_true rfl) (rd_end hn)
theorem read_2 {t u:T} {σ:St} (hw:t.well) (hw':u.well) (hd:t.dp<600) (hd':u.dp<600) (hn:(t.tk++u.tk).length<100000) (hW:(t.tk++u.tk).length<W) (hc:t.cost+u.cost+3≤W):callF prog W (d+3) 51 [.list (vL (t.tk++u.tk))] σ=some (.list [t.v,u.v],σ):=by
 refine read_start (by show (t.v.pure && (u.v.pure && true))=true; rw [vs_pure,vs_pure]; rfl) ?_
 have f1:=first_ok u []
 rw [List.append_nil] at f1
 have:=read_T (W:=W) (d:=d) (σ:=σ) (Q:=QR W (d+2) σ (.list [t.v,u.v])) hn hW t (k:=0) (n:=u.fuel (W - t.cost - u.cost - 3+1+1)+1) (rest:=u.tk) (F:=[]) (f:=fileF []) (b:=true) hw (fun _=>f1.1) f1.2 (by show 0+t.dp<700; lia) (by decide) (at0 _) ?_
 ·rw [t.fuel_eq,u.fuel_eq,show W - t.cost - u.cost - 3+1+1+u.cost+1+t.cost=W by lia] at this
  exact this
 ·refine turn_held hn (by decide) t.v_some rfl (Nat.le_of_ble_eq_true rfl) ?_
  refine read_T (F:=[]) (f:=fileF [t.v]) hn hW u (rest:=[]) hw' (fun _=>nE_nil) nC_nil (by show 0+u.dp<700; lia) (b:=true) (by show isIn (.str [102,105,108,101]) heldT=_; decide) (by rw [List.append_nil]; exact (at0 (t.tk++u.tk)).app) ?_
  rw [Nat.zero_add,← List.length_append]
  exact turn_held hn (by decide) u.v_some rfl (Nat.le_of_ble_eq_true rfl) (rd_end hn)
theorem read_a {t:T} {σ:St} (hw:t.well) (ho:t.opn=true) (hd:t.dp<600) {tk:List Txt} (htk:tk=t.tk++[[101,108,115,101],[59]]) (hn:tk.length<100000) (hW:tk.length<W) (hc:t.cost+4≤W):callF prog W (d+3) 51 [.list (vL tk)] σ=some (.list [t.att.v],σ):=by
 refine read_start (by show (t.att.v.pure && true)=true; rw [vs_pure]; rfl) ?_
 obtain ⟨c,h1,h2⟩:=t.fuelA_eq
 have:=read_A (W:=W) (d:=d) (σ:=σ) (Q:=QR W (d+2) σ (.list [t.att.v])) hn hW t (k:=0) (n:=W - c - 2+1+1) (rest:=[]) (F:=[]) (f:=fileF []) (b:=true) hw ho nE_nil nC_nil (by show 0+t.dp<700; lia) (by decide) (by rw [← htk]; exact at0 _) ?_
 ·rw [h2,show W - c - 2+1+1+c=W by lia] at this
  exact this
 ·have e:0+t.tk.length+2=tk.length:=by rw [htk,List.length_append,Nat.zero_add]; rfl
  rw [e]
  exact turn_held hn (by decide) t.att.v_some rfl (Nat.le_of_ble_eq_true rfl) (rd_end hn)
end
section
variable {W d:Nat}
noncomputable def OT:E:=E.cmp .isnt (E.x 0) (E.c V.none)
noncomputable def OB:List S:=match b_open_if with
 | .while _ b :: _=>b
 | _=>[]
noncomputable abbrev OW (W d:Nat) (m:Nat) (v:V) (σ:St) (b:Bool):Prop:=Whl (evalT prog (callF prog W d) OT) (evalSs prog W (callF prog W d) OB) m [some v] σ fun c ρ' σ'=>c = .ret (.bool b)∧σ'=σ
theorem ow_no {m:Nat} {σ:St} {k:Int} {a:Txt} {kids:List V} (h1:decide (k=44)=false) (h2:isIn (.int k) [.int 45,.int 47,.int 48,.int 49,.int 55]=some false):OW W d (m+1) (nd k a kids) σ false:=by
 have h1:∀ σ,cmpop .eq (.int k) (.int 44) σ=some false:=fun _=>congrArg some h1
 have h2:∀ σ,cmpop .isin (.int k) (.tup [.int 45,.int 47,.int 48,.int 49,.int 55]) σ=some false:=fun _=>h2
 refine whl_go (et_cmp (ev_x rfl) ev_c rfl) ?_
 unfold OB b_open_if
 repeat' (first | wtm_at "qa" | exact h1 _ | exact h2 _ | wtm_at "qb")
 exact ⟨rfl,rfl⟩
theorem ow_if {m:Nat} {σ:St} {k l:V} {a:Txt}:OW W d (m+1) (nd 44 a [k,l,.none]) σ true:=by
 refine whl_go (et_cmp (ev_x rfl) ev_c rfl) ?_
 unfold OB b_open_if
 repeat' (first | wtm_at "qa" | wtm_at "qb")
 exact ⟨rfl,rfl⟩
theorem ow_else {m:Nat} {σ:St} {k l x:V} {a:Txt} {b:Bool} (hx:x.isNone=false) (h:OW W d m x σ b):OW W d (m+1) (nd 44 a [k,l,x]) σ b:=by
 have hx:∀ σ,cmpop .is x .none σ=some false:=fun _=>congrArg some hx
 refine whl_go (et_cmp (ev_x rfl) ev_c rfl) ?_
 unfold OB b_open_if
 repeat' (first | wtm_at "qa" | exact hx _ | exact h | wtm_at "qb")
theorem ow_last {m:Nat} {σ:St} {x:V} {kd:Int} {a:Txt} {ks:List V} {b:Bool} (h1:decide (kd=44)=false) (h2:isIn (.int kd) [.int 45,.int 47,.int 48,.int 49,.int 55]=some true) (hl:ks.length<99) (h:OW W d m x σ b):OW W d (m+1) (nd kd a (ks++[x])) σ b:=by
 have h1:∀ σ,cmpop .eq (.int kd) (.int 44) σ=some false:=fun _=>congrArg some h1
 have h2:∀ σ,cmpop .isin (.int kd) (.tup [.int 45,.int 47,.int 48,.int 49,.int 55]) σ=some true:=fun _=>h2
 have hi:∀ σ,index (.list (ks++[x])) (.int (-1)) σ=some x:=fun _=>ati_last (by lia)
 refine whl_go (et_cmp (ev_x rfl) ev_c rfl) ?_
 unfold OB b_open_if
 repeat' (first | wtm_at "qa" | exact h1 _ | exact h2 _ | exact hi _ | exact h | wtm_at "qb")
theorem n_some (t:T):t.n.isNone=false:=by
 cases t with
 | row i=>revert i; decide
 | b0 s=>cases s <;> rfl
 | b1 s k=>cases s <;> rfl
 | b2 s k l=>cases s <;> rfl
 | u s k=>
  cases s with
  | loop h=>cases h <;> rfl
  | _=>rfl
 | ie a k l=>rfl
theorem ow_B {m:Nat} {σ:St} (s:BS) (ks:List V):OW W d (m+1) (s.n ks) σ false:=by cases s <;> exact ow_no rfl rfl
theorem ow_ok:∀ (t:T) {m:Nat} {σ:St},t.dp≤m→OW W d m t.n σ t.opn
 | .row i,m,σ,h=>by
  refine e1_2 (need (n:=0) h) fun m w1_ _=>?_; subst w1_
  refine fin8 i ?_ ?_ ?_ ?_ ?_ ?_ ?_ ?_
  ·exact ow_no rfl rfl
  ·exact ow_no rfl rfl
  ·exact ow_no rfl rfl
  ·exact ow_no rfl rfl
  ·exact ow_no rfl rfl
  ·exact ow_no rfl rfl
  ·exact ow_no rfl rfl
  ·exact ow_no rfl rfl
 | .b0 s,m,σ,h=>by
  refine e1_2 (need (n:=0) h) fun m w2_ _=>?_; subst w2_
  exact ow_B s _
 | .b1 s k,m,σ,h=>by
  refine e1_2 (need (n:=k.dp) h) fun m w3_ _=>?_; subst w3_
  exact ow_B s _
 | .b2 s k l,m,σ,h=>by
  refine e1_2 (need (n:=max k.dp l.dp) h) fun m w4_ _=>?_; subst w4_
  exact ow_B s _
 | .u s k,m,σ,h=>by
  refine e1_2 (need (n:=k.dp) h) fun m w5_ hm=>?_; subst w5_
  have ih:=ow_ok k (σ:=σ) hm
  cases s with
  | ifs a=>exact ow_if
  | lab a=>exact ow_last (ks:=[]) rfl rfl (Nat.le_of_ble_eq_true rfl) ih
  | dow a=>exact ow_no rfl rfl
  | loop hh=>
   cases hh with
   | wh a=>exact ow_last (ks:=[_]) rfl rfl (Nat.le_of_ble_eq_true rfl) ih
   | fr f p c=>exact ow_last (ks:=[_,_,_]) rfl rfl (Nat.le_of_ble_eq_true rfl) ih
   | ea x o a=>cases o <;> exact ow_last (ks:=[_,_]) rfl rfl (Nat.le_of_ble_eq_true rfl) ih
 | .ie a k l,m,σ,h=>by
  refine e1_2 (need (n:=max k.dp l.dp) h) fun m w6_ hm=>?_; subst w6_
  exact ow_else (n_some l) (ow_ok l (by lia))
theorem open_ok {t:T} {σ:St} (h:t.dp≤W):callF prog W (d+1) 5 [t.n] σ=some (.bool t.opn,σ):=by
 refine call_pure (fn:=⟨1,1,b_open_if⟩) rfl rfl rfl ?_
 refine (?_:Run W _ (S.while OT OB :: _) [some t.n] σ _)
 refine e3_3 (ow_ok (W:=W) (d:=d) t (σ:=σ) h) fun c ρ' σ' e h1 h2=>?_
 subst h1
 subst h2
 exact run_while ⟨_,_,_,e,rfl,List.take_length⟩
noncomputable def T.laid:T→T
 | .row i=>.row i
 | .b0 s=>.b0 s
 | .b1 s k=>.b1 s k.laid
 | .b2 s k l=>.b2 s k.laid l.laid
 | .u s k=>.u s k.laid
 | .ie a k l=>.ie a (cond k.opn (.b1 .block k.laid) k.laid) l.laid
theorem laid_opn:∀ t:T,t.laid.opn=t.opn
 | .row _ | .b0 _ | .b1 _ _ | .b2 _ _ _=>rfl
 | .u s k=>by
  cases s with
  | ifs a=>rfl
  | loop h=>exact laid_opn k
  | lab a=>exact laid_opn k
  | dow a=>rfl
 | .ie a k l=>laid_opn l
theorem laid_well:∀ t:T,t.laid.well
 | .row _ | .b0 _=>trivial
 | .b1 _ k=>laid_well k
 | .b2 _ k l=>⟨laid_well k,laid_well l⟩
 | .u s k=>laid_well k
 | .ie a k l=>by
  have h:=laid_opn k
  have hw:=laid_well k
  refine (?_:(cond k.opn (T.b1 .block k.laid) k.laid).opn=false∧(cond k.opn (T.b1 .block k.laid) k.laid).well∧l.laid.well)
  cases q:k.opn with
  | true=>exact i0_3 rfl hw (laid_well l)
  | false=>exact i0_3 (h.trans q) hw (laid_well l)
noncomputable def T.sz:T→Nat
 | .row _=>1
 | .b0 _=>1
 | .b1 _ k=>k.sz+1
 | .b2 _ k l=>k.sz+l.sz+1
 | .u _ k=>k.sz+1
 | .ie _ k l=>k.sz+l.sz+1
theorem pre_len (s:BS):s.pre.length<8:=by cases s <;> exact Nat.le_of_ble_eq_true rfl
theorem upre_len (s:US):s.pre.length+s.post.length<26:=by
 cases s with
 | loop h=>have:=h.toks_len; refine (?_:h.toks.length+0<26); lia
 | _=>exact Nat.le_of_ble_eq_true rfl
theorem row_len (i:Fin 8):(rowT i).length<8:=by revert i; decide
theorem laid_tk:∀ t:T,t.laid.tk.length≤40 * t.sz
 | .row i=>by have:=row_len i; refine (?_:(rowT i).length≤40 * 1); lia
 | .b0 s=>by have:=pre_len s; refine (?_:(s.pre++_).length≤40 * 1); rw [List.length_append,List.length_cons,List.length_nil]; lia
 | .b1 s k=>by have:=pre_len s; have:=laid_tk k; refine (?_:(s.pre++(k.laid.tk++_)).length≤40 * (k.sz+1)); rw [List.length_append,List.length_append,List.length_cons,List.length_nil]; lia
 | .b2 s k l=>by have:=pre_len s; have:=laid_tk k; have:=laid_tk l; refine (?_:(s.pre++(k.laid.tk++(l.laid.tk++_))).length≤40 * (k.sz+l.sz+1)); rw [List.length_append,List.length_append,List.length_append,List.length_cons,List.length_nil]; lia
 | .u s k=>by have:=upre_len s; have:=laid_tk k; refine (?_:(s.pre++(k.laid.tk++s.post)).length≤40 * (k.sz+1)); rw [List.length_append,List.length_append]; lia
 | .ie a k l=>by
  have:=laid_tk k
  have:=laid_tk l
  have h:(cond k.opn (T.b1 .block k.laid) k.laid).tk.length≤k.laid.tk.length+2:=by
   cases k.opn with
   | true=>refine (?_:([_]++(k.laid.tk++[_])).length≤_); rw [List.length_append,List.length_append,List.length_cons,List.length_nil,List.length_cons,List.length_nil]; lia
   | false=>exact Nat.le_add_right _ 2
  refine (?_:(ifT a++((cond k.opn (T.b1 .block k.laid) k.laid).tk++(_ :: l.laid.tk))).length≤40 * (k.sz+l.sz+1))
  rw [List.length_append,List.length_append,List.length_cons,show (ifT a).length=4 from rfl]
  lia
theorem laid_cost:∀ t:T,t.laid.cost≤40 * t.sz
 | .row i=>by refine (?_:1≤40 * 1); lia
 | .b0 s=>by refine (?_:2≤40 * 1); lia
 | .b1 s k=>by have:=laid_cost k; refine (?_:k.laid.cost+3≤40 * (k.sz+1)); lia
 | .b2 s k l=>by have:=laid_cost k; have:=laid_cost l; refine (?_:l.laid.cost+1+(k.laid.cost+1)+2≤40 * (k.sz+l.sz+1)); lia
 | .u s k=>by have:=laid_cost k; refine (?_:k.laid.cost+2≤40 * (k.sz+1)); lia
 | .ie a k l=>by
  have:=laid_cost k
  have:=laid_cost l
  have h:(cond k.opn (T.b1 .block k.laid) k.laid).cost≤k.laid.cost+3:=by
   cases k.opn with
   | true=>exact Nat.le_refl _
   | false=>exact Nat.le_add_right _ 3
  refine (?_:l.laid.cost+1+((cond k.opn (T.b1 .block k.laid) k.laid).cost+1)+1≤40 * (k.sz+l.sz+1))
  lia
theorem laid_dp:∀ t:T,t.laid.dp≤2 * t.dp
 | .row i=>by refine (?_:1≤2 * 1); lia
 | .b0 s=>by refine (?_:1≤2 * 1); lia
 | .b1 s k=>by have:=laid_dp k; refine (?_:k.laid.dp+1≤2 * (k.dp+1)); lia
 | .b2 s k l=>by have:=laid_dp k; have:=laid_dp l; refine (?_:max k.laid.dp l.laid.dp+1≤2 * (max k.dp l.dp+1)); lia
 | .u s k=>by have:=laid_dp k; refine (?_:k.laid.dp+1≤2 * (k.dp+1)); lia
 | .ie a k l=>by
  have:=laid_dp k
  have:=laid_dp l
  have h:(cond k.opn (T.b1 .block k.laid) k.laid).dp≤k.laid.dp+1:=by
   cases k.opn with
   | true=>exact Nat.le_refl _
   | false=>exact Nat.le_add_right _ 1
  refine (?_:max (cond k.opn (T.b1 .block k.laid) k.laid).dp l.laid.dp+1≤2 * (max k.dp l.dp+1))
  lia
theorem txt_row:∀ i:Fin 8,(sp (rowT i)).all (fun ch=>decide (ch<0x110000))=true:=by decide
theorem txt_if:∀ a:Lt,(sp (ifT a)).all (fun ch=>decide (ch<0x110000))=true:=by decide
theorem txt_lt:∀ a:Lt,(lt a).all (fun ch=>decide (ch<0x110000))=true:=by decide
theorem txt_H:∀ h:H,(sp h.toks).all (fun ch=>decide (ch<0x110000))=true:=H.check (by decide +kernel)
theorem txt_B:∀ s:BS,s.word.all (fun ch=>decide (ch<0x110000))=true∧s.sort.all (fun ch=>decide (ch<0x110000))=true
 | .block=>⟨rfl,by decide⟩
 | .tr=>⟨rfl,by decide⟩
 | .sw a=>⟨txt_lt a,(by decide:([115,119,105,116,99,104]:Txt).all (fun ch=>decide (ch<0x110000))=true)⟩
theorem txt_U:∀ s:US,s.word.all (fun ch=>decide (ch<0x110000))=true∧s.sort.all (fun ch=>decide (ch<0x110000))=true
 | .ifs a=>⟨txt_if a,(by decide:([105,102]:Txt).all (fun ch=>decide (ch<0x110000))=true)⟩
 | .loop h=>⟨txt_H h,(by decide:([108,111,111,112]:Txt).all (fun ch=>decide (ch<0x110000))=true)⟩
 | .lab a=>⟨txt_lt a,(by decide:([108,97,98,101,108]:Txt).all (fun ch=>decide (ch<0x110000))=true)⟩
 | .dow a=>⟨txt_lt a,(by decide:([100,111]:Txt).all (fun ch=>decide (ch<0x110000))=true)⟩
theorem eqd_str {n:Nat} {s:Txt} (h:s.all (fun ch=>decide (ch<0x110000))=true):(V.str s).eqd n=true:=by
 cases n <;> first | exact h | exact Bool.or_eq_true_iff.mpr (.inl h)
theorem eqd_ter {n:Nat} {s w:Txt} {ks:List V} (h1:s.all (fun ch=>decide (ch<0x110000))=true) (h2:w.all (fun ch=>decide (ch<0x110000))=true) (h:ks.all (V.eqd n)=true):(ter s w ks).eqd (n+1+1)=true:=by
 refine (?_:(V.eqd (n+1) (.str s) && (V.eqd (n+1) (.str w) && (ks.all (V.eqd n) && true)))=true)
 rw [eqd_str h1,eqd_str h2,h]; rfl
theorem eqd_T:∀ (t:T) {n:Nat},2 * t.dp≤n→t.v.eqd n=true
 | .row i,n,h=>by
  have h:2 * 1≤n:=h
  obtain ⟨n,rfl⟩:∃ m,n=m+1+1:=⟨n - 2,by lia⟩
  exact eqd_ter (by decide) (txt_row i) rfl
 | .b0 s,n,h=>by
  have h:2 * 1≤n:=h
  obtain ⟨n,rfl⟩:∃ m,n=m+1+1:=⟨n - 2,by lia⟩
  exact eqd_ter (txt_B s).2 (txt_B s).1 rfl
 | .b1 s k,n,h=>by
  have h:2 * (k.dp+1)≤n:=h
  obtain ⟨n,rfl⟩:∃ m,n=m+1+1:=⟨n - 2,by lia⟩
  exact eqd_ter (txt_B s).2 (txt_B s).1 (by show (k.v.eqd n && true)=true; rw [eqd_T k (by lia)]; rfl)
 | .b2 s k l,n,h=>by
  have h:2 * (max k.dp l.dp+1)≤n:=h
  obtain ⟨n,rfl⟩:∃ m,n=m+1+1:=⟨n - 2,by lia⟩
  exact eqd_ter (txt_B s).2 (txt_B s).1 (by show (k.v.eqd n && (l.v.eqd n && true))=true; rw [eqd_T k (by lia),eqd_T l (by lia)]; rfl)
 | .u s k,n,h=>by
  have h:2 * (k.dp+1)≤n:=h
  obtain ⟨n,rfl⟩:∃ m,n=m+1+1:=⟨n - 2,by lia⟩
  exact eqd_ter (txt_U s).2 (txt_U s).1 (by show (k.v.eqd n && true)=true; rw [eqd_T k (by lia)]; rfl)
 | .ie a k l,n,h=>by
  have h:2 * (max k.dp l.dp+1)≤n:=h
  obtain ⟨n,rfl⟩:∃ m,n=m+1+1:=⟨n - 2,by lia⟩
  exact eqd_ter (by decide) (txt_if a) (by show (k.v.eqd n && (l.v.eqd n && true))=true; rw [eqd_T k (by lia),eqd_T l (by lia)]; rfl)
theorem att_dp:∀ t:T,t.att.dp≤t.dp
 | .row _ | .b0 _ | .b1 _ _ | .b2 _ _ _=>Nat.le_refl _
 | .u s k=>by
  have:=att_dp k
  cases s with
  | ifs a=>
   refine (?_:(if k.opn then T.u (.ifs a) k.att else .ie a k (.row 1)).dp≤k.dp+1)
   have h1:1≤k.dp:=by cases k <;> exact Nat.le_add_left 1 _
   cases k.opn with
   | true=>refine (?_:k.att.dp+1≤_); lia
   | false=>refine (?_:max k.dp 1+1≤_); lia
  | loop _=>refine (?_:k.att.dp+1≤k.dp+1); lia
  | lab _=>refine (?_:k.att.dp+1≤k.dp+1); lia
  | dow _=>refine (?_:k.att.dp+1≤k.dp+1); lia
 | .ie _ k l=>by have:=att_dp l; refine (?_:max k.dp l.att.dp+1≤max k.dp l.dp+1); lia
theorem astray_ok {t:T} (hs:t.sz<1000) (hd:t.dp<12) (hW:100000≤W) {σ:St}:∃ v,callF prog W (d+3) 51 [.list (vL (T.ie 5 t.laid (.row 1)).tk)] σ=some (v,σ)∧∀ σ,cmpop .ne v (.list [(T.ie 5 t.laid (.row 1)).v]) σ=some t.opn:=by
 have h1:=laid_tk t
 have h2:=laid_cost t
 have h3:=laid_dp t
 have hA:(T.ie 5 t.laid (.row 1)).v.eqd 50=true:=eqd_T _ (by refine (?_:2 * (max t.laid.dp 1+1)≤50); lia)
 have hl:(T.ie 5 t.laid (.row 1)).tk.length=4+(t.laid.tk.length+2):=by
  refine (?_:(ifT 5++(t.laid.tk++(_ :: rowT 1))).length=_)
  rw [List.length_append,List.length_append]; rfl
 have ho:=laid_opn t
 cases q:t.opn with
 | true=>
  rw [q] at ho
  have e:(T.u (.ifs 5) t.laid).att=T.u (.ifs 5) t.laid.att:=by refine (?_:(if t.laid.opn then _ else _)=_); rw [if_pos ho]
  have:=read_a (W:=W) (d:=d) (t:=.u (.ifs 5) t.laid) (σ:=σ) (laid_well t) rfl (by refine (?_:t.laid.dp+1<600); lia) (tk:=(T.ie 5 t.laid (.row 1)).tk)
   (by refine (?_:ifT 5++(t.laid.tk++(_ :: rowT 1))=(ifT 5++(t.laid.tk++[]))++_); rw [List.append_nil,List.append_assoc]; rfl) (by lia) (by lia) (by refine (?_:t.laid.cost+2+4≤W); lia)
  refine i1_2 _ this (fun σ=>?_)
  refine e▸?_
  have ha:=att_dp t.laid
  have hB:(T.u (.ifs 5) t.laid.att).v.eqd 50=true:=eqd_T _ (by refine (?_:2 * (t.laid.att.dp+1)≤50); lia)
  show (if (((T.u (.ifs 5) t.laid.att).v.eqd 50 && true) && ((T.ie 5 t.laid (.row 1)).v.eqd 50 && true))=true then some (@decide _ (V.decEqs _ _)) else none).map _=_
  rw [hA,hB]
  show some (!@decide _ (V.decEqs _ _))=_
  rw [@decide_eq_false _ (V.decEqs _ _)]
  ·rfl
  ·intro z
   have z:=(List.cons.inj z).1
   unfold T.v ter at z
   have z:=(V.list.inj (List.cons.inj (List.cons.inj (List.cons.inj (V.list.inj z)).2).2).1)
   cases (List.cons.inj z).2
 | false=>
  have ho:=q▸ho
  refine i1_2 _ (read_1 (t:=.ie 5 t.laid (.row 1)) ⟨ho,laid_well t,trivial⟩ (by refine (?_:max t.laid.dp 1+1<600); lia) (by lia) (by lia) (by refine (?_:1+1+(t.laid.cost+1)+1+2≤W); lia)) (fun σ=>?_)
  show (if (((T.ie 5 t.laid (.row 1)).v.eqd 50 && true) && ((T.ie 5 t.laid (.row 1)).v.eqd 50 && true))=true then some (@decide _ (V.decEqs _ _)) else none).map _=_
  rw [hA]
  show some (!@decide _ (V.decEqs _ _))=_
  rw [@decide_eq_true _ (V.decEqs _ _) rfl]; rfl
end
section
variable {W d:Nat}
noncomputable def T.both (t:T):V:=.tup [t.n,t.laid.v,.bool t.opn]
theorem both_pure (t:T):t.both.pure=true:=by
 show (t.n.pure && (t.laid.v.pure && (true && true)))=true
 rw [t.n_pure,vs_pure]; rfl
theorem both_end {t:T} {s w:Txt} {ks:List V} {b p y11 y12:Option V} {ps ls:List V} {σ:St} {nk:List V} (hs:t.sz<1000) (hd:t.dp<12) (hW:100000≤W) (hdd:40≤d)
  (hv:t.laid.v=ter s w ls) (hnk:∀ (ρ:Loc) (σ:St),ρ[5]?=some (some (.list ps))→13<ρ.length→evalE prog (callF prog W d) (E.comp false 13 (E.x 5) (E.idx (E.x 13) (E.c (V.int 0)))) ρ σ=some (.list nk,σ)) (hn:∀ σ,callF prog W d 47 [.str s,.str w,.list nk] σ=some (t.n,σ)) :
  Run W (callF prog W d) (b_law_both.drop 4) [p,b,some (.str s),some (.str w),some (.list ks),some (.list ps),some (.loc (σ.length+0)),none,none,none,none,y11,y12,none] (σ++[.list ls]) fun c ρ' σ'=>c = .ret t.both∧∃ r,σ'=σ++r:=by
 refine e1_2 (astray_ok (W:=W) (d:=d - 3) hs hd hW (σ:=σ++[.flist ls])) fun v hr hne=>?_
 rw [show d - 3+3=d by lia] at hr
 have h1:=laid_tk t
 have h3:=laid_dp t
 have hl:(T.ie 5 t.laid (.row 1)).tk.length=4+(t.laid.tk.length+2):=by
  refine (?_:(ifT 5++(t.laid.tk++(_ :: rowT 1))).length=_)
  rw [List.length_append,List.length_append]; rfl
 have ht:callF prog W d 48 [(T.ie 5 t.laid (.row 1)).v] (σ++[.flist ls])=some (.list (vL (T.ie 5 t.laid (.row 1)).tk),σ++[.flist ls]):=toks_ok _ (by refine (?_:max t.laid.dp 1+1≤d); lia) (by lia)
 have ho:callF prog W d 5 [t.n] (σ++[.flist ls])=some (.bool t.opn,σ++[.flist ls]):=by
  refine e1_2 (need (n:=39) hdd) fun d w1_ _=>?_; subst w1_
  exact open_ok (by lia)
 have hq:∀ σ,cmpop .ne (.bool t.opn) (.bool t.opn) σ=some false:=fun _=>by show some (!decide _)=_; rw [decide_eq_true rfl]; rfl
 have ht:callF prog W d 48 [.list [.str [105,102],.str [105,102,32,40,32,113,32,41],.list [ter s w ls,ter [114,111,119] [59] []]]] (σ++[.flist ls])=some (.list (vL (T.ie 5 t.laid (.row 1)).tk),σ++[.flist ls]):=by
  have e:(T.ie 5 t.laid (.row 1)).v = .list [.str [105,102],.str [105,102,32,40,32,113,32,41],.list [ter s w ls,ter [114,111,119] [59] []]]:=by refine hv▸?_; rfl
  refine e▸?_; exact ht
 have hne:∀ σ,cmpop .ne v (.list [.list [.str [105,102],.str [105,102,32,40,32,113,32,41],.list [ter s w ls,ter [114,111,119] [59] []]]]) σ=some t.opn:=by
  have e:(T.ie 5 t.laid (.row 1)).v = .list [.str [105,102],.str [105,102,32,40,32,113,32,41],.list [ter s w ls,ter [114,111,119] [59] []]]:=by refine hv▸?_; rfl
  refine e▸?_; exact hne
 unfold b_law_both
 dsimp only [List.drop]
 refine run_asg (ev_call (evs_cons (ev_x rfl) (evs_cons (ev_x rfl) (evs_cons (hnk _ _ rfl (Nat.le_of_ble_eq_true rfl)) evs_nil))) (hn _)) ?_
 refine run_asg (v:=.list [.str s,.str w,.list ls]) (σ₁:=σ++[.flist ls]) ?_ ?_
 ·repeat' (first | wtm_at "qa" | wtm_at "qb")
 repeat' (first | wtm_at "qa" | ((with_reducible show callF _ _ _ _ _ _=_); first | exact ht | exact hr | exact ho) | exact hne _ | exact hq _ | wtm_at "qb")
 exact ⟨by unfold T.both; refine hv▸?_; rfl,_,rfl⟩
theorem map_n {z:Nat} {ρ:Loc} (hz:z<ρ.length):∀ (ts:List T) (σ:St),mapL (fun v σ'=>evalE prog (callF prog W d) (E.idx (E.x z) (E.c (V.int 0))) (ρ.set z (some v)) σ') (ts.map T.both) σ=some (ts.map T.n,σ)
 | [],σ=>rfl
 | t :: ts,σ=>mapL_cons (ev_idx (ev_x (List.getElem?_set_self hz)) ev_c rfl) (map_n hz ts σ)
theorem map_l {z:Nat} {ρ:Loc} (hz:z<ρ.length):∀ (ts:List T) (σ:St),mapL (fun v σ'=>evalE prog (callF prog W d) (E.idx (E.x z) (E.c (V.int 1))) (ρ.set z (some v)) σ') (ts.map T.both) σ=some (ts.map fun t=>t.laid.v,σ)
 | [],σ=>rfl
 | t :: ts,σ=>mapL_cons (ev_idx (ev_x (List.getElem?_set_self hz)) ev_c rfl) (map_l hz ts σ)
theorem map_b {z y:Nat} {ρ:Loc} {b:V} (hz:z<ρ.length) (hy:ρ[y]?=some (some b)) (hyz:z≠y):∀ (ts:List T) (σ:St),(∀ t ∈ ts,∀ σ,callF prog W d 52 [t.v,b] σ=some (t.both,σ))→mapL (fun v σ'=>evalE prog (callF prog W d) (E.call 52 [E.x z,E.x y]) (ρ.set z (some v)) σ') (ts.map T.v) σ=some (ts.map T.both,σ)
 | [],σ,_=>rfl
 | t :: ts,σ,h=>mapL_cons (ev_call (evs_cons (ev_x (List.getElem?_set_self hz)) (evs_cons (ev_x (by rw [List.getElem?_set_ne hyz]; exact hy)) evs_nil)) (h t List.mem_cons_self σ)) (map_b hz hy hyz ts σ fun t ht=>h t (List.mem_cons_of_mem _ ht))
theorem both_start {s w:Txt} {ts:List T} {b:V} {σ:St} {Q:Ctl→Loc→St→Prop} (hn:ts.length<9) (ih:∀ t ∈ ts,∀ σ,callF prog W d 52 [t.v,b] σ=some (t.both,σ))
  (h:Run W (callF prog W d) (b_law_both.drop 3) [some (ter s w (ts.map T.v)),some b,some (.str s),some (.str w),some (.list (ts.map T.v)),some (.list (ts.map T.both)),some (.loc (σ.length+0)),none,none,none,none,none,none,none] (σ++[.list (ts.map fun t=>t.laid.v)]) Q) :
  Run W (callF prog W d) b_law_both [some (ter s w (ts.map T.v)),some b,none,none,none,none,none,none,none,none,none,none,none,none] (σ++[]) Q:=by
 refine run_asgT (ev_x rfl) rfl rfl ?_
 refine run_asg (ev_compF (ev_x rfl) rfl (by rw [List.length_map]; lia) (map_b (Nat.le_of_ble_eq_true rfl) rfl (by decide) ts _ ih)) ?_
 exact run_asg (b_compT (ev_x rfl) rfl (by rw [List.length_map]; lia) (map_l (Nat.le_of_ble_eq_true rfl) ts _) rfl rfl) h
theorem nk_ok (ts:List T) (hn:ts.length<9):∀ (ρ:Loc) (σ:St),ρ[5]?=some (some (.list (ts.map T.both)))→13<ρ.length→evalE prog (callF prog W d) (E.comp false 13 (E.x 5) (E.idx (E.x 13) (E.c (V.int 0)))) ρ σ=some (.list (ts.map T.n),σ):=
 fun ρ σ h1 h2=>ev_compF (ev_x h1) rfl (by rw [List.length_map]; lia) (map_n h2 ts σ)
theorem both_plain {t:T} {s w:Txt} {ts:List T} {b:V} {σ:St} (hs:t.sz<1000) (hd:t.dp<12) (hW:100000≤W) (hdd:40≤d) (hv:t.v=ter s w (ts.map T.v)) (hl:t.laid.v=ter s w (ts.map fun t=>t.laid.v)) (hn:ts.length<9)
  (ih:∀ t ∈ ts,∀ σ,callF prog W d 52 [t.v,b] σ=some (t.both,σ)) (hN:∀ σ,callF prog W d 47 [.str s,.str w,.list (ts.map T.n)] σ=some (t.n,σ))
  (hc:s≠[105,102]∨ts.length≠2∨∃ k l,ts=[k,l]∧k.opn=false):callF prog W (d+1) 52 [t.v,b] σ=some (t.both,σ):=by
 refine call_p (fn:=⟨2,14,b_law_both⟩) rfl rfl (both_pure t) ?_
 refine hv▸?_
 refine both_start hn ih ?_
 refine (?_:Run W _ (S.ifs _ _ _ :: b_law_both.drop 4) _ _ _)
 refine run_ifF ?_ (both_end hs hd hW hdd hl (nk_ok ts hn) hN)
 refine et_and ?_
 by_cases q1:s=[105,102]
 ·refine ea_t (et_cmp (ev_x rfl) ev_c (by show some (decide _)=_; rw [decide_eq_true q1])) ?_
  have hlen:∀ σ,lenV (.list (ts.map T.v)) σ=some (.int ts.length):=fun σ=>by
   have:=o_lenL (σ:=σ) (xs:=ts.map T.v) (by rw [List.length_map]; lia)
   rw [List.length_map] at this; exact this
  by_cases q2:ts.length=2
  ·rcases hc with z | z | ⟨k,l,rfl,hk⟩
   ·exact absurd q1 z
   ·exact absurd q2 z
   ·refine ea_t (et_cmp (ev_len (ev_x rfl) (hlen _)) ev_c rfl) (ea_f (et_tst (ev_idx (ev_idx (ev_x rfl) ev_c rfl) ev_c (v:=.bool k.opn) rfl) ?_))
    refine hk▸?_; rfl
  ·exact ea_f (et_cmp (ev_len (ev_x rfl) (hlen _)) ev_c (by show some (decide _)=_; rw [decide_eq_false (by lia)]))
 ·exact ea_f (et_cmp (ev_x rfl) ev_c (by show some (decide _)=_; rw [decide_eq_false q1]))
theorem both_ie {a:Lt} {k l:T} {b:V} {σ:St} (hs:(T.ie a k l).sz<1000) (hd:(T.ie a k l).dp<12) (hW:100000≤W) (hdd:40≤d) (hk:∀ σ,callF prog W d 52 [k.v,b] σ=some (k.both,σ)) (hl:∀ σ,callF prog W d 52 [l.v,b] σ=some (l.both,σ)) :
  callF prog W (d+1) 52 [(T.ie a k l).v,b] σ=some ((T.ie a k l).both,σ):=by
 have hN:∀ σ,callF prog W d 47 [.str [105,102],.str (sp (ifT a)),.list [k.n,l.n]] σ=some ((T.ie a k l).n,σ):=fun σ=>node_ie (by lia) a k.n_pure l.n_pure
 have ih:∀ t ∈ [k,l],∀ σ,callF prog W d 52 [t.v,b] σ=some (t.both,σ):=by
  intro t ht
  rcases List.mem_cons.mp ht with rfl | ht
  ·exact hk
  ·refine (List.mem_singleton.mp ht)▸?_; exact hl
 cases q:k.opn with
 | false=>
  exact both_plain (ts:=[k,l]) hs hd hW hdd rfl (by refine (?_:ter _ _ [(cond k.opn (T.b1 .block k.laid) k.laid).v,_]=_); rw [q]; rfl) (Nat.le_of_ble_eq_true rfl) ih hN (.inr (.inr ⟨k,l,rfl,q⟩))
 | true=>
  refine call_p (fn:=⟨2,14,b_law_both⟩) rfl rfl (both_pure _) ?_
  refine both_start (s:=[105,102]) (w:=sp (ifT a)) (ts:=[k,l]) (Nat.le_of_ble_eq_true rfl) ih ?_
  have hlv:(T.ie a k l).laid.v=ter [105,102] (sp (ifT a)) [ter [98,108,111,99,107] [] [k.laid.v],l.laid.v]:=by refine (?_:ter _ _ [(cond k.opn (T.b1 .block k.laid) k.laid).v,_]=_); rw [q]; rfl
  have en:=both_end (W:=W) (d:=d) (ks:=[k.v,l.v]) (b:=some b) (p:=some (T.ie a k l).v) (y11:=none) (y12:=none) (σ:=σ) hs hd hW hdd hlv (nk_ok [k,l] (Nat.le_of_ble_eq_true rfl)) hN
  have hb:truth (.bool k.opn) (σ++[.list [k.laid.v,l.laid.v]])=some true:=by rw [q]; rfl
  refine (?_:Run W _ (S.ifs _ _ _ :: b_law_both.drop 4) _ _ _)
  refine run_ifT (et_and (ea_t (et_cmp (ev_x rfl) ev_c rfl) (ea_t (et_cmp (ev_len (ev_x rfl) rfl) ev_c rfl) (ea_t (et_tst (ev_idx (ev_idx (ev_x rfl) ev_c rfl) ev_c (v:=.bool k.opn) rfl) hb) ea_nil)))) ?_
  refine run_asgI (v:=ter [98,108,111,99,107] [] [k.laid.v]) ?_ (ev_x rfl) ev_c (o_setI (r:=[.list [k.laid.v,l.laid.v]]) (k:=0) rfl (of_decide_eq_true rfl)) en
  refine ev_listF (evs_cons ev_c (evs_cons ev_c (evs_cons (ev_listF (evs_cons (ev_idx (ev_x rfl) ev_c (o_idx (r:=[.list [k.laid.v,l.laid.v]]) (k:=0) rfl rfl)) evs_nil) (Nat.le_of_ble_eq_true rfl)) evs_nil))) (Nat.le_of_ble_eq_true rfl)
theorem both_ok:∀ (t:T) {d:Nat} {b:V} {σ:St},t.sz<1000→t.dp<12→100000≤W→t.dp+40≤d→callF prog W d 52 [t.v,b] σ=some (t.both,σ)
 | .row i,d,b,σ,hs,hd,hW,h=>by
  obtain ⟨d,rfl,g⟩:=need (n:=40) (by have h:1+40≤d:=h; omega)
  exact both_plain (ts:=[]) hs hd hW g rfl rfl (Nat.le_of_ble_eq_true rfl) (fun t h=>nomatch h) (fun σ=>node_row (by lia) i) (.inl (by decide))
 | .b0 s,d,b,σ,hs,hd,hW,h=>by
  obtain ⟨d,rfl,g⟩:=need (n:=40) (by have h:1+40≤d:=h; omega)
  exact both_plain (ts:=[]) hs hd hW g rfl rfl (Nat.le_of_ble_eq_true rfl) (fun t h=>nomatch h) (fun σ=>node_B (by lia) s rfl (Nat.le_of_ble_eq_true rfl)) (.inr (.inl (by decide)))
 | .b1 s k,d,b,σ,hs,hd,hW,h=>by
  have hs':k.sz+1<1000:=hs
  have hd':k.dp+1<12:=hd
  obtain ⟨d,rfl,g⟩:=need (n:=k.dp+40) (by have h:k.dp+1+40≤d:=h; omega)
  have ik:∀ σ,callF prog W d 52 [k.v,b] σ=some (k.both,σ):=fun σ=>both_ok k (by lia) (by lia) hW g
  exact both_plain (ts:=[k]) hs hd hW (by lia) rfl rfl (Nat.le_of_ble_eq_true rfl) (fun t ht σ=>by rw [List.mem_singleton.mp ht]; exact ik σ)
   (fun σ=>node_B (by lia) s (by refine (?_:(k.n.pure && true)=true); rw [k.n_pure]; rfl) (Nat.le_of_ble_eq_true rfl)) (.inr (.inl (of_decide_eq_true rfl)))
 | .b2 s k l,d,b,σ,hs,hd,hW,h=>by
  have hs':k.sz+l.sz+1<1000:=hs
  have hd':max k.dp l.dp+1<12:=hd
  refine e1_2 (need (n:=max k.dp l.dp+40) (by have h:max k.dp l.dp+1+40≤d:=h; omega)) fun d w13_ g=>?_; subst w13_
  have ik:∀ σ,callF prog W d 52 [k.v,b] σ=some (k.both,σ):=fun σ=>both_ok k (by lia) (by lia) hW (by lia)
  have il:∀ σ,callF prog W d 52 [l.v,b] σ=some (l.both,σ):=fun σ=>both_ok l (by lia) (by lia) hW (by lia)
  refine both_plain (ts:=[k,l]) hs hd hW (by lia) rfl rfl (Nat.le_of_ble_eq_true rfl) (fun t ht σ=>?_)
   (fun σ=>node_B (by lia) s (by refine (?_:(k.n.pure && (l.n.pure && true))=true); rw [k.n_pure,l.n_pure]; rfl) (Nat.le_of_ble_eq_true rfl)) (.inl (by cases s <;> exact of_decide_eq_true rfl))
  rcases List.mem_cons.mp ht with e | ht
  ·rw [e]; exact ik σ
  ·rw [List.mem_singleton.mp ht]; exact il σ
 | .u s k,d,b,σ,hs,hd,hW,h=>by
  have hs':k.sz+1<1000:=hs
  have hd':k.dp+1<12:=hd
  obtain ⟨d,rfl,g⟩:=need (n:=k.dp+40) (by have h:k.dp+1+40≤d:=h; omega)
  have ik:∀ σ,callF prog W d 52 [k.v,b] σ=some (k.both,σ):=fun σ=>both_ok k (by lia) (by lia) hW g
  exact both_plain (ts:=[k]) hs hd hW (by lia) rfl rfl (Nat.le_of_ble_eq_true rfl) (fun t ht σ=>by rw [List.mem_singleton.mp ht]; exact ik σ)
   (fun σ=>node_U (by lia) s k.n_pure) (.inr (.inl (of_decide_eq_true rfl)))
 | .ie a k l,d,b,σ,hs,hd,hW,h=>by
  have hs':k.sz+l.sz+1<1000:=hs
  have hd':max k.dp l.dp+1<12:=hd
  refine e1_2 (need (n:=max k.dp l.dp+40) (by have h:max k.dp l.dp+1+40≤d:=h; omega)) fun d w17_ g=>?_; subst w17_
  exact both_ie hs hd hW (by lia) (fun σ=>both_ok k (by lia) (by lia) hW (by lia)) (fun σ=>both_ok l (by lia) (by lia) hW (by lia))
end
section
noncomputable def SR:St:=[.dict [],.inst 1,.attrs [],.inst 13,.attrs [],.inst 17,.attrs [],.inst 3,.attrs [],.inst 4,.attrs [],.inst 5,.attrs [],.inst 6,.attrs [],.inst 7,.attrs [],.inst 8,.attrs [],.inst 9,.attrs [],.inst 10,.attrs [],.inst 11,.attrs [],.inst 12,.attrs [],.inst 14,.attrs [],.inst 15,.attrs [],.inst 20,.attrs [],.inst 18,.attrs [],.inst 19,.attrs [],.inst 16,.attrs [],
 .dict [(.int 8,.loc 11),(.int 40,.loc 13),(.int 59,.loc 15),(.int 60,.loc 17),(.int 41,.loc 19),(.int 43,.loc 21),(.int 44,.loc 23),(.int 45,.loc 25),(.int 46,.loc 27),(.int 47,.loc 29),(.int 48,.loc 7),(.int 49,.loc 7),(.int 50,.loc 31),(.int 51,.loc 33),(.int 57,.loc 35),(.int 53,.loc 9),(.int 54,.loc 9),(.int 55,.loc 37),(.int 56,.loc 39),(.int 52,.loc 41)]]
noncomputable def SP (s b:Cel) (D e:Nat) (ext:St):St:=s :: b :: .inst 2 :: .attrs [(6,.loc 43),(7,.int D),(8,.int e),(9,.loc 5)] :: (SR++ext)
noncomputable def nl (D:Nat):Txt:=10 :: (List.replicate D [32,32]).flatten
theorem ind_len:∀ D:Nat,(List.replicate D ([32,32]:Txt)).flatten.length=2 * D
 | 0=>rfl
 | D+1=>by
  rw [List.replicate_succ,List.flatten_cons,List.length_append,ind_len D]
  refine (?_:2+2 * D=2 * (D+1))
  lia
theorem nl_len (D:Nat):(nl D).length=2 * D+1:=congrArg (·+1) (ind_len D)
theorem SP_app {s b:Cel} {D e:Nat} {ext r:St}:SP s b D e ext++r=SP s b D e (ext++r):=rfl
section
variable {W d D e:Nat} {s b:Cel} {ext r:St}
theorem aug_inc {n:Nat}:augop .add (.int (n:Int)) (.int 1)=some (.int ((n+1:Nat):Int)):=rfl
theorem aug_dec {n:Nat}:augop .sub (.int ((n+1:Nat):Int)) (.int 1)=some (.int (n:Int)):=by
 refine (?_:some (V.int (((n+1:Nat):Int) - 1))=_)
 congr 2; lia
theorem set_D {D':Nat}:setAttr (.loc 2) 7 (.int (D':Int)) (SP s b D e ext++r)=some (SP s b D' e ext++r):=rfl
theorem set_e {e':Nat}:setAttr (.loc 2) 8 (.int (e':Int)) (SP s b D e ext++r)=some (SP s b D e' ext++r):=rfl
noncomputable def Pr (W d:Nat) (s b:Cel) (D e:Nat) (v:V) (x:Txt):Prop:=∀ ext,callF prog W d 9 [.loc 2,v] (SP s b D e ext)=some (.str x,SP s b D e ext)
theorem Pr.at {v:V} {x:Txt} (h:Pr W d s b D e v x) (ext r:St):callF prog W d 9 [.loc 2,v] (SP s b D e ext++r)=some (.str x,SP s b D e ext++r):=by rw [SP_app]; exact h (ext++r)
theorem pr_of {L c f:Nat} {k:Int} {v:V} {x:Txt} (he:e<190) (hk:getAttr v 0 []=some (.int k)) (hv:∃ kv,v = .obj 0 kv) (hd:∀ ext r,bmeth (.loc 43) 3 [.int k] (SP s b D e ext++r)=some (.loc L,SP s b D e ext++r))
  (hc:∀ ext r,clsOf (.loc L) (SP s b D (e+1) ext++r)=some c) (hm:prog.meth c 10=some f) (h:∀ ext,callF prog W d f [.loc L,.loc 2,v] (SP s b D (e+1) ext)=some (.str x,SP s b D (e+1) ext)):Pr W (d+1) s b D e v x:=by
 intro ext
 obtain ⟨kv,rfl⟩:=hv
 refine call_p (fn:=⟨2,4,b_Printer_text⟩) rfl rfl rfl ?_
 have hk':∀ σ,getAttr (.obj 0 kv) 0 σ=some (.int k):=fun _=>hk
 have hg:=hd ext []
 have hgt:∀ σ,cmpop .gt (.int ((e+1:Nat):Int)) (.int 200) σ=some false:=fun _=>by show some (decide _)=_; rw [decide_eq_false (by lia)]
 have hcall:callF prog W d f [.loc L,.loc 2,.obj 0 kv] (SP s b D (e+1) ext++[])=some (.str x,SP s b D (e+1) ext++[]):=by rw [List.append_nil]; exact h ext
 unfold b_Printer_text
 refine run_asg (ev_methB (ev_attr (ev_x rfl) rfl) rfl rfl (evs_cons (ev_attr (ev_x rfl) (hk' _)) evs_nil) hg) ?_
 refine run_ifF (et_cmp (ev_x rfl) ev_c rfl) ?_
 refine run_augA (ev_x rfl) rfl ev_c aug_inc set_e ?_
 refine run_ifF (et_cmp (ev_attr (ev_x rfl) rfl) ev_c (hgt _)) ?_
 refine run_asg (ev_meth (ev_x rfl) (hc _ _) hm (evs_cons (ev_x rfl) (evs_cons (ev_x rfl) evs_nil)) hcall) ?_
 refine run_augA (ev_x rfl) rfl ev_c aug_dec set_e ?_
 exact run_ret (ev_x rfl) ⟨rfl,_,rfl⟩
theorem row_start_ok (hD:D<60):callF prog W (d+1) 11 [.loc 2] (SP s b D e ext)=some (.str (nl D),SP s b D e ext):=by
 refine call_p (fn:=⟨1,1,b_row_start⟩) rfl rfl rfl ?_
 have hm:∀ σ,binop .mul (.str [32,32]) (.int (D:Int)) σ=some (.str (List.replicate D [32,32]).flatten):=fun _=>by
  show (if _ then _ else _)=_
  rw [if_pos ⟨by lia,by lia,by decide⟩]; rfl
 have hn:=nl_len D
 unfold nl at hn
 rw [List.length_cons] at hn
 unfold b_row_start
 repeat' (first | wtm_at "qa" | exact hm _ | wtm_at "qb")
theorem rs_at (hD:D<60) (ext r:St):callF prog W (d+1) 11 [.loc 2] (SP s b D e ext++r)=some (.str (nl D),SP s b D e ext++r):=by rw [SP_app]; exact row_start_ok hD
theorem allStr_vL:∀ l:List Txt,allStr (vL l)=some l
 | []=>rfl
 | x :: l=>by refine (?_:(allStr (vL l)).map _=_); refine (allStr_vL l)▸?_; rfl
theorem o_joinL {p:Txt} {l:List Txt} {σ:St} {k:Nat} (h:r[k]?=some (.list (vL l))) (hl:l.length<1000) (hp:p.length<10) (ht:total l<1000000):bmeth (.str p) 5 [.loc (σ.length+k)] (σ++r)=some (.str (join p l),σ++r):=by
 refine (?_:(items (.loc (σ.length+k)) (σ++r)).bind (fun xs=>(allStr xs).bind fun ts=>if xs.length<1000∧p.length<10∧total ts<1000000 then some (V.str (join p ts),σ++r) else none)=_)
 rw [o_items h,Option.bind_some,allStr_vL,Option.bind_some,if_pos ⟨by rw [vL,List.length_map]; exact hl,hp,ht⟩]
theorem join_nil:∀ l:List Txt,join [] l=l.flatten
 | []=>rfl
 | [x]=>by refine (?_:x=x++[]); rw [List.append_nil]
 | x :: y :: l=>by refine (?_:x++[]++join [] (y :: l)=x++(y :: l).flatten); rw [join_nil (y :: l),List.append_nil]
theorem total_eq (l:List Txt):total l=l.flatten.length:=List.length_flatten.symm
inductive Prs (W d:Nat) (s b:Cel) (D e:Nat):List V→List Txt→Prop
 | nil:Prs W d s b D e [] []
 | cons {v:V} {x:Txt} {vs:List V} {xs:List Txt}:Pr W d s b D e v x→Prs W d s b D e vs xs→Prs W d s b D e (v :: vs) (x :: xs)
noncomputable def rowsX (D:Nat) (xs:List Txt):Txt:=(xs.map fun x=>nl D++x).flatten
noncomputable def row3 (D:Nat) (xs:List Txt):List Txt:=(xs.map fun x=>[nl D,x,[]]).flatten
theorem row3_flat (D:Nat):∀ xs:List Txt,(row3 D xs).flatten=rowsX D xs
 | []=>rfl
 | x :: xs=>by
  refine (?_:(nl D++(x++([]++(row3 D xs).flatten)))=(nl D++x)++rowsX D xs)
  rw [row3_flat D xs,List.nil_append,List.append_assoc]
theorem row3_len (D:Nat):∀ xs:List Txt,(row3 D xs).length=3 * xs.length
 | []=>rfl
 | x :: xs=>by refine (?_:(row3 D xs).length+3=3 * (xs.length+1)); refine (row3_len D xs)▸?_; lia
theorem Prs.length {vs:List V} {xs:List Txt} (h:Prs W d s b D e vs xs):vs.length=xs.length:=by
 induction h with
 | nil=>rfl
 | cons _ _ ih=>rw [List.length_cons,List.length_cons,ih]
noncomputable def rwB:List S:=[S.expr (E.meth (E.x 3) 0 [(E.call 11 [(E.x 0)])]),S.expr (E.meth (E.x 3) 0 [(E.meth (E.x 0) 10 [(E.x 4)])]),S.expr (E.meth (E.x 3) 0 [(E.x 2)])]
theorem for_rows {R:Loc→St→Prop} {nodes:V} (hD:D<60):∀ {vs:List V} {xs:List Txt} {acc:List Txt} {z:Option V},Prs W (d+1) s b D e vs xs→acc.length+3 * xs.length<900→
  (∀ z',R [some (.loc 2),some nodes,some (.str []),some (.loc ((SP s b D e ext).length+0)),z'] (SP s b D e ext++[.list (vL (acc++row3 D xs))]))→
  For (fun v ρ' σ'=>evalSs prog W (callF prog W (d+1)) rwB (ρ'.set 4 (some v)) σ') vs [some (.loc 2),some nodes,some (.str []),some (.loc ((SP s b D e ext).length+0)),z] (SP s b D e ext++[.list (vL acc)]) R:=by
 intro vs xs acc z c
 induction c generalizing acc z with
 | nil=>
  intro hn h
  refine for_nil ?_
  have:=h z
  rw [show row3 D []=[] from rfl,List.append_nil] at this
  exact this
 | @cons v x vs xs hv _ ih=>
  intro hn h
  rw [List.length_cons] at hn
  refine for_cons ?_
  have hl:∀ a:List Txt,a.length<999→(vL a).length<1000000:=fun a ha=>by rw [vL,List.length_map]; lia
  refine run_expr (ev_methB (ev_x rfl) (o_cls (k:=0) rfl) (o_kind (k:=0) rfl rfl) (evs_cons (ev_call (evs_cons (ev_x rfl) evs_nil) (rs_at hD _ _)) evs_nil) (o_app (k:=0) rfl (hl _ (by lia)))) ?_
  refine run_expr (ev_methB (ev_x rfl) (o_cls (k:=0) rfl) (o_kind (k:=0) rfl rfl) (evs_cons (ev_meth (ev_x rfl) rfl rfl (evs_cons (ev_x rfl) evs_nil) (hv.at _ _)) evs_nil) (o_app (k:=0) rfl (by simp only [List.length_append,List.length_cons,List.length_nil,vL,List.length_map]; lia))) ?_
  refine run_expr (ev_methB (ev_x rfl) (o_cls (k:=0) rfl) (o_kind (k:=0) rfl rfl) (evs_cons (ev_x rfl) evs_nil) (o_app (k:=0) rfl (by simp only [List.length_append,List.length_cons,List.length_nil,vL,List.length_map]; lia))) (run_nil ⟨rfl,?_⟩)
  have:=ih (acc:=acc++[nl D,x,[]]) (z:=some v) (by refine List.length_append▸?_; refine (?_:_+3+_<_); lia) (fun z'=>by
   have:=h z'
   rw [show row3 D (x :: xs)=[nl D,x,[]]++row3 D xs from rfl,← List.append_assoc] at this
   exact this)
  rw [vL_app] at this
  refine (?_:For _ _ _ (SP s b D e ext++[.list (vL acc++[V.str (nl D)]++[V.str x]++[V.str []])]) _)
  rw [List.append_assoc,List.append_assoc]
  exact this
theorem rows_ok {vs:List V} {xs:List Txt} (hD:D<50) (h:Prs W (d+1) s b (D+1) e vs xs) (hn:xs.length<250) (hl:(rowsX (D+1) xs).length<1000000) :
  callF prog W (d+2) 13 [.loc 2,.list vs,.str []] (SP s b D e ext)=some (.str (rowsX (D+1) xs),SP s b D e ext):=by
 refine call_p (fn:=⟨3,5,b_rows_text⟩) rfl rfl rfl ?_
 refine (?_:Run W _ (S.asg 3 _ :: S.augA _ _ _ _ :: S.for 4 _ rwB :: _) [some (.loc 2),some (.list vs),some (.str []),none,none] _ _)
 refine run_asg (b_listT (r:=[]) evs_nil (Nat.le_of_ble_eq_true rfl) rfl rfl) ?_
 refine run_augA (ev_x rfl) rfl ev_c aug_inc set_D ?_
 refine run_for (ev_x rfl) rfl ?_
 refine for_rows (acc:=[]) (nodes:=.list vs) (z:=none) (ext:=ext) (by lia) h (by refine List.length_nil▸?_; lia) fun z'=>?_
 rw [List.nil_append]
 refine run_augA (ev_x rfl) rfl ev_c aug_dec set_D ?_
 have hj:=o_joinL (σ:=SP s b D e ext) (r:=[.list (vL (row3 (D+1) xs))]) (k:=0) (p:=[]) rfl (by rw [row3_len]; lia) (by decide) (by rw [total_eq,row3_flat]; exact hl)
 rw [join_nil,row3_flat] at hj
 exact run_ret (ev_methB ev_c rfl rfl (evs_cons (ev_x rfl) evs_nil) hj) ⟨rfl,_,rfl⟩
noncomputable def brX (D:Nat) (xs:List Txt):Txt:=if xs.isEmpty then [123,125] else [123]++rowsX (D+1) xs++nl D++[125]
theorem braced_ok {vs:List V} {xs:List Txt} (hD:D<50) (h:Prs W (d+1) s b (D+1) e vs xs) (hn:xs.length<250) (hl:(rowsX (D+1) xs).length<100000) :
  callF prog W (d+3) 12 [.loc 2,.list vs,.str []] (SP s b D e ext)=some (.str (brX D xs),SP s b D e ext):=by
 refine call_p (fn:=⟨3,3,b_braced⟩) rfl rfl rfl ?_
 refine (?_:Run W _ b_braced [some _,some _,some _] _ _)
 unfold b_braced
 have hr:callF prog W (d+2) 13 [.loc 2,.list vs,.str []] (SP s b D e ext++[])=some (.str (rowsX (D+1) xs),SP s b D e ext++[]):=by rw [SP_app]; exact rows_ok hD h hn (by lia)
 have hs:callF prog W (d+2) 11 [.loc 2] (SP s b D e ext++[])=some (.str (nl D),SP s b D e ext++[]):=rs_at (by lia) _ _
 have hnl:=nl_len D
 have hlen:=h.length
 cases h with
 | nil=>
  refine run_ifT (et_not (q:=false) (et_tst (ev_x rfl) rfl)) ?_
  exact run_ret ev_c ⟨rfl,_,rfl⟩
 | cons hv ht=>
  rename_i v x vs xs
  refine run_ifF (et_not (q:=true) (et_tst (ev_x rfl) ?_)) ?_
  ·refine (?_:(some (v :: vs)).bind (fun xs=>if xs.length<1000000 then some (!xs.isEmpty) else none)=_)
   rw [Option.bind_some,if_pos (by rw [hlen]; lia)]; rfl
  ·dsimp only [List.nil_append]
   repeat' (first | wtm_at "qa" | ((with_reducible show callF _ _ _ _ _ _=_); first | exact hr | exact hs) | wtm_at "qb")
end
end
section
section
variable {W d D e:Nat} {s b:Cel} {ext r:St}
theorem nameShape_ok {σ:St} {a:Txt} {L:V}:callF prog W (d+1) 15 [L,.loc 2,nmV a] σ=some (.str a,σ):=by
 refine call_p (fn:=⟨3,3,b_NameShape_text⟩) rfl rfl rfl ?_
 refine (?_:Run W _ b_NameShape_text [some _,some _,some _] _ _)
 unfold b_NameShape_text
 repeat' (first | wtm_at "qa" | wtm_at "qb")
theorem pr_name (he:e<190) {a:Txt}:Pr W (d+2) s b D e (nmV a) a:=
 pr_of (L:=11) (c:=3) (f:=15) he rfl ⟨_,rfl⟩ (fun _ _=>rfl) (fun _ _=>rfl) rfl fun ext=>nameShape_ok
theorem exposed_ok {σ:St} {a:Txt}:callF prog W (d+1) 6 [nmV a] σ=some (.bool false,σ):=by
 refine call_p (fn:=⟨1,1,b_exposed_in⟩) rfl rfl rfl ?_
 refine (?_:Run W _ b_exposed_in [some _] _ _)
 unfold b_exposed_in
 repeat' (first | wtm_at "qa" | wtm_at "qb")
theorem guarded_ok (he:e<190) {a:Txt}:callF prog W (d+3) 18 [.loc 2,nmV a] (SP s b D e ext)=some (.str a,SP s b D e ext):=by
 refine call_p (fn:=⟨2,3,b_in_guarded⟩) rfl rfl rfl ?_
 have h1:=(pr_name (W:=W) (d:=d) (s:=s) (b:=b) (D:=D) he (a:=a)).at ext []
 have h2:=exposed_ok (W:=W) (d:=d+1) (σ:=SP s b D e ext++[]) (a:=a)
 unfold b_in_guarded
 repeat' (first | wtm_at "qa" | ((with_reducible show callF _ _ _ _ _ _=_); first | exact h1 | exact h2) | wtm_at "qb")
theorem tail0_ok {σ:St} {x:Txt}:callF prog W (d+1) 14 [.loc 2,.none,.str x] σ=some (.str [],σ):=by
 refine call_p (fn:=⟨3,3,b_tail_of⟩) rfl rfl rfl ?_
 refine (?_:Run W _ b_tail_of [some _,some _,some _] _ _)
 unfold b_tail_of
 repeat' (first | wtm_at "qa" | wtm_at "qb")
theorem tail1_ok {v:V} {x p:Txt} (hv:v.isNone=false) (h:Pr W d s b D e v x) (hl:x.length+p.length<1000000):callF prog W (d+1) 14 [.loc 2,v,.str p] (SP s b D e ext)=some (.str (p++x),SP s b D e ext):=by
 refine call_p (fn:=⟨3,3,b_tail_of⟩) rfl rfl rfl ?_
 have h1:=h.at ext []
 have hv:∀ σ,cmpop .is v .none σ=some false:=fun _=>congrArg some hv
 unfold b_tail_of
 repeat' (first | wtm_at "qa" | ((with_reducible show callF _ _ _ _ _ _=_); first | exact h1) | exact hv _ | wtm_at "qb")
theorem for_mods {nv o:V} (hf:∀ σ,getAttr nv 3 σ=some (.int 0)):∀ (l:List (Int×Txt)) {y2 y3:Option V} {σ:St} {R:Loc→St→Prop},(∀ y2 y3,R [some nv,some o,y2,y3] σ)→
  For (fun v ρ' σ'=>(seqItems v).bind fun vs=>(setAll [2,3] vs ρ').bind fun ρ''=>evalSs prog W (callF prog W d) [S.ifs (E.tst (E.bin .band (E.attr (E.x 0) 3) (E.x 2))) [S.fail] []] ρ'' σ') (l.map fun p=>V.tup [.int p.1,.str p.2]) [some nv,some o,y2,y3] σ R
 | [],y2,y3,σ,R,h=>for_nil (h y2 y3)
 | p :: l,y2,y3,σ,R,h=>for_consT (vs:=[.int p.1,.str p.2]) (ρ₁:=[some nv,some o,some (.int p.1),some (.str p.2)]) rfl rfl (run_ifF (et_tst (ev_bin (ev_attr (ev_x rfl) (hf _)) (ev_x rfl) (v:=.int 0) rfl) rfl) (run_nil ⟨rfl,for_mods hf l h⟩))
theorem mods_ok {σ:St} {k:Int} {a:Txt} {kids:List V}:callF prog W (d+1) 3 [nd k a kids] σ=some (.str [],σ):=by
 refine call_p (fn:=⟨1,4,b_modifiers_of⟩) rfl rfl rfl ?_
 refine run_asg (b_listT (r:=[]) evs_nil (Nat.le_of_ble_eq_true rfl) rfl rfl) ?_
 refine run_forT ev_c rfl ?_
 refine for_mods (nv:=nd k a kids) (o:=.loc (σ.length+0)) (fun _=>rfl) [(4194304,_),(65536,_),(32768,_),(16384,_),(262144,_),(524288,_),(1048576,_),(131072,_)] fun y2 y3=>?_
 exact run_ret (ev_methB ev_c rfl rfl (evs_cons (ev_x rfl) evs_nil) (o_joinL (r:=[.list []]) (k:=0) (l:=[]) rfl (Nat.le_of_ble_eq_true rfl) (Nat.le_of_ble_eq_true rfl) (Nat.le_of_ble_eq_true rfl))) ⟨rfl,_,rfl⟩
noncomputable def vX (kw x:Txt) (z:List Txt):Txt:=kw++[32]++x++(match z with
 | [z]=>[32,61,32]++z
 | _=>[])
theorem decl0_ok (he:e<190) {x:Txt} {ih:Bool} (hx:x.length<100):callF prog W (d+3) 19 [.loc 2,nd 42 [] [nmV x,.none,.none],.bool ih] (SP s b D e ext)=some (.str x,SP s b D e ext):=by
 refine call_p (fn:=⟨3,5,b_decl_text⟩) rfl rfl rfl ?_
 have h1:=(pr_name (W:=W) (d:=d) (s:=s) (b:=b) (D:=D) he (a:=x)).at ext []
 have h2:=tail0_ok (W:=W) (d:=d+1) (σ:=SP s b D e ext++[]) (x:=[58,32])
 unfold b_decl_text
 repeat' (first | wtm_at "qa" | ((with_reducible show callF _ _ _ _ _ _=_); first | exact h1 | exact h2) | wtm_at "qb")
 exact ⟨by rw [List.append_nil],_,rfl⟩
theorem decl1_ok (he:e<190) {x z:Txt} {ih:Bool} (hx:x.length<100) (hz:z.length<100):callF prog W (d+4) 19 [.loc 2,nd 42 [] [nmV x,.none,nmV z],.bool ih] (SP s b D e ext)=some (.str (x++([32,61,32]++z)),SP s b D e ext):=by
 refine call_p (fn:=⟨3,5,b_decl_text⟩) rfl rfl rfl ?_
 refine (?_:Run W _ b_decl_text [some _,some _,some _,none,none] _ _)
 have h1:=(pr_name (W:=W) (d:=d+1) (s:=s) (b:=b) (D:=D) he (a:=x)).at ext []
 have h1':=(pr_name (W:=W) (d:=d+1) (s:=s) (b:=b) (D:=D) he (a:=z)).at ext []
 have h2:=tail0_ok (W:=W) (d:=d+2) (σ:=SP s b D e ext++[]) (x:=[58,32])
 have h3:callF prog W (d+3) 18 [.loc 2,nmV z] (SP s b D e ext++[])=some (.str z,SP s b D e ext++[]):=by refine SP_app▸?_; exact guarded_ok he
 unfold b_decl_text
 cases ih with
 | true=>
  repeat' (first | wtm_at "qa" | ((with_reducible show callF _ _ _ _ _ _=_); first | exact h1 | exact h2 | exact h3) | wtm_at "qb")
  exact ⟨by rw [List.append_nil,List.append_assoc]; rfl,_,rfl⟩
 | false=>
  repeat' (first | wtm_at "qa" | ((with_reducible show callF _ _ _ _ _ _=_); first | exact h1 | exact h2 | exact h1') | wtm_at "qb")
  exact ⟨by rw [List.append_nil,List.append_assoc]; rfl,_,rfl⟩
theorem var_ok {kw x dx:Txt} {v:V} {ih:Bool} (hk:kw.length<100) (hx:dx.length<1000) (hd:∀ r,callF prog W d 19 [.loc 2,nd 42 [] [nmV x,.none,v],.bool ih] (SP s b D e ext++r)=some (.str dx,SP s b D e ext++r)) (h1:1≤d) :
  callF prog W (d+1) 20 [.loc 2,varV kw x v,.bool ih] (SP s b D e ext)=some (.str (kw++[32]++dx),SP s b D e ext):=by
 refine call_p (fn:=⟨3,5,b_var_text⟩) rfl rfl rfl ?_
 show Run W _ b_var_text [some _,some (varV kw x v),some _,none,none] _ _
 have hm:∀ σ,callF prog W d 3 [varV kw x v] σ=some (.str [],σ):=fun σ=>by
  obtain ⟨d,rfl,_⟩:=need (n:=0) h1
  exact mods_ok
 have hj:bmeth (.str [44,32]) 5 [.loc ((SP s b D e ext).length+0)] (SP s b D e ext++[.list [.str dx]])=some (.str dx,SP s b D e ext++[.list [.str dx]]):=
  o_joinL (σ:=SP s b D e ext) (r:=[.list [.str dx]]) (k:=0) (l:=[dx]) rfl (Nat.le_of_ble_eq_true rfl) (Nat.le_of_ble_eq_true rfl) (by show dx.length+0<1000000; lia)
 unfold b_var_text
 repeat' (first | wtm_at "qa" | ((with_reducible show callF _ _ _ _ _ _=_); first | exact hd _ | exact hm _) | exact hj | wtm_at "qb")
theorem var0_at (he:e<190) {kw x:Txt} {ih:Bool} (hk:kw.length<100) (hx:x.length<100) (ext r:St):callF prog W (d+4) 20 [.loc 2,varV kw x .none,.bool ih] (SP s b D e ext++r)=some (.str (vX kw x []),SP s b D e ext++r):=by
 rw [SP_app]
 have:=var_ok (W:=W) (d:=d+3) (ext:=ext++r) (s:=s) (b:=b) (D:=D) (e:=e) (x:=x) (v:=.none) (ih:=ih) hk (by lia:x.length<1000) (fun r=>by rw [SP_app]; exact decl0_ok he hx) (by lia)
 unfold vX
 rw [List.append_nil]
 exact this
theorem var1_at (he:e<190) {kw x z:Txt} {ih:Bool} (hk:kw.length<100) (hx:x.length<100) (hz:z.length<100) (ext r:St):callF prog W (d+5) 20 [.loc 2,varV kw x (nmV z),.bool ih] (SP s b D e ext++r)=some (.str (vX kw x [z]),SP s b D e ext++r):=by
 rw [SP_app]
 have:=var_ok (W:=W) (d:=d+4) (ext:=ext++r) (s:=s) (b:=b) (D:=D) (e:=e) (x:=x) (v:=nmV z) (ih:=ih) (dx:=x++([32,61,32]++z)) hk (by rw [List.length_append,List.length_append]; show _+(3+_)<_; lia) (fun r=>by rw [SP_app]; exact decl1_ok he hx hz) (by lia)
 unfold vX
 rw [List.append_assoc (kw++[32])]
 exact this
theorem opens_ok {σ:St} (x:Txt) (hx:x=[98]∨x=[100]):callF prog W (d+1) 4 [.str x] σ=some (.bool false,σ):=by
 refine call_p (fn:=⟨1,3,b_opens_badly⟩) rfl rfl rfl ?_
 rcases hx with rfl | rfl
 ·show Run W _ b_opens_badly [some _,none,none] _ _
  unfold b_opens_badly
  repeat' (first | wtm_at "qa" | wtm_at "qb")
 ·show Run W _ b_opens_badly [some _,none,none] _ _
  unfold b_opens_badly
  repeat' (first | wtm_at "qa" | wtm_at "qb")
theorem first_ok' (he:e<190) (ext r:St):callF prog W (d+4) 30 [.loc 2,nmV [120]] (SP s b D e ext++r)=some (.str [120],SP s b D e ext++r):=by
 rw [SP_app]
 refine call_p (fn:=⟨2,3,b_first_text⟩) rfl rfl rfl ?_
 show Run W _ b_first_text [some _,some _,none] _ _
 have h3:callF prog W (d+3) 18 [.loc 2,nmV [120]] (SP s b D e (ext++r)++[])=some (.str [120],SP s b D e (ext++r)++[]):=by rw [SP_app]; exact guarded_ok he
 unfold b_first_text
 repeat' (first | wtm_at "qa" | ((with_reducible show callF _ _ _ _ _ _=_); first | exact h3) | wtm_at "qb")
theorem breaks_ok {σ:St} {v:V}:callF prog W (d+1) 7 [.loc 5,v] σ=some (.bool false,σ):=by
 refine call_p (fn:=⟨2,2,b_Angles_breaks⟩) rfl rfl rfl ?_
 show Run W _ b_Angles_breaks [some _,some _] _ _
 unfold b_Angles_breaks
 repeat' (first | wtm_at "qa" | wtm_at "qb")
end
end
section
section
variable {W d D e:Nat} {s b:Cel} {ext r:St}
theorem pr_at_name (he:e<190) (h:2≤d) (a:Txt) (ext r:St):callF prog W d 9 [.loc 2,nmV a] (SP s b D e ext++r)=some (.str a,SP s b D e ext++r):=by
 refine e1_2 (need h) fun d w1_ h1=>?_; subst w1_
 refine e1_2 (need (n:=0) h1) fun d w2_ h2=>?_; subst w2_
 exact (pr_name he).at ext r
theorem block_ok {a:Txt} {vs:List V} {xs:List Txt} (hD:D<50) (h:Prs W (d+1) s b (D+1) e vs xs) (hn:xs.length<250) (hl:(rowsX (D+1) xs).length<100000) (ext r:St) :
  callF prog W (d+4) 10 [.loc 2,nd 59 a vs] (SP s b D e ext++r)=some (.str (brX D xs),SP s b D e ext++r):=by
 rw [SP_app]
 refine call_p (fn:=⟨2,2,b_Printer_block⟩) rfl rfl rfl ?_
 have hb:callF prog W (d+3) 12 [.loc 2,.list vs,.str []] (SP s b D e (ext++r)++[])=some (.str (brX D xs),SP s b D e (ext++r)++[]):=by rw [SP_app]; exact braced_ok hD h hn hl
 unfold b_Printer_block
 repeat' (first | wtm_at "qa" | ((with_reducible show callF _ _ _ _ _ _=_); first | exact hb) | wtm_at "qb")
theorem pr_block {a:Txt} {vs:List V} {xs:List Txt} (he:e<189) (hD:D<50) (h:Prs W (d+1) s b (D+1) (e+1) vs xs) (hn:xs.length<250) (hl:(rowsX (D+1) xs).length<100000):Pr W (d+6) s b D e (nd 59 a vs) (brX D xs):=by
 refine pr_of (L:=15) (c:=5) (f:=22) (by lia) rfl ⟨_,rfl⟩ (fun _ _=>rfl) (fun _ _=>rfl) rfl fun ext=>?_
 refine call_p (fn:=⟨3,3,b_BlockShape_text⟩) rfl rfl rfl ?_
 have hb:=block_ok (a:=a) (e:=e+1) hD h hn hl ext []
 unfold b_BlockShape_text
 repeat' (first | wtm_at "qa" | ((with_reducible show callF _ _ _ _ _ _=_); first | exact hb) | wtm_at "qb")
noncomputable def rowX:Fin 8→Txt
 | 0=>[98,59]
 | 1=>[59]
 | 2=>[118,97,114,32,120,32,61,32,98,59]
 | 3=>[98,114,101,97,107,59]
 | 4=>[99,111,110,116,105,110,117,101,32,97,59]
 | 5=>[114,101,116,117,114,110,32,98,59]
 | 6=>[116,104,114,111,119,32,99,59]
 | 7=>[100,59]
theorem pr_row (he:e<180) (h:9≤d) (i:Fin 8):Pr W d s b D e (rowN i) (rowX i):=by
 refine e1_2 (need h) fun d w5_ hd=>?_; subst w5_
 have hnm:∀ a ext r,callF prog W (d - 1) 9 [.loc 2,nmV a] (SP s b D (e+1) ext++r)=some (.str a,SP s b D (e+1) ext++r):=fun a ext r=>pr_at_name (by lia) (by lia) a ext r
 refine e1_2 (need hd) fun d w6_ hd2=>?_; subst w6_
 rw [Nat.add_sub_cancel] at hnm
 have expr:∀ x,x=[98]∨x=[100]→Pr W (d+1+1) s b D e (nd 43 [] [nmV x]) (x++[59]):=fun x hx=>by
  refine pr_of (L:=21) (c:=8) (f:=25) (by lia) rfl ⟨_,rfl⟩ (fun _ _=>rfl) (fun _ _=>rfl) rfl fun ext=>?_
  refine call_p (fn:=⟨3,4,b_ExprStShape_text⟩) rfl rfl rfl ?_
  refine (?_:Run W _ b_ExprStShape_text [some _,some _,some _,none] _ _)
  have h1:=hnm x ext []
  have h2:∀ σ,callF prog W d 4 [.str x] σ=some (.bool false,σ):=fun σ=>by
   refine e1_2 (need (n:=6) hd2) fun d w7_ _=>?_; subst w7_
   exact opens_ok x hx
  have hl:x.length=1:=by rcases hx with rfl | rfl <;> rfl
  unfold b_ExprStShape_text
  repeat' (first | wtm_at "qa" | ((with_reducible show callF _ _ _ _ _ _=_); first | exact h1 | exact h2 _) | wtm_at "qb")
 have jump:∀ (a w:Txt) (k:Int),a.length<9→(k=53∧a=[]∧w=[98,114,101,97,107,59]∨k=54∧a=[97]∧w=[99,111,110,116,105,110,117,101,32,97,59])→Pr W (d+1+1) s b D e (nd k a []) w:=fun a w k ha hk=>by
  rcases hk with ⟨rfl,rfl,rfl⟩ | ⟨rfl,rfl,rfl⟩
  ·refine pr_of (L:=9) (c:=17) (f:=35) (by lia) rfl ⟨_,rfl⟩ (fun _ _=>rfl) (fun _ _=>rfl) rfl fun ext=>?_
   refine call_p (fn:=⟨3,4,b_JumpShape_text⟩) rfl rfl rfl ?_
   refine (?_:Run W _ b_JumpShape_text [some _,some _,some _,none] _ _)
   unfold b_JumpShape_text
   repeat' (first | wtm_at "qa" | wtm_at "qb")
  ·refine pr_of (L:=9) (c:=17) (f:=35) (by lia) rfl ⟨_,rfl⟩ (fun _ _=>rfl) (fun _ _=>rfl) rfl fun ext=>?_
   refine call_p (fn:=⟨3,4,b_JumpShape_text⟩) rfl rfl rfl ?_
   refine (?_:Run W _ b_JumpShape_text [some _,some _,some _,none] _ _)
   unfold b_JumpShape_text
   repeat' (first | wtm_at "qa" | wtm_at "qb")
 refine fin8 i ?_ ?_ ?_ ?_ ?_ ?_ ?_ ?_
 ·exact expr _ (.inl rfl)
 ·refine pr_of (L:=17) (c:=6) (f:=23) (by lia) rfl ⟨_,rfl⟩ (fun _ _=>rfl) (fun _ _=>rfl) rfl fun ext=>?_
  refine call_p (fn:=⟨3,3,b_EmptyShape_text⟩) rfl rfl rfl ?_
  refine (?_:Run W _ b_EmptyShape_text [some _,some _,some _] _ _)
  unfold b_EmptyShape_text
  repeat' (first | wtm_at "qa" | wtm_at "qb")
 ·refine pr_of (L:=19) (c:=7) (f:=24) (by lia) rfl ⟨_,rfl⟩ (fun _ _=>rfl) (fun _ _=>rfl) rfl fun ext=>?_
  refine call_p (fn:=⟨3,3,b_VarShape_text⟩) rfl rfl rfl ?_
  have h1:callF prog W d 20 [.loc 2,varV [118,97,114] [120] (nmV [98]),.bool false] (SP s b D (e+1) ext++[])=some (.str [118,97,114,32,120,32,61,32,98],SP s b D (e+1) ext++[]):=by
   obtain ⟨d,rfl⟩:∃ d',d=d'+5:=⟨d - 5,by lia⟩
   exact var1_at (by lia) (by decide) (by decide) (by decide) ext []
  unfold b_VarShape_text
  repeat' (first | wtm_at "qa" | ((with_reducible show callF _ _ _ _ _ _=_); first | exact h1) | wtm_at "qb")
 ·exact jump _ _ _ (by decide) (.inl ⟨rfl,rfl,rfl⟩)
 ·exact jump _ _ _ (by decide) (.inr ⟨rfl,rfl,rfl⟩)
 ·refine pr_of (L:=41) (c:=16) (f:=34) (by lia) rfl ⟨_,rfl⟩ (fun _ _=>rfl) (fun _ _=>rfl) rfl fun ext=>?_
  refine call_p (fn:=⟨3,3,b_ReturnShape_text⟩) rfl rfl rfl ?_
  have h1:callF prog W d 14 [.loc 2,nmV [98],.str [32]] (SP s b D (e+1) ext++[])=some (.str [32,98],SP s b D (e+1) ext++[]):=by
   obtain ⟨d,rfl⟩:∃ d',d=d'+2+1:=⟨d - 3,by lia⟩
   refine SP_app▸?_
   exact tail1_ok rfl (pr_name (by lia)) (by decide)
  unfold b_ReturnShape_text
  repeat' (first | wtm_at "qa" | ((with_reducible show callF _ _ _ _ _ _=_); first | exact h1) | wtm_at "qb")
 ·refine pr_of (L:=39) (c:=19) (f:=37) (by lia) rfl ⟨_,rfl⟩ (fun _ _=>rfl) (fun _ _=>rfl) rfl fun ext=>?_
  refine call_p (fn:=⟨3,3,b_ThrowShape_text⟩) rfl rfl rfl ?_
  have h1:=hnm [99] ext []
  unfold b_ThrowShape_text
  repeat' (first | wtm_at "qa" | ((with_reducible show callF _ _ _ _ _ _=_); first | exact h1) | wtm_at "qb")
 ·exact expr _ (.inr rfl)
end
end
section
structure Kid (W d:Nat) (s b:Cel) (D e:Nat) (v:V) (blk op:Bool) (x0 x1:Txt):Prop where
 kd:∃ k,(∀ σ,getAttr v 0 σ=some (.int k))∧decide (k=59)=blk
 bl:blk=true→∀ ext r,callF prog W d 10 [.loc 2,v] (SP s b D e ext++r)=some (.str x0,SP s b D e ext++r)
 rw_:blk=false→∀ ext r,callF prog W d 13 [.loc 2,.list [v],.str []] (SP s b D e ext++r)=some (.str (rowsX (D+1) [x1]),SP s b D e ext++r)
 op_:∀ σ,callF prog W d 5 [v] σ=some (.bool op,σ)
 l0:blk=true→x0.length<50000
 l1:blk=false→(rowsX (D+1) [x1]).length<50000
noncomputable def subX (D:Nat) (blk cl op:Bool) (x0 x1:Txt):Txt:=cond blk ([32]++x0) (cond (cl && op) ([32,123]++rowsX (D+1) [x1]++nl D++[125]) (rowsX (D+1) [x1]))
noncomputable def aftX (D:Nat) (blk cl op:Bool):Txt:=cond (blk || (cl && op)) [32] (nl D)
section
variable {W d D e:Nat} {s b:Cel} {v:V} {blk op:Bool} {x0 x1:Txt}
theorem cl_op {C:Callee} {ρ:Loc} {σ:St} {cl:Bool} (h2:ρ[2]?=some (some (.bool cl))) (h1:ρ[1]?=some (some v)) (ho:∀ σ,C 5 [v] σ=some (.bool op,σ)):EvT C (E.and [(E.tst (E.x 2)),(E.tst (E.call 5 [(E.x 1)]))]) ρ σ (cl && op) σ:=by
 cases cl with
 | false=>exact et_and (ea_f (et_tst (ev_x h2) rfl))
 | true=>exact et_and (ea_t (et_tst (ev_x h2) rfl) (ea_cons (et_tst (ev_call (evs_cons (ev_x h1) evs_nil) (ho _)) rfl) (by cases op <;> rfl)))
theorem sub_ok (hd:2≤d) (hD:D<50) (k:Kid W d s b D e v blk op x0 x1) (cl:Bool) (ext r:St):callF prog W (d+1) 16 [.loc 2,v,.bool cl] (SP s b D e ext++r)=some (.str (subX D blk cl op x0 x1),SP s b D e ext++r):=by
 rw [SP_app]
 refine call_p (fn:=⟨3,3,b_sub_text⟩) rfl rfl rfl ?_
 refine (?_:Run W _ b_sub_text [some (.loc 2),some v,some (.bool cl)] _ _)
 refine e1_2 k.kd fun kk hk hb=>?_
 have hq:∀ σ,cmpop .eq (.int kk) (.int 59) σ=some blk:=fun _=>congrArg some hb
 have hnl:=nl_len D
 have hrs:callF prog W d 11 [.loc 2] (SP s b D e (ext++r)++[])=some (.str (nl D),SP s b D e (ext++r)++[]):=by
  refine e1_2 (need (n:=1) hd) fun d w1_ _=>?_; subst w1_
  exact rs_at (by lia) _ _
 have hbr:∀ σ,callF prog W d 7 [.loc 5,v] σ=some (.bool false,σ):=fun σ=>by
  refine e1_2 (need (n:=1) hd) fun d w2_ _=>?_; subst w2_
  exact breaks_ok
 have tst:=fun σ=>cl_op (C:=callF prog W d) (ρ:=[some (.loc 2),some v,some (.bool cl)]) (σ:=σ) (cl:=cl) rfl rfl k.op_
 unfold b_sub_text
 cases blk with
 | true=>
  have h1:=k.bl rfl (ext++r) []
  have l0:=k.l0 rfl
  repeat' (first | wtm_at "qa" | ((with_reducible show callF _ _ _ _ _ _=_); first | exact h1) | exact hk _ | exact hq _ | wtm_at "qb")
 | false=>
  have h1:=k.rw_ rfl (ext++r) []
  have l1:=k.l1 rfl
  refine run_ifF (et_cmp (ev_attr (ev_x rfl) (hk _)) ev_c (hq _)) ?_
  refine run_ifs (tst _) ?_
  unfold subX
  cases cl && op with
  | true=>
   dsimp only [cond,List.cons_append,List.nil_append]
   repeat' (first | wtm_at "qa" | ((with_reducible show callF _ _ _ _ _ _=_); first | exact h1 | exact hrs) | wtm_at "qb")
  | false=>
   dsimp only [cond,List.cons_append,List.nil_append]
   refine run_ifF (et_tst (ev_meth (ev_attr (ev_x rfl) rfl) rfl rfl (evs_cons (ev_x rfl) evs_nil) (hbr _)) rfl) ?_
   dsimp only [List.nil_append]
   repeat' (first | wtm_at "qa" | ((with_reducible show callF _ _ _ _ _ _=_); first | exact h1) | wtm_at "qb")
theorem aft_ok (hd:2≤d) (hD:D<50) (k:Kid W d s b D e v blk op x0 x1) (cl:Bool) (ext r:St):callF prog W (d+1) 17 [.loc 2,v,.bool cl] (SP s b D e ext++r)=some (.str (aftX D blk cl op),SP s b D e ext++r):=by
 rw [SP_app]
 refine call_p (fn:=⟨3,3,b_after_sub⟩) rfl rfl rfl ?_
 refine (?_:Run W _ b_after_sub [some (.loc 2),some v,some (.bool cl)] _ _)
 refine e1_2 k.kd fun kk hk hb=>?_
 have hq:∀ σ,cmpop .eq (.int kk) (.int 59) σ=some blk:=fun _=>congrArg some hb
 have hrs:callF prog W d 11 [.loc 2] (SP s b D e (ext++r)++[])=some (.str (nl D),SP s b D e (ext++r)++[]):=by
  refine e1_2 (need (n:=1) hd) fun d w4_ _=>?_; subst w4_
  exact rs_at (by lia) _ _
 have tst:EvT (callF prog W d) (E.or [(E.cmp .eq (E.attr (E.x 1) 0) (E.c (V.int 59))),(E.and [(E.tst (E.x 2)),(E.tst (E.call 5 [(E.x 1)]))])]) [some (.loc 2),some v,some (.bool cl)] (SP s b D e (ext++r)++[]) (blk || (cl && op)) (SP s b D e (ext++r)++[]):=by
  refine et_or (eo_cons (et_cmp (ev_attr (ev_x rfl) (hk _)) ev_c (hq _)) ?_)
  cases blk with
  | true=>rfl
  | false=>exact eo_cons (cl_op rfl rfl k.op_) (by cases cl && op <;> rfl)
 unfold b_after_sub
 refine run_ifs tst ?_
 unfold aftX
 cases blk || (cl && op) with
 | true=>exact run_ret ev_c ⟨rfl,_,rfl⟩
 | false=>exact run_ret (ev_call (evs_cons (ev_x rfl) evs_nil) hrs) ⟨rfl,_,rfl⟩
noncomputable def optX (l:List Txt):Txt:=match l with
 | [x]=>[32]++x
 | _=>[]
noncomputable def frX:Fin 4→Txt
 | 0=>[]
 | 1=>[120]
 | 2=>[108,101,116,32,120,32,61,32,98]
 | 3=>[118,97,114,32,120]
noncomputable def H.x:H→Txt
 | .wh a=>[119,104,105,108,101,32,40]++lt a++[41]
 | .fr f p c=>[102,111,114,32,40]++frX f++([59]++optX (frP p)++[59]++optX (frC c)++[41])
 | .ea k o a=>[102,111,114,32,40]++vX (kwT k) [120] []++cond o [32,111,102,32] [32,105,110,32]++lt a++[41]
theorem tail_opt (he:e<180) (hd:3≤d) {l:List Txt} (hl:∀ x ∈ l,x.length<9) (ext r:St):callF prog W d 14 [.loc 2,oneN l,.str [32]] (SP s b D e ext++r)=some (.str (optX l),SP s b D e ext++r):=by
 refine SP_app▸?_
 rcases l with _ | ⟨x,_ | ⟨y,l⟩⟩
 ·refine e1_2 (need (n:=2) hd) fun d w6_ _=>?_; subst w6_
  exact tail0_ok
 ·obtain ⟨d,rfl⟩:∃ d',d=d'+2+1:=⟨d - 3,by lia⟩
  have:=hl x List.mem_cons_self
  exact tail1_ok rfl (pr_name (by lia)) (by refine (?_:x.length+1<_); lia)
 ·refine e1_2 (need (n:=2) hd) fun d w7_ _=>?_; subst w7_
  exact tail0_ok
theorem frP_lens (p:Option Lt):∀ x ∈ frP p,x.length<9:=by
 cases p with
 | none=>intro x h; cases h
 | some a=>intro x h; refine (List.mem_singleton.mp h)▸?_; exact Nat.le_of_ble_eq_true rfl
theorem frC_lens:∀ (c:Bool),∀ x ∈ frC c,x.length<9:=by decide
theorem optX_len {l:List Txt} (hl:∀ x ∈ l,x.length<9):(optX l).length<10:=by
 rcases l with _ | ⟨x,_ | ⟨y,l⟩⟩
 ·exact Nat.le_of_ble_eq_true rfl
 ·have:=hl x List.mem_cons_self
  refine (?_:x.length+1<10)
  lia
 ·exact Nat.le_of_ble_eq_true rfl
theorem pr_loop (he:e<170) (hd:8≤d) (hD:D<50) (k:Kid W d s b D (e+1) v blk op x0 x1) (h:H) (hl:(subX D blk false op x0 x1).length<60000):Pr W (d+3) s b D e (h.n v) (h.x++subX D blk false op x0 x1):=by
 have hsub:∀ ext r,callF prog W (d+1) 16 [.loc 2,v,.bool false] (SP s b D (e+1) ext++r)=some (.str (subX D blk false op x0 x1),SP s b D (e+1) ext++r):=sub_ok (by lia) hD k false
 have hd:9≤d+1:=Nat.succ_le_succ hd
 show Pr W (d+1+2) s b D e (h.n v) _
 generalize d+1=d at hsub hd ⊢
 have hnm:∀ a ext r,callF prog W d 9 [.loc 2,nmV a] (SP s b D (e+1) ext++r)=some (.str a,SP s b D (e+1) ext++r):=fun a ext r=>pr_at_name (by lia) (by lia) a ext r
 cases h with
 | wh a=>
  refine pr_of (L:=25) (c:=10) (f:=27) (by lia) rfl ⟨_,rfl⟩ (fun _ _=>rfl) (fun _ _=>rfl) rfl fun ext=>?_
  refine call_p (fn:=⟨3,3,b_WhileShape_text⟩) rfl rfl rfl ?_
  show Run W _ b_WhileShape_text [some _,some _,some (nd 45 [] [nmV (lt a),v])] _ _
  have h1:=hnm (lt a) ext []
  have h2:=hsub ext []
  have ha:(lt a).length=1:=rfl
  unfold b_WhileShape_text
  repeat' (first | wtm_at "qa" | ((with_reducible show callF _ _ _ _ _ _=_); first | exact h1 | exact h2) | wtm_at "qb")
 | fr f p c=>
  refine pr_of (L:=29) (c:=12) (f:=29) (by lia) rfl ⟨_,rfl⟩ (fun _ _=>rfl) (fun _ _=>rfl) rfl fun ext=>?_
  refine call_p (fn:=⟨3,8,b_ForShape_text⟩) rfl rfl rfl ?_
  have h2:=hsub ext []
  have h3:=tail_opt (W:=W) (d:=d) (s:=s) (b:=b) (D:=D) (e:=e+1) (by lia) (by lia) (frP_lens p) ext []
  have h4:=tail_opt (W:=W) (d:=d) (s:=s) (b:=b) (D:=D) (e:=e+1) (by lia) (by lia) (frC_lens c) ext []
  have l3:=optX_len (frP_lens p)
  have l4:=optX_len (frC_lens c)
  refine fin4 f ?_ ?_ ?_ ?_
  ·show Run W _ b_ForShape_text [some _,some _,some (nd 47 [] [.none,oneN (frP p),oneN (frC c),v]),none,none,none,none,none] _ _
   unfold b_ForShape_text
   repeat' (first | wtm_at "qa" | ((with_reducible show callF _ _ _ _ _ _=_); first | exact h2 | exact h3 | exact h4) | wtm_at "qb")
  ·show Run W _ b_ForShape_text [some _,some _,some (nd 47 [] [nd 43 [] [nmV [120]],oneN (frP p),oneN (frC c),v]),none,none,none,none,none] _ _
   have h1:=first_ok' (W:=W) (d:=d - 4) (s:=s) (b:=b) (D:=D) (e:=e+1) (by lia) ext []
   rw [show d - 4+4=d by lia] at h1
   unfold b_ForShape_text
   repeat' (first | wtm_at "qa" | ((with_reducible show callF _ _ _ _ _ _=_); first | exact h1 | exact h2 | exact h3 | exact h4) | wtm_at "qb")
  ·show Run W _ b_ForShape_text [some _,some _,some (nd 47 [] [varV [108,101,116] [120] (nmV [98]),oneN (frP p),oneN (frC c),v]),none,none,none,none,none] _ _
   have h1:callF prog W (d - 5+5) 20 [.loc 2,varV [108,101,116] [120] (nmV [98]),.bool true] (SP s b D (e+1) ext++[])=some (.str [108,101,116,32,120,32,61,32,98],SP s b D (e+1) ext++[]):=var1_at (by lia) (by decide) (by decide) (by decide) ext []
   rw [show d - 5+5=d by lia] at h1
   unfold b_ForShape_text
   repeat' (first | wtm_at "qa" | ((with_reducible show callF _ _ _ _ _ _=_); first | exact h1 | exact h2 | exact h3 | exact h4) | wtm_at "qb")
  ·show Run W _ b_ForShape_text [some _,some _,some (nd 47 [] [varV [118,97,114] [120] .none,oneN (frP p),oneN (frC c),v]),none,none,none,none,none] _ _
   have h1:callF prog W (d - 4+4) 20 [.loc 2,varV [118,97,114] [120] .none,.bool true] (SP s b D (e+1) ext++[])=some (.str [118,97,114,32,120],SP s b D (e+1) ext++[]):=var0_at (by lia) (by decide) (by decide) ext []
   rw [show d - 4+4=d by lia] at h1
   unfold b_ForShape_text
   repeat' (first | wtm_at "qa" | ((with_reducible show callF _ _ _ _ _ _=_); first | exact h1 | exact h2 | exact h3 | exact h4) | wtm_at "qb")
 | ea kk o a=>
  have hk:(kwT kk).length<9:=by revert kk; decide
  have h1:∀ ext,callF prog W d 20 [.loc 2,varV (kwT kk) [120] .none,.bool true] (SP s b D (e+1) ext++[])=some (.str (vX (kwT kk) [120] []),SP s b D (e+1) ext++[]):=fun ext=>by
   have q:=var0_at (W:=W) (d:=d - 4) (s:=s) (b:=b) (D:=D) (e:=e+1) (kw:=kwT kk) (x:=[120]) (ih:=true) (by lia) (by lia) (by decide) ext []
   rw [show d - 4+4=d by lia] at q
   exact q
  have hv:(vX (kwT kk) [120] []).length<20:=by
   unfold vX
   simp only [List.length_append,List.length_cons,List.length_nil]; lia
  cases o with
  | true=>
   refine pr_of (L:=7) (c:=13) (f:=31) (by lia) rfl ⟨_,rfl⟩ (fun _ _=>rfl) (fun _ _=>rfl) rfl fun ext=>?_
   refine call_p (fn:=⟨3,5,b_ForEachShape_text⟩) rfl rfl rfl ?_
   show Run W _ b_ForEachShape_text [some _,some _,some (nd 48 [] [varV (kwT kk) [120] .none,nmV (lt a),v]),none,none] _ _
   have h1:=h1 ext
   have h2:=hsub ext []
   have h3:=hnm (lt a) ext []
   have ha:(lt a).length=1:=rfl
   unfold b_ForEachShape_text
   repeat' (first | wtm_at "qa" | ((with_reducible show callF _ _ _ _ _ _=_); first | exact h1 | exact h2 | exact h3) | wtm_at "qb")
  | false=>
   refine pr_of (L:=7) (c:=13) (f:=31) (by lia) rfl ⟨_,rfl⟩ (fun _ _=>rfl) (fun _ _=>rfl) rfl fun ext=>?_
   refine call_p (fn:=⟨3,5,b_ForEachShape_text⟩) rfl rfl rfl ?_
   show Run W _ b_ForEachShape_text [some _,some _,some (nd 49 [] [varV (kwT kk) [120] .none,nmV (lt a),v]),none,none] _ _
   have h1:=h1 ext
   have h2:=hsub ext []
   have h3:=hnm (lt a) ext []
   have ha:(lt a).length=1:=rfl
   unfold b_ForEachShape_text
   repeat' (first | wtm_at "qa" | ((with_reducible show callF _ _ _ _ _ _=_); first | exact h1 | exact h2 | exact h3) | wtm_at "qb")
end
end
section
noncomputable def T.isB:T→Bool
 | .b0 .block=>true
 | .b1 .block _=>true
 | .b2 .block _ _=>true
 | _=>false
noncomputable def T.isIf:T→Bool
 | .u (.ifs _) _=>true
 | .ie _ _ _=>true
 | _=>false
noncomputable def BS.x (s:BS) (D:Nat) (f:Nat→List Txt):Txt:=match s with
 | .block=>brX D (f (D+1))
 | .tr=>[116,114,121,32,123,125,32,102,105,110,97,108,108,121,32]++brX D (f (D+1))
 | .sw a=>[115,119,105,116,99,104,32,40]++lt a++[41,32]++brX D [[100,101,102,97,117,108,116,58]++rowsX (D+2) (f (D+2))]
noncomputable def US.x (s:US) (D:Nat) (blk op:Bool) (x0 x1:Txt):Txt:=match s with
 | .ifs a=>[105,102,32,40]++lt a++[41]++subX D blk false op x0 x1
 | .loop h=>h.x++subX D blk false op x0 x1
 | .lab a=>lt a++[58,32]++x0
 | .dow a=>[100,111]++subX D blk false op x0 x1++aftX D blk false op++[119,104,105,108,101,32,40]++lt a++[41,59]
noncomputable def T.x:T→Nat→Txt
 | .row i,_=>rowX i
 | .b0 s,D=>s.x D fun _=>[]
 | .b1 s k,D=>s.x D fun D'=>[k.x D']
 | .b2 s k l,D=>s.x D fun D'=>[k.x D',l.x D']
 | .u s k,D=>s.x D k.isB k.opn (k.x D) (k.x (D+1))
 | .ie a k l,D=>[105,102,32,40]++lt a++[41]++(subX D k.isB true k.opn (k.x D) (k.x (D+1))++aftX D k.isB true k.opn++[101,108,115,101])++cond l.isIf ([32]++l.x D) (subX D l.isB false l.opn (l.x D) (l.x (D+1)))
theorem rowsX_len (D:Nat):∀ xs:List Txt,(rowsX D xs).length=(2 * D+1) * xs.length+total xs
 | []=>rfl
 | x :: xs=>by
  refine (?_:((nl D++x)++rowsX D xs).length=(2 * D+1) * (xs.length+1)+(x.length+total xs))
  rw [List.length_append,List.length_append,rowsX_len D xs,nl_len,Nat.mul_add,Nat.mul_one]; lia
theorem rowsX_len1 (D:Nat) (x:Txt):(rowsX D [x]).length=2 * D+1+x.length:=by rw [rowsX_len]; refine (?_:(2 * D+1) * 1+(x.length+0)=_); lia
theorem rowsX_len2 (D:Nat) (x y:Txt):(rowsX D [x,y]).length=4 * D+2+x.length+y.length:=by rw [rowsX_len]; refine (?_:(2 * D+1) * 2+(x.length+(y.length+0))=_); lia
theorem brX_len (D:Nat) (xs:List Txt):(brX D xs).length≤(rowsX (D+1) xs).length+2 * D+3:=by
 unfold brX
 split
 ·refine (?_:2≤_); lia
 ·rw [List.length_append,List.length_append,List.length_append,nl_len,show ([123]:Txt).length=1 from rfl,show ([125]:Txt).length=1 from rfl]; lia
theorem subX_len (D:Nat) (blk cl op:Bool) {x0 x1:Txt} {n:Nat} (h0:x0.length≤n) (h1:x1.length≤n):(subX D blk cl op x0 x1).length≤n+4 * D+7:=by
 unfold subX
 cases blk with
 | true=>refine (?_:(_++x0).length≤_); refine List.length_append▸List.length_cons▸List.length_nil▸?_; lia
 | false=>
  cases cl && op with
  | true=>refine (?_:(_++rowsX (D+1) [x1]++nl D++_).length≤_); rw [List.length_append,List.length_append,List.length_append,nl_len,rowsX_len1,List.length_cons,List.length_cons,List.length_nil,List.length_cons,List.length_nil]; lia
  | false=>refine (?_:(rowsX (D+1) [x1]).length≤_); rw [rowsX_len1]; lia
theorem aftX_len (D:Nat) (blk cl op:Bool):(aftX D blk cl op).length≤2 * D+1:=by
 unfold aftX
 cases blk || (cl && op) with
 | true=>refine (?_:1≤_); lia
 | false=>refine (?_:(nl D).length≤_); rw [nl_len]; exact Nat.le_refl _
theorem Hx_len:∀ h:H,h.x.length<50:=fun h=>of_decide_eq_true (H.check (p:=fun h=>decide (h.x.length<50)) (by decide +kernel) h)
theorem BSx_len (s:BS) {D n m:Nat} {f:Nat→List Txt} (hD:D≤40) (h1:(rowsX (D+1) (f (D+1))).length≤n) (h2:(rowsX (D+2) (f (D+2))).length≤n):(s.x D f).length≤n+220:=by
 cases s with
 | block=>have:=brX_len D (f (D+1)); refine (?_:(brX D _).length≤_); lia
 | tr=>have:=brX_len D (f (D+1)); refine (?_:(_++brX D _).length≤_); refine List.length_append▸(show ([116,114,121,32,123,125,32,102,105,110,97,108,108,121,32]:Txt).length=15 from rfl)▸?_; lia
 | sw a=>
  have:=brX_len D [[100,101,102,97,117,108,116,58]++rowsX (D+2) (f (D+2))]
  rw [rowsX_len1,List.length_append,show ([100,101,102,97,117,108,116,58]:Txt).length=8 from rfl] at this
  refine (?_:(_++lt a++_++brX D _).length≤_)
  rw [List.length_append,List.length_append,List.length_append,show ([115,119,105,116,99,104,32,40]:Txt).length=8 from rfl,show ([41,32]:Txt).length=2 from rfl,show (lt a).length=1 from rfl]
  lia
theorem rowX_len (i:Fin 8):(rowX i).length<20:=by revert i; decide
theorem x_len:∀ (t:T) {D:Nat},D+2 * t.dp≤40→(t.x D).length≤600 * t.sz
 | .row i,D,h=>by have:=rowX_len i; refine (?_:(rowX i).length≤600 * 1); lia
 | .b0 s,D,h=>by
  have h:D+2 * 1≤40:=h
  have:=BSx_len s (D:=D) (n:=0) (m:=0) (f:=fun _=>[]) (by lia) (Nat.le_refl _) (Nat.le_refl _)
  refine (?_:(s.x D _).length≤600 * 1)
  lia
 | .b1 s k,D,h=>by
  have h:D+2 * (k.dp+1)≤40:=h
  have k1:=x_len k (D:=D+1) (by lia)
  have k2:=x_len k (D:=D+2) (by lia)
  have:=BSx_len s (D:=D) (n:=600 * k.sz+100) (m:=0) (f:=fun D'=>[k.x D']) (by lia) (by rw [rowsX_len1]; lia) (by rw [rowsX_len1]; lia)
  refine (?_:(s.x D _).length≤600 * (k.sz+1))
  lia
 | .b2 s k l,D,h=>by
  have h:D+2 * (max k.dp l.dp+1)≤40:=h
  have k1:=x_len k (D:=D+1) (by lia)
  have k2:=x_len k (D:=D+2) (by lia)
  have l1:=x_len l (D:=D+1) (by lia)
  have l2:=x_len l (D:=D+2) (by lia)
  have:=BSx_len s (D:=D) (n:=600 * k.sz+600 * l.sz+200) (m:=0) (f:=fun D'=>[k.x D',l.x D']) (by lia) (by rw [rowsX_len2]; lia) (by rw [rowsX_len2]; lia)
  refine (?_:(s.x D _).length≤600 * (k.sz+l.sz+1))
  lia
 | .u s k,D,h=>by
  have h:D+2 * (k.dp+1)≤40:=h
  have k0:=x_len k (D:=D) (by lia)
  have k1:=x_len k (D:=D+1) (by lia)
  have sl:=subX_len D k.isB false k.opn k0 k1
  have al:=aftX_len D k.isB false k.opn
  refine (?_:(s.x D k.isB k.opn (k.x D) (k.x (D+1))).length≤600 * (k.sz+1))
  cases s with
  | ifs a=>
   refine (?_:([105,102,32,40]++lt a++[41]++subX D k.isB false k.opn (k.x D) (k.x (D+1))).length≤_)
   rw [List.length_append,show ([105,102,32,40]++lt a++[41]:Txt).length=6 from rfl]; lia
  | loop hh=>
   have:=Hx_len hh
   refine (?_:(hh.x++subX D k.isB false k.opn (k.x D) (k.x (D+1))).length≤_)
   refine List.length_append▸?_; lia
  | lab a=>
   refine (?_:(lt a++[58,32]++k.x D).length≤_)
   rw [List.length_append,show (lt a++[58,32]:Txt).length=3 from rfl]; lia
  | dow a=>
   refine (?_:([100,111]++subX D k.isB false k.opn (k.x D) (k.x (D+1))++aftX D k.isB false k.opn++[119,104,105,108,101,32,40]++lt a++[41,59]).length≤_)
   rw [List.length_append,List.length_append,List.length_append,List.length_append,List.length_append,show ([100,111]:Txt).length=2 from rfl,show ([119,104,105,108,101,32,40]:Txt).length=7 from rfl,show (lt a).length=1 from rfl,show ([41,59]:Txt).length=2 from rfl]; lia
 | .ie a k l,D,h=>by
  have h:D+2 * (max k.dp l.dp+1)≤40:=h
  have k0:=x_len k (D:=D) (by lia)
  have k1:=x_len k (D:=D+1) (by lia)
  have l0:=x_len l (D:=D) (by lia)
  have l1:=x_len l (D:=D+1) (by lia)
  have sl:=subX_len D k.isB true k.opn k0 k1
  have al:=aftX_len D k.isB true k.opn
  have sl':=subX_len D l.isB false l.opn l0 l1
  have e:(cond l.isIf ([32]++l.x D) (subX D l.isB false l.opn (l.x D) (l.x (D+1)))).length≤600 * l.sz+4 * D+7:=by
   cases l.isIf with
   | true=>refine (?_:(_++l.x D).length≤_); refine List.length_append▸List.length_cons▸List.length_nil▸?_; lia
   | false=>exact sl'
  refine (?_:([105,102,32,40]++lt a++[41]++(subX D k.isB true k.opn (k.x D) (k.x (D+1))++aftX D k.isB true k.opn++[101,108,115,101])++cond l.isIf ([32]++l.x D) (subX D l.isB false l.opn (l.x D) (l.x (D+1)))).length≤600 * (k.sz+l.sz+1))
  have e2:(subX D k.isB true k.opn (k.x D) (k.x (D+1))++aftX D k.isB true k.opn++[101,108,115,101]).length=(subX D k.isB true k.opn (k.x D) (k.x (D+1))).length+(aftX D k.isB true k.opn).length+4:=by rw [List.length_append,List.length_append]; rfl
  rw [List.length_append,List.length_append,e2,show ([105,102,32,40]++lt a++[41]:Txt).length=6 from rfl]; lia
theorem n_kd (t:T):∃ k,(∀ σ,getAttr t.n 0 σ=some (.int k))∧decide (k=59)=t.isB:=by
 have go:∀ (k:Int) (a:Txt) (ks:List V) (b:Bool),decide (k=59)=b→∃ k',(∀ σ,getAttr (nd k a ks) 0 σ=some (.int k'))∧decide (k'=59)=b:=fun k a ks b h=>⟨k,fun _=>rfl,h⟩
 cases t with
 | row i=>
  refine fin8 i ?_ ?_ ?_ ?_ ?_ ?_ ?_ ?_
  ·exact go _ _ _ _ rfl
  ·exact go _ _ _ _ rfl
  ·exact go _ _ _ _ rfl
  ·exact go _ _ _ _ rfl
  ·exact go _ _ _ _ rfl
  ·exact go _ _ _ _ rfl
  ·exact go _ _ _ _ rfl
  ·exact go _ _ _ _ rfl
 | b0 s=>cases s <;> exact go _ _ _ _ rfl
 | b1 s k=>cases s <;> exact go _ _ _ _ rfl
 | b2 s k l=>cases s <;> exact go _ _ _ _ rfl
 | u s k=>
  cases s with
  | loop h=>
   cases h with
   | ea x o a=>cases o <;> exact go _ _ _ _ rfl
   | _=>exact go _ _ _ _ rfl
  | _=>exact go _ _ _ _ rfl
 | ie a k l=>exact go _ _ _ _ rfl
theorem n_if (t:T):∃ k,(∀ σ,getAttr t.n 0 σ=some (.int k))∧decide (k=44)=t.isIf:=by
 have go:∀ (k:Int) (a:Txt) (ks:List V) (b:Bool),decide (k=44)=b→∃ k',(∀ σ,getAttr (nd k a ks) 0 σ=some (.int k'))∧decide (k'=44)=b:=fun k a ks b h=>⟨k,fun _=>rfl,h⟩
 cases t with
 | row i=>
  refine fin8 i ?_ ?_ ?_ ?_ ?_ ?_ ?_ ?_
  ·exact go _ _ _ _ rfl
  ·exact go _ _ _ _ rfl
  ·exact go _ _ _ _ rfl
  ·exact go _ _ _ _ rfl
  ·exact go _ _ _ _ rfl
  ·exact go _ _ _ _ rfl
  ·exact go _ _ _ _ rfl
  ·exact go _ _ _ _ rfl
 | b0 s=>cases s <;> exact go _ _ _ _ rfl
 | b1 s k=>cases s <;> exact go _ _ _ _ rfl
 | b2 s k l=>cases s <;> exact go _ _ _ _ rfl
 | u s k=>
  cases s with
  | loop h=>
   cases h with
   | ea x o a=>cases o <;> exact go _ _ _ _ rfl
   | _=>exact go _ _ _ _ rfl
  | _=>exact go _ _ _ _ rfl
 | ie a k l=>exact go _ _ _ _ rfl
section
variable {W d D e:Nat} {s b:Cel}
noncomputable def PT (W:Nat) (t:T):Prop:=∀ (d D e:Nat) (s b:Cel),8 * t.dp+4≤d→D+2 * t.dp≤40→e+2 * t.dp≤150→t.sz<60→t.dp≤W→Pr W d s b D e t.n (t.x D)
noncomputable def T.kids:T→List T
 | .row _=>[]
 | .b0 _=>[]
 | .b1 _ k=>[k]
 | .b2 _ k l=>[k,l]
 | .u _ k=>[k]
 | .ie _ k l=>[k,l]
theorem slice_tl {x:V} {ks:List V} (h:ks.length<999):slice (.list (x :: ks)) (some (.int 1)) none=some (.list ks):=by
 refine (?_:(if 1000000≤(x :: ks).length then none else (bound _ 0 (some (.int 1))).bind fun a=>(bound _ _ none).map fun b=>V.list (((x :: ks).take b).drop a))=_)
 rw [List.length_cons,if_neg (by lia)]
 have b1:bound (ks.length+1) 0 (some (.int 1))=some 1:=by
  show some (if _ then _ else _)=_
  rw [if_pos (by decide)]
  congr 1
 refine b1▸?_
 refine (?_:some (V.list (((x :: ks).take (ks.length+1)).drop 1))=_)
 rw [List.take_of_length_le (by simp)]; rfl
theorem pr_B (st:BS) {vs:List V} {f:Nat→List Txt} (hd:10≤d) (hD:D<40) (he:e<150) (hn:(f (D+1)).length<5∧(f (D+2)).length<5) (hl:(rowsX (D+1) (f (D+1))).length<50000∧(rowsX (D+2) (f (D+2))).length<50000) (hv:vs.length<5)
  (h1:∀ d',d - 6≤d'→Prs W d' s b (D+1) (e+1) vs (f (D+1))∧Prs W d' s b (D+1) (e+2) vs (f (D+1))∧Prs W d' s b (D+2) (e+2) vs (f (D+2))):Pr W (d+2) s b D e (st.n vs) (st.x D f):=by
 cases st with
 | block=>
  have:=pr_block (W:=W) (d:=d - 4) (a:=[]) (s:=s) (b:=b) (by lia) (by lia) (h1 (d - 4+1) (by lia)).1 (by lia) (by lia)
  have this:=(show d - 4+6=d+2 by lia)▸this
  exact this
 | tr=>
  refine pr_of (L:=35) (c:=20) (f:=38) (by lia) rfl ⟨_,rfl⟩ (fun _ _=>rfl) (fun _ _=>rfl) rfl fun ext=>?_
  refine call_p (fn:=⟨3,4,b_TryShape_text⟩) rfl rfl rfl ?_
  have g1:callF prog W d 10 [.loc 2,nd 59 [] []] (SP s b D (e+1) ext++[])=some (.str [123,125],SP s b D (e+1) ext++[]):=by
   have:=block_ok (W:=W) (d:=d - 4) (a:=[]) (s:=s) (b:=b) (D:=D) (e:=e+1) (vs:=[]) (xs:=[]) (by lia) .nil (Nat.le_of_ble_eq_true rfl) (Nat.le_of_ble_eq_true rfl) ext []
   have this:=(show d - 4+4=d by lia)▸this
   exact this
  have g2:callF prog W d 14 [.loc 2,.none,.str [32]] (SP s b D (e+1) ext++[])=some (.str [],SP s b D (e+1) ext++[]):=by
   refine e1_2 (need (n:=9) hd) fun d w5_ _=>?_; subst w5_
   exact tail0_ok
  have bl:=brX_len D (f (D+1))
  have g3:callF prog W d 14 [.loc 2,nd 59 [] vs,.str [32,102,105,110,97,108,108,121,32]] (SP s b D (e+1) ext++[])=some (.str ([32,102,105,110,97,108,108,121,32]++brX D (f (D+1))),SP s b D (e+1) ext++[]):=by
   rw [SP_app]
   have p:=pr_block (W:=W) (d:=d - 7) (a:=[]) (s:=s) (b:=b) (D:=D) (e:=e+1) (by lia) (by lia) (h1 (d - 7+1) (by lia)).2.1 (by lia) (by lia)
   have:=tail1_ok (p:=[32,102,105,110,97,108,108,121,32]) (ext:=ext++[]) rfl p (by refine (?_:_+9<_); lia)
   rw [show d - 7+6+1=d by lia] at this
   exact this
  unfold b_TryShape_text
  repeat' (first | wtm_at "qa" | ((with_reducible show callF _ _ _ _ _ _=_); first | exact g1 | exact g2 | exact g3) | wtm_at "qb")
 | sw a=>
  refine pr_of (L:=31) (c:=14) (f:=32) (by lia) rfl ⟨_,rfl⟩ (fun _ _=>rfl) (fun _ _=>rfl) rfl fun ext=>?_
  refine call_p (fn:=⟨3,4,b_SwitchShape_text⟩) rfl rfl rfl ?_
  have g1:=pr_at_name (W:=W) (d:=d) (s:=s) (b:=b) (D:=D) (e:=e+1) (by lia) (by lia) (lt a) ext []
  have cas:Pr W (d - 4+2) s b (D+1) (e+1) (nd 51 [] (.none :: vs)) ([100,101,102,97,117,108,116,58]++rowsX (D+2) (f (D+2))):=by
   refine pr_of (L:=33) (c:=15) (f:=33) (by lia) rfl ⟨_,rfl⟩ (fun _ _=>rfl) (fun _ _=>rfl) rfl fun ext=>?_
   refine call_p (fn:=⟨3,5,b_CaseShape_text⟩) rfl rfl rfl ?_
   have hr:callF prog W (d - 4) 13 [.loc 2,.list vs,.str []] (SP s b (D+1) (e+1+1) ext++[])=some (.str (rowsX (D+1+1) (f (D+2))),SP s b (D+1) (e+1+1) ext++[]):=by
    rw [SP_app]
    have:=rows_ok (W:=W) (d:=d - 6) (ext:=ext++[]) (D:=D+1) (by lia) (h1 (d - 6+1) (by lia)).2.2 (by lia) (by have:=hl.2; refine (?_:(rowsX (D+2) _).length<_); lia)
    have this:=(show d - 6+2=d - 4 by lia)▸this
    exact this
   generalize d - 4=dd at hr
   have hz:=slice_tl (x:=.none) (ks:=vs) (by lia)
   have hi:∀ σ,index (.list (.none :: vs)) (.int 0) σ=some .none:=fun _=>ati_nat (j:=0) (by refine List.length_cons▸?_; lia) rfl
   have hl2:(rowsX (D+1+1) (f (D+2))).length<50000:=hl.2
   unfold b_CaseShape_text
   repeat' (first | wtm_at "qa" | ((with_reducible show callF _ _ _ _ _ _=_); first | exact hr) | exact hz | exact hi _ | wtm_at "qb")
  have cl:(rowsX (D+1) [[100,101,102,97,117,108,116,58]++rowsX (D+2) (f (D+2))]).length<60000:=by
   have:=hl.2
   rw [rowsX_len1,List.length_append,show ([100,101,102,97,117,108,116,58]:Txt).length=8 from rfl]; lia
  have g2:callF prog W d 12 [.loc 2,.list [nd 51 [] (.none :: vs)],.str []] (SP s b D (e+1) ext++[])=some (.str (brX D [[100,101,102,97,117,108,116,58]++rowsX (D+2) (f (D+2))]),SP s b D (e+1) ext++[]):=by
   rw [SP_app]
   have:=braced_ok (W:=W) (d:=d - 3) (ext:=ext++[]) (D:=D) (e:=e+1) (vs:=[nd 51 [] (.none :: vs)]) (by lia) (.cons (by exact (show d - 3+1=d - 4+2 by lia)▸cas) .nil) (Nat.le_of_ble_eq_true rfl) (by lia)
   rw [show d - 3+3=d by lia] at this
   exact this
  have hz:=slice_tl (x:=nmV (lt a)) (ks:=[nd 51 [] (.none :: vs)]) (Nat.le_of_ble_eq_true rfl)
  have bl:=brX_len D [[100,101,102,97,117,108,116,58]++rowsX (D+2) (f (D+2))]
  have ha:(lt a).length=1:=rfl
  unfold b_SwitchShape_text
  repeat' (first | wtm_at "qa" | ((with_reducible show callF _ _ _ _ _ _=_); first | exact g1 | exact g2) | exact hz | wtm_at "qb")
theorem pr_U (st:US) {v:V} {blk op:Bool} {x0 x1:Txt} (hd:8≤d) (hD:D<40) (he:e<150) (hk:Kid W d s b D (e+1) v blk op x0 x1) (hp:Pr W (d+1) s b D (e+1) v x0) (h0:x0.length<50000) (hs:(subX D blk false op x0 x1).length<50000):Pr W (d+3) s b D e (st.n v) (st.x D blk op x0 x1):=by
 have hsub:∀ ext r,callF prog W (d+1) 16 [.loc 2,v,.bool false] (SP s b D (e+1) ext++r)=some (.str (subX D blk false op x0 x1),SP s b D (e+1) ext++r):=sub_ok (by lia) (by lia) hk false
 have haft:∀ ext r,callF prog W (d+1) 17 [.loc 2,v,.bool false] (SP s b D (e+1) ext++r)=some (.str (aftX D blk false op),SP s b D (e+1) ext++r):=aft_ok (by lia) (by lia) hk false
 have al:=aftX_len D blk false op
 cases st with
 | loop h=>exact pr_loop (by lia) hd (by lia) hk h (by lia)
 | ifs a=>
  have hd:9≤d+1:=Nat.succ_le_succ hd
  refine (?_:Pr W (d+1+2) s b D e _ _)
  generalize d+1=d at hsub haft hd hp ⊢
  refine pr_of (L:=23) (c:=9) (f:=26) (by lia) rfl ⟨_,rfl⟩ (fun _ _=>rfl) (fun _ _=>rfl) rfl fun ext=>?_
  refine call_p (fn:=⟨3,6,b_IfShape_text⟩) rfl rfl rfl ?_
  refine (?_:Run W _ b_IfShape_text [some _,some _,some (nd 44 [] [nmV (lt a),v,.none]),none,none,none] _ _)
  have g1:=pr_at_name (W:=W) (d:=d) (s:=s) (b:=b) (D:=D) (e:=e+1) (by lia) (by lia) (lt a) ext []
  have g2:=hsub ext []
  have ha:(lt a).length=1:=rfl
  unfold b_IfShape_text
  repeat' (first | wtm_at "qa" | ((with_reducible show callF _ _ _ _ _ _=_); first | exact g1 | exact g2) | wtm_at "qb")
 | lab a=>
  have hd:9≤d+1:=Nat.succ_le_succ hd
  refine (?_:Pr W (d+1+2) s b D e _ _)
  generalize d+1=d at hsub haft hd hp ⊢
  refine pr_of (L:=37) (c:=18) (f:=36) (by lia) rfl ⟨_,rfl⟩ (fun _ _=>rfl) (fun _ _=>rfl) rfl fun ext=>?_
  refine call_p (fn:=⟨3,3,b_LabelShape_text⟩) rfl rfl rfl ?_
  have g1:=hp.at ext []
  have ha:(lt a).length=1:=rfl
  unfold b_LabelShape_text
  repeat' (first | wtm_at "qa" | ((with_reducible show callF _ _ _ _ _ _=_); first | exact g1) | wtm_at "qb")
 | dow a=>
  have hd:9≤d+1:=Nat.succ_le_succ hd
  refine (?_:Pr W (d+1+2) s b D e _ _)
  generalize d+1=d at hsub haft hd hp ⊢
  refine pr_of (L:=27) (c:=11) (f:=28) (by lia) rfl ⟨_,rfl⟩ (fun _ _=>rfl) (fun _ _=>rfl) rfl fun ext=>?_
  refine call_p (fn:=⟨3,5,b_DoShape_text⟩) rfl rfl rfl ?_
  have g1:=pr_at_name (W:=W) (d:=d) (s:=s) (b:=b) (D:=D) (e:=e+1) (by lia) (by lia) (lt a) ext []
  have g2:=hsub ext []
  have g3:=haft ext []
  have ha:(lt a).length=1:=rfl
  unfold b_DoShape_text
  repeat' (first | wtm_at "qa" | ((with_reducible show callF _ _ _ _ _ _=_); first | exact g1 | exact g2 | exact g3) | wtm_at "qb")
theorem pr_ie (a:Lt) {v u:V} {blk op blk' op' isf:Bool} {x0 x1 y0 y1:Txt} (hd:8≤d) (hD:D<40) (he:e<150) (hk:Kid W d s b D (e+1) v blk op x0 x1) (hk':Kid W d s b D (e+1) u blk' op' y0 y1) (hp:Pr W (d+1) s b D (e+1) u y0) (hu:u.isNone=false)
  (hi:∃ k,(∀ σ,getAttr u 0 σ=some (.int k))∧decide (k=44)=isf) (h0:y0.length<50000) (hs:(subX D blk true op x0 x1).length<50000) (hs':(subX D blk' false op' y0 y1).length<50000) :
  Pr W (d+3) s b D e (nd 44 [] [nmV (lt a),v,u]) ([105,102,32,40]++lt a++[41]++(subX D blk true op x0 x1++aftX D blk true op++[101,108,115,101])++cond isf ([32]++y0) (subX D blk' false op' y0 y1)):=by
 have hsub:∀ ext r,callF prog W (d+1) 16 [.loc 2,v,.bool true] (SP s b D (e+1) ext++r)=some (.str (subX D blk true op x0 x1),SP s b D (e+1) ext++r):=sub_ok (by lia) (by lia) hk true
 have haft:∀ ext r,callF prog W (d+1) 17 [.loc 2,v,.bool true] (SP s b D (e+1) ext++r)=some (.str (aftX D blk true op),SP s b D (e+1) ext++r):=aft_ok (by lia) (by lia) hk true
 have hsub':∀ ext r,callF prog W (d+1) 16 [.loc 2,u,.bool false] (SP s b D (e+1) ext++r)=some (.str (subX D blk' false op' y0 y1),SP s b D (e+1) ext++r):=sub_ok (by lia) (by lia) hk' false
 have al:=aftX_len D blk true op
 obtain ⟨kk,hi,hb⟩:=hi
 have hq:∀ σ,cmpop .eq (.int kk) (.int 44) σ=some isf:=fun _=>congrArg some hb
 have hno:∀ σ,cmpop .is u .none σ=some false:=fun _=>congrArg some hu
 have hd:9≤d+1:=Nat.succ_le_succ hd
 refine (?_:Pr W (d+1+2) s b D e _ _)
 generalize d+1=d at hsub haft hsub' hd hp ⊢
 refine pr_of (L:=23) (c:=9) (f:=26) (by lia) rfl ⟨_,rfl⟩ (fun _ _=>rfl) (fun _ _=>rfl) rfl fun ext=>?_
 refine call_p (fn:=⟨3,6,b_IfShape_text⟩) rfl rfl rfl ?_
 have g1:=pr_at_name (W:=W) (d:=d) (s:=s) (b:=b) (D:=D) (e:=e+1) (by lia) (by lia) (lt a) ext []
 have g2:=hsub ext []
 have g3:=haft ext []
 have g4:=hsub' ext []
 have g5:=hp.at ext []
 have ha:(lt a).length=1:=rfl
 unfold b_IfShape_text
 cases isf with
 | true=>
  repeat' (first | wtm_at "qa" | ((with_reducible show callF _ _ _ _ _ _=_); first | exact g1 | exact g2 | exact g3 | exact g5) | exact hi _ | exact hq _ | exact hno _ | wtm_at "qb")
  exact ⟨by rw [List.append_assoc _ [32]]; rfl,_,rfl⟩
 | false=>
  repeat' (first | wtm_at "qa" | ((with_reducible show callF _ _ _ _ _ _=_); first | exact g1 | exact g2 | exact g3 | exact g4) | exact hi _ | exact hq _ | exact hno _ | wtm_at "qb")
theorem kid_of {t:T} (hp:PT W t) (hk:∀ k ∈ t.kids,PT W k) (hd:8 * t.dp+8≤d) (hD:D+2 * t.dp<40) (he:e+2 * t.dp≤149) (hs:t.sz<60) (hW:t.dp≤W):Kid W d s b D e t.n t.isB t.opn (t.x D) (t.x (D+1)) where
 kd:=n_kd t
 bl:=fun q ext r=>by
  have l0:=x_len t (D:=D) (by lia)
  have go:∀ (vs:List V) (xs:List Txt),t.n=nd 59 [] vs→t.x D=brX D xs→Prs W (d - 4+1) s b (D+1) e vs xs→xs.length<250→(rowsX (D+1) xs).length<100000→callF prog W d 10 [.loc 2,t.n] (SP s b D e ext++r)=some (.str (t.x D),SP s b D e ext++r):=fun vs xs e1 e2 h3 h4 h5=>by
   have:=block_ok (W:=W) (d:=d - 4) (a:=[]) (by lia:D<50) h3 h4 h5 ext r
   rw [show d - 4+4=d by lia] at this
   refine e1▸e2▸?_; exact this
  cases t with
  | b0 s'=>
   cases s' with
   | block=>exact go [] [] rfl rfl .nil (Nat.le_of_ble_eq_true rfl) (Nat.le_of_ble_eq_true rfl)
   | _=>exact noF q
  | b1 s' k=>
   cases s' with
   | block=>
    have hd:8 * (k.dp+1)+8≤d:=hd
    have hD:D+2 * (k.dp+1)<40:=hD
    have he:e+2 * (k.dp+1)≤149:=he
    have hs:k.sz+1<60:=hs
    have hW:k.dp+1≤W:=hW
    have:=x_len k (D:=D+1) (by lia)
    exact go [k.n] [k.x (D+1)] rfl rfl (.cons (hk k (by simp [T.kids]) _ _ _ _ _ (by lia) (by lia) (by lia) (by lia) (by lia)) .nil) (Nat.le_of_ble_eq_true rfl) (by rw [rowsX_len1]; lia)
   | _=>exact noF q
  | b2 s' k l=>
   cases s' with
   | block=>
    have hd:8 * (max k.dp l.dp+1)+8≤d:=hd
    have hD:D+2 * (max k.dp l.dp+1)<40:=hD
    have he:e+2 * (max k.dp l.dp+1)≤149:=he
    have hs:k.sz+l.sz+1<60:=hs
    have hW:max k.dp l.dp+1≤W:=hW
    have:=x_len k (D:=D+1) (by lia)
    have:=x_len l (D:=D+1) (by lia)
    exact go [k.n,l.n] [k.x (D+1),l.x (D+1)] rfl rfl (.cons (hk k (by simp [T.kids]) _ _ _ _ _ (by lia) (by lia) (by lia) (by lia) (by lia)) (.cons (hk l (by simp [T.kids]) _ _ _ _ _ (by lia) (by lia) (by lia) (by lia) (by lia)) .nil)) (Nat.le_of_ble_eq_true rfl) (by rw [rowsX_len2]; lia)
   | _=>exact noF q
  | _=>exact noF q
 rw_:=fun _ ext r=>by
  have l1:=x_len t (D:=D+1) (by lia)
  refine SP_app▸?_
  have:=rows_ok (W:=W) (d:=d - 2) (ext:=ext++r) (D:=D) (by lia) (.cons (hp (d - 2+1) (D+1) e s b (by lia) (by lia) (by lia) hs hW) .nil) (Nat.le_of_ble_eq_true rfl) (by rw [rowsX_len1]; lia)
  rw [show d - 2+2=d by lia] at this
  exact this
 op_:=fun σ=>by
  refine e1_2 (need (n:=7) (by lia:8≤d)) fun d w8_ _=>?_; subst w8_
  exact open_ok hW
 l0:=fun _=>by have l0:=x_len t (D:=D) (by lia); lia
 l1:=fun _=>by have l1:=x_len t (D:=D+1) (by lia); rw [rowsX_len1]; lia
theorem pr_T:∀ t:T,PT W t∧∀ k ∈ t.kids,PT W k
 | .row i=>⟨fun d D e s b h1 h2 h3 h4 h5=>pr_row (by lia) (by have h1:8 * 1+4≤d:=h1; lia) i,fun k h=>nomatch h⟩
 | .b0 st=>⟨fun d D e s b h1 h2 h3 h4 h5=>by
   have h1:8 * 1+4≤d:=h1
   have h2:D+2 * 1≤40:=h2
   have h3:e+2 * 1≤150:=h3
   have:=pr_B (W:=W) (d:=d - 2) (D:=D) (e:=e) (s:=s) (b:=b) st (vs:=[]) (f:=fun _=>[]) (by lia) (by lia) (by lia) ⟨Nat.le_of_ble_eq_true rfl,Nat.le_of_ble_eq_true rfl⟩ ⟨Nat.le_of_ble_eq_true rfl,Nat.le_of_ble_eq_true rfl⟩ (Nat.le_of_ble_eq_true rfl) (fun d' _=>⟨.nil,.nil,.nil⟩)
   have this:=(show d - 2+2=d by lia)▸this
   exact this,fun k h=>nomatch h⟩
 | .b1 st k=>by
  have ik:=(pr_T k).1
  refine ⟨fun d D e s b h1 h2 h3 h4 h5=>?_,fun k' h=>by rw [List.mem_singleton.mp h]; exact ik⟩
  have h1:8 * (k.dp+1)+4≤d:=h1
  have h2:D+2 * (k.dp+1)≤40:=h2
  have h3:e+2 * (k.dp+1)≤150:=h3
  have h4:k.sz+1<60:=h4
  have h5:k.dp+1≤W:=h5
  have l1:=x_len k (D:=D+1) (by lia)
  have l2:=x_len k (D:=D+2) (by lia)
  have:=pr_B (W:=W) (d:=d - 2) (D:=D) (e:=e) (s:=s) (b:=b) st (vs:=[k.n]) (f:=fun D'=>[k.x D']) (by lia) (by lia) (by lia) ⟨Nat.le_of_ble_eq_true rfl,Nat.le_of_ble_eq_true rfl⟩ ⟨by rw [rowsX_len1]; lia,by rw [rowsX_len1]; lia⟩ (Nat.le_of_ble_eq_true rfl)
   (fun d' hd=>⟨.cons (ik _ _ _ _ _ (by lia) (by lia) (by lia) (by lia) (by lia)) .nil,.cons (ik _ _ _ _ _ (by lia) (by lia) (by lia) (by lia) (by lia)) .nil,.cons (ik _ _ _ _ _ (by lia) (by lia) (by lia) (by lia) (by lia)) .nil⟩)
  have this:=(show d - 2+2=d by lia)▸this
  exact this
 | .b2 st k l=>by
  have ik:=(pr_T k).1
  have il:=(pr_T l).1
  refine ⟨fun d D e s b h1 h2 h3 h4 h5=>?_,fun k' h=>?_⟩
  ·have h1:8 * (max k.dp l.dp+1)+4≤d:=h1
   have h2:D+2 * (max k.dp l.dp+1)≤40:=h2
   have h3:e+2 * (max k.dp l.dp+1)≤150:=h3
   have h4:k.sz+l.sz+1<60:=h4
   have h5:max k.dp l.dp+1≤W:=h5
   have l1:=x_len k (D:=D+1) (by lia)
   have l2:=x_len k (D:=D+2) (by lia)
   have l3:=x_len l (D:=D+1) (by lia)
   have l4:=x_len l (D:=D+2) (by lia)
   have:=pr_B (W:=W) (d:=d - 2) (D:=D) (e:=e) (s:=s) (b:=b) st (vs:=[k.n,l.n]) (f:=fun D'=>[k.x D',l.x D']) (by lia) (by lia) (by lia) ⟨Nat.le_of_ble_eq_true rfl,Nat.le_of_ble_eq_true rfl⟩ ⟨by rw [rowsX_len2]; lia,by rw [rowsX_len2]; lia⟩ (Nat.le_of_ble_eq_true rfl)
    (fun d' hd=>⟨.cons (ik _ _ _ _ _ (by lia) (by lia) (by lia) (by lia) (by lia)) (.cons (il _ _ _ _ _ (by lia) (by lia) (by lia) (by lia) (by lia)) .nil),.cons (ik _ _ _ _ _ (by lia) (by lia) (by lia) (by lia) (by lia)) (.cons (il _ _ _ _ _ (by lia) (by lia) (by lia) (by lia) (by lia)) .nil),.cons (ik _ _ _ _ _ (by lia) (by lia) (by lia) (by lia) (by lia)) (.cons (il _ _ _ _ _ (by lia) (by lia) (by lia) (by lia) (by lia)) .nil)⟩)
   rw [show d - 2+2=d by lia] at this
   exact this
  ·rcases List.mem_cons.mp h with q | q
   ·rw [q]; exact ik
   ·rw [List.mem_singleton.mp q]; exact il
 | .u st k=>by
  refine e0_2 (pr_T k) fun ik ikk=>?_
  refine ⟨fun d D e s b h1 h2 h3 h4 h5=>?_,fun k' h=>by rw [List.mem_singleton.mp h]; exact ik⟩
  have h1:8 * (k.dp+1)+4≤d:=h1
  have h2:D+2 * (k.dp+1)≤40:=h2
  have h3:e+2 * (k.dp+1)≤150:=h3
  have h4:k.sz+1<60:=h4
  have h5:k.dp+1≤W:=h5
  have l0:=x_len k (D:=D) (by lia)
  have l1:=x_len k (D:=D+1) (by lia)
  have sl:=subX_len D k.isB false k.opn l0 l1
  have:=pr_U (W:=W) (d:=d - 3) (D:=D) (e:=e) (s:=s) (b:=b) st (v:=k.n) (blk:=k.isB) (op:=k.opn) (x0:=k.x D) (x1:=k.x (D+1)) (by lia) (by lia) (by lia) (kid_of ik ikk (by lia) (by lia) (by lia) (by lia) (by lia)) (ik _ _ _ _ _ (by lia) (by lia) (by lia) (by lia) (by lia)) (by lia) (by lia)
  have this:=(show d - 3+3=d by lia)▸this
  exact this
 | .ie a k l=>by
  refine e0_2 (pr_T k) fun ik ikk=>?_
  refine e0_2 (pr_T l) fun il ill=>?_
  refine ⟨fun d D e s b h1 h2 h3 h4 h5=>?_,fun k' h=>?_⟩
  ·have h1:8 * (max k.dp l.dp+1)+4≤d:=h1
   have h2:D+2 * (max k.dp l.dp+1)≤40:=h2
   have h3:e+2 * (max k.dp l.dp+1)≤150:=h3
   have h4:k.sz+l.sz+1<60:=h4
   have h5:max k.dp l.dp+1≤W:=h5
   have l0:=x_len k (D:=D) (by lia)
   have l1:=x_len k (D:=D+1) (by lia)
   have l2:=x_len l (D:=D) (by lia)
   have l3:=x_len l (D:=D+1) (by lia)
   have sl:=subX_len D k.isB true k.opn l0 l1
   have sl':=subX_len D l.isB false l.opn l2 l3
   have:=pr_ie (W:=W) (d:=d - 3) (D:=D) (e:=e) (s:=s) (b:=b) a (v:=k.n) (u:=l.n) (x0:=k.x D) (x1:=k.x (D+1)) (y0:=l.x D) (y1:=l.x (D+1)) (by lia) (by lia) (by lia) (kid_of ik ikk (by lia) (by lia) (by lia) (by lia) (by lia)) (kid_of il ill (by lia) (by lia) (by lia) (by lia) (by lia)) (il _ _ _ _ _ (by lia) (by lia) (by lia) (by lia) (by lia)) (n_some l) (n_if l) (by lia) (by lia) (by lia)
   rw [show d - 3+3=d by lia] at this
   exact this
  ·rcases List.mem_cons.mp h with q | q
   ·rw [q]; exact ik
   ·rw [List.mem_singleton.mp q]; exact il
end
end
noncomputable abbrev Ln:=List (Nat×Txt)
noncomputable def tlX (l:Ln):Txt:=(l.map fun p=>nl p.1++p.2).flatten
noncomputable def flX:Ln→Txt
 | []=>[]
 | p :: r=>p.2++tlX r
noncomputable def fstL (l:Ln):Txt:=match l with
 | p :: _=>p.2
 | []=>[]
noncomputable def undL (head:Txt) (blk:Bool) (D:Nat) (ls:Ln):Ln:=cond blk ((D,head++[32]++fstL ls) :: ls.tail) ((D,head) :: ls)
noncomputable def lstL (l:Ln):Txt:=match l.getLast? with
 | some p=>p.2
 | none=>[]
noncomputable def tailL (blk:Bool) (ls:Ln) (w:Txt):Ln×Txt:=cond blk (ls.dropLast,lstL ls++[32]++w) (ls,w)
noncomputable def braL (head:Txt) (D:Nat) (ks:List Ln):Ln:=cond ks.isEmpty [(D,head++[123,125])] ((D,head++[123]) :: (ks.flatten++[(D,[125])]))
noncomputable def swL (a:Lt) (D:Nat) (ks:List Ln):Ln:=(D,[115,119,105,116,99,104,32,40]++lt a++[41,32,123]) :: (D+1,[100,101,102,97,117,108,116,58]) :: (ks.flatten++[(D,[125])])
noncomputable def BS.ln (s:BS) (D:Nat) (f:Nat→List Ln):Ln:=match s with
 | .block=>braL [] D (f (D+1))
 | .tr=>braL [116,114,121,32,123,125,32,102,105,110,97,108,108,121,32] D (f (D+1))
 | .sw a=>swL a D (f (D+2))
noncomputable def ifX (a:Lt):Txt:=[105,102,32,40]++lt a++[41]
noncomputable def doL (a:Lt) (D:Nat) (p:Ln×Txt):Ln:=p.1++[(D,p.2)]
noncomputable def US.ln (s:US) (D:Nat) (blk:Bool) (lk:Nat→Ln):Ln:=match s with
 | .ifs a=>undL (ifX a) blk D (lk (cond blk D (D+1)))
 | .loop h=>undL h.x blk D (lk (cond blk D (D+1)))
 | .lab a=>(D,lt a++[58,32]++fstL (lk D)) :: (lk D).tail
 | .dow a=>doL a D (tailL blk (undL [100,111] blk D (lk (cond blk D (D+1)))) ([119,104,105,108,101,32,40]++lt a++[41,59]))
noncomputable def ieL (D:Nat) (isf blk:Bool) (p:Ln×Txt) (ll:Nat→Ln):Ln:=p.1++cond isf ((D,p.2++[32]++fstL (ll D)) :: (ll D).tail) (undL p.2 blk D (ll (cond blk D (D+1))))
noncomputable def T.ln:T→Nat→Ln
 | .row i,D=>[(D,rowX i)]
 | .b0 s,D=>s.ln D fun _=>[]
 | .b1 s k,D=>s.ln D fun D'=>[k.ln D']
 | .b2 s k l,D=>s.ln D fun D'=>[k.ln D',l.ln D']
 | .u s k,D=>s.ln D k.isB fun D'=>k.ln D'
 | .ie a k l,D=>ieL D l.isIf l.isB (tailL k.isB (undL (ifX a) k.isB D (k.ln (cond k.isB D (D+1)))) [101,108,115,101]) fun D'=>l.ln D'
theorem tlX_app (a b:Ln):tlX (a++b)=tlX a++tlX b:=by unfold tlX; exact List.map_append▸List.flatten_append▸rfl
theorem tlX_cons (p:Nat×Txt) (r:Ln):tlX (p :: r)=nl p.1++(p.2++tlX r):=by
 show (nl p.1++p.2)++tlX r=_
 rw [List.append_assoc]
theorem tlX_one (D:Nat) (x:Txt):tlX [(D,x)]=nl D++x:=by rw [tlX_cons]; refine (?_:nl D++(x++[])=_); rw [List.append_nil]
theorem flX_app {a:Ln} (h:a≠[]) (b:Ln):flX (a++b)=flX a++tlX b:=by
 cases a with
 | nil=>exact absurd rfl h
 | cons p r=>refine (?_:p.2++tlX (r++b)=p.2++tlX r++tlX b); rw [tlX_app,List.append_assoc]
theorem fl_head (l:Ln) (h:l≠[]):fstL l++tlX l.tail=flX l:=by
 cases l with
 | nil=>exact absurd rfl h
 | cons p r=>rfl
noncomputable def Hd (D:Nat) (l:Ln):Prop:=∃ x r,l=(D,x) :: r
theorem Hd.ne {D:Nat} {l:Ln} (h:Hd D l):l≠[]:=by obtain ⟨x,r,rfl⟩:=h; exact List.cons_ne_nil _ _
theorem Hd.tl {D:Nat} {l:Ln} (h:Hd D l):tlX l=nl D++flX l:=by refine e2_1 h fun x r w1_=>?_; subst w1_; rw [tlX_cons]; rfl
theorem Hd.app {D:Nat} {l r:Ln} (h:Hd D l):Hd D (l++r):=by refine e2_1 h fun x r' w2_=>?_; subst w2_; exact i2_1 x _ rfl
theorem und_hd (head:Txt) (blk:Bool) (D:Nat) (ls:Ln):Hd D (undL head blk D ls):=by cases blk <;> exact i2_1 _ _ rfl
theorem bra_hd (head:Txt) (D:Nat) (ks:List Ln):Hd D (braL head D ks):=by unfold braL; cases ks.isEmpty <;> exact i2_1 _ _ rfl
theorem tail_hd {blk:Bool} {D:Nat} {ls:Ln} {w:Txt} (h:Hd D ls) (s:Txt) (r:Ln):Hd D ((tailL blk ls w).1++(D,s) :: r):=by
 cases blk with
 | false=>exact h.app
 | true=>
  obtain ⟨x,r',rfl⟩:=h
  refine (?_:Hd D (((D,x) :: r').dropLast++_))
  cases r' with
  | nil=>exact i2_1 _ _ rfl
  | cons p r'=>exact i2_1 _ _ rfl
theorem bs_hd (s:BS) (D:Nat) (f:Nat→List Ln):Hd D (s.ln D f):=by
 cases s with
 | block=>exact bra_hd [] D (f (D+1))
 | tr=>exact bra_hd _ D (f (D+1))
 | sw a=>exact i2_1 _ _ rfl
theorem ln_hd:∀ (t:T) (D:Nat),Hd D (t.ln D)
 | .row i,D=>⟨_,_,rfl⟩
 | .b0 s,D=>bs_hd s D fun _=>[]
 | .b1 s k,D=>bs_hd s D fun D'=>[k.ln D']
 | .b2 s k l,D=>bs_hd s D fun D'=>[k.ln D',l.ln D']
 | .u s k,D=>by
  cases s with
  | ifs a=>exact und_hd _ _ _ _
  | loop h=>exact und_hd _ _ _ _
  | lab a=>exact i2_1 _ _ rfl
  | dow a=>exact tail_hd (und_hd _ _ _ _) _ _
 | .ie a k l,D=>by
  refine (?_:Hd D (ieL D l.isIf l.isB _ _))
  unfold ieL
  cases l.isIf with
  | true=>exact tail_hd (und_hd _ _ _ _) _ _
  | false=>
   refine e2_1 (und_hd (tailL k.isB (undL (ifX a) k.isB D (k.ln (cond k.isB D (D+1)))) [101,108,115,101]).2 l.isB D (l.ln (cond l.isB D (D+1)))) fun x r e=>?_
   refine (?_:Hd D (_++undL _ _ _ _))
   refine e▸?_
   exact tail_hd (und_hd _ _ _ _) _ _
theorem bra_fl (head:Txt) (D:Nat) (ks:List Ln) (xs:List Txt) (h:ks.isEmpty=xs.isEmpty) (h':tlX ks.flatten=rowsX (D+1) xs):flX (braL head D ks)=head++brX D xs:=by
 unfold braL brX
 rw [h]
 cases xs.isEmpty with
 | true=>refine (?_:(head++[123,125])++[]=head++[123,125]); rw [List.append_nil]
 | false=>
  refine (?_:(head++[123])++tlX (ks.flatten++[(D,[125])])=head++([123]++rowsX (D+1) xs++nl D++[125]))
  rw [tlX_app,tlX_one,h']
  simp only [List.append_assoc]
noncomputable def Lst (D:Nat) (u:Ln):Prop:=∃ u0 x D',u=u0++[(D',x)]∧(u0=[]∨D'=D)
theorem tail_fl {D:Nat} {u:Ln} {blk:Bool} (w s:Txt) (rest:Ln) (hu:u≠[]) (hl:blk=true→Lst D u):flX ((tailL blk u w).1++(D,(tailL blk u w).2++s) :: rest)=flX u++(cond blk [32] (nl D)++(w++(s++tlX rest))):=by
 cases blk with
 | false=>
  refine (?_:flX (u++(D,w++s) :: rest)=flX u++(nl D++_))
  rw [flX_app hu,tlX_cons]
  simp only [List.append_assoc]
 | true=>
  refine e3_2 (hl rfl) fun u0 x D' w8_ h=>?_; subst w8_
  refine (?_:flX ((u0++[(D',x)]).dropLast++(D,lstL (u0++[(D',x)])++[32]++w++s) :: rest)=flX (u0++[(D',x)])++([32]++_))
  unfold lstL
  refine List.dropLast_concat▸(List.getLast?_concat)▸?_
  rcases h with rfl | rfl
  ·refine (?_:(x++[32]++w++s)++tlX rest=(x++[])++_)
   simp only [List.append_assoc,List.append_nil]
  ·cases u0 with
   | nil=>refine (?_:(x++[32]++w++s)++tlX rest=(x++[])++_); simp only [List.append_assoc,List.append_nil]
   | cons p u0=>
    rw [flX_app (List.cons_ne_nil _ _),flX_app (List.cons_ne_nil _ _),tlX_cons,tlX_one]
    simp only [List.append_assoc]
theorem isB_ln {t:T} (h:t.isB=true) (D:Nat):∃ ks,t.ln D=braL [] D ks:=by
 cases t with
 | b0 s=>cases s <;> first | exact ⟨[],rfl⟩ | exact noF h
 | b1 s k=>cases s <;> first | exact ⟨[k.ln (D+1)],rfl⟩ | exact noF h
 | b2 s k l=>cases s <;> first | exact ⟨[k.ln (D+1),l.ln (D+1)],rfl⟩ | exact noF h
 | _=>exact noF h
theorem und_lst {t:T} {head:Txt} {D:Nat} (h:t.isB=true):Lst D (undL head t.isB D (t.ln (cond t.isB D (D+1)))):=by
 refine h▸?_
 refine e1_1 (isB_ln h D) fun ks e=>?_
 refine (?_:Lst D (undL head true D (t.ln D)))
 refine e▸?_
 unfold braL
 cases ks.isEmpty with
 | true=>exact i3_2 ([]) _ _ rfl (.inl rfl)
 | false=>exact ⟨(D,head++[32]++([]++[123])) :: ks.flatten,[125],D,rfl,.inr rfl⟩
noncomputable def sbX (t:T) (D:Nat):Txt:=cond t.isB ([32]++flX (t.ln D)) (nl (D+1)++flX (t.ln (D+1)))
theorem und_fl (t:T) (head:Txt) (D:Nat):flX (undL head t.isB D (t.ln (cond t.isB D (D+1))))=head++sbX t D:=by
 unfold sbX
 cases t.isB with
 | true=>
  refine (?_:(head++[32]++fstL (t.ln D))++tlX (t.ln D).tail=head++([32]++flX (t.ln D)))
  rw [List.append_assoc,fl_head _ (ln_hd t D).ne,List.append_assoc]
 | false=>
  refine (?_:head++tlX (t.ln (D+1))=_)
  rw [(ln_hd t (D+1)).tl]; rfl
theorem laid_isB:∀ t:T,t.laid.isB=t.isB
 | .row _=>rfl
 | .b0 s | .b1 s _ | .b2 s _ _=>by cases s <;> rfl
 | .u s _=>by cases s <;> rfl
 | .ie _ _ _=>rfl
theorem laid_isIf:∀ t:T,t.laid.isIf=t.isIf
 | .row _=>rfl
 | .b0 s | .b1 s _ | .b2 s _ _=>rfl
 | .u s _=>by cases s <;> rfl
 | .ie _ _ _=>rfl
theorem opn_isB {t:T} (h:t.opn=true):t.isB=false:=by
 cases t with
 | b0 s=>exact noF h
 | b1 s k=>exact noF h
 | b2 s k l=>exact noF h
 | u s k=>rfl
 | ie a k l=>rfl
 | row i=>rfl
theorem rowsX_1 (D:Nat) (x:Txt):rowsX D [x]=nl D++x:=by show (nl D++x)++[]=_; rw [List.append_nil]
theorem rowsX_2 (D:Nat) (x y:Txt):rowsX D [x,y]=(nl D++x)++(nl D++y):=by show (nl D++x)++((nl D++y)++[])=_; rw [List.append_nil]
theorem sb_laid (k:T) (ih:∀ D,flX (k.laid.ln D)=k.x D) (D:Nat):sbX k.laid D=subX D k.isB false k.opn (k.x D) (k.x (D+1)):=by
 unfold sbX subX
 rw [laid_isB,ih,ih,rowsX_1]
 cases k.isB <;> rfl
theorem sb_wrap (k:T) (ih:∀ D,flX (k.laid.ln D)=k.x D) (D:Nat):sbX (cond k.opn (T.b1 .block k.laid) k.laid) D=subX D k.isB true k.opn (k.x D) (k.x (D+1)):=by
 cases q:k.opn with
 | false=>
  have:=sb_laid k ih D
  rw [q] at this
  exact this
 | true=>
  unfold subX
  rw [opn_isB q]
  show [32]++flX (braL [] D [k.laid.ln (D+1)])=[32,123]++rowsX (D+1) [k.x (D+1)]++nl D++[125]
  rw [bra_fl [] D [k.laid.ln (D+1)] [k.x (D+1)] rfl (by rw [List.flatten_cons,List.flatten_nil,List.append_nil,(ln_hd _ _).tl,ih,rowsX_1])]
  show [32]++([]++([123]++rowsX (D+1) [k.x (D+1)]++nl D++[125]))=_
  simp only [List.nil_append,List.append_assoc]; rfl
theorem aft_wrap (k:T) (D:Nat):cond (cond k.opn (T.b1 .block k.laid) k.laid).isB [32] (nl D)=aftX D k.isB true k.opn:=by
 unfold aftX
 cases q:k.opn with
 | true=>refine (opn_isB q)▸?_; rfl
 | false=>rw [Bool.and_false,Bool.or_false]; refine (?_:cond k.laid.isB _ _=_); rw [laid_isB]
theorem bs_fl (s:BS) (D:Nat) {f:Nat→List Ln} {g:Nat→List Txt} (h:∀ D,(f D).isEmpty=(g D).isEmpty) (h':∀ D,tlX (f D).flatten=rowsX D (g D)):flX (s.ln D f)=s.x D g:=by
 cases s with
 | block=>exact bra_fl [] D _ _ (h _) (h' _)
 | tr=>exact bra_fl _ D _ _ (h _) (h' _)
 | sw a=>
  refine (?_:([115,119,105,116,99,104,32,40]++lt a++[41,32,123])++tlX ((D+1,[100,101,102,97,117,108,116,58]) :: ((f (D+2)).flatten++[(D,[125])]))=[115,119,105,116,99,104,32,40]++lt a++[41,32]++([123]++rowsX (D+1) [[100,101,102,97,117,108,116,58]++rowsX (D+2) (g (D+2))]++nl D++[125]))
  rw [tlX_cons,tlX_app,tlX_one,h',rowsX_1]
  simp only [List.append_assoc]; rfl
theorem fl_laid:∀ (t:T) (D:Nat),flX (t.laid.ln D)=t.x D
 | .row i,D=>by refine (?_:rowX i++[]=rowX i); rw [List.append_nil]
 | .b0 s,D=>bs_fl s D (fun _=>rfl) fun _=>rfl
 | .b1 s k,D=>bs_fl s D (fun _=>rfl) fun D'=>by rw [List.flatten_cons,List.flatten_nil,List.append_nil,(ln_hd _ _).tl,fl_laid k,rowsX_1]
 | .b2 s k l,D=>bs_fl s D (fun _=>rfl) fun D'=>by rw [List.flatten_cons,List.flatten_cons,List.flatten_nil,List.append_nil,tlX_app,(ln_hd _ _).tl,(ln_hd _ _).tl,fl_laid k,fl_laid l,rowsX_2]
 | .u s k,D=>by
  have ih:=fl_laid k
  cases s with
  | ifs a=>
   refine (?_:flX (undL (ifX a) k.laid.isB D (k.laid.ln (cond k.laid.isB D (D+1))))=ifX a++subX D k.isB false k.opn (k.x D) (k.x (D+1)))
   rw [und_fl,sb_laid k ih]
  | loop h=>
   refine (?_:flX (undL h.x k.laid.isB D (k.laid.ln (cond k.laid.isB D (D+1))))=h.x++subX D k.isB false k.opn (k.x D) (k.x (D+1)))
   rw [und_fl,sb_laid k ih]
  | lab a=>
   refine (?_:(lt a++[58,32]++fstL (k.laid.ln D))++tlX (k.laid.ln D).tail=lt a++[58,32]++k.x D)
   rw [List.append_assoc,fl_head _ (ln_hd _ _).ne,ih]
  | dow a=>
   have:=tail_fl (D:=D) (u:=undL [100,111] k.laid.isB D (k.laid.ln (cond k.laid.isB D (D+1)))) (blk:=k.laid.isB) ([119,104,105,108,101,32,40]++lt a++[41,59]) [] [] (und_hd _ _ _ _).ne und_lst
   rw [List.append_nil,und_fl,sb_laid k ih,laid_isB] at this
   show flX ((tailL k.laid.isB (undL [100,111] k.laid.isB D (k.laid.ln (cond k.laid.isB D (D+1)))) ([119,104,105,108,101,32,40]++lt a++[41,59])).1++[(D,(tailL k.laid.isB (undL [100,111] k.laid.isB D (k.laid.ln (cond k.laid.isB D (D+1)))) ([119,104,105,108,101,32,40]++lt a++[41,59])).2)])=[100,111]++subX D k.isB false k.opn (k.x D) (k.x (D+1))++aftX D k.isB false k.opn++[119,104,105,108,101,32,40]++lt a++[41,59]
   rw [laid_isB,this]
   unfold aftX
   rw [Bool.false_and,Bool.or_false]
   refine (?_:_++(_++(_++[]))=_)
   simp only [List.append_assoc,List.append_nil]
 | .ie a k l,D=>by
  have ik:=fl_laid k
  have il:=fl_laid l
  have hw:=sb_wrap k ik D
  have ha:=aft_wrap k D
  show flX (ieL D l.laid.isIf l.laid.isB (tailL (cond k.opn (T.b1 .block k.laid) k.laid).isB (undL (ifX a) (cond k.opn (T.b1 .block k.laid) k.laid).isB D ((cond k.opn (T.b1 .block k.laid) k.laid).ln (cond (cond k.opn (T.b1 .block k.laid) k.laid).isB D (D+1)))) [101,108,115,101]) fun D'=>l.laid.ln D') =
   ifX a++(subX D k.isB true k.opn (k.x D) (k.x (D+1))++aftX D k.isB true k.opn++[101,108,115,101])++cond l.isIf ([32]++l.x D) (subX D l.isB false l.opn (l.x D) (l.x (D+1)))
  generalize (cond k.opn (T.b1 .block k.laid) k.laid)=kk at hw ha ⊢
  have tf:=fun s rest=>tail_fl (D:=D) (u:=undL (ifX a) kk.isB D (kk.ln (cond kk.isB D (D+1)))) (blk:=kk.isB) [101,108,115,101] s rest (und_hd _ _ _ _).ne und_lst
  rw [und_fl,hw,ha] at tf
  unfold ieL
  rw [laid_isIf]
  cases l.isIf with
  | true=>
   refine (?_:flX (_++(D,_++[32]++fstL (l.laid.ln D)) :: (l.laid.ln D).tail)=_)
   rw [List.append_assoc _ [32],tf,List.append_assoc [32],fl_head _ (ln_hd _ _).ne,il]
   show _=ifX a++(subX D k.isB true k.opn (k.x D) (k.x (D+1))++aftX D k.isB true k.opn++[101,108,115,101])++([32]++l.x D)
   simp only [List.append_assoc]
  | false=>
   refine (?_:flX (_++undL _ l.laid.isB D (l.laid.ln (cond l.laid.isB D (D+1))))=ifX a++(subX D k.isB true k.opn (k.x D) (k.x (D+1))++aftX D k.isB true k.opn++[101,108,115,101])++subX D l.isB false l.opn (l.x D) (l.x (D+1)))
   rw [← sb_laid l il]
   unfold sbX
   cases l.laid.isB with
   | true=>
    refine (?_:flX (_++(D,_++[32]++fstL (l.laid.ln D)) :: (l.laid.ln D).tail)=_++([32]++flX (l.laid.ln D)))
    rw [List.append_assoc _ [32],tf,List.append_assoc [32],fl_head _ (ln_hd _ _).ne]
    simp only [List.append_assoc]
   | false=>
    refine (?_:flX (_++(D,_) :: l.laid.ln (D+1))=_++(nl (D+1)++flX (l.laid.ln (D+1))))
    have:=tf [] (l.laid.ln (D+1))
    rw [List.append_nil] at this
    refine this▸((ln_hd _ _).tl)▸?_
    simp only [List.append_assoc,List.nil_append]
noncomputable def wst (st:List Txt×Txt) (c:Nat):List Txt×Txt:=if Unicode.isSpace c=true then (if st.2=[] then st else (st.1++[st.2],[])) else (st.1,st.2++[c])
noncomputable def fn (st:List Txt×Txt):List Txt:=if st.2=[] then st.1 else st.1++[st.2]
noncomputable def wrel (p:List Str×Str):List Txt×Txt:=(p.1.map ofStr,ofStr p.2)
theorem ofStr_nil {x:Str}:ofStr x=[]↔x.length=0:=by
 show x.cps.toList=[]↔x.cps.size=0
 rw [← Array.length_toList,List.length_eq_zero_iff]
theorem wstep (p:List Str×Str) (c:Nat):wrel (KWd.step p c)=wst (wrel p) c:=by
 unfold KWd.step wst wrel
 by_cases h:Unicode.isSpace c=true
 ·rw [if_pos h,if_pos h]
  by_cases q:p.2.length=0
  ·rw [if_pos q,if_pos (ofStr_nil.mpr q)]
  ·rw [if_neg q,if_neg fun z=>q (ofStr_nil.mp z)]
   rw [List.map_append]; rfl
 ·rw [if_neg h,if_neg h]
  unfold ofStr
  rw [Str.cps_append,Array.toList_append]
theorem wfold:∀ (l:List Nat) (p:List Str×Str),wrel (l.foldl KWd.step p)=l.foldl wst (wrel p)
 | [],p=>rfl
 | c :: l,p=>by rw [List.foldl_cons,List.foldl_cons,wfold l,wstep]
theorem split_eq (s:Txt):split s=fn (s.foldl wst ([],[])):=by
 unfold split
 have e:wordsOf (toStr s)=KWd.fin (KWd.scan (toStr s)):=by
  rw [← KWd.wordsOf_scan]
  unfold wordsOf
  apply List.map_congr_left
  intro ⟨i,j⟩ _
  rfl
 refine e▸?_
 have w:=wfold s ([],Str.empty)
 have h:KWd.scan (toStr s)=s.foldl KWd.step ([],Str.empty):=by
  unfold KWd.scan toStr
  exact List.toList_toArray▸rfl
 rw [← h] at w
 have w':s.foldl wst ([],[])=wrel (KWd.scan (toStr s)):=w.symm
 refine w'▸?_
 unfold KWd.fin fn wrel
 by_cases q:(KWd.scan (toStr s)).2.length=0
 ·rw [if_pos q,if_pos (ofStr_nil.mpr q)]
 ·rw [if_neg q,if_neg fun z=>q (ofStr_nil.mp z),List.map_append]; rfl
theorem wst_pre (ws:List Txt):∀ (l:List Nat) (st:List Txt×Txt),l.foldl wst (ws++st.1,st.2)=(ws++(l.foldl wst st).1,(l.foldl wst st).2)
 | [],st=>rfl
 | c :: l,st=>by
  rw [List.foldl_cons,List.foldl_cons]
  have e:wst (ws++st.1,st.2) c=(ws++(wst st c).1,(wst st c).2):=by
   unfold wst
   split
   ·split
    ·rfl
    ·rw [List.append_assoc]
   ·rfl
  rw [e,wst_pre ws l]
theorem split_sp (a b:Txt) {c:Nat} (hc:Unicode.isSpace c=true):split (a++c :: b)=split a++split b:=by
 rw [split_eq,split_eq,split_eq,List.foldl_append,List.foldl_cons]
 generalize a.foldl wst ([],[])=st
 have e:wst st c=(fn st++[],[]):=by
  unfold wst fn
  rw [if_pos hc,List.append_nil]
  split
  ·rename_i q; exact q▸rfl
  ·rfl
 rw [e,wst_pre (fn st) b ([],[])]
 unfold fn
 dsimp only
 split
 ·rfl
 ·rw [List.append_assoc]
noncomputable def sgn:Txt:=[40,41,123,125,59,58]
noncomputable def ex (cs:List Nat) (l:Txt):Txt:=l.flatMap fun x=>if x ∈ cs then [32,x,32] else [x]
theorem ex_app (cs:List Nat) (a b:Txt):ex cs (a++b)=ex cs a++ex cs b:=List.flatMap_append
theorem ex_free {c:Nat}:∀ (l:Txt),c ∉ l→ex [c] l=l
 | [],_=>rfl
 | x :: l,h=>by
  refine (?_:(if x ∈ [c] then [32,x,32] else [x])++ex [c] l=_)
  rw [if_neg fun z=>h (by refine (List.mem_singleton.mp z)▸?_; exact List.mem_cons_self),ex_free l fun z=>h (List.mem_cons_of_mem _ z)]; rfl
theorem ex_join (c:Nat):∀ parts:List Str,(∀ p ∈ parts,c ∉ p.cps.toList)→ex [c] (Str.join ⟨#[c]⟩ parts).cps.toList=(Str.join ⟨#[32,c,32]⟩ parts).cps.toList
 | [],_=>rfl
 | [p],h=>ex_free _ (h p (List.mem_singleton.mpr rfl))
 | p :: q :: r,h=>by
  have ih:=ex_join c (q :: r) fun a ha=>h a (List.mem_cons_of_mem _ ha)
  refine (?_:ex [c] (p ++ ⟨#[c]⟩++Str.join ⟨#[c]⟩ (q :: r)).cps.toList=(p ++ ⟨#[32,c,32]⟩++Str.join ⟨#[32,c,32]⟩ (q :: r)).cps.toList)
  simp only [Str.cps_append,Array.toList_append]
  rw [ex_app,ex_app,ih,ex_free _ (h p (List.mem_cons_self ..))]
  congr 2
  refine (?_:(if c ∈ [c] then [32,c,32] else [c])++[]=_)
  refine (if_pos (List.mem_singleton.mpr rfl))▸?_; rfl
theorem replace_eq (t:Txt) (c:Nat):replace t [c] [32,c,32]=ex [c] t:=by
 refine (?_:ofStr (Txt.replace (toStr t) ⟨#[c]⟩ ⟨#[32,c,32]⟩)=_)
 rw [StrLaws.replace_one]
 refine (?_:(Str.join ⟨#[32,c,32]⟩ (Txt.split (toStr t) ⟨#[c]⟩)).cps.toList=_)
 rw [← ex_join c _ (StrLaws.split_free (toStr t) c),StrLaws.join_split]
 unfold toStr
 exact List.toList_toArray▸rfl
theorem ex_ex (cs:List Nat) (c:Nat) (hc:c ∉ cs) (h32:c≠32):∀ l:Txt,ex [c] (ex cs l)=ex (cs++[c]) l
 | []=>rfl
 | x :: l=>by
  refine (?_:ex [c] ((if x ∈ cs then [32,x,32] else [x])++ex cs l)=(if x ∈ cs++[c] then [32,x,32] else [x])++ex (cs++[c]) l)
  rw [ex_app,ex_ex cs c hc h32 l]
  congr 1
  by_cases h:x ∈ cs
  ·rw [if_pos h,if_pos (List.mem_append_left _ h)]
   refine ex_free _ fun z=>?_
   rcases List.mem_cons.mp z with z | z
   ·exact h32 z
   ·rcases List.mem_cons.mp z with z | z
    ·exact hc (z▸h)
    ·exact h32 (List.mem_singleton.mp z)
  ·rw [if_neg h]
   by_cases q:x=c
   ·subst q
    refine (if_pos (List.mem_append_right _ (List.mem_singleton.mpr rfl)))▸?_
    refine (?_:(if x ∈ [x] then [32,x,32] else [x])++[]=_)
    refine (if_pos (List.mem_singleton.mpr rfl))▸?_; rfl
   ·rw [if_neg fun z=>by
     rcases List.mem_append.mp z with z | z
     ·exact h z
     ·exact q (List.mem_singleton.mp z)]
    refine (?_:(if x ∈ [c] then [32,x,32] else [x])++[]=_)
    refine (if_neg fun z=>q (List.mem_singleton.mp z))▸?_; rfl
theorem ex_len (cs:List Nat):∀ l:Txt,(ex cs l).length≤3 * l.length
 | []=>Nat.le_refl _
 | x :: l=>by
  have:=ex_len cs l
  refine (?_:((if x ∈ cs then [32,x,32] else [x])++ex cs l).length≤3 * (l.length+1))
  refine List.length_append▸?_
  split
  ·refine (?_:3+_≤_); lia
  ·refine (?_:1+_≤_); lia
theorem ex_nil:∀ t:Txt,ex [] t=t
 | []=>rfl
 | a :: t=>by
  refine (?_:(if a ∈ ([]:List Nat) then [32,a,32] else [a])++ex [] t=_)
  rw [if_neg (fun z=>nomatch z),ex_nil t]; rfl
theorem signs_ok {x y:Nat} {ρ:Loc} {t:Txt} (hx:x≠y) (hy:ρ[y]?=some (some (.str t))) (hl:3 * t.length<100000):∃ v,signsL x y sgn ρ=some ((ρ.set x v).set y (some (.str (ex sgn t)))):=by
 have go:∀ (cs done:List Nat) (ρ:Loc),(done++cs).Nodup→(∀ c ∈ cs,c≠32)→ρ[y]?=some (some (.str (ex done t)))→∃ v,signsL x y cs ρ=some ((ρ.set x v).set y (some (.str (ex (done++cs) t)))):=by
  intro cs
  induction cs with
  | nil=>
   intro done ρ _ _ h
   obtain ⟨v,hv⟩:=set_self (ρ:=ρ) (z:=x)
   refine ⟨v,?_⟩
   rw [hv,List.append_nil]
   refine (?_:some ρ=_)
   refine e1_1 (List.getElem?_eq_some_iff.mp h) fun h1 h2=>?_
   rw [← h2,List.set_getElem_self h1]
  | cons c cs ih=>
   intro done ρ hn h32 h
   have hc:c ∉ done:=fun z=>(List.nodup_append.mp hn).2.2 c z c List.mem_cons_self rfl
   have h1:=(List.getElem?_eq_some_iff.mp h).1
   have hlen:=ex_len done t
   refine e1_1 (ih (done++[c]) ((ρ.set x (some (.str [c]))).set y (some (.str (ex (done++[c]) t)))) (by rw [List.append_assoc]; exact hn) (fun a ha=>h32 a (List.mem_cons_of_mem _ ha)) (List.getElem?_set_self (by rw [List.length_set]; exact h1))) fun v hv=>?_
   refine ⟨v,bnd (bnd (bnd h rfl) rfl) ((if_pos (by lia)).trans ?_)⟩
   rw [replace_eq,ex_ex done c hc (h32 c List.mem_cons_self)]; refine hv.trans ?_; rw [List.append_assoc,List.set_comm _ _ (Ne.symm hx),List.set_set,List.set_set]
   rfl
 have e0:ex [] t=t:=ex_nil t
 have:=go sgn [] ρ (by decide) (by decide) (by rw [e0]; exact hy)
 exact this
noncomputable def K (x:Txt):List Txt:=split (ex sgn x)
theorem K_sp (a b:Txt) {c:Nat} (hc:Unicode.isSpace c=true) (hs:c ∉ sgn):K (a++c :: b)=K a++K b:=by
 unfold K
 rw [ex_app]
 refine (?_:split (ex sgn a++((if c ∈ sgn then [32,c,32] else [c])++ex sgn b))=_)
 refine (if_neg hs)▸?_
 exact split_sp _ _ hc
theorem sp32:Unicode.isSpace 32=true:=by decide +kernel
theorem sp10:Unicode.isSpace 10=true:=by decide +kernel
theorem K_sg (a b:Txt) {c:Nat} (hs:c ∈ sgn) (hc:split [c]=[[c]]):K (a++c :: b)=K a++[c] :: K b:=by
 unfold K
 rw [ex_app]
 refine (?_:split (ex sgn a++((if c ∈ sgn then [32,c,32] else [c])++ex sgn b))=_)
 rw [if_pos hs]
 refine (?_:split (ex sgn a++32 :: ([c]++32 :: ex sgn b))=_)
 rw [split_sp _ _ sp32,split_sp _ _ sp32,hc]; rfl
theorem K_b (a b:Txt):K (a++[32]++b)=K a++K b:=by rw [List.append_assoc]; exact K_sp a b sp32 (by decide)
theorem K_nil:K []=[]:=by decide +kernel
theorem K_b' (b:Txt):K ([32]++b)=K b:=by
 have:=K_b [] b
 rw [K_nil] at this
 exact this
theorem K_ind:∀ (D:Nat) (b:Txt),K ((List.replicate D ([32,32]:Txt)).flatten++b)=K b
 | 0,b=>rfl
 | D+1,b=>by
  rw [List.replicate_succ,List.flatten_cons,List.append_assoc]
  have h1:=K_b' ([32]++((List.replicate D ([32,32]:Txt)).flatten++b))
  exact h1.trans ((K_b' _).trans (K_ind D b))
theorem K_nl (a:Txt) (D:Nat) (b:Txt):K (a++(nl D++b))=K a++K b:=by
 unfold nl
 rw [List.cons_append,K_sp _ _ sp10 (by decide),K_ind]
noncomputable def KL (l:Ln):List Txt:=(l.map fun p=>K p.2).flatten
theorem KL_app (a b:Ln):KL (a++b)=KL a++KL b:=by unfold KL; exact List.map_append▸List.flatten_append▸rfl
theorem KL_cons (p:Nat×Txt) (r:Ln):KL (p :: r)=K p.2++KL r:=rfl
theorem KL_one (D:Nat) (x:Txt):KL [(D,x)]=K x:=by show K x++[]=_; rw [List.append_nil]
theorem K_tl:∀ (l:Ln) (a:Txt),K (a++tlX l)=K a++KL l
 | [],a=>by refine (?_:K (a++[])=K a++[]); rw [List.append_nil,List.append_nil]
 | p :: r,a=>by rw [tlX_cons,K_nl,K_tl r,KL_cons]
theorem K_fl {l:Ln} (h:l≠[]):K (flX l)=KL l:=by
 cases l with
 | nil=>exact absurd rfl h
 | cons p r=>exact K_tl r p.2
theorem K_o (h:Txt):K (h++[123])=K h++[[123]]:=by
 have:=K_sg h [] (c:=123) (by decide) (by decide +kernel)
 have this:=K_nil▸this; exact this
theorem K_oc (h:Txt):K (h++[123,125])=K h++[[123],[125]]:=by
 have:=K_sg h [125] (c:=123) (by decide) (by decide +kernel)
 refine this▸?_
 congr 2
 decide +kernel
theorem K_if:∀ a:Lt,K (ifX a)=ifT a:=by decide +kernel
theorem K_h (h:H):K h.x=h.toks:=of_decide_eq_true (H.check (p:=fun h=>decide (K h.x=h.toks)) (all_at 0 7 (by decide +kernel) (all_at 7 7 (by decide +kernel) (all_at 14 7 (by decide +kernel) (all_at 21 7 (by decide +kernel) (all_at 28 7 (by decide +kernel) (all_at 35 7 (by decide +kernel) (all_at 42 7 (by decide +kernel) (all_at 49 7 (by decide +kernel) (all_at 56 7 (by decide +kernel) (all_at 63 7 (by decide +kernel) (all_at 70 7 (by decide +kernel) (all_at 77 7 (by decide +kernel) (all_at 84 7 (by decide +kernel) (by decide +kernel)))))))))))))) h)
theorem K_row:∀ i:Fin 8,K (rowX i)=rowT i:=by decide +kernel
theorem K_lt:∀ a:Lt,K (lt a)=[lt a]:=by decide +kernel
theorem K_sw:∀ a:Lt,K ([115,119,105,116,99,104,32,40]++lt a++[41,32,123])=[[115,119,105,116,99,104],[40],lt a,[41],[123]]:=by decide +kernel
theorem K_wh:∀ a:Lt,K ([119,104,105,108,101,32,40]++lt a++[41,59])=[[119,104,105,108,101],[40],lt a,[41],[59]]:=by decide +kernel
theorem KL_bra (head:Txt) (D:Nat) (ks:List Ln):KL (braL head D ks)=K head++([123] :: (KL ks.flatten++[[125]])):=by
 have hc:K [125]=[[125]]:=by decide +kernel
 unfold braL
 cases ks with
 | nil=>refine (?_:KL [(D,head++[123,125])]=_); rw [KL_one,K_oc]; rfl
 | cons k ks=>
  refine (?_:KL ((D,head++[123]) :: ((k :: ks).flatten++[(D,[125])]))=_)
  rw [KL_cons,KL_app,KL_one,K_o,hc,List.append_assoc]; rfl
theorem KL_und (head:Txt) (t:T) (D:Nat) (h:∀ D,KL (t.ln D)=t.tk):KL (undL head t.isB D (t.ln (cond t.isB D (D+1))))=K head++t.tk:=by
 cases t.isB with
 | false=>refine (?_:K head++KL (t.ln (D+1))=_); rw [h]
 | true=>
  refine e2_1 (ln_hd t D) fun x r e=>?_
  have:=h D
  rw [e,KL_cons] at this
  refine (?_:K (head++[32]++fstL (t.ln D))++KL (t.ln D).tail=_)
  rw [K_b,e,← this,List.append_assoc]; rfl
theorem KL_tail {blk:Bool} {u:Ln} (w s:Txt) (D:Nat) (rest:Ln) (hu:u≠[]) (hs:∀ a,K (a++s)=K a++K s):KL ((tailL blk u w).1++(D,(tailL blk u w).2++s) :: rest)=KL u++(K w++(K s++KL rest)):=by
 cases blk with
 | false=>
  refine (?_:KL (u++(D,w++s) :: rest)=_)
  rw [KL_app,KL_cons,hs,List.append_assoc]
 | true=>
  have e:u=u.dropLast++[u.getLast hu]:=(List.dropLast_concat_getLast hu).symm
  refine (?_:KL (u.dropLast++(D,lstL u++[32]++w++s) :: rest)=_)
  have l:lstL u=(u.getLast hu).2:=by unfold lstL; exact (List.getLast?_eq_some_getLast hu)▸rfl
  have k:KL u=KL u.dropLast++K (u.getLast hu).2:=by
   have:=KL_app u.dropLast [u.getLast hu]
   rw [← e] at this
   rw [this]
   rw [KL_one]
  rw [KL_app,KL_cons,hs,K_b,l,k]
  simp only [List.append_assoc]
theorem KL_BS (s:BS) (D:Nat) (f:Nat→List Ln) (x:List Txt) (h:∀ D,KL (f D).flatten=x):KL (s.ln D f)=s.pre++(x++[[125]]):=by
 have hc:K [125]=[[125]]:=by decide +kernel
 have hd:K [100,101,102,97,117,108,116,58]=[[100,101,102,97,117,108,116],[58]]:=by decide +kernel
 have ht:K [116,114,121,32,123,125,32,102,105,110,97,108,108,121,32]=[[116,114,121],[123],[125],[102,105,110,97,108,108,121]]:=by decide +kernel
 cases s with
 | block=>refine (?_:KL (braL [] D (f (D+1)))=_); rw [KL_bra,h,K_nil]; rfl
 | tr=>refine (?_:KL (braL _ D (f (D+1)))=_); rw [KL_bra,h,ht]; rfl
 | sw a=>
  show KL (_ :: _ :: ((f (D+2)).flatten++[(D,[125])]))=_
  rw [KL_cons,KL_cons,KL_app,KL_one,h,K_sw,hd,hc]; rfl
theorem KL_ln:∀ (t:T) (D:Nat),KL (t.ln D)=t.tk
 | .row i,D=>by refine (?_:KL [(D,rowX i)]=_); rw [KL_one,K_row]; rfl
 | .b0 s,D=>KL_BS s D (fun _=>[]) [] fun _=>rfl
 | .b1 s k,D=>KL_BS s D (fun D'=>[k.ln D']) k.tk fun D'=>by rw [List.flatten_cons,List.flatten_nil,List.append_nil,KL_ln k]
 | .b2 s k l,D=>by
  have:=KL_BS s D (fun D'=>[k.ln D',l.ln D']) (k.tk++l.tk) fun D'=>by rw [List.flatten_cons,List.flatten_cons,List.flatten_nil,List.append_nil,KL_app,KL_ln k,KL_ln l]
  rw [List.append_assoc] at this
  exact this
 | .u s k,D=>by
  have ih:=KL_ln k
  cases s with
  | ifs a=>
   refine (?_:KL (undL (ifX a) k.isB D (k.ln (cond k.isB D (D+1))))=ifT a++(k.tk++[]))
   rw [KL_und _ _ _ ih,K_if,List.append_nil]
  | loop h=>
   refine (?_:KL (undL h.x k.isB D (k.ln (cond k.isB D (D+1))))=h.toks++(k.tk++[]))
   rw [KL_und _ _ _ ih,K_h,List.append_nil]
  | lab a=>
   refine e2_1 (ln_hd k D) fun x r e=>?_
   have:=ih D
   rw [e,KL_cons] at this
   refine (?_:K (lt a++[58,32]++fstL (k.ln D))++KL (k.ln D).tail=[lt a,[58]]++(k.tk++[]))
   rw [List.append_nil,← this,e,List.append_assoc]
   have sg:=K_sg (lt a) ([32]++x) (c:=58) (by decide) (by decide +kernel)
   rw [K_b',K_lt] at sg
   refine (?_:K (lt a++58 :: ([32]++x))++KL r=_)
   refine sg▸?_; rfl
  | dow a=>
   have t:=KL_tail (blk:=k.isB) (u:=undL [100,111] k.isB D (k.ln (cond k.isB D (D+1)))) ([119,104,105,108,101,32,40]++lt a++[41,59]) [] D [] (und_hd _ _ _ _).ne (fun a=>by rw [K_nil,List.append_nil,List.append_nil])
   rw [List.append_nil,K_nil,KL_und _ _ _ ih,K_wh] at t
   refine (?_:KL ((tailL k.isB (undL [100,111] k.isB D (k.ln (cond k.isB D (D+1)))) ([119,104,105,108,101,32,40]++lt a++[41,59])).1++[(D,(tailL k.isB (undL [100,111] k.isB D (k.ln (cond k.isB D (D+1)))) ([119,104,105,108,101,32,40]++lt a++[41,59])).2)])=[[100,111]]++(k.tk++_))
   rw [t,show K [100,111]=[[100,111]] from by decide +kernel,List.append_assoc]; rfl
 | .ie a k l,D=>by
  have ik:=KL_ln k
  have il:=KL_ln l
  have he:K [101,108,115,101]=[[101,108,115,101]]:=by decide +kernel
  have tf:=fun s rest hs=>KL_tail (blk:=k.isB) (u:=undL (ifX a) k.isB D (k.ln (cond k.isB D (D+1)))) [101,108,115,101] s D rest (und_hd _ _ _ _).ne hs
  rw [KL_und _ _ _ ik,K_if,he] at tf
  have hb:∀ x a:Txt,K (a++([32]++x))=K a++K ([32]++x):=fun x a=>by rw [K_b',← List.append_assoc,K_b]
  refine e2_1 (ln_hd l D) fun x r e=>?_
  have iD:=il D
  rw [e,KL_cons] at iD
  refine (?_:KL (ieL D l.isIf l.isB (tailL k.isB (undL (ifX a) k.isB D (k.ln (cond k.isB D (D+1)))) [101,108,115,101]) fun D'=>l.ln D')=ifT a++(k.tk++([101,108,115,101] :: l.tk)))
  have one:KL ((tailL k.isB (undL (ifX a) k.isB D (k.ln (cond k.isB D (D+1)))) [101,108,115,101]).1++(D,(tailL k.isB (undL (ifX a) k.isB D (k.ln (cond k.isB D (D+1)))) [101,108,115,101]).2++[32]++fstL (l.ln D)) :: (l.ln D).tail)=ifT a++(k.tk++([101,108,115,101] :: l.tk)):=by
   rw [List.append_assoc _ [32],tf _ _ (hb _),K_b',e,← iD,List.append_assoc]; rfl
  unfold ieL
  cases l.isIf with
  | true=>exact one
  | false=>
   cases l.isB with
   | true=>exact one
   | false=>
    have:=tf [] (l.ln (D+1)) (fun a=>by rw [K_nil,List.append_nil,List.append_nil])
    rw [List.append_nil,K_nil,il,List.append_assoc] at this
    exact this
section
variable {W d:Nat}
noncomputable def lnV (l:Ln):List V:=l.map fun p=>.list [.int (p.1:Int),.str p.2]
theorem lnV_app (a b:Ln):lnV (a++b)=lnV a++lnV b:=List.map_append
theorem lnV_pure:∀ l:Ln,V.pures (lnV l)=true
 | []=>rfl
 | p :: l=>by refine (?_:(true && V.pures (lnV l))=true); rw [lnV_pure l]; rfl
noncomputable def tot (l:Ln):Nat:=(l.map fun p=>p.2.length+1).sum
theorem tot_app (a b:Ln):tot (a++b)=tot a+tot b:=by unfold tot; rw [List.map_append,List.sum_append]
theorem tot_cons (p:Nat×Txt) (l:Ln):tot (p :: l)=p.2.length+1+tot l:=rfl
theorem tot_one (D:Nat) (x:Txt):tot [(D,x)]=x.length+1:=rfl
theorem len_tot:∀ l:Ln,l.length≤tot l
 | []=>Nat.le_refl _
 | p :: l=>by have:=len_tot l; rw [tot_cons,List.length_cons]; lia
theorem fst_tot (l:Ln):(fstL l).length≤tot l:=by
 cases l with
 | nil=>exact Nat.le_refl _
 | cons p l=>refine (?_:p.2.length≤_); rw [tot_cons]; lia
theorem tl_tot (l:Ln):(fstL l).length+tot l.tail≤tot l:=by
 cases l with
 | nil=>exact Nat.le_refl _
 | cons p l=>refine (?_:p.2.length+tot l≤_); rw [tot_cons]; lia
theorem und_tot (head:Txt) (blk:Bool) (D:Nat) (ls:Ln):tot (undL head blk D ls)≤head.length+2+tot ls:=by
 have:=tl_tot ls
 cases blk with
 | true=>refine (?_:tot ((D,head++[32]++fstL ls) :: ls.tail)≤_); rw [tot_cons]; rw [List.length_append,List.length_append,List.length_cons,List.length_nil]; lia
 | false=>refine (?_:tot ((D,head) :: ls)≤_); rw [tot_cons]; refine (?_:head.length+1+_≤_); lia
theorem lst_tot {l:Ln} (h:l≠[]):tot l.dropLast+((lstL l).length+1)=tot l:=by
 have e:=List.dropLast_concat_getLast h
 have k:lstL l=(l.getLast h).2:=by unfold lstL; exact (List.getLast?_eq_some_getLast h)▸rfl
 have:=tot_app l.dropLast [l.getLast h]
 rw [e] at this
 refine this▸k▸?_; rfl
theorem tail_tot {blk:Bool} {u:Ln} (w:Txt) (h:u≠[]):tot (tailL blk u w).1+((tailL blk u w).2.length+1)≤tot u+w.length+2:=by
 cases blk with
 | false=>show tot u+(w.length+1)≤_; lia
 | true=>
  have:=lst_tot h
  show tot u.dropLast+((lstL u++[32]++w).length+1)≤_
  rw [List.length_append,List.length_append,List.length_cons,List.length_nil]; lia
theorem bs_tot (s:BS) (D n:Nat) {f:Nat→List Ln} (h:∀ D,tot (f D).flatten≤n):tot (s.ln D f)≤n+60:=by
 have hb:∀ (head:Txt) (ks:List Ln),head.length<20→tot ks.flatten≤n→tot (braL head D ks)≤n+60:=fun head ks hh hk=>by
  unfold braL
  cases ks.isEmpty with
  | true=>show (head++_).length+1+0≤_; rw [List.length_append,List.length_cons,List.length_cons,List.length_nil]; lia
  | false=>show tot ((D,head++_) :: (ks.flatten++[_]))≤_; rw [tot_cons,tot_app,tot_one]; show (head++_).length+1+_≤_; rw [List.length_append,List.length_cons,List.length_nil,List.length_cons,List.length_nil]; lia
 cases s with
 | block=>exact hb [] _ (Nat.le_of_ble_eq_true rfl) (h _)
 | tr=>exact hb _ _ (Nat.le_of_ble_eq_true rfl) (h _)
 | sw a=>
  have:=h (D+2)
  show tot (_ :: _ :: ((f (D+2)).flatten++[_]))≤_
  rw [tot_cons,tot_cons,tot_app,tot_one]
  show 12+1+(8+1+(_+(1+1)))≤_
  lia
theorem ln_tot:∀ (t:T) (D:Nat),tot (t.ln D)≤100 * t.sz
 | .row i,D=>by have:=rowX_len i; show (rowX i).length+1+0≤100 * 1; lia
 | .b0 s,D=>by have:=bs_tot s D 0 (f:=fun _=>[]) fun _=>Nat.le_refl _; show tot (s.ln D _)≤100 * 1; lia
 | .b1 s k,D=>by
  have:=bs_tot s D (100 * k.sz) (f:=fun D'=>[k.ln D']) fun D=>by rw [List.flatten_cons,List.flatten_nil,List.append_nil]; exact ln_tot k D
  show tot (s.ln D _)≤100 * (k.sz+1)
  lia
 | .b2 s k l,D=>by
  have:=bs_tot s D (100 * k.sz+100 * l.sz) (f:=fun D'=>[k.ln D',l.ln D']) fun D=>by
   have:=ln_tot k D
   have:=ln_tot l D
   rw [List.flatten_cons,List.flatten_cons,List.flatten_nil,List.append_nil,tot_app]; lia
  show tot (s.ln D _)≤100 * (k.sz+l.sz+1)
  lia
 | .u s k,D=>by
  have ik:=ln_tot k
  show tot (s.ln D k.isB fun D'=>k.ln D')≤100 * (k.sz+1)
  cases s with
  | ifs a=>have:=und_tot (ifX a) k.isB D (k.ln (cond k.isB D (D+1))); have:=ik (cond k.isB D (D+1)); show tot (undL (ifX a) k.isB D (k.ln (cond k.isB D (D+1))))≤_; rw [show (ifX a).length=6 from rfl] at *; lia
  | loop h=>have:=und_tot h.x k.isB D (k.ln (cond k.isB D (D+1))); have:=ik (cond k.isB D (D+1)); have:=Hx_len h; show tot (undL h.x k.isB D (k.ln (cond k.isB D (D+1))))≤_; lia
  | lab a=>
   have:=tl_tot (k.ln D)
   have:=ik D
   show tot ((D,lt a++[58,32]++fstL (k.ln D)) :: (k.ln D).tail)≤_
   rw [tot_cons]
   show (lt a++[58,32]++fstL (k.ln D)).length+1+_≤_
   rw [List.length_append,show (lt a++[58,32]:Txt).length=3 from rfl]; lia
  | dow a=>
   have h1:=und_tot [100,111] k.isB D (k.ln (cond k.isB D (D+1)))
   have:=ik (cond k.isB D (D+1))
   have h2:=tail_tot (blk:=k.isB) ([119,104,105,108,101,32,40]++lt a++[41,59]) (und_hd [100,111] k.isB D (k.ln (cond k.isB D (D+1)))).ne
   rw [show ([119,104,105,108,101,32,40]++lt a++[41,59]:Txt).length=10 from rfl] at h2
   rw [show ([100,111]:Txt).length=2 from rfl] at h1
   show tot ((tailL k.isB (undL [100,111] k.isB D (k.ln (cond k.isB D (D+1)))) ([119,104,105,108,101,32,40]++lt a++[41,59])).1++[(D,(tailL k.isB (undL [100,111] k.isB D (k.ln (cond k.isB D (D+1)))) ([119,104,105,108,101,32,40]++lt a++[41,59])).2)])≤_
   rw [tot_app,tot_one]; lia
 | .ie a k l,D=>by
  have ik:=ln_tot k (cond k.isB D (D+1))
  have il:=ln_tot l
  have h1:=und_tot (ifX a) k.isB D (k.ln (cond k.isB D (D+1)))
  have h2:=tail_tot (blk:=k.isB) [101,108,115,101] (und_hd (ifX a) k.isB D (k.ln (cond k.isB D (D+1)))).ne
  rw [show ([101,108,115,101]:Txt).length=4 from rfl] at h2
  rw [show (ifX a).length=6 from rfl] at h1
  show tot (ieL D l.isIf l.isB (tailL k.isB (undL (ifX a) k.isB D (k.ln (cond k.isB D (D+1)))) [101,108,115,101]) fun D'=>l.ln D')≤100 * (k.sz+l.sz+1)
  unfold ieL
  rw [tot_app]
  cases l.isIf with
  | true=>
   have:=tl_tot (l.ln D)
   have:=il D
   show _+tot ((D,_++[32]++fstL (l.ln D)) :: (l.ln D).tail)≤_
   rw [tot_cons]
   show _+((_++[32]++fstL (l.ln D)).length+1+_)≤_
   rw [List.length_append,List.length_append,List.length_cons,List.length_nil]; lia
  | false=>
   have:=und_tot (tailL k.isB (undL (ifX a) k.isB D (k.ln (cond k.isB D (D+1)))) [101,108,115,101]).2 l.isB D (l.ln (cond l.isB D (D+1)))
   have:=il (cond l.isB D (D+1))
   show _+tot (undL (tailL k.isB (undL (ifX a) k.isB D (k.ln (cond k.isB D (D+1)))) [101,108,115,101]).2 l.isB D (l.ln (cond l.isB D (D+1))))≤_
   lia
noncomputable def shB (w x:Txt):Bool:=decide (w.length<1000) && decide ((replace w [40,32] [40]).length<1000) && decide ((replace (replace w [40,32] [40]) [32,41] [41]).length<1000) && decide (replace (replace (replace w [40,32] [40]) [32,41] [41]) [32,59] [59]=x)
theorem o_repl {t a b:Txt} (h:t.length<1000) (hab:a≠b) (hb:b.length<10):replV (.str t) a b=some (.str (replace t a b)):=if_pos ⟨hab,by lia,hb⟩
theorem shown_ok {w x:Txt} (h:shB w x=true) {σ:St}:callF prog W (d+1) 53 [.str w] σ=some (.str x,σ):=by
 unfold shB at h
 simp only [Bool.and_eq_true] at h
 obtain ⟨⟨⟨h1,h2⟩,h3⟩,h4⟩:=h
 refine call_p (fn:=⟨1,1,b_law_shown⟩) rfl rfl rfl ?_
 rw [← of_decide_eq_true h4]
 exact run_ret (ev_repl (ev_repl (ev_repl (ev_x rfl) (o_repl (of_decide_eq_true h1) (by decide) (by decide))) (o_repl (of_decide_eq_true h2) (by decide) (by decide))) (o_repl (of_decide_eq_true h3) (by decide) (by decide))) ⟨rfl,_,rfl⟩
theorem sh_row:∀ i:Fin 8,shB (sp (rowT i)) (rowX i)=true:=by decide +kernel
theorem sh_if:∀ a:Lt,shB (sp (ifT a)) (ifX a)=true:=by decide +kernel
theorem sh_H:∀ h:H,shB (sp h.toks) h.x=true:=H.check (all_at 0 4 (by decide +kernel) (all_at 4 4 (by decide +kernel) (all_at 8 4 (by decide +kernel) (all_at 12 4 (by decide +kernel) (all_at 16 4 (by decide +kernel) (all_at 20 4 (by decide +kernel) (all_at 24 4 (by decide +kernel) (all_at 28 4 (by decide +kernel) (all_at 32 4 (by decide +kernel) (all_at 36 4 (by decide +kernel) (all_at 40 4 (by decide +kernel) (all_at 44 4 (by decide +kernel) (all_at 48 4 (by decide +kernel) (all_at 52 4 (by decide +kernel) (all_at 56 4 (by decide +kernel) (all_at 60 4 (by decide +kernel) (all_at 64 4 (by decide +kernel) (all_at 68 4 (by decide +kernel) (all_at 72 4 (by decide +kernel) (all_at 76 4 (by decide +kernel) (all_at 80 4 (by decide +kernel) (all_at 84 4 (by decide +kernel) (all_at 88 4 (by decide +kernel) (all_at 92 4 (by decide +kernel) (by decide +kernel)))))))))))))))))))))))))
noncomputable def T.srt:T→Txt
 | .row _=>[114,111,119]
 | .b0 s=>s.sort
 | .b1 s _=>s.sort
 | .b2 s _ _=>s.sort
 | .u s _=>s.sort
 | .ie _ _ _=>[105,102]
theorem idx_srt (t:T) (σ:St):index t.v (.int 0) σ=some (.str t.srt):=by cases t <;> rfl
theorem srt_B (t:T) (σ:St):cmpop .eq (.str t.srt) (.str [98,108,111,99,107]) σ=some t.isB:=by
 cases t with
 | b0 s=>cases s <;> rfl
 | b1 s k=>cases s <;> rfl
 | b2 s k l=>cases s <;> rfl
 | u s k=>cases s <;> rfl
 | _=>rfl
theorem srt_if (t:T) (σ:St):cmpop .eq (.str t.srt) (.str [105,102]) σ=some t.isIf:=by
 cases t with
 | b0 s=>cases s <;> rfl
 | b1 s k=>cases s <;> rfl
 | b2 s k l=>cases s <;> rfl
 | u s k=>cases s <;> rfl
 | _=>rfl
noncomputable def Li (W d:Nat) (v:V) (D:Nat) (l:Ln):Prop:=∀ σ,callF prog W d 57 [v,.int (D:Int)] σ=some (.list (lnV l),σ)
theorem idx_ln {l:Ln} {n:Nat} (hl:tot l<n) (hn:n≤999000) (h:l≠[]) (σ:St):∃ p:Nat×Txt,index (.list (lnV l)) (.int 0) σ=some (.list [.int (p.1:Int),.str p.2])∧fstL l=p.2∧slice (.list (lnV l)) (some (.int 1)) none=some (.list (lnV l.tail)):=by
 cases l with
 | nil=>exact absurd rfl h
 | cons p l=>
  have:=len_tot (p :: l)
  rw [List.length_cons] at this
  refine ⟨p,ati_nat (j:=0) (by unfold lnV; rw [List.length_map,List.length_cons]; lia) rfl,rfl,?_⟩
  show slice (.list (V.list [.int (p.1:Int),.str p.2] :: lnV l)) (some (.int 1)) none=_
  have hz:(lnV l).length=l.length:=by unfold lnV; rw [List.length_map]
  show (if 1000000≤(V.list [.int (p.1:Int),.str p.2] :: lnV l).length then none else (bound _ 0 (some (.int 1))).bind fun a=>(bound _ _ none).map fun b=>V.list (((V.list [.int (p.1:Int),.str p.2] :: lnV l).take b).drop a))=_
  rw [List.length_cons,hz,if_neg (by lia)]
  have b1:bound (l.length+1) 0 (some (.int 1))=some 1:=by
   show some (if _ then _ else _)=_
   rw [if_pos (by decide)]
   congr 1
  rw [b1]
  show some (V.list (((V.list [.int (p.1:Int),.str p.2] :: lnV l).take (l.length+1)).drop 1))=_
  rw [List.take_of_length_le (by rw [List.length_cons,hz]; exact Nat.le_refl _)]; rfl
theorem under_ok {t:T} {head:Txt} {D:Nat} {σ:St} (hs:t.sz<300) (hh:head.length<40000) (h:Li W d t.v (cond t.isB D (D+1)) (t.ln (cond t.isB D (D+1)))) :
  callF prog W (d+1) 54 [.str head,t.v,.int (D:Int)] σ=some (.list (lnV (undL head t.isB D (t.ln (cond t.isB D (D+1))))),σ):=by
 have hb:=ln_tot t (cond t.isB D (D+1))
 have hne:=(ln_hd t (cond t.isB D (D+1))).ne
 refine call_p (fn:=⟨3,4,b_law_under⟩) rfl rfl (lnV_pure _) ?_
 show Run W _ b_law_under [some (.str head),some t.v,some (.int (D:Int)),none] _ _
 have hi:=idx_srt t
 have hB:=srt_B t
 obtain ⟨p,e1,e2,e3⟩:=idx_ln (n:=40000) (by lia) (by lia) hne (σ++[])
 have hf:=fst_tot (t.ln (cond t.isB D (D+1)))
 rw [e2] at hf
 have hl:=len_tot (t.ln (cond t.isB D (D+1)))
 have hl':(lnV (t.ln (cond t.isB D (D+1)))).length<40000:=by unfold lnV; rw [List.length_map]; lia
 have hl2:(lnV (t.ln (cond t.isB D (D+1))).tail).length<40000:=by unfold lnV; rw [List.length_map,List.length_tail]; lia
 have hc:=h (σ++[])
 generalize t.ln (cond t.isB D (D+1))=ls at *
 unfold b_law_under
 cases q:t.isB with
 | true=>
  rw [q] at hB hc
  have hc:callF prog W d 57 [t.v,.int (D:Int)] (σ++[])=some (.list (lnV ls),σ++[]):=hc
  repeat' (first | wtm_at "qa" | ((with_reducible show callF _ _ _ _ _ _=_); first | exact hc) | exact hi _ | exact hB _ | exact e1 | exact e3 | wtm_at "qb")
  exact ⟨by show _=Ctl.ret (V.list (lnV ((D,head++[32]++fstL ls) :: ls.tail))); rw [e2]; rfl,_,rfl⟩
 | false=>
  rw [q] at hB hc
  have hc:callF prog W d 57 [t.v,.int ((D:Int)+1)] (σ++[])=some (.list (lnV ls),σ++[]):=hc
  repeat' (first | wtm_at "qa" | ((with_reducible show callF _ _ _ _ _ _=_); first | exact hc) | exact hi _ | exact hB _ | wtm_at "qb")
theorem tail_okW {t:T} {u:Ln} {w:Txt} {σ:St} (hu:tot u<40000) (hne:u≠[]) (hw:w.length<100) :
  callF prog W (d+1) 55 [.list (lnV u),t.v,.str w] σ=some (.tup [.list (lnV (tailL t.isB u w).1),.str (tailL t.isB u w).2],σ):=by
 have hB:=srt_B t
 have hi:=idx_srt t
 refine call_p (fn:=⟨3,3,b_law_tail⟩) rfl rfl (by show (V.pures _ && (true && true))=true; rw [lnV_pure]; rfl) ?_
 show Run W _ b_law_tail [some (.list (lnV u)),some t.v,some (.str w)] _ _
 unfold b_law_tail
 cases q:t.isB with
 | false=>
  rw [q] at hB
  repeat' (first | wtm_at "qa" | exact hi _ | exact hB _ | wtm_at "qb")
 | true=>
  rw [q] at hB
  have hl:=len_tot u
  have e:=List.dropLast_concat_getLast hne
  have k:lstL u=(u.getLast hne).2:=by unfold lstL; rw [List.getLast?_eq_some_getLast hne]
  have ht:=lst_tot hne
  have ev:lnV u=lnV u.dropLast++[.list [.int ((u.getLast hne).1:Int),.str (u.getLast hne).2]]:=by
   have:=lnV_app u.dropLast [u.getLast hne]
   rw [e] at this
   exact this
  have hz:(lnV u).length=u.length:=by unfold lnV; rw [List.length_map]
  have hz1:(lnV u.dropLast).length=u.length - 1:=by unfold lnV; rw [List.length_map,List.length_dropLast]
  have e1:∀ σ,index (.list (lnV u)) (.int (-1)) σ=some (.list [.int ((u.getLast hne).1:Int),.str (u.getLast hne).2]):=fun σ=>by
   rw [ev]
   exact ati_last (by rw [hz1]; lia)
  have hpos:1≤u.length:=List.length_pos_iff.mpr hne
  have e2:slice (.list (lnV u)) none (some (.int (-1)))=some (.list (lnV u.dropLast)):=by
   show (if 1000000≤(lnV u).length then none else (bound _ 0 none).bind fun a=>(bound _ _ (some (.int (-1)))).map fun b=>V.list (((lnV u).take b).drop a))=_
   rw [hz,if_neg (by lia)]
   have b1:bound u.length u.length (some (.int (-1)))=some (u.length - 1):=by
    show some (if _ then _ else _)=_
    rw [if_neg (by decide)]
    congr 1
    lia
   rw [b1]
   show some (V.list (((lnV u).take (u.length - 1)).drop 0))=_
   rw [List.drop_zero,ev,List.take_left' hz1]
  rw [k] at ht
  have hlast:((u.getLast hne).2).length<50000:=by lia
  repeat' (first | wtm_at "qa" | exact hi _ | exact hB _ | exact e1 _ | exact e2 | wtm_at "qb")
  exact ⟨by show _=Ctl.ret (V.tup [.list (lnV u.dropLast),.str (lstL u++[32]++w)]); rw [k],_,rfl⟩
end
section
variable {W d:Nat}
inductive LR (W d D:Nat):List V→List Ln→Prop
 | nil:LR W d D [] []
 | cons {v:V} {l:Ln} {vs:List V} {ls:List Ln}:Li W d v D l→LR W d D vs ls→LR W d D (v :: vs) (l :: ls)
theorem for_ext {p z q j D:Nat} {c:Nat} {σ:St} {R:Loc→St→Prop} (hpz:z≠p) (hqz:z≠q):∀ {vs:List V} {ls:List Ln} {ρ:Loc} {r:St} {xs:List V},LR W d (D+c) vs ls→z<ρ.length→ρ[p]?=some (some (.loc (σ.length+j)))→ρ[q]?=some (some (.int (D:Int)))→r[j]?=some (.list xs)→xs.length+ls.flatten.length<40000→
  (∀ y,R (ρ.set z y) (σ++r.set j (.list (xs++lnV ls.flatten))))→
  For (fun v ρ' σ'=>evalSs prog W (callF prog W d) [S.expr (E.meth (E.x p) 1 [E.call 57 [E.x z,E.bin .add (E.x q) (E.c (V.int (c:Int)))]])] (ρ'.set z (some v)) σ') vs ρ (σ++r) R:=by
 intro vs ls ρ r xs c'
 induction c' generalizing ρ r xs with
 | nil=>
  intro hz hp hq hj hn h
  refine for_nil ?_
  refine e1_1 (set_self (ρ:=ρ) (z:=z)) fun y hy=>?_
  have:=h y
  rw [hy,show lnV ([]:List Ln).flatten=[] from rfl,List.append_nil,setr_self hj] at this
  exact this
 | @cons v l vs ls hv _ ih=>
  intro hz hp hq hj hn h
  rw [List.flatten_cons,List.length_append] at hn
  have hj':=(List.getElem?_eq_some_iff.mp hj).1
  have hlz:(lnV l).length=l.length:=by unfold lnV; rw [List.length_map]
  refine for_cons (run_expr (ev_methB (ev_x (v:=.loc (σ.length+j)) ?_) (o_cls hj) (o_kind hj rfl) (evs_cons (ev_call (evs_cons (ev_x (List.getElem?_set_self hz)) (evs_cons (ev_bin (ev_x (v:=.int (D:Int)) ?_) ev_c rfl) evs_nil)) (hv _)) evs_nil) (o_ext hj (by rw [hlz]; lia))) (run_nil ⟨rfl,?_⟩))
  ·rw [List.getElem?_set_ne hpz]; exact hp
  ·rw [List.getElem?_set_ne hqz]; exact hq
  ·refine ih (by rw [List.length_set]; exact hz) (by rw [List.getElem?_set_ne hpz]; exact hp) (by rw [List.getElem?_set_ne hqz]; exact hq) (by rw [List.getElem?_set_self hj']) (by refine List.length_append▸hlz▸?_; lia) fun y=>?_
   have:=h y
   rw [List.flatten_cons,lnV_app,← List.append_assoc] at this
   rw [List.set_set,List.set_set]
   exact this
theorem LR.length {D:Nat} {vs:List V} {ls:List Ln} (h:LR W d D vs ls):vs.length=ls.length:=by
 induction h with
 | nil=>rfl
 | cons _ _ ih=>rw [List.length_cons,List.length_cons,ih]
theorem braced_okW {D:Nat} {head:Txt} {vs:List V} {ls:List Ln} {σ:St} (c:LR W d (D+1) vs ls) (hh:head.length<100) (hn:ls.length<9) (hl:ls.flatten.length<30000) :
  callF prog W (d+1) 56 [.str head,.list vs,.int (D:Int)] σ=some (.list (lnV (braL head D ls)),σ):=by
 refine call_p (fn:=⟨3,5,b_law_braced⟩) rfl rfl (lnV_pure _) ?_
 refine (?_:Run W _ (S.ifs _ _ _ :: S.asg 3 _ :: S.for 4 _ _ :: S.ret _ :: []) [some (.str head),some (.list vs),some (.int (D:Int)),none,none] _ _)
 have hlen:=c.length
 have hz:(lnV ls.flatten).length=ls.flatten.length:=by unfold lnV; rw [List.length_map]
 cases ls with
 | nil=>
  cases c
  unfold braL
  repeat' (first | wtm_at "qa" | wtm_at "qb")
 | cons l ls=>
  refine run_ifF (et_cmp (ev_len (ev_x rfl) (o_lenL (by rw [hlen]; lia))) ev_c ?_) ?_
  ·show some (decide _)=_
   rw [hlen,List.length_cons,decide_eq_false (by lia)]
  ·refine (?_:Run W _ (S.asg 3 _ :: S.for 4 _ _ :: S.ret _ :: []) _ _ _)
   refine run_asg (b_listT (r:=[]) (evs_cons (ev_listF (evs_cons (ev_x rfl) (evs_cons (ev_bin (ev_x rfl) ev_c (add_ss (by rw [List.length_cons,List.length_nil]; lia))) evs_nil)) (Nat.le_of_ble_eq_true rfl)) evs_nil) (Nat.le_of_ble_eq_true rfl) rfl rfl) ?_
   refine run_for (ev_x rfl) rfl ?_
   refine for_ext (p:=3) (z:=4) (q:=2) (c:=1) (j:=0) (D:=D) (by decide) (by decide) c (Nat.le_of_ble_eq_true rfl) rfl rfl rfl (by refine List.length_cons▸List.length_nil▸?_; lia) fun y=>?_
   refine run_ret (ev_bin (ev_x rfl) (ev_listF (evs_cons (ev_listF (evs_cons (ev_x rfl) (evs_cons ev_c evs_nil)) (Nat.le_of_ble_eq_true rfl)) evs_nil) (Nat.le_of_ble_eq_true rfl)) (o_addL (o_items (k:=0) rfl) rfl (by rw [List.length_append,hz,List.length_cons,List.length_nil,List.length_cons,List.length_nil]; lia))) ⟨?_,_,rfl⟩
   refine (?_:_=Ctl.ret (V.list (lnV ((D,head++[123]) :: ((l :: ls).flatten++[(D,[125])])))))
   rw [← List.cons_append,lnV_app]; rfl
theorem lines_ok:∀ (t:T) {d:Nat} {D:Nat},2 * t.dp+3≤d→t.sz<200→Li W d t.v D (t.ln D)
 | .row i,d,D,h,hs,σ=>by
  have h:2 * 1+3≤d:=h
  obtain ⟨d,rfl,hd⟩:=need h
  refine call_p (fn:=⟨2,9,b_law_lines⟩) rfl rfl (lnV_pure _) ?_
  show Run W _ b_law_lines [some (ter [114,111,119] (sp (rowT i)) []),some (.int (D:Int)),none,none,none,none,none,none,none] _ _
  have hw:∀ σ,callF prog W d 53 [.str (sp (rowT i))] σ=some (.str (rowX i),σ):=fun σ=>by
   obtain ⟨d,rfl,_⟩:=need (n:=3) hd
   exact shown_ok (sh_row i)
  unfold b_law_lines
  repeat' (first | wtm_at "qa" | ((with_reducible show callF _ _ _ _ _ _=_); first | exact hw _) | wtm_at "qb")
 | .b0 s,d,D,h,hs,σ=>by
  have h:2 * 1+3≤d:=h
  obtain ⟨d,rfl,hd⟩:=need h
  exact go s (f:=fun _=>[]) (by lia) (fun d' _ D=>.nil) (fun D=>Nat.le_of_ble_eq_true rfl) (fun D=>Nat.le_of_ble_eq_true rfl) D σ
 | .b1 s k,d,D,h,hs,σ=>by
  have h:2 * (k.dp+1)+3≤d:=h
  have hs:k.sz+1<200:=hs
  obtain ⟨d,rfl,hd⟩:=need (n:=2 * k.dp+4) (by omega)
  exact go s (f:=fun D'=>[k.ln D']) (by lia) (fun d' _ D=>.cons (lines_ok k (by lia) (by lia)) .nil) (fun D=>Nat.le_of_ble_eq_true rfl) (fun D=>by
   have:=ln_tot k D
   have:=len_tot (k.ln D)
   rw [List.flatten_cons,List.flatten_nil,List.append_nil]; lia) D σ
 | .b2 s k l,d,D,h,hs,σ=>by
  have h:2 * (max k.dp l.dp+1)+3≤d:=h
  have hs:k.sz+l.sz+1<200:=hs
  obtain ⟨d,rfl,hd⟩:=need (n:=2 * max k.dp l.dp+4) (by omega)
  exact go s (f:=fun D'=>[k.ln D',l.ln D']) (by lia) (fun d' _ D=>.cons (lines_ok k (by lia) (by lia)) (.cons (lines_ok l (by lia) (by lia)) .nil)) (fun D=>Nat.le_of_ble_eq_true rfl) (fun D=>by
   have:=ln_tot k D
   have:=len_tot (k.ln D)
   have:=ln_tot l D
   have:=len_tot (l.ln D)
   rw [List.flatten_cons,List.flatten_cons,List.flatten_nil,List.append_nil,List.length_append]; lia) D σ
 | .u s k,d,D,h,hs,σ=>by
  have h:2 * (k.dp+1)+3≤d:=h
  have hs:k.sz+1<200:=hs
  obtain ⟨d,rfl,hd⟩:=need (n:=2 * k.dp+4) (by omega)
  have ik:∀ D,Li W d k.v D (k.ln D):=fun D=>lines_ok k (by lia) (by lia)
  have ik':∀ D,Li W (d - 1) k.v D (k.ln D):=fun D=>lines_ok k (by lia) (by lia)
  have hlt:=ln_tot k
  have und:∀ (head:Txt) (σ:St),head.length<100→callF prog W d 54 [.str head,k.v,.int (D:Int)] σ=some (.list (lnV (undL head k.isB D (k.ln (cond k.isB D (D+1))))),σ):=fun head σ hh=>by
   have:=under_ok (W:=W) (d:=d - 1) (t:=k) (head:=head) (D:=D) (σ:=σ) (by lia) (by lia) (ik' _)
   rw [show d - 1+1=d by lia] at this
   exact this
  refine call_p (fn:=⟨2,9,b_law_lines⟩) rfl rfl (lnV_pure _) ?_
  cases s with
  | ifs a=>
   show Run W _ b_law_lines [some (ter [105,102] (sp (ifT a)) [k.v]),some (.int (D:Int)),none,none,none,none,none,none,none] _ _
   have hw:∀ σ,callF prog W d 53 [.str (sp (ifT a))] σ=some (.str (ifX a),σ):=fun σ=>by
    obtain ⟨d,rfl,_⟩:=need (n:=2 * k.dp+3) hd
    exact shown_ok (sh_if a)
   have hu:=fun σ=>und (ifX a) σ (Nat.le_of_ble_eq_true rfl)
   unfold b_law_lines
   repeat' (first | wtm_at "qa" | ((with_reducible show callF _ _ _ _ _ _=_); first | exact hw _ | exact hu _) | wtm_at "qb")
  | loop hh=>
   show Run W _ b_law_lines [some (ter [108,111,111,112] (sp hh.toks) [k.v]),some (.int (D:Int)),none,none,none,none,none,none,none] _ _
   have hw:∀ σ,callF prog W d 53 [.str (sp hh.toks)] σ=some (.str hh.x,σ):=fun σ=>by
    obtain ⟨d,rfl,_⟩:=need (n:=2 * k.dp+3) hd
    exact shown_ok (sh_H hh)
   have hu:=fun σ=>und hh.x σ (by have:=Hx_len hh; lia)
   unfold b_law_lines
   repeat' (first | wtm_at "qa" | ((with_reducible show callF _ _ _ _ _ _=_); first | exact hw _ | exact hu _) | wtm_at "qb")
  | lab a=>
   show Run W _ b_law_lines [some (ter [108,97,98,101,108] (lt a) [k.v]),some (.int (D:Int)),none,none,none,none,none,none,none] _ _
   have hkD:=hlt D
   obtain ⟨p,e1,e2,e3⟩:=idx_ln (n:=40000) (by lia) (by lia) (ln_hd k D).ne (σ++[])
   have hf:=fst_tot (k.ln D)
   rw [e2] at hf
   have hl2:(lnV (k.ln D).tail).length<40000:=by have:=len_tot (k.ln D); unfold lnV; rw [List.length_map,List.length_tail]; lia
   have hc:=ik D (σ++[])
   have ha:(lt a).length=1:=rfl
   unfold b_law_lines
   repeat' (first | wtm_at "qa" | ((with_reducible show callF _ _ _ _ _ _=_); first | exact hc) | exact e1 | exact e3 | wtm_at "qb")
   exact ⟨by show _=Ctl.ret (V.list (lnV ((D,lt a++[58,32]++fstL (k.ln D)) :: (k.ln D).tail))); rw [e2]; rfl,_,rfl⟩
  | dow a=>
   show Run W _ b_law_lines [some (ter [100,111] (lt a) [k.v]),some (.int (D:Int)),none,none,none,none,none,none,none] _ _
   have hu:=fun σ=>und [100,111] σ (Nat.le_of_ble_eq_true rfl)
   have h1:=und_tot [100,111] k.isB D (k.ln (cond k.isB D (D+1)))
   rw [show ([100,111]:Txt).length=2 from rfl] at h1
   have hkD:=hlt (cond k.isB D (D+1))
   have ht:∀ σ,callF prog W d 55 [.list (lnV (undL [100,111] k.isB D (k.ln (cond k.isB D (D+1))))),k.v,.str ([119,104,105,108,101,32,40]++lt a++[41,59])] σ=some (.tup [.list (lnV (tailL k.isB (undL [100,111] k.isB D (k.ln (cond k.isB D (D+1)))) ([119,104,105,108,101,32,40]++lt a++[41,59])).1),.str (tailL k.isB (undL [100,111] k.isB D (k.ln (cond k.isB D (D+1)))) ([119,104,105,108,101,32,40]++lt a++[41,59])).2],σ):=fun σ=>by
    obtain ⟨d,rfl,_⟩:=need (n:=2 * k.dp+3) hd
    exact tail_okW (by lia) (und_hd _ _ _ _).ne (Nat.le_of_ble_eq_true rfl)
   have h2:=tail_tot (blk:=k.isB) ([119,104,105,108,101,32,40]++lt a++[41,59]) (und_hd [100,111] k.isB D (k.ln (cond k.isB D (D+1)))).ne
   rw [show ([119,104,105,108,101,32,40]++lt a++[41,59]:Txt).length=10 from rfl] at h2
   have h3:=len_tot (tailL k.isB (undL [100,111] k.isB D (k.ln (cond k.isB D (D+1)))) ([119,104,105,108,101,32,40]++lt a++[41,59])).1
   have hz:(lnV (tailL k.isB (undL [100,111] k.isB D (k.ln (cond k.isB D (D+1)))) ([119,104,105,108,101,32,40]++lt a++[41,59])).1).length<90000:=by unfold lnV; rw [List.length_map]; lia
   have ha:(lt a).length=1:=rfl
   unfold b_law_lines
   repeat' (first | wtm_at "qa" | ((with_reducible show callF _ _ _ _ _ _=_); first | exact hu _ | exact ht _) | wtm_at "qb")
   exact ⟨by show _=Ctl.ret (V.list (lnV (_++[(D,_)]))); rw [lnV_app]; rfl,_,rfl⟩
 | .ie a k l,d,D,h,hs,σ=>by
  have h:2 * (max k.dp l.dp+1)+3≤d:=h
  have hs:k.sz+l.sz+1<200:=hs
  obtain ⟨d,rfl,hd⟩:=need (n:=2 * max k.dp l.dp+4) (by omega)
  have ik':∀ D,Li W (d - 1) k.v D (k.ln D):=fun D=>lines_ok k (by lia) (by lia)
  have il:∀ D,Li W d l.v D (l.ln D):=fun D=>lines_ok l (by lia) (by lia)
  have il':∀ D,Li W (d - 1) l.v D (l.ln D):=fun D=>lines_ok l (by lia) (by lia)
  have hk:=ln_tot k (cond k.isB D (D+1))
  have h1:=und_tot (ifX a) k.isB D (k.ln (cond k.isB D (D+1)))
  have h2:=tail_tot (blk:=k.isB) [101,108,115,101] (und_hd (ifX a) k.isB D (k.ln (cond k.isB D (D+1)))).ne
  rw [show ([101,108,115,101]:Txt).length=4 from rfl] at h2
  rw [show (ifX a).length=6 from rfl] at h1
  have h3:=len_tot (tailL k.isB (undL (ifX a) k.isB D (k.ln (cond k.isB D (D+1)))) [101,108,115,101]).1
  have hz:(lnV (tailL k.isB (undL (ifX a) k.isB D (k.ln (cond k.isB D (D+1)))) [101,108,115,101]).1).length<50000:=by unfold lnV; rw [List.length_map]; lia
  have hu:∀ σ,callF prog W d 54 [.str (ifX a),k.v,.int (D:Int)] σ=some (.list (lnV (undL (ifX a) k.isB D (k.ln (cond k.isB D (D+1))))),σ):=fun σ=>by
   have:=under_ok (W:=W) (d:=d - 1) (t:=k) (head:=ifX a) (D:=D) (σ:=σ) (by lia) (Nat.le_of_ble_eq_true rfl) (ik' _)
   rw [show d - 1+1=d by lia] at this
   exact this
  have ht:∀ σ,callF prog W d 55 [.list (lnV (undL (ifX a) k.isB D (k.ln (cond k.isB D (D+1))))),k.v,.str [101,108,115,101]] σ=some (.tup [.list (lnV (tailL k.isB (undL (ifX a) k.isB D (k.ln (cond k.isB D (D+1)))) [101,108,115,101]).1),.str (tailL k.isB (undL (ifX a) k.isB D (k.ln (cond k.isB D (D+1)))) [101,108,115,101]).2],σ):=fun σ=>by
   obtain ⟨d,rfl,_⟩:=need (n:=2 * max k.dp l.dp+3) hd
   exact tail_okW (by lia) (und_hd _ _ _ _).ne (Nat.le_of_ble_eq_true rfl)
  have hw:∀ σ,callF prog W d 53 [.str (sp (ifT a))] σ=some (.str (ifX a),σ):=fun σ=>by
   obtain ⟨d,rfl,_⟩:=need (n:=2 * max k.dp l.dp+3) hd
   exact shown_ok (sh_if a)
  have hul:∀ σ,callF prog W d 54 [.str (tailL k.isB (undL (ifX a) k.isB D (k.ln (cond k.isB D (D+1)))) [101,108,115,101]).2,l.v,.int (D:Int)] σ=some (.list (lnV (undL (tailL k.isB (undL (ifX a) k.isB D (k.ln (cond k.isB D (D+1)))) [101,108,115,101]).2 l.isB D (l.ln (cond l.isB D (D+1))))),σ):=fun σ=>by
   have:=under_ok (W:=W) (d:=d - 1) (t:=l) (head:=(tailL k.isB (undL (ifX a) k.isB D (k.ln (cond k.isB D (D+1)))) [101,108,115,101]).2) (D:=D) (σ:=σ) (by lia) (by lia) (il' _)
   rw [show d - 1+1=d by lia] at this
   exact this
  refine call_p (fn:=⟨2,9,b_law_lines⟩) rfl rfl (lnV_pure _) ?_
  show Run W _ b_law_lines [some (ter [105,102] (sp (ifT a)) [k.v,l.v]),some (.int (D:Int)),none,none,none,none,none,none,none] (σ++[]) fun c ρ' σ'=>c = .ret (.list (lnV (ieL D l.isIf l.isB (tailL k.isB (undL (ifX a) k.isB D (k.ln (cond k.isB D (D+1)))) [101,108,115,101]) fun D'=>l.ln D')))∧∃ r,σ'=σ++r
  have hi:=idx_srt l
  have hB:=srt_if l
  have hlD:=ln_tot l D
  have h5:=und_tot (tailL k.isB (undL (ifX a) k.isB D (k.ln (cond k.isB D (D+1)))) [101,108,115,101]).2 l.isB D (l.ln (cond l.isB D (D+1)))
  have hlC:=ln_tot l (cond l.isB D (D+1))
  have h6:=len_tot (undL (tailL k.isB (undL (ifX a) k.isB D (k.ln (cond k.isB D (D+1)))) [101,108,115,101]).2 l.isB D (l.ln (cond l.isB D (D+1))))
  have hz3:(lnV (undL (tailL k.isB (undL (ifX a) k.isB D (k.ln (cond k.isB D (D+1)))) [101,108,115,101]).2 l.isB D (l.ln (cond l.isB D (D+1))))).length<200000:=by unfold lnV; rw [List.length_map]; lia
  have hp2:(tailL k.isB (undL (ifX a) k.isB D (k.ln (cond k.isB D (D+1)))) [101,108,115,101]).2.length<50000:=by lia
  obtain ⟨p,e1,e2,e3⟩:=idx_ln (n:=40000) (by lia) (by lia) (ln_hd l D).ne (σ++[])
  have hf:=fst_tot (l.ln D)
  rw [e2] at hf
  have hf:p.2.length<40000:=by lia
  have hl2:(lnV (l.ln D).tail).length<40000:=by have:=len_tot (l.ln D); unfold lnV; rw [List.length_map,List.length_tail]; lia
  have hc:=il D (σ++[])
  unfold ieL
  clear h1 h2 h3 hk h5 h6 hlC hlD ik' il il' hd h hs
  generalize (tailL k.isB (undL (ifX a) k.isB D (k.ln (cond k.isB D (D+1)))) [101,108,115,101])=tl at *
  generalize (undL (ifX a) k.isB D (k.ln (cond k.isB D (D+1))))=ul at *
  unfold b_law_lines
  cases q:l.isIf with
  | true=>
   rw [q] at hB
   repeat' (first | wtm_at "qa" | ((with_reducible show callF _ _ _ _ _ _=_); first | exact hw _ | exact hu _ | exact ht _ | exact hc) | exact hi _ | exact hB _ | exact e1 | exact e3 | wtm_at "qb")
   exact ⟨by show _=Ctl.ret (V.list (lnV (tl.1++(D,tl.2++[32]++fstL (l.ln D)) :: (l.ln D).tail))); rw [lnV_app,List.append_assoc,e2]; rfl,_,rfl⟩
  | false=>
   rw [q] at hB
   repeat' (first | wtm_at "qa" | ((with_reducible show callF _ _ _ _ _ _=_); first | exact hw _ | exact hu _ | exact ht _ | exact hul _) | exact hi _ | exact hB _ | wtm_at "qb")
   exact ⟨by show _=Ctl.ret (V.list (lnV (tl.1++undL tl.2 l.isB D (l.ln (cond l.isB D (D+1)))))); rw [lnV_app],_,rfl⟩
where
 go {W d:Nat} (s:BS) {vs:List V} {f:Nat→List Ln} (hd:4≤d) (c:∀ d',d - 1≤d'→∀ D,LR W d' D vs (f D)) (hn:∀ D,(f D).length<9) (hl:∀ D,(f D).flatten.length<30000) (D:Nat) (σ:St):callF prog W (d+1) 57 [ter s.sort s.word vs,.int (D:Int)] σ=some (.list (lnV (s.ln D f)),σ):=by
  have br:∀ (head:Txt) (σ:St),head.length<100→callF prog W d 56 [.str head,.list vs,.int (D:Int)] σ=some (.list (lnV (braL head D (f (D+1)))),σ):=fun head σ hh=>by
   have:=braced_okW (W:=W) (d:=d - 1) (D:=D) (head:=head) (σ:=σ) (c (d - 1) (Nat.le_refl _) (D+1)) hh (hn _) (hl _)
   rw [show d - 1+1=d by lia] at this
   exact this
  refine call_p (fn:=⟨2,9,b_law_lines⟩) rfl rfl (lnV_pure _) ?_
  cases s with
  | block=>
   show Run W _ b_law_lines [some (ter [98,108,111,99,107] [] vs),some (.int (D:Int)),none,none,none,none,none,none,none] _ _
   have hb:=br [] (σ++[]) (Nat.le_of_ble_eq_true rfl)
   unfold b_law_lines
   repeat' (first | wtm_at "qa" | ((with_reducible show callF _ _ _ _ _ _=_); first | exact hb) | wtm_at "qb")
  | tr=>
   show Run W _ b_law_lines [some (ter [116,114,121] [] vs),some (.int (D:Int)),none,none,none,none,none,none,none] _ _
   have hb:=br [116,114,121,32,123,125,32,102,105,110,97,108,108,121,32] (σ++[]) (Nat.le_of_ble_eq_true rfl)
   unfold b_law_lines
   repeat' (first | wtm_at "qa" | ((with_reducible show callF _ _ _ _ _ _=_); first | exact hb) | wtm_at "qb")
  | sw a=>
   show Run W _ b_law_lines [some (ter [115,119,105,116,99,104] (lt a) vs),some (.int (D:Int)),none,none,none,none,none,none,none] _ _
   have hz:(lnV (f (D+2)).flatten).length=(f (D+2)).flatten.length:=by unfold lnV; rw [List.length_map]
   have hlD:=hl (D+2)
   have key:∀ ss,Run W (callF prog W d) (S.for 6 (E.x 4) [S.expr (E.meth (E.x 5) 1 [E.call 57 [E.x 6,E.bin .add (E.x 1) (E.c (V.int 2))]])] :: S.ret (some (E.bin .add (E.x 5) (E.list false [E.list false [E.x 1,E.c (V.str [125])]]))) :: ss)
     [some (ter [115,119,105,116,99,104] (lt a) vs),some (.int (D:Int)),some (.str [115,119,105,116,99,104]),some (.str (lt a)),some (.list vs),some (.loc (σ.length+0)),none,none,none] (σ++[.list [.list [.int (D:Int),.str ([115,119,105,116,99,104,32,40]++lt a++[41,32,123])],.list [.int ((D:Int)+1),.str [100,101,102,97,117,108,116,58]]]]) fun c ρ' σ'=>c = .ret (.list (lnV (BS.ln (.sw a) D f)))∧∃ r,σ'=σ++r:=by
    intro ss
    refine run_for (ev_x rfl) rfl ?_
    refine for_ext (p:=5) (z:=6) (q:=1) (c:=2) (j:=0) (D:=D) (by decide) (by decide) (c d (by lia) (D+2)) (Nat.le_of_ble_eq_true rfl) rfl rfl rfl (by rw [List.length_cons,List.length_cons,List.length_nil]; lia) fun y=>?_
    refine run_ret (ev_bin (ev_x rfl) (ev_listF (evs_cons (ev_listF (evs_cons (ev_x rfl) (evs_cons ev_c evs_nil)) (Nat.le_of_ble_eq_true rfl)) evs_nil) (Nat.le_of_ble_eq_true rfl)) (o_addL (o_items (k:=0) rfl) rfl (by rw [List.length_append,hz,List.length_cons,List.length_cons,List.length_nil,List.length_cons,List.length_nil]; lia))) ⟨?_,_,rfl⟩
    show _=Ctl.ret (V.list (lnV ((D,[115,119,105,116,99,104,32,40]++lt a++[41,32,123]) :: (D+1,[100,101,102,97,117,108,116,58]) :: ((f (D+2)).flatten++[(D,[125])]))))
    rw [← List.cons_append,← List.cons_append,lnV_app]; rfl
   have ha:(lt a).length=1:=rfl
   unfold b_law_lines
   repeat' (first | exact key _ | wtm_at "qa" | wtm_at "qb")
end
section
set_option maxHeartbeats 2000000
variable {W d:Nat}
noncomputable def sd (xs:List Int) (n l:Nat):Cel:=.dict [(.str [110,117,109,115],.list (xs.map .int)),(.str [97,116],.int (n:Int)),(.str [108,101,102,116],.int (l:Int))]
theorem call_g {f:Nat} {fn:Fn} {args:List V} {v:V} {xs:List Int} {n l n' l':Nat} (hf:fns[f]?=some fn) (hl:args.length=fn.arity) (hn:n<n')
  (h:Run W (callF prog W d) fn.body (args.map some++List.replicate (fn.slots - fn.arity) none) [sd xs n l] fun c ρ' σ'=>c = .ret v∧σ'=[sd xs n' l']):callF prog W (d+1) f args [sd xs n l]=some (v,[sd xs n' l']):=by
 refine call_store hf hl h ?_
 intro w1_; refine e0_2 w1_ fun _ z=>?_
 have z:=(List.cons.inj z).1
 unfold sd at z
 have z:=(List.cons.inj (List.cons.inj (Cel.dict.inj z)).2).1
 have z:=V.int.inj (Prod.mk.inj z).2
 lia
noncomputable def ownL:List Int:=[0,0,0,5,1,0,2,15,9,3,14,4,12,1,1,15,2,14,0,10,15,1,3,6,2,8,0,11,4,13,7,1,3,2,5,0,9]
theorem pull_ok {xs:List Int} {n l m:Nat} (hx:xs.length<1000) (hm:0<m):∃ k:Nat,k<m∧callF prog W (d+1) 39 [.loc 0,.int (m:Int)] [sd xs n l]=some (.int (k:Int),[sd xs (n+1) l]):=by
 refine byC fun w3_=>?_
 have hj:n % 37<37:=Nat.mod_lt _ (by decide)
 obtain ⟨o,ho⟩:∃ o,ownL[n % 37]?=some o:=⟨_,List.getElem?_eq_getElem (by exact hj)⟩
 have hown:∀ σ,index (.tup (ownL.map V.int)) (.int ((n % 37:Nat):Int)) σ=some (.int o):=fun σ=>ati_nat (by decide) (by rw [List.getElem?_map,ho]; rfl)
 have fin:∀ x:Int,∃ k:Nat,k<m∧∀ σ,binop .mod (.int x) (.int (m:Int)) σ=some (.int (k:Int)):=fun x=>by
  have h1:=Int.emod_nonneg x (b:=(m:Int)) (by lia)
  have h2:=Int.emod_lt_of_pos x (b:=(m:Int)) (by lia)
  refine i1_2 ((x % (m:Int)).toNat) (by lia) (fun σ=>?_)
  rw [mod_ii (by lia),Int.toNat_of_nonneg h1]
 have hmod:∀ σ,binop .mod (.int (n:Int)) (.int 37) σ=some (.int ((n % 37:Nat):Int)):=fun σ=>by
  rw [mod_ii (by decide)]; rfl
 have hlen:∀ σ,lenV (.list (xs.map V.int)) σ=some (.int (xs.length:Int)):=fun σ=>by
  have:=o_lenL (σ:=σ) (xs:=xs.map V.int) (by rw [List.length_map]; lia)
  rw [List.length_map] at this; exact this
 refine w3_ ?_
 by_cases hq:n<xs.length
 ·refine e1_2 (fin (o+xs[n])) fun k hk hf=>?_
  refine i1_2 k hk (call_g (fn:=⟨2,4,b_law_pull⟩) rfl rfl (Nat.lt_succ_self _) ?_)
  refine (?_:Run W _ b_law_pull [some (.loc 0),some (.int (m:Int)),none,none] _ _)
  have hi:∀ σ,index (.list (xs.map V.int)) (.int (n:Int)) σ=some (.int xs[n]):=fun σ=>ati_nat (by rw [List.length_map]; lia) (by rw [List.getElem?_map,List.getElem?_eq_getElem hq]; rfl)
  have ht:∀ σ,cmpop .lt (.int (n:Int)) (.int (xs.length:Int)) σ=some true:=fun σ=>by show some (decide _)=_; rw [decide_eq_true (by lia)]
  unfold b_law_pull
  repeat' (first | wtm_at "qa" | exact hmod _ | exact hown _ | exact hlen _ | exact ht _ | exact hi _ | exact hf _ | wtm_at "qb")
  exact ⟨rfl,rfl⟩
 ·obtain ⟨k,hk,hf⟩:=fin o
  refine i1_2 k hk (call_g (fn:=⟨2,4,b_law_pull⟩) rfl rfl (Nat.lt_succ_self _) ?_)
  refine (?_:Run W _ b_law_pull [some (.loc 0),some (.int (m:Int)),none,none] _ _)
  have ht:∀ σ,cmpop .lt (.int (n:Int)) (.int (xs.length:Int)) σ=some false:=fun σ=>by show some (decide _)=_; rw [decide_eq_false (by lia)]
  unfold b_law_pull
  repeat' (first | wtm_at "qa" | exact hmod _ | exact hown _ | exact hlen _ | exact ht _ | exact hf _ | wtm_at "qb")
  exact ⟨rfl,rfl⟩
noncomputable def ltK (k:Nat):Lt:=⟨k % 6,Nat.mod_lt _ (by decide)⟩
theorem abc_ok:∀ k:Nat,k<5→∀ σ,index (.str [97,98,99,100,101]) (.int (k:Int)) σ=some (.str (lt (ltK k)))
 | 0,_,_=>rfl
 | 1,_,_=>rfl
 | 2,_,_=>rfl
 | 3,_,_=>rfl
 | 4,_,_=>rfl
 | k+5,h,_=>absurd h (by lia)
theorem sp_if_eq:∀ a:Lt,([105,102,32,40,32]++lt a)++[32,41]=sp (ifT a):=by decide
theorem sp_wh_eq:∀ a:Lt,([119,104,105,108,101,32,40,32]++lt a)++[32,41]=sp (H.wh a).toks:=by decide
noncomputable def frW:Nat→Txt
 | 0=>[]
 | 1=>[120,32]
 | 2=>[108,101,116,32,120,32,61,32,98,32]
 | _=>[118,97,114,32,120,32]
noncomputable def prW (a:Lt):Nat→Txt
 | 0=>[]
 | _=>lt a++[32]
noncomputable def stW:Nat→Txt
 | 0=>[]
 | _=>[99,32]
theorem fr_eq (i j k:Nat) (a:Lt) (hi:i<4) (hj:j<2) (hk:k<2):∃ f p c,[102,111,114,32,40,32]++frW i++[59,32]++prW a j++[59,32]++stW k++[41]=sp (H.fr f p c).toks:=by
 have key:∀ (f:Fin 4) (j k:Fin 2) (a:Lt),[102,111,114,32,40,32]++frW f++[59,32]++prW a j++[59,32]++stW k++[41]=sp (H.fr f (if j=0 then none else some a) (decide (k=1))).toks:=by decide +kernel
 exact i3_1 _ _ _ (key ⟨i,hi⟩ ⟨j,hj⟩ ⟨k,hk⟩ a)
theorem ea_eq:∀ (k:Fin 3) (o:Bool) (a:Lt),[102,111,114,32,40,32]++kwT k++[32,120,32]++ofT o++[32]++lt a++[32,41]=sp (H.ea k o a).toks:=by decide +kernel
noncomputable def HW (so:Nat) (w:Txt):Prop:=if so<2 then ∃ a,w=sp (ifT a) else if so=2 then ∃ a,w=sp (H.wh a).toks else if so=3 then ∃ f p c,w=sp (H.fr f p c).toks else if so<6 then ∃ k o a,w=sp (H.ea k o a).toks else ∃ a,w=lt a
theorem ite_t {c a b:Prop} [Decidable c] (h:c) (x:a):ite c a b:=(if_pos h).mpr x
theorem ite_f {c a b:Prop} [Decidable c] (h:¬c) (x:b):ite c a b:=(if_neg h).mpr x
theorem lt_ii {a b:Nat} {q:Bool} (h:decide (a<b)=q) (σ:St):cmpop .lt (.int (a:Int)) (.int (b:Int)) σ=some q:=congrArg some ((decide_eq_decide.mpr Int.ofNat_lt).trans h)
theorem eq_ii {a b:Nat} {q:Bool} (h:decide (a=b)=q) (σ:St):cmpop .eq (.int (a:Int)) (.int (b:Int)) σ=some q:=congrArg some ((decide_eq_decide.mpr Int.ofNat_inj).trans h)
set_option maxHeartbeats 1000000 in
theorem or45 {p:Nat→Prop} {k:Nat} (h:k=4∨k=5) (h4:p 4) (h5:p 5):p k:=h.elim (fun e=>e▸h4) fun e=>e▸h5
theorem head_ok {xs:List Int} {n l so:Nat} (hx:xs.length<1000) (hd:1≤d) (hs:so<10):∃ w n',n<n'∧HW so w∧callF prog W (d+1) 40 [.loc 0,.int (so:Int)] [sd xs n l]=some (.str w,[sd xs n' l]):=by
 have pull:∀ (n m:Nat),0<m→∃ k:Nat,k<m∧callF prog W d 39 [.loc 0,.int (m:Int)] [sd xs n l]=some (.int (k:Int),[sd xs (n+1) l]):=fun n m hm=>by
  obtain ⟨d,rfl,_⟩:=need (n:=0) hd
  exact pull_ok hx hm
 obtain ⟨ka,hka,pa⟩:=pull n 5 (by decide)
 have pa:callF prog W d 39 [.loc 0,.int 5] [sd xs n l]=some (.int (ka:Int),[sd xs (n+1) l]):=pa
 have ha:=abc_ok ka hka
 generalize ltK ka=a at ha
 have ia:index (.str [97,98,99,100,101]) (.int (ka:Int)) [sd xs (n+1) l]=some (.str (lt a)):=ha _
 have la:(lt a).length=1:=rfl
 have lt2:∀ b,decide (so<2)=b→∀ σ,cmpop .lt (.int (so:Int)) (.int 2) σ=some b:=fun b hb=>lt_ii (b:=2) hb
 have eq2:∀ b,decide (so=2)=b→∀ σ,cmpop .eq (.int (so:Int)) (.int 2) σ=some b:=fun b hb=>eq_ii (b:=2) hb
 have eq3:∀ b,decide (so=3)=b→∀ σ,cmpop .eq (.int (so:Int)) (.int 3) σ=some b:=fun b hb=>eq_ii (b:=3) hb
 have lt6:∀ b,decide (so<6)=b→∀ σ,cmpop .lt (.int (so:Int)) (.int 6) σ=some b:=fun b hb=>lt_ii (b:=6) hb
 by_cases h2:so<2
 ·refine ⟨sp (ifT a),n+1,Nat.lt_succ_self n,ite_t h2 ⟨a,rfl⟩,call_g (fn:=⟨2,6,b_law_head⟩) rfl rfl (Nat.lt_succ_self n) ?_⟩
  rw [← sp_if_eq]
  show Run W _ b_law_head [some (.loc 0),some (.int (so:Int)),none,none,none,none] _ _
  have t2:=lt2 true (decide_eq_true h2)
  unfold b_law_head
  repeat' (first | wtm_at "qa" | ((with_reducible show callF _ _ _ _ _ _=_); first | exact pa) | exact ia | exact t2 _ | wtm_at "qb")
  exact ⟨rfl,rfl⟩
 have t2:=lt2 false (decide_eq_false h2)
 by_cases h3:so=2
 ·refine ⟨sp (H.wh a).toks,n+1,Nat.lt_succ_self n,ite_f h2 (ite_t h3 ⟨a,rfl⟩),call_g (fn:=⟨2,6,b_law_head⟩) rfl rfl (Nat.lt_succ_self n) ?_⟩
  rw [← sp_wh_eq]
  show Run W _ b_law_head [some (.loc 0),some (.int (so:Int)),none,none,none,none] _ _
  have t3:=eq2 true (decide_eq_true h3)
  unfold b_law_head
  repeat' (first | wtm_at "qa" | ((with_reducible show callF _ _ _ _ _ _=_); first | exact pa) | exact ia | exact t2 _ | exact t3 _ | wtm_at "qb")
  exact ⟨rfl,rfl⟩
 have t3:=eq2 false (decide_eq_false h3)
 by_cases h4:so=3
 ·obtain ⟨k1,hk1,p1⟩:=pull (n+1) 4 (by decide)
  obtain ⟨k2,hk2,p2⟩:=pull (n+1+1) 2 (by decide)
  obtain ⟨k3,hk3,p3⟩:=pull (n+1+1+1) 2 (by decide)
  have p1:callF prog W d 39 [.loc 0,.int 4] [sd xs (n+1) l]=some (.int (k1:Int),[sd xs (n+1+1) l]):=p1
  have p2:callF prog W d 39 [.loc 0,.int 2] [sd xs (n+1+1) l]=some (.int (k2:Int),[sd xs (n+1+1+1) l]):=p2
  have p3:callF prog W d 39 [.loc 0,.int 2] [sd xs (n+1+1+1) l]=some (.int (k3:Int),[sd xs (n+1+1+1+1) l]):=p3
  obtain ⟨f,p,c,e⟩:=fr_eq k1 k2 k3 a hk1 hk2 hk3
  refine ⟨sp (H.fr f p c).toks,n+1+1+1+1,Nat.lt_add_of_pos_right (k:=4) (by decide),ite_f h2 (ite_f h3 (ite_t h4 ⟨f,p,c,rfl⟩)),call_g (fn:=⟨2,6,b_law_head⟩) rfl rfl (Nat.lt_add_of_pos_right (k:=4) (by decide)) ?_⟩
  rw [← e]
  show Run W _ b_law_head [some (.loc 0),some (.int (so:Int)),none,none,none,none] _ _
  have t4:=eq3 true (decide_eq_true h4)
  have i1:∀ σ,index (.tup [.str [],.str [120,32],.str [108,101,116,32,120,32,61,32,98,32],.str [118,97,114,32,120,32]]) (.int (k1:Int)) σ=some (.str (frW k1)):=fun σ=>nat4 (p:=fun k=>index (.tup [.str [],.str [120,32],.str [108,101,116,32,120,32,61,32,98,32],.str [118,97,114,32,120,32]]) (.int (k:Int)) σ=some (.str (frW k))) hk1 rfl rfl rfl rfl
  have i2:∀ σ,index (.tup [.str [],.str (lt a++[32])]) (.int (k2:Int)) σ=some (.str (prW a k2)):=fun σ=>nat2 (p:=fun k=>index (.tup [.str [],.str (lt a++[32])]) (.int (k:Int)) σ=some (.str (prW a k))) hk2 rfl rfl
  have i3:∀ σ,index (.tup [.str [],.str [99,32]]) (.int (k3:Int)) σ=some (.str (stW k3)):=fun σ=>nat2 (p:=fun k=>index (.tup [.str [],.str [99,32]]) (.int (k:Int)) σ=some (.str (stW k))) hk3 rfl rfl
  have l1:(frW k1).length<20:=nat4 (p:=fun k=>(frW k).length<20) hk1 (Nat.le_of_ble_eq_true rfl) (Nat.le_of_ble_eq_true rfl) (Nat.le_of_ble_eq_true rfl) (Nat.le_of_ble_eq_true rfl)
  have l2:(prW a k2).length<20:=nat2 (p:=fun k=>(prW a k).length<20) hk2 (Nat.le_of_ble_eq_true rfl) (Nat.le_of_ble_eq_true rfl)
  have l3:(stW k3).length<20:=nat2 (p:=fun k=>(stW k).length<20) hk3 (Nat.le_of_ble_eq_true rfl) (Nat.le_of_ble_eq_true rfl)
  unfold b_law_head
  repeat' (first | wtm_at "qa" | ((with_reducible show callF _ _ _ _ _ _=_); first | exact pa | exact p1 | exact p2 | exact p3) | exact ia | exact t2 _ | exact t3 _ | exact t4 _ | exact i1 _ | exact i2 _ | exact i3 _ | wtm_at "qb")
  exact ⟨rfl,rfl⟩
 have t4:=eq3 false (decide_eq_false h4)
 by_cases h6:so<6
 ·obtain ⟨k1,hk1,p1⟩:=pull (n+1) 3 (by decide)
  have p1:callF prog W d 39 [.loc 0,.int 3] [sd xs (n+1) l]=some (.int (k1:Int),[sd xs (n+1+1) l]):=p1
  refine ⟨sp (H.ea ⟨k1,hk1⟩ (decide (so=4)) a).toks,n+1+1,Nat.lt_add_of_pos_right (k:=2) (by decide),ite_f h2 (ite_f h3 (ite_f h4 (ite_t h6 ⟨_,_,_,rfl⟩))),call_g (fn:=⟨2,6,b_law_head⟩) rfl rfl (Nat.lt_add_of_pos_right (k:=2) (by decide)) ?_⟩
  rw [← ea_eq]
  show Run W _ b_law_head [some (.loc 0),some (.int (so:Int)),none,none,none,none] _ _
  have t6:=lt6 true (decide_eq_true h6)
  have i1:∀ σ,index (.tup [.str [99,111,110,115,116],.str [108,101,116],.str [118,97,114]]) (.int (k1:Int)) σ=some (.str (kwT ⟨k1,hk1⟩)):=fun σ=>nat4 (p:=fun k=>∀ h:k<3,index (.tup [.str [99,111,110,115,116],.str [108,101,116],.str [118,97,114]]) (.int (k:Int)) σ=some (.str (kwT ⟨k,h⟩))) (Nat.lt_succ_of_lt hk1) (fun _=>rfl) (fun _=>rfl) (fun _=>rfl) (fun h=>absurd h (by decide)) hk1
  have i2:∀ σ,index (.tup [.str [111,102],.str [105,110]]) (.int ((so:Int) - 4)) σ=some (.str (ofT (decide (so=4)))):=fun σ=>or45 (p:=fun so=>index (.tup [.str [111,102],.str [105,110]]) (.int ((so:Int) - 4)) σ=some (.str (ofT (decide (so=4))))) (by lia:so=4∨so=5) rfl rfl
  have l1:(kwT ⟨k1,hk1⟩).length<9:=by
   generalize (⟨k1,hk1⟩:Fin 3)=kk
   revert kk; decide
  have l2:(ofT (decide (so=4))).length<9:=by cases decide (so=4) <;> exact Nat.le_of_ble_eq_true rfl
  unfold b_law_head
  repeat' (first | wtm_at "qa" | ((with_reducible show callF _ _ _ _ _ _=_); first | exact pa | exact p1) | exact ia | exact t2 _ | exact t3 _ | exact t4 _ | exact t6 _ | exact i1 _ | exact i2 _ | wtm_at "qb")
  exact ⟨rfl,rfl⟩
 ·refine ⟨lt a,n+1,Nat.lt_succ_self n,ite_f h2 (ite_f h3 (ite_f h4 (ite_f h6 ⟨a,rfl⟩))),call_g (fn:=⟨2,6,b_law_head⟩) rfl rfl (Nat.lt_succ_self n) ?_⟩
  show Run W _ b_law_head [some (.loc 0),some (.int (so:Int)),none,none,none,none] _ _
  have t6:=lt6 false (decide_eq_false h6)
  unfold b_law_head
  repeat' (first | wtm_at "qa" | ((with_reducible show callF _ _ _ _ _ _=_); first | exact pa) | exact ia | exact t2 _ | exact t3 _ | exact t4 _ | exact t6 _ | wtm_at "qb")
  exact ⟨rfl,rfl⟩
noncomputable def Dr (W d:Nat) (xs:List Int) (deep:Nat) (front:Bool):Prop:=∀ n l,∃ (t:T) (n' l':Nat),n<n'∧l'≤l∧t.dp≤deep+1∧t.sz≤1+2 * (l - l')∧callF prog W d 41 [.loc 0,.int (deep:Int),.bool front] [sd xs n l]=some (t.v,[sd xs n' l'])
theorem range_ok {k:Nat} (h:k<1000):rangeV (.int (k:Int))=some ((List.range k).map fun (j:Nat)=>V.int j):=by
 have h':(0:Int)≤(k:Int)∧(k:Int)<1000:=by lia
 unfold rangeV; rw [show V.toInt (.int (k:Int))=some (k:Int) from rfl,Option.bind_some,if_pos h',Int.toNat_natCast]
theorem many_ok {xs:List Int} {deep:Nat} {front:Bool} (hx:xs.length<1000) (hd:2≤d) (h:Dr W d xs deep front) (n l:Nat) :
  ∃ (ts:List T) (n' l':Nat),n<n'∧l'≤l∧ts.length<3∧(∀ t ∈ ts,t.dp≤deep+1)∧(ts.map T.sz).sum≤2+2 * (l - l')∧callF prog W (d+1) 42 [.loc 0,.int (deep:Int),.bool front] [sd xs n l]=some (.list (ts.map T.v),[sd xs n' l']):=by
 have hp:∃ k:Nat,k<3∧callF prog W d 39 [.loc 0,.int 3] [sd xs n l]=some (.int (k:Int),[sd xs (n+1) l]):=by
  obtain ⟨d,rfl,_⟩:=need (n:=1) hd
  exact pull_ok hx (by decide)
 obtain ⟨k,hk,hp⟩:=hp
 have fin:∀ (ts:List T) (n' l':Nat),n+1≤n'→mapL (fun v σ'=>evalE prog (callF prog W d) (E.call 41 [E.x 0,E.x 1,E.x 2]) ([some (.loc 0),some (.int (deep:Int)),some (.bool front),none].set 3 (some v)) σ') ((List.range k).map fun (j:Nat)=>V.int j) [sd xs (n+1) l]=some (ts.map T.v,[sd xs n' l'])→
   callF prog W (d+1) 42 [.loc 0,.int (deep:Int),.bool front] [sd xs n l]=some (.list (ts.map T.v),[sd xs n' l']):=fun ts n' l' h1 h3=>by
  refine call_g (fn:=⟨3,4,b_law_many⟩) rfl rfl (by lia) ?_
  show Run W _ b_law_many [some (.loc 0),some (.int (deep:Int)),some (.bool front),none] _ _
  refine run_ret (ev_compR (ev_call (evs_cons (ev_x rfl) (evs_cons ev_c evs_nil)) hp) (range_ok (by lia)) (by rw [List.length_map,List.length_range]; lia) h3) ⟨rfl,rfl⟩
 obtain rfl | rfl | rfl:k=0∨k=1∨k=2:=by lia
 ·exact ⟨[],n+1,l,by lia,Nat.le_refl _,Nat.le_of_ble_eq_true rfl,(fun t h=>nomatch h),by show 0≤_; lia,fin [] _ _ (Nat.le_refl _) rfl⟩
 ·obtain ⟨t,n1,l1,a1,a2,a3,a4,a5⟩:=h (n+1) l
  exact ⟨[t],n1,l1,by lia,a2,Nat.le_of_ble_eq_true rfl,(fun u h=>by rw [List.mem_singleton.mp h]; exact a3),by show t.sz+0≤_; lia,fin [t] _ _ (by lia) (mapL_cons (ev_call (evs_cons (ev_x rfl) (evs_cons (ev_x rfl) (evs_cons (ev_x rfl) evs_nil))) a5) mapL_nil)⟩
 ·obtain ⟨t,n1,l1,a1,a2,a3,a4,a5⟩:=h (n+1) l
  obtain ⟨u,n2,l2,b1,b2,b3,b4,b5⟩:=h n1 l1
  exact ⟨[t,u],n2,l2,by lia,by lia,Nat.le_of_ble_eq_true rfl,(fun w h=>by
   rcases List.mem_cons.mp h with q | q
   ·rw [q]; exact a3
   ·rw [List.mem_singleton.mp q]; exact b3),by show t.sz+(u.sz+0)≤_; lia,fin [t,u] _ _ (by lia) (mapL_cons (ev_call (evs_cons (ev_x rfl) (evs_cons (ev_x rfl) (evs_cons (ev_x rfl) evs_nil))) a5) (mapL_cons (ev_call (evs_cons (ev_x rfl) (evs_cons (ev_x rfl) (evs_cons (ev_x rfl) evs_nil))) b5) mapL_nil))⟩
noncomputable def bT (s:BS):List T→T
 | []=>.b0 s
 | [k]=>.b1 s k
 | k :: l :: _=>.b2 s k l
theorem bT_v (s:BS) {ts:List T} (h:ts.length<3):(bT s ts).v=ter s.sort s.word (ts.map T.v):=by
 rcases ts with _ | ⟨t,_ | ⟨u,_ | ⟨w,ts⟩⟩⟩
 ·rfl
 ·rfl
 ·rfl
 ·simp only [List.length_cons] at h; lia
theorem bT_dp (s:BS) {ts:List T} {n:Nat} (h:∀ t ∈ ts,t.dp≤n+1):(bT s ts).dp≤n+2:=by
 rcases ts with _ | ⟨t,_ | ⟨u,ts⟩⟩
 ·show 1≤_; lia
 ·have:=h t List.mem_cons_self; show t.dp+1≤_; lia
 ·have:=h t List.mem_cons_self; have:=h u (List.mem_cons_of_mem _ List.mem_cons_self); show max t.dp u.dp+1≤_; lia
theorem bT_sz (s:BS) (ts:List T):(bT s ts).sz≤(ts.map T.sz).sum+1:=by
 rcases ts with _ | ⟨t,_ | ⟨u,ts⟩⟩
 ·exact Nat.le_refl _
 ·show t.sz+1≤t.sz+0+1; lia
 ·show t.sz+u.sz+1≤t.sz+(u.sz+(ts.map T.sz).sum)+1; lia
noncomputable def sortF:Nat→Nat
 | 0 | 1 | 2=>0
 | 3 | 4=>1
 | 5 | 6=>2
 | k=>k - 4
noncomputable def sortT:Nat→Nat
 | 0 | 1 | 2 | 3 | 4=>1
 | 14=>0
 | 15=>11
 | k=>k - 3
theorem srtF_ok:∀ k:Nat,k<16→∀ σ,index (.tup [.int 0,.int 0,.int 0,.int 1,.int 1,.int 2,.int 2,.int 3,.int 4,.int 5,.int 6,.int 7,.int 8,.int 9,.int 10,.int 11]) (.int (k:Int)) σ=some (.int (sortF k:Int)):=fun k h σ=>nat16 (p:=fun k=>index (.tup [.int 0,.int 0,.int 0,.int 1,.int 1,.int 2,.int 2,.int 3,.int 4,.int 5,.int 6,.int 7,.int 8,.int 9,.int 10,.int 11]) (.int (k:Int)) σ=some (.int (sortF k:Int))) h rfl rfl rfl rfl rfl rfl rfl rfl rfl rfl rfl rfl rfl rfl rfl rfl
theorem srtT_ok:∀ k:Nat,k<16→∀ σ,index (.tup [.int 1,.int 1,.int 1,.int 1,.int 1,.int 2,.int 3,.int 4,.int 5,.int 6,.int 7,.int 8,.int 9,.int 10,.int 0,.int 11]) (.int (k:Int)) σ=some (.int (sortT k:Int)):=fun k h σ=>nat16 (p:=fun k=>index (.tup [.int 1,.int 1,.int 1,.int 1,.int 1,.int 2,.int 3,.int 4,.int 5,.int 6,.int 7,.int 8,.int 9,.int 10,.int 0,.int 11]) (.int (k:Int)) σ=some (.int (sortT k:Int))) h rfl rfl rfl rfl rfl rfl rfl rfl rfl rfl rfl rfl rfl rfl rfl rfl
theorem srt_lt (k:Nat) (h:k<16):sortF k<12∧sortT k<12:=by
 have key:∀ k:Fin 16,sortF k<12∧sortT k<12:=by decide
 exact key ⟨k,h⟩
theorem short_w:∀ k:Nat,k<16→∃ i:Fin 8,∀ σ,(binop .mod (.int (k:Int)) (.int 8) σ).bind (fun v=>index (.tup [.str [98,32,59],.str [59],.str [118,97,114,32,120,32,61,32,98,32,59],.str [98,114,101,97,107,32,59],.str [99,111,110,116,105,110,117,101,32,97,32,59],.str [114,101,116,117,114,110,32,98,32,59],.str [116,104,114,111,119,32,99,32,59],.str [100,32,59]]) v σ)=some (.str (sp (rowT i))):=fun k h=>nat16 (p:=fun k=>∃ i:Fin 8,∀ σ,(binop .mod (.int (k:Int)) (.int 8) σ).bind (fun v=>index (.tup [.str [98,32,59],.str [59],.str [118,97,114,32,120,32,61,32,98,32,59],.str [98,114,101,97,107,32,59],.str [99,111,110,116,105,110,117,101,32,97,32,59],.str [114,101,116,117,114,110,32,98,32,59],.str [116,104,114,111,119,32,99,32,59],.str [100,32,59]]) v σ)=some (.str (sp (rowT i)))) h ⟨0,fun σ=>rfl⟩ ⟨1,fun σ=>rfl⟩ ⟨2,fun σ=>rfl⟩ ⟨3,fun σ=>rfl⟩ ⟨4,fun σ=>rfl⟩ ⟨5,fun σ=>rfl⟩ ⟨6,fun σ=>rfl⟩ ⟨7,fun σ=>rfl⟩ ⟨0,fun σ=>rfl⟩ ⟨1,fun σ=>rfl⟩ ⟨2,fun σ=>rfl⟩ ⟨3,fun σ=>rfl⟩ ⟨4,fun σ=>rfl⟩ ⟨5,fun σ=>rfl⟩ ⟨6,fun σ=>rfl⟩ ⟨7,fun σ=>rfl⟩
noncomputable def stR (how:Int) (deep:Int) (front:Bool) (so:Int):Loc:=[some (.loc 0),some (.int deep),some (.bool front),some (.int how),some (.int so),none,none,none]
theorem stmt_end {xs:List Int} {deep how so n l:Nat} {front:Bool} (hx:xs.length<1000) (hh:how<16) (hso:so<12) (hd:4≤d) (ih:so≠11→∃ dp',deep=dp'+1∧∀ f,Dr W d xs dp' f∧Dr W (d - 1) xs dp' f) :
  ∃ (t:T) (n' l':Nat),n≤n'∧l'≤l∧t.dp≤deep+1∧t.sz≤3+2 * (l - l')∧(so=11→t.sz≤1)∧Run W (callF prog W d) (b_law_stmt.drop 3) (stR how deep front so) [sd xs n l] fun c ρ' σ'=>c = .ret t.v∧σ'=[sd xs n' l']:=by
 have eqs:∀ (m:Nat),so≠m→∀ σ,cmpop .eq (.int (so:Int)) (.int (m:Int)) σ=some false:=fun m hm=>eq_ii (decide_eq_false hm)
 by_cases q11:so=11
 ·subst q11
  obtain ⟨i,hi⟩:=short_w how hh
  have hm:binop .mod (.int (how:Int)) (.int 8) [sd xs n l]=some (.int ((how:Int) % 8)):=mod_ii (by decide)
  have hi:=hi [sd xs n l]
  rw [hm,Option.bind_some] at hi
  refine ⟨.row i,n,l,Nat.le_refl _,Nat.le_refl _,by show 1≤_; lia,by show 1≤_; lia,fun _=>Nat.le_refl _,?_⟩
  unfold b_law_stmt stR
  dsimp only [List.drop]
  repeat' (first | wtm_at "qa" | exact hm | exact hi | wtm_at "qb")
  exact ⟨rfl,rfl⟩
 obtain ⟨dp',e0,ih'⟩:=ih q11
 subst e0
 clear ih
 have e11:=eqs 11 q11
 have hsub:∀ σ,binop .sub (.int ((dp'+1:Nat):Int)) (.int 1) σ=some (.int (dp':Int)):=fun σ=>by
  rw [sub_ii]; congr 2; lia
 have many:∀ n l,∃ (ts:List T) (n' l':Nat),n<n'∧l'≤l∧ts.length<3∧(∀ t ∈ ts,t.dp≤dp'+1)∧(ts.map T.sz).sum≤2+2 * (l - l')∧callF prog W d 42 [.loc 0,.int (dp':Int),.bool front] [sd xs n l]=some (.list (ts.map T.v),[sd xs n' l']):=fun n l=>by
  have:=many_ok (W:=W) (d:=d - 1) (front:=front) hx (by lia) (ih' front).2 n l
  rw [show d - 1+1=d by lia] at this
  exact this
 by_cases q8:so=8∨so=10
 ·obtain ⟨ts,n',l',b1,b2,b3,b4,b5,b6⟩:=many n l
  obtain ⟨s,hs1,hs2⟩:∃ s:BS,s.word=[]∧∀ σ,(binop .sub (.int (so:Int)) (.int 8) σ).bind (fun v=>index (.tup [.str [98,108,111,99,107],.str [],.str [116,114,121]]) v σ)=some (.str s.sort):=by
   rcases q8 with q | q <;> subst q
   ·exact ⟨.block,rfl,fun _=>rfl⟩
   ·exact ⟨.tr,rfl,fun _=>rfl⟩
  have hb:=bT_sz s ts
  refine ⟨bT s ts,n',l',by lia,b2,bT_dp s b4,by lia,fun q=>absurd q q11,?_⟩
  have hi:=hs2 [sd xs n l]
  rw [sub_ii,Option.bind_some] at hi
  have t8:EvT (callF prog W d) (E.or [(E.cmp .eq (E.x 4) (E.c (V.int 8))),(E.cmp .eq (E.x 4) (E.c (V.int 10)))]) (stR how ((dp'+1:Nat):Int) front so) [sd xs n l] true [sd xs n l]:=by
   rcases q8 with q | q <;> subst q
   ·exact et_or (eo_t (et_cmp (ev_x rfl) ev_c rfl))
   ·exact et_or (eo_f (et_cmp (ev_x rfl) ev_c rfl) (eo_t (et_cmp (ev_x rfl) ev_c rfl)))
  rw [bT_v s b3,hs1]
  unfold b_law_stmt
  dsimp only [List.drop]
  refine run_ifF (et_cmp (ev_x rfl) ev_c (e11 _)) ?_
  dsimp only [List.nil_append]
  refine run_ifT t8 ?_
  unfold stR
  dsimp only [List.cons_append,List.nil_append]
  repeat' (first | wtm_at "qa" | ((with_reducible show callF _ _ _ _ _ _=_); first | exact b6) | exact hi | exact hsub _ | wtm_at "qb")
  exact ⟨rfl,rfl⟩
 have t8:EvT (callF prog W d) (E.or [(E.cmp .eq (E.x 4) (E.c (V.int 8))),(E.cmp .eq (E.x 4) (E.c (V.int 10)))]) (stR how ((dp'+1:Nat):Int) front so) [sd xs n l] false [sd xs n l]:=
  et_or (eo_f (et_cmp (ev_x rfl) ev_c (eqs 8 (by lia) _)) (eo_f (et_cmp (ev_x rfl) ev_c (eqs 10 (by lia) _)) eo_nil))
 obtain ⟨w,n1,a1,hw,a2⟩:=head_ok (W:=W) (d:=d - 1) (n:=n) (l:=l) hx (by lia) (show so<10 by lia)
 rw [show d - 1+1=d by lia] at a2
 by_cases q9:so=9
 ·subst q9
  obtain ⟨a,rfl⟩:=(hw:∃ a,w=lt a)
  obtain ⟨ts,n',l',b1,b2,b3,b4,b5,b6⟩:=many n1 l
  have hb:=bT_sz (.sw a) ts
  refine ⟨bT (.sw a) ts,n',l',by lia,b2,bT_dp _ b4,by lia,fun q=>absurd q q11,?_⟩
  rw [bT_v _ b3]
  unfold b_law_stmt
  dsimp only [List.drop]
  refine run_ifF (et_cmp (ev_x rfl) ev_c (e11 _)) ?_
  dsimp only [List.nil_append]
  refine run_ifF t8 ?_
  unfold stR
  dsimp only [List.cons_append,List.nil_append]
  repeat' (first | wtm_at "qa" | ((with_reducible show callF _ _ _ _ _ _=_); first | exact a2 | exact b6) | exact hsub _ | wtm_at "qb")
  exact ⟨rfl,rfl⟩
 have e9:=eqs 9 q9
 by_cases q1:so=1
 ·subst q1
  obtain ⟨a,rfl⟩:=(hw:∃ a,w=sp (ifT a))
  obtain ⟨k,n2,l2,c1,c2,c3,c4,c5⟩:=(ih' true).1 n1 l
  obtain ⟨u,n3,l3,f1,f2,f3,f4,f5⟩:=(ih' front).1 n2 l2
  refine ⟨.ie a k u,n3,l3,by lia,by lia,by show max k.dp u.dp+1≤_; lia,by show k.sz+u.sz+1≤_; lia,fun q=>absurd q q11,?_⟩
  unfold b_law_stmt
  dsimp only [List.drop]
  refine run_ifF (et_cmp (ev_x rfl) ev_c (e11 _)) ?_
  dsimp only [List.nil_append]
  refine run_ifF t8 ?_
  unfold stR
  dsimp only [List.cons_append,List.nil_append]
  repeat' (first | wtm_at "qa" | ((with_reducible show callF _ _ _ _ _ _=_); first | exact a2 | exact c5 | exact f5) | exact hsub _ | wtm_at "qb")
  exact ⟨rfl,rfl⟩
 have e1:=eqs 1 q1
 obtain ⟨k,n2,l2,c1,c2,c3,c4,c5⟩:=(ih' front).1 n1 l
 obtain ⟨s,hs1,hs2⟩:∃ s:US,s.word=w∧∀ σ,index (.tup [.str [105,102],.str [],.str [108,111,111,112],.str [108,111,111,112],.str [108,111,111,112],.str [108,111,111,112],.str [108,97,98,101,108],.str [100,111]]) (.int (so:Int)) σ=some (.str s.sort):=by
  have ix:∀ (m:Nat) (s:US),so=m→s.word=w→(∀ σ,index (.tup [.str [105,102],.str [],.str [108,111,111,112],.str [108,111,111,112],.str [108,111,111,112],.str [108,111,111,112],.str [108,97,98,101,108],.str [100,111]]) (.int (m:Int)) σ=some (.str s.sort))→∃ s:US,s.word=w∧∀ σ,index (.tup [.str [105,102],.str [],.str [108,111,111,112],.str [108,111,111,112],.str [108,111,111,112],.str [108,111,111,112],.str [108,97,98,101,108],.str [100,111]]) (.int (so:Int)) σ=some (.str s.sort):=fun m s q e h=>⟨s,e,q▸h⟩
  clear ih' many eqs hsub a2 e11 t8 e9 e1 hd hx hh
  by_cases z0:so=0
  ·exact ((z0▸hw:HW 0 w):∃ a,w=sp (ifT a)).elim fun a e=>ix 0 (.ifs a) z0 e.symm fun _=>rfl
  by_cases z2:so=2
  ·exact ((z2▸hw:HW 2 w):∃ a,w=sp (H.wh a).toks).elim fun a e=>ix 2 (.loop (.wh a)) z2 e.symm fun _=>rfl
  by_cases z3:so=3
  ·exact ((z3▸hw:HW 3 w):∃ f p c,w=sp (H.fr f p c).toks).elim fun f e=>e.elim fun p e=>e.elim fun c e=>ix 3 (.loop (.fr f p c)) z3 e.symm fun _=>rfl
  by_cases z4:so=4
  ·exact ((z4▸hw:HW 4 w):∃ k o a,w=sp (H.ea k o a).toks).elim fun x e=>e.elim fun o e=>e.elim fun a e=>ix 4 (.loop (.ea x o a)) z4 e.symm fun _=>rfl
  by_cases z5:so=5
  ·exact ((z5▸hw:HW 5 w):∃ k o a,w=sp (H.ea k o a).toks).elim fun x e=>e.elim fun o e=>e.elim fun a e=>ix 5 (.loop (.ea x o a)) z5 e.symm fun _=>rfl
  by_cases z6:so=6
  ·exact ((z6▸hw:HW 6 w):∃ a,w=lt a).elim fun a e=>ix 6 (.lab a) z6 e.symm fun _=>rfl
  ·have z7:so=7:=by lia
   exact ((z7▸hw:HW 7 w):∃ a,w=lt a).elim fun a e=>ix 7 (.dow a) z7 e.symm fun _=>rfl
 refine ⟨.u s k,n2,l2,by lia,by lia,by show k.dp+1≤_; lia,by show k.sz+1≤_; lia,fun q=>absurd q q11,?_⟩
 show Run _ _ _ _ _ fun c ρ' σ'=>c = .ret (ter s.sort s.word [k.v])∧σ'=[sd xs n2 l2]
 rw [hs1]
 unfold b_law_stmt
 dsimp only [List.drop]
 refine run_ifF (et_cmp (ev_x rfl) ev_c (e11 _)) ?_
 dsimp only [List.nil_append]
 refine run_ifF t8 ?_
 unfold stR
 dsimp only [List.cons_append,List.nil_append]
 repeat' (first | wtm_at "qa" | ((with_reducible show callF _ _ _ _ _ _=_); first | exact a2 | exact c5) | exact hsub _ | exact e9 _ | exact e1 _ | exact hs2 _ | wtm_at "qb")
 exact ⟨rfl,rfl⟩
end
section
variable {W d:Nat}
theorem stmt_ok {xs:List Int} (hx:xs.length<1000):∀ (deep:Nat) {d:Nat} {front:Bool},2 * deep+5≤d→Dr W d xs deep front
 | 0,d,front,h,n,l=>by
  obtain ⟨d,rfl,g⟩:=need (n:=4) (by omega)
  obtain ⟨how,hh,hp⟩:=pull_ok (W:=W) (d:=d - 1) (n:=n) (l:=l) (m:=16) hx (by decide)
  rw [show d - 1+1=d by lia] at hp
  obtain ⟨t,n',l',c1,c2,c3,c4,c5,c6⟩:=stmt_end (W:=W) (d:=d) (deep:=0) (how:=how) (so:=11) (n:=n+1) (l:=l) (front:=front) hx hh (by decide) g (fun q=>absurd rfl q)
  refine ⟨t,n',l',by lia,c2,c3,by have:=c5 rfl; lia,call_g (fn:=⟨3,8,b_law_stmt⟩) rfl rfl (by lia) ?_⟩
  show Run W _ (S.asg 3 _ :: S.asg 4 _ :: S.ifs _ _ _ :: b_law_stmt.drop 3) [some (.loc 0),some (.int ((0:Nat):Int)),some (.bool front),none,none,none,none,none] _ _
  exact run_asg (ev_call (evs_cons (ev_x rfl) (evs_cons ev_c evs_nil)) hp) (run_asg ev_c (run_ifF (et_and (ea_f (et_cmp (ev_x rfl) ev_c rfl))) c6))
 | deep+1,d,front,h,n,l=>by
  obtain ⟨d,rfl,g⟩:=need (n:=2 * deep+6) (by omega)
  have ih:∀ f,Dr W d xs deep f∧Dr W (d - 1) xs deep f:=fun f=>⟨stmt_ok hx deep (by lia),stmt_ok hx deep (by lia)⟩
  obtain ⟨how,hh,hp⟩:=pull_ok (W:=W) (d:=d - 1) (n:=n) (l:=l) (m:=16) hx (by decide)
  rw [show d - 1+1=d by lia] at hp
  have hgt:cmpop .gt (.int ((deep+1:Nat):Int)) (.int 0) [sd xs (n+1) l]=some true:=by show some (decide _)=_; rw [decide_eq_true (by lia)]
  cases l with
  | zero=>
   obtain ⟨t,n',l',c1,c2,c3,c4,c5,c6⟩:=stmt_end (W:=W) (d:=d) (deep:=deep+1) (how:=how) (so:=11) (n:=n+1) (l:=0) (front:=front) hx hh (by decide) (by lia) (fun q=>absurd rfl q)
   refine ⟨t,n',l',by lia,c2,c3,by have:=c5 rfl; lia,call_g (fn:=⟨3,8,b_law_stmt⟩) rfl rfl (by lia) ?_⟩
   show Run W _ (S.asg 3 _ :: S.asg 4 _ :: S.ifs _ _ _ :: b_law_stmt.drop 3) [some (.loc 0),some (.int ((deep+1:Nat):Int)),some (.bool front),none,none,none,none,none] _ _
   exact run_asg (ev_call (evs_cons (ev_x rfl) (evs_cons ev_c evs_nil)) hp) (run_asg ev_c (run_ifF (et_and (ea_t (et_cmp (ev_x rfl) ev_c hgt) (ea_f (et_cmp (ev_idx (ev_x rfl) ev_c (v:=.int ((0:Nat):Int)) rfl) ev_c rfl)))) c6))
  | succ l=>
   have hgl:cmpop .gt (.int ((l+1:Nat):Int)) (.int 0) [sd xs (n+1) (l+1)]=some true:=by show some (decide _)=_; rw [decide_eq_true (by lia)]
   have hsub:∀ σ,binop .sub (.int ((l+1:Nat):Int)) (.int 1) σ=some (.int (l:Int)):=fun σ=>by
    rw [sub_ii]; congr 2; lia
   obtain ⟨s1,s2⟩:=srt_lt how hh
   have hso:cond front (sortF how) (sortT how)<12:=by cases front <;> assumption
   obtain ⟨t,n',l',c1,c2,c3,c4,c5,c6⟩:=stmt_end (W:=W) (d:=d) (deep:=deep+1) (how:=how) (so:=cond front (sortF how) (sortT how)) (n:=n+1) (l:=l) (front:=front) hx hh hso (by lia) (fun q=>⟨deep,rfl,ih⟩)
   refine ⟨t,n',l',by lia,by lia,c3,by lia,call_g (fn:=⟨3,8,b_law_stmt⟩) rfl rfl (by lia) ?_⟩
   show Run W _ (S.asg 3 _ :: S.asg 4 _ :: S.ifs _ [S.augI _ _ _ _,S.ifs _ _ _] _ :: b_law_stmt.drop 3) [some (.loc 0),some (.int ((deep+1:Nat):Int)),some (.bool front),none,none,none,none,none] _ _
   refine run_asg (ev_call (evs_cons (ev_x rfl) (evs_cons ev_c evs_nil)) hp) (run_asg ev_c (run_ifT (et_and (ea_t (et_cmp (ev_x rfl) ev_c hgt) (ea_t (et_cmp (ev_idx (ev_x rfl) ev_c (v:=.int ((l+1:Nat):Int)) rfl) ev_c hgl) ea_nil))) ?_))
   show Run W _ (S.augI _ _ _ _ :: S.ifs _ _ _ :: b_law_stmt.drop 3) _ _ _
   have i1:=srtF_ok how hh
   have i2:=srtT_ok how hh
   cases front with
   | true=>
    repeat' (first | wtm_at "qa" | exact hsub _ | exact i1 _ | wtm_at "qb")
    rw [show ((l+1:Nat):Int) - 1=(l:Int) by lia]
    exact c6
   | false=>
    repeat' (first | wtm_at "qa" | exact hsub _ | exact i2 _ | wtm_at "qb")
    rw [show ((l+1:Nat):Int) - 1=(l:Int) by lia]
    exact c6
end
section
noncomputable def DB (n:Nat) (l:Ln):Prop:=∀ p ∈ l,p.1≤n
theorem DB.app {n:Nat} {a b:Ln} (h:DB n a) (h':DB n b):DB n (a++b):=fun p hp=>(List.mem_append.mp hp).elim (h p) (h' p)
theorem DB.cons {n D:Nat} {x:Txt} {l:Ln} (h:D≤n) (h':DB n l):DB n ((D,x) :: l):=fun p hp=>by
 rcases List.mem_cons.mp hp with rfl | q
 ·exact h
 ·exact h' p q
theorem DB.nil {n:Nat}:DB n []:=fun p hp=>nomatch hp
theorem DB.tail {n:Nat} {l:Ln} (h:DB n l):DB n l.tail:=fun p hp=>h p (List.mem_of_mem_tail hp)
theorem DB.mono {n m:Nat} {l:Ln} (h:DB n l) (h':n≤m):DB m l:=fun p hp=>Nat.le_trans (h p hp) h'
theorem und_db {n D:Nat} {head:Txt} {blk:Bool} {ls:Ln} (h:D≤n) (h':DB n ls):DB n (undL head blk D ls):=by
 cases blk
 ·exact h'.cons h
 ·exact h'.tail.cons h
theorem tail_db {n:Nat} {w:Txt} {blk:Bool} {ls:Ln} (h':DB n ls):DB n (tailL blk ls w).1:=by
 cases blk
 ·exact h'
 ·exact fun p hp=>h' p ((List.dropLast_sublist ls).subset hp)
theorem bra_db {n D:Nat} {head:Txt} {ks:List Ln} (h:D≤n) (h':DB n ks.flatten):DB n (braL head D ks):=by
 unfold braL
 cases ks.isEmpty
 ·exact (h'.app (DB.nil.cons h)).cons h
 ·exact DB.nil.cons h
theorem bs_db {n D:Nat} {s:BS} {f:Nat→List Ln} (h:D+2≤n) (h':∀ D',D'≤D+2→DB n (f D').flatten):DB n (s.ln D f):=by
 cases s with
 | block=>exact bra_db (by lia) (h' _ (by lia))
 | tr=>exact bra_db (by lia) (h' _ (by lia))
 | sw a=>exact (((h' _ (by lia)).app (DB.nil.cons (by lia))).cons (by lia)).cons (by lia)
theorem ln_db:∀ (t:T) (D:Nat),DB (D+2 * t.dp) (t.ln D)
 | .row i,D=>DB.nil.cons (Nat.le_add_right _ _)
 | .b0 s,D=>bs_db (Nat.le_refl _) fun _ _=>DB.nil
 | .b1 s k,D=>bs_db (by refine (?_:_≤D+2 * (k.dp+1)); lia) fun D' h=>by
  have:=(ln_db k D').mono (m:=D+2 * (k.dp+1)) (by lia)
  exact this.app DB.nil
 | .b2 s k l,D=>bs_db (by refine (?_:_≤D+2 * (max k.dp l.dp+1)); lia) fun D' h=>by
  have h1:=(ln_db k D').mono (m:=D+2 * (max k.dp l.dp+1)) (by lia)
  have h2:=(ln_db l D').mono (m:=D+2 * (max k.dp l.dp+1)) (by lia)
  exact h1.app (h2.app DB.nil)
 | .u s k,D=>by
  have h0:∀ b:Bool,DB (D+2 * (k.dp+1)) (k.ln (cond b D (D+1))):=fun b=>(ln_db k _).mono (by cases b <;> dsimp only [cond] <;> lia)
  have hD:D≤D+2 * (k.dp+1):=Nat.le_add_right _ _
  refine (?_:DB (D+2 * (k.dp+1)) _)
  cases s with
  | ifs a=>exact und_db hD (h0 _)
  | loop h=>exact und_db hD (h0 _)
  | lab a=>exact (h0 true).tail.cons hD
  | dow a=>exact (tail_db (und_db hD (h0 _))).app (DB.nil.cons hD)
 | .ie a k l,D=>by
  have h0:∀ b:Bool,DB (D+2 * (max k.dp l.dp+1)) (k.ln (cond b D (D+1))):=fun b=>(ln_db k _).mono (by cases b <;> dsimp only [cond] <;> lia)
  have h1:∀ b:Bool,DB (D+2 * (max k.dp l.dp+1)) (l.ln (cond b D (D+1))):=fun b=>(ln_db l _).mono (by cases b <;> dsimp only [cond] <;> lia)
  have hD:D≤D+2 * (max k.dp l.dp+1):=Nat.le_add_right _ _
  refine (tail_db (und_db hD (h0 _))).app ?_
  cases l.isIf
  ·exact und_db hD (h1 _)
  ·exact (h1 true).tail.cons hD
theorem laid_sz:∀ t:T,t.laid.sz≤2 * t.sz
 | .row i=>by refine (?_:1≤2 * 1); lia
 | .b0 s=>by refine (?_:1≤2 * 1); lia
 | .b1 s k=>by have:=laid_sz k; refine (?_:k.laid.sz+1≤2 * (k.sz+1)); lia
 | .b2 s k l=>by have:=laid_sz k; have:=laid_sz l; refine (?_:k.laid.sz+l.laid.sz+1≤2 * (k.sz+l.sz+1)); lia
 | .u s k=>by have:=laid_sz k; refine (?_:k.laid.sz+1≤2 * (k.sz+1)); lia
 | .ie a k l=>by
  have:=laid_sz k; have:=laid_sz l
  have:(cond k.opn (T.b1 .block k.laid) k.laid).sz≤k.laid.sz+1:=by cases k.opn <;> first | exact Nat.le_refl _ | exact Nat.le_succ _
  refine (?_:(cond k.opn (T.b1 .block k.laid) k.laid).sz+l.laid.sz+1≤2 * (k.sz+l.sz+1)); lia
noncomputable def ind (D:Nat):Txt:=(List.replicate D ([32,32]:Txt)).flatten
noncomputable def renL (l:Ln):Txt:=(l.map fun p=>ind p.1++p.2++[10]).flatten
theorem ren_tl:∀ l:Ln,tlX l++[10]=[10]++renL l
 | []=>rfl
 | p :: l=>by
  rw [tlX_cons,List.append_assoc,List.append_assoc,ren_tl l]
  refine (?_:_=[10]++((ind p.1++p.2++[10])++renL l))
  rw [List.append_assoc,List.append_assoc]; rfl
theorem ren_fl {l:Ln} (h:Hd 0 l):renL l=flX l++[10]:=by
 refine e2_1 h fun x r w5_=>?_; subst w5_
 refine (?_:(([]++x++[10])++renL r)=(x++tlX r)++[10])
 rw [List.append_assoc x,ren_tl,List.nil_append,List.append_assoc]
variable {W d:Nat}
noncomputable def renB:List S:=[S.asg 10 (E.bin .add (E.bin .add (E.bin .add (E.x 10) (E.bin .mul (E.c (V.str [32,32])) (E.x 12))) (E.x 13)) (E.c (V.str [10])))]
noncomputable def SameL (ρ ρ':Loc):Prop:=ρ'.length=18∧∀ j,j<10→ρ'[j]?=ρ[j]?
theorem for_ren {C:Callee} {σ:St} {R:Loc→St→Prop}:∀ {l:Ln} {ρ:Loc} {acc:Txt},DB 60 l→ρ.length=18→ρ[10]?=some (some (.str acc))→acc.length+(renL l).length<900000→
  (∀ ρ',SameL ρ ρ'→ρ'[10]?=some (some (.str (acc++renL l)))→R ρ' σ)→For (fun v ρ' σ'=>(seqItems v).bind fun vs=>(setAll [12,13] vs ρ').bind fun ρ''=>evalSs prog W C renB ρ'' σ') (lnV l) ρ σ R
 | [],ρ,acc,_,hl,ha,_,h=>for_nil (h ρ ⟨hl,fun _ _=>rfl⟩ (by rw [ha]; refine (?_:_=some (some (V.str (acc++[])))); rw [List.append_nil]))
 | (D,x) :: l,ρ,acc,hd,hl,ha,hn,h=>by
  have hD:D≤60:=hd (D,x) List.mem_cons_self
  have e:renL ((D,x) :: l)=(ind D++x++[10])++renL l:=rfl
  rw [e,List.length_append,List.length_append,List.length_append,List.length_cons,List.length_nil] at hn
  have hm:binop .mul (.str [32,32]) (.int (D:Int)) σ=some (.str (ind D)):=by
   show (if _ then _ else _)=_
   rw [if_pos ⟨by lia,by lia,by decide⟩]; rfl
  refine (?_:For _ (V.list [.int (D:Int),.str x] :: lnV l) ρ σ R)
  have g:∀ (a b:Option V) (j:Nat),j≠12→j≠13→((ρ.set 12 a).set 13 b)[j]?=ρ[j]?:=fun a b j h1 h2=>by
   rw [List.getElem?_set_ne h2.symm,List.getElem?_set_ne h1.symm]
  have h12:((ρ.set 12 (some (V.int (D:Int)))).set 13 (some (V.str x)))[12]?=some (some (.int (D:Int))):=by rw [List.getElem?_set_ne (by decide),List.getElem?_set_self (by lia)]
  have h13:((ρ.set 12 (some (V.int (D:Int)))).set 13 (some (V.str x)))[13]?=some (some (.str x)):=by rw [List.getElem?_set_self (by rw [List.length_set]; lia)]
  refine for_consT rfl rfl (run_asg (v:=.str (acc++(ind D++x++[10]))) (σ₁:=σ) ?_ (run_nil ⟨rfl,?_⟩))
  ·refine ev_bin (v:=.str (acc++(ind D++x++[10]))) (ev_bin (ev_bin (ev_x (by rw [g _ _ _ (by decide) (by decide)]; exact ha)) (ev_bin ev_c (ev_x h12) hm) (add_ss (by lia))) (ev_x h13) (add_ss (by rw [List.length_append]; lia))) ev_c ?_
   ·rw [add_ss (by rw [List.length_append,List.length_append,List.length_cons,List.length_nil]; lia),List.append_assoc,List.append_assoc,List.append_assoc]
  ·refine for_ren (fun p hp=>hd p (List.mem_cons_of_mem _ hp)) (by rw [List.length_set,List.length_set,List.length_set]; exact hl) (List.getElem?_set_self (by rw [List.length_set,List.length_set]; lia)) (by rw [List.length_append,List.length_append,List.length_append,List.length_cons,List.length_nil]; lia) fun ρ' h1 h2=>?_
   refine h ρ' ⟨h1.1,fun j hj=>?_⟩ (by rw [h2,e,List.append_assoc])
   rw [h1.2 j hj,List.getElem?_set_ne (by lia),g _ _ _ (by lia) (by lia)]
noncomputable def filX (ts:List T):Txt:=(ts.map fun t=>t.x 0++[10]).flatten
theorem for_want {σ:St} {R:Loc→St→Prop}:∀ {ts:List T} {ρ:Loc} {acc:Txt},(∀ t ∈ ts,t.dp≤7∧t.sz<40)→40≤d→ρ.length=18→ρ[10]?=some (some (.str acc))→acc.length+(filX ts).length<900000→
  (∀ ρ',SameL ρ ρ'→ρ'[10]?=some (some (.str (acc++filX ts)))→R ρ' σ)→For (fun v ρ' σ'=>evalSs prog W (callF prog W d) [S.forT [12,13] (E.call 57 [(E.idx (E.x 11) (E.c (V.int 1))),(E.c (V.int 0))]) renB] (ρ'.set 11 (some v)) σ') (ts.map T.both) ρ σ R
 | [],ρ,acc,_,_,hl,ha,_,h=>for_nil (h ρ ⟨hl,fun _ _=>rfl⟩ (by rw [ha]; refine (?_:_=some (some (V.str (acc++[])))); rw [List.append_nil]))
 | t :: ts,ρ,acc,ht,hd,hl,ha,hn,h=>by
  refine e0_2 (ht t List.mem_cons_self) fun t1 t2=>?_
  have e:filX (t :: ts)=(t.x 0++[10])++filX ts:=rfl
  have hn:=List.length_append▸e▸hn
  have hr:renL (t.laid.ln 0)=t.x 0++[10]:=by rw [ren_fl (ln_hd _ _),fl_laid]
  have h1:=laid_dp t
  have h2:=laid_sz t
  have hc:callF prog W d 57 [t.laid.v,.int ((0:Nat):Int)] σ=some (.list (lnV (t.laid.ln 0)),σ):=lines_ok t.laid (by lia) (by lia) σ
  refine for_cons (run_forT (ev_call (evs_cons (ev_idx (ev_x (List.getElem?_set_self (by lia))) ev_c (v:=t.laid.v) rfl) (evs_cons ev_c evs_nil)) hc) rfl ?_)
  refine for_ren (acc:=acc) ((ln_db t.laid 0).mono (by lia)) (by rw [List.length_set]; exact hl) (by rw [List.getElem?_set_ne (by decide)]; exact ha) (by refine hr▸?_; lia) fun ρ' h1 h2=>run_nil ⟨rfl,?_⟩
  rw [hr] at h2
  refine for_want (fun t h=>ht t (List.mem_cons_of_mem _ h)) hd h1.1 h2 (by rw [List.length_append]; lia) fun ρ'' h3 h4=>h ρ'' ⟨h3.1,fun j hj=>?_⟩ (by rw [h4,e,List.append_assoc])
  rw [h3.2 j hj,h1.2 j hj,List.getElem?_set_ne (by lia)]
noncomputable def flB:List S:=[S.expr (E.meth (E.x 3) 0 [(E.meth (E.x 1) 10 [(E.x 4)])]),S.expr (E.meth (E.x 3) 0 [(E.c (V.str [10]))])]
noncomputable def pcs (xs:List Txt):List Txt:=(xs.map fun x=>[x,[10]]).flatten
theorem pcs_len:∀ xs:List Txt,(pcs xs).length=2 * xs.length
 | []=>rfl
 | x :: xs=>by refine (?_:(pcs xs).length+2=2 * (xs.length+1)); refine (pcs_len xs)▸?_; lia
theorem for_file {s b:Cel} {D e:Nat} {ext:St} {R:Loc→St→Prop} {sf nd:V}:∀ {vs:List V} {xs:List Txt} {acc:List Txt} {z:Option V},Prs W d s b D e vs xs→acc.length+2 * xs.length<900→
  (∀ z',R [some sf,some (.loc 2),some nd,some (.loc ((SP s b D e ext).length+0)),z'] (SP s b D e ext++[.list (vL (acc++pcs xs))]))→
  For (fun v ρ' σ'=>evalSs prog W (callF prog W d) flB (ρ'.set 4 (some v)) σ') vs [some sf,some (.loc 2),some nd,some (.loc ((SP s b D e ext).length+0)),z] (SP s b D e ext++[.list (vL acc)]) R:=by
 intro vs xs acc z c
 induction c generalizing acc z with
 | nil=>
  intro hn h
  refine for_nil ?_
  have:=h z
  rw [show pcs []=[] from rfl,List.append_nil] at this
  exact this
 | @cons v x vs xs hv _ ih=>
  intro hn h
  rw [List.length_cons] at hn
  refine for_cons ?_
  refine run_expr (ev_methB (ev_x rfl) (o_cls (k:=0) rfl) (o_kind (k:=0) rfl rfl) (evs_cons (ev_meth (ev_x rfl) rfl rfl (evs_cons (ev_x rfl) evs_nil) (hv.at _ _)) evs_nil) (o_app (k:=0) rfl (by rw [vL,List.length_map]; lia))) ?_
  refine run_expr (ev_methB (ev_x rfl) (o_cls (k:=0) rfl) (o_kind (k:=0) rfl rfl) (evs_cons ev_c evs_nil) (o_app (k:=0) rfl (by simp only [List.length_append,List.length_cons,List.length_nil,vL,List.length_map]; lia))) (run_nil ⟨rfl,?_⟩)
  have:=ih (acc:=acc++[x,[10]]) (z:=some v) (by refine List.length_append▸?_; refine (?_:_+2+_<_); lia) (fun z'=>by
   have:=h z'
   rw [show pcs (x :: xs)=[x,[10]]++pcs xs from rfl,← List.append_assoc] at this
   exact this)
  rw [vL_app] at this
  refine (?_:For _ _ _ (SP s b D e ext++[.list (vL acc++[V.str x]++[V.str [10]])]) _)
  rw [List.append_assoc]
  exact this
theorem pr_file {s b:Cel} {D e:Nat} {vs:List V} {xs:List Txt} (he:e<190) (h:Prs W d s b D (e+1) vs xs) (hn:xs.length<250) (hl:(pcs xs).flatten.length<1000000):Pr W (d+1+1) s b D e (nd 40 [] vs) (pcs xs).flatten:=by
 refine pr_of (L:=13) (c:=4) (f:=21) he rfl ⟨_,rfl⟩ (fun _ _=>rfl) (fun _ _=>rfl) rfl fun ext=>?_
 refine call_p (fn:=⟨3,5,b_FileShape_text⟩) rfl rfl rfl ?_
 refine (?_:Run W _ (S.asg 3 _ :: S.for 4 _ flB :: _) [some (.loc 13),some (.loc 2),some (nd 40 [] vs),none,none] _ _)
 refine run_asg (b_listT (r:=[]) evs_nil (Nat.le_of_ble_eq_true rfl) rfl rfl) ?_
 refine run_for (ev_attr (v:=.list vs) (ev_x rfl) rfl) rfl ?_
 refine for_file (acc:=[]) (ext:=ext) (z:=none) h (by refine List.length_nil▸?_; lia) fun z'=>?_
 rw [List.nil_append]
 have hj:=o_joinL (σ:=SP s b D (e+1) ext) (r:=[.list (vL (pcs xs))]) (k:=0) (p:=[]) rfl (by rw [pcs_len]; lia) (by decide) (by rw [total_eq]; exact hl)
 rw [join_nil] at hj
 exact run_ret (ev_methB ev_c rfl rfl (evs_cons (ev_x rfl) evs_nil) hj) ⟨rfl,_,rfl⟩
end
section
variable {W d:Nat}
theorem terms_ok {xs:List Int} (hx:xs.length<1000) (hd:20≤d):∃ (ts:List T) (n l:Nat),1≤ts.length∧ts.length<3∧(∀ t ∈ ts,t.dp≤7∧t.sz<40)∧(ts.map T.sz).sum<40∧
  ∀ ρ:Loc,ρ.length=18→ρ[1]?=some (some (.loc 0))→evalE prog (callF prog W d) (E.compR false 14 (E.bin .add (E.c (V.int 1)) (E.call 39 [(E.x 1),(E.c (V.int 2))])) (E.call 41 [(E.x 1),(E.c (V.int 6)),(E.c (V.bool false))])) ρ [sd xs 0 16]=some (.list (ts.map T.v),[sd xs n l]):=by
 have hp:∃ k:Nat,k<2∧callF prog W d 39 [.loc 0,.int 2] [sd xs 0 16]=some (.int (k:Int),[sd xs (0+1) 16]):=by
  refine e1_2 (need (n:=1) (by lia:1+1≤d)) fun d w1_ _=>?_; subst w1_
  exact pull_ok hx (by decide)
 obtain ⟨k,hk,hp⟩:=hp
 have h:Dr W d xs 6 false:=stmt_ok hx 6 (by lia)
 have fin:∀ (ts:List T) (n l:Nat),(∀ ρ:Loc,ρ.length=18→ρ[1]?=some (some (.loc 0))→mapL (fun v σ'=>evalE prog (callF prog W d) (E.call 41 [(E.x 1),(E.c (V.int 6)),(E.c (V.bool false))]) (ρ.set 14 (some v)) σ') ((List.range (1+k)).map fun (j:Nat)=>V.int j) [sd xs 1 16]=some (ts.map T.v,[sd xs n l]))→
   ∀ ρ:Loc,ρ.length=18→ρ[1]?=some (some (.loc 0))→evalE prog (callF prog W d) (E.compR false 14 (E.bin .add (E.c (V.int 1)) (E.call 39 [(E.x 1),(E.c (V.int 2))])) (E.call 41 [(E.x 1),(E.c (V.int 6)),(E.c (V.bool false))])) ρ [sd xs 0 16]=some (.list (ts.map T.v),[sd xs n l]):=fun ts n l h3 ρ h1 h2=>by
  refine ev_compR (ev_bin (v:=.int ((1+k:Nat):Int)) ev_c (ev_call (evs_cons (ev_x h2) (evs_cons ev_c evs_nil)) hp) ?_) (range_ok (by lia)) (by rw [List.length_map,List.length_range]; lia) (h3 ρ h1 h2)
  refine add_ii▸?_; congr 2
 have one:∀ {n l n' l':Nat} {t:T} {ρ:Loc} {j:V},ρ.length=18→ρ[1]?=some (some (.loc 0))→callF prog W d 41 [.loc 0,.int ((6:Nat):Int),.bool false] [sd xs n l]=some (t.v,[sd xs n' l'])→evalE prog (callF prog W d) (E.call 41 [(E.x 1),(E.c (V.int 6)),(E.c (V.bool false))]) (ρ.set 14 (some j)) [sd xs n l]=some (t.v,[sd xs n' l']):=fun h1 h2 h3=>
  ev_call (evs_cons (ev_x (by rw [List.getElem?_set_ne (by decide)]; exact h2)) (evs_cons ev_c (evs_cons ev_c evs_nil))) h3
 refine e3_5 (h 1 16) fun t n1 l1 a1 a2 a3 a4 a5=>?_
 obtain rfl | rfl:k=0∨k=1:=by lia
 ·refine i3_5 ([t]) n1 l1 (Nat.le_refl _) (Nat.le_of_ble_eq_true rfl) (fun u h=>?_) (by refine (?_:t.sz+0<40); lia) (fin [t] n1 l1 fun ρ h1 h2=>mapL_cons (one h1 h2 a5) mapL_nil)
  rw [List.mem_singleton.mp h]; exact ⟨a3,by lia⟩
 ·refine e3_5 (h n1 l1) fun u n2 l2 b1 b2 b3 b4 b5=>?_
  refine i3_5 ([t,u]) n2 l2 (Nat.le_of_ble_eq_true rfl) (Nat.le_of_ble_eq_true rfl) (fun w h=>?_) (by refine (?_:t.sz+(u.sz+0)<40); lia) (fin [t,u] n2 l2 fun ρ h1 h2=>mapL_cons (one h1 h2 a5) (mapL_cons (one h1 h2 b5) mapL_nil))
  rcases List.mem_cons.mp h with q | q
  ·rw [q]; exact ⟨a3,by lia⟩
  ·rw [List.mem_singleton.mp q]; exact ⟨b3,by lia⟩
theorem init_ok {s b:Cel} (hd:1≤d):callF prog W d 8 [.loc 2] ([s,b]++[.inst 2,.attrs []])=some (.none,[s,b]++[.inst 2,.attrs [(6,.loc 4),(7,.int 0),(8,.int 0),(9,.loc 5)],.dict [],.inst 1,.attrs []]):=by
 refine e1_2 (need (n:=0) hd) fun d w5_ _=>?_; subst w5_
 have e:evalSs prog W (callF prog W d) b_Printer_init [some (.loc 2)] ([s,b]++[.inst 2,.attrs []])=some (.next,[some (.loc 2)],[s,b]++[.inst 2,.attrs [(6,.loc 4),(7,.int 0),(8,.int 0),(9,.loc 5)],.dict [],.inst 1,.attrs []]):=rfl
 exact call_next (fn:=⟨1,1,b_Printer_init⟩) rfl rfl e fun z=>nomatch (List.cons.inj (List.cons.inj (List.cons.inj (List.cons.inj z).2).2).2).1
theorem rest_ok {C:Callee} {s b:Cel}:evalSs prog W C (b_law_printer.drop 1) [some (.loc 2),none,none] (s :: b :: .inst 2 :: .attrs [(6,.loc 4),(7,.int 0),(8,.int 0),(9,.loc 5)] :: .dict [] :: .inst 1 :: .attrs [] :: [])=some (.ret (.loc 2),[some (.loc 2),some (.loc 7),some (.loc 9)],SP s b 0 0 []):=by kernel_rfl
theorem printer_ok {s b:Cel} (hd:5≤d):callF prog W d 58 [] [s,b]=some (.loc 2,SP s b 0 0 []):=by
 refine e1_2 (need hd) fun d w7_ h1=>?_; subst w7_
 refine call_store (fn:=⟨0,3,b_law_printer⟩) rfl rfl ?_ (fun z=>nomatch z.1)
 refine (?_:Run W _ (S.asg 0 _ :: b_law_printer.drop 1) [none,none,none] ([s,b]++[]) _)
 refine run_asg (b_new1 (σ:=[s,b]) (r:=[]) rfl evs_nil rfl rfl (init_ok (by lia))) ?_
 exact i3_3 _ _ _ rest_ok rfl rfl
theorem run_signs {C:Callee} {x y:Nat} {cs:Txt} {ρ ρ':Loc} {σ:St} {ss:List S} {Q:Ctl→Loc→St→Prop} (h:signsL x y cs ρ=some ρ') (h':Run W C ss ρ' σ Q):Run W C (.signs x y cs :: ss) ρ σ Q:=
 run_of (by refine (?_:(signsL x y cs ρ).map _=_); refine h▸?_; rfl) h'
theorem pcs_fil:∀ ts:List T,(pcs (ts.map fun t=>t.x 0)).flatten=filX ts
 | []=>rfl
 | t :: ts=>by
  refine (?_:t.x 0++([10]++(pcs (ts.map fun t=>t.x 0)).flatten)=(t.x 0++[10])++filX ts)
  rw [pcs_fil ts,List.append_assoc]
theorem K_fil:∀ ts:List T,K (filX ts)=(ts.map fun t=>t.laid.tk).flatten
 | []=>K_nil
 | t :: ts=>by
  refine (?_:K ((t.x 0++[10])++filX ts)=t.laid.tk++(ts.map fun t=>t.laid.tk).flatten)
  rw [List.append_assoc]
  refine (?_:K (t.x 0++10 :: filX ts)=_)
  rw [K_sp _ _ sp10 (by decide),K_fil ts,← fl_laid,K_fl (ln_hd _ _).ne,KL_ln]
theorem fil_len:∀ ts:List T,(∀ t ∈ ts,t.dp≤7∧t.sz<40)→(filX ts).length≤601 * (ts.map T.sz).sum+ts.length
 | [],_=>Nat.le_refl _
 | t :: ts,h=>by
  have:=fil_len ts fun t ht=>h t (List.mem_cons_of_mem _ ht)
  have h1:=x_len t (D:=0) (by have:=(h t List.mem_cons_self).1; lia)
  refine (?_:((t.x 0++[10])++filX ts).length≤601 * (t.sz+(ts.map T.sz).sum)+(ts.length+1))
  rw [List.length_append,List.length_append,List.length_cons,List.length_nil]; lia
theorem read_ts {ts:List T} {σ:St} (h1:1≤ts.length) (h2:ts.length<3) (h:∀ t ∈ ts,t.dp≤7∧t.sz<40) (hW:100000≤W) (hd:10≤d):callF prog W d 51 [.list (vL (ts.map fun t=>t.laid.tk).flatten)] σ=some (.list (ts.map fun t=>t.laid.v),σ):=by
 obtain ⟨d,rfl⟩:∃ d',d=d'+3:=⟨d - 3,by lia⟩
 rcases ts with _ | ⟨t,_ | ⟨u,_ | ⟨w,ts⟩⟩⟩
 ·cases h1
 ·obtain ⟨a1,a2⟩:=h t List.mem_cons_self
  have b1:=laid_dp t; have b2:=laid_tk t; have b3:=laid_cost t
  refine (?_:callF prog W (d+3) 51 [.list (vL (t.laid.tk++[]))] σ=_)
  rw [List.append_nil]
  exact read_1 (laid_well t) (by lia) (by lia) (by lia) (by lia)
 ·refine byC fun w12_=>?_
  refine e0_2 (h t List.mem_cons_self) fun a1 a2=>?_
  refine e0_2 (h u (List.mem_cons_of_mem _ List.mem_cons_self)) fun a3 a4=>?_
  have b1:=laid_dp t; have b2:=laid_tk t; have b3:=laid_cost t
  have c1:=laid_dp u; have c2:=laid_tk u; have c3:=laid_cost u
  refine w12_ ?_
  refine (?_:callF prog W (d+3) 51 [.list (vL (t.laid.tk++(u.laid.tk++[])))] σ=_)
  rw [List.append_nil]
  exact read_2 (laid_well t) (laid_well u) (by lia) (by lia) (by rw [List.length_append]; lia) (by rw [List.length_append]; lia) (by lia)
 ·simp only [List.length_cons] at h2; lia
theorem ne_ts {ts:List T} {σ:St} (h:∀ t ∈ ts,t.dp≤7∧t.sz<40):cmpop .ne (.list (ts.map fun t=>t.laid.v)) (.list (ts.map fun t=>t.laid.v)) σ=some false:=by
 have e:(ts.map fun t=>t.laid.v).all (V.eqd 50)=true:=by
  rw [List.all_eq_true]
  intro v hv
  refine e1_2 (List.mem_map.mp hv) fun t ht w13_=>?_; subst w13_
  have:=laid_dp t; have:=(h t ht).1
  exact eqd_T _ (by lia)
 show (if (_ && _)=true then some (@decide _ (V.decEqs _ _)) else none).map _=_
 rw [e]
 show some (!@decide _ (V.decEqs _ _))=_
 rw [@decide_eq_true _ (V.decEqs _ _) rfl]; rfl
theorem prs_ts {s b:Cel}:∀ {ts:List T},(∀ t ∈ ts,t.dp≤7∧t.sz<40)→60≤d→7≤W→Prs W d s b 0 1 (ts.map T.n) (ts.map fun t=>t.x 0)
 | [],_,_,_=>.nil
 | t :: ts,h,hd,hW=>by
  obtain ⟨h1,h2⟩:=h t List.mem_cons_self
  exact .cons ((pr_T t).1 _ _ _ _ _ (by lia) (by lia) (by lia) (by lia) (by lia)) (prs_ts (fun t ht=>h t (List.mem_cons_of_mem _ ht)) hd hW)
theorem law_ok (xs:List Int) (hx:xs.length≤63) (hd:90≤d) (hW:100000≤W):callF prog W (d+1) 59 [.list (xs.map .int)] []=some (.bool true,[]):=by
 refine call_pure (fn:=⟨1,18,b_law⟩) rfl rfl rfl ?_
 refine (?_:Run W _ (S.asg 1 _ :: S.asg 2 _ :: S.asg 3 _ :: S.asg 4 _ :: S.asg 5 _ :: S.asg 6 _ :: S.ifs _ _ _ :: S.asg 7 _ :: S.signs _ _ _ :: S.asg 9 _ :: S.ifs _ _ _ :: S.asg 10 _ :: S.for 11 _ [S.forT [12,13] _ renB] :: S.ret _ :: []) [some (.list (xs.map .int)),none,none,none,none,none,none,none,none,none,none,none,none,none,none,none,none,none] _ _)
 have hsl:slice (.list (xs.map .int)) none (some (.int 60))=some (.list ((xs.take 60).map .int)):=by
  have hl:(xs.map V.int).length=xs.length:=List.length_map ..
  refine (?_:(if 1000000≤(xs.map V.int).length then none else (bound _ 0 none).bind fun a=>(bound _ _ (some (.int 60))).map fun b=>V.list (((xs.map V.int).take b).drop a))=_)
  rw [if_neg (by lia),hl]
  refine (?_:some (V.list (((xs.map V.int).take (min 60 xs.length)).drop 0))=_)
  refine List.drop_zero▸List.map_take▸?_
  congr 3
  by_cases q:xs.length≤60
  ·rw [Nat.min_eq_right q,List.take_of_length_le q,List.take_of_length_le (Nat.le_refl _)]
  ·rw [Nat.min_eq_left (by lia)]
 have hx:(xs.take 60).length<1000:=by rw [List.length_take]; lia
 generalize xs.take 60=ys at hsl hx
 refine e3_5 (terms_ok (W:=W) (d:=d) hx (by lia)) fun ts n l g1 g2 g3 g4 g5=>?_
 refine run_asg (v:=.loc 0) (σ₁:=[sd ys 0 16]) (ev_dict (σ₁:=[]) (vs:=[.list (ys.map .int),.int 0,.int 16]) (evs_cons (ev_slc (ev_x rfl) ev_o0 (ev_o1 ev_c) hsl) (evs_cons ev_c (evs_cons ev_c evs_nil))) ⟨rfl,Nat.le_of_ble_eq_true rfl⟩) ?_
 refine run_asg (g5 _ rfl rfl) ?_
 refine run_asg (v:=.loc 1) (σ₁:=[sd ys n l,.dict [(.str [102,105,110,101],.bool true)]]) (ev_dict (σ₁:=[sd ys n l]) (vs:=[.bool true]) (evs_cons ev_c evs_nil) ⟨rfl,Nat.le_of_ble_eq_true rfl⟩) ?_
 refine run_asg (ev_compF (ev_x rfl) rfl (by rw [List.length_map]; lia) (map_b (b:=.loc 1) (Nat.le_of_ble_eq_true rfl) rfl (by decide) ts _ fun t ht σ=>both_ok t (by have:=(g3 t ht).2; lia) (by have:=(g3 t ht).1; lia) hW (by have:=(g3 t ht).1; lia))) ?_
 generalize sd ys n l=s
 refine run_asg (ev_call evs_nil (printer_ok (by lia))) ?_
 have hfil:=fil_len ts g3
 have hpr:Pr W d s (.dict [(.str [102,105,110,101],.bool true)]) 0 0 (nd 40 [] (ts.map T.n)) (filX ts):=by
  have:=pr_file (W:=W) (d:=d - 2) (s:=s) (b:=.dict [(.str [102,105,110,101],.bool true)]) (D:=0) (e:=0) (vs:=ts.map T.n) (xs:=ts.map fun t=>t.x 0) (by lia) (prs_ts g3 (by lia) (by lia)) (by rw [List.length_map]; lia) (by rw [pcs_fil]; lia)
  rw [show d - 2+1+1=d by lia,pcs_fil] at this
  exact this
 refine run_asg (ev_pr rfl rfl rfl (evs_cons (ev_call (evs_cons ev_c (evs_cons ev_c (evs_cons (ev_compF (ev_x rfl) rfl (by rw [List.length_map]; lia) (map_n (Nat.le_of_ble_eq_true rfl) ts _)) (evs_cons ev_c evs_nil)))) (twig_ok (by lia) ?_)) evs_nil) (hpr [])) ?_
 ·have:∀ ts:List T,V.pures (ts.map T.n)=true:=fun ts=>by
   induction ts with
   | nil=>rfl
   | cons t ts ih=>refine (?_:(t.n.pure && V.pures (ts.map T.n))=true); rw [t.n_pure,ih]; rfl
  exact this ts
 refine run_ifF (et_or (eo_f (et_not (q:=true) (et_tst (ev_idx (ev_x rfl) ev_c rfl) rfl)) (eo_f (et_cmp (ev_attr (ev_x rfl) rfl) ev_c rfl) (eo_f (et_cmp (ev_attr (ev_x rfl) rfl) ev_c rfl) eo_nil)))) ?_
 refine run_asg (ev_x rfl) ?_
 refine e1_1 (signs_ok (x:=8) (y:=7) (t:=filX ts) (ρ:=[some (.list (xs.map .int)),some (.loc 0),some (.list (ts.map T.v)),some (.loc 1),some (.list (ts.map T.both)),some (.loc 2),some (.str (filX ts)),some (.str (filX ts)),none,none,none,none,none,none,none,none,none,none]) (by decide) rfl (by lia)) fun v hv=>?_
 refine run_signs hv ?_
 have hsp:bmeth (.str (ex sgn (filX ts))) 4 [] (SP s (.dict [(.str [102,105,110,101],.bool true)]) 0 0 [])=some (.list (vL (ts.map fun t=>t.laid.tk).flatten),SP s (.dict [(.str [102,105,110,101],.bool true)]) 0 0 []):=by
  rw [← K_fil]
  have:=ex_len sgn (filX ts)
  show (if _ then _ else _)=_
  rw [if_pos (by lia)]
  rfl
 refine run_asg (ev_call (evs_cons (ev_methB (ev_x rfl) rfl rfl evs_nil hsp) evs_nil) (read_ts g1 g2 g3 hW (by lia))) ?_
 refine run_ifF (et_cmp (ev_x rfl) (ev_compF (ev_x rfl) rfl (by rw [List.length_map]; lia) (map_l (Nat.le_of_ble_eq_true rfl) ts _)) (ne_ts g3)) ?_
 refine run_asg ev_c (run_for (ev_x rfl) rfl ?_)
 refine for_want (acc:=[]) g3 (by lia) rfl rfl (by refine List.length_nil▸?_; lia) fun ρ' h1 h2=>?_
 exact run_ret (ev_cmp (ev_x (by rw [h1.2 6 (by decide)]; rfl)) (ev_x h2) (q:=true) (by show some (decide _)=_; rw [List.nil_append,decide_eq_true rfl])) ⟨rfl,rfl⟩
end
end
theorem pure_law:PureLaw:=fun xs hx=>⟨100000,90,by decide,law_ok xs hx (Nat.le_refl 90) (Nat.le_refl 100000)⟩
end Mini
set_option Elab.async true
open PySem PySem.W PyProof.Rows
namespace Mine
def law.tw10017303938028548802:Nat:=0
def law.tw10023686192747115796:Nat:=0
def law.tw10036594631794845626:Nat:=0
def law.tw10047779025188342691:Nat:=0
def law.tw10077782211673108025:Nat:=0
def law.tw10092249737918297831:Nat:=0
def law.tw1009701086978419249:Nat:=0
def law.tw10175032002033253018:Nat:=0
def law.tw1018026163833133460:Nat:=0
def law.tw10184130182752807196:Nat:=0
def law.tw10198373884071604499:Nat:=0
def law.tw102369953223478417:Nat:=0
def law.tw10247290731634373033:Nat:=0
def law.tw10256362016006735932:Nat:=0
def law.tw10267598413121274360:Nat:=0
def law.tw1028061767266205885:Nat:=0
def law.tw10301352058568885028:Nat:=0
def law.tw10302016490043328485:Nat:=0
def law.tw10315161632072059570:Nat:=0
def law.tw10325818145041431185:Nat:=0
def law.tw10341232955530992781:Nat:=0
def law.tw10343620613306851896:Nat:=0
def law.tw10367113944688567759:Nat:=0
def law.tw10400890980155540096:Nat:=0
def law.tw10415937617996713741:Nat:=0
def law.tw10419344180020835187:Nat:=0
def law.tw10426067975794604667:Nat:=0
def law.tw10427431760851071818:Nat:=0
def law.tw10465857802619788157:Nat:=0
def law.tw1050659009266240554:Nat:=0
def law.tw10514562384108138522:Nat:=0
def law.tw1051486845600520342:Nat:=0
def law.tw10536080682534042357:Nat:=0
def law.tw10591461037688281247:Nat:=0
def law.tw1060527474883285679:Nat:=0
def law.tw10611236791313016760:Nat:=0
def law.tw10621653777096046941:Nat:=0
def law.tw10685348096577147127:Nat:=0
def law.tw10688277823682773845:Nat:=0
def law.tw10703760425500077913:Nat:=0
def law.tw10706529869983992875:Nat:=0
def law.tw10739836229700673485:Nat:=0
def law.tw10752825066518504711:Nat:=0
def law.tw10769356432485607983:Nat:=0
def law.tw10794223006604294050:Nat:=0
def law.tw10800886633141164958:Nat:=0
def law.tw10807159166486711602:Nat:=0
def law.tw10857510432234449075:Nat:=0
def law.tw10874921433726861904:Nat:=0
def law.tw10892671021609945967:Nat:=0
def law.tw10946248856476168029:Nat:=0
def law.tw10951376844813844235:Nat:=0
def law.tw10957898683235643810:Nat:=0
def law.tw10964770732761951119:Nat:=0
def law.tw10965469551872863244:Nat:=0
def law.tw10974992932302739955:Nat:=0
def law.tw10994826075172772523:Nat:=0
def law.tw11013384265288417636:Nat:=0
def law.tw11046850342002332991:Nat:=0
def law.tw11062681309371247458:Nat:=0
def law.tw11097398223588278986:Nat:=0
def law.tw11110636111776139030:Nat:=0
def law.tw11166914248177860083:Nat:=0
def law.tw11212136762469197465:Nat:=0
def law.tw11214640017708554800:Nat:=0
def law.tw11218094928909113304:Nat:=0
def law.tw11298811038324506620:Nat:=0
def law.tw11301418021767285613:Nat:=0
def law.tw11307399226152985071:Nat:=0
def law.tw11311298186729470735:Nat:=0
def law.tw11344415483884623159:Nat:=0
def law.tw11382707499955547593:Nat:=0
def law.tw11392337797598563276:Nat:=0
def law.tw11394383290079777767:Nat:=0
def law.tw11426579822771166962:Nat:=0
def law.tw11430425064320331171:Nat:=0
def law.tw11444997793602299991:Nat:=0
def law.tw11494605908041371296:Nat:=0
def law.tw11495715967210877117:Nat:=0
def law.tw11508276016772910950:Nat:=0
def law.tw11522750334253289022:Nat:=0
def law.tw1153827692895563706:Nat:=0
def law.tw11568188458581799787:Nat:=0
def law.tw11572628800222441447:Nat:=0
def law.tw11583600929483320462:Nat:=0
def law.tw11585939484337836193:Nat:=0
def law.tw11623775344073916624:Nat:=0
def law.tw11717155636593292668:Nat:=0
def law.tw11730304314397825215:Nat:=0
def law.tw1173056557569260014:Nat:=0
def law.tw1173816454557449656:Nat:=0
def law.tw11740940271191787082:Nat:=0
def law.tw1175454805773728616:Nat:=0
def law.tw11786191911699353565:Nat:=0
def law.tw1180481574515560740:Nat:=0
def law.tw11815264373039893456:Nat:=0
def law.tw11824627970844036440:Nat:=0
def law.tw11828176328403043835:Nat:=0
def law.tw11842154518297904970:Nat:=0
def law.tw11863417558548698572:Nat:=0
def law.tw11889402102954552362:Nat:=0
def law.tw11889812260386729796:Nat:=0
def law.tw11902286102626654415:Nat:=0
def law.tw11906571095565090093:Nat:=0
def law.tw11935970676940699786:Nat:=0
def law.tw11937483305184348357:Nat:=0
def law.tw11942493962630935323:Nat:=0
def law.tw11946092861730549028:Nat:=0
def law.tw11948677172620494662:Nat:=0
def law.tw11963977292032122386:Nat:=0
def law.tw11985165553501520758:Nat:=0
def law.tw11989444508090820831:Nat:=0
def law.tw11994036072046293465:Nat:=0
def law.tw12013849283962830758:Nat:=0
def law.tw1203716257701319383:Nat:=0
def law.tw12048941617322854295:Nat:=0
def law.tw12069088336919849496:Nat:=0
def law.tw12117037029860064477:Nat:=0
def law.tw12135178488530861281:Nat:=0
def law.tw12150825232487008385:Nat:=0
def law.tw12186359582666192451:Nat:=0
def law.tw12195891886813247594:Nat:=0
def law.tw12226650004936688724:Nat:=0
def law.tw12230747571914751737:Nat:=0
def law.tw122314062626193385:Nat:=0
def law.tw12245500081363259393:Nat:=0
def law.tw12273551080150456667:Nat:=0
def law.tw12279908804925343222:Nat:=0
def law.tw12287136234533164809:Nat:=0
def law.tw12323402489623724369:Nat:=0
def law.tw1233659125815921913:Nat:=0
def law.tw12381065012802370727:Nat:=0
def law.tw12406287720787640118:Nat:=0
def law.tw12409729927284601452:Nat:=0
def law.tw12417648047208412264:Nat:=0
def law.tw12460558941114831546:Nat:=0
def law.tw12471144291089424557:Nat:=0
def law.tw12493615336969742014:Nat:=0
def law.tw12528612297456115742:Nat:=0
def law.tw12559101401677230178:Nat:=0
def law.tw12568657380275995950:Nat:=0
def law.tw12575316582035668456:Nat:=0
def law.tw12590918176133248614:Nat:=0
def law.tw12610608067756550805:Nat:=0
def law.tw12631125104204803094:Nat:=0
def law.tw1264996779986177813:Nat:=0
def law.tw12651357785339719109:Nat:=0
def law.tw12674282577319284049:Nat:=0
def law.tw12692742163140075742:Nat:=0
def law.tw12770879722433261261:Nat:=0
def law.tw12778752544866661580:Nat:=0
def law.tw12823695869238226855:Nat:=0
def law.tw12838285178560531828:Nat:=0
def law.tw12840742523174619060:Nat:=0
def law.tw12843600542912737457:Nat:=0
def law.tw12858416332795934490:Nat:=0
def law.tw12906018389369034649:Nat:=0
def law.tw1291456535581650302:Nat:=0
def law.tw1293455759865818924:Nat:=0
def law.tw13015613923333616007:Nat:=0
def law.tw13047991302672676317:Nat:=0
def law.tw13066497780578153882:Nat:=0
def law.tw13083425294397752484:Nat:=0
def law.tw13106965193916438251:Nat:=0
def law.tw13113920633786177155:Nat:=0
def law.tw13150898266244850823:Nat:=0
def law.tw13212096257208779674:Nat:=0
def law.tw13255749571415808605:Nat:=0
def law.tw13390953723484002094:Nat:=0
def law.tw13437287165872944686:Nat:=0
def law.tw13440086921605842478:Nat:=0
def law.tw13478563133243941227:Nat:=0
def law.tw13483101245441255321:Nat:=0
def law.tw13488528207839692323:Nat:=0
def law.tw13522494884491878246:Nat:=0
def law.tw13526318596587369203:Nat:=0
def law.tw13542253949724653569:Nat:=0
def law.tw13568788915459206134:Nat:=0
def law.tw13571462578222039278:Nat:=0
def law.tw1362119116733059706:Nat:=0
def law.tw13632639987278980995:Nat:=0
def law.tw13633674342485586220:Nat:=0
def law.tw13649833859309736463:Nat:=0
def law.tw13650714166813701049:Nat:=0
def law.tw13689942948840679331:Nat:=0
def law.tw13705118421938282093:Nat:=0
def law.tw13708295860528259264:Nat:=0
def law.tw13718042623122868279:Nat:=0
def law.tw13728773443057724059:Nat:=0
def law.tw1373402935214668067:Nat:=0
def law.tw13749054020404154894:Nat:=0
def law.tw13759417580001532375:Nat:=0
def law.tw13759499700678286921:Nat:=0
def law.tw13791976218914085910:Nat:=0
def law.tw13792675428249388266:Nat:=0
def law.tw13817118937593592305:Nat:=0
def law.tw13817889222792818659:Nat:=0
def law.tw1383731269468801798:Nat:=0
def law.tw13839857845054364484:Nat:=0
def law.tw13842426366788959810:Nat:=0
def law.tw138574305562521906:Nat:=0
def law.tw13876013198041843859:Nat:=0
def law.tw13879225670730278427:Nat:=0
def law.tw13880050052962715347:Nat:=0
def law.tw1389820569774816010:Nat:=0
def law.tw13920396046425469239:Nat:=0
def law.tw13936643096378992333:Nat:=0
def law.tw13942842804053233393:Nat:=0
def law.tw13961721518649118276:Nat:=0
def law.tw13987225519633593624:Nat:=0
def law.tw13987723442651042584:Nat:=0
def law.tw13988015933445734196:Nat:=0
def law.tw13991671423132386651:Nat:=0
def law.tw14000446723430198427:Nat:=0
def law.tw14010076898232200416:Nat:=0
def law.tw14024736740038160652:Nat:=0
def law.tw14035150605665280278:Nat:=0
def law.tw14076399572816568179:Nat:=0
def law.tw14123017346688533716:Nat:=0
def law.tw14128341047855924044:Nat:=0
def law.tw14152130928434042037:Nat:=0
def law.tw14159885695829415453:Nat:=0
def law.tw14203077291407213153:Nat:=0
def law.tw14256497347100926749:Nat:=0
def law.tw14325307061458958174:Nat:=0
def law.tw14347874162851305126:Nat:=0
def law.tw14369906706373830997:Nat:=0
def law.tw14378802154175168248:Nat:=0
def law.tw14379462156141025328:Nat:=0
def law.tw14436188486168700746:Nat:=0
def law.tw14454013014457997316:Nat:=0
def law.tw1447171808669064302:Nat:=0
def law.tw14486345096278870825:Nat:=0
def law.tw14498989106275084464:Nat:=0
def law.tw14499171404124301396:Nat:=0
def law.tw14507587579433425230:Nat:=0
def law.tw14510593637769883179:Nat:=0
def law.tw14515976153276121890:Nat:=0
def law.tw14521358192807160333:Nat:=0
def law.tw14532296871065327056:Nat:=0
def law.tw14533119002083711444:Nat:=0
def law.tw14570365649230677866:Nat:=0
def law.tw14576799054823838208:Nat:=0
def law.tw14577606919805201265:Nat:=0
def law.tw14599413283764096708:Nat:=0
def law.tw14617560702391422364:Nat:=0
def law.tw14638260998799547269:Nat:=0
def law.tw1465873621379359671:Nat:=0
def law.tw1465988683178648907:Nat:=0
def law.tw1466779918729120563:Nat:=0
def law.tw1469735678299482304:Nat:=0
def law.tw14700725272852012173:Nat:=0
def law.tw14708469453074290282:Nat:=0
def law.tw14744833100613178862:Nat:=0
def law.tw14749892692755204182:Nat:=0
def law.tw14782981152658694796:Nat:=0
def law.tw14789840032233709398:Nat:=0
def law.tw14802755200647372418:Nat:=0
def law.tw14805874555140095111:Nat:=0
def law.tw14822561477600552272:Nat:=0
def law.tw14823078309275213862:Nat:=0
def law.tw14831383725187164143:Nat:=0
def law.tw14848663850042179269:Nat:=0
def law.tw14854347315293268277:Nat:=0
def law.tw14863036695008648806:Nat:=0
def law.tw14917799086474653858:Nat:=0
def law.tw14968367719556016292:Nat:=0
def law.tw15015745976456417031:Nat:=0
def law.tw15041525498782234677:Nat:=0
def law.tw15063641883320774979:Nat:=0
def law.tw15088025187894373293:Nat:=0
def law.tw15133894477763591001:Nat:=0
def law.tw15176254315650684438:Nat:=0
def law.tw15203146848449140188:Nat:=0
def law.tw1520941332042229010:Nat:=0
def law.tw15222875852580137002:Nat:=0
def law.tw15246947223726993395:Nat:=0
def law.tw1525368065110760597:Nat:=0
def law.tw15256427174045628171:Nat:=0
def law.tw15256692100603658409:Nat:=0
def law.tw15263769805065091549:Nat:=0
def law.tw15275852157875592578:Nat:=0
def law.tw15289330230984754401:Nat:=0
def law.tw15302435305213789078:Nat:=0
def law.tw15346544961363321373:Nat:=0
def law.tw15380865273908049988:Nat:=0
def law.tw15389614509561763626:Nat:=0
def law.tw15420094193594558254:Nat:=0
def law.tw15473402846913379219:Nat:=0
def law.tw15493454373403193892:Nat:=0
def law.tw15494371944516692473:Nat:=0
def law.tw15496741712441836406:Nat:=0
def law.tw15506422056084209929:Nat:=0
def law.tw15514850812878357745:Nat:=0
def law.tw15525161276326080298:Nat:=0
def law.tw15597182930151339651:Nat:=0
def law.tw15615498541637825414:Nat:=0
def law.tw15712179433548234360:Nat:=0
def law.tw15765421472698966961:Nat:=0
def law.tw15766633513702204512:Nat:=0
def law.tw15780532435565012867:Nat:=0
def law.tw15811142124933470021:Nat:=0
def law.tw15842686482387449074:Nat:=0
def law.tw15844911930040286848:Nat:=0
def law.tw15872714501068328079:Nat:=0
def law.tw1588967304687831749:Nat:=0
def law.tw15937226240868199268:Nat:=0
def law.tw15944410689205409886:Nat:=0
def law.tw15965980055267658272:Nat:=0
def law.tw159847689732260593:Nat:=0
def law.tw15989989117198419963:Nat:=0
def law.tw15993453377266289018:Nat:=0
def law.tw15999924402797230065:Nat:=0
def law.tw1600026505215413530:Nat:=0
def law.tw16005900618382996980:Nat:=0
def law.tw16077205678165646116:Nat:=0
def law.tw16088689554097435583:Nat:=0
def law.tw1610100390967393046:Nat:=0
def law.tw16114145909470816235:Nat:=0
def law.tw16117387737037462480:Nat:=0
def law.tw16121300976676042060:Nat:=0
def law.tw16125145973140629509:Nat:=0
def law.tw16127396978525395202:Nat:=0
def law.tw16143402536387952546:Nat:=0
def law.tw16149082301048216158:Nat:=0
def law.tw16165545079687566800:Nat:=0
def law.tw16173505291465673776:Nat:=0
def law.tw16176092079185841447:Nat:=0
def law.tw16214522063434749053:Nat:=0
def law.tw16224417117830211812:Nat:=0
def law.tw16234711888074852603:Nat:=0
def law.tw16250765226258230480:Nat:=0
def law.tw16251456166430716674:Nat:=0
def law.tw1625687556541757332:Nat:=0
def law.tw16283311888657096546:Nat:=0
def law.tw16306203998025977777:Nat:=0
def law.tw16308925916262877119:Nat:=0
def law.tw16320569818401670327:Nat:=0
def law.tw16334506775019375125:Nat:=0
def law.tw163467674121137261:Nat:=0
def law.tw1635936076561994385:Nat:=0
def law.tw16360857089514365176:Nat:=0
def law.tw16453277806911668926:Nat:=0
def law.tw16453499918431264371:Nat:=0
def law.tw16508637522281333976:Nat:=0
def law.tw16511300880660718354:Nat:=0
def law.tw16562281266993608982:Nat:=0
def law.tw16585132557245215809:Nat:=0
def law.tw16588905709249636379:Nat:=0
def law.tw16617871175012263787:Nat:=0
def law.tw16653298701519530459:Nat:=0
def law.tw16658522673551069384:Nat:=0
def law.tw16686367200484181685:Nat:=0
def law.tw16727424936897985260:Nat:=0
def law.tw16754735025710492841:Nat:=0
def law.tw16756087238492270046:Nat:=0
def law.tw16762458994305022840:Nat:=0
def law.tw16781324522502593039:Nat:=0
def law.tw16800591462905864772:Nat:=0
def law.tw16813236886810034266:Nat:=0
def law.tw16821224379640845607:Nat:=0
def law.tw16840123298276764928:Nat:=0
def law.tw1686647556559472485:Nat:=0
def law.tw16884566110622355778:Nat:=0
def law.tw16931624348194923968:Nat:=0
def law.tw16969368358214040724:Nat:=0
def law.tw16986089415065116321:Nat:=0
def law.tw17022016316827628603:Nat:=0
def law.tw17065853034018868707:Nat:=0
def law.tw17078252043157811359:Nat:=0
def law.tw17084091479934422900:Nat:=0
def law.tw17093361896211462796:Nat:=0
def law.tw1710791838299486756:Nat:=0
def law.tw17118460274778945656:Nat:=0
def law.tw17155121183968833655:Nat:=0
def law.tw17180186633401351929:Nat:=0
def law.tw17190579585055793647:Nat:=0
def law.tw17204149490039463547:Nat:=0
def law.tw17206921223145749079:Nat:=0
def law.tw17258638142836949332:Nat:=0
def law.tw17262744447901875323:Nat:=0
def law.tw1726676707928303028:Nat:=0
def law.tw17289018086036417837:Nat:=0
def law.tw17322645514826386617:Nat:=0
def law.tw17351294838357633443:Nat:=0
def law.tw17360577748265574369:Nat:=0
def law.tw17373431669744476528:Nat:=0
def law.tw17376251071050522138:Nat:=0
def law.tw17405017239844752494:Nat:=0
def law.tw17434446165756496795:Nat:=0
def law.tw1746432321631148817:Nat:=0
def law.tw17472744829559773135:Nat:=0
def law.tw17485718604911638032:Nat:=0
def law.tw17490534313506657616:Nat:=0
def law.tw17502139389040140158:Nat:=0
def law.tw17506701968014169379:Nat:=0
def law.tw17515293845915203335:Nat:=0
def law.tw17521603330594381506:Nat:=0
def law.tw17585447988674925725:Nat:=0
def law.tw17617285060259143518:Nat:=0
def law.tw17702700018548142076:Nat:=0
def law.tw17722742745207735485:Nat:=0
def law.tw17816892725917836692:Nat:=0
def law.tw17885409212239369024:Nat:=0
def law.tw17902572638220959821:Nat:=0
def law.tw17944706970682724776:Nat:=0
def law.tw17954688815868799476:Nat:=0
def law.tw17968703191050498054:Nat:=0
def law.tw17985451953469339569:Nat:=0
def law.tw18024705061545192003:Nat:=0
def law.tw1802847094856485388:Nat:=0
def law.tw18028811614330443932:Nat:=0
def law.tw1803423151024578886:Nat:=0
def law.tw18048234928913447597:Nat:=0
def law.tw18067812818302755093:Nat:=0
def law.tw18072629212493113695:Nat:=0
def law.tw18114796583763774893:Nat:=0
def law.tw18117182151515629710:Nat:=0
def law.tw18146567417937322041:Nat:=0
def law.tw18175444698000654424:Nat:=0
def law.tw1823688381079382038:Nat:=0
def law.tw18256614335192688444:Nat:=0
def law.tw1826158907387034965:Nat:=0
def law.tw1856641416765329477:Nat:=0
def law.tw1869818228139546136:Nat:=0
def law.tw1888967101186279259:Nat:=0
def law.tw1900324959677325778:Nat:=0
def law.tw1901144896910080236:Nat:=0
def law.tw1901463485585308961:Nat:=0
def law.tw1913044124354089977:Nat:=0
def law.tw1938744211872416739:Nat:=0
def law.tw1940508613919620296:Nat:=0
def law.tw1965001072090347827:Nat:=0
def law.tw1981339053424895550:Nat:=0
def law.tw2015715439407602895:Nat:=0
def law.tw2022067537559949955:Nat:=0
def law.tw2030965984702790068:Nat:=0
def law.tw2048163516462596894:Nat:=0
def law.tw2066843600984799122:Nat:=0
def law.tw2070672184697497193:Nat:=0
def law.tw2097078171882174114:Nat:=0
def law.tw2109362653829874276:Nat:=0
def law.tw2146406837688113226:Nat:=0
def law.tw2151773729862844728:Nat:=0
def law.tw2166595475072027153:Nat:=0
def law.tw2197534260023057625:Nat:=0
def law.tw2205698974497283170:Nat:=0
def law.tw2271115096406454409:Nat:=0
def law.tw2285089234919929759:Nat:=0
def law.tw2306052480582322947:Nat:=0
def law.tw2317056428101995559:Nat:=0
def law.tw234088651831972884:Nat:=0
def law.tw2349678823959529038:Nat:=0
def law.tw2355131481168834475:Nat:=0
def law.tw2358714786173758445:Nat:=0
def law.tw2408790809215497928:Nat:=0
def law.tw2428457723711304594:Nat:=0
def law.tw2469817801405369238:Nat:=0
def law.tw2471118842875268746:Nat:=0
def law.tw2478590926110498673:Nat:=0
def law.tw2534802532812314358:Nat:=0
def law.tw253840606061104439:Nat:=0
def law.tw2540654813821913800:Nat:=0
def law.tw2550525375325809800:Nat:=0
def law.tw2568047147079326155:Nat:=0
def law.tw256976601096795226:Nat:=0
def law.tw259394306007589022:Nat:=0
def law.tw2625511071182689176:Nat:=0
def law.tw2631597217383475997:Nat:=0
def law.tw2688440419461138214:Nat:=0
def law.tw2701060103859306073:Nat:=0
def law.tw2706467153675513630:Nat:=0
def law.tw2730813919513624690:Nat:=0
def law.tw2747473955017203386:Nat:=0
def law.tw2759093891202059377:Nat:=0
def law.tw2759683279807804344:Nat:=0
def law.tw2767130036542949939:Nat:=0
def law.tw2772920992713636412:Nat:=0
def law.tw27750575347808274:Nat:=0
def law.tw2787570134857116660:Nat:=0
def law.tw2839217111843610952:Nat:=0
def law.tw2840554221268165817:Nat:=0
def law.tw2864799831941436772:Nat:=0
def law.tw2867496390186870437:Nat:=0
def law.tw2867984728959990353:Nat:=0
def law.tw2875338257047697019:Nat:=0
def law.tw2896404767119713280:Nat:=0
def law.tw2901162926802514841:Nat:=0
def law.tw2947115874711867620:Nat:=0
def law.tw3008341582244820868:Nat:=0
def law.tw3009095056115078190:Nat:=0
def law.tw3022312534896902172:Nat:=0
def law.tw3043470036575428307:Nat:=0
def law.tw304548727882767379:Nat:=0
def law.tw3048234832985169340:Nat:=0
def law.tw3054335285294786930:Nat:=0
def law.tw3072225134962723145:Nat:=0
def law.tw3104323637166983492:Nat:=0
def law.tw3104583933679965317:Nat:=0
def law.tw3120224187761796320:Nat:=0
def law.tw3161069045813151812:Nat:=0
def law.tw3180723083338580804:Nat:=0
def law.tw3229700554076719671:Nat:=0
def law.tw3230608261355345448:Nat:=0
def law.tw3250915212149896916:Nat:=0
def law.tw3260919848671502144:Nat:=0
def law.tw3272815010394513277:Nat:=0
def law.tw3291430995647064902:Nat:=0
def law.tw3342332042058031035:Nat:=0
def law.tw3348455353131965155:Nat:=0
def law.tw3354418783263562886:Nat:=0
def law.tw336251253817745504:Nat:=0
def law.tw3369179463843577602:Nat:=0
def law.tw3373445221797699062:Nat:=0
def law.tw3410264322593213964:Nat:=0
def law.tw3411735182426506251:Nat:=0
def law.tw3444863652334205213:Nat:=0
def law.tw3459007337505406896:Nat:=0
def law.tw3499271817265539070:Nat:=0
def law.tw351354326529436124:Nat:=0
def law.tw3515449065397969731:Nat:=0
def law.tw3533238546431096377:Nat:=0
def law.tw3540389220791546976:Nat:=0
def law.tw3546409519315090473:Nat:=0
def law.tw354945379286729580:Nat:=0
def law.tw3571156449328691658:Nat:=0
def law.tw3602087526383413984:Nat:=0
def law.tw3624210043245696575:Nat:=0
def law.tw3626631501046058187:Nat:=0
def law.tw3634103573656307507:Nat:=0
def law.tw3635574925395915108:Nat:=0
def law.tw3682453597880938187:Nat:=0
def law.tw3684762893912169845:Nat:=0
def law.tw3719681397706141219:Nat:=0
def law.tw3754850963998221704:Nat:=0
def law.tw3764636346061320997:Nat:=0
def law.tw3775361592671485517:Nat:=0
def law.tw3776384354125389302:Nat:=0
def law.tw3791791659867975981:Nat:=0
def law.tw3797747664263751548:Nat:=0
def law.tw3877819282751843081:Nat:=0
def law.tw3883407854063371304:Nat:=0
def law.tw3886675843612926803:Nat:=0
def law.tw3897705189744936346:Nat:=0
def law.tw3903891362027405964:Nat:=0
def law.tw3911520878051630713:Nat:=0
def law.tw3943894540705788830:Nat:=0
def law.tw3975011203230848119:Nat:=0
def law.tw4006667922045918614:Nat:=0
def law.tw402279622276383398:Nat:=0
def law.tw4046071567669942238:Nat:=0
def law.tw4068673481559142534:Nat:=0
def law.tw407461395843676723:Nat:=0
def law.tw4093225961972846934:Nat:=0
def law.tw4173070603276499212:Nat:=0
def law.tw4182654589858091758:Nat:=0
def law.tw4189197808216739701:Nat:=0
def law.tw4202135290752947577:Nat:=0
def law.tw4286572355808766822:Nat:=0
def law.tw4326799050210483083:Nat:=0
def law.tw4327623514102990693:Nat:=0
def law.tw4340128086173337695:Nat:=0
def law.tw434239029886370409:Nat:=0
def law.tw4374311865265045770:Nat:=0
def law.tw4430809425077638310:Nat:=0
def law.tw445187652221266311:Nat:=0
def law.tw4465646653704629892:Nat:=0
def law.tw4486032776419574197:Nat:=0
def law.tw4508402080735471834:Nat:=0
def law.tw4523824963191099297:Nat:=0
def law.tw4537243172502812280:Nat:=0
def law.tw4545973453172447737:Nat:=0
def law.tw4558158562405209887:Nat:=0
def law.tw456163412107929985:Nat:=0
def law.tw4567791690157840171:Nat:=0
def law.tw4571645102805042067:Nat:=0
def law.tw4603515126424664187:Nat:=0
def law.tw4622507943286758663:Nat:=0
def law.tw4648666894120409344:Nat:=0
def law.tw4656522077572595867:Nat:=0
def law.tw4679974759194884242:Nat:=0
def law.tw4695501141862512255:Nat:=0
def law.tw4704640042688703944:Nat:=0
def law.tw4713551182589055032:Nat:=0
def law.tw472668490227771761:Nat:=0
def law.tw4789647429693112344:Nat:=0
def law.tw4792329651925809361:Nat:=0
def law.tw4811541298574165355:Nat:=0
def law.tw4843196698346154017:Nat:=0
def law.tw4846713546244368349:Nat:=0
def law.tw4857450981121428021:Nat:=0
def law.tw4891778461783962505:Nat:=0
def law.tw4901188629543592175:Nat:=0
def law.tw4908517660498442698:Nat:=0
def law.tw4917558012181272488:Nat:=0
def law.tw4985433183175806960:Nat:=0
def law.tw4996075523409900784:Nat:=0
def law.tw5037233810833290919:Nat:=0
def law.tw5054631082046157970:Nat:=0
def law.tw5074664015257517900:Nat:=0
def law.tw5079013609374358204:Nat:=0
def law.tw5112332982280096225:Nat:=0
def law.tw5142033877837786382:Nat:=0
def law.tw5152554778974162585:Nat:=0
def law.tw5157791410253864251:Nat:=0
def law.tw5160153681172496555:Nat:=0
def law.tw5186830071266829134:Nat:=0
def law.tw5193999175931551279:Nat:=0
def law.tw519598522186407377:Nat:=0
def law.tw5210029761005115848:Nat:=0
def law.tw5220970943305120558:Nat:=0
def law.tw5241873987765446382:Nat:=0
def law.tw5266172909301102864:Nat:=0
def law.tw5297855924027211889:Nat:=0
def law.tw5362395565441583439:Nat:=0
def law.tw53783548723167669:Nat:=0
def law.tw5432566325926082126:Nat:=0
def law.tw5461974950726986916:Nat:=0
def law.tw5463558192141173800:Nat:=0
def law.tw5478055030515842151:Nat:=0
def law.tw559181110591177822:Nat:=0
def law.tw564559526481096679:Nat:=0
def law.tw5649149158178163895:Nat:=0
def law.tw568555166003729926:Nat:=0
def law.tw5690326788178225619:Nat:=0
def law.tw5710286041021286952:Nat:=0
def law.tw5727335911104298072:Nat:=0
def law.tw5752558986149368431:Nat:=0
def law.tw5757006862646242492:Nat:=0
def law.tw5759171584303317809:Nat:=0
def law.tw5765074778068036712:Nat:=0
def law.tw5778479216837208672:Nat:=0
def law.tw5803965400209379596:Nat:=0
def law.tw5808560155020538968:Nat:=0
def law.tw581630979248748536:Nat:=0
def law.tw5822903616692022278:Nat:=0
def law.tw5824405040477277189:Nat:=0
def law.tw5837443200255339034:Nat:=0
def law.tw5865331365556526202:Nat:=0
def law.tw5896170298182094975:Nat:=0
def law.tw5926448791855114412:Nat:=0
def law.tw5927765860272117351:Nat:=0
def law.tw59572031778389095:Nat:=0
def law.tw5962509045511649851:Nat:=0
def law.tw5995636244603389501:Nat:=0
def law.tw6003215673028684012:Nat:=0
def law.tw6004520436032409730:Nat:=0
def law.tw6086229705292442542:Nat:=0
def law.tw6118522254490007756:Nat:=0
def law.tw6145632894437374147:Nat:=0
def law.tw6151798954670327873:Nat:=0
def law.tw6152378112859876241:Nat:=0
def law.tw6181767216480634638:Nat:=0
def law.tw6226999849681690003:Nat:=0
def law.tw6229849515817353647:Nat:=0
def law.tw6277695593091390052:Nat:=0
def law.tw6289346023763460466:Nat:=0
def law.tw6302143051951965081:Nat:=0
def law.tw6320052863035037261:Nat:=0
def law.tw6354018499285256535:Nat:=0
def law.tw6384622485912284485:Nat:=0
def law.tw6394418113948073315:Nat:=0
def law.tw6424448315993446631:Nat:=0
def law.tw6427174196504210575:Nat:=0
def law.tw6446545568877546841:Nat:=0
def law.tw6460622447872880723:Nat:=0
def law.tw6463740839748345367:Nat:=0
def law.tw6476354696636479739:Nat:=0
def law.tw6519122298890219348:Nat:=0
def law.tw6525115498288738249:Nat:=0
def law.tw6567547706753919033:Nat:=0
def law.tw6570022011229800607:Nat:=0
def law.tw6597703633786072401:Nat:=0
def law.tw6609836479102440350:Nat:=0
def law.tw663048005711513719:Nat:=0
def law.tw6631183675187109265:Nat:=0
def law.tw663549203295587526:Nat:=0
def law.tw6636046092353448235:Nat:=0
def law.tw6731326881386711618:Nat:=0
def law.tw6740063932994144458:Nat:=0
def law.tw674138735105968255:Nat:=0
def law.tw6748495095562036567:Nat:=0
def law.tw6806221382148513329:Nat:=0
def law.tw6827226416931352268:Nat:=0
def law.tw6828209207439402694:Nat:=0
def law.tw6868005720005893525:Nat:=0
def law.tw6872861749132703480:Nat:=0
def law.tw6906583014144836424:Nat:=0
def law.tw6914921336513587705:Nat:=0
def law.tw6944951937206755967:Nat:=0
def law.tw6973893990897824167:Nat:=0
def law.tw6981911342545965932:Nat:=0
def law.tw7021529481118678600:Nat:=0
def law.tw7059899664208695735:Nat:=0
def law.tw7096782637782417568:Nat:=0
def law.tw711234589127039427:Nat:=0
def law.tw7145524562484138819:Nat:=0
def law.tw7167135338594676765:Nat:=0
def law.tw7171897867850184110:Nat:=0
def law.tw7216021764512436730:Nat:=0
def law.tw7219418724992983073:Nat:=0
def law.tw7228040930830709755:Nat:=0
def law.tw7238077460143993408:Nat:=0
def law.tw7264552106395557346:Nat:=0
def law.tw7283594651733678074:Nat:=0
def law.tw7322376048046499335:Nat:=0
def law.tw737984825700265201:Nat:=0
def law.tw740211120730030258:Nat:=0
def law.tw743264849047517613:Nat:=0
def law.tw745060366244241829:Nat:=0
def law.tw7472392605112009958:Nat:=0
def law.tw7480342320343589694:Nat:=0
def law.tw7585802756859319165:Nat:=0
def law.tw759412082559616514:Nat:=0
def law.tw7598944934544261139:Nat:=0
def law.tw7630794467942622387:Nat:=0
def law.tw7650714045787232364:Nat:=0
def law.tw765298420194286304:Nat:=0
def law.tw7653468643433142808:Nat:=0
def law.tw7656013864741027499:Nat:=0
def law.tw766751810287931212:Nat:=0
def law.tw7702675244742591052:Nat:=0
def law.tw7711025637178765631:Nat:=0
def law.tw7712447660842303439:Nat:=0
def law.tw7734604250243216639:Nat:=0
def law.tw7753880514481173888:Nat:=0
def law.tw7757085409567536760:Nat:=0
def law.tw7766641309684699224:Nat:=0
def law.tw7805032114618664510:Nat:=0
def law.tw7861290965237921058:Nat:=0
def law.tw7874035108860355382:Nat:=0
def law.tw7915780347706347194:Nat:=0
def law.tw791899376490664284:Nat:=0
def law.tw7928155888929269629:Nat:=0
def law.tw7947664461464936259:Nat:=0
def law.tw7974842139376466880:Nat:=0
def law.tw7990135326770990556:Nat:=0
def law.tw7996485915198524587:Nat:=0
def law.tw800855052404167080:Nat:=0
def law.tw8011040964148999876:Nat:=0
def law.tw8053484116034330024:Nat:=0
def law.tw8096505338646543528:Nat:=0
def law.tw811658124584790753:Nat:=0
def law.tw8153084778026830734:Nat:=0
def law.tw8208282992192066176:Nat:=0
def law.tw8214243552090061388:Nat:=0
def law.tw8231502817629432187:Nat:=0
def law.tw824528157449599020:Nat:=0
def law.tw8279888901846984674:Nat:=0
def law.tw8297594290876781718:Nat:=0
def law.tw8319792697340206452:Nat:=0
def law.tw8355193580418170465:Nat:=0
def law.tw8379801371077579658:Nat:=0
def law.tw8393808627357018136:Nat:=0
def law.tw8400101796353163633:Nat:=0
def law.tw8400330649371614963:Nat:=0
def law.tw8439701749127279522:Nat:=0
def law.tw8469116424944935334:Nat:=0
def law.tw8476946520831507393:Nat:=0
def law.tw8541979377530643823:Nat:=0
def law.tw8586705632084015521:Nat:=0
def law.tw8616365168702025429:Nat:=0
def law.tw8626915112869598603:Nat:=0
def law.tw8661385045365669865:Nat:=0
def law.tw8682739963175335853:Nat:=0
def law.tw8689002245099136070:Nat:=0
def law.tw8696591131425080441:Nat:=0
def law.tw8724380502384027866:Nat:=0
def law.tw8733048874739728715:Nat:=0
def law.tw8765402361407721219:Nat:=0
def law.tw8807841539937598354:Nat:=0
def law.tw8819820080943635200:Nat:=0
def law.tw8862305216795178012:Nat:=0
def law.tw8877418767269552731:Nat:=0
def law.tw8909797698515804255:Nat:=0
def law.tw8941945780141715332:Nat:=0
def law.tw8945754567795272355:Nat:=0
def law.tw8952797441857020512:Nat:=0
def law.tw8953799811704845711:Nat:=0
def law.tw8958012244803539818:Nat:=0
def law.tw8982606715950602116:Nat:=0
def law.tw8991751998297814758:Nat:=0
def law.tw9015464708710000909:Nat:=0
def law.tw9022724931740917465:Nat:=0
def law.tw9035912170408793244:Nat:=0
def law.tw9084386154913301970:Nat:=0
def law.tw9091569675055190766:Nat:=0
def law.tw9113807230714201596:Nat:=0
def law.tw9129929869213659512:Nat:=0
def law.tw9142270756455014936:Nat:=0
def law.tw9148902814395704832:Nat:=0
def law.tw916548969209025798:Nat:=0
def law.tw9171909744762028523:Nat:=0
def law.tw917995684807299206:Nat:=0
def law.tw9229838796769363015:Nat:=0
def law.tw9250443183723457477:Nat:=0
def law.tw9259028747146209043:Nat:=0
def law.tw9306489563800820662:Nat:=0
def law.tw9352411309777683346:Nat:=0
def law.tw9367824684869332731:Nat:=0
def law.tw9378306084680490058:Nat:=0
def law.tw9383713532851269502:Nat:=0
def law.tw940310143306944107:Nat:=0
def law.tw9404216683206984957:Nat:=0
def law.tw9410549743452576506:Nat:=0
def law.tw9466798147059509037:Nat:=0
def law.tw9471597260113704148:Nat:=0
def law.tw9505315131864032382:Nat:=0
def law.tw9507168425194765073:Nat:=0
def law.tw9549881006879880859:Nat:=0
def law.tw9557124704186283899:Nat:=0
def law.tw9590647126063797726:Nat:=0
def law.tw959195223876475222:Nat:=0
def law.tw9641771715135223730:Nat:=0
def law.tw964735967877550831:Nat:=0
def law.tw9677427155830250378:Nat:=0
def law.tw9705406087231273881:Nat:=0
def law.tw9751664218392036932:Nat:=0
def law.tw9774928459537144336:Nat:=0
def law.tw9786200172182825339:Nat:=0
def law.tw986719644861196294:Nat:=0
def law.tw9869512813609090013:Nat:=0
def law.tw9870198538304392489:Nat:=0
def law.tw9897934542801524638:Nat:=0
def law.tw9923142948409654889:Nat:=0
def law.tw9937669407633546576:Nat:=0
def law.tw9946861707870233718:Nat:=0
set_option maxRecDepth 100000 in
set_option maxHeartbeats 8000000 in
theorem law : PySem.Challenge.rw_xw0121_01.Holds := by
  w_on
  o_law
  k_head
  (case hw => w_witness2)
  have PL := Mini.pure_law
  intro w s₀ s₁ mg mb G Y fa o pm cd doc dV kV ho hd hcd hD hmg hg args vals as hpre hlay hrd hwl hlo
  have KX := kIn_of Y
  refine Ground.open G ?_
  intro T B D TE TW
  clear hd Y G B D TE TW hcd hD
  wrow_args hpre hlay hrd hwl hlo
  refine enter_call (codeAny_mono (R := GoodW _ _ _ _ _) ?_ fun _ _ g => GoodW.toG g)
  have bs : Mini.Bs (Mine.law.heap_1_39 w.params) mg mb s₁.heap := ⟨KX, T.g, T.b, T.builtins, T.nolimit⟩
  have hfa : fa = 820 := by
    have q := mg_of KX T.g (n := "law") (v := .ref 820) (by kernel_rfl)
    exact (PySem.Value.ref.inj (Option.some.inj (q.symm.trans hmg))).symm
  subst hfa
  have sm : ∃ o, s₁.heap.get? PySem.sysModules = some o := by
    have h : s₁.heap.NoSeer := T.seer (by kernel_rfl)
    obtain ⟨_, ⟨o, _, _, h, _⟩, _⟩ := h.mods
    exact ⟨o, h⟩
  have ck : ∀ P : Params, Mini.statZ.cls.all (Mini.clsOk (Mine.law.heap_1_39 P)) = true ∧ Mini.methT.all (Mini.methChk (Mine.law.heap_1_39 P) Mini.statZ) = true :=
    fun P => ⟨by as_aux_lemma => kernel_rfl, by as_aux_lemma => kernel_rfl⟩
  have cf : ∀ P : Params, (List.range 60).all (Mini.fnAt (Mine.law.heap_1_39 P) Mini.statZ) = true :=
    fun P => Mini.all_at 0 5 (by as_aux_lemma => kernel_rfl) (Mini.all_at 5 5 (by as_aux_lemma => kernel_rfl) (Mini.all_at 10 5 (by as_aux_lemma => kernel_rfl) (Mini.all_at 15 5 (by as_aux_lemma => kernel_rfl) (Mini.all_at 20 5 (by as_aux_lemma => kernel_rfl) (Mini.all_at 25 5 (by as_aux_lemma => kernel_rfl) (Mini.all_at 30 5 (by as_aux_lemma => kernel_rfl) (Mini.all_at 35 5 (by as_aux_lemma => kernel_rfl) (Mini.all_at 40 5 (by as_aux_lemma => kernel_rfl) (Mini.all_at 45 5 (by as_aux_lemma => kernel_rfl) (Mini.all_at 50 5 (by as_aux_lemma => kernel_rfl) (by as_aux_lemma => kernel_rfl)))))))))))
  have H : Mini.Env1 (⟨PySem.Challenge.rw_xw0121_01.row.prog, w, _, mg, mb, s₁.heap, Mini.statZ, bs⟩ : Mini.Cx) Mini.prog :=
    Mini.env1_of (ck w.params).1 sm (ck w.params).2 fun f hf => List.all_eq_true.mp (cf w.params) f (List.mem_range.mpr hf)
  refine Mini.law_call PL H rfl rfl (by assumption) (by assumption) (by omega) fun h' tk k => ?_
  exact ⟨.inl ⟨.bool true, .bool true, [], rfl, raisesW_false (by wrow_none_raised), .bool true, postW_of (by decide +kernel) rfl (by decide +kernel), unshared_nil⟩, k, rfl, hg⟩
end Mine
theorem PySem.Challenge.cw_xw0121_01_holds : PySem.Challenge.rw_xw0121_01.Holds := by
  exact Mine.law
