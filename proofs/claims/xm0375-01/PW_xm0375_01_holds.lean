import PyProof.Rows.All
import PySem.Syntax
import KE.KItem
import KE.LcTurns
import KE.KDeep
import KE.KTurns
import KE.KSliceW
import Lean
import PySem.Challenge.RW_xm0375_01
set_option Elab.async false
set_option tactic.hygienic false
set_option bootstrap.genMatcherCode false
set_option genSizeOf false
set_option genInjectivity false
set_option genCtorIdx false
set_option backward.match.sparseCases false
set_option Elab.async false
set_option maxRecDepth 100000
set_option maxHeartbeats 0
namespace Mine
open PySem PySem.W
theorem said1:Fast.tw9446332074065402090 PySem.Challenge.rw_xm0375_01=true:=by kernel_rfl
theorem said0:PySem.Challenge.rw_xm0375_01.wellSaid=true:=by rw [Fast.te9446332074065402090];exact said1
end Mine
namespace Mine
theorem x0_2 {P0 P1:Prop} {Z:Prop} (h:P0∧P1) (q:P0→P1→Z) :Z:=q h.1 h.2
theorem x0_3 {P0 P1 P2:Prop} {Z:Prop} (h:P0∧P1∧P2) (q:P0→P1→P2→Z) :Z:=q h.1 h.2.1 h.2.2
theorem x0_4 {P0 P1 P2 P3:Prop} {Z:Prop} (h:P0∧P1∧P2∧P3) (q:P0→P1→P2→P3→Z) :Z:=q h.1 h.2.1 h.2.2.1 h.2.2.2
theorem x0_5 {P0 P1 P2 P3 P4:Prop} {Z:Prop} (h:P0∧P1∧P2∧P3∧P4) (q:P0→P1→P2→P3→P4→Z) :Z:=q h.1 h.2.1 h.2.2.1 h.2.2.2.1 h.2.2.2.2
theorem x0_6 {P0 P1 P2 P3 P4 P5:Prop} {Z:Prop} (h:P0∧P1∧P2∧P3∧P4∧P5) (q:P0→P1→P2→P3→P4→P5→Z) :Z:=q h.1 h.2.1 h.2.2.1 h.2.2.2.1 h.2.2.2.2.1 h.2.2.2.2.2
theorem x0_7 {P0 P1 P2 P3 P4 P5 P6:Prop} {Z:Prop} (h:P0∧P1∧P2∧P3∧P4∧P5∧P6) (q:P0→P1→P2→P3→P4→P5→P6→Z) :Z:=q h.1 h.2.1 h.2.2.1 h.2.2.2.1 h.2.2.2.2.1 h.2.2.2.2.2.1 h.2.2.2.2.2.2
theorem x1_1 {α0:Sort _} {P0:α0→Prop} {Z:Prop} (h:∃ x0,P0 x0) (q:∀ x0,P0 x0→Z) :Z:=h.elim q
theorem x1_2 {α0:Sort _} {P0 P1:α0→Prop} {Z:Prop} (h:∃ x0,P0 x0∧P1 x0) (q:∀ x0,P0 x0→P1 x0→Z) :Z:=h.elim fun x h=>x0_2 h (q x)
theorem x1_3 {α0:Sort _} {P0 P1 P2:α0→Prop} {Z:Prop} (h:∃ x0,P0 x0∧P1 x0∧P2 x0) (q:∀ x0,P0 x0→P1 x0→P2 x0→Z) :Z:=h.elim fun x h=>x0_3 h (q x)
theorem x1_4 {α0:Sort _} {P0 P1 P2 P3:α0→Prop} {Z:Prop} (h:∃ x0,P0 x0∧P1 x0∧P2 x0∧P3 x0) (q:∀ x0,P0 x0→P1 x0→P2 x0→P3 x0→Z) :Z:=h.elim fun x h=>x0_4 h (q x)
theorem x1_5 {α0:Sort _} {P0 P1 P2 P3 P4:α0→Prop} {Z:Prop} (h:∃ x0,P0 x0∧P1 x0∧P2 x0∧P3 x0∧P4 x0) (q:∀ x0,P0 x0→P1 x0→P2 x0→P3 x0→P4 x0→Z) :Z:=h.elim fun x h=>x0_5 h (q x)
theorem x1_7 {α0:Sort _} {P0 P1 P2 P3 P4 P5 P6:α0→Prop} {Z:Prop} (h:∃ x0,P0 x0∧P1 x0∧P2 x0∧P3 x0∧P4 x0∧P5 x0∧P6 x0) (q:∀ x0,P0 x0→P1 x0→P2 x0→P3 x0→P4 x0→P5 x0→P6 x0→Z) :Z:=h.elim fun x h=>x0_7 h (q x)
theorem x2_1 {α0 α1:Sort _} {P0:α0→α1→Prop} {Z:Prop} (h:∃ x0,∃ x1,P0 x0 x1) (q:∀ x0 x1,P0 x0 x1→Z) :Z:=h.elim fun x h=>x1_1 h (q x)
theorem x2_2 {α0 α1:Sort _} {P0 P1:α0→α1→Prop} {Z:Prop} (h:∃ x0,∃ x1,P0 x0 x1∧P1 x0 x1) (q:∀ x0 x1,P0 x0 x1→P1 x0 x1→Z) :Z:=h.elim fun x h=>x1_2 h (q x)
theorem x2_3 {α0 α1:Sort _} {P0 P1 P2:α0→α1→Prop} {Z:Prop} (h:∃ x0,∃ x1,P0 x0 x1∧P1 x0 x1∧P2 x0 x1) (q:∀ x0 x1,P0 x0 x1→P1 x0 x1→P2 x0 x1→Z) :Z:=h.elim fun x h=>x1_3 h (q x)
theorem x2_4 {α0 α1:Sort _} {P0 P1 P2 P3:α0→α1→Prop} {Z:Prop} (h:∃ x0,∃ x1,P0 x0 x1∧P1 x0 x1∧P2 x0 x1∧P3 x0 x1) (q:∀ x0 x1,P0 x0 x1→P1 x0 x1→P2 x0 x1→P3 x0 x1→Z) :Z:=h.elim fun x h=>x1_4 h (q x)
theorem x2_5 {α0 α1:Sort _} {P0 P1 P2 P3 P4:α0→α1→Prop} {Z:Prop} (h:∃ x0,∃ x1,P0 x0 x1∧P1 x0 x1∧P2 x0 x1∧P3 x0 x1∧P4 x0 x1) (q:∀ x0 x1,P0 x0 x1→P1 x0 x1→P2 x0 x1→P3 x0 x1→P4 x0 x1→Z) :Z:=h.elim fun x h=>x1_5 h (q x)
theorem x2_7 {α0 α1:Sort _} {P0 P1 P2 P3 P4 P5 P6:α0→α1→Prop} {Z:Prop} (h:∃ x0,∃ x1,P0 x0 x1∧P1 x0 x1∧P2 x0 x1∧P3 x0 x1∧P4 x0 x1∧P5 x0 x1∧P6 x0 x1) (q:∀ x0 x1,P0 x0 x1→P1 x0 x1→P2 x0 x1→P3 x0 x1→P4 x0 x1→P5 x0 x1→P6 x0 x1→Z) :Z:=h.elim fun x h=>x1_7 h (q x)
theorem x3_1 {α0 α1 α2:Sort _} {P0:α0→α1→α2→Prop} {Z:Prop} (h:∃ x0,∃ x1,∃ x2,P0 x0 x1 x2) (q:∀ x0 x1 x2,P0 x0 x1 x2→Z) :Z:=h.elim fun x h=>x2_1 h (q x)
theorem x3_2 {α0 α1 α2:Sort _} {P0 P1:α0→α1→α2→Prop} {Z:Prop} (h:∃ x0,∃ x1,∃ x2,P0 x0 x1 x2∧P1 x0 x1 x2) (q:∀ x0 x1 x2,P0 x0 x1 x2→P1 x0 x1 x2→Z) :Z:=h.elim fun x h=>x2_2 h (q x)
theorem x3_3 {α0 α1 α2:Sort _} {P0 P1 P2:α0→α1→α2→Prop} {Z:Prop} (h:∃ x0,∃ x1,∃ x2,P0 x0 x1 x2∧P1 x0 x1 x2∧P2 x0 x1 x2) (q:∀ x0 x1 x2,P0 x0 x1 x2→P1 x0 x1 x2→P2 x0 x1 x2→Z) :Z:=h.elim fun x h=>x2_3 h (q x)
theorem x3_4 {α0 α1 α2:Sort _} {P0 P1 P2 P3:α0→α1→α2→Prop} {Z:Prop} (h:∃ x0,∃ x1,∃ x2,P0 x0 x1 x2∧P1 x0 x1 x2∧P2 x0 x1 x2∧P3 x0 x1 x2) (q:∀ x0 x1 x2,P0 x0 x1 x2→P1 x0 x1 x2→P2 x0 x1 x2→P3 x0 x1 x2→Z) :Z:=h.elim fun x h=>x2_4 h (q x)
theorem x3_5 {α0 α1 α2:Sort _} {P0 P1 P2 P3 P4:α0→α1→α2→Prop} {Z:Prop} (h:∃ x0,∃ x1,∃ x2,P0 x0 x1 x2∧P1 x0 x1 x2∧P2 x0 x1 x2∧P3 x0 x1 x2∧P4 x0 x1 x2) (q:∀ x0 x1 x2,P0 x0 x1 x2→P1 x0 x1 x2→P2 x0 x1 x2→P3 x0 x1 x2→P4 x0 x1 x2→Z) :Z:=h.elim fun x h=>x2_5 h (q x)
theorem x3_7 {α0 α1 α2:Sort _} {P0 P1 P2 P3 P4 P5 P6:α0→α1→α2→Prop} {Z:Prop} (h:∃ x0,∃ x1,∃ x2,P0 x0 x1 x2∧P1 x0 x1 x2∧P2 x0 x1 x2∧P3 x0 x1 x2∧P4 x0 x1 x2∧P5 x0 x1 x2∧P6 x0 x1 x2) (q:∀ x0 x1 x2,P0 x0 x1 x2→P1 x0 x1 x2→P2 x0 x1 x2→P3 x0 x1 x2→P4 x0 x1 x2→P5 x0 x1 x2→P6 x0 x1 x2→Z) :Z:=h.elim fun x h=>x2_7 h (q x)
theorem x4_1 {α0 α1 α2 α3:Sort _} {P0:α0→α1→α2→α3→Prop} {Z:Prop} (h:∃ x0,∃ x1,∃ x2,∃ x3,P0 x0 x1 x2 x3) (q:∀ x0 x1 x2 x3,P0 x0 x1 x2 x3→Z) :Z:=h.elim fun x h=>x3_1 h (q x)
theorem x4_2 {α0 α1 α2 α3:Sort _} {P0 P1:α0→α1→α2→α3→Prop} {Z:Prop} (h:∃ x0,∃ x1,∃ x2,∃ x3,P0 x0 x1 x2 x3∧P1 x0 x1 x2 x3) (q:∀ x0 x1 x2 x3,P0 x0 x1 x2 x3→P1 x0 x1 x2 x3→Z) :Z:=h.elim fun x h=>x3_2 h (q x)
theorem x4_3 {α0 α1 α2 α3:Sort _} {P0 P1 P2:α0→α1→α2→α3→Prop} {Z:Prop} (h:∃ x0,∃ x1,∃ x2,∃ x3,P0 x0 x1 x2 x3∧P1 x0 x1 x2 x3∧P2 x0 x1 x2 x3) (q:∀ x0 x1 x2 x3,P0 x0 x1 x2 x3→P1 x0 x1 x2 x3→P2 x0 x1 x2 x3→Z) :Z:=h.elim fun x h=>x3_3 h (q x)
theorem x4_5 {α0 α1 α2 α3:Sort _} {P0 P1 P2 P3 P4:α0→α1→α2→α3→Prop} {Z:Prop} (h:∃ x0,∃ x1,∃ x2,∃ x3,P0 x0 x1 x2 x3∧P1 x0 x1 x2 x3∧P2 x0 x1 x2 x3∧P3 x0 x1 x2 x3∧P4 x0 x1 x2 x3) (q:∀ x0 x1 x2 x3,P0 x0 x1 x2 x3→P1 x0 x1 x2 x3→P2 x0 x1 x2 x3→P3 x0 x1 x2 x3→P4 x0 x1 x2 x3→Z) :Z:=h.elim fun x h=>x3_5 h (q x)
theorem x4_7 {α0 α1 α2 α3:Sort _} {P0 P1 P2 P3 P4 P5 P6:α0→α1→α2→α3→Prop} {Z:Prop} (h:∃ x0,∃ x1,∃ x2,∃ x3,P0 x0 x1 x2 x3∧P1 x0 x1 x2 x3∧P2 x0 x1 x2 x3∧P3 x0 x1 x2 x3∧P4 x0 x1 x2 x3∧P5 x0 x1 x2 x3∧P6 x0 x1 x2 x3) (q:∀ x0 x1 x2 x3,P0 x0 x1 x2 x3→P1 x0 x1 x2 x3→P2 x0 x1 x2 x3→P3 x0 x1 x2 x3→P4 x0 x1 x2 x3→P5 x0 x1 x2 x3→P6 x0 x1 x2 x3→Z) :Z:=h.elim fun x h=>x3_7 h (q x)
theorem x5_1 {α0 α1 α2 α3 α4:Sort _} {P0:α0→α1→α2→α3→α4→Prop} {Z:Prop} (h:∃ x0,∃ x1,∃ x2,∃ x3,∃ x4,P0 x0 x1 x2 x3 x4) (q:∀ x0 x1 x2 x3 x4,P0 x0 x1 x2 x3 x4→Z) :Z:=h.elim fun x h=>x4_1 h (q x)
theorem x5_3 {α0 α1 α2 α3 α4:Sort _} {P0 P1 P2:α0→α1→α2→α3→α4→Prop} {Z:Prop} (h:∃ x0,∃ x1,∃ x2,∃ x3,∃ x4,P0 x0 x1 x2 x3 x4∧P1 x0 x1 x2 x3 x4∧P2 x0 x1 x2 x3 x4) (q:∀ x0 x1 x2 x3 x4,P0 x0 x1 x2 x3 x4→P1 x0 x1 x2 x3 x4→P2 x0 x1 x2 x3 x4→Z) :Z:=h.elim fun x h=>x4_3 h (q x)
theorem x5_5 {α0 α1 α2 α3 α4:Sort _} {P0 P1 P2 P3 P4:α0→α1→α2→α3→α4→Prop} {Z:Prop} (h:∃ x0,∃ x1,∃ x2,∃ x3,∃ x4,P0 x0 x1 x2 x3 x4∧P1 x0 x1 x2 x3 x4∧P2 x0 x1 x2 x3 x4∧P3 x0 x1 x2 x3 x4∧P4 x0 x1 x2 x3 x4) (q:∀ x0 x1 x2 x3 x4,P0 x0 x1 x2 x3 x4→P1 x0 x1 x2 x3 x4→P2 x0 x1 x2 x3 x4→P3 x0 x1 x2 x3 x4→P4 x0 x1 x2 x3 x4→Z) :Z:=h.elim fun x h=>x4_5 h (q x)
theorem x5_7 {α0 α1 α2 α3 α4:Sort _} {P0 P1 P2 P3 P4 P5 P6:α0→α1→α2→α3→α4→Prop} {Z:Prop} (h:∃ x0,∃ x1,∃ x2,∃ x3,∃ x4,P0 x0 x1 x2 x3 x4∧P1 x0 x1 x2 x3 x4∧P2 x0 x1 x2 x3 x4∧P3 x0 x1 x2 x3 x4∧P4 x0 x1 x2 x3 x4∧P5 x0 x1 x2 x3 x4∧P6 x0 x1 x2 x3 x4) (q:∀ x0 x1 x2 x3 x4,P0 x0 x1 x2 x3 x4→P1 x0 x1 x2 x3 x4→P2 x0 x1 x2 x3 x4→P3 x0 x1 x2 x3 x4→P4 x0 x1 x2 x3 x4→P5 x0 x1 x2 x3 x4→P6 x0 x1 x2 x3 x4→Z) :Z:=h.elim fun x h=>x4_7 h (q x)
theorem x6_1 {α0 α1 α2 α3 α4 α5:Sort _} {P0:α0→α1→α2→α3→α4→α5→Prop} {Z:Prop} (h:∃ x0,∃ x1,∃ x2,∃ x3,∃ x4,∃ x5,P0 x0 x1 x2 x3 x4 x5) (q:∀ x0 x1 x2 x3 x4 x5,P0 x0 x1 x2 x3 x4 x5→Z) :Z:=h.elim fun x h=>x5_1 h (q x)
theorem x6_3 {α0 α1 α2 α3 α4 α5:Sort _} {P0 P1 P2:α0→α1→α2→α3→α4→α5→Prop} {Z:Prop} (h:∃ x0,∃ x1,∃ x2,∃ x3,∃ x4,∃ x5,P0 x0 x1 x2 x3 x4 x5∧P1 x0 x1 x2 x3 x4 x5∧P2 x0 x1 x2 x3 x4 x5) (q:∀ x0 x1 x2 x3 x4 x5,P0 x0 x1 x2 x3 x4 x5→P1 x0 x1 x2 x3 x4 x5→P2 x0 x1 x2 x3 x4 x5→Z) :Z:=h.elim fun x h=>x5_3 h (q x)
theorem x6_5 {α0 α1 α2 α3 α4 α5:Sort _} {P0 P1 P2 P3 P4:α0→α1→α2→α3→α4→α5→Prop} {Z:Prop} (h:∃ x0,∃ x1,∃ x2,∃ x3,∃ x4,∃ x5,P0 x0 x1 x2 x3 x4 x5∧P1 x0 x1 x2 x3 x4 x5∧P2 x0 x1 x2 x3 x4 x5∧P3 x0 x1 x2 x3 x4 x5∧P4 x0 x1 x2 x3 x4 x5) (q:∀ x0 x1 x2 x3 x4 x5,P0 x0 x1 x2 x3 x4 x5→P1 x0 x1 x2 x3 x4 x5→P2 x0 x1 x2 x3 x4 x5→P3 x0 x1 x2 x3 x4 x5→P4 x0 x1 x2 x3 x4 x5→Z) :Z:=h.elim fun x h=>x5_5 h (q x)
theorem int_fin (n:Nat) {P:Int→Prop} (h:∀ k:Nat,k < n→P k) {d:Int} (h1:0≤d) (h2:d < n) :P d:=by
 obtain ⟨k,rfl⟩:=Int.eq_ofNat_of_zero_le h1
 exact h k (Int.ofNat_lt.mp h2)
theorem sub_succ {j k:Nat} (h:k + 1≤j) :j - k=j - (k + 1) + 1:=(Nat.succ_pred_eq_of_pos (Nat.sub_pos_of_lt h)).symm
theorem natAbs_nn {e:Int} (he:e≠0) :(e.natAbs:Int)≠-e.natAbs:=by lia
theorem sy2 {α β:Sort _} {a b:α} {c d:β} {p:Prop} (h:a=b∧c=d) (q:a=b→c=d→p) :p:=q h.1 h.2
theorem sy1 {α:Sort _} {a b:α} {p:Prop} (h:a=b) (q:a=b→p) :p:=q h
theorem nofO {α:Type} {x:α} {p:Prop} (h:none=some x) :p:=nomatch h
theorem nofB {p:Prop} (h:false=true) :p:=nomatch h
theorem noC {α:Sort _} (f:α→Nat) {a b:α} {p:Prop} (h:a=b) (q:Nat.beq (f a) (f b)=false) :p:=by
 subst h
 exact absurd ((Nat.beq_refl (f a)).symm.trans q) (by decide)
end Mine
namespace Mine
open PySem
set_option genCtorIdx true in
set_option genInjectivity true in
inductive MV where
 | none
 | bool (b:Bool)
 | int (i:Int)
 | str (s:Str)
 | tup (vs:List MV)
 | ref (a:Nat)
set_option genCtorIdx true in
set_option genInjectivity true in
inductive MObj where
 | list (vs:List MV) (ver:Nat)
 | ro (vs:List MV)
 | inst (c:Nat) (fs:List (Nat × MV))
noncomputable abbrev zax:=List MObj
set_option genCtorIdx true in
inductive MOp where
 | add | sub | mul | fdiv | mod | pow
set_option genCtorIdx true in
inductive MCmp where
 | eq | ne | lt | le | gt | ge | is | isNot
set_option genCtorIdx true in
inductive MBi where
 | max | min | abs | len | toInt | sum | list | tuple | isInt | isBool | append
 deriving DecidableEq
set_option genCtorIdx true in
inductive SrcK where
 | plain | enum | range
 deriving DecidableEq
inductive ME where
 | bad
 | const (v:MV)
 | loc (i:Nat)
 | bin (op:MOp) (a b:ME)
 | neg (a:ME)
 | not (a:ME)
 | and (a b:ME)
 | or (a b:ME)
 | cmp1 (op:MCmp) (a b:ME)
 | cmp2 (op op':MCmp) (a b c:ME)
 | ite (t b o:ME)
 | call (f:Nat) (args:List ME)
 | new (c:Nat) (args:List ME)
 | meth (o:ME) (m:Nat) (args:List ME)
 | app (o x:ME)
 | bi (b:MBi) (args:List ME)
 | attr (o:ME) (a:Nat)
 | sub (o i:ME)
 | sliceTo (o e:ME)
 | sliceFrom (o e:ME)
 | list (es:List ME)
 | tup (es:List ME)
 | comp (elt:ME) (nt:Nat) (k:SrcK) (it:ME)
 | compIf (elt:ME) (nt:Nat) (k:SrcK) (it c:ME)
inductive MT where
 | name (i:Nat)
 | attr (i a:Nat)
inductive MS where
 | bad
 | asg (i:Nat) (e:ME)
 | asgT (ts:List MT) (e:ME)
 | asgA (o:ME) (a:Nat) (e:ME)
 | asgI (o i e:ME)
 | augA (o:ME) (a:Nat) (op:MOp) (e:ME)
 | augI (o i:ME) (op:MOp) (e:ME)
 | expr (e:ME)
 | ret (e:ME)
 | ite (t:ME) (b o:List MS)
 | forN (i:Nat) (k:SrcK) (it:ME) (b:List MS)
 | forT (is:List Nat) (k:SrcK) (it:ME) (b:List MS)
 | raise (c:Nat) (e:ME)
 | try_ (e:ME) (c:Nat)
set_option genCtorIdx true in
set_option genInjectivity true in
inductive Res (α:Type) where
 | ok (a:α) (h:zax)
 | exc (h:zax)
 | stuck
noncomputable def Res.bind {α β:Type} :Res α→(α→zax→Res β)→Res β
 | .ok a h,f=>f a h
 | .exc h,_=> .exc h
 | .stuck,_=> .stuck
noncomputable abbrev Locs:=List (Option MV)
set_option genCtorIdx true in
set_option genInjectivity true in
inductive SRes where
 | nxt (l:Locs) (h:zax)
 | ret (v:MV) (h:zax)
 | exc (l:Locs) (h:zax)
 | stuck
noncomputable def SRes.bind:SRes→(Locs→zax→SRes)→SRes
 | .nxt l h,f=>f l h
 | .ret v h,_=> .ret v h
 | .exc l h,_=> .exc l h
 | .stuck,_=> .stuck
noncomputable def Res.toS {α:Type} (l:Locs) :Res α→(α→zax→SRes)→SRes
 | .ok a h,f=>f a h
 | .exc h,_=> .exc l h
 | .stuck,_=> .stuck
noncomputable abbrev Short (i j:Int) :Prop:=i.natAbs < 18446744073709551616∨j.natAbs < 18446744073709551616
noncomputable def items? (h:zax) (i:Nat) :Option (List MV):=
 match h[i]? with
 | some (.list vs _)=>some vs
 | some (.ro vs)=>some vs
 | _=>none
noncomputable def zaR (vs:List MV) (h:zax) :Res MV:=if vs.length≤4096 then .ok (.ref h.length) (h ++ [.list vs 0]) else .stuck
noncomputable def mkTup (vs:List MV) (h:zax) :Res MV:=if vs.length≤4096 then .ok (.tup vs) h else .stuck
noncomputable def zbI (h:zax) :MV→Option Bool
 | .none=>some false
 | .bool b=>some b
 | .int i=>some (decide (i≠0))
 | .tup vs=>some (!vs.isEmpty)
 | .ref a=>(items? h a).map fun vs=>!vs.isEmpty
 | .str _=>none
noncomputable def eqVs (f:MV→MV→Option Bool) :List MV→List MV→Option Bool
 | [],[]=>some true
 | v :: vs,w :: ws=>match f v w,eqVs f vs ws with
  | some b,some c=>some (b && c)
  | _,_=>none
 | [],_ :: _=>some false
 | _ :: _,[]=>some false
noncomputable def eqV1 (f:Option (MV→MV→Option Bool)) (v w:MV) :Option Bool:=match v with
 | .none=>(match w with | .none=>some true | .tup _=>some false | _=>none)
 | .bool a=>(match w with | .bool b=>some (a == b) | _=>none)
 | .int a=>(match w with | .int b=>some (decide (a=b)) | _=>none)
 | .tup vs=>(match w with
  | .none=>some false
  | .tup ws=>(match f with | some f=>eqVs f vs ws | none=>none)
  | _=>none)
 | _=>none
noncomputable def eqV:Nat→MV→MV→Option Bool
 | 0=>eqV1 none
 | n + 1=>eqV1 (some (eqV n))
noncomputable def zbX:List MV→Option (List Int)
 | []=>some []
 | .int i :: r=>(zbX r).map (i :: ·)
 | _ :: _=>none
noncomputable def eqL (vs ws:List MV) :Option Bool:=if vs.length=ws.length then (match zbX vs with
 | some is=>(match zbX ws with | some js=>some (decide (is=js)) | none=>none)
 | none=>none) else some false
noncomputable def eqH (h:zax) (v w:MV) :Option Bool:=match v with
 | .ref a=>(match w with
  | .ref b=>(match items? h a with
   | some vs=>(match items? h b with | some ws=>eqL vs ws | none=>none)
   | none=>none)
  | w=>eqV 8 (.ref a) w)
 | v=>eqV 8 v w
noncomputable def isNone:MV→Bool
 | .none=>true
 | _=>false
noncomputable def intsO (a b:MV) (f:Int→Int→Bool) :Option Bool:=match a with
 | .int i=>(match b with | .int j=>some (f i j) | _=>none)
 | _=>none
noncomputable def ifNone (b:MV) (c:Bool) :Option Bool:=match b with
 | .none=>some c
 | _=>none
noncomputable def cmpV (h:zax) (op:MCmp) (a b:MV) :Option Bool:=
 match op with
 | .eq=>eqH h a b
 | .ne=>(eqH h a b).map (!·)
 | .lt=>intsO a b fun i j=>decide (i < j)
 | .le=>intsO a b fun i j=>decide (i≤j)
 | .gt=>intsO a b fun i j=>decide (i > j)
 | .ge=>intsO a b fun i j=>decide (i≥j)
 | .is=>ifNone b (isNone a)
 | .isNot=>ifNone b (!isNone a)
noncomputable def zeR (i:Int) (n:Nat) :Option Nat:=
 if 0≤i then (if i.toNat < n then some i.toNat else none)
 else if (-i).toNat≤n then some (n - (-i).toNat) else none
noncomputable def zaG (h:zax) (o:MV) (i:Int) :Option MV:=
 match o with
 | .tup vs=>(zeR i vs.length).bind fun k=>vs[k]?
 | .ref a=>do
  let vs ← items? h a
  let k ← zeR i vs.length
  vs[k]?
 | _=>none
noncomputable def itemR (mh:zax) (o i:MV) :Res MV:=match i with
 | .int k=>match zaG mh o k with | some v=> .ok v mh | none=> .stuck
 | _=> .stuck
noncomputable def getF (a:Nat) :List (Nat × MV)→Option MV
 | []=>none
 | (b,v) :: r=>if a=b then some v else getF a r
noncomputable def putF (a:Nat) (v:MV) :List (Nat × MV)→List (Nat × MV)
 | []=>[(a,v)]
 | (b,w) :: r=>if a=b then (b,v) :: r else (b,w) :: putF a v r
structure Tables where
 cattr:Nat→Nat→Option MV
 cmeth:Nat→Nat→Option Nat
 cinit:Nat→Option Nat
noncomputable def sumInts (is:List Int) :Int:=is.foldl (· + ·) 0
noncomputable def int2 (a b:MV) (f:Int→Int→Res MV) :Res MV:=match a with
 | .int i=>(match b with | .int j=>f i j | _=> .stuck)
 | _=> .stuck
noncomputable def onItems (h:zax) (x:MV) (f:List MV→Res MV) :Res MV:=match x with
 | .ref a=>(match items? h a with | some vs=>f vs | none=> .stuck)
 | _=> .stuck
noncomputable def addV (a b:MV) (h:zax) :Res MV:=match a with
 | .int i=>(match b with | .int j=> .ok (.int (i + j)) h | _=> .stuck)
 | .tup vs=>(match b with | .tup ws=>mkTup (vs ++ ws) h | _=> .stuck)
 | .ref x=>onItems h (.ref x) fun vs=>onItems h b fun ws=>zaR (vs ++ ws) h
 | _=> .stuck
noncomputable def binV (op:MOp) (a b:MV) (h:zax) :Res MV:=match op with
 | .add=>addV a b h
 | .sub=>int2 a b fun i j=> .ok (.int (i - j)) h
 | .mul=>int2 a b fun i j=>if Short i j then .ok (.int (i * j)) h else .stuck
 | .fdiv=>int2 a b fun i j=>if 0 < j∧j < 18446744073709551616 then .ok (.int (i / j)) h else .stuck
 | .mod=>int2 a b fun i j=>if 0 < j∧j < 18446744073709551616 then .ok (.int (i % j)) h else .stuck
 | .pow=>int2 a b fun i j=>if 0≤j∧j≤64∧0≤i∧i≤64 then .ok (.int (i ^ j.toNat)) h else .stuck
noncomputable def arg1 (args:List MV) (f:MV→Res MV) :Res MV:=match args with
 | []=> .stuck
 | x :: r=>(match r with | []=>f x | _ :: _=> .stuck)
noncomputable def arg2 (args:List MV) (f:Int→Int→Res MV) :Res MV:=match args with
 | []=> .stuck
 | x :: r=>arg1 r fun y=>int2 x y f
noncomputable def isiV (i:Bool) (h:zax) :MV→Res MV
 | .int _=> .ok (.bool i) h
 | .bool _=> .ok (.bool true) h
 | .none=> .ok (.bool false) h
 | _=> .stuck
noncomputable def absV (h:zax) :MV→Res MV
 | .int i=> .ok (.int i.natAbs) h
 | _=> .stuck
noncomputable def toIntV (h:zax) :MV→Res MV
 | .bool b=> .ok (.int (if b then 1 else 0)) h
 | _=> .stuck
noncomputable def sumV (h:zax) (vs:List MV) :Res MV:=match zbX vs with
 | some is=> .ok (.int (sumInts is)) h
 | none=> .stuck
noncomputable def biV (b:MBi) (args:List MV) (h:zax) :Res MV:=match b with
 | .max=>arg2 args fun i j=> .ok (.int (if i < j then j else i)) h
 | .min=>arg2 args fun i j=> .ok (.int (if j < i then j else i)) h
 | .abs=>arg1 args (absV h)
 | .len=>arg1 args fun x=>onItems h x fun vs=> .ok (.int vs.length) h
 | .toInt=>arg1 args (toIntV h)
 | .sum=>arg1 args fun x=>onItems h x (sumV h)
 | .list=>arg1 args fun x=>onItems h x fun vs=>zaR vs h
 | .tuple=>arg1 args fun x=>onItems h x fun vs=> .ok (.tup vs) h
 | .isInt=>arg1 args (isiV true h)
 | .isBool=>arg1 args (isiV false h)
 | .append=> .stuck
noncomputable def zdE (o x:MV) (h:zax) :Res MV:=
 match o with
 | .ref a=>match h[a]? with | some (.list vs n)=>if vs.length < 4096 then .ok .none (h.set a (.list (vs ++ [x]) (n + 1))) else .stuck | _=> .stuck
 | _=> .stuck
noncomputable def attrV (T:Tables) (o:MV) (a:Nat) (h:zax) :Res MV:=
 match o with
 | .ref i=>match h[i]? with
  | some (.inst c fs)=>match T.cmeth c a with
   | some _=> .stuck
   | none=>match getF a fs with
    | some v=> .ok v h
    | none=>match T.cattr c a with | some v=> .ok v h | none=> .stuck
  | _=> .stuck
 | _=> .stuck
noncomputable def zbE (o:MV) (a:Nat) (v:MV) (h:zax) :Res Unit:=
 match o with
 | .ref i=>match h[i]? with
  | some (.inst c fs)=>if fs.length < 64 then .ok () (h.set i (.inst c (putF a v fs))) else .stuck
  | _=> .stuck
 | _=> .stuck
noncomputable def zdx (o i v:MV) (h:zax) :Res Unit:=
 match o,i with
 | .ref a,.int k=>match h[a]? with
  | some (.list vs n)=>if 0≤k∧k.toNat < vs.length then .ok () (h.set a (.list (vs.set k.toNat v) (n + 1))) else .stuck
  | _=> .stuck
 | _,_=> .stuck
noncomputable def zbT (to:Bool) (o i:MV) (h:zax) :Res MV:=
 match i with
 | .int k=>if 0≤k then
  match o with
  | .tup vs=>if to then (if k.toNat < vs.length then .ok (.tup (vs.take k.toNat)) h else .stuck)
   else (if 1≤k.toNat∧k.toNat≤vs.length then .ok (.tup (vs.drop k.toNat)) h else .stuck)
  | .ref a=>match items? h a with
   | some vs=>zaR (if to then vs.take k.toNat else vs.drop k.toNat) h
   | none=> .stuck
  | _=> .stuck
  else .stuck
 | _=> .stuck
inductive Src where
 | fixed (vs:List MV)
 | list (a ver:Nat) (num:Bool)
noncomputable def itemsV? (h:zax) (i:Nat) :Option (List MV × Nat):=
 match h[i]? with
 | some (.list vs n)=>some (vs,n)
 | some (.ro vs)=>some (vs,0)
 | _=>none
noncomputable def zaH (s:Src) (k:Nat) (h:zax) :Option (Option MV):=
 match s with
 | .fixed vs=>some vs[k]?
 | .list a ver num=>match itemsV? h a with
  | some (vs,n)=>if n=ver then some ((vs[k]?).map fun v=>if num then .tup [.int k,v] else v) else none
  | none=>none
noncomputable def zbN (s:Src) (h:zax) :Nat:=
 match s with
 | .fixed vs=>vs.length + 1
 | .list a _ _=>match items? h a with | some vs=>vs.length + 1 | none=>0
noncomputable def srcL (h:zax) (a:Nat) (num:Bool) :Option Src:=match itemsV? h a with
 | some p=>some (.list a p.2 num)
 | none=>none
noncomputable def zcU (tp:Bool) (k:SrcK) (v:MV) (h:zax) :Option Src:=
 match k with
 | .plain=>(match v with | .tup vs=>some (.fixed vs) | .ref a=>srcL h a false | _=>none)
 | .enum=>(match v with | .ref a=>if tp then srcL h a true else none | _=>none)
 | .range=>(match v with | .int n=>if 0≤n∧n < 4096 then some (.fixed ((List.range n.toNat).map fun k=> .int (Int.ofNat k))) else none | _=>none)
noncomputable def zaN (src:Src) (nt:Nat) (cond elt:Locs→zax→Res MV) (l:Locs) :Nat→Nat→List MV→zax→Res (List MV)
 | 0,_,_,_=> .stuck
 | fuel + 1,k,acc,h=>
  match zaH src k h with
  | none=> .stuck
  | some none=> .ok acc h
  | some (some v)=>
   match (if nt=0 then some [some v] else match v with | .tup vs=>if vs.length=nt then some (vs.map some) else none | _=>none) with
   | none=> .stuck
   | some new=>match cond (l ++ new) h with
    | .ok c h=>match zbI h c with
     | none=> .stuck
     | some false=>zaN src nt cond elt l fuel (k + 1) acc h
     | some true=>match elt (l ++ new) h with
      | .ok x h=>zaN src nt cond elt l fuel (k + 1) (acc ++ [x]) h
      | _=> .stuck
    | _=> .stuck
section
variable (T:Tables) (Φ:Nat→List MV→zax→Res MV)
mutual
noncomputable def zaw:ME→Locs→zax→Res MV
 | .bad,_,_=> .stuck
 | .const v,_,h=> .ok v h
 | .loc i,l,h=>match (l[i]?).join with | some v=> .ok v h | none=> .stuck
 | .bin op a b,l,h=>(zaw a l h).bind fun x h=>(zaw b l h).bind fun y h=>binV op x y h
 | .neg a,l,h=>(zaw a l h).bind fun x h=>match x with | .int i=> .ok (.int (-i)) h | _=> .stuck
 | .not a,l,h=>(zaw a l h).bind fun x h=>match zbI h x with | some b=> .ok (.bool !b) h | none=> .stuck
 | .and a b,l,h=>(zaw a l h).bind fun x h=>match zbI h x with | some true=>zaw b l h | some false=> .ok x h | none=> .stuck
 | .or a b,l,h=>(zaw a l h).bind fun x h=>match zbI h x with | some false=>zaw b l h | some true=> .ok x h | none=> .stuck
 | .cmp1 op a b,l,h=>(zaw a l h).bind fun x h=>(zaw b l h).bind fun y h=>match cmpV h op x y with | some c=> .ok (.bool c) h | none=> .stuck
 | .cmp2 op op' a b c,l,h=>(zaw a l h).bind fun x h=>(zaw b l h).bind fun y h=>match cmpV h op x y with
  | some true=>(zaw c l h).bind fun z h=>match cmpV h op' y z with | some c=> .ok (.bool c) h | none=> .stuck
  | some false=> .ok (.bool false) h
  | none=> .stuck
 | .ite t b o,l,h=>(zaw t l h).bind fun x h=>match zbI h x with | some true=>zaw b l h | some false=>zaw o l h | none=> .stuck
 | .call f args,l,h=>(zex args l h).bind fun vs h=>Φ f vs h
 | .new c args,l,h=>(zex args l h).bind fun vs h=>match T.cinit c with
  | some f=>(Φ f (.ref h.length :: vs) (h ++ [.inst c []])).bind fun r h'=>(match r with | .none=> .ok (.ref h.length) h' | _=> .stuck)
  | none=> .stuck
 | .meth o m args,l,h=>(zaw o l h).bind fun x h=>match x with
  | .ref i=>match h[i]? with
   | some (.inst c fs)=>match getF m fs,T.cmeth c m with
    | none,some f=>(zex args l h).bind fun vs h=>Φ f (x :: vs) h
    | _,_=> .stuck
   | _=> .stuck
  | _=> .stuck
 | .app o x,l,h=>(zaw o l h).bind fun o h=>match o with
  | .ref a=>match h[a]? with
   | some (.list _ _)=>(zaw x l h).bind fun x h=>zdE o x h
   | _=> .stuck
  | _=> .stuck
 | .bi b args,l,h=>(zex args l h).bind fun vs h=>biV b vs h
 | .attr o a,l,h=>(zaw o l h).bind fun x h=>attrV T x a h
 | .sub o i,l,h=>(zaw o l h).bind fun x h=>(zaw i l h).bind fun y h=>match y with
  | .int k=>match zaG h x k with | some v=> .ok v h | none=> .stuck
  | _=> .stuck
 | .sliceTo o e,l,h=>(zaw o l h).bind fun x h=>(zaw e l h).bind fun y h=>zbT true x y h
 | .sliceFrom o e,l,h=>(zaw o l h).bind fun x h=>(zaw e l h).bind fun y h=>zbT false x y h
 | .list es,l,h=>(zex es l h).bind fun vs h=>zaR vs h
 | .tup es,l,h=>(zex es l h).bind fun vs h=>mkTup vs h
 | .comp elt nt k it,l,h=>(zaw it l h).bind fun v h=>match zcU (decide (nt≠0)) k v h with
  | some src=>(zaN src nt (fun _ h=> .ok (.bool true) h) (zaw elt) l (zbN src h) 0 [] h).bind fun vs h=>zaR vs h
  | none=> .stuck
 | .compIf elt nt k it c,l,h=>(zaw it l h).bind fun v h=>match zcU (decide (nt≠0)) k v h with
  | some src=>(zaN src nt (zaw c) (zaw elt) l (zbN src h) 0 [] h).bind fun vs h=>zaR vs h
  | none=> .stuck
noncomputable def zex:List ME→Locs→zax→Res (List MV)
 | [],_,h=> .ok [] h
 | e :: es,l,h=>(zaw e l h).bind fun v h=>(zex es l h).bind fun vs h=> .ok (v :: vs) h
end
noncomputable def zcP:List MT→List MV→Locs→zax→SRes
 | [],vs,l,h=>(match vs with | []=> .nxt l h | _ :: _=> .stuck)
 | t :: ts,vs,l,h=>(match vs with
  | []=> .stuck
  | v :: vs=>(match t with
   | .name i=>zcP ts vs (l.set i (some v)) h
   | .attr i a=>(match (l[i]?).join with
    | some o=>(zbE o a v h).toS l fun _ h=>zcP ts vs l h
    | none=> .stuck)))
noncomputable def zcw:List Nat→List MV→Locs→Option Locs
 | [],[],l=>some l
 | i :: is,v :: vs,l=>zcw is vs (l.set i (some v))
 | _,_,_=>none
noncomputable def zbQ (src:Src) (tgt:MV→Locs→Option Locs) (body:Locs→zax→SRes) :Nat→Nat→Locs→zax→SRes
 | 0,_,_,_=> .stuck
 | fuel + 1,k,l,h=>
  match zaH src k h with
  | none=> .stuck
  | some none=> .nxt l h
  | some (some v)=>match tgt v l with
   | none=> .stuck
   | some l=>match body l h with
    | .nxt l h=>zbQ src tgt body fuel (k + 1) l h
    | .ret v h=> .ret v h
    | _=> .stuck
mutual
noncomputable def zcR:MS→Locs→zax→SRes
 | .bad,_,_=> .stuck
 | .asg i e,l,h=>(zaw T Φ e l h).toS l fun v h=> .nxt (l.set i (some v)) h
 | .asgT ts e,l,h=>(zaw T Φ e l h).toS l fun v h=>match v with | .tup vs=>zcP ts vs l h | _=> .stuck
 | .asgA o a e,l,h=>(zaw T Φ e l h).toS l fun v h=>(zaw T Φ o l h).toS l fun x h=>(zbE x a v h).toS l fun _ h=> .nxt l h
 | .asgI o i e,l,h=>(zaw T Φ e l h).toS l fun v h=>(zaw T Φ o l h).toS l fun x h=>(zaw T Φ i l h).toS l fun k h=>(zdx x k v h).toS l fun _ h=> .nxt l h
 | .augA o a op e,l,h=>(zaw T Φ o l h).toS l fun x h=>(attrV T x a h).toS l fun y h=>(zaw T Φ e l h).toS l fun z h=>match op,y,z with
  | .add,.int i,.int j=>(zbE x a (.int (i + j)) h).toS l fun _ h=> .nxt l h
  | _,_,_=> .stuck
 | .augI o i op e,l,h=>(zaw T Φ o l h).toS l fun x h=>(zaw T Φ i l h).toS l fun k h=>match itemR h x k with
  | .ok y h=>(zaw T Φ e l h).toS l fun z h=>match op,y,z with
   | .add,.int i,.int j=>(zdx x k (.int (i + j)) h).toS l fun _ h=> .nxt l h
   | _,_,_=> .stuck
  | _=> .stuck
 | .expr e,l,h=>(zaw T Φ e l h).toS l fun _ h=> .nxt l h
 | .ret e,l,h=>(zaw T Φ e l h).toS l fun v h=> .ret v h
 | .ite t b o,l,h=>(zaw T Φ t l h).toS l fun x h=>match zbI h x with | some true=>zaC b l h | some false=>zaC o l h | none=> .stuck
 | .forN i k it b,l,h=>(zaw T Φ it l h).toS l fun v h=>match zcU false k v h with
  | some src=>zbQ src (fun v l=>some (l.set i (some v))) (zaC b) (zbN src h) 0 l h
  | none=> .stuck
 | .forT is k it b,l,h=>(zaw T Φ it l h).toS l fun v h=>match zcU true k v h with
  | some src=>zbQ src (fun v l=>match v with | .tup vs=>zcw is vs l | _=>none) (zaC b) (zbN src h) 0 l h
  | none=> .stuck
 | .raise c e,l,h=>if c=0 then (zaw T Φ e l h).toS l fun v h=>(match v with | .str _=> .exc l h | _=> .stuck) else .stuck
 | .try_ e c,l,h=>if c≠0 then .stuck else match zaw T Φ e l h with
  | .ok v h=> .ret v h
  | .exc h=> .ret .none h
  | .stuck=> .stuck
noncomputable def zaC:List MS→Locs→zax→SRes
 | [],l,h=> .nxt l h
 | s :: r,l,h=>(zcR s l h).bind fun l h=>zaC r l h
end
end
structure MFn where
 np:Nat
 slots:Nat
 defs:List MV
 body:List MS
 plain:Bool
noncomputable def zdD (np:Nat) (defs:List MV) (vs:List MV) :Option (List MV):=
 if vs.length≤np∧np≤vs.length + defs.length then some (vs ++ defs.drop (vs.length + defs.length - np)) else none
noncomputable def zay (T:Tables) (fns:Nat→Option MFn) :Nat→Nat→List MV→zax→Res MV
 | 0,_,_,_=> .stuck
 | n + 1,f,vs,h=>match fns f with
  | none=> .stuck
  | some d=>match zdD d.np d.defs vs with
   | none=> .stuck
   | some ws=>match zaC T (zay T fns n) d.body (ws.map some ++ List.replicate (d.slots - d.np) none) h with
    | .nxt _ h=> .ok .none h
    | .ret v h=> .ok v h
    | .exc _ h=>if d.plain then .exc h else .stuck
    | .stuck=> .stuck
set_option genCtorIdx true in
inductive GV where
 | int (k:Int)
 | fn (f:Nat)
 | cls (c:Nat)
 | exc (c:Nat)
 | bi (b:MBi)
 | range | enum | isinst | tyInt | tyBool
structure Gl where
 gt:List (Str × GV)
 at_:List Str
structure Gam where
 names:List (Str × Option Nat)
 n:Nat
noncomputable def zdy:Nat→List Str→List (Str × Option Nat)
 | _,[]=>[]
 | n,x :: r=>(x,some n) :: zdy (n + 1) r
noncomputable def zaM (s:Scope) :List Str:=(s.names.filter fun y=>y.2 == .local || y.2 == .cell).map (·.1)
noncomputable def globNames (s:Scope) :List Str:=(s.names.filter fun y=>y.2 == .globalImplicit).map (·.1)
noncomputable def gamOf (s:Scope) :Gam:=⟨zdy 0 (zaM s) ++ (globNames s).map fun x=>(x,none),(zaM s).length⟩
noncomputable def zaP (g:Gam) (ts:List Str) (s:Scope) :Gam:=
 ⟨zdy g.n ts ++ (s.names.filterMap fun y=>if y.2 == .free then (match g.names.lookup y.1 with | some (some i)=>some (y.1,some i) | _=>none)
  else if y.2 == .globalImplicit then some (y.1,none) else none),g.n + ts.length⟩
noncomputable def opOf:Operator→Option MOp
 | .Add=>some .add
 | .Sub=>some .sub
 | .Mult=>some .mul
 | .FloorDiv=>some .fdiv
 | .Mod=>some .mod
 | .Pow=>some .pow
 | _=>none
noncomputable def cmpOf:CmpOp→Option MCmp
 | .Eq=>some .eq
 | .NotEq=>some .ne
 | .Lt=>some .lt
 | .LtE=>some .le
 | .Gt=>some .gt
 | .GtE=>some .ge
 | .Is=>some .is
 | .IsNot=>some .isNot
 | _=>none
noncomputable def zaS (G:Gl) (g:Gam) (x:Str) :Option GV:=match g.names.lookup x with
 | some none=>G.gt.lookup x
 | _=>none
noncomputable def nameE (G:Gl) (g:Gam) (x:Str) :ME:=match g.names.lookup x with
 | some (some i)=> .loc i
 | some none=>(match G.gt.lookup x with | some (.int k)=> .const (.int k) | _=> .bad)
 | none=> .bad
noncomputable def zew (G:Gl) (x:Str) :Option Nat:=G.at_.findIdx? (· == x)
noncomputable def callE (G:Gl) (g:Gam) (f:Str) (args:List ME) :ME:=match zaS G g f with
 | some (.fn k)=> .call k args
 | some (.cls c)=> .new c args
 | some (.bi b)=> .bi b args
 | _=> .bad
noncomputable def boolE (op:BoolOp) :List ME→ME
 | []=> .bad
 | [x]=>x
 | x :: r=>match op with
  | .And=> .and x (boolE op r)
  | .Or=> .or x (boolE op r)
noncomputable def zdW:PySem.Expr→Option Str
 | .Name x _=>some x
 | _=>none
noncomputable def cons2 {α:Type} (a:Option α) (r:Option (List α)) :Option (List α):=match a with
 | some x=>(match r with | some xs=>some (x :: xs) | none=>none)
 | none=>none
noncomputable def zaI:List PySem.Expr→Option (List Str)
 | []=>some []
 | e :: r=>cons2 (zdW e) (zaI r)
noncomputable def zbx:PySem.Expr→Option (Nat × List Str)
 | .Name x _=>some (0,[x])
 | .Tuple es _ _=>(match zaI es with | some xs=>if 0 < xs.length then some (xs.length,xs) else none | none=>none)
 | _=>none
noncomputable def zbH (G:Gl) (g:Gam) :PySem.Expr→SrcK
 | .Call (.Name f _) [_] [] _=>(match zaS G g f with | some .range=> .range | some .enum=> .enum | _=> .plain)
 | _=> .plain
noncomputable def compE (nt:Nat) (k:SrcK) (it elt:ME) :List ME→ME
 | []=> .comp elt nt k it
 | [c]=> .compIf elt nt k it c
 | _=> .bad
noncomputable def compT (o:Option (Nat × List Str)) (k:SrcK) (a b:ME) (elt:List Str→ME) (ifs:List Str→List ME) :ME:=match o with
 | some p=>compE p.1 k (match k with | .plain=>a | _=>b) (elt p.2) (ifs p.2)
 | none=> .bad
noncomputable def constE:PySem.Const→ME
 | .none=> .const .none
 | .bool b=> .const (.bool b)
 | .int i=> .const (.int i)
 | .str s=> .const (.str s)
 | _=> .bad
noncomputable def unE:PySem.UnaryOp→ME→ME
 | .USub,e=> .neg e
 | .Not,e=> .not e
 | _,_=> .bad
noncomputable def onE {α:Type} (o:Option α) (f:α→ME) :ME:=match o with | some a=>f a | none=> .bad
noncomputable def cmp1E (op:PySem.CmpOp) (l c:ME) :ME:=onE (cmpOf op) fun o=> .cmp1 o l c
noncomputable def cmp2E (op op':PySem.CmpOp) (l c d:ME) :ME:=onE (cmpOf op) fun o=>onE (cmpOf op') fun o'=> .cmp2 o o' l c d
noncomputable def cmpE1 (op:PySem.CmpOp) (l c:ME) :List ME→ME
 | []=>cmp1E op l c
 | _ :: _=> .bad
noncomputable def cmpE2 (op op':PySem.CmpOp) (l c:ME) :List ME→ME
 | []=> .bad
 | d :: q=>(match q with | []=>cmp2E op op' l c d | _ :: _=> .bad)
noncomputable def cmpEs (op:PySem.CmpOp) (l c:ME) (r':List ME) :List PySem.CmpOp→ME
 | []=>cmpE1 op l c r'
 | op' :: q=>(match q with | []=>cmpE2 op op' l c r' | _ :: _=> .bad)
noncomputable def cmpE (ops:List PySem.CmpOp) (l:ME) (cs:List ME) :ME:=match ops with
 | []=> .bad
 | op :: r=>(match cs with | []=> .bad | c :: r'=>cmpEs op l c r' r)
noncomputable def call1 (G:Gl) (g:Gam) (f:Str) (e:ME) :ME:=match zaS G g f with
 | some x=>(match x with | .tyInt=> .bi .toInt [e] | _=>callE G g f [e])
 | none=>callE G g f [e]
noncomputable def call2n (G:Gl) (g:Gam) (f t:Str) (e:ME) :ME:=match zaS G g f with
 | none=>callE G g f [e,nameE G g t]
 | some x=>(match x with
  | .isinst=>(match zaS G g t with
   | none=>callE G g f [e,nameE G g t]
   | some y=>(match y with
    | .tyInt=> .bi .isInt [e]
    | .tyBool=> .bi .isBool [e]
    | _=>callE G g f [e,nameE G g t]))
  | _=>callE G g f [e,nameE G g t])
noncomputable def name2:List PySem.Expr→Option Str
 | []=>none
 | _ :: r=>(match r with
  | []=>none
  | t :: q=>(match q with
   | _ :: _=>none
   | []=>(match t with | .Name x _=>some x | _=>none)))
noncomputable def callN_ (G:Gl) (g:Gam) (f:Str) (args:List PySem.Expr) :List ME→ME
 | []=>callE G g f []
 | e :: r=>(match r with
  | []=>call1 G g f e
  | x :: q=>(match name2 args with
   | some t=>call2n G g f t e
   | none=>callE G g f (e :: x :: q)))
noncomputable def app1 (o:ME) :List ME→ME
 | []=> .bad
 | x :: r=>(match r with | []=> .app o x | _ :: _=> .bad)
noncomputable def callA (G:Gl) (a:Str) (o:ME) (args:List ME) :ME:=onE (zew G a) fun k=>if a == "append" then app1 o args else .meth o k args
noncomputable def attrE (G:Gl) (a:Str) (o:ME) :ME:=onE (zew G a) fun k=> .attr o k
noncomputable def binE (op:PySem.Operator) (l r:ME) :ME:=onE (opOf op) fun o=> .bin o l r
noncomputable def sliceE (o:ME) :Option ME→Option ME→Option PySem.Expr→ME
 | lo,hi,st=>(match st with
  | some _=> .bad
  | none=>(match lo with
   | none=>(match hi with | some e=> .sliceTo o e | none=> .bad)
   | some e=>(match hi with | none=> .sliceFrom o e | some _=> .bad)))
noncomputable def noKw (kws:List PySem.Keyword) (e:ME) :ME:=match kws with | []=>e | _ :: _=> .bad
mutual
noncomputable def trE (G:Gl) (g:Gam) :PySem.Expr→ME
 | .Constant c _ _=>constE c
 | .Name x _=>nameE G g x
 | .BinOp l op r _=>binE op (trE G g l) (trE G g r)
 | .UnaryOp op x _=>unE op (trE G g x)
 | .BoolOp op vs _=>boolE op (trEs G g vs)
 | .Compare l ops cs _=>cmpE ops (trE G g l) (trEs G g cs)
 | .IfExp t b o _=> .ite (trE G g t) (trE G g b) (trE G g o)
 | .Attribute o a _=>attrE G a (trE G g o)
 | .List es _=> .list (trEs G g es)
 | .Tuple es _ _=> .tup (trEs G g es)
 | .Call (.Name f _) args kws _=>noKw kws (callN_ G g f args (trEs G g args))
 | .Call (.Attribute o a _) args kws _=>noKw kws (callA G a (trE G g o) (trEs G g args))
 | .Subscript o (.Slice lo hi st _) _=>sliceE (trE G g o) (trO G g lo) (trO G g hi) st
 | .Subscript o i _=> .sub (trE G g o) (trE G g i)
 | .ListComp elt [⟨t,it,ifs,0⟩] sc _=>
  compT (zbx t) (zbH G g it) (trE G g it) (match it with | .Call _ [x] _ _=>trE G g x | _=> .bad) (fun ts=>trE G (zaP g ts sc) elt) (fun ts=>trEs G (zaP g ts sc) ifs)
 | _=> .bad
noncomputable def trO (G:Gl) (g:Gam) :Option PySem.Expr→Option ME
 | none=>none
 | some e=>some (trE G g e)
noncomputable def trEs (G:Gl) (g:Gam) :List PySem.Expr→List ME
 | []=>[]
 | e :: r=>trE G g e :: trEs G g r
end
noncomputable def targetT1 (G:Gl) (g:Gam) :PySem.Expr→Option MT
 | .Name x _=>(g.names.lookup x).join.map MT.name
 | .Attribute o a _=>(match zdW o with
  | some y=>(match (g.names.lookup y).join with | some i=>(zew G a).map (MT.attr i) | none=>none)
  | none=>none)
 | _=>none
noncomputable def zaW (G:Gl) (g:Gam) :List PySem.Expr→Option (List MT)
 | []=>some []
 | e :: r=>cons2 (targetT1 G g e) (zaW G g r)
noncomputable def slotsOf (g:Gam) :List Str→Option (List Nat)
 | []=>some []
 | x :: r=>cons2 (g.names.lookup x).join (slotsOf g r)
noncomputable def arg1E (G:Gl) (g:Gam) (it:PySem.Expr) :ME:=match it with
 | .Call _ [x] _ _=>trE G g x
 | _=> .bad
noncomputable def iterE (G:Gl) (g:Gam) (it:PySem.Expr) :ME:=match zbH G g it with
 | .plain=>trE G g it
 | _=>arg1E G g it
noncomputable def raiseE (G:Gl) (g:Gam) (e c:Option PySem.Expr) :MS:=match c with
 | some _=> .bad
 | none=>(match e with
  | none=> .bad
  | some e=>(match e with
   | .Call f as ks _=>(match f with
    | .Name c _=>(match ks with
     | _ :: _=> .bad
     | []=>(match as with
      | []=> .bad
      | e :: r=>(match r with
       | _ :: _=> .bad
       | []=>(match zaS G g c with
        | some x=>(match x with | .exc k=> .raise k (trE G g e) | _=> .bad)
        | none=> .bad))))
    | _=> .bad)
   | _=> .bad))
noncomputable def isRetNone:PySem.Stmt→Bool
 | .Return e _=>(match e with
  | some e=>(match e with
   | .Constant c _ _=>(match c with | .none=>true | _=>false)
   | _=>false)
  | none=>false)
 | _=>false
noncomputable def tryE (G:Gl) (g:Gam) (b:List PySem.Stmt) (hs:List PySem.ExceptHandler) (o f:List PySem.Stmt) :MS:=match b with
 | []=> .bad
 | s :: r=>(match r with
  | _ :: _=> .bad
  | []=>(match s with
   | .Return e _=>(match e with
    | none=> .bad
    | some e=>(match hs with
     | []=> .bad
     | x :: q=>(match q with
      | _ :: _=> .bad
      | []=>(match x with
       | .ExceptHandler t n hb _=>(match t with
        | none=> .bad
        | some t=>(match t with
         | .Name c _=>(match n with
          | some _=> .bad
          | none=>(match hb with
           | []=> .bad
           | z :: y=>(match y with
            | _ :: _=> .bad
            | []=>(match isRetNone z with
             | false=> .bad
             | true=>(match o with
              | _ :: _=> .bad
              | []=>(match f with
               | _ :: _=> .bad
               | []=>(match zaS G g c with
                | some x=>(match x with | .exc k=> .try_ (trE G g e) k | _=> .bad)
                | none=> .bad)))))))
         | _=> .bad))))))
   | _=> .bad))
noncomputable def slotM (k:Option (Option Nat)) (f:Nat→MS) :MS:=match k with
 | some q=>(match q with | some i=>f i | none=> .bad)
 | none=> .bad
noncomputable def onSome {α:Type} (o:Option α) (f:α→MS) :MS:=match o with
 | some a=>f a
 | none=> .bad
noncomputable def zcZ (x:MS) :PySem.Expr→MS
 | .Slice ..=> .bad
 | _=>x
noncomputable def asg1 (G:Gl) (g:Gam) (e:ME) :PySem.Expr→MS
 | .Name x _=>slotM (g.names.lookup x) fun i=> .asg i e
 | .Tuple ts _ _=>onSome (zaW G g ts) fun us=> .asgT us e
 | .Attribute o a _=>onSome (zew G a) fun k=> .asgA (trE G g o) k e
 | .Subscript o i _=>zcZ (.asgI (trE G g o) (trE G g i) e) i
 | _=> .bad
noncomputable def asgE (G:Gl) (g:Gam) (e:ME) :List PySem.Expr→MS
 | []=> .bad
 | t :: r=>(match r with | []=>asg1 G g e t | _ :: _=> .bad)
noncomputable def aug1 (G:Gl) (g:Gam) (op:PySem.Operator) (e:ME) :PySem.Expr→MS
 | .Attribute o a _=>onSome (zew G a) fun k=>onSome (opOf op) fun p=> .augA (trE G g o) k p e
 | .Subscript o i _=>onSome (opOf op) fun p=>zcZ (.augI (trE G g o) (trE G g i) p e) i
 | _=> .bad
noncomputable def retE (G:Gl) (g:Gam) :Option PySem.Expr→MS
 | some e=> .ret (trE G g e)
 | none=> .ret (.const .none)
noncomputable def forT1 (g:Gam) (k:SrcK) (it:ME) (b:List MS) :PySem.Expr→MS
 | .Name x _=>slotM (g.names.lookup x) fun i=> .forN i k it b
 | .Tuple ts _ _=>onSome (zaI ts) fun xs=>onSome (slotsOf g xs) fun is=> .forT is k it b
 | _=> .bad
noncomputable def forE (g:Gam) (k:SrcK) (it:ME) (b:List MS) (t:PySem.Expr) :List PySem.Stmt→MS
 | []=>forT1 g k it b t
 | _ :: _=> .bad
mutual
noncomputable def trS (G:Gl) (g:Gam) :PySem.Stmt→MS
 | .Assign ts e _=>asgE G g (trE G g e) ts
 | .AugAssign t op e _=>aug1 G g op (trE G g e) t
 | .Expr e _=> .expr (trE G g e)
 | .Return e _=>retE G g e
 | .If t b o _=> .ite (trE G g t) (trB G g b) (trB G g o)
 | .For t it b o _=>forE g (zbH G g it) (iterE G g it) (trB G g b) t o
 | .Raise e c _=>raiseE G g e c
 | .Try b hs o f _=>tryE G g b hs o f
 | _=> .bad
noncomputable def trB (G:Gl) (g:Gam) :List PySem.Stmt→List MS
 | []=>[]
 | s :: r=>trS G g s :: trB G g r
end
noncomputable def glT:Gl where
 gt:=[((Str.ofString "UNITY"),.int 65536),
  ((Str.ofString "MAX_DIMEN"),.int 1073741823),
  ((Str.ofString "MAX_NUMBER"),.int 2147483647),
  ((Str.ofString "INF_BAD"),.int 10000),
  ((Str.ofString "NORMAL"),.int 0),
  ((Str.ofString "FIL"),.int 1),
  ((Str.ofString "FILL"),.int 2),
  ((Str.ofString "FILLL"),.int 3),
  ((Str.ofString "CHAR"),.int 0),
  ((Str.ofString "LIGATURE"),.int 1),
  ((Str.ofString "HBOX"),.int 2),
  ((Str.ofString "VBOX"),.int 3),
  ((Str.ofString "RULE"),.int 4),
  ((Str.ofString "KERN"),.int 5),
  ((Str.ofString "GLUE"),.int 6),
  ((Str.ofString "PENALTY"),.int 7),
  ((Str.ofString "DISC"),.int 8),
  ((Str.ofString "MARK"),.int 9),
  ((Str.ofString "INSERT"),.int 10),
  ((Str.ofString "ADJUST"),.int 11),
  ((Str.ofString "MATH"),.int 12),
  ((Str.ofString "SPECIAL"),.int 13),
  ((Str.ofString "UNSET"),.int 14),
  ((Str.ofString "NATURAL"),.int 0),
  ((Str.ofString "STRETCHED"),.int 1),
  ((Str.ofString "SHRUNK"),.int 2),
  ((Str.ofString "FONT_KERN"),.int 0),
  ((Str.ofString "EXPLICIT"),.int 1),
  ((Str.ofString "ACCENT_KERN"),.int 2),
  ((Str.ofString "MU_KERN"),.int 3),
  ((Str.ofString "PLAIN"),.int 0),
  ((Str.ofString "ALEADERS"),.int 1),
  ((Str.ofString "CLEADERS"),.int 2),
  ((Str.ofString "XLEADERS"),.int 3),
  ((Str.ofString "MU_SKIP"),.int 4),
  ((Str.ofString "NONSCRIPT"),.int 5),
  ((Str.ofString "NAMED"),.int 100),
  ((Str.ofString "FOR_DEVICE"),.int 0),
  ((Str.ofString "WRITING"),.int 1),
  ((Str.ofString "OPENING"),.int 2),
  ((Str.ofString "CLOSING"),.int 3),
  ((Str.ofString "DEEPEST"),.int 60),
  ((Str.ofString "EXACTLY"),.int 0),
  ((Str.ofString "SPREAD"),.int 1),
  ((Str.ofString "FINE"),.int 0),
  ((Str.ofString "LOOSE"),.int 1),
  ((Str.ofString "TIGHT"),.int 2),
  ((Str.ofString "OVERFULL"),.int 3),
  ((Str.ofString "is_whole"),.fn 0),
  ((Str.ofString "check_whole"),.fn 1),
  ((Str.ofString "check_number"),.fn 2),
  ((Str.ofString "check_dimen"),.fn 3),
  ((Str.ofString "rounded"),.fn 4),
  ((Str.ofString "badness"),.fn 5),
  ((Str.ofString "top_order"),.fn 8),
  ((Str.ofString "check_depth"),.fn 19),
  ((Str.ofString "described"),.fn 20),
  ((Str.ofString "described_list"),.fn 21),
  ((Str.ofString "width_of"),.fn 22),
  ((Str.ofString "height_of"),.fn 23),
  ((Str.ofString "depth_of"),.fn 24),
  ((Str.ofString "line_height"),.fn 25),
  ((Str.ofString "line_depth"),.fn 26),
  ((Str.ofString "natural_line"),.fn 27),
  ((Str.ofString "across"),.fn 28),
  ((Str.ofString "check_column"),.fn 29),
  ((Str.ofString "natural_column"),.fn 30),
  ((Str.ofString "quotient"),.fn 31),
  ((Str.ofString "set_glue"),.fn 32),
  ((Str.ofString "flex"),.fn 33),
  ((Str.ofString "set_part"),.fn 34),
  ((Str.ofString "part_size"),.fn 35),
  ((Str.ofString "places"),.fn 36),
  ((Str.ofString "goal_size"),.fn 37),
  ((Str.ofString "set_box"),.fn 38),
  ((Str.ofString "hpack"),.fn 39),
  ((Str.ofString "vpack"),.fn 40),
  ((Str.ofString "_law_box"),.fn 41),
  ((Str.ofString "_law_take"),.fn 42),
  ((Str.ofString "_law_size"),.fn 43),
  ((Str.ofString "_law_flow"),.fn 44),
  ((Str.ofString "_law_part"),.fn 45),
  ((Str.ofString "_law_amount"),.fn 46),
  ((Str.ofString "_law_packed"),.fn 47),
  ((Str.ofString "_law_told"),.fn 48),
  ((Str.ofString "_law_skip"),.fn 49),
  ((Str.ofString "_law_same"),.fn 50),
  ((Str.ofString "_law_alone"),.fn 51),
  ((Str.ofString "_law_gathered"),.fn 52),
  ((Str.ofString "_law_round"),.fn 53),
  ((Str.ofString "law"),.fn 54),
  ((Str.ofString "Glue"),.cls 0),
  ((Str.ofString "Totals"),.cls 1),
  ((Str.ofString "Box"),.cls 2),
  ((Str.ofString "Rule"),.cls 3),
  ((Str.ofString "Kern"),.cls 4),
  ((Str.ofString "Skip"),.cls 5),
  ((Str.ofString "Penalty"),.cls 6),
  ((Str.ofString "Overflow"),.exc 0),
  ((Str.ofString "BadArgument"),.exc 1),
  ((Str.ofString "TooDeep"),.exc 2),
  ((Str.ofString "max"),.bi .max),
  ((Str.ofString "min"),.bi .min),
  ((Str.ofString "abs"),.bi .abs),
  ((Str.ofString "len"),.bi .len),
  ((Str.ofString "sum"),.bi .sum),
  ((Str.ofString "list"),.bi .list),
  ((Str.ofString "tuple"),.bi .tuple),
  ((Str.ofString "range"),.range),
  ((Str.ofString "enumerate"),.enum),
  ((Str.ofString "isinstance"),.isinst),
  ((Str.ofString "int"),.tyInt),
  ((Str.ofString "bool"),.tyBool)]
 at_:=[(Str.ofString "width"),(Str.ofString "stretch"),(Str.ofString "stretch_order"),(Str.ofString "shrink"),(Str.ofString "shrink_order"),(Str.ofString "natural"),(Str.ofString "kind"),(Str.ofString "height"),(Str.ofString "depth"),(Str.ofString "items"),(Str.ofString "shift"),(Str.ofString "sign"),(Str.ofString "order"),(Str.ofString "ratio"),(Str.ofString "sort"),(Str.ofString "glue"),(Str.ofString "leader"),(Str.ofString "value"),(Str.ofString "append"),(Str.ofString "add"),(Str.ofString "widen"),(Str.ofString "stretch_top"),(Str.ofString "shrink_top"),(Str.ofString "parts")]
noncomputable def tabs:Tables where
 cattr:=fun c a=>if a=6 then (match c with | 3=>some (.int 4) | 4=>some (.int 5) | 5=>some (.int 6) | 6=>some (.int 7) | _=>none) else none
 cmeth:=fun c m=>match c,m with | 0,23=>some 7 | 1,19=>some 10 | 1,20=>some 11 | 1,21=>some 12 | 1,22=>some 13 | _,_=>none
 cinit:=fun c=>match c with | 0=>some 6 | 1=>some 9 | 2=>some 14 | 3=>some 15 | 4=>some 16 | 5=>some 17 | 6=>some 18 | _=>none
noncomputable def fnNames:List (Option Str × Str):=[(none,(Str.ofString "is_whole")),(none,(Str.ofString "check_whole")),(none,(Str.ofString "check_number")),(none,(Str.ofString "check_dimen")),(none,(Str.ofString "rounded")),(none,(Str.ofString "badness")),(some (Str.ofString "Glue"),(Str.ofString "__init__")),(some (Str.ofString "Glue"),(Str.ofString "parts")),(none,(Str.ofString "top_order")),(some (Str.ofString "Totals"),(Str.ofString "__init__")),(some (Str.ofString "Totals"),(Str.ofString "add")),(some (Str.ofString "Totals"),(Str.ofString "widen")),(some (Str.ofString "Totals"),(Str.ofString "stretch_top")),(some (Str.ofString "Totals"),(Str.ofString "shrink_top")),(some (Str.ofString "Box"),(Str.ofString "__init__")),(some (Str.ofString "Rule"),(Str.ofString "__init__")),(some (Str.ofString "Kern"),(Str.ofString "__init__")),(some (Str.ofString "Skip"),(Str.ofString "__init__")),(some (Str.ofString "Penalty"),(Str.ofString "__init__")),(none,(Str.ofString "check_depth")),(none,(Str.ofString "described")),(none,(Str.ofString "described_list")),(none,(Str.ofString "width_of")),(none,(Str.ofString "height_of")),(none,(Str.ofString "depth_of")),(none,(Str.ofString "line_height")),(none,(Str.ofString "line_depth")),(none,(Str.ofString "natural_line")),(none,(Str.ofString "across")),(none,(Str.ofString "check_column")),(none,(Str.ofString "natural_column")),(none,(Str.ofString "quotient")),(none,(Str.ofString "set_glue")),(none,(Str.ofString "flex")),(none,(Str.ofString "set_part")),(none,(Str.ofString "part_size")),(none,(Str.ofString "places")),(none,(Str.ofString "goal_size")),(none,(Str.ofString "set_box")),(none,(Str.ofString "hpack")),(none,(Str.ofString "vpack")),(none,(Str.ofString "_law_box")),(none,(Str.ofString "_law_take")),(none,(Str.ofString "_law_size")),(none,(Str.ofString "_law_flow")),(none,(Str.ofString "_law_part")),(none,(Str.ofString "_law_amount")),(none,(Str.ofString "_law_packed")),(none,(Str.ofString "_law_told")),(none,(Str.ofString "_law_skip")),(none,(Str.ofString "_law_same")),(none,(Str.ofString "_law_alone")),(none,(Str.ofString "_law_gathered")),(none,(Str.ofString "_law_round")),(none,(Str.ofString "law"))]
noncomputable def b0:List MS:=
 [.ret (.and (.bi .isInt [(.loc 0)]) (.and (.not (.bi .isBool [(.loc 0)])) (.cmp2 .le .le (.loc 1) (.loc 0) (.loc 2))))]
noncomputable def f0:MFn:=⟨3,3,[],b0,true⟩
noncomputable def b1:List MS:=
 [.ite (.or (.not (.bi .isInt [(.loc 0)])) (.bi .isBool [(.loc 0)])) [.raise 1 (.const (.str (Str.ofString "no whole number")))] [],
  .ret (.loc 0)]
noncomputable def f1:MFn:=⟨1,1,[],b1,true⟩
noncomputable def b2:List MS:=
 [.ite (.not (.cmp2 .le .le (.neg (.const (.int 2147483647))) (.call 1 [(.loc 0)]) (.const (.int 2147483647)))) [.raise 0 (.const (.str (Str.ofString "a number beyond the bounds")))] [],
  .ret (.loc 0)]
noncomputable def f2:MFn:=⟨1,1,[],b2,true⟩
noncomputable def b3:List MS:=
 [.ite (.not (.cmp2 .le .le (.neg (.const (.int 1073741823))) (.call 1 [(.loc 0)]) (.const (.int 1073741823)))) [.raise 0 (.const (.str (Str.ofString "a dimension beyond the bounds")))] [],
  .ret (.loc 0)]
noncomputable def f3:MFn:=⟨1,1,[],b3,true⟩
noncomputable def b4:List MS:=
 [.ite (.cmp1 .le (.loc 1) (.const (.int 0))) [.raise 1 (.const (.str (Str.ofString "a quotient by a number that is not above 0")))] [],
  .ite (.cmp1 .lt (.loc 0) (.const (.int 0))) [.ret (.neg (.bin .fdiv (.bin .sub (.loc 1) (.bin .mul (.const (.int 2)) (.loc 0))) (.bin .mul (.const (.int 2)) (.loc 1))))] [],
  .ret (.bin .fdiv (.bin .add (.bin .mul (.const (.int 2)) (.loc 0)) (.loc 1)) (.bin .mul (.const (.int 2)) (.loc 1)))]
noncomputable def f4:MFn:=⟨2,2,[],b4,true⟩
noncomputable def b5:List MS:=
 [.ite (.cmp1 .lt (.loc 0) (.const (.int 0))) [.raise 1 (.const (.str (Str.ofString "an excess below 0")))] [],
  .ite (.cmp1 .eq (.loc 0) (.const (.int 0))) [.ret (.const (.int 0))] [],
  .ite (.cmp1 .le (.loc 1) (.const (.int 0))) [.ret (.const (.int 10000))] [],
  .ite (.cmp1 .le (.loc 0) (.const (.int 7230584))) [.asg 2 (.bin .fdiv (.bin .mul (.loc 0) (.const (.int 297))) (.loc 1))] [.ite (.cmp1 .ge (.loc 1) (.const (.int 1663497))) [.asg 2 (.bin .fdiv (.loc 0) (.bin .fdiv (.loc 1) (.const (.int 297))))] [.asg 2 (.loc 0)]],
  .ite (.cmp1 .gt (.loc 2) (.const (.int 1290))) [.ret (.const (.int 10000))] [],
  .ret (.bin .fdiv (.bin .add (.bin .mul (.bin .mul (.loc 2) (.loc 2)) (.loc 2)) (.const (.int 131072))) (.const (.int 262144)))]
noncomputable def f5:MFn:=⟨2,3,[],b5,true⟩
noncomputable def b6:List MS:=
 [.ite (.or (.not (.call 0 [(.loc 3),(.const (.int 0)),(.const (.int 3))])) (.not (.call 0 [(.loc 5),(.const (.int 0)),(.const (.int 3))]))) [.raise 1 (.const (.str (Str.ofString "no order of infinity")))] [],
  .asgA (.loc 0) 0 (.call 3 [(.loc 1)]),
  .asgA (.loc 0) 1 (.call 3 [(.loc 2)]),
  .asgA (.loc 0) 2 (.ite (.cmp1 .ne (.loc 2) (.const (.int 0))) (.loc 3) (.const (.int 0))),
  .asgA (.loc 0) 3 (.call 3 [(.loc 4)]),
  .asgA (.loc 0) 4 (.ite (.cmp1 .ne (.loc 4) (.const (.int 0))) (.loc 5) (.const (.int 0)))]
noncomputable def f6:MFn:=⟨6,6,[(.int 0),(.int 0),(.int 0),(.int 0),(.int 0)],b6,true⟩
noncomputable def b7:List MS:=
 [.ret (.tup [(.attr (.loc 0) 0),(.attr (.loc 0) 1),(.attr (.loc 0) 2),(.attr (.loc 0) 3),(.attr (.loc 0) 4)])]
noncomputable def f7:MFn:=⟨1,1,[],b7,true⟩
noncomputable def b8l0:List MS:=
 [.ite (.cmp1 .ne (.sub (.loc 0) (.loc 1)) (.const (.int 0))) [.ret (.loc 1)] []]
noncomputable def b8:List MS:=
 [.forN 1 .plain (.tup [(.const (.int 3)),(.const (.int 2)),(.const (.int 1))]) b8l0,
  .ret (.const (.int 0))]
noncomputable def f8:MFn:=⟨1,2,[],b8,true⟩
noncomputable def b9:List MS:=
 [.asgA (.loc 0) 5 (.const (.int 0)),
  .asgA (.loc 0) 1 (.list [(.const (.int 0)),(.const (.int 0)),(.const (.int 0)),(.const (.int 0))]),
  .asgA (.loc 0) 3 (.list [(.const (.int 0)),(.const (.int 0)),(.const (.int 0)),(.const (.int 0))])]
noncomputable def f9:MFn:=⟨1,1,[],b9,true⟩
noncomputable def b10:List MS:=
 [.augA (.loc 0) 5 .add (.attr (.loc 1) 0),
  .augI (.attr (.loc 0) 1) (.attr (.loc 1) 2) .add (.attr (.loc 1) 1),
  .augI (.attr (.loc 0) 3) (.attr (.loc 1) 4) .add (.attr (.loc 1) 3)]
noncomputable def f10:MFn:=⟨2,2,[],b10,true⟩
noncomputable def b11:List MS:=
 [.augA (.loc 0) 5 .add (.loc 1)]
noncomputable def f11:MFn:=⟨2,2,[],b11,true⟩
noncomputable def b12:List MS:=
 [.ret (.call 8 [(.attr (.loc 0) 1)])]
noncomputable def f12:MFn:=⟨1,1,[],b12,true⟩
noncomputable def b13:List MS:=
 [.ret (.call 8 [(.attr (.loc 0) 3)])]
noncomputable def f13:MFn:=⟨1,1,[],b13,true⟩
noncomputable def b14:List MS:=
 [.ite (.not (.call 0 [(.loc 1),(.const (.int 2)),(.const (.int 3))])) [.raise 1 (.const (.str (Str.ofString "no kind of a box")))] [],
  .asgA (.loc 0) 6 (.loc 1),
  .asgA (.loc 0) 0 (.call 3 [(.loc 2)]),
  .asgA (.loc 0) 7 (.call 3 [(.loc 3)]),
  .asgA (.loc 0) 8 (.call 3 [(.loc 4)]),
  .asgA (.loc 0) 9 (.loc 5),
  .asgA (.loc 0) 10 (.const (.int 0)),
  .asgA (.loc 0) 11 (.const (.int 0)),
  .asgA (.loc 0) 12 (.const (.int 0)),
  .asgA (.loc 0) 13 (.tup [(.const (.int 0)),(.const (.int 1))])]
noncomputable def f14:MFn:=⟨6,6,[],b14,true⟩
noncomputable def b15l0:List MS:=
 [.ite (.cmp1 .isNot (.loc 4) (.const .none)) [.expr (.call 3 [(.loc 4)])] []]
noncomputable def b15:List MS:=
 [.forN 4 .plain (.tup [(.loc 1),(.loc 2),(.loc 3)]) b15l0,
  .asgA (.loc 0) 0 (.loc 1),
  .asgA (.loc 0) 7 (.loc 2),
  .asgA (.loc 0) 8 (.loc 3)]
noncomputable def f15:MFn:=⟨4,5,[],b15,true⟩
noncomputable def b16:List MS:=
 [.ite (.not (.call 0 [(.loc 2),(.const (.int 0)),(.const (.int 3))])) [.raise 1 (.const (.str (Str.ofString "no sort of a kern")))] [],
  .asgA (.loc 0) 0 (.call 3 [(.loc 1)]),
  .asgA (.loc 0) 14 (.loc 2)]
noncomputable def f16:MFn:=⟨3,3,[],b16,true⟩
noncomputable def b17:List MS:=
 [.ite (.and (.not (.call 0 [(.loc 2),(.const (.int 0)),(.const (.int 5))])) (.not (.call 0 [(.loc 2),(.const (.int 100)),(.bin .add (.const (.int 100)) (.const (.int 99)))]))) [.raise 1 (.const (.str (Str.ofString "no sort of glue")))] [],
  .ite (.cmp1 .eq (.cmp1 .is (.loc 3) (.const .none)) (.cmp2 .le .le (.const (.int 1)) (.loc 2) (.const (.int 3)))) [.raise 1 (.const (.str (Str.ofString "a leader is missing, or stands in plain glue")))] [],
  .ite (.and (.cmp1 .isNot (.loc 3) (.const .none)) (.not (.cmp2 .le .le (.const (.int 2)) (.attr (.loc 3) 6) (.const (.int 4))))) [.raise 1 (.const (.str (Str.ofString "a leader is a box or a rule")))] [],
  .asgA (.loc 0) 15 (.loc 1),
  .asgA (.loc 0) 14 (.loc 2),
  .asgA (.loc 0) 16 (.loc 3)]
noncomputable def f17:MFn:=⟨4,4,[.none],b17,true⟩
noncomputable def b18:List MS:=
 [.asgA (.loc 0) 17 (.call 2 [(.loc 1)])]
noncomputable def f18:MFn:=⟨2,2,[],b18,true⟩
noncomputable def b19:List MS:=
 [.ite (.cmp1 .gt (.loc 0) (.const (.int 60))) [.raise 2 (.const (.str (Str.ofString "lists within lists")))] []]
noncomputable def f19:MFn:=⟨1,1,[],b19,true⟩
noncomputable def b20e0:ME:=
 (.ite (.cmp1 .is (.loc 4) (.const .none)) (.tup []) (.tup [(.loc 4)]))
noncomputable def b20:List MS:=
 [.expr (.call 19 [(.loc 1)]),
  .asg 2 (.attr (.loc 0) 6),
  .ite (.cmp1 .eq (.loc 2) (.const (.int 0))) [.ret (.tup [(.const (.int 0)),.bad,.bad])] [],
  .ite (.cmp1 .eq (.loc 2) (.const (.int 1))) [.ret (.tup [(.const (.int 1)),.bad,.bad,(.attr (.loc 0) 23),(.ite .bad (.const (.int 1)) (.const (.int 0))),(.ite .bad (.const (.int 1)) (.const (.int 0)))])] [],
  .ite (.or (.cmp1 .eq (.loc 2) (.const (.int 2))) (.cmp1 .eq (.loc 2) (.const (.int 3)))) [.asg 3 (.tup [(.attr (.loc 0) 0),(.attr (.loc 0) 7),(.attr (.loc 0) 8),(.attr (.loc 0) 10),(.attr (.loc 0) 11),(.attr (.loc 0) 12),(.attr (.loc 0) 13)]),
   .ret (.bin .add (.bin .add (.tup [(.loc 2)]) (.loc 3)) (.tup [(.call 21 [(.attr (.loc 0) 9),(.bin .add (.loc 1) (.const (.int 1)))])]))] [],
  .ite (.cmp1 .eq (.loc 2) (.const (.int 4))) [.ret (.bin .add (.tup [(.const (.int 4))]) (.bi .tuple [(.comp b20e0 0 .plain (.tup [(.attr (.loc 0) 0),(.attr (.loc 0) 7),(.attr (.loc 0) 8)]))]))] [],
  .ite (.cmp1 .eq (.loc 2) (.const (.int 5))) [.ret (.tup [(.const (.int 5)),(.attr (.loc 0) 0),(.attr (.loc 0) 14)])] [],
  .ite (.cmp1 .eq (.loc 2) (.const (.int 6))) [.ret (.tup [(.const (.int 6)),(.meth (.attr (.loc 0) 15) 23 []),(.attr (.loc 0) 14),(.ite (.cmp1 .is (.attr (.loc 0) 16) (.const .none)) (.tup []) (.call 20 [(.attr (.loc 0) 16),(.bin .add (.loc 1) (.const (.int 1)))]))])] [],
  .ite (.cmp1 .eq (.loc 2) (.const (.int 7))) [.ret (.tup [(.const (.int 7)),(.attr (.loc 0) 17)])] [],
  .ite (.cmp1 .eq (.loc 2) (.const (.int 9))) [.ret (.tup [(.const (.int 9)),.bad])] [],
  .ite (.cmp1 .eq (.loc 2) (.const (.int 12))) [.ret (.tup [(.const (.int 12)),(.ite .bad (.const (.int 1)) (.const (.int 0))),(.attr (.loc 0) 0)])] [],
  .ret .bad]
noncomputable def f20:MFn:=⟨2,4,[(.int 0)],b20,true⟩
noncomputable def b21e0:ME:=
 (.call 20 [(.loc 2),(.loc 1)])
noncomputable def b21:List MS:=
 [.ret (.bi .tuple [(.comp b21e0 0 .plain (.loc 0))])]
noncomputable def f21:MFn:=⟨2,2,[(.int 0)],b21,false⟩
noncomputable def b22e0:ME:=
 (.call 22 [(.loc 2)])
noncomputable def b22:List MS:=
 [.asg 1 (.attr (.loc 0) 6),
  .ite (.or (.cmp1 .eq (.loc 1) (.const (.int 0))) (.cmp1 .eq (.loc 1) (.const (.int 1)))) [.ret (.meth .bad 0 [.bad])] [],
  .ite (.or (.cmp1 .eq (.loc 1) (.const (.int 2))) (.or (.cmp1 .eq (.loc 1) (.const (.int 3))) (.or (.cmp1 .eq (.loc 1) (.const (.int 5))) (.or (.cmp1 .eq (.loc 1) (.const (.int 12))) (.cmp1 .eq (.loc 1) (.const (.int 14))))))) [.ret (.attr (.loc 0) 0)] [],
  .ite (.cmp1 .eq (.loc 1) (.const (.int 4))) [.ret (.ite (.cmp1 .is (.attr (.loc 0) 0) (.const .none)) (.const (.int 0)) (.attr (.loc 0) 0))] [],
  .ite (.cmp1 .eq (.loc 1) (.const (.int 6))) [.ret (.attr (.attr (.loc 0) 15) 0)] [],
  .ite (.cmp1 .eq (.loc 1) (.const (.int 8))) [.ret (.bi .sum [(.comp b22e0 0 .plain .bad)])] [],
  .ret (.const (.int 0))]
noncomputable def f22:MFn:=⟨1,2,[],b22,true⟩
noncomputable def b23e0:ME:=
 (.call 25 [(.loc 2)])
noncomputable def b23:List MS:=
 [.asg 1 (.attr (.loc 0) 6),
  .ite (.or (.cmp1 .eq (.loc 1) (.const (.int 0))) (.cmp1 .eq (.loc 1) (.const (.int 1)))) [.ret (.meth .bad 7 [.bad])] [],
  .ite (.or (.cmp1 .eq (.loc 1) (.const (.int 2))) (.or (.cmp1 .eq (.loc 1) (.const (.int 3))) (.cmp1 .eq (.loc 1) (.const (.int 14))))) [.ret (.attr (.loc 0) 7)] [],
  .ite (.cmp1 .eq (.loc 1) (.const (.int 4))) [.ret (.ite (.cmp1 .is (.attr (.loc 0) 7) (.const .none)) (.const (.int 0)) (.attr (.loc 0) 7))] [],
  .ite (.and (.cmp1 .eq (.loc 1) (.const (.int 6))) (.cmp1 .isNot (.attr (.loc 0) 16) (.const .none))) [.ret (.call 23 [(.attr (.loc 0) 16)])] [],
  .ite (.cmp1 .eq (.loc 1) (.const (.int 8))) [.ret (.bi .max [(.bin .add (.list [(.const (.int 0))]) (.comp b23e0 0 .plain .bad))])] [],
  .ret (.const (.int 0))]
noncomputable def f23:MFn:=⟨1,2,[],b23,true⟩
noncomputable def b24e0:ME:=
 (.call 26 [(.loc 2)])
noncomputable def b24:List MS:=
 [.asg 1 (.attr (.loc 0) 6),
  .ite (.or (.cmp1 .eq (.loc 1) (.const (.int 0))) (.cmp1 .eq (.loc 1) (.const (.int 1)))) [.ret (.meth .bad 8 [.bad])] [],
  .ite (.or (.cmp1 .eq (.loc 1) (.const (.int 2))) (.or (.cmp1 .eq (.loc 1) (.const (.int 3))) (.cmp1 .eq (.loc 1) (.const (.int 14))))) [.ret (.attr (.loc 0) 8)] [],
  .ite (.cmp1 .eq (.loc 1) (.const (.int 4))) [.ret (.ite (.cmp1 .is (.attr (.loc 0) 8) (.const .none)) (.const (.int 0)) (.attr (.loc 0) 8))] [],
  .ite (.and (.cmp1 .eq (.loc 1) (.const (.int 6))) (.cmp1 .isNot (.attr (.loc 0) 16) (.const .none))) [.ret (.call 24 [(.attr (.loc 0) 16)])] [],
  .ite (.cmp1 .eq (.loc 1) (.const (.int 8))) [.ret (.bi .max [(.bin .add (.list [(.const (.int 0))]) (.comp b24e0 0 .plain .bad))])] [],
  .ret (.const (.int 0))]
noncomputable def f24:MFn:=⟨1,2,[],b24,true⟩
noncomputable def b25:List MS:=
 [.ite (.or (.cmp1 .eq (.attr (.loc 0) 6) (.const (.int 2))) (.cmp1 .eq (.attr (.loc 0) 6) (.const (.int 3)))) [.ret (.bin .sub (.attr (.loc 0) 7) (.attr (.loc 0) 10))] [],
  .ret (.call 23 [(.loc 0)])]
noncomputable def f25:MFn:=⟨1,1,[],b25,true⟩
noncomputable def b26:List MS:=
 [.ite (.or (.cmp1 .eq (.attr (.loc 0) 6) (.const (.int 2))) (.cmp1 .eq (.attr (.loc 0) 6) (.const (.int 3)))) [.ret (.bin .add (.attr (.loc 0) 8) (.attr (.loc 0) 10))] [],
  .ret (.call 24 [(.loc 0)])]
noncomputable def f26:MFn:=⟨1,1,[],b26,true⟩
noncomputable def b27l0:List MS:=
 [.ite (.cmp1 .eq (.attr (.loc 4) 6) (.const (.int 6))) [.expr (.meth (.loc 1) 19 [(.attr (.loc 4) 15)])] [.expr (.meth (.loc 1) 20 [(.call 22 [(.loc 4)])])],
  .asg 2 (.bi .max [(.loc 2),(.call 25 [(.loc 4)])]),
  .asg 3 (.bi .max [(.loc 3),(.call 26 [(.loc 4)])])]
noncomputable def b27:List MS:=
 [.asg 1 (.new 1 []),
  .asgT [.name 2,.name 3] (.tup [(.const (.int 0)),(.const (.int 0))]),
  .forN 4 .plain (.loc 0) b27l0,
  .ret (.tup [(.loc 1),(.loc 2),(.loc 3)])]
noncomputable def f27:MFn:=⟨1,5,[],b27,true⟩
noncomputable def b28:List MS:=
 [.ite (.or (.cmp1 .eq (.attr (.loc 0) 6) (.const (.int 2))) (.cmp1 .eq (.attr (.loc 0) 6) (.const (.int 3)))) [.ret (.bin .add (.attr (.loc 0) 0) (.attr (.loc 0) 10))] [],
  .ite (.cmp1 .eq (.attr (.loc 0) 6) (.const (.int 6))) [.ret (.ite (.cmp1 .is (.attr (.loc 0) 16) (.const .none)) (.const (.int 0)) (.call 22 [(.attr (.loc 0) 16)]))] [],
  .ret (.ite (.cmp1 .eq (.attr (.loc 0) 6) (.const (.int 5))) (.const (.int 0)) (.call 22 [(.loc 0)]))]
noncomputable def f28:MFn:=⟨1,1,[],b28,true⟩
noncomputable def b29l0:List MS:=
 [.ite (.or (.cmp1 .eq (.attr (.loc 1) 6) (.const (.int 0))) (.or (.cmp1 .eq (.attr (.loc 1) 6) (.const (.int 1))) (.or (.cmp1 .eq (.attr (.loc 1) 6) (.const (.int 8))) (.cmp1 .eq (.attr (.loc 1) 6) (.const (.int 12)))))) [.raise 1 (.const (.str (Str.ofString "not for a vertical list")))] []]
noncomputable def b29:List MS:=
 [.forN 1 .plain (.loc 0) b29l0]
noncomputable def f29:MFn:=⟨1,2,[],b29,true⟩
noncomputable def b30l0:List MS:=
 [.asg 2 (.bi .max [(.loc 2),(.call 28 [(.loc 4)])]),
  .ite (.cmp1 .eq (.attr (.loc 4) 6) (.const (.int 6))) [.expr (.meth (.loc 1) 20 [(.loc 3)]),
   .expr (.meth (.loc 1) 19 [(.attr (.loc 4) 15)]),
   .asg 3 (.const (.int 0))] [.ite (.cmp1 .eq (.attr (.loc 4) 6) (.const (.int 5))) [.expr (.meth (.loc 1) 20 [(.bin .add (.loc 3) (.attr (.loc 4) 0))]),
    .asg 3 (.const (.int 0))] [.ite (.or (.cmp1 .eq (.attr (.loc 4) 6) (.const (.int 2))) (.or (.cmp1 .eq (.attr (.loc 4) 6) (.const (.int 3))) (.or (.cmp1 .eq (.attr (.loc 4) 6) (.const (.int 4))) (.cmp1 .eq (.attr (.loc 4) 6) (.const (.int 14)))))) [.expr (.meth (.loc 1) 20 [(.bin .add (.loc 3) (.call 23 [(.loc 4)]))]),
     .asg 3 (.call 24 [(.loc 4)])] []]]]
noncomputable def b30:List MS:=
 [.expr (.call 29 [(.loc 0)]),
  .asg 1 (.new 1 []),
  .asgT [.name 2,.name 3] (.tup [(.const (.int 0)),(.const (.int 0))]),
  .forN 4 .plain (.loc 0) b30l0,
  .ret (.tup [(.loc 1),(.loc 2),(.loc 3)])]
noncomputable def f30:MFn:=⟨1,5,[],b30,true⟩
noncomputable def b31:List MS:=
 [.ret (.ite (.cmp1 .gt (.loc 1) (.const (.int 0))) (.tup [(.loc 0),(.loc 1)]) (.tup [(.neg (.loc 0)),(.neg (.loc 1))]))]
noncomputable def f31:MFn:=⟨2,2,[],b31,true⟩
noncomputable def b32:List MS:=
 [.ite (.cmp1 .eq (.loc 1) (.const (.int 0))) [.ret (.tup [(.const (.int 0)),(.const (.int 0)),(.tup [(.const (.int 0)),(.const (.int 1))]),(.tup [(.const (.int 0)),(.const (.int 0))])])] [],
  .asg 2 (.ite (.cmp1 .gt (.loc 1) (.const (.int 0))) (.meth (.loc 0) 21 []) (.meth (.loc 0) 22 [])),
  .asg 3 (.ite (.cmp1 .gt (.loc 1) (.const (.int 0))) (.sub (.attr (.loc 0) 1) (.loc 2)) (.sub (.attr (.loc 0) 3) (.loc 2))),
  .asg 4 (.tup [(.const (.int 0)),(.const (.int 0))]),
  .ite (.cmp1 .eq (.loc 2) (.const (.int 0))) [.asg 4 (.tup [(.ite (.cmp1 .gt (.loc 1) (.const (.int 0))) (.const (.int 1)) (.const (.int 2))),(.call 5 [(.bi .abs [(.loc 1)]),(.loc 3)])])] [],
  .ite (.and (.cmp1 .eq (.loc 2) (.const (.int 0))) (.and (.cmp1 .lt (.loc 1) (.const (.int 0))) (.cmp1 .lt (.loc 3) (.neg (.loc 1))))) [.asg 4 (.tup [(.const (.int 3)),(.bin .sub (.neg (.loc 1)) (.loc 3))])] [],
  .ite (.cmp1 .eq (.loc 3) (.const (.int 0))) [.ret (.tup [(.const (.int 0)),(.const (.int 0)),(.tup [(.const (.int 0)),(.const (.int 1))]),(.loc 4)])] [],
  .ite (.cmp1 .eq (.sub (.loc 4) (.const (.int 0))) (.const (.int 3))) [.ret (.tup [(.const (.int 2)),(.loc 2),(.tup [(.const (.int 1)),(.const (.int 1))]),(.loc 4)])] [],
  .ret (.tup [(.ite (.cmp1 .gt (.loc 1) (.const (.int 0))) (.const (.int 1)) (.const (.int 2))),(.loc 2),(.call 31 [(.bi .abs [(.loc 1)]),(.loc 3)]),(.loc 4)])]
noncomputable def f32:MFn:=⟨2,5,[],b32,true⟩
noncomputable def b33:List MS:=
 [.ite (.and (.cmp1 .eq (.attr (.loc 0) 11) (.const (.int 1))) (.cmp1 .eq (.attr (.loc 1) 2) (.attr (.loc 0) 12))) [.ret (.attr (.loc 1) 1)] [],
  .ite (.and (.cmp1 .eq (.attr (.loc 0) 11) (.const (.int 2))) (.cmp1 .eq (.attr (.loc 1) 4) (.attr (.loc 0) 12))) [.ret (.neg (.attr (.loc 1) 3))] [],
  .ret (.const (.int 0))]
noncomputable def f33:MFn:=⟨2,2,[],b33,true⟩
noncomputable def b34:List MS:=
 [.ret (.call 4 [(.bin .mul (.sub (.attr (.loc 0) 13) (.const (.int 0))) (.loc 1)),(.sub (.attr (.loc 0) 13) (.const (.int 1)))])]
noncomputable def f34:MFn:=⟨2,2,[],b34,true⟩
noncomputable def b35:List MS:=
 [.ite (.cmp1 .eq (.attr (.loc 0) 6) (.const (.int 2))) [.ret (.call 22 [(.loc 1)])] [],
  .ret (.ite (.cmp1 .eq (.attr (.loc 1) 6) (.const (.int 5))) (.attr (.loc 1) 0) (.bin .add (.call 23 [(.loc 1)]) (.call 24 [(.loc 1)])))]
noncomputable def f35:MFn:=⟨2,2,[],b35,true⟩
noncomputable def b36l0:List MS:=
 [.ite (.cmp1 .eq (.attr (.loc 4) 6) (.const (.int 6))) [.asg 2 (.bin .add (.loc 2) (.attr (.attr (.loc 4) 15) 0)),
  .asg 3 (.bin .add (.loc 3) (.call 33 [(.loc 0),(.attr (.loc 4) 15)]))] [.asg 2 (.bin .add (.loc 2) (.call 35 [(.loc 0),(.loc 4)]))],
  .expr (.app (.loc 1) (.bin .add (.loc 2) (.call 34 [(.loc 0),(.loc 3)])))]
noncomputable def b36:List MS:=
 [.ite (.cmp1 .eq (.attr (.loc 0) 6) (.const (.int 3))) [.expr (.call 29 [(.attr (.loc 0) 9)])] [],
  .asg 1 (.list [(.const (.int 0))]),
  .asgT [.name 2,.name 3] (.tup [(.const (.int 0)),(.const (.int 0))]),
  .forN 4 .plain (.attr (.loc 0) 9) b36l0,
  .ret (.loc 1)]
noncomputable def f36:MFn:=⟨1,5,[],b36,true⟩
noncomputable def b37:List MS:=
 [.ite (.and (.cmp1 .ne (.loc 1) (.const (.int 0))) (.cmp1 .ne (.loc 1) (.const (.int 1)))) [.raise 1 (.const (.str (Str.ofString "no mode of packing")))] [],
  .expr (.call 3 [(.loc 2)]),
  .ret (.ite (.cmp1 .eq (.loc 1) (.const (.int 0))) (.loc 2) (.bin .add (.loc 0) (.loc 2)))]
noncomputable def f37:MFn:=⟨3,3,[],b37,true⟩
noncomputable def b38:List MS:=
 [.asgT [.attr 0 11,.attr 0 12,.attr 0 13,.name 3] (.call 32 [(.loc 1),(.loc 2)]),
  .ret (.ite (.cmp1 .ne (.attr (.loc 0) 9) (.list [])) (.loc 3) (.tup [(.const (.int 0)),(.const (.int 0))]))]
noncomputable def f38:MFn:=⟨3,4,[],b38,true⟩
noncomputable def b39:List MS:=
 [.asgT [.name 4,.name 5] (.ite (.cmp1 .is (.loc 3) (.const .none)) (.tup [(.loc 0),(.list [])]) .bad),
  .asgT [.name 6,.name 7,.name 8] (.call 27 [(.loc 4)]),
  .asg 9 (.call 37 [(.attr (.loc 6) 5),(.loc 1),(.loc 2)]),
  .asg 10 (.new 2 [(.const (.int 2)),(.loc 9),(.loc 7),(.loc 8),(.loc 4)]),
  .ite (.cmp1 .isNot (.loc 3) (.const .none)) [.expr .bad] [],
  .ret (.tup [(.loc 10),(.call 38 [(.loc 10),(.loc 6),(.bin .sub (.loc 9) (.attr (.loc 6) 5))])])]
noncomputable def f39:MFn:=⟨4,11,[(.int 1),(.int 0),.none],b39,true⟩
noncomputable def b40:List MS:=
 [.expr (.call 3 [(.loc 3)]),
  .asgT [.name 4,.name 5,.name 6] (.call 30 [(.loc 0)]),
  .ite (.cmp1 .gt (.loc 6) (.loc 3)) [.expr (.meth (.loc 4) 20 [(.bin .sub (.loc 6) (.loc 3))]),
   .asg 6 (.loc 3)] [],
  .asg 7 (.call 37 [(.attr (.loc 4) 5),(.loc 1),(.loc 2)]),
  .asg 8 (.new 2 [(.const (.int 3)),(.loc 5),(.loc 7),(.loc 6),(.loc 0)]),
  .ret (.tup [(.loc 8),(.call 38 [(.loc 8),(.loc 4),(.bin .sub (.loc 7) (.attr (.loc 4) 5))])])]
noncomputable def f40:MFn:=⟨4,9,[(.int 1),(.int 0),(.int 1073741823)],b40,true⟩
noncomputable def b41:List MS:=
 [.ret (.list [(.bi .max [(.const (.int 0)),(.bin .sub (.loc 0) (.bin .pow (.const (.int 10)) (.const (.int 18))))]),(.bin .add (.bin .mod (.bin .add (.bin .add (.bin .mul (.const (.int 2)) (.bi .abs [(.loc 0)])) (.bi .toInt [(.cmp1 .lt (.loc 0) (.const (.int 0)))])) (.bi .abs [(.loc 1)])) (.const (.int 2147483629))) (.const (.int 7)))])]
noncomputable def f41:MFn:=⟨2,2,[],b41,true⟩
noncomputable def b42:List MS:=
 [.ite (.cmp1 .gt (.sub (.loc 0) (.const (.int 0))) (.const (.int 0))) [.asg 2 (.bin .mod (.sub (.loc 0) (.const (.int 0))) (.loc 1)),
  .asgI (.loc 0) (.const (.int 0)) (.bin .fdiv (.sub (.loc 0) (.const (.int 0))) (.loc 1)),
  .ret (.loc 2)] [],
  .asgI (.loc 0) (.const (.int 1)) (.bin .mod (.bin .add (.bin .mul (.sub (.loc 0) (.const (.int 1))) (.const (.int 48271))) (.const (.int 11))) (.const (.int 2147483647))),
  .ret (.bin .mod (.bin .fdiv (.sub (.loc 0) (.const (.int 1))) (.const (.int 16))) (.loc 1))]
noncomputable def f42:MFn:=⟨2,3,[],b42,true⟩
noncomputable def b43:List MS:=
 [.asg 1 (.call 42 [(.loc 0),(.const (.int 8))]),
  .ite (.cmp1 .eq (.loc 1) (.const (.int 0))) [.ret (.const (.int 0))] [],
  .ite (.cmp1 .eq (.loc 1) (.const (.int 1))) [.ret (.bin .sub (.neg (.const (.int 1))) (.call 42 [(.loc 0),(.const (.int 12))]))] [],
  .ret (.ite (.cmp1 .lt (.loc 1) (.const (.int 7))) (.bin .add (.const (.int 1)) (.call 42 [(.loc 0),(.const (.int 40))])) (.bin .add (.bin .mul (.const (.int 65536)) (.call 42 [(.loc 0),(.const (.int 60))])) (.call 42 [(.loc 0),(.const (.int 9))])))]
noncomputable def f43:MFn:=⟨1,2,[],b43,true⟩
noncomputable def b44:List MS:=
 [.ite (.and (.cmp1 .ne (.loc 2) (.list [])) (.cmp1 .eq (.call 42 [(.loc 0),(.const (.int 3))]) (.const (.int 0)))) [.asg 3 (.sub (.loc 2) (.neg (.const (.int 1)))),
  .ret (.tup [(.call 43 [(.loc 0)]),(.neg (.sub (.loc 3) (.const (.int 1)))),(.sub (.loc 3) (.const (.int 2))),(.neg (.sub (.loc 3) (.const (.int 3)))),(.sub (.loc 3) (.const (.int 4)))])] [],
  .asg 4 (.list [(.const (.int 0)),(.const (.int 1)),(.const (.int 2)),(.const (.int 5)),(.const (.int 12)),(.neg (.const (.int 1))),(.const (.int 65536)),(.const (.int 1966080))]),
  .asgT [.name 5,.name 6,.name 7] (.tup [(.call 43 [(.loc 0)]),(.sub (.loc 4) (.call 42 [(.loc 0),(.const (.int 8))])),(.call 42 [(.loc 0),(.loc 1)])]),
  .ret (.tup [(.loc 5),(.loc 6),(.loc 7),(.sub (.loc 4) (.call 42 [(.loc 0),(.const (.int 8))])),(.call 42 [(.loc 0),(.loc 1)])])]
noncomputable def f44:MFn:=⟨3,8,[],b44,true⟩
noncomputable def b45e0:ME:=
 (.loc 11)
noncomputable def b45e1:ME:=
 (.cmp1 .ne (.loc 11) (.tup []))
noncomputable def b45e2:ME:=
 (.call 43 [(.loc 0)])
noncomputable def b45e3:ME:=
 (.ite (.cmp1 .eq (.loc 11) (.loc 8)) (.const .none) (.sub (.loc 7) (.loc 11)))
noncomputable def b45e4:ME:=
 (.ite (.cmp1 .is (.loc 11) (.const .none)) (.const (.int 0)) (.loc 11))
noncomputable def b45:List MS:=
 [.asg 4 (.call 42 [(.loc 0),(.const (.int 12))]),
  .ite (.cmp1 .lt (.loc 4) (.const (.int 8))) [.asg 5 (.call 44 [(.loc 0),(.loc 2),(.compIf b45e0 0 .plain (.loc 3) b45e1)]),
   .ret (.tup [(.new 5 [(.new 0 [(.sub (.loc 5) (.const (.int 0))),(.sub (.loc 5) (.const (.int 1))),(.sub (.loc 5) (.const (.int 2))),(.sub (.loc 5) (.const (.int 3))),(.sub (.loc 5) (.const (.int 4)))]),(.const (.int 0))]),(.loc 5),(.sub (.loc 5) (.const (.int 0))),(.const (.int 0))])] [],
  .ite (.cmp1 .eq (.loc 4) (.const (.int 8))) [.asg 6 (.call 43 [(.loc 0)]),
   .ret (.tup [(.new 4 [(.loc 6),(.call 42 [(.loc 0),(.const (.int 4))])]),(.tup []),(.loc 6),(.const (.int 0))])] [],
  .ite (.cmp1 .eq (.loc 4) (.const (.int 9))) [.ret (.tup [(.new 6 [(.call 42 [(.loc 0),(.const (.int 99))])]),(.tup []),(.const (.int 0)),(.const .none)])] [],
  .asg 7 (.comp b45e2 0 .range (.const (.int 3))),
  .ite (.cmp1 .eq (.loc 4) (.const (.int 10))) [.asg 8 (.call 42 [(.loc 0),(.const (.int 4))]),
   .asg 9 (.comp b45e3 0 .range (.const (.int 3))),
   .asgT [.name 10,.name 7] (.tup [(.new 3 [(.sub (.loc 9) (.const (.int 0))),(.sub (.loc 9) (.const (.int 1))),(.sub (.loc 9) (.const (.int 2)))]),(.comp b45e4 0 .plain (.loc 9))])] [.asg 10 (.new 2 [(.bin .add (.const (.int 2)) (.call 42 [(.loc 0),(.const (.int 2))])),(.sub (.loc 7) (.const (.int 0))),(.sub (.loc 7) (.const (.int 1))),(.sub (.loc 7) (.const (.int 2))),(.list [])]),
   .asgA (.loc 10) 10 (.call 43 [(.loc 0)])],
  .ret (.tup [(.loc 10),(.tup []),(.ite (.loc 1) (.bin .add (.sub (.loc 7) (.const (.int 1))) (.sub (.loc 7) (.const (.int 2)))) (.sub (.loc 7) (.const (.int 0)))),(.sub (.loc 7) (.const (.int 2)))])]
noncomputable def f45:MFn:=⟨4,11,[],b45,false⟩
noncomputable def b46:List MS:=
 [.asg 4 (.call 42 [(.loc 0),(.const (.int 9))]),
  .ite (.cmp1 .eq (.loc 4) (.const (.int 8))) [.ret (.bin .mul (.bin .sub (.const (.int 1)) (.bin .mul (.const (.int 2)) (.call 42 [(.loc 0),(.const (.int 2))]))) (.bin .add (.bin .sub (.bin .pow (.const (.int 2)) (.const (.int 30))) (.const (.int 40))) (.call 42 [(.loc 0),(.const (.int 64))])))] [],
  .ite (.cmp1 .lt (.loc 4) (.const (.int 3))) [.asg 5 (.bin .add (.const (.int 1)) (.call 42 [(.loc 0),(.const (.int 60))]))] [.ite (.cmp1 .lt (.loc 4) (.const (.int 5))) [.asg 5 (.bin .sub (.neg (.const (.int 1))) (.call 42 [(.loc 0),(.const (.int 30))]))] [.ite (.cmp1 .eq (.loc 4) (.const (.int 5))) [.asg 5 (.bin .sub (.neg (.loc 3)) (.call 42 [(.loc 0),(.const (.int 3))]))] [.asg 5 (.ite (.cmp1 .eq (.loc 4) (.const (.int 6))) (.bin .mul (.const (.int 65536)) (.bin .sub (.call 42 [(.loc 0),(.const (.int 200))]) (.const (.int 60)))) (.const (.int 0)))]]],
  .ret (.ite (.cmp1 .eq (.loc 1) (.const (.int 1))) (.loc 5) (.bin .add (.loc 2) (.loc 5)))]
noncomputable def f46:MFn:=⟨4,6,[],b46,true⟩
noncomputable def b47:List MS:=
 [.try_ (.ite (.loc 1) (.call 40 [(.bi .list [(.loc 0)]),(.sub (.loc 2) (.const (.int 0))),(.sub (.loc 2) (.const (.int 1))),(.sub (.loc 2) (.const (.int 2)))]) (.call 39 [(.bi .list [(.loc 0)]),(.sub (.loc 2) (.const (.int 0))),(.sub (.loc 2) (.const (.int 1)))])) 0]
noncomputable def f47:MFn:=⟨3,3,[],b47,true⟩
noncomputable def b48:List MS:=
 [.asgT [.name 1,.name 2] (.loc 0),
  .ret (.tup [(.attr (.loc 1) 6),(.attr (.loc 1) 0),(.attr (.loc 1) 7),(.attr (.loc 1) 8),(.attr (.loc 1) 10),(.attr (.loc 1) 11),(.attr (.loc 1) 12),(.attr (.loc 1) 13),(.loc 2)])]
noncomputable def f48:MFn:=⟨1,3,[],b48,true⟩
noncomputable def b49:List MS:=
 [.ite (.cmp1 .eq (.loc 1) (.const (.int 1))) [.ret (.new 5 [(.new 0 [(.sub (.loc 0) (.const (.int 0))),(.loc 2),(.sub (.loc 0) (.const (.int 2)))]),(.const (.int 0))])] [],
  .ret (.new 5 [(.new 0 [(.sub (.loc 0) (.const (.int 0))),(.const (.int 0)),(.const (.int 0)),(.loc 2),(.sub (.loc 0) (.const (.int 4)))]),(.const (.int 0))])]
noncomputable def f49:MFn:=⟨3,3,[],b49,true⟩
noncomputable def b50:List MS:=
 [.asg 5 (.call 47 [(.loc 0),(.loc 1),(.loc 2)]),
  .ret (.and (.cmp1 .isNot (.loc 5) (.const .none)) (.and (.cmp1 .eq (.call 48 [(.loc 5)]) (.loc 3)) (.cmp1 .eq (.call 36 [(.sub (.loc 5) (.const (.int 0)))]) (.loc 4))))]
noncomputable def f50:MFn:=⟨5,6,[],b50,true⟩
noncomputable def b51l0:List MS:=
 [.ite (.cmp1 .ne (.loc 9) (.tup [])) [.asg 10 (.bin .add (.bin .add (.sliceTo (.loc 0) (.loc 8)) (.list [(.new 4 [(.sub (.loc 9) (.const (.int 0))),(.const (.int 1))])])) (.sliceFrom (.loc 0) (.bin .add (.loc 8) (.const (.int 1))))),
  .ite (.or (.cmp1 .eq (.loc 4) (.const (.int 0))) (.or (.cmp1 .eq (.sub (.loc 9) (.loc 7)) (.const (.int 0))) (.cmp1 .lt (.sub (.loc 9) (.bin .add (.loc 7) (.const (.int 1)))) (.sub (.loc 5) (.const (.int 6)))))) [.ite (.not (.call 50 [(.loc 10),(.loc 2),(.loc 3),(.loc 5),(.loc 6)])) [.ret (.const (.bool false))] []] [.asg 11 (.call 47 [(.loc 10),(.loc 2),(.loc 3)]),
   .ite (.or (.cmp1 .is (.loc 11) (.const .none)) (.or (.cmp1 .ne (.sliceTo (.call 48 [(.loc 11)]) (.const (.int 5))) (.sliceTo (.loc 5) (.const (.int 5)))) (.cmp1 .eq (.sliceFrom (.call 48 [(.loc 11)]) (.const (.int 5))) (.sliceFrom (.loc 5) (.const (.int 5)))))) [.ret (.const (.bool false))] []]] []]
noncomputable def b51:List MS:=
 [.asg 7 (.ite (.cmp1 .gt (.loc 4) (.const (.int 0))) (.const (.int 1)) (.const (.int 3))),
  .forT [8,9] .enum (.loc 1) b51l0,
  .ret (.const (.bool true))]
noncomputable def f51:MFn:=⟨7,12,[],b51,true⟩
noncomputable def b52e0:ME:=
 (.sub (.sub (.loc 3) (.loc 19)) (.bin .sub (.bin .mul (.const (.int 2)) (.loc 9)) (.const (.int 1))))
noncomputable def b52l0:List MS:=
 [.asgI (.loc 10) (.loc 12) (.call 49 [(.sub (.loc 3) (.loc 12)),(.loc 9),(.bin .mul (.loc 15) (.sub (.sub (.loc 3) (.loc 12)) (.bin .sub (.bin .mul (.const (.int 2)) (.loc 9)) (.const (.int 1)))))])]
noncomputable def b52:List MS:=
 [.asgT [.name 9,.name 10] (.tup [(.sub (.loc 6) (.const (.int 5))),(.bi .list [(.loc 1)])]),
  .asg 11 (.sub (.loc 8) (.call 42 [(.loc 0),(.bi .len [(.loc 8)])])),
  .asg 13 (.bi .sum [(.comp b52e0 0 .plain (.loc 8))]),
  .asg 14 (.call 47 [(.bin .add (.bin .add (.sliceTo (.loc 2) (.loc 11)) (.list [(.call 49 [(.sub (.loc 3) (.loc 11)),(.loc 9),(.loc 13)])])) (.sliceFrom (.loc 2) (.bin .add (.loc 11) (.const (.int 1))))),(.loc 4),(.loc 5)]),
  .ite (.or (.cmp1 .is (.loc 14) (.const .none)) (.or (.cmp1 .ne (.call 48 [(.loc 14)]) (.loc 6)) (.cmp1 .ne (.sub (.call 36 [(.sub (.loc 14) (.const (.int 0)))]) (.neg (.const (.int 1)))) (.sub (.loc 7) (.neg (.const (.int 1))))))) [.ret (.const (.bool false))] [],
  .asg 15 (.sub (.list [(.const (.int 2)),(.const (.int 3)),(.const (.int 10)),(.const (.int 100)),(.neg (.const (.int 1))),(.neg (.const (.int 2))),(.neg (.const (.int 7))),(.neg (.const (.int 100)))]) (.call 42 [(.loc 0),(.const (.int 8))])),
  .ite (.cmp1 .eq (.sub (.loc 6) (.const (.int 6))) (.const (.int 0))) [.asg 15 (.bi .abs [(.loc 15)])] [],
  .ite (.cmp1 .eq (.sub (.sub (.loc 6) (.const (.int 8))) (.const (.int 0))) (.const (.int 3))) [.ret (.const (.bool true))] [],
  .forN 12 .plain (.loc 8) b52l0,
  .asg 16 (.call 47 [(.loc 10),(.loc 4),(.loc 5)]),
  .ite (.or (.cmp1 .is (.loc 16) (.const .none)) (.or (.cmp1 .ne (.sliceTo (.call 48 [(.loc 16)]) (.const (.int 7))) (.sliceTo (.loc 6) (.const (.int 7)))) (.cmp1 .ne (.call 36 [(.sub (.loc 16) (.const (.int 0)))]) (.loc 7)))) [.ret (.const (.bool false))] [],
  .asgT [.name 17,.name 18] (.tup [(.attr (.sub (.loc 16) (.const (.int 0))) 13),(.sub (.loc 16) (.const (.int 1)))]),
  .ret (.and (.cmp1 .eq (.bin .mul (.bin .mul (.sub (.loc 17) (.const (.int 0))) (.loc 15)) (.sub (.sub (.loc 6) (.const (.int 7))) (.const (.int 1)))) (.bin .mul (.sub (.sub (.loc 6) (.const (.int 7))) (.const (.int 0))) (.sub (.loc 17) (.const (.int 1))))) (.and (.cmp1 .eq (.sub (.loc 18) (.const (.int 0))) (.sub (.sub (.loc 6) (.const (.int 8))) (.const (.int 0)))) (.cmp2 .le .le (.const (.int 0)) (.sub (.loc 18) (.const (.int 1))) (.sub (.sub (.loc 6) (.const (.int 8))) (.const (.int 1))))))]
noncomputable def f52:MFn:=⟨9,19,[],b52,false⟩
noncomputable def b53l0:List MS:=
 [.asgT [.name 11,.name 12,.name 13,.name 14] (.call 45 [(.loc 0),(.loc 2),(.loc 3),(.loc 7)]),
  .expr (.app (.loc 6) (.loc 11)),
  .expr (.app (.loc 7) (.loc 12)),
  .asgT [.name 8,.name 9] (.tup [(.bin .add (.loc 8) (.loc 13)),(.ite (.cmp1 .is (.loc 14) (.const .none)) (.loc 9) (.loc 14))])]
noncomputable def b53e0:ME:=
 (.sub (.loc 28) (.const (.int 3)))
noncomputable def b53e1:ME:=
 (.and (.cmp1 .ne (.loc 28) (.tup [])) (.cmp1 .eq (.sub (.loc 28) (.const (.int 4))) (.const (.int 0))))
noncomputable def b53e2:ME:=
 (.ite (.cmp1 .eq (.loc 29) (.tup [])) (.sub (.loc 6) (.loc 28)) (.new 4 [(.sub (.loc 29) (.const (.int 0))),(.const (.int 1))]))
noncomputable def b53l1:List MS:=
 [.ite (.and (.cmp1 .gt (.loc 26) (.const (.int 0))) (.and (.cmp1 .ne (.loc 12) (.tup [])) (.and (.cmp1 .ne (.sub (.loc 12) (.bin .sub (.bin .mul (.const (.int 2)) (.loc 26)) (.const (.int 1)))) (.const (.int 0))) (.cmp1 .eq (.sub (.loc 12) (.bin .mul (.const (.int 2)) (.loc 26))) (.sub (.loc 22) (.const (.int 6))))))) [.expr (.app (.loc 24) (.loc 20)),
  .asgI (.loc 25) (.loc 20) (.call 49 [(.loc 12),(.loc 26),(.sub (.loc 12) (.bin .sub (.bin .mul (.const (.int 2)) (.loc 26)) (.const (.int 1))))])] []]
noncomputable def b53:List MS:=
 [.asgT [.name 1,.name 2,.name 3] (.tup [(.call 42 [(.loc 0),(.const (.int 9))]),(.cmp1 .eq (.call 42 [(.loc 0),(.const (.int 2))]) (.const (.int 1))),(.sub (.list [(.const (.int 1)),(.const (.int 2)),(.const (.int 4)),(.const (.int 4))]) (.call 42 [(.loc 0),(.const (.int 4))]))]),
  .asgT [.name 4,.name 5] (.tup [(.call 42 [(.loc 0),(.const (.int 2))]),(.sub (.list [(.bin .sub (.bin .pow (.const (.int 2)) (.const (.int 30))) (.const (.int 1))),(.const (.int 0)),(.const (.int 9))]) (.call 42 [(.loc 0),(.const (.int 3))]))]),
  .asgT [.name 6,.name 7,.name 8,.name 9] (.tup [(.list []),(.list []),(.const (.int 0)),(.const (.int 0))]),
  .forN 10 .range (.loc 1) b53l0,
  .asg 15 (.ite (.loc 2) (.bi .min [(.loc 9),(.loc 5)]) (.const (.int 0))),
  .asg 8 (.bin .sub (.loc 8) (.loc 15)),
  .asg 16 (.bi .sum [(.compIf b53e0 0 .plain (.loc 7) b53e1)]),
  .asg 17 (.tup [(.loc 4),(.call 46 [(.loc 0),(.loc 4),(.loc 8),(.loc 16)]),(.loc 5)]),
  .asg 13 (.ite (.cmp1 .eq (.loc 4) (.const (.int 1))) (.bin .add (.loc 8) (.sub (.loc 17) (.const (.int 1)))) (.sub (.loc 17) (.const (.int 1)))),
  .asgT [.name 18,.name 19] (.tup [(.call 21 [(.loc 6)]),(.call 47 [(.loc 6),(.loc 2),(.loc 17)])]),
  .asg 21 (.comp b53e2 2 .enum (.loc 7)),
  .ite (.cmp1 .ge (.bi .max [(.bi .abs [(.loc 13)]),(.bi .abs [(.sub (.loc 17) (.const (.int 1)))])]) (.bin .pow (.const (.int 2)) (.const (.int 30)))) [.ret (.and (.cmp1 .is (.loc 19) (.const .none)) (.cmp1 .is (.call 47 [(.loc 21),(.loc 2),(.loc 17)]) (.const .none)))] [],
  .ite (.cmp1 .is (.loc 19) (.const .none)) [.ret (.const (.bool false))] [],
  .asgT [.name 22,.name 23,.name 24,.name 25] (.tup [(.call 48 [(.loc 19)]),(.call 36 [(.sub (.loc 19) (.const (.int 0)))]),(.list []),(.bi .list [(.loc 21)])]),
  .asgT [.name 26,.name 27] (.tup [(.sub (.loc 22) (.const (.int 5))),(.ite (.cmp1 .eq (.sub (.sub (.loc 22) (.const (.int 8))) (.const (.int 0))) (.const (.int 3))) (.bin .add (.loc 13) (.sub (.sub (.loc 22) (.const (.int 8))) (.const (.int 1)))) (.loc 13))]),
  .ite (.or (.cmp1 .ne (.sub (.loc 22) (.ite (.loc 2) (.const (.int 2)) (.const (.int 1)))) (.loc 13)) (.cmp1 .ne (.bin .sub (.sub (.loc 23) (.neg (.const (.int 1)))) (.loc 15)) (.ite (.cmp1 .eq (.loc 26) (.const (.int 0))) (.loc 8) (.loc 27)))) [.ret (.const (.bool false))] [],
  .forT [20,12] .enum (.loc 7) b53l1,
  .ite (.or (.not (.call 50 [(.loc 25),(.loc 2),(.loc 17),(.loc 22),(.loc 23)])) (.cmp1 .ne (.cmp1 .eq (.loc 24) (.list [])) (.cmp1 .eq (.loc 26) (.const (.int 0))))) [.ret (.const (.bool false))] [],
  .ite (.not (.call 51 [(.loc 6),(.loc 7),(.loc 2),(.loc 17),(.bin .sub (.loc 13) (.loc 8)),(.loc 22),(.loc 23)])) [.ret (.const (.bool false))] [],
  .ite (.and (.cmp1 .gt (.loc 26) (.const (.int 0))) (.not (.call 52 [(.loc 0),(.loc 6),(.loc 21),(.loc 7),(.loc 2),(.loc 17),(.loc 22),(.loc 23),(.loc 24)]))) [.ret (.const (.bool false))] [],
  .ret (.cmp1 .eq (.call 21 [(.attr (.sub (.loc 19) (.const (.int 0))) 9)]) (.loc 18))]
noncomputable def f53:MFn:=⟨1,28,[],b53,false⟩
noncomputable def b54l0:List MS:=
 [.ite (.not (.call 53 [(.call 41 [(.loc 2),(.bi .sum [(.sliceFrom (.loc 0) (.const (.int 2)))])])])) [.ret (.const (.bool false))] []]
noncomputable def b54:List MS:=
 [.asg 1 (.ite (.cmp1 .ne (.loc 0) (.list [])) (.sliceTo (.loc 0) (.const (.int 2))) (.list [(.bin .add (.bin .pow (.const (.int 10)) (.const (.int 18))) (.const (.int 3041467672532173834695482752849169419505)))])),
  .forN 2 .plain (.loc 1) b54l0,
  .ret (.const (.bool true))]
noncomputable def f54:MFn:=⟨1,3,[],b54,true⟩
noncomputable def tabF:List MFn:=[f0,f1,f2,f3,f4,f5,f6,f7,f8,f9,f10,f11,f12,f13,f14,f15,f16,f17,f18,f19,f20,f21,f22,f23,f24,f25,f26,f27,f28,f29,f30,f31,f32,f33,f34,f35,f36,f37,f38,f39,f40,f41,f42,f43,f44,f45,f46,f47,f48,f49,f50,f51,f52,f53,f54]
noncomputable def fnsT (n:Nat) :Option MFn:=tabF[n]?
end Mine
set_option linter.unusedVariables false
namespace Mine
open PySem PySem.W PySem.Calls PyProof.Rows
noncomputable abbrev Led:=List (Addr × Obj)
noncomputable abbrev Rho:=List (Addr × Addr)
noncomputable abbrev zaU (its:Array Value) (n:Nat) :Obj:={cls:= .type "tuple",data:= .seq its n}
structure Cfg where
 G:Gl
 T:Tables
 fns:Nat→Option MFn
 clsA:Nat→Addr
 fnA:Nat→Addr
 excA:Nat→Addr
noncomputable def Cfg.atn (C:Cfg) (i:Nat) :Str:=C.G.at_.getD i ⟨#[]⟩
mutual
noncomputable def RepV (N:Led) (ρ:Rho) :MV→Value→Prop
 | .none,v=>v= .none
 | .bool b,v=>v= .bool b
 | .int i,v=>∃ t,v= .int i t
 | .str s,v=>∃ t,v= .str s t
 | .tup vs,v=>∃ a its n,v= .ref a∧(a,zaU its.toArray n)∈ N∧RepVs N ρ vs its∧its.length≤4096
 | .ref i,v=>∃ p:Addr × Addr,ρ[i]? =some p∧v= .ref p.1
noncomputable def RepVs (N:Led) (ρ:Rho) :List MV→List Value→Prop
 | [],xs=>xs= []
 | v :: vs,xs=>∃ x r,xs=x :: r∧RepV N ρ v x∧RepVs N ρ vs r
end
noncomputable def FieldsRep (C:Cfg) (N:Led) (ρ:Rho) :List (Nat × MV)→List DictEntry→Prop
 | [],es=>es= []
 | (a,v) :: fs,es=>∃ e r,es=e :: r∧(a < C.G.at_.length∧∃ t,e.key= .str (C.atn a) t)∧RepV N ρ v e.val∧FieldsRep C N ρ fs r
noncomputable def ObjRep (C:Cfg) (h₀:Heap) (N:Led) (ρ:Rho) (p:Addr × Addr) :MObj→Prop
 | .list vs _=>∃ its n,(p.1,listOf (List.toArray its) n)∈ N∧RepVs N ρ vs its∧its.length≤4096
 | .ro vs=>∃ its,h₀.IsList p.1 (List.toArray its)∧RepVs N ρ vs its∧its.length≤4096
 | .inst c fs=>∃ es n,(p.1,instObj (C.clsA c) p.2)∈ N∧(p.2,dictOf es n)∈ N∧FieldsRep C N ρ fs es∧(C.T.cinit c).isSome=true
noncomputable def Disj (p q:Addr × Addr) :Prop:=p.1≠q.1∧p.1≠q.2∧p.2≠q.1∧p.2≠q.2
structure HRel (C:Cfg) (h₀:Heap) (N:Led) (ρ:Rho) (mh:zax) :Prop where
 len:ρ.length=mh.length
 obj:∀ (i:Nat) o p,mh[i]? =some o→ρ[i]? =some p→ObjRep C h₀ N ρ p o
 apart:∀ (i j:Nat) p q,ρ[i]? =some p→ρ[j]? =some q→i≠j→Disj p q
 one:∀ (i:Nat) p vs n,mh[i]? =some (.list vs n)→ρ[i]? =some p→p.2=p.1
 oner:∀ (i:Nat) p vs,mh[i]? =some (.ro vs)→ρ[i]? =some p→p.2=p.1
theorem HRel.at {C:Cfg} {h₀:Heap} {N:Led} {ρ:Rho} {mh:zax} (H:HRel C h₀ N ρ mh) {i:Nat} {o:MObj} (h:mh[i]? =some o) :∃ p,ρ[i]? =some p∧ObjRep C h₀ N ρ p o:=by
 have hi:i < ρ.length:=H.len ▸ (List.getElem?_eq_some_iff.mp h).1
 exact ⟨ρ[i],List.getElem?_eq_getElem hi,H.obj i o _ h (List.getElem?_eq_getElem hi)⟩
theorem HRel.of {C:Cfg} {h₀:Heap} {N:Led} {ρ:Rho} {mh:zax} (H:HRel C h₀ N ρ mh) {i:Nat} {p:Addr × Addr} (h:ρ[i]? =some p) :∃ o,mh[i]? =some o∧ObjRep C h₀ N ρ p o:=by
 have hi:i < mh.length:=H.len ▸ (List.getElem?_eq_some_iff.mp h).1
 exact ⟨mh[i],List.getElem?_eq_getElem hi,H.obj i _ p (List.getElem?_eq_getElem hi) h⟩
theorem zdz {h₀ h:Heap} {L:Addr} {N:Led} (hN:News h₀ L h N) {a:Addr} {o o':Obj} (h1:(a,o)∈ N) (h2:(a,o')∈ N) :o=o':=by
 have x:=(hN _ h1).1
 have y:=(hN _ h2).1
 dsimp only at x y
 rw [x] at y
 exact Option.some.inj y
mutual
theorem RepV.mono {N N':Led} {ρ ρ':Rho} (ht:∀ a its n,(a,zaU its n)∈ N→(a,zaU its n)∈ N') (hρ:∀ (i:Nat) p,ρ[i]? =some p→ρ'[i]? =some p) :
 ∀ {v:MV} {x:Value},RepV N ρ v x→RepV N' ρ' v x
 | .none,x,h=>by exact h
 | .bool b,x,h=>by exact h
 | .int b,x,h=>by exact h
 | .str b,x,h=>by exact h
 | .ref i,x,h=>by
  refine x1_2 h ?_;intro p hp e
  exact ⟨p,hρ i p hp,e⟩
 | .tup vs,x,h=>by
  refine x3_4 h ?_;intro a its n e hm hr hl
  exact ⟨a,its,n,e,ht _ _ _ hm,RepVs.mono ht hρ hr,hl⟩
theorem RepVs.mono {N N':Led} {ρ ρ':Rho} (ht:∀ a its n,(a,zaU its n)∈ N→(a,zaU its n)∈ N') (hρ:∀ (i:Nat) p,ρ[i]? =some p→ρ'[i]? =some p) :
 ∀ {vs:List MV} {xs:List Value},RepVs N ρ vs xs→RepVs N' ρ' vs xs
 | [],xs,h=>by exact h
 | v :: vs,xs,h=>by
  refine x2_3 h ?_;intro x r e h1 h2
  exact ⟨x,r,e,RepV.mono ht hρ h1,RepVs.mono ht hρ h2⟩
end
theorem FieldsRep.mono {C:Cfg} {N N':Led} {ρ ρ':Rho} (ht:∀ a its n,(a,zaU its n)∈ N→(a,zaU its n)∈ N') (hρ:∀ (i:Nat) p,ρ[i]? =some p→ρ'[i]? =some p) :
 ∀ {fs:List (Nat × MV)} {es:List DictEntry},FieldsRep C N ρ fs es→FieldsRep C N' ρ' fs es
 | [],es,h=>h
 | (a,v) :: fs,es,⟨e,r,h1,h2,h3,h4⟩=>⟨e,r,h1,h2,RepV.mono ht hρ h3,FieldsRep.mono ht hρ h4⟩
theorem RepVs.length {N:Led} {ρ:Rho} :∀ {vs:List MV} {xs:List Value},RepVs N ρ vs xs→xs.length=vs.length
 | [],xs,h=>by simp only [RepVs] at h;rw [h];rfl
 | v :: vs,xs,h=>by
  simp only [RepVs] at h
  refine x2_3 h ?_;(try clear h);rintro x r rfl _ h2
  simp [RepVs.length h2]
theorem RepVs.get {N:Led} {ρ:Rho} :∀ {vs:List MV} {xs:List Value} {i:Nat} {v:MV},RepVs N ρ vs xs→vs[i]? =some v→∃ x,xs[i]? =some x∧RepV N ρ v x
 | [],xs,i,v,h,hv=>by simp at hv
 | w :: vs,xs,i,v,h,hv=>by
  simp only [RepVs] at h
  refine x2_3 h ?_;(try clear h);rintro x r rfl h1 h2
  cases i with
  | zero=>simp at hv;subst hv;exact ⟨x,rfl,h1⟩
  | succ i=>simp at hv ⊢;exact RepVs.get h2 hv
theorem RepVs.append {N:Led} {ρ:Rho} :∀ {vs ws:List MV} {xs ys:List Value},RepVs N ρ vs xs→RepVs N ρ ws ys→RepVs N ρ (vs ++ ws) (xs ++ ys)
 | [],ws,xs,ys,h,h'=>by simp only [RepVs] at h;subst h;exact h'
 | v :: vs,ws,xs,ys,h,h'=>by
  simp only [RepVs] at h
  refine x2_3 h ?_;(try clear h);rintro x r rfl h1 h2
  exact ⟨x,r ++ ys,rfl,h1,RepVs.append h2 h'⟩
theorem RepVs.take {N:Led} {ρ:Rho} :∀ {vs:List MV} {xs:List Value} (k:Nat),RepVs N ρ vs xs→RepVs N ρ (vs.take k) (xs.take k)
 | vs,xs,0,h=>by rfl
 | [],xs,k + 1,h=>by simp only [RepVs] at h;subst h;rfl
 | v :: vs,xs,k + 1,h=>by
  simp only [RepVs] at h
  refine x2_3 h ?_;(try clear h);rintro x r rfl h1 h2
  exact ⟨x,_,rfl,h1,RepVs.take k h2⟩
theorem RepVs.drop {N:Led} {ρ:Rho} :∀ {vs:List MV} {xs:List Value} (k:Nat),RepVs N ρ vs xs→RepVs N ρ (vs.drop k) (xs.drop k)
 | vs,xs,0,h=>h
 | [],xs,k + 1,h=>by simp only [RepVs] at h;subst h;rfl
 | v :: vs,xs,k + 1,h=>by
  simp only [RepVs] at h
  refine x2_3 h ?_;(try clear h);rintro x r rfl h1 h2
  exact RepVs.drop k h2
theorem RepVs.set {N:Led} {ρ:Rho} {w:MV} {y:Value} (hw:RepV N ρ w y) :∀ {vs:List MV} {xs:List Value} (k:Nat),RepVs N ρ vs xs→RepVs N ρ (vs.set k w) (xs.set k y)
 | [],xs,k,h=>by simp only [RepVs] at h;subst h;rfl
 | v :: vs,xs,0,h=>by
  simp only [RepVs] at h
  refine x2_3 h ?_;(try clear h);rintro x r rfl h1 h2
  exact ⟨y,r,rfl,hw,h2⟩
 | v :: vs,xs,k + 1,h=>by
  simp only [RepVs] at h
  refine x2_3 h ?_;(try clear h);rintro x r rfl h1 h2
  exact ⟨x,_,rfl,h1,RepVs.set hw k h2⟩
noncomputable def zbS (ρ:Rho) (a:Addr) :Prop:=∃ (i:Nat) (p:Addr × Addr),ρ[i]? =some p∧(a=p.1∨a=p.2)
theorem HRel.key {C:Cfg} {h₀ h:Heap} {L:Addr} {N:Led} {ρ:Rho} {mh:zax} (H:HRel C h₀ N ρ mh) (hN:News h₀ L h N) {a:Addr} {o:Obj} (hm:(a,o)∈ N) (hi:zbS ρ a) :
 (∃ its n,o=listOf its n)∨(∃ c d,o=instObj c d)∨(∃ es n,o=dictOf es n):=by
 refine x2_2 hi ?_;(try clear hi);intro i p hp ha
 refine x1_2 (H.of hp) fun mo hmo hr=>?_
 cases mo with
 | list vs n=>
  refine x2_3 hr ?_;intro its k hr _ _
  have:=H.one i p vs n hmo hp
  have ha:a=p.1:=by rcases ha with h | h;exact h;rw [h,this]
  subst ha
  exact .inl ⟨_,_,zdz hN hm hr⟩
 | ro vs=>
  refine x1_3 hr ?_;rintro its ⟨o',ho',_⟩ _ _
  have:=H.oner i p vs hmo hp
  have ha:a=p.1:=by rcases ha with h | h;exact h;rw [h,this]
  subst ha
  have:=(hN _ hm).2.2
  dsimp only at this
  rw [this] at ho';exact nofO ho'
 | inst c fs=>
  refine x2_3 hr ?_;intro es n h1 h2 _
  rcases ha with rfl | rfl
  · exact .inr (.inl ⟨_,_,zdz hN hm h1⟩)
  · exact .inr (.inr ⟨_,_,zdz hN hm h2⟩)
theorem HRel.tup_off {C:Cfg} {h₀ h:Heap} {L:Addr} {N:Led} {ρ:Rho} {mh:zax} (H:HRel C h₀ N ρ mh) (hN:News h₀ L h N) {a:Addr} {its:Array Value} {n:Nat} (hm:(a,zaU its n)∈ N) :¬ zbS ρ a:=fun hi=>by
 rcases H.key hN hm hi with ⟨_,_,e⟩ | ⟨_,_,e⟩ | ⟨_,_,e⟩ <;> exact absurd (congrArg Obj.cls e) (by simp)
structure Ext (N:Led) (ρ:Rho) (mh:zax) (N':Led) (ρ':Rho) (mh':zax) :Prop where
 pre:∀ (i:Nat) p,ρ[i]? =some p→ρ'[i]? =some p
 keep:∀ p∈ N,¬ zbS ρ p.1→p∈ N'
 keys:∀ p∈ N,∃ o,(p.1,o)∈ N'
 fresh:∀ (i:Nat) q,ρ'[i]? =some q→ρ[i]? =none→∀ p∈ N,p.1≠q.1∧p.1≠q.2
 ver:∀ (i:Nat) vs n,mh[i]? =some (.list vs n)→∃ vs' n',mh'[i]? =some (.list vs' n')∧n≤n'∧(n=n'→vs=vs'∧∀ p∈ N,∀ q,ρ[i]? =some q→p.1=q.1→p∈ N')
 ro:∀ (i:Nat) vs,mh[i]? =some (.ro vs)→mh'[i]? =some (.ro vs)
 back:∀ (i:Nat) vs,mh'[i]? =some (.ro vs)→mh[i]? =some (.ro vs)
theorem Ext.refl (N:Led) (ρ:Rho) (mh:zax) :Ext N ρ mh N ρ mh where
 pre:=fun _ _ h=>h
 keep:=fun _ h _=>h
 keys:=fun p h=>⟨p.2,h⟩
 fresh:=fun i q h h'=>by rw [h] at h';exact noC Option.ctorIdx h' rfl
 ver:=fun i vs n h=>⟨vs,n,h,Nat.le_refl _,fun _=>⟨rfl,fun _ hp _ _ _=>hp⟩⟩
 ro:=fun _ _ h=>h
 back:=fun _ _ h=>h
theorem Ext.off {N N':Led} {ρ ρ':Rho} {mh mh':zax} (X:Ext N ρ mh N' ρ' mh') {p:Addr × Obj} (hp:p∈ N) (ho:¬ zbS ρ p.1) :¬ zbS ρ' p.1:=by
 rintro ⟨i,q,hq,ha⟩
 cases hi:ρ[i]? with
 | some q'=>
  have:=X.pre i q' hi
  rw [hq] at this
  obtain rfl:=Option.some.inj this
  exact ho ⟨i,q,hi,ha⟩
 | none=>
  have:=X.fresh i q hq hi p hp
  rcases ha with h | h
  · exact this.1 h
  · exact this.2 h
theorem Ext.trans {N N' N'':Led} {ρ ρ' ρ'':Rho} {mh mh' mh'':zax} (X:Ext N ρ mh N' ρ' mh') (Y:Ext N' ρ' mh' N'' ρ'' mh'') :Ext N ρ mh N'' ρ'' mh'' where
 pre:=fun i p h=>Y.pre i p (X.pre i p h)
 keep:=fun p hp ho=>Y.keep p (X.keep p hp ho) (X.off hp ho)
 keys:=fun p hp=>let ⟨o,ho⟩:=X.keys p hp;Y.keys (p.1,o) ho
 fresh:=fun i q hq hi p hp=>by
  cases h':ρ'[i]? with
  | some q'=>
   have:=Y.pre i q' h'
   rw [hq] at this
   obtain rfl:=Option.some.inj this
   exact X.fresh i q h' hi p hp
  | none=>
   refine x1_1 (X.keys p hp) fun o ho=>?_
   exact Y.fresh i q hq h' (p.1,o) ho
 ver:=fun i vs n h=>by
  refine x2_3 (X.ver i vs n h) fun vs' n' h1 l1 k1=>?_
  refine x2_3 (Y.ver i vs' n' h1) fun vs'' n'' h2 l2 k2=>?_
  refine ⟨vs'',n'',h2,Nat.le_trans l1 l2,fun e=>?_⟩
  obtain ⟨e1,e2⟩ :n=n'∧n'=n'':=⟨by lia,by lia⟩
  refine x0_2 (k1 e1) fun f1 f2=>?_
  refine x0_2 (k2 e2) fun g1 g2=>?_
  exact ⟨f1.trans g1,fun p hp q hq hpq=>g2 p (f2 p hp q hq hpq) q (X.pre i q hq) hpq⟩
 ro:=fun i vs h=>Y.ro i vs (X.ro i vs h)
 back:=fun i vs h=>X.back i vs (Y.back i vs h)
theorem Ext.tup {C:Cfg} {h₀ h:Heap} {L:Addr} {N N':Led} {ρ ρ':Rho} {mh mh':zax} (X:Ext N ρ mh N' ρ' mh') (H:HRel C h₀ N ρ mh) (hN:News h₀ L h N) (a:Addr) (its:Array Value) (n:Nat) (hm:(a,zaU its n)∈ N) :(a,zaU its n)∈ N':=
 X.keep _ hm (H.tup_off hN hm)
theorem Ext.rep {C:Cfg} {h₀ h:Heap} {L:Addr} {N N':Led} {ρ ρ':Rho} {mh mh':zax} (X:Ext N ρ mh N' ρ' mh') (H:HRel C h₀ N ρ mh) (hN:News h₀ L h N) {v:MV} {x:Value} (r:RepV N ρ v x) :RepV N' ρ' v x:=
 r.mono (X.tup H hN) X.pre
theorem Ext.reps {C:Cfg} {h₀ h:Heap} {L:Addr} {N N':Led} {ρ ρ':Rho} {mh mh':zax} (X:Ext N ρ mh N' ρ' mh') (H:HRel C h₀ N ρ mh) (hN:News h₀ L h N) {v:List MV} {x:List Value} (r:RepVs N ρ v x) :RepVs N' ρ' v x:=
 r.mono (X.tup H hN) X.pre
theorem HRel.more {C:Cfg} {h₀:Heap} {N N':Led} {ρ:Rho} {mh:zax} (H:HRel C h₀ N ρ mh) (hs:∀ p∈ N,p∈ N') :HRel C h₀ N' ρ mh where
 len:=H.len
 obj:=fun i o p h1 h2=>by
  have:=H.obj i o p h1 h2
  have ht:∀ a its n,(a,zaU its n)∈ N→(a,zaU its n)∈ N':=fun _ _ _ h=>hs _ h
  have hρ:∀ (i:Nat) p,ρ[i]? =some p→ρ[i]? =some p:=fun _ _ h=>h
  cases o with
  | list vs n=>(refine x2_3 this ?_;intro its k a b l);exact ⟨its,k,hs _ a,b.mono ht hρ,l⟩
  | ro vs=>(refine x1_3 this ?_;intro its a b l);exact ⟨its,a,b.mono ht hρ,l⟩
  | inst c fs=>(refine x2_3 this ?_;intro es n a b d);exact ⟨es,n,hs _ a,hs _ b,d.1.mono ht hρ,d.2⟩
 apart:=H.apart
 one:=H.one
 oner:=H.oner
theorem Ext.more {N N':Led} {ρ:Rho} {mh:zax} (hs:∀ p∈ N,p∈ N') :Ext N ρ mh N' ρ mh where
 pre:=fun _ _ h=>h
 keep:=fun p h _=>hs p h
 keys:=fun p h=>⟨p.2,hs p h⟩
 fresh:=fun i q h h'=>by rw [h] at h';exact noC Option.ctorIdx h' rfl
 ver:=fun i vs n h=>⟨vs,n,h,Nat.le_refl _,fun _=>⟨rfl,fun p hp _ _ _=>hs p hp⟩⟩
 ro:=fun _ _ h=>h
 back:=fun _ _ h=>h
structure Stat where
 prog:Program
 w:World
 K:Frag
 p:Program
 loose:List Str
 mean:ExcName→Option Value
 mg:Str→Option Value
 mb:Str→Option Value
structure Fram where
 A₀:Around
 A:Around
 base:Heap
 h₀:Heap
 outer:List Env
 fenv:Env
 L:Addr
structure Inv0 (C:Cfg) (S:Stat) (Φ:Fram) (m:Str→Option Value) (N:Led) (ρ:Rho) (mh:zax) (h:Heap) :Prop where
 B:Below Φ.A₀ Φ.base Φ.outer Φ.h₀
 hA:Φ.A.frames=some (Φ.fenv :: Φ.outer)
 hh:Φ.A.handled=none
 hf:Φ.fenv.frame=some Φ.L
 hk:Φ.fenv.scope.kind= .function
 F:Fr Φ.h₀ Φ.L h m
 X:S.K.In Φ.h₀
 NN:News Φ.h₀ Φ.L h N
 T:Top S.p S.loose S.mean S.mg S.mb Φ.h₀
 H:HRel C Φ.h₀ N ρ mh
section
variable {C:Cfg} {h₀ h h':Heap} {L:Addr} {N:Led} {ρ:Rho} {mh:zax} {m:Str→Option Value}
theorem HRel.known (H:HRel C h₀ N ρ mh) {a:Addr} (hi:zbS ρ a) :(∃ o,(a,o)∈ N)∨(∃ o,h₀.get? a=some o):=by
 refine x2_2 hi ?_;(try clear hi);intro i p hp ha
 refine x1_2 (H.of hp) fun mo hmo hr=>?_
 cases mo with
 | list vs n=>
  refine x2_3 hr ?_;(try clear hr);intro its k hr _ _
  have:=H.one i p vs n hmo hp
  have ha:a=p.1:=by rcases ha with h | h;exact h;rw [h,this]
  exact .inl ⟨_,ha ▸ hr⟩
 | ro vs=>
  refine x1_3 hr ?_;(try clear hr);rintro its ⟨o',ho',_⟩ _ _
  have:=H.oner i p vs hmo hp
  have ha:a=p.1:=by rcases ha with h | h;exact h;rw [h,this]
  exact .inr ⟨_,ha ▸ ho'⟩
 | inst c fs=>
  refine x2_3 hr ?_;(try clear hr);intro es n h1 h2 _
  rcases ha with rfl | rfl
  · exact .inl ⟨_,h1⟩
  · exact .inl ⟨_,h2⟩
theorem HRel.new_off (H:HRel C h₀ N ρ mh) {q:Addr} (h1:∀ p∈ N,p.1≠q) (h2:h₀.get? q=none) :¬ zbS ρ q:=fun hi=>by
 rcases H.known hi with ⟨o,ho⟩ | ⟨o,ho⟩
 · exact h1 _ ho rfl
 · rw [h2] at ho;exact nofO ho
set_option tactic.hygienic true in
theorem zbB {α:Type} {l:List α} {x:α} {i:Nat} {y:α} (h:(l ++ [x])[i]? =some y) :l[i]? =some y∨(i=l.length∧y=x):=by
 rw [List.getElem?_append] at h
 split at h
 · exact .inl h
 · rename_i hi
   have:i - l.length=0:=by
    cases hj:i - l.length with
    | zero=>rfl
    | succ k=>simp only [hj] at h;simp at h
   simp only [this] at h
   simp at h
   exact .inr ⟨by lia,h.symm⟩
theorem zeZ {α:Type} {l:List α} {x:α} {i:Nat} {y:α} (h:l[i]? =some y) :(l ++ [x])[i]? =some y:=by
 have hi:=(List.getElem?_eq_some_iff.mp h).1
 rw [List.getElem?_append_left hi];exact h
theorem snoc_new {α:Type} {l:List α} {x:α} :(l ++ [x])[l.length]? =some x:=by simp
theorem ObjRep.mono {p:Addr × Addr} {N':Led} {ρ':Rho} {o:MObj} (r:ObjRep C h₀ N ρ p o) (h1:∀ e∈ N,(e.1=p.1∨e.1=p.2)→e∈ N')
 (ht:∀ a its n,(a,zaU its n)∈ N→(a,zaU its n)∈ N') (hρ:∀ (i:Nat) p,ρ[i]? =some p→ρ'[i]? =some p) :ObjRep C h₀ N' ρ' p o:=by
 cases o with
 | list vs n=>(refine x2_3 r ?_;(try clear r);intro its k a b l);exact ⟨its,k,h1 _ a (.inl rfl),b.mono ht hρ,l⟩
 | ro vs=>(refine x1_3 r ?_;(try clear r);intro its a b l);exact ⟨its,a,b.mono ht hρ,l⟩
 | inst c fs=>(refine x2_3 r ?_;(try clear r);intro es n a b d);exact ⟨es,n,h1 _ a (.inl rfl),h1 _ b (.inr rfl),d.1.mono ht hρ,d.2⟩
theorem HRel.snoc (H:HRel C h₀ N ρ mh) {p:Addr × Addr} {o:MObj} {N':Led} (hs:∀ e∈ N,e∈ N') (ho:ObjRep C h₀ N' (ρ ++ [p]) p o)
 (h1:¬ zbS ρ p.1) (h2:¬ zbS ρ p.2) (hone:∀ vs n,o= .list vs n→p.2=p.1) (hro:∀ vs,o≠.ro vs) :HRel C h₀ N' (ρ ++ [p]) (mh ++ [o]) where
 len:=by simp [H.len]
 obj:=fun i o' q hi hq=>by
  rcases zbB hi with hi | ⟨rfl,rfl⟩
  · rcases zbB hq with hq | ⟨rfl,rfl⟩
    · exact (H.obj i o' q hi hq).mono (fun e he _=>hs e he) (fun _ _ _ h=>hs _ h) fun i p h=>zeZ h
    · have:=(List.getElem?_eq_some_iff.mp hi).1
      rw [← H.len] at this
      lia
  · rcases zbB hq with hq | ⟨_,rfl⟩
    · have:=(List.getElem?_eq_some_iff.mp hq).1
      simp only [H.len] at this
      lia
    · exact ho
 apart:=fun i j q r hi hj ne=>by
  rcases zbB hi with hi' | ⟨rfl,rfl⟩
  · rcases zbB hj with hj' | ⟨rfl,rfl⟩
    · exact H.apart i j q r hi' hj' ne
    · exact ⟨fun e=>h1 ⟨i,q,hi',.inl e.symm⟩,fun e=>h2 ⟨i,q,hi',.inl e.symm⟩,fun e=>h1 ⟨i,q,hi',.inr e.symm⟩,fun e=>h2 ⟨i,q,hi',.inr e.symm⟩⟩
  · rcases zbB hj with hj' | ⟨rfl,rfl⟩
    · exact ⟨fun e=>h1 ⟨j,r,hj',.inl e⟩,fun e=>h1 ⟨j,r,hj',.inr e⟩,fun e=>h2 ⟨j,r,hj',.inl e⟩,fun e=>h2 ⟨j,r,hj',.inr e⟩⟩
    · exact absurd rfl ne
 one:=fun i q vs n hi hq=>by
  rcases zbB hi with hi' | ⟨rfl,e⟩
  · rcases zbB hq with hq' | ⟨rfl,rfl⟩
    · exact H.one i q vs n hi' hq'
    · have:=(List.getElem?_eq_some_iff.mp hi').1
      simp only [← H.len] at this
      lia
  · rcases zbB hq with hq' | ⟨_,rfl⟩
    · have:=(List.getElem?_eq_some_iff.mp hq').1
      simp only [H.len] at this
      lia
    · exact hone vs n e.symm
 oner:=fun i q vs hi hq=>by
  rcases zbB hi with hi' | ⟨rfl,e⟩
  · rcases zbB hq with hq' | ⟨rfl,rfl⟩
    · exact H.oner i q vs hi' hq'
    · have:=(List.getElem?_eq_some_iff.mp hi').1
      rw [← H.len] at this
      lia
  · exact absurd e.symm (hro vs)
theorem Ext.snoc (N:Led) (ρ:Rho) (mh:zax) {p:Addr × Addr} {o:MObj} {N':Led} (hs:∀ e∈ N,e∈ N') (hf:∀ e∈ N,e.1≠p.1∧e.1≠p.2) (hro:∀ vs,o≠.ro vs) :Ext N ρ mh N' (ρ ++ [p]) (mh ++ [o]) where
 pre:=fun i q h=>zeZ h
 keep:=fun e he _=>hs e he
 keys:=fun e he=>⟨e.2,hs e he⟩
 fresh:=fun i q hq hn e he=>by
  rcases zbB hq with h | ⟨_,rfl⟩
  · rw [h] at hn;exact noC Option.ctorIdx hn rfl
  · exact hf e he
 ver:=fun i vs n h=>⟨vs,n,zeZ h,Nat.le_refl _,fun _=>⟨rfl,fun e he _ _ _=>hs e he⟩⟩
 ro:=fun i vs h=>zeZ h
 back:=fun i vs h=>by
  rcases zbB h with h | ⟨_,e⟩
  · exact h
  · exact absurd e.symm (hro vs)
theorem HRel.set (H:HRel C h₀ N ρ mh) (hN:News h₀ L h N) {i:Nat} {p:Addr × Addr} {o o':MObj} {d:Addr} {N':Led} (hi:mh[i]? =some o) (hp:ρ[i]? =some p) (hd:d=p.1∨d=p.2)
 (hs:∀ e∈ N,e.1≠d→e∈ N') (ho:ObjRep C h₀ N' ρ p o') (hone:∀ vs n,o'= .list vs n→p.2=p.1) (hro:∀ vs,o'≠.ro vs) :HRel C h₀ N' ρ (mh.set i o') where
 len:=by simp [H.len]
 obj:=fun j oj q hj hq=>by
  by_cases e:i=j
  · subst e
    rw [hp] at hq
    (refine sy1 (Option.some.inj hq) ?_;clear hq;intro zq;subst zq)
    rw [List.getElem?_set_self (List.getElem?_eq_some_iff.mp hi).1] at hj
    (refine sy1 (Option.some.inj hj) ?_;clear hj;intro zq;subst zq)
    exact ho
  · rw [List.getElem?_set_ne e] at hj
    have D:=H.apart i j p q hp hq e
    refine (H.obj j oj q hj hq).mono (fun e he hk=>hs e he ?_) (fun a its n hm=>hs _ hm fun q'=>H.tup_off hN hm ⟨i,p,hp,?_⟩) fun _ _ h=>h
    · intro q'
      rcases hk with k | k <;> rcases hd with z | z <;> (simp only [k,z] at q')
      · exact D.1 q'.symm
      · exact D.2.2.1 q'.symm
      · exact D.2.1 q'.symm
      · exact D.2.2.2 q'.symm
    · show a=p.1∨a=p.2
      have q'':a=d:=q'
      rw [q''];exact hd
 apart:=H.apart
 one:=fun j q vs n hj hq=>by
  by_cases e:i=j
  · subst e
    rw [hp] at hq
    (refine sy1 (Option.some.inj hq) ?_;clear hq;intro zq;subst zq)
    rw [List.getElem?_set_self (List.getElem?_eq_some_iff.mp hi).1] at hj
    exact hone vs n (Option.some.inj hj)
  · rw [List.getElem?_set_ne e] at hj
    exact H.one j q vs n hj hq
 oner:=fun j q vs hj hq=>by
  by_cases e:i=j
  · subst e
    simp only [List.getElem?_set_self (List.getElem?_eq_some_iff.mp hi).1] at hj
    exact absurd (Option.some.inj hj) (hro vs)
  · rw [List.getElem?_set_ne e] at hj
    exact H.oner j q vs hj hq
theorem Ext.set (H:HRel C h₀ N ρ mh) {i:Nat} {p:Addr × Addr} {o o':MObj} {d:Addr} {N':Led} (hi:mh[i]? =some o) (hp:ρ[i]? =some p) (hd:d=p.1∨d=p.2)
 (hs:∀ e∈ N,e.1≠d→e∈ N') (hk:∃ x,(d,x)∈ N') (hv:∀ vs n,o= .list vs n→∃ vs' n',o'= .list vs' n'∧n < n') (hro:∀ vs,o≠.ro vs) (hro':∀ vs,o'≠.ro vs) :Ext N ρ mh N' ρ (mh.set i o') where
 pre:=fun _ _ h=>h
 keep:=fun e he ho=>hs e he fun q=>ho ⟨i,p,hp,by rw [q];exact hd⟩
 keys:=fun e he=>by
  by_cases q:e.1=d
  · rw [q];exact hk
  · exact ⟨e.2,hs e he q⟩
 fresh:=fun j q h h'=>by rw [h] at h';exact noC Option.ctorIdx h' rfl
 ver:=fun j vs n hj=>by
  by_cases e:i=j
  · subst e
    rw [hi] at hj
    refine x2_2 (hv vs n (Option.some.inj hj)) fun vs' n' e' l=>?_
    refine ⟨vs',n',?_,Nat.le_of_lt l,fun q=>by lia⟩
    rw [List.getElem?_set_self (List.getElem?_eq_some_iff.mp hi).1,e']
  · refine ⟨vs,n,by rw [List.getElem?_set_ne e];exact hj,Nat.le_refl _,fun _=>⟨rfl,fun f hf q hq hfq=>hs f hf ?_⟩⟩
    have D:=H.apart i j p q hp hq e
    intro z
    rw [hfq] at z
    rcases hd with y | y <;> simp only [y] at z
    · exact D.1 z.symm
    · exact D.2.2.1 z.symm
 ro:=fun j vs hj=>by
  by_cases e:i=j
  · subst e
    rw [hi] at hj
    exact absurd (Option.some.inj hj) (hro vs)
  · rw [List.getElem?_set_ne e];exact hj
 back:=fun j vs hj=>by
  by_cases e:i=j
  · subst e
    rw [List.getElem?_set_self (List.getElem?_eq_some_iff.mp hi).1] at hj
    exact absurd (Option.some.inj hj) (hro' vs)
  · rw [List.getElem?_set_ne e] at hj;exact hj
noncomputable def front (d:Addr) (o:Obj) (N:Led) :Led:=(d,o) :: N.filter fun e=>e.1 != d
theorem front_mem {d:Addr} {o:Obj} {N:Led} :∀ e∈ N,e.1≠d→e∈ front d o N:=fun e he q=> .tail _ (List.mem_filter.mpr ⟨he,by simpa using q⟩)
theorem front_news (hN:News h₀ L h N) {d:Addr} {o:Obj} (hm:(d,o)∈ N) :News h₀ L h (front d o N):=fun e he=>by
 rcases List.mem_cons.mp he with rfl | he
 · exact hN _ hm
 · exact hN _ (List.mem_filter.mp he).1
theorem front_upd {d:Addr} {o o':Obj} {N:Led} :Upd d o o' (front d o N) (front d o' N):=Upd.head fun e he=>by
 have:=(List.mem_filter.mp he).2
 simpa using this
end
noncomputable def Flies0 (C:Cfg) (Φ:Fram) (m:Str→Option Value) (N:Led) (ρ:Rho) (mh mh':zax) (e:Addr) (h':Heap) :Prop:=
 ∃ N' ρ' g₂,RaisedN Φ.base (Φ.fenv :: Φ.outer) e (.ref (C.excA 0)) N' h'∧Fr Φ.h₀ Φ.L g₂ m∧g₂.UpToSlots h'∧HRel C Φ.h₀ N' ρ' mh'∧Ext N ρ mh N' ρ' mh'
noncomputable abbrev zaY (α:Type):=(α→Shared→Prop)→(Value→Shared→Prop)→Prop
noncomputable def Sim0 {α β:Type} (C:Cfg) (S:Stat) (Φ:Fram) (m:Str→Option Value) (N:Led) (ρ:Rho) (mh:zax) (s:Shared) (R:Led→Rho→β→α→Prop) (W:zaY α) (r:Res β) :Prop:=
 match r with
 | .ok b mh'=>∀ Q E,(∀ a h' tk' N' ρ',Inv0 C S Φ m N' ρ' mh' h'→Ext N ρ mh N' ρ' mh'→R N' ρ' b a→Q a {s with heap:=h',toks:=tk'})→W Q E
 | .exc mh'=>∀ Q E,(∀ e h' tk',Flies0 C Φ m N ρ mh mh' e h'→E (.ref e) {s with heap:=h',toks:=tk'})→W Q E
 | .stuck=>True
section
variable {C:Cfg} {S:Stat} {Φ:Fram} {m:Str→Option Value} {N:Led} {ρ:Rho} {mh:zax} {s:Shared} {α β γ δ:Type}
noncomputable abbrev Stat.M (S:Stat) :Model:=model S.prog S.w
theorem Sim0.seq {R1:Led→Rho→β→α→Prop} {R2:Led→Rho→γ→δ→Prop} {t1:Sem α} {r1:Res β} {g:β→zax→Res γ} {W:zaY δ}
 (W2:α→Shared→zaY δ)
 (h1:Sim0 C S Φ m N ρ mh s R1 (fun Q E=>wpAny S.M Φ.A t1 Q E s) r1)
 (comb:∀ Q E,wpAny S.M Φ.A t1 (fun a s₁=>W2 a s₁ Q E) E s→W Q E)
 (h2:∀ b mh' a h' tk' N' ρ',Inv0 C S Φ m N' ρ' mh' h'→Ext N ρ mh N' ρ' mh'→R1 N' ρ' b a→Sim0 C S Φ m N' ρ' mh' {s with heap:=h',toks:=tk'} R2 (W2 a {s with heap:=h',toks:=tk'}) (g b mh')) :
 Sim0 C S Φ m N ρ mh s R2 W (r1.bind g):=by
 cases r1 with
 | stuck=>trivial
 | exc mh1=>exact fun Q E hE=>comb Q E (h1 _ _ hE)
 | ok b mh1=>
  show Sim0 C S Φ m N ρ mh s R2 W (g b mh1)
  cases hg:g b mh1 with
  | stuck=>trivial
  | ok c mh2=>
   intro Q E hQ
   refine comb Q E (h1 _ _ fun a h' tk' N' ρ' I X r=>?_)
   have:=h2 b mh1 a h' tk' N' ρ' I X r
   simp only [hg] at this
   exact this Q E fun a' h'' tk'' N'' ρ'' I' X' r'=>hQ a' h'' tk'' N'' ρ'' I' (X.trans X') r'
  | exc mh2=>
   intro Q E hE
   refine comb Q E (h1 _ _ fun a h' tk' N' ρ' I X r=>?_)
   have:=h2 b mh1 a h' tk' N' ρ' I X r
   simp only [hg] at this
   exact this Q E fun e h'' tk'' ⟨N'',ρ'',g₂,a1,a2,a3,a4,a5⟩=>hE e h'' tk'' ⟨N'',ρ'',g₂,a1,a2,a3,a4,X.trans a5⟩
theorem Sim0.done {R:Led→Rho→β→α→Prop} {W:zaY α} {b:β} {a:α} {tk:Nat} (I:Inv0 C S Φ m N ρ mh s.heap) (r:R N ρ b a) (c:∀ Q E,Q a {s with toks:=tk}→W Q E) :Sim0 C S Φ m N ρ mh s R W (.ok b mh):=
 fun Q E hQ=>c Q E (hQ a s.heap tk N ρ I (Ext.refl _ _ _) r)
noncomputable abbrev wp_ (S:Stat) (Φ:Fram) (s:Shared) (t:Sem α) :zaY α:=fun Q E=>wpAny S.M Φ.A t Q E s
noncomputable abbrev RV:Led→Rho→MV→Value→Prop:=RepV
noncomputable abbrev RB:Led→Rho→Bool→Bool→Prop:=fun _ _ a b=>a=b
theorem RepV.none_ {x:Value} (h:RepV N ρ .none x) :x= .none:=by simpa only [RepV] using h
theorem RepV.bool_ {b:Bool} {x:Value} (h:RepV N ρ (.bool b) x) :x= .bool b:=by simpa only [RepV] using h
theorem RepV.int_ {i:Int} {x:Value} (h:RepV N ρ (.int i) x) :∃ t,x= .int i t:=by simpa only [RepV] using h
theorem RepV.str_ {i:Str} {x:Value} (h:RepV N ρ (.str i) x) :∃ t,x= .str i t:=by simpa only [RepV] using h
theorem RepV.ref_ {i:Nat} {x:Value} (h:RepV N ρ (.ref i) x) :∃ p:Addr × Addr,ρ[i]? =some p∧x= .ref p.1:=by simpa only [RepV] using h
theorem RepV.tup_ {vs:List MV} {x:Value} (h:RepV N ρ (.tup vs) x) :∃ a its n,x= .ref a∧(a,zaU (List.toArray its) n)∈ N∧RepVs N ρ vs its∧its.length≤4096:=by simpa only [RepV] using h
theorem zbz {i:Int} {t:Tok} :RepV N ρ (.int i) (.int i t):=by exact ⟨t,rfl⟩
theorem zbJ {b:Bool} :RepV N ρ (.bool b) (.bool b):=by rfl
theorem repNone:RepV N ρ .none .none:=by rfl
theorem repStr {i:Str} {t:Tok} :RepV N ρ (.str i) (.str i t):=by exact ⟨t,rfl⟩
theorem repRef {i:Nat} {p:Addr × Addr} (h:ρ[i]? =some p) :RepV N ρ (.ref i) (.ref p.1):=by exact ⟨p,h,rfl⟩
theorem repTup {vs:List MV} {a:Addr} {its:List Value} {n:Nat} (h:(a,zaU its.toArray n)∈ N) (r:RepVs N ρ vs its) (l:its.length≤4096) :RepV N ρ (.tup vs) (.ref a):=by
 exact ⟨a,its,n,rfl,h,r,l⟩
theorem Inv0.isTup {mh:zax} {h:Heap} (I:Inv0 C S Φ m N ρ mh h) {a:Addr} {its:Array Value} {n:Nat} (hm:(a,zaU its n)∈ N) :IsTup h a its:=⟨_,(I.NN _ hm).1,rfl,n,rfl⟩
theorem Inv0.isList {mh:zax} {h:Heap} (I:Inv0 C S Φ m N ρ mh h) {i:Nat} {vs:List MV} {p:Addr × Addr} (hp:ρ[i]? =some p) (hv:items? mh i=some vs) :∃ its,h.IsList p.1 (List.toArray its)∧RepVs N ρ vs its∧its.length≤4096:=by
 refine x1_2 (I.H.of hp) fun o ho hr=>?_
 unfold items? at hv
 rw [ho] at hv
 cases o with
 | list ws n=>
  dsimp only at hv
  (refine sy1 (Option.some.inj hv) ?_;clear hv;intro zq;subst zq)
  refine x2_3 hr ?_;(try clear hr);intro its k a b l
  exact ⟨its,⟨_,(I.NN _ a).1,rfl,k,rfl⟩,b,l⟩
 | ro ws=>
  dsimp only at hv
  (refine sy1 (Option.some.inj hv) ?_;clear hv;intro zq;subst zq)
  refine x1_3 hr ?_;(try clear hr);rintro its ⟨o,a1,a2,n,a3⟩ b l
  exact ⟨its,⟨o,I.F.keep _ _ a1,a2,n,a3⟩,b,l⟩
 | inst c fs=>exact nofO hv
theorem size_of {its:List Value} (h:its.length≤4096) :((its.toArray.size:Nat) :Int) < 2 ^ 63:=by
 rw [List.size_toArray];lia
theorem line_of {its:List Value} (h:its.length≤4096) :its.toArray.size≤sizeLine:=by
 rw [List.size_toArray,sizeLine_eq];lia
end
section
variable {C:Cfg} {S:Stat} {Φ:Fram} {m:Str→Option Value} {N:Led} {ρ:Rho} {mh:zax} {s:Shared} {α β γ δ:Type}
theorem sim0_truthy (I:Inv0 C S Φ m N ρ mh s.heap) {v:MV} {x:Value} (r:RepV N ρ v x) {b:Bool} (hb:zbI mh v=some b) :
 Sim0 C S Φ m N ρ mh s RB (wp_ S Φ s (truthy x)) (.ok b mh):=by
 cases v with
 | none=>rw [r.none_];simp only [zbI] at hb;(refine sy1 (Option.some.inj hb) ?_;clear hb;intro zq;subst zq);exact Sim0.done (tk:=s.toks) I rfl fun Q E h=>truthy_none h
 | bool c=>rw [r.bool_];simp only [zbI] at hb;(refine sy1 (Option.some.inj hb) ?_;clear hb;intro zq;subst zq);exact Sim0.done (tk:=s.toks) I rfl fun Q E h=>wpAny_truthy_bool h
 | int i=>
  refine x1_1 r.int_ ?_;rintro t rfl
  simp only [zbI] at hb;(refine sy1 (Option.some.inj hb) ?_;clear hb;intro zq;subst zq)
  refine Sim0.done (tk:=s.toks) I rfl fun Q E h=>truthy_int ?_
  have e:(i != 0)=decide (i≠0):=by
   by_cases z:i=0 <;> simp [z]
  rw [e];exact h
 | str x=>trivial
 | tup vs=>
  refine x3_4 r.tup_ ?_;rintro a its n rfl hm hr hl
  simp only [zbI] at hb;(refine sy1 (Option.some.inj hb) ?_;clear hb;intro zq;subst zq)
  refine Sim0.done (tk:=s.toks + 1 + 1) I rfl fun Q E h=>truthy_tuple (I.isTup hm) (size_of hl) ?_
  have e:(!its.toArray.isEmpty)= !vs.isEmpty:=by
   cases vs with
   | nil=>simp only [RepVs] at hr;subst hr;rfl
   | cons v vs=>simp only [RepVs] at hr;(refine x2_2 hr ?_;(try clear hr);rintro x r rfl _);simp
  simp only [e];exact h
 | ref i=>
  refine x1_2 r.ref_ ?_;rintro p hp rfl
  simp only [zbI] at hb
  cases hv:items? mh i with
  | none=>rw [hv] at hb;exact noC Option.ctorIdx hb rfl
  | some vs=>
   rw [hv] at hb
   cases hb
   refine x1_3 (I.isList hp hv) fun its hL hr hl=>?_
   refine Sim0.done (tk:=s.toks + 1 + 1) I rfl fun Q E h=>wpAny_truthy_list hL (size_of hl) ?_
   have e:(!its.toArray.isEmpty)= !vs.isEmpty:=by
    cases vs with
    | nil=>simp only [RepVs] at hr;subst hr;rfl
    | cons v vs=>simp only [RepVs] at hr;(refine x2_2 hr ?_;(try clear hr);rintro x r rfl _);simp
   simp only [e];exact h
set_option genCtorIdx true in
inductive OpIs:Operator→MOp→Prop where
 | add:OpIs .Add .add
 | sub:OpIs .Sub .sub
 | mul:OpIs .Mult .mul
 | fdiv:OpIs .FloorDiv .fdiv
 | mod:OpIs .Mod .mod
 | pow:OpIs .Pow .pow
theorem opIs {op:Operator} {o:MOp} (h:opOf op=some o) :OpIs op o:=by
 cases op <;> first | exact nofO h | (cases h;constructor)
theorem Sim0.onIf {W:zaY α} {R:Led→Rho→β→α→Prop} {c:Prop} [Decidable c] {r:Res β} (h:c→Sim0 C S Φ m N ρ mh s R W r) :Sim0 C S Φ m N ρ mh s R W (if c then r else .stuck):=by
 by_cases q:c
 · rw [if_pos q];exact h q
 · rw [if_neg q];trivial
theorem Sim0.int2 {W:zaY α} {R:Led→Rho→MV→α→Prop} {v w:MV} {f:Int→Int→Res MV} (h:∀ i j,v= .int i→w= .int j→Sim0 C S Φ m N ρ mh s R W (f i j)) :Sim0 C S Φ m N ρ mh s R W (Mine.int2 v w f):=by
 cases v with
 | int i=>
  cases w with
  | int j=>exact h i j rfl rfl
  | _=>trivial
 | _=>trivial
theorem Sim0.arg1 {W:zaY α} {R:Led→Rho→MV→α→Prop} {vs:List MV} {f:MV→Res MV} (h:∀ v,vs= [v]→Sim0 C S Φ m N ρ mh s R W (f v)) :Sim0 C S Φ m N ρ mh s R W (Mine.arg1 vs f):=by
 cases vs with
 | nil=>trivial
 | cons v r=>
  cases r with
  | nil=>exact h v rfl
  | cons=>trivial
theorem Sim0.onItems {W:zaY α} {R:Led→Rho→MV→α→Prop} {h:zax} {v:MV} {f:List MV→Res MV} (q:∀ a vs,v= .ref a→items? h a=some vs→Sim0 C S Φ m N ρ mh s R W (f vs)) :Sim0 C S Φ m N ρ mh s R W (Mine.onItems h v f):=by
 cases v with
 | ref a=>
  show Sim0 C S Φ m N ρ mh s R W (match items? h a with | some vs=>f vs | none=> .stuck)
  cases e:items? h a with
  | none=>trivial
  | some vs=>exact q a vs rfl e
 | _=>trivial
theorem mulOk {a b:Int} (h:Short a b) :IntMulOk a b:=by
 rcases h with h | h
 · exact IntMulOk.of_left (intBits_le_64 (by lia) (by lia))
 · exact IntMulOk.of_right (intBits_le_64 (by lia) (by lia))
theorem bits7 {a:Int} (h0:0≤a) (h:a≤64) :Builtin.Int.intBits a≤7:=by
 unfold Builtin.Int.intBits
 split
 · exact Nat.zero_le _
 · have:a.natAbs.log2 < 7:=by
    rcases Nat.eq_zero_or_pos a.natAbs with h0 | hp
    · rw [h0];decide
    · exact (Nat.log2_lt (Nat.ne_of_gt hp)).mpr (by lia)
   lia
theorem noPylong {x y:Int} (h0:0 < y) (h:y < 18446744073709551616) :Builtin.divisionGoesByPylong x y=false:=by
 have hb:y.natAbs.log2 < 64:=(Nat.log2_lt (by lia)).mpr (by lia)
 have hd:(if (y == 0)=true then 0 else y.natAbs.log2 / 30 + 1)≤3:=by split <;> lia
 unfold Builtin.divisionGoesByPylong
 dsimp only
 simp only [decide_eq_false (by lia:¬ (if (y == 0)=true then 0 else y.natAbs.log2 / 30 + 1) > 300)]
 rfl
theorem sim0_int (I:Inv0 C S Φ m N ρ mh s.heap) {op:Operator} {o:MOp} (ho:opOf op=some o) {i j:Int} {t u:Tok} :
 Sim0 C S Φ m N ρ mh s RV (wp_ S Φ s (binaryOp op (.int i t) (.int j u))) (binV o (.int i) (.int j) mh):=by
 cases opIs ho
 · exact Sim0.done I zbz fun Q E h=>add_int h
 · exact Sim0.done I zbz fun Q E h=>sub_int h
 · refine Sim0.onIf fun hs=>?_
   · exact Sim0.done I zbz fun Q E h=>mul_int h (mulOk hs)
 · refine Sim0.onIf fun hj=>?_
   · refine Sim0.done (tk:=s.toks + 1) (a:= .int (i / j) s.toks) I zbz fun Q E h=>floordiv_int (by lia) ?_ (.inl (noPylong hj.1 hj.2))
     rw [show i.fdiv j=i / j from Int.fdiv_eq_ediv_of_nonneg _ (by lia)]
     exact h
 · refine Sim0.onIf fun hj=>?_
   · refine Sim0.done (tk:=s.toks + 1) (a:= .int (i % j) s.toks) I zbz fun Q E h=>mod_int' (by lia) ?_
     rw [show i.fmod j=i % j from Int.fmod_eq_emod_of_nonneg _ (by lia)]
     exact h
 · refine Sim0.onIf fun hj=>?_
   · refine Sim0.done I zbz fun Q E h=>pow_int hj.1 ?_ h
     have h7:=bits7 hj.2.2.1 hj.2.2.2
     have h8:(Builtin.Int.intBits i:Int) * j≤7 * 64:=Int.mul_le_mul (by lia) hj.2.1 hj.1 (by decide)
     lia
theorem sim0_neg (I:Inv0 C S Φ m N ρ mh s.heap) {i:Int} {t:Tok} :Sim0 C S Φ m N ρ mh s RV (wp_ S Φ s (unaryOp .USub (.int i t))) (.ok (.int (-i)) mh):=
 Sim0.done I zbz fun Q E h=>neg_int h
end
section
variable {C:Cfg} {S:Stat} {Φ:Fram} {m:Str→Option Value} {N:Led} {ρ:Rho} {mh:zax} {s:Shared} {α β γ δ:Type}
theorem Inv0.fresh_off {h h':Heap} (I:Inv0 C S Φ m N ρ mh h) {q:Addr} {o:Obj} (NN':News Φ.h₀ Φ.L h' ((q,o) :: N)) (l:∀ p∈ N,p.1≠q) :¬ zbS ρ q:=
 I.H.new_off l (NN' _ (.head _)).2.2
theorem Inv0.more {h h':Heap} (I:Inv0 C S Φ m N ρ mh h) {N':Led} (F':Fr Φ.h₀ Φ.L h' m) (NN':News Φ.h₀ Φ.L h' N') (hs:∀ p∈ N,p∈ N') :Inv0 C S Φ m N' ρ mh h':=
 ⟨I.B,I.hA,I.hh,I.hf,I.hk,F',I.X,NN',I.T,I.H.more hs⟩
theorem Inv0.pushList {h h':Heap} (I:Inv0 C S Φ m N ρ mh h) {q:Addr} {its:List Value} {n:Nat} {vs:List MV} (F':Fr Φ.h₀ Φ.L h' m) (NN':News Φ.h₀ Φ.L h' ((q,listOf its.toArray n) :: N))
 (l:∀ p∈ N,p.1≠q) (r:RepVs N ρ vs its) (hl:its.length≤4096) :
 Inv0 C S Φ m ((q,listOf its.toArray n) :: N) (ρ ++ [(q,q)]) (mh ++ [.list vs 0]) h'∧Ext N ρ mh ((q,listOf its.toArray n) :: N) (ρ ++ [(q,q)]) (mh ++ [.list vs 0])∧
  RepV ((q,listOf its.toArray n) :: N) (ρ ++ [(q,q)]) (.ref mh.length) (.ref q):=by
 have off:=I.fresh_off NN' l
 refine ⟨⟨I.B,I.hA,I.hh,I.hf,I.hk,F',I.X,NN',I.T,I.H.snoc (fun e he=> .tail _ he) ?_ off off (fun _ _ _=>rfl) (fun _ e=>by exact noC MObj.ctorIdx e rfl)⟩,Ext.snoc _ _ _ (fun e he=> .tail _ he) (fun e he=>⟨l e he,l e he⟩) (fun _ e=>by exact noC MObj.ctorIdx e rfl),?_⟩
 · exact ⟨its,n,.head _,r.mono (fun _ _ _ h=> .tail _ h) (fun i p h=>zeZ h),hl⟩
 · exact repRef (p:=(q,q)) (by rw [← I.H.len];exact snoc_new)
theorem Inv0.pushTup {h h':Heap} (I:Inv0 C S Φ m N ρ mh h) {q:Addr} {its:List Value} {n:Nat} {vs:List MV} (F':Fr Φ.h₀ Φ.L h' m) (NN':News Φ.h₀ Φ.L h' ((q,zaU its.toArray n) :: N))
 (r:RepVs N ρ vs its) (hl:its.length≤4096) :
 Inv0 C S Φ m ((q,zaU its.toArray n) :: N) ρ mh h'∧Ext N ρ mh ((q,zaU its.toArray n) :: N) ρ mh∧RepV ((q,zaU its.toArray n) :: N) ρ (.tup vs) (.ref q):=
 ⟨I.more F' NN' fun e he=> .tail _ he,Ext.more fun e he=> .tail _ he,repTup (.head _) (r.mono (fun _ _ _ h=> .tail _ h) fun _ _ h=>h) hl⟩
theorem Inv0.below {h:Heap} (I:Inv0 C S Φ m N ρ mh h) :∀ p∈ N,p.1≠h.objs.size:=fun p hp=>Nat.ne_of_lt (Heap.lt_size (I.NN p hp).1)
theorem Sim0.list {W:zaY Value} {vs:List MV} {its:List Value} (I:Inv0 C S Φ m N ρ mh s.heap) (r:RepVs N ρ vs its) (hl:its.length≤4096)
 (c:∀ Q E,(∀ q n h' tk,Fr Φ.h₀ Φ.L h' m→News Φ.h₀ Φ.L h' ((q,listOf its.toArray n) :: N)→(∀ p∈ N,p.1≠q)→Q (.ref q) {s with heap:=h',toks:=tk})→W Q E) :Sim0 C S Φ m N ρ mh s RV W (zaR vs mh):=by
 unfold zaR
 rw [if_pos (by rw [← r.length];exact hl)]
 intro Q E hQ
 refine c Q E fun q n h' tk F' N' l=>?_
 refine x0_3 (I.pushList F' N' l r hl) fun I' X r'=>?_
 exact hQ _ _ _ _ _ I' X r'
theorem Sim0.tuple {W:zaY Value} {vs:List MV} {its:List Value} (I:Inv0 C S Φ m N ρ mh s.heap) (r:RepVs N ρ vs its) (hl:its.length≤4096)
 (c:∀ Q E,(∀ q n h' tk,Fr Φ.h₀ Φ.L h' m→News Φ.h₀ Φ.L h' ((q,zaU its.toArray n) :: N)→Q (.ref q) {s with heap:=h',toks:=tk})→W Q E) :Sim0 C S Φ m N ρ mh s RV W (.ok (.tup vs) mh):=by
 intro Q E hQ
 refine c Q E fun q n h' tk F' N'=>?_
 refine x0_3 (I.pushTup F' N' r hl) fun I' X r'=>?_
 exact hQ _ _ _ _ _ I' X r'
theorem line4096 {n:Nat} (h:n≤4096) :n≤sizeLine:=by rw [sizeLine_eq];lia
theorem mkList_len {vs:List MV} (h:¬ vs.length≤4096) :zaR vs mh= .stuck:=by unfold zaR;rw [if_neg h]
theorem mkTup_len {vs:List MV} (h:¬ vs.length≤4096) :mkTup vs mh= .stuck:=by unfold mkTup;rw [if_neg h]
theorem sim0_newList (I:Inv0 C S Φ m N ρ mh s.heap) {vs:List MV} {its:List Value} (r:RepVs N ρ vs its) :Sim0 C S Φ m N ρ mh s RV (wp_ S Φ s (newList its)) (zaR vs mh):=by
 by_cases hl:vs.length≤4096
 · have hl':its.length≤4096:=by rw [r.length];exact hl
   exact Sim0.list I r hl' fun Q E h=>newList_K I.F I.NN (fun q h' F' N' l=>h q 0 h' s.toks F' N' fun p hp=>Nat.ne_of_lt (l p hp)) (line4096 hl')
 · rw [mkList_len hl];trivial
theorem sim0_newTuple (I:Inv0 C S Φ m N ρ mh s.heap) {vs:List MV} {its:List Value} (r:RepVs N ρ vs its) :Sim0 C S Φ m N ρ mh s RV (wp_ S Φ s (newTuple its)) (mkTup vs mh):=by
 by_cases hl:vs.length≤4096
 · have hl':its.length≤4096:=by rw [r.length];exact hl
   unfold mkTup
   rw [if_pos hl]
   exact Sim0.tuple I r hl' fun Q E h=>newTuple_N I.F I.NN (fun h' F' N'=>h _ 0 h' s.toks F' N') (line4096 hl')
 · rw [mkTup_len hl];trivial
theorem sim0_addRef (I:Inv0 C S Φ m N ρ mh s.heap) {v w:MV} {x y:Value} (h1:RepV N ρ v x) (h2:RepV N ρ w y) :
 Sim0 C S Φ m N ρ mh s RV (wp_ S Φ s (binaryOp .Add x y)) (onItems mh v fun vs=>onItems mh w fun ws=>zaR (vs ++ ws) mh):=by
 refine Sim0.onItems fun _ vs e hv=>Sim0.onItems fun _ ws e' hw=>?_
 subst e e'
 refine x1_2 h1.ref_ ?_;rintro p hp rfl
 refine x1_2 h2.ref_ ?_;rintro q hq rfl
 refine x1_3 (I.isList hp hv) fun its L1 r1 l1=>?_
 refine x1_3 (I.isList hq hw) fun jts L2 r2 l2=>?_
 by_cases hl:(vs ++ ws).length≤4096
 · have r:=r1.append r2
   have hl':(its ++ jts).length≤4096:=by rw [r.length];exact hl
   exact Sim0.list I r hl' fun Q E h=>add_arrays I.F I.NN L1 L2 (fun h' F' N'=>h _ 0 h' s.toks F' N' I.below) (by
    rw [List.length_append] at hl'
    exact line4096 hl')
 · rw [mkList_len hl];trivial
theorem sim0_addTup (I:Inv0 C S Φ m N ρ mh s.heap) {vs ws:List MV} {x y:Value} (hx:RepV N ρ (.tup vs) x) (hy:RepV N ρ (.tup ws) y) :
 Sim0 C S Φ m N ρ mh s RV (wp_ S Φ s (binaryOp .Add x y)) (binV .add (.tup vs) (.tup ws) mh):=by
 refine x3_4 hx.tup_ ?_;rintro a its n rfl m1 r1 l1
 refine x3_4 hy.tup_ ?_;rintro b jts k rfl m2 r2 l2
 show Sim0 C S Φ m N ρ mh s RV _ (mkTup (vs ++ ws) mh)
 by_cases hl:(vs ++ ws).length≤4096
 · have r:=r1.append r2
   have hl':(its ++ jts).length≤4096:=by rw [r.length];exact hl
   unfold mkTup
   rw [if_pos hl]
   intro Q E hQ
   refine add_tuples I.F I.NN (I.isTup m1) (I.isTup m2) (fun e=>?_) (fun _ e=>?_) (fun _ _ h' F' N'=>?_) (by rw [List.length_append] at hl';exact line4096 hl')
   · subst e
     cases vs with
     | nil=>exact hQ _ s.heap s.toks N ρ I (Ext.refl _ _ _) hy
     | cons v vs=>simp [RepVs] at r1
   · subst e
     cases ws with
     | nil=>exact hQ _ s.heap s.toks N ρ I (Ext.refl _ _ _) (by rw [List.append_nil];exact hx)
     | cons v vs=>simp [RepVs] at r2
   · refine x0_3 (I.pushTup F' N' r hl') fun I' X r'=>?_
     exact hQ _ _ s.toks _ _ I' X r'
 · rw [mkTup_len hl];trivial
theorem sim0_bin (I:Inv0 C S Φ m N ρ mh s.heap) {op:Operator} {o:MOp} (ho:opOf op=some o) {v w:MV} {x y:Value} (hx:RepV N ρ v x) (hy:RepV N ρ w y) :
 Sim0 C S Φ m N ρ mh s RV (wp_ S Φ s (binaryOp op x y)) (binV o v w mh):=by
 have onInts:∀ {f:Int→Int→Res MV},(∀ i j,f i j=binV o (.int i) (.int j) mh)→Sim0 C S Φ m N ρ mh s RV (wp_ S Φ s (binaryOp op x y)) (int2 v w f):=fun e=>Sim0.int2 fun i j e1 e2=>by
  subst e1 e2
  refine x1_1 hx.int_ ?_;rintro t rfl
  refine x1_1 hy.int_ ?_;rintro u rfl
  rw [e];exact sim0_int I ho
 cases opIs ho with
 | add=>
  cases v with
  | int i=>exact onInts (f:=fun i j=> .ok (.int (i + j)) mh) fun _ _=>rfl
  | tup vs=>
   cases w with
   | tup ws=>exact sim0_addTup I hx hy
   | _=>trivial
  | ref i=>exact sim0_addRef I hx hy
  | _=>trivial
 | _=>exact onInts fun _ _=>rfl
end
section
variable {C:Cfg} {S:Stat} {Φ:Fram} {m:Str→Option Value} {N:Led} {ρ:Rho} {mh:zax} {s:Shared} {α β γ δ:Type}
theorem News.onto {h₀ h h':Heap} {L:Addr} {N:Led} (hN:News h₀ L h N) (k:∀ b o,h.get? b=some o→h'.get? b=some o) :News h₀ L h' N:=fun p hp=>⟨k _ _ (hN p hp).1,(hN p hp).2⟩
theorem Inv0.onto {h h':Heap} (I:Inv0 C S Φ m N ρ mh h) (k:∀ b o,h.get? b=some o→h'.get? b=some o) :Inv0 C S Φ m N ρ mh h':=
 ⟨I.B,I.hA,I.hh,I.hf,I.hk,I.F.keeps k,I.X,News.onto I.NN k,I.T,I.H⟩
noncomputable def biVal:MBi→Value
 | .max=> .builtin "max"
 | .min=> .builtin "min"
 | .abs=> .builtin "abs"
 | .len=> .builtin "len"
 | .toInt=> .type "int"
 | .sum=> .builtin "sum"
 | .list=> .type "list"
 | .tuple=> .type "tuple"
 | .isInt=> .builtin "isinstance"
 | .isBool=> .builtin "isinstance"
 | .append=> .none
noncomputable def biArgs (b:MBi) (xs:List Value) :List Value:=match b with
 | .isInt=>xs ++ [.type "int"]
 | .isBool=>xs ++ [.type "bool"]
 | _=>xs
theorem ints_of {vs:List MV} {its:List Value} :∀ {is:List Int},RepVs N ρ vs its→zbX vs=some is→IntsAre its is:=by
 induction vs generalizing its with
 | nil=>intro is r h;simp only [RepVs] at r;simp only [zbX] at h;(refine sy1 (Option.some.inj h) ?_;clear h;intro zq;subst zq);subst r;exact IntsAre.nil
 | cons v vs ih=>
  intro is r h
  simp only [RepVs] at r
  refine x2_3 r ?_;(try clear r);rintro x xs rfl h1 h2
  cases v with
  | int i=>
   simp only [zbX,Option.map_eq_some_iff] at h
   refine x1_2 h ?_;(try clear h);rintro js hj rfl
   refine x1_1 h1.int_ ?_;rintro t rfl
   exact IntsAre.cons _ _ (ih h2 hj)
  | _=>trivial
theorem sumInts_eq (is:List Int) :sumInts is=is.sum:=by
 have:∀ (is:List Int) (a:Int),is.foldl (· + ·) a=a + is.sum:=by
  intro is
  induction is with
  | nil=>intro a;simp
  | cons i r ih=>intro a;simp only [List.foldl_cons,ih,List.sum_cons];lia
 unfold sumInts
 rw [this];lia
theorem RepVs.one_ {v:MV} {xs:List Value} (h:RepVs N ρ [v] xs) :∃ x,xs= [x]∧RepV N ρ v x:=by
 simp only [RepVs] at h
 refine x2_3 h ?_;(try clear h);rintro x r rfl h1 rfl
 exact ⟨x,rfl,h1⟩
theorem RepVs.two_ {v w:MV} {xs:List Value} (h:RepVs N ρ [v,w] xs) :∃ x y,xs= [x,y]∧RepV N ρ v x∧RepV N ρ w y:=by
 obtain ⟨x,r,rfl,h1,y,r',rfl,h2,rfl⟩:=h
 exact ⟨x,y,rfl,h1,h2⟩
theorem sim0_isInt (I:Inv0 C S Φ m N ρ mh s.heap) {v:MV} {x:Value} (r:RepV N ρ v x) :Sim0 C S Φ m N ρ mh s RV (wp_ S Φ s (call (.builtin "isinstance") [x,.type "int"])) (biV .isInt [v] mh):=by
 cases v with
 | int i=>(refine x1_1 r.int_ ?_;rintro t rfl);exact Sim0.done (tk:=s.toks) I zbJ fun Q E h=>IsiPair.int_int h
 | bool b=>obtain rfl:=r.bool_;exact Sim0.done (tk:=s.toks) I zbJ fun Q E h=>IsiPair.bool_int h
 | none=>obtain rfl:=r.none_;exact Sim0.done (tk:=s.toks + 1) I zbJ fun Q E h=>call_isinstance (isinstance_false_none (by decide +kernel) F.isi_meta_int F.sub_NoneType_int) h
 | _=>trivial
theorem sim0_isBool (I:Inv0 C S Φ m N ρ mh s.heap) {v:MV} {x:Value} (r:RepV N ρ v x) :Sim0 C S Φ m N ρ mh s RV (wp_ S Φ s (call (.builtin "isinstance") [x,.type "bool"])) (biV .isBool [v] mh):=by
 cases v with
 | int i=>(refine x1_1 r.int_ ?_;rintro t rfl);exact Sim0.done (tk:=s.toks + 1) I zbJ fun Q E h=>IsiPair.int_bool h
 | bool b=>obtain rfl:=r.bool_;exact Sim0.done (tk:=s.toks) I zbJ fun Q E h=>IsiPair.bool_bool h
 | none=>obtain rfl:=r.none_;exact Sim0.done (tk:=s.toks + 1) I zbJ fun Q E h=>call_isinstance (isinstance_false_none (by decide +kernel) F.isi_meta_bool F.sub_NoneType_bool) h
 | _=>trivial
theorem sim0_bi (I:Inv0 C S Φ m N ρ mh s.heap) {b:MBi} {vs:List MV} {xs:List Value} (r:RepVs N ρ vs xs) :Sim0 C S Φ m N ρ mh s RV (wp_ S Φ s (call (biVal b) (biArgs b xs))) (biV b vs mh):=by
 cases b with
 | max=>
  cases vs with
  | nil=>trivial
  | cons v vs=>
  refine Sim0.arg1 fun w e=>Sim0.int2 fun i j e1 e2=>?_
  subst e e1 e2
  refine x2_3 r.two_ ?_;rintro x y rfl h1 h2
  refine x1_1 h1.int_ ?_;rintro t rfl
  refine x1_1 h2.int_ ?_;rintro u rfl
  intro Q E hQ
  refine max_two_ints I.hh fun h' tk k=>hQ _ h' tk N ρ (I.onto k) (Ext.refl _ _ _) ?_
  by_cases h:i < j
  · rw [if_pos (show j > i from h),if_pos h];exact zbz
  · rw [if_neg (show ¬ j > i from h),if_neg h];exact zbz
 | min=>
  cases vs with
  | nil=>trivial
  | cons v vs=>
  refine Sim0.arg1 fun w e=>Sim0.int2 fun i j e1 e2=>?_
  subst e e1 e2
  refine x2_3 r.two_ ?_;rintro x y rfl h1 h2
  refine x1_1 h1.int_ ?_;rintro t rfl
  refine x1_1 h2.int_ ?_;rintro u rfl
  intro Q E hQ
  refine min_two_ints I.hh fun h' tk k=>hQ _ h' tk N ρ (I.onto k) (Ext.refl _ _ _) ?_
  by_cases h:j < i
  · rw [if_pos h,if_pos h];exact zbz
  · rw [if_neg h,if_neg h];exact zbz
 | abs=>
  refine Sim0.arg1 fun v e=>?_
  subst e
  refine x1_2 r.one_ ?_;rintro x rfl h1
  cases v with
  | int i=>
   refine x1_1 h1.int_ ?_;rintro t rfl
   intro Q E hQ
   refine call_abs_int fun u tk=>hQ _ s.heap tk N ρ I (Ext.refl _ _ _) ?_
   have e:(if i < 0 then -i else i)=(i.natAbs:Int):=by split <;> lia
   rw [e];exact zbz
  | _=>trivial
 | len=>
  refine Sim0.arg1 fun v e=>Sim0.onItems fun a vs e' hv=>?_
  subst e e'
  refine x1_2 r.one_ ?_;rintro x rfl h1
  refine x1_2 h1.ref_ ?_;rintro p hp rfl
  refine x1_3 (I.isList hp hv) fun its hL hr hl=>?_
  intro Q E hQ
  refine call_len_list hL (size_of hl) (hQ _ s.heap (s.toks + 1 + 1) N ρ I (Ext.refl _ _ _) ?_)
  rw [List.size_toArray,hr.length];exact zbz
 | toInt=>
  refine Sim0.arg1 fun v e=>?_
  subst e
  refine x1_2 r.one_ ?_;rintro x rfl h1
  cases v with
  | bool b=>
   obtain rfl:=h1.bool_
   exact Sim0.done (tk:=s.toks + 1) I (a:= .int (if b then 1 else 0) s.toks) zbz fun Q E h=>call_int_bool h
  | _=>trivial
 | sum=>
  refine Sim0.arg1 fun v e=>Sim0.onItems fun a vs e' hv=>?_
  subst e e'
  refine x1_2 r.one_ ?_;rintro x rfl h1
  refine x1_2 h1.ref_ ?_;rintro p hp rfl
  show Sim0 C S Φ m N ρ mh s RV _ (match zbX vs with | some is=> .ok (.int (sumInts is)) mh | none=> .stuck)
  cases hi:zbX vs with
  | none=>trivial
  | some is=>
   refine x1_3 (I.isList hp hv) fun its hL hr hl=>?_
   intro Q E hQ
   refine sumK I.hh I.F I.NN hL (ints_of hr hi) fun h' tk t' F' N'=>hQ _ h' tk N ρ ⟨I.B,I.hA,I.hh,I.hf,I.hk,F',I.X,N',I.T,I.H⟩ (Ext.refl _ _ _) ?_
   rw [sumInts_eq];exact zbz
 | list=>
  refine Sim0.arg1 fun v e=>Sim0.onItems fun a vs e' hv=>?_
  subst e e'
  refine x1_2 r.one_ ?_;rintro x rfl h1
  refine x1_2 h1.ref_ ?_;rintro p hp rfl
  refine x1_3 (I.isList hp hv) fun its hL hr hl=>?_
  exact Sim0.list I hr hl fun Q E h=>list_copyK I.F I.NN hL (fun D c h' F' N' l=>h D c h' s.toks F' N' fun p hp=>Nat.ne_of_lt (l p hp)) (line_of hl)
 | tuple=>
  refine Sim0.arg1 fun v e=>Sim0.onItems fun a vs e' hv=>?_
  subst e e'
  refine x1_2 r.one_ ?_;rintro x rfl h1
  refine x1_2 h1.ref_ ?_;rintro p hp rfl
  refine x1_3 (I.isList hp hv) fun its hL hr hl=>?_
  exact Sim0.tuple I hr hl fun Q E h=>kde_tupleOf I.F I.NN hL (by rw [List.size_toArray];lia) rfl fun D h' F' N' _=>h D 0 h' s.toks F' N'
 | isInt=>
  refine Sim0.arg1 fun v e=>?_
  subst e
  refine x1_2 r.one_ ?_;rintro x rfl h1
  exact sim0_isInt I h1
 | isBool=>
  refine Sim0.arg1 fun v e=>?_
  subst e
  refine x1_2 r.one_ ?_;rintro x rfl h1
  exact sim0_isBool I h1
 | append=>trivial
end
section
variable {C:Cfg} {S:Stat} {Φ:Fram} {m:Str→Option Value} {N:Led} {ρ:Rho} {mh:zax} {s:Shared} {α β γ δ:Type}
theorem eqVs_same {h₀ h:Heap} {L:Addr} (hN:News h₀ L h N) {f:MV→MV→Option Bool} (hf:∀ v w x b,RepV N ρ v x→RepV N ρ w x→f v w=some b→b=true) :
 ∀ {vs ws:List MV} {xs:List Value} {b:Bool},RepVs N ρ vs xs→RepVs N ρ ws xs→eqVs f vs ws=some b→b=true
 | [],[],xs,b,_,_,h=>by simp only [eqVs] at h;(refine sy1 (Option.some.inj h) ?_;clear h;intro zq;subst zq);rfl
 | [],w :: ws,xs,b,h1,h2,h=>by simp only [RepVs] at h1 h2;(refine x2_2 h2 ?_;(try clear h2);intro x r e _);rw [h1] at e;exact noC List.ctorIdx e rfl
 | v :: vs,[],xs,b,h1,h2,h=>by simp only [RepVs] at h1 h2;(refine x2_2 h1 ?_;(try clear h1);intro x r e _);rw [h2] at e;exact noC List.ctorIdx e rfl
 | v :: vs,w :: ws,xs,b,h1,h2,h=>by
  refine x2_3 h1 ?_;(try clear h1);rintro x r rfl a1 a2
  refine x2_3 h2 ?_;(try clear h2);intro x' r' e b1 b2
  refine x0_2 (List.cons.inj e) ?_;rintro rfl rfl
  simp only [eqVs] at h
  cases hv:f v w with
  | none=>rw [hv] at h;exact nofO h
  | some c=>
   cases hw:eqVs f vs ws with
   | none=>rw [hv,hw] at h;exact nofO h
   | some d=>
    rw [hv,hw] at h
    have e1:=hf v w x c a1 b1 hv
    have e2:=eqVs_same hN hf a2 b2 hw
    subst e1 e2
    (refine sy1 (Option.some.inj h) ?_;clear h;intro zq;subst zq);rfl
set_option genCtorIdx true in
inductive EqC (f:Option (MV→MV→Option Bool)) :MV→MV→Bool→Prop where
 | nn:EqC f .none .none true
 | nt (ws:List MV) :EqC f .none (.tup ws) false
 | tn (ws:List MV) :EqC f (.tup ws) .none false
 | bb (a b:Bool) :EqC f (.bool a) (.bool b) (a == b)
 | ii (a b:Int) :EqC f (.int a) (.int b) (decide (a=b))
 | tt (g:MV→MV→Option Bool) (vs ws:List MV) (b:Bool) (hf:f=some g) (h:eqVs g vs ws=some b) :EqC f (.tup vs) (.tup ws) b
theorem eqC_of {f:Option (MV→MV→Option Bool)} {v w:MV} {b:Bool} (h:eqV1 f v w=some b) :EqC f v w b:=by
 cases v with
 | none=>cases w <;> first | exact nofO h | (cases h;constructor)
 | bool a=>cases w <;> first | exact nofO h | (cases h;constructor)
 | int a=>cases w <;> first | exact nofO h | (cases h;constructor)
 | tup vs=>
  cases w with
  | none=>cases h;constructor
  | tup ws=>
   cases f with
   | none=>exact nofO h
   | some g=>exact .tt g vs ws b rfl h
  | _=>exact nofO h
 | _=>exact nofO h
theorem eqV_ind {P:MV→MV→Bool→Prop} (h:∀ f,(∀ g,f=some g→∀ v w b,g v w=some b→P v w b)→∀ v w b,EqC f v w b→P v w b) :∀ (n:Nat) (v w:MV) (b:Bool),eqV n v w=some b→P v w b
 | 0,v,w,b,e=>h none (fun _ q=>nomatch q) v w b (eqC_of e)
 | n + 1,v,w,b,e=>h (some (eqV n)) (fun g q=>by (refine sy1 (Option.some.inj q) ?_;clear q;intro zq;subst zq);exact eqV_ind h n) v w b (eqC_of e)
theorem eqV_same {h₀ h:Heap} {L:Addr} (hN:News h₀ L h N) (n:Nat) (v w:MV) (x:Value) (b:Bool) (h1:RepV N ρ v x) (h2:RepV N ρ w x) (h:eqV n v w=some b) :b=true:=by
 refine eqV_ind (P:=fun v w b=>∀ x,RepV N ρ v x→RepV N ρ w x→b=true) (fun f ih v w b c x h1 h2=>?_) n v w b h x h1 h2
 cases c with
 | nn=>rfl
 | nt ws=>(refine x3_2 h2.tup_ fun a its n e2 _=>?_);rw [h1.none_] at e2;cases e2
 | tn ws=>(refine x3_2 h1.tup_ fun a its n e2 _=>?_);rw [h2.none_] at e2;cases e2
 | bb a b=>have e2:=h2.bool_;rw [h1.bool_] at e2;cases e2;exact beq_self_eq_true a
 | ii a b=>(refine x1_1 h1.int_ ?_;rintro t rfl);(refine x1_1 h2.int_ fun u e=>?_);cases e;exact decide_eq_true rfl
 | tt g vs ws b hf h=>
  refine x3_4 h1.tup_ ?_;rintro a its n1 rfl m1 r1 _
  refine x3_4 h2.tup_ fun a' its' n2 e m2 r2 _=>?_
  cases e
  have q:=congrArg Obj.data (zdz hN m1 m2)
  have q':its=its':=by
   simp at q
   exact q.1
  subst q'
  exact eqVs_same hN (fun v w x b a1 a2 a3=>ih g hf v w b a3 x a1 a2) r1 r2 h
noncomputable def eAt (f:MV→MV→Option Bool) (vs ws:List MV) (j:Nat) :Bool:=match vs[j]?,ws[j]? with
 | some v,some w=>(f v w).getD false
 | _,_=>false
theorem zeN (e:Nat→Bool) (n:Nat) :(List.range (n + 1)).all e=(e 0 && (List.range n).all fun j=>e (j + 1)):=by
 rw [List.range_succ_eq_map]
 simp [List.all_map]
 rfl
theorem eqVs_all (f:MV→MV→Option Bool) :∀ (vs ws:List MV) (b:Bool),eqVs f vs ws=some b→b=((List.range (min vs.length ws.length)).all (eAt f vs ws) && vs.length == ws.length)
 | [],[],b,h=>by simp only [eqVs] at h;(refine sy1 (Option.some.inj h) ?_;clear h;intro zq;subst zq);rfl
 | [],w :: ws,b,h=>by simp only [eqVs] at h;(refine sy1 (Option.some.inj h) ?_;clear h;intro zq;subst zq);simp
 | v :: vs,[],b,h=>by simp only [eqVs] at h;(refine sy1 (Option.some.inj h) ?_;clear h;intro zq;subst zq);simp
 | v :: vs,w :: ws,b,h=>by
  simp only [eqVs] at h
  cases hv:f v w with
  | none=>rw [hv] at h;exact nofO h
  | some c=>
   cases hw:eqVs f vs ws with
   | none=>rw [hv,hw] at h;exact nofO h
   | some d=>
    rw [hv,hw] at h
    (refine sy1 (Option.some.inj h) ?_;clear h;intro zq;subst zq)
    have ih:=eqVs_all f vs ws d hw
    simp only [ih]
    simp only [List.length_cons,Nat.succ_min_succ]
    simp only [zeN]
    have e0:eAt f (v :: vs) (w :: ws) 0=c:=by simp [eAt,hv]
    have e1:(fun j=>eAt f (v :: vs) (w :: ws) (j + 1))=eAt f vs ws:=by funext j;rfl
    simp only [e0,e1]
    have e2:(vs.length + 1 == ws.length + 1)=(vs.length == ws.length):=by
     simp
    simp only [e2,Bool.and_assoc]
theorem eqVs_some (f:MV→MV→Option Bool) :∀ (vs ws:List MV) (b:Bool),eqVs f vs ws=some b→∀ j v w,vs[j]? =some v→ws[j]? =some w→f v w=some (eAt f vs ws j)
 | [],_,b,h,j,v,w,h1,h2=>by simp at h1
 | _ :: _,[],b,h,j,v,w,h1,h2=>by simp at h2
 | v' :: vs,w' :: ws,b,h,j,v,w,h1,h2=>by
  simp only [eqVs] at h
  cases hv:f v' w' with
  | none=>rw [hv] at h;exact nofO h
  | some c=>
   cases hw:eqVs f vs ws with
   | none=>rw [hv,hw] at h;exact nofO h
   | some d=>
    cases j with
    | zero=>simp at h1 h2;subst h1 h2;simp [eAt,hv]
    | succ j=>
     simp at h1 h2
     have:=eqVs_some f vs ws d hw j v w h1 h2
     simp only [this]
     rfl
theorem IsTup.isTuple {h:Heap} {a:Addr} {its:Array Value} (x:IsTup h a its) :h.IsTuple a its:=x
theorem reps_get {vs:List MV} {its:List Value} (r:RepVs N ρ vs its) {j:Nat} (h:j < its.toArray.size) :∃ v,vs[j]? =some v∧RepV N ρ v its.toArray[j]:=by
 have hv:j < vs.length:=by simp only [← r.length];exact h
 refine x1_2 (r.get (List.getElem?_eq_getElem hv)) fun x hx rx=>?_
 refine ⟨vs[j],List.getElem?_eq_getElem hv,?_⟩
 have:its.toArray[j]=x:=by
  rw [List.getElem?_eq_getElem h] at hx
  simpa using hx
 simp only [this];exact rx
theorem dec_beq (i j:Int) :decide (i=j)=(i == j):=by by_cases q:i=j <;> rfl
theorem eq_at (I:Inv0 C S Φ m N ρ mh s.heap) :∀ (n:Nat) (A:Around) (v w:MV) (x y:Value) (b:Bool),A.units + n < cLine→RepV N ρ v x→RepV N ρ w y→eqV n v w=some b→SeqAt.EqAt A s x y b:=by
 have step:∀ (n:Nat) (f:Option (MV→MV→Option Bool)) (A:Around) (v w:MV) (x y:Value) (b:Bool),(∀ g,f=some g→∃ k,n=k + 1∧g=eqV k∧∀ v w x y b,RepV N ρ v x→RepV N ρ w y→g v w=some b→SeqAt.EqAt A.in1 s x y b)→A.units + n < cLine→RepV N ρ v x→RepV N ρ w y→EqC f v w b→SeqAt.EqAt A s x y b:=by
  intro n f A v w x y b ih hu h1 h2 c
  cases c with
  | nn=>obtain rfl:=h1.none_;obtain rfl:=h2.none_;exact SeqAt.EqAt.same _
  | nt ws=>
   obtain rfl:=h1.none_
   refine x3_4 h2.tup_ ?_;rintro a its k rfl mm r _
   exact SeqAt.EqAt.none_tuple (IsTup.isTuple (I.isTup mm)) (Nat.lt_of_le_of_lt (Nat.le_add_right _ _) hu)
  | tn ws=>
   obtain rfl:=h2.none_
   refine x3_4 h1.tup_ ?_;rintro a its k rfl mm r _
   exact SeqAt.EqAt.tuple_none (IsTup.isTuple (I.isTup mm)) (Nat.lt_of_le_of_lt (Nat.le_add_right _ _) hu)
  | bb a b=>obtain rfl:=h1.bool_;obtain rfl:=h2.bool_;exact SeqAt.EqAt.bool_bool _ _
  | ii a b=>(refine x1_1 h1.int_ ?_;rintro t rfl);(refine x1_1 h2.int_ ?_;rintro u rfl);exact SeqAt.EqAt.int_int _ _ _ _
  | tt g vs ws b hf h=>
   refine x3_4 h1.tup_ ?_;rintro a its k rfl m1 r1 l1
   refine x3_4 h2.tup_ ?_;rintro a' jts k' rfl m2 r2 l2
   refine x1_3 (ih g hf) ?_;rintro k rfl rfl ih
   by_cases q:a=a'
   · subst q
     obtain rfl:=eqV_same (ρ:=ρ) I.NN (k + 1) (.tup vs) (.tup ws) (.ref a) b h1 h2 h
     exact SeqAt.EqAt.same _
   · refine SeqAt.EqAt.of_refs q ?_
     have:=SeqAt.RcAt.tuples (A:=A) (e:=eAt (eqV k) vs ws) (IsTup.isTuple (I.isTup m1)) (IsTup.isTuple (I.isTup m2)) (Nat.lt_of_le_of_lt (Nat.le_add_right _ _) hu) fun j q1 q2=>by
      refine x1_2 (reps_get r1 q1) fun v hv rv=>?_
      refine x1_2 (reps_get r2 q2) fun w hw rw=>?_
      exact ih v w _ _ _ rv rw (eqVs_some (eqV k) vs ws b h j v w hv hw)
     simp only [List.size_toArray,r1.length,r2.length] at this
     simp only [eqVs_all (eqV k) vs ws b h];exact this
 intro n
 induction n with
 | zero=>exact fun A v w x y b hu h1 h2 h=>step 0 none A v w x y b (fun _ q=>nomatch q) hu h1 h2 (eqC_of h)
 | succ n ih=>exact fun A v w x y b hu h1 h2 h=>step (n + 1) (some (eqV n)) A v w x y b (fun g q=>by (refine sy1 (Option.some.inj q) ?_;clear q;intro zq;subst zq);exact ⟨n,rfl,rfl,fun v w x y b=>ih A.in1 v w x y b (by rw [Nat.add_assoc,Nat.add_comm 1];exact hu)⟩) hu h1 h2 (eqC_of h)
end
section
variable {C:Cfg} {S:Stat} {Φ:Fram} {m:Str→Option Value} {N:Led} {ρ:Rho} {mh:zax} {s:Shared} {α β γ δ:Type}
theorem rc_at (I:Inv0 C S Φ m N ρ mh s.heap) (A:Around) (n:Nat) (v w:MV) (x y:Value) (b:Bool) (hu:A.units + n + 1 < cLine) (h1:RepV N ρ v x) (h2:RepV N ρ w y) (h:eqV (n + 1) v w=some b) :
 SeqAt.RcAt A s x y b∧SeqAt.RcNeAt A s x y (!b):=by
 have hu':A.units + 1 < cLine:=Nat.lt_of_le_of_lt (by rw [Nat.add_right_comm];exact Nat.le_add_right _ _) hu
 cases eqC_of h with
 | nn=>obtain rfl:=h1.none_;obtain rfl:=h2.none_;exact ⟨SeqAt.RcAt.none_none,SeqAt.RcNeAt.none_none⟩
 | nt ws=>
  obtain rfl:=h1.none_
  refine x3_4 h2.tup_ ?_;rintro a its k rfl mm r _
  exact ⟨SeqAt.RcAt.none_tuple (IsTup.isTuple (I.isTup mm)) (by lia),SeqAt.RcNeAt.none_tuple (IsTup.isTuple (I.isTup mm)) (by lia)⟩
 | tn ws=>
  obtain rfl:=h2.none_
  refine x3_4 h1.tup_ ?_;rintro a its k rfl mm r _
  exact ⟨SeqAt.RcAt.tuple_none (IsTup.isTuple (I.isTup mm)) (by lia),SeqAt.RcNeAt.tuple_none (IsTup.isTuple (I.isTup mm)) (by lia)⟩
 | bb i j=>obtain rfl:=h1.bool_;obtain rfl:=h2.bool_;exact ⟨SeqAt.RcAt.bool_bool _ _,SeqAt.RcNeAt.bool_bool (A:=A) (s:=s) i j⟩
 | ii i j=>
  (refine x1_1 h1.int_ ?_;rintro t rfl);(refine x1_1 h2.int_ ?_;rintro u rfl)
  exact ⟨SeqAt.RcAt.int_int _ _ _ _,SeqAt.RcNeAt.int_int (A:=A) (s:=s) i t j u⟩
 | tt g vs ws b hf h=>
  (refine sy1 (Option.some.inj hf) ?_;clear hf;intro zq;subst zq)
  refine x3_4 h1.tup_ ?_;rintro a its k rfl m1 r1 l1
  refine x3_4 h2.tup_ ?_;rintro a' jts k' rfl m2 r2 l2
  have he:∀ j (q1:j < its.toArray.size) (q2:j < jts.toArray.size),SeqAt.EqAt A.in1 s its.toArray[j] jts.toArray[j] (eAt (eqV n) vs ws j):=fun j q1 q2=>by
   refine x1_2 (reps_get r1 q1) fun v hv rv=>?_
   refine x1_2 (reps_get r2 q2) fun w hw rw=>?_
   exact eq_at I n A.in1 v w _ _ _ (by rw [Nat.add_right_comm];exact hu) rv rw (eqVs_some (eqV n) vs ws b h j v w hv hw)
  have t1:=SeqAt.RcAt.tuples (A:=A) (IsTup.isTuple (I.isTup m1)) (IsTup.isTuple (I.isTup m2)) (by (with_reducible exact Nat.lt_of_succ_lt (by assumption))) he
  have t2:=SeqAt.RcNeAt.tuples (A:=A) (IsTup.isTuple (I.isTup m1)) (IsTup.isTuple (I.isTup m2)) (by (with_reducible exact Nat.lt_of_succ_lt (by assumption))) he
  simp only [List.size_toArray,r1.length,r2.length] at t1 t2
  rw [eqVs_all (eqV n) vs ws b h];exact ⟨t1,t2⟩
theorem ints_eq_all:∀ (is js:List Int),is.length=js.length→decide (is=js)=(List.range is.length).all fun j=>is.getD j 0 == js.getD j 0
 | [],[],_=>rfl
 | [],_ :: _,h=>by cases h
 | _ :: _,[],h=>by cases h
 | i :: is,j :: js,h=>by
  have ih:=ints_eq_all is js (by simpa using h)
  simp only [List.length_cons,zeN]
  have e:(fun k=>((i :: is).getD (k + 1) 0 == (j :: js).getD (k + 1) 0))=fun k=>is.getD k 0 == js.getD k 0:=by funext k;simp
  simp only [e,← ih]
  by_cases q:i=j
  · subst q;simp
  · simp [q]
theorem ints_getAt {xs:List Value} {is:List Int} (r:IntsAre xs is) {j:Nat} (h:j < xs.toArray.size) :∃ t,xs.toArray[j]= .int (is.getD j 0) t:=by
 have hj:j < is.length:=by simp only [← r.length];exact h
 refine x1_1 (r.get j (is.getD j 0) (by simp [List.getD,List.getElem?_eq_getElem hj])) fun t ht=>?_
 refine ⟨t,?_⟩
 simp only [List.getElem?_eq_getElem h] at ht
 simpa using ht
theorem eqL_at (I:Inv0 C S Φ m N ρ mh s.heap) (hu:Φ.A.units + 16 < cLine) {vs ws:List MV} {its jts:List Value} {x y:Addr} (L1:s.heap.IsList x its.toArray) (r1:RepVs N ρ vs its) (L2:s.heap.IsList y jts.toArray) (r2:RepVs N ρ ws jts) {b:Bool} (h:eqL vs ws=some b) :
 SeqAt.RcAt Φ.A s (.ref x) (.ref y) b∧SeqAt.RcNeAt Φ.A s (.ref x) (.ref y) (!b):=by
 have hu1:Φ.A.units + 1 < cLine:=by lia
 unfold eqL at h
 by_cases hl:vs.length=ws.length
 · rw [if_pos hl] at h
   cases ha:zbX vs with
   | none=>rw [ha] at h;exact nofO h
   | some is=>
    rw [ha] at h
    cases hb:zbX ws with
    | none=>rw [hb] at h;exact nofO h
    | some js=>
     rw [hb] at h
     (refine sy1 (Option.some.inj h) ?_;clear h;intro zq;subst zq)
     have t1:=ints_of r1 ha
     have t2:=ints_of r2 hb
     have hsz:its.toArray.size=jts.toArray.size:=by simp only [List.size_toArray,List.size_toArray,r1.length,r2.length,hl]
     have he:∀ k (q1:k < its.toArray.size) (q2:k < jts.toArray.size),SeqAt.EqAt Φ.A.in1 s its.toArray[k] jts.toArray[k] (is.getD k 0 == js.getD k 0):=fun k q1 q2=>by
      refine x1_1 (ints_getAt t1 q1) fun t e1=>?_
      refine x1_1 (ints_getAt t2 q2) fun u e2=>?_
      simp only [e1,e2];exact SeqAt.EqAt.int_int _ _ _ _
     have hlen:is.length=js.length:=by simp only [← t1.length,← t2.length,r1.length,r2.length,hl]
     have z1:=SeqAt.RcAt.lists L1 L2 hsz (by (with_reducible exact Nat.lt_of_succ_lt (by assumption))) he
     have z2:=SeqAt.RcNeAt.lists L1 L2 hsz (by (with_reducible exact Nat.lt_of_succ_lt (by assumption))) he
     have e:its.toArray.size=is.length:=by exact t1.length
     simp only [e,← ints_eq_all is js hlen] at z1 z2
     exact ⟨z1,z2⟩
 · rw [if_neg hl] at h
   (refine sy1 (Option.some.inj h) ?_;clear h;intro zq;subst zq)
   have hsz:(its.toArray.size != jts.toArray.size)=true:=by
    simp only [List.size_toArray,List.size_toArray,r1.length,r2.length];simpa using hl
   exact ⟨SeqAt.RcAt.lists_lengths L1 L2 hsz (by lia),SeqAt.RcNeAt.lists_lengths L1 L2 hsz (by lia)⟩
theorem eqH_at (I:Inv0 C S Φ m N ρ mh s.heap) (hu:Φ.A.units + 16 < cLine) (v w:MV) (x y:Value) (b:Bool) (h1:RepV N ρ v x) (h2:RepV N ρ w y) (h:eqH mh v w=some b) :
 SeqAt.RcAt Φ.A s x y b∧SeqAt.RcNeAt Φ.A s x y (!b):=by
 have other:eqV 8 v w=some b→SeqAt.RcAt Φ.A s x y b∧SeqAt.RcNeAt Φ.A s x y (!b):=fun h=>rc_at I Φ.A 7 v w x y b (by lia) h1 h2 h
 cases v with
 | ref i=>
  cases w with
  | ref j=>
   clear other
   refine x1_2 h1.ref_ ?_;rintro p hp rfl
   refine x1_2 h2.ref_ ?_;rintro q hq rfl
   have h:(match items? mh i with | some vs=>(match items? mh j with | some ws=>eqL vs ws | none=>none) | none=>none)=some b:=h
   cases hv:items? mh i with
   | none=>rw [hv] at h;exact nofO h
   | some vs=>
    rw [hv] at h
    cases hw:items? mh j with
    | none=>rw [hw] at h;exact nofO h
    | some ws=>
     rw [hw] at h
     refine x1_3 (I.isList hp hv) fun its L1 r1 l1=>?_
     refine x1_3 (I.isList hq hw) fun jts L2 r2 l2=>?_
     exact eqL_at I hu L1 r1 L2 r2 h
  | _=>exact other h
 | _=>exact other h
noncomputable def cmpR (mh:zax) (o:MCmp) (v w:MV) :Res MV:=match cmpV mh o v w with | some c=> .ok (.bool c) mh | none=> .stuck
theorem isNone_beq {v:MV} {x:Value} (r:RepV N ρ v x) :(x == .none)=isNone v:=by
 cases v with
 | none=>rw [r.none_];rfl
 | bool b=>rw [r.bool_];rfl
 | int i=>(refine x1_1 r.int_ ?_;rintro t rfl);rfl
 | str i=>(refine x1_1 r.str_ ?_;rintro t rfl);rfl
 | ref i=>(refine x1_2 r.ref_ ?_;rintro p _ rfl);rfl
 | tup vs=>(refine x3_2 r.tup_ ?_;rintro a its n rfl _);rfl
set_option genCtorIdx true in
inductive CmpIs:CmpOp→MCmp→Prop where
 | eq:CmpIs .Eq .eq
 | ne:CmpIs .NotEq .ne
 | lt:CmpIs .Lt .lt
 | le:CmpIs .LtE .le
 | gt:CmpIs .Gt .gt
 | ge:CmpIs .GtE .ge
 | is:CmpIs .Is .is
 | isNot:CmpIs .IsNot .isNot
theorem cmpIs {op:CmpOp} {o:MCmp} (h:cmpOf op=some o) :CmpIs op o:=by
 cases op <;> first | exact nofO h | (cases h;constructor)
theorem Sim0.cmpR {W:zaY Value} {o:MCmp} {v w:MV} (h:∀ b,cmpV mh o v w=some b→Sim0 C S Φ m N ρ mh s RV W (.ok (.bool b) mh)) :Sim0 C S Φ m N ρ mh s RV W (Mine.cmpR mh o v w):=by
 unfold Mine.cmpR
 cases e:cmpV mh o v w with
 | none=>trivial
 | some b=>exact h b e
theorem intsO_inv {v w:MV} {f:Int→Int→Bool} {b:Bool} (h:intsO v w f=some b) :∃ i j,v= .int i∧w= .int j∧b=f i j:=by
 cases v with
 | int i=>
  cases w with
  | int j=>cases h;exact ⟨i,j,rfl,rfl,rfl⟩
  | _=>exact nofO h
 | _=>exact nofO h
theorem ifNone_inv {w:MV} {c b:Bool} (h:ifNone w c=some b) :w= .none∧b=c:=by
 cases w with
 | none=>cases h;exact ⟨rfl,rfl⟩
 | _=>exact nofO h
theorem sim0_cmp (I:Inv0 C S Φ m N ρ mh s.heap) (hu:Φ.A.units + 16 < cLine) {op:CmpOp} {o:MCmp} (ho:cmpOf op=some o) {v w:MV} {x y:Value} (h1:RepV N ρ v x) (h2:RepV N ρ w y) :
 Sim0 C S Φ m N ρ mh s RV (wp_ S Φ s (compareOp op x y)) (cmpR mh o v w):=by
 have onInts:∀ {f:Int→Int→Bool},(∀ i j t u,∀ Q E,Q (.bool (f i j)) s→wpAny S.M Φ.A (compareOp op (.int i t) (.int j u)) Q E s)→∀ b,intsO v w f=some b→Sim0 C S Φ m N ρ mh s RV (wp_ S Φ s (compareOp op x y)) (.ok (.bool b) mh):=fun k b e=>by
  refine x2_3 (intsO_inv e) ?_;rintro i j rfl rfl rfl
  refine x1_1 h1.int_ ?_;rintro t rfl
  refine x1_1 h2.int_ ?_;rintro u rfl
  exact Sim0.done (tk:=s.toks) I zbJ fun Q E h=>k i j t u Q E h
 cases cmpIs ho with
 | eq=>exact Sim0.cmpR fun b hb=>Sim0.done (tk:=s.toks) I zbJ fun Q E h=>(eqH_at I hu v w x y b h1 h2 hb).1 _ _ _ _ h
 | ne=>
  exact Sim0.cmpR fun b hb=>by
   cases he:eqH mh v w with
   | none=>rw [show cmpV mh .ne v w=(eqH mh v w).map (!·) from rfl,he] at hb;exact noC Option.ctorIdx hb rfl
   | some c=>
    rw [show cmpV mh .ne v w=(eqH mh v w).map (!·) from rfl,he] at hb
    cases hb
    exact Sim0.done (tk:=s.toks) I zbJ fun Q E h=>(eqH_at I hu v w x y c h1 h2 he).2 _ _ _ _ h
 | lt=>exact Sim0.cmpR (onInts fun i j t u Q E h=>lt_int h)
 | le=>exact Sim0.cmpR (onInts fun i j t u Q E h=>le_int h)
 | gt=>exact Sim0.cmpR (onInts fun i j t u Q E h=>gt_int h)
 | ge=>exact Sim0.cmpR (onInts fun i j t u Q E h=>ge_int h)
 | is=>
  exact Sim0.cmpR fun b hb=>by
   refine x0_2 (ifNone_inv hb) ?_;rintro rfl rfl
   obtain rfl:=h2.none_;exact Sim0.done (tk:=s.toks) I zbJ fun Q E h=>is_none (by rw [isNone_beq h1];exact h)
 | isNot=>
  exact Sim0.cmpR fun b hb=>by
   refine x0_2 (ifNone_inv hb) ?_;rintro rfl rfl
   obtain rfl:=h2.none_;exact Sim0.done (tk:=s.toks) I zbJ fun Q E h=>isNot_none (by rw [isNone_beq h1];exact h)
end
section
variable {C:Cfg} {S:Stat} {Φ:Fram} {m:Str→Option Value} {N:Led} {ρ:Rho} {mh:zax} {s:Shared} {α β γ δ:Type}
noncomputable def zcL:PySem.Expr→Prop
 | .Slice ..=>False
 | _=>True
theorem zbU {slice:PySem.Expr} (h:zcL slice) (o i:Value) :subscripted slice false o i=operate [o,i] (getItem o i):=by
 cases slice <;> first | rfl | exact h.elim
theorem band {p q:Prop} [Decidable p] [Decidable q] (h:p) (h':q) :(decide p && decide q)=true:=by simp only [decide_eq_true h,decide_eq_true h'];rfl
theorem place_neg {k:Int} {n:Nat} (h1:¬ 0≤k) (h2:(-k).toNat≤n) :∃ m:Nat,k= -m∧0 < m∧m≤n∧n - (-k).toNat=n - m∧k + n=((n - m:Nat) :Int):=by
 refine x1_1 (Int.eq_ofNat_of_zero_le (Int.neg_nonneg_of_nonpos (Int.le_of_lt (Int.not_le.mp h1)))) fun m hm=>?_
 have e:k= -m:=by simp only [← hm,Int.neg_neg]
 have hn:(-k).toNat=m:=by rw [hm];rfl
 rw [hn] at h2
 refine ⟨m,e,Nat.pos_of_ne_zero fun q=>?_,h2,by rw [hn],?_⟩
 · rw [e,q] at h1;exact h1 (by decide)
 · simp only [e,Int.ofNat_sub h2,Int.add_comm,Int.sub_eq_add_neg]
theorem zeM {k:Int} {n j:Nat} (h:zeR k n=some j) :seqIndex? k n=some j:=by
 unfold zeR at h
 unfold seqIndex?
 by_cases h1:0≤k
 · simp only [if_pos h1] at h
   by_cases h2:k.toNat < n
   · simp only [if_pos h2] at h
     simp only [← h]
     simp only [if_neg (Int.not_lt.mpr h1)]
     rw [if_pos (band h1 (by lia))]
   · rw [if_neg h2] at h;exact nofO h
 · rw [if_neg h1] at h
   by_cases h2:(-k).toNat≤n
   · rw [if_pos h2] at h
     refine x1_5 (place_neg h1 h2) fun m e m0 mn q r=>?_
     simp only [← h,q]
     simp only [if_pos (Int.not_le.mp h1),r]
     rw [if_pos (band (Int.natCast_nonneg _) (Int.ofNat_lt.mpr (Nat.sub_lt (Nat.lt_of_lt_of_le m0 mn) m0)))]
     rfl
   · rw [if_neg h2] at h;exact nofO h
theorem place_bnd {k:Int} {n j:Nat} (h:zeR k n=some j) (l:n≤4096) :-(2 ^ 63)≤k∧k < 2 ^ 63:=by
 unfold zeR at h
 by_cases h1:0≤k
 · rw [if_pos h1] at h
   by_cases h2:k.toNat < n
   · constructor <;> lia
   · rw [if_neg h2] at h;exact nofO h
 · rw [if_neg h1] at h
   by_cases h2:(-k).toNat≤n
   · constructor <;> lia
   · rw [if_neg h2] at h;exact nofO h
set_option tactic.hygienic true in
theorem sim0_item (I:Inv0 C S Φ m N ρ mh s.heap) {value slice:PySem.Expr} (hs:zcL slice) {v w:MV} {x y:Value} (h1:RepV N ρ v x) (h2:RepV N ρ w y) :
 Sim0 C S Φ m N ρ mh s RV (wp_ S Φ s (subscriptTail value slice x y)) (itemR mh v w):=by
 cases w with
 | int k=>
  refine x1_1 h2.int_ ?_;rintro t rfl
  dsimp only [itemR]
  cases v with
  | tup vs=>
   refine x3_4 h1.tup_ ?_;rintro a its n rfl mm r l
   simp only [zaG]
   cases hj:zeR k vs.length with
   | none=>trivial
   | some j=>
    simp only [Option.bind_some]
    cases hv:vs[j]? with
    | none=>trivial
    | some u=>
     refine x1_2 (r.get hv) fun xx hx rx=>?_
     have hb:=place_bnd hj (r.length ▸ l)
     refine Sim0.done (tk:=s.toks) I rx fun Q E h=>tail_any (IsTup.isTuple (I.isTup mm)).typeIs F.slot_tuple_getitem.lookup (getItem_tuple (j:=j) (I.isTup mm) hb.1 hb.2 ?_ ?_ h) (zbU hs _ _)
     · simp only [List.size_toArray,r.length];exact zeM hj
     · simpa using hx
  | ref i=>
   refine x1_2 h1.ref_ ?_;rintro p hp rfl
   simp only [zaG]
   cases hv:items? mh i with
   | none=>trivial
   | some vs=>
    refine x1_3 (I.isList hp hv) fun its L r l=>?_
    have hlen:=r.length
    simp only [Option.bind_eq_bind,Option.bind_some]
    cases hj:zeR k vs.length with
    | none=>trivial
    | some j=>
     simp only [Option.bind_some]
     cases hw:vs[j]? with
     | none=>trivial
     | some u=>
      refine x1_2 (r.get hw) fun xx hx rx=>?_
      unfold zeR at hj
      split at hj
      · split at hj
        · (refine sy1 (Option.some.inj hj) ?_;clear hj;intro zq;subst zq)
          exact Sim0.done (tk:=s.toks) I rx fun Q E h=>tail_any L.typeIs slot_list_getitem.lookup (wpAny_getItem_list L (by assumption) (by lia) (by simpa using hx) h) (zbU hs _ _)
        · exact nofO hj
      · split at hj
        · (refine sy1 (Option.some.inj hj) ?_;clear hj;intro zq;subst zq)
          rename_i q1 q2
          refine Sim0.done (tk:=s.toks) I rx fun Q E h=>tail_any L.typeIs slot_list_getitem.lookup (wpAny_getItem_list_neg L (by (with_reducible exact Int.not_le.mp (by assumption))) (by rw [List.size_toArray];lia) (by lia) ?_ h) (zbU hs _ _)
          have e:(k + (its.toArray.size:Int)).toNat=vs.length - (-k).toNat:=by
           refine x1_5 (place_neg (n:=vs.length) q1 q2) fun m _ _ _ z1 z2=>?_
           simp only [List.size_toArray,hlen,z1,z2,Int.toNat_natCast]
          rw [e];simpa using hx
        · exact nofO hj
  | _=>trivial
 | _=>trivial
theorem adjust_to (b n:Nat) (hb:b≤n) :Builtin.Slice.sliceAdjust none (some (b:Int)) 1 (n:Int)=(0,(b:Int)):=by
 unfold Builtin.Slice.sliceAdjust
 have h1:¬ ((1:Int) < 0):=by (with_reducible exact by decide)
 have h2:¬ ((b:Int) < 0):=by lia
 simp only [h1,h2,if_false]
 congr 1
 lia
theorem places_to (b:Nat) :Builtin.Slice.slicePlaces 0 (b:Int) 1=b:=by
 unfold Builtin.Slice.slicePlaces
 have h1:(1:Int) > 0:=by (with_reducible exact by decide)
 simp only [h1,if_true,Int.ediv_one]
 split <;> lia
theorem sliceApplied_to {prog:Program} {w:World} {A:Around} {E:Value→Shared→Prop} {s:Shared} {sl:Addr} {b n:Nat} {u:Tok} {Q:Int × Int × Nat→Shared→Prop} (hs:s.heap.IsSliceOf sl .none (.int b u) .none) (hb:b≤n) (h:Q (0,1,b) s) :
 wpAny (model prog w) A (Builtin.Slice.sliceApplied (.ref sl) (pure (n:Int))) Q E s:=by
 refine x1_3 (id hs) fun os hos hcs hds=>?_
 refine wpAny_bind (wpAny_bind (wpAny_field hos hds (x:= .none) rfl (wpAny_bind (wpAny_field hos hds (x:= .int b u) rfl (wpAny_bind (wpAny_field hos hds (x:= .none) rfl (wpAny_pure ?_)))))))
 refine wpAny_bind (slicePart_none ?_)
 refine wpAny_bind (slicePart_none (wpAny_bind (slicePart_int (wpAny_bind (wpAny_pure ?_)))))
 show wpAny _ _ (match Builtin.Slice.sliceAdjust none (some (b:Int)) 1 (n:Int) with | (lo,hi)=>pure (lo,(1:Int),Builtin.Slice.slicePlaces lo hi 1)) _ _ s
 rw [adjust_to b n hb]
 show wpAny _ _ (pure ((0:Int),(1:Int),Builtin.Slice.slicePlaces 0 (b:Int) 1)) _ _ s
 rw [places_to b]
 exact wpAny_pure h
theorem pick_to (xs:Array Value) (b:Nat) :((List.range b).filterMap fun (k:Nat)=>xs[((0:Int) + (k:Int) * 1).toNat]?).toArray=(xs.toList.take b).toArray:=by
 have e:(fun (k:Nat)=>xs[((0:Int) + (k:Int) * 1).toNat]?)=fun k=>xs[0 + k]? :=by
  funext k
  have:((0:Int) + (k:Int) * 1).toNat=0 + k:=by lia
  rw [this]
 rw [e]
 have:=pick_run xs 0 b
 rw [List.filterMap_map] at this
 have e2:((fun x=>xs[x]?) ∘ fun x=>0 + x)=fun k=>xs[0 + k]? :=rfl
 rw [e2] at this
 rw [this];rfl
theorem getItem_tuple_to {prog:Program} {w:World} {A:Around} {E:Value→Shared→Prop} {s:Shared} {t sl:Addr} {items:Array Value} {b:Nat} {u:Tok} {Q:Value→Shared→Prop} (ht:IsTup s.heap t items) (hs:s.heap.IsSliceOf sl .none (.int b u) .none) (hb:b < items.size)
 (h:Q (.ref s.heap.objs.size) {s with heap:=s.heap.push {cls:= .type "tuple",data:= .seq (items.toList.take b).toArray}})
 (hsz:items.size≤sizeLine) :wpAny (model prog w) A (getItem (.ref t) (.ref sl)) Q E s:=by
 have hdrop:sizeOk (.seq (items.toList.take b).toArray):=by
  show (items.toList.take b).toArray.size≤sizeLine
  simp only [List.size_toArray,List.length_take,Array.length_toList]
  lia
 refine x1_3 (id hs) fun os hos hcs hds=>?_
 have hTs:s.TypeIs (.ref sl) "slice":=⟨os,hos,hcs⟩
 unfold getItem
 try with_reducible refine wpAny_holding ?_
 first | refine wpAny_bind (wpAny_pure ?_) | skip
 refine wpAny_bind (wpAny_sequenceKey (IsTup.isTuple ht).typeIs (by decide) ?_)
 refine wpAny_bind (wpAny_callSpecial?_slot (name:=Str.ofString "__getitem__") (IsTup.isTuple ht).typeIs F.slot_tuple_getitem
  (wpAny_call_entry F.slot_tuple_getitem (IsTup.isTuple ht).typeIs F.entry_tuple_getitem ?_ (F.args_tuple_getitem_2 _ _)))
 show wpAny _ _ (Builtin.Tuple.tupleItemsOf (.ref t) >>= _) _ _ s
 refine wpAny_bind (tupleItemsOf_ ht ?_)
 refine wpAny_bind (wpAny_typeOf hTs ?_)
 refine wpAny_bind (sliceApplied_to hs (Nat.le_of_lt hb) ?_)
 have hno:¬ (((0:Int) == 0 && (1:Int) == 1 && b == items.size)=true):=by
  have:(b == items.size)=false:=by rw [beq_eq_false_iff_ne];(with_reducible exact Nat.ne_of_lt (by assumption))
  rw [this];simp
 show wpAny _ _ (if ((0:Int) == 0 && (1:Int) == 1 && b == items.size)=true then _ else _) _ _ s
 rw [if_neg hno,pick_to items b]
 first
  | exact wpAny_bind (m:=Builtin.Tuple.tupleExact _) (wpAny_newObj_type (wpAny_pure ⟨_,rfl,wpAny_pure h⟩) hdrop)
  | exact wpAny_bind (m:=Builtin.Tuple.tupleExact _) (wpAny_newObj_type (wpAny_bind (wpAny_pure (wpAny_pure ⟨_,rfl,wpAny_pure h⟩))) hdrop)
  | exact wpAny_bind (wpAny_bind (m:=Builtin.Tuple.tupleExact _) (wpAny_newObj_type (wpAny_pure (wpAny_pure ⟨_,rfl,wpAny_pure h⟩)) hdrop))
  | exact wpAny_bind (wpAny_bind (m:=Builtin.Tuple.tupleExact _) (wpAny_newObj_type (wpAny_pure ⟨_,rfl,wpAny_pure h⟩) hdrop))
end
section
variable {C:Cfg} {S:Stat} {Φ:Fram} {m:Str→Option Value} {N:Led} {ρ:Rho} {mh:zax} {s:Shared} {α β γ δ:Type}
theorem pick_to_list (its:List Value) (k:Int) (h:0≤k) :slicePick its.toArray none (some k) none=(its.take k.toNat).toArray:=by
 rw [kms_pick_eq]
 unfold kms_pick kms_lo kms_hi
 simp only [if_neg (show ¬ k < 0 by (with_reducible exact Int.not_lt.mpr (by assumption))),List.drop_zero,Nat.sub_zero]
 rw [List.take_eq_take_iff.mpr]
 simp
theorem pick_from_list (its:List Value) (k:Int) (h:0≤k) :slicePick its.toArray (some k) none none=(its.drop k.toNat).toArray:=by
 rw [kms_pick_eq]
 unfold kms_pick kms_lo kms_hi
 simp only [if_neg (show ¬ k < 0 by (with_reducible exact Int.not_lt.mpr (by assumption)))]
 congr 1
 by_cases q:k.toNat≤its.length
 · rw [Nat.min_eq_left q]
   exact List.take_of_length_le (by simp)
 · rw [Nat.min_eq_right (by lia)]
   simp only [List.drop_of_length_le (show its.length≤k.toNat by lia)]
   simp
noncomputable abbrev zbC (l u:Value) :Obj:={cls:= .type "slice",data:= .fields #[l,u,.none]}
theorem Inv0.slice {h:Heap} (I:Inv0 C S Φ m N ρ mh h) (l u:Value) :Inv0 C S Φ m N ρ mh (h.push (zbC l u)):=I.onto fun b o e=>Heap.get?_push_of_some _ e
theorem len_take {α:Type} {l:List α} (h:l.length≤4096) (k:Nat) :(l.take k).length≤4096:=Nat.le_trans (List.length_take_le' k l) h
theorem len_drop {α:Type} {l:List α} (h:l.length≤4096) (k:Nat) :(l.drop k).length≤4096:=by rw [List.length_drop];exact Nat.le_trans (Nat.sub_le _ _) h
theorem sim0_sliceTo (I:Inv0 C S Φ m N ρ mh s.heap) {value:PySem.Expr} {lo up:Option PySem.Expr} {pp:Pos} {v w:MV} {x y:Value} (h1:RepV N ρ v x) (h2:RepV N ρ w y) :
 Sim0 C S Φ m N ρ mh s RV (fun Q E=>wpAny S.M Φ.A (subscriptTail value (.Slice lo up none pp) x (.ref s.heap.objs.size)) Q E {s with heap:=s.heap.push (zbC .none y)}) (zbT true v w mh):=by
 cases w with
 | int k=>
  refine x1_1 h2.int_ ?_;rintro t rfl
  refine Sim0.onIf fun hk=>?_
  have I':=I.slice .none (.int k t)
  have hs:=Heap.IsSliceOf.new s.heap .none (.int k t) .none
  cases v with
  | tup vs=>
   refine x3_4 h1.tup_ ?_;rintro a its n rfl mm r l
   refine Sim0.onIf fun hb=>?_
   intro Q E hQ
   refine tail_any (IsTup.isTuple (I'.isTup mm)).typeIs F.slot_tuple_getitem.lookup (getItem_tuple_to (b:=k.toNat) (u:=t) (I'.isTup mm) (by rw [Int.toNat_of_nonneg hk];exact hs) (by simp only [List.size_toArray,r.length];exact hb) ?_ (line_of l)) rfl
   refine x0_3 (I'.pushTup (q:=(s.heap.push (zbC .none (.int k t))).objs.size) (its:=its.take k.toNat) (n:=0) (I'.F.push _) (I'.NN.push I'.F _) (r.take k.toNat) (len_take l k.toNat)) fun I2 X r2=>?_
   exact hQ _ _ s.toks _ _ I2 X r2
  | ref i=>
   refine x1_2 h1.ref_ ?_;rintro p hp rfl
   show Sim0 _ _ _ _ _ _ _ _ _ _ (match items? mh i with | some vs=>zaR (vs.take k.toNat) mh | none=> .stuck)
   cases hv:items? mh i with
   | none=>trivial
   | some vs=>
    refine x1_3 (I'.isList hp hv) fun its L r l=>?_
    have hl:=len_take l k.toNat
    show Sim0 _ _ _ _ _ _ _ _ _ _ (zaR (vs.take k.toNat) mh)
    unfold zaR
    rw [if_pos (by rw [← (r.take k.toNat).length];exact hl)]
    intro Q E hQ
    refine tail_any L.typeIs slot_list_getitem.lookup (wpAny_getItem_list_slice L hs .none (.int k t) .none (by simp) ?_ (line_of l)) rfl
    rw [pick_to_list its k hk]
    refine x0_3 (I'.pushList (q:=(s.heap.push (zbC .none (.int k t))).objs.size) (its:=its.take k.toNat) (n:=0) (I'.F.push _) (I'.NN.push I'.F _) I'.below (r.take k.toNat) hl) fun I2 X r2=>?_
    exact hQ _ _ s.toks _ _ I2 X r2
  | _=>trivial
 | _=>trivial
theorem sim0_sliceFrom (I:Inv0 C S Φ m N ρ mh s.heap) {value:PySem.Expr} {lo up:Option PySem.Expr} {pp:Pos} {v w:MV} {x y:Value} (h1:RepV N ρ v x) (h2:RepV N ρ w y) :
 Sim0 C S Φ m N ρ mh s RV (fun Q E=>wpAny S.M Φ.A (subscriptTail value (.Slice lo up none pp) x (.ref s.heap.objs.size)) Q E {s with heap:=s.heap.push (zbC y .none)}) (zbT false v w mh):=by
 cases w with
 | int k=>
  refine x1_1 h2.int_ ?_;rintro t rfl
  refine Sim0.onIf fun hk=>?_
  have I':=I.slice (.int k t) .none
  have hs:=Heap.IsSliceOf.new s.heap (.int k t) .none .none
  cases v with
  | tup vs=>
   refine x3_4 h1.tup_ ?_;rintro a its n rfl mm r l
   refine Sim0.onIf fun hb=>?_
   intro Q E hQ
   refine tail_any (IsTup.isTuple (I'.isTup mm)).typeIs F.slot_tuple_getitem.lookup (getItem_tuple_from (a:=k.toNat) (u:=t) (I'.isTup mm) (by rw [Int.toNat_of_nonneg hk];exact hs) hb.1 (by simp only [List.size_toArray,r.length];exact hb.2) ?_ (line_of l)) rfl
   refine x0_3 (I'.pushTup (q:=(s.heap.push (zbC (.int k t) .none)).objs.size) (its:=its.drop k.toNat) (n:=0) (I'.F.push _) (I'.NN.push I'.F _) (r.drop k.toNat) (len_drop l k.toNat)) fun I2 X r2=>?_
   exact hQ _ _ s.toks _ _ I2 X r2
  | ref i=>
   refine x1_2 h1.ref_ ?_;rintro p hp rfl
   show Sim0 _ _ _ _ _ _ _ _ _ _ (match items? mh i with | some vs=>zaR (vs.drop k.toNat) mh | none=> .stuck)
   cases hv:items? mh i with
   | none=>trivial
   | some vs=>
    refine x1_3 (I'.isList hp hv) fun its L r l=>?_
    have hl:=len_drop l k.toNat
    show Sim0 _ _ _ _ _ _ _ _ _ _ (zaR (vs.drop k.toNat) mh)
    unfold zaR
    rw [if_pos (by rw [← (r.drop k.toNat).length];exact hl)]
    intro Q E hQ
    refine tail_any L.typeIs slot_list_getitem.lookup (wpAny_getItem_list_slice L hs (.int k t) .none .none (by simp) ?_ (line_of l)) rfl
    rw [pick_from_list its k hk]
    refine x0_3 (I'.pushList (q:=(s.heap.push (zbC (.int k t) .none)).objs.size) (its:=its.drop k.toNat) (n:=0) (I'.F.push _) (I'.NN.push I'.F _) I'.below (r.drop k.toNat) hl) fun I2 X r2=>?_
    exact hQ _ _ s.toks _ _ I2 X r2
  | _=>trivial
 | _=>trivial
theorem sim0_slice (to:Bool) (I:Inv0 C S Φ m N ρ mh s.heap) {value:PySem.Expr} {lo up:Option PySem.Expr} {pp:Pos} {v w:MV} {x y:Value} (h1:RepV N ρ v x) (h2:RepV N ρ w y) :
 Sim0 C S Φ m N ρ mh s RV (fun Q E=>wpAny S.M Φ.A (subscriptTail value (.Slice lo up none pp) x (.ref s.heap.objs.size)) Q E {s with heap:=s.heap.push (zbC (if to then .none else y) (if to then y else .none))}) (zbT to v w mh):=by
 cases to with
 | true=>exact sim0_sliceTo I h1 h2
 | false=>exact sim0_sliceFrom I h1 h2
end
structure ClsOK (C:Cfg) (S:Stat) (c:Nat) :Prop where
 makes:makesIn S.K (C.clsA c)=true
 keep:keepIn S.K (.ref (C.clsA c))=true
 init:∀ f,C.T.cinit c=some f→findIn S.K (.ref (C.clsA c)) "__init__" =some (some (.ref (C.fnA f)))∧isFn S.K (.ref (C.fnA f))=true
 setat:findIn S.K (.ref (C.clsA c)) "__setattr__" =some (some (.builtin "object.__setattr__"))
 over:plainOver S.K (C.clsA c)=true
 dict:hasDictIn S.K (C.clsA c)=true
 get:∀ x,plainGet S.K (C.clsA c) x=true
 taker:∀ a,a < C.G.at_.length→takerIn S.K (C.clsA c) (C.atn a)=some none
 attr:∀ a,a < C.G.at_.length→
  (C.T.cmeth c a=none∧C.T.cattr c a=none∧findIn S.K (.ref (C.clsA c)) (C.atn a)=some none)∨
  (C.T.cmeth c a=none∧∃ i t,C.T.cattr c a=some (.int i)∧findIn S.K (.ref (C.clsA c)) (C.atn a)=some (some (.int i t))∧specialIn S.K (.int i t) "__get__" =some none)∨
  (∃ f,C.T.cmeth c a=some f∧findIn S.K (.ref (C.clsA c)) (C.atn a)=some (some (.ref (C.fnA f)))∧isFn S.K (.ref (C.fnA f))=true∧keepIn S.K (.ref (C.fnA f))=true)
noncomputable def AtOK (C:Cfg) :Prop:=(∀ a b,a < C.G.at_.length→b < C.G.at_.length→C.atn a=C.atn b→a=b)∧∀ a,a < C.G.at_.length→copiedNames.contains (C.atn a)=false
section
variable {C:Cfg} {S:Stat} {Φ:Fram} {m:Str→Option Value} {N:Led} {ρ:Rho} {mh:zax} {s:Shared} {α β γ δ:Type}
theorem zeE (A:AtOK C) {a:Nat} (ha:a < C.G.at_.length) :∀ {fs:List (Nat × MV)} {es:List DictEntry},FieldsRep C N ρ fs es→
 (∀ v,getF a fs=some v→∃ x,getL (C.atn a) es=some (some x)∧RepV N ρ v x)∧(getF a fs=none→getL (C.atn a) es=some none)
 | [],es,h=>by
  simp only [FieldsRep] at h;subst h
  exact ⟨fun v h=>by trivial,fun _=>rfl⟩
 | (b,w) :: fs,es,⟨e,r,he,⟨hb,t,hk⟩,hv,hr⟩=>by
  subst he
  have ih:=zeE A ha hr
  have hkey:e.key.isStr (C.atn a)=(C.atn b == C.atn a):=by rw [hk];rfl
  by_cases q:a=b
  · subst q
    have hkey':e.key.isStr (C.atn a)=true:=by rw [hkey];exact beq_self_eq_true _
    refine ⟨fun v h=>?_,fun h=>?_⟩
    · simp only [getF] at h
      (refine sy1 (Option.some.inj h) ?_;clear h;intro zq;subst zq)
      exact ⟨e.val,by unfold getL;rw [List.find?_cons_of_pos (p:=fun z:DictEntry=>z.key.isStr (C.atn a)) hkey'],hv⟩
    · simp only [getF] at h;exact noC Option.ctorIdx h rfl
  · have hkey':e.key.isStr (C.atn a)=false:=by
     rw [hkey]
     exact beq_eq_false_iff_ne.mpr fun z=>q (A.1 a b ha hb z.symm)
    have hL:getL (C.atn a) (e :: r)=getL (C.atn a) r:=by
     unfold getL
     rw [List.find?_cons_of_neg (p:=fun z:DictEntry=>z.key.isStr (C.atn a)) (by simp [hkey'])]
     have:e.refKey=false:=by
      unfold DictEntry.refKey
      rw [hk]
     rw [List.any_cons,this,Bool.false_or]
    rw [hL]
    simp only [getF,if_neg q]
    exact ih
theorem fields_put (A:AtOK C) {a:Nat} (ha:a < C.G.at_.length) {v:MV} {x:Value} (hx:RepV N ρ v x) {hsh:Int} {t:Tok} :∀ {fs:List (Nat × MV)} {es:List DictEntry},FieldsRep C N ρ fs es→
 FieldsRep C N ρ (putF a v fs) (putL (C.atn a) hsh (.str (C.atn a) t) x es)
 | [],es,h=>by
  simp only [FieldsRep] at h;subst h
  exact ⟨_,[],rfl,⟨ha,t,rfl⟩,hx,rfl⟩
 | (b,w) :: fs,es,⟨e,r,he,⟨hb,u,hk⟩,hv,hr⟩=>by
  subst he
  have hkey:e.key.isStr (C.atn a)=(C.atn b == C.atn a):=by rw [hk];rfl
  by_cases q:a=b
  · subst q
    have hkey':e.key.isStr (C.atn a)=true:=by rw [hkey];exact beq_self_eq_true _
    simp only [putF,putL,hkey']
    exact ⟨_,r,rfl,⟨ha,u,hk⟩,hx,hr⟩
  · have hkey':e.key.isStr (C.atn a)=false:=by
     rw [hkey]
     exact beq_eq_false_iff_ne.mpr fun z=>q (A.1 a b ha hb z.symm)
    simp only [putF,if_neg q,putL,hkey',Bool.false_eq_true]
    exact ⟨e,_,rfl,⟨hb,u,hk⟩,hv,fields_put A ha hx hr⟩
theorem fields_len {fs:List (Nat × MV)} :∀ {es:List DictEntry},FieldsRep C N ρ fs es→es.length=fs.length:=by
 induction fs with
 | nil=>intro es h;simp only [FieldsRep] at h;subst h;rfl
 | cons f fs ih=>
  intro es h
  obtain ⟨b,w⟩:=f
  refine x2_4 h ?_;(try clear h);rintro e r rfl _ _ hr
  simp [ih hr]
theorem putL_len {name:Str} {hsh:Int} {k v:Value} :∀ {es:List DictEntry},(putL name hsh k v es).length≤es.length + 1
 | []=>by simp [putL]
 | e :: r=>by
  simp only [putL]
  split
  · simp
  · simp only [List.length_cons];have:=@putL_len name hsh k v r;lia
theorem handed_rep {v:MV} {x:Value} (r:RepV N ρ v x) :handedIn x=true:=by
 cases v with
 | none=>rw [r.none_];rfl
 | bool b=>rw [r.bool_];rfl
 | int i=>(refine x1_1 r.int_ ?_;rintro t rfl);rfl
 | str i=>(refine x1_1 r.str_ ?_;rintro t rfl);rfl
 | ref i=>(refine x1_2 r.ref_ ?_;rintro p _ rfl);rfl
 | tup vs=>(refine x3_2 r.tup_ ?_;rintro a its n rfl _);rfl
theorem sim0_attr (A:AtOK C) (K:∀ c,(C.T.cinit c).isSome=true→ClsOK C S c) (I:Inv0 C S Φ m N ρ mh s.heap) {v:MV} {x:Value} (r:RepV N ρ v x) {a:Nat} (ha:a < C.G.at_.length) {expr:Bool} :
 Sim0 C S Φ m N ρ mh s RV (wp_ S Φ s (getAttr x (C.atn a) expr)) (attrV C.T v a mh):=by
 cases v with
 | ref i=>
  refine x1_2 r.ref_ ?_;rintro p hp rfl
  dsimp only [attrV]
  refine x1_2 (I.H.of hp) fun o ho hr=>?_
  rw [ho]
  cases o with
  | inst c fs=>
   refine x2_4 hr ?_;(try clear hr);intro es n h1 h2 h3 h4
   have k:=K c h4
   have IA:=InstAt.of_news I.NN h1 h2
   have fg:=zeE (N:=N) (ρ:=ρ) A ha h3
   dsimp only
   cases hm:C.T.cmeth c a with
   | some f=>trivial
   | none=>
    dsimp only
    cases hf:getF a fs with
    | some w=>
     refine x1_2 (fg.1 w hf) fun y hy ry=>?_
     rcases k.attr a ha with ⟨_,_,e⟩ | ⟨_,i,t,_,e,e'⟩ | ⟨f,e,_⟩
     · exact Sim0.done (tk:=s.toks + 1) I ry fun Q E h=>get_own I.F I.X IA (k.get _) k.dict e rfl hy (handed_rep ry) h
     · exact Sim0.done (tk:=s.toks + 1) I ry fun Q E h=>get_own I.F I.X IA (k.get _) k.dict e (by unfold noGet;rfl) hy (handed_rep ry) h
     · rw [hm] at e;exact nofO e
    | none=>
     have hl:=fg.2 hf
     dsimp only
     rcases k.attr a ha with ⟨_,e,_⟩ | ⟨_,i,t,e0,e,e'⟩ | ⟨f,e,_⟩
     · rw [e];trivial
     · simp only [e0]
       exact Sim0.done (tk:=s.toks + 1) I (a:= .int i t) zbz fun Q E h=>get_cls I.F I.X IA (k.get _) k.dict e e' rfl (A.2 a ha) hl h
     · rw [hm] at e;exact nofO e
  | _=>trivial
 | _=>trivial
theorem sim0_setAttr (A:AtOK C) (K:∀ c,(C.T.cinit c).isSome=true→ClsOK C S c) (I:Inv0 C S Φ m N ρ mh s.heap) {v w:MV} {x y:Value} (r:RepV N ρ v x) (r':RepV N ρ w y) {a:Nat} (ha:a < C.G.at_.length) :
 Sim0 C S Φ m N ρ mh s (fun _ _ (_:Unit) (_:Unit)=>True) (wp_ S Φ s (setAttr x (C.atn a) y)) (zbE v a w mh):=by
 cases v with
 | ref i=>
  refine x1_2 r.ref_ ?_;rintro p hp rfl
  dsimp only [zbE]
  refine x1_2 (I.H.of hp) fun o ho hr=>?_
  rw [ho]
  cases o with
  | inst c fs=>
   refine x2_4 hr ?_;(try clear hr);intro es n h1 h2 h3 h4
   have k:=K c h4
   have IA:=InstAt.of_news I.NN h1 h2
   have fg:=zeE (N:=N) (ρ:=ρ) A ha h3
   dsimp only
   by_cases hl:fs.length < 64
   · rw [if_pos hl]
     intro Q E hQ
     have hsome:(getL (C.atn a) es).isSome=true:=by
      cases hf:getF a fs with
      | some w=>(refine x1_2 (fg.1 w hf) fun z hz _=>?_);rw [hz];rfl
      | none=>rw [fg.2 hf];rfl
     refine set_dict (dx:=p.2) I.F I.X (front_news I.NN h2) IA rfl k.setat k.over (k.taker a ha) k.dict hsome rfl front_upd ?_ fun h' F' N'=>?_
     · have:=@putL_len (C.atn a) (PyData.keyHash S.w.params (C.atn a)) (.str (C.atn a) (s.toks + 1)) y es
       have e:=fields_len h3
       lia
     · have ne:p.1≠p.2:=fun q=>by
        have:=zdz I.NN h1 (q ▸ h2)
        exact absurd (congrArg Obj.cls this) (by simp)
       have sub:∀ e∈ N,e.1≠p.2→e∈ front p.2 (dictOf (putL (C.atn a) (PyData.keyHash S.w.params (C.atn a)) (.str (C.atn a) (s.toks + 1)) y es) (putN (C.atn a) es n)) N:=front_mem
       have tp:∀ b its k,(b,zaU its k)∈ N→(b,zaU its k)∈ front p.2 (dictOf (putL (C.atn a) (PyData.keyHash S.w.params (C.atn a)) (.str (C.atn a) (s.toks + 1)) y es) (putN (C.atn a) es n)) N:=fun b its k hb=>
        sub _ hb fun q=>I.H.tup_off I.NN hb ⟨i,p,hp,.inr q⟩
       have H':=I.H.set I.NN (o':= .inst c (putF a w fs)) ho hp (d:=p.2) (.inr rfl) sub ⟨_,_,sub _ h1 ne,.head _,(fields_put A ha r' h3).mono tp fun _ _ h=>h,h4⟩ (fun _ _ e=>by exact noC MObj.ctorIdx e rfl) (fun _ e=>by exact noC MObj.ctorIdx e rfl)
       have X':=Ext.set I.H (o':= .inst c (putF a w fs)) ho hp (d:=p.2) (.inr rfl) sub ⟨_,.head _⟩ (fun _ _ e=>by exact noC MObj.ctorIdx e rfl) (fun _ e=>by exact noC MObj.ctorIdx e rfl) (fun _ e=>by exact noC MObj.ctorIdx e rfl)
       exact hQ () h' _ _ ρ ⟨I.B,I.hA,I.hh,I.hf,I.hk,F',I.X,N',I.T,H'⟩ X' trivial
   · rw [if_neg hl];trivial
  | _=>trivial
 | _=>trivial
end
section
variable {C:Cfg} {S:Stat} {Φ:Fram} {m:Str→Option Value} {N:Led} {ρ:Rho} {mh:zax} {s:Shared} {α β γ δ:Type}
theorem setL_set:∀ (l:List Value) (k:Nat) (v:Value),k < l.length→ki_setL l k v=some (l.set k v)
 | [],k,v,h=>absurd h (Nat.not_lt_zero _)
 | a :: r,0,v,h=>rfl
 | a :: r,k + 1,v,h=>by
  have:=setL_set r k v (by simpa using h)
  show (match ki_setL r k v with | some q=>some (a :: q) | none=>none)= _
  rw [this];rfl
noncomputable abbrev RU:Led→Rho→Unit→Unit→Prop:=fun _ _ _ _=>True
theorem Inv0.wrote {h h':Heap} (I:Inv0 C S Φ m N ρ mh h) {i:Nat} {p:Addr × Addr} {vs ws:List MV} {ver:Nat} {its jts:List Value} {n n':Nat} (hi:mh[i]? =some (.list vs ver)) (hp:ρ[i]? =some p)
 (h1:(p.1,listOf its.toArray n)∈ N) (F':Fr Φ.h₀ Φ.L h' m) (N':News Φ.h₀ Φ.L h' (front p.1 (listOf jts.toArray n') N)) (r:RepVs N ρ ws jts) (l:jts.length≤4096) :
 Inv0 C S Φ m (front p.1 (listOf jts.toArray n') N) ρ (mh.set i (.list ws (ver + 1))) h'∧Ext N ρ mh (front p.1 (listOf jts.toArray n') N) ρ (mh.set i (.list ws (ver + 1))):=by
 have sub:∀ e∈ N,e.1≠p.1→e∈ front p.1 (listOf jts.toArray n') N:=front_mem
 have tp:∀ b its k,(b,zaU its k)∈ N→(b,zaU its k)∈ front p.1 (listOf jts.toArray n') N:=fun b its k hb=>sub _ hb fun q=>I.H.tup_off I.NN hb ⟨i,p,hp,.inl q⟩
 have one:=I.H.one i p vs ver hi hp
 have H':=I.H.set I.NN (o':= .list ws (ver + 1)) hi hp (d:=p.1) (.inl rfl) sub ⟨jts,n',.head _,r.mono tp fun _ _ h=>h,l⟩ (fun _ _ _=>one) (fun _ e=>by exact noC MObj.ctorIdx e rfl)
 exact ⟨⟨I.B,I.hA,I.hh,I.hf,I.hk,F',I.X,N',I.T,H'⟩,Ext.set I.H (o':= .list ws (ver + 1)) hi hp (d:=p.1) (.inl rfl) sub ⟨_,.head _⟩ (fun vs' k e=>by (refine x0_2 (MObj.list.inj e) ?_;rintro rfl rfl);exact ⟨ws,ver + 1,rfl,Nat.lt_succ_self _⟩) (fun _ e=>by exact noC MObj.ctorIdx e rfl) (fun _ e=>by exact noC MObj.ctorIdx e rfl)⟩
theorem sim0_setItem (I:Inv0 C S Φ m N ρ mh s.heap) {v w u:MV} {x y z:Value} (r:RepV N ρ v x) (r':RepV N ρ w y) (r'':RepV N ρ u z) :
 Sim0 C S Φ m N ρ mh s RU (wp_ S Φ s (setItem x y z)) (zdx v w u mh):=by
 cases v with
 | ref i=>
  cases w with
  | int k=>
   refine x1_2 r.ref_ ?_;rintro p hp rfl
   refine x1_1 r'.int_ ?_;rintro t rfl
   dsimp only [zdx]
   refine x1_2 (I.H.of hp) fun o ho hr=>?_
   rw [ho]
   cases o with
   | list vs n=>
    refine x2_3 hr ?_;(try clear hr);intro its k' a1 a2 a3
    dsimp only
    by_cases hk:0≤k∧k.toNat < vs.length
    · rw [if_pos hk]
      have hl:k.toNat < its.length:=by simp only [a2.length];exact hk.2
      intro Q E hQ
      refine ki_set (its:=its.toArray) (n:=k') I.F (front_news I.NN a1) hk.1 (by lia) (setL_set its k.toNat z hl) front_upd fun h' F' N'=>?_
      refine x0_2 (I.wrote ho hp a1 F' N' (a2.set r'' k.toNat) (by rw [List.length_set];exact a3)) fun I' X'=>?_
      exact hQ () h' s.toks _ ρ I' X' trivial
    · rw [if_neg hk];trivial
   | _=>trivial
  | _=>trivial
 | _=>trivial
theorem sim0_append (I:Inv0 C S Φ m N ρ mh s.heap) {v w:MV} {x y:Value} (r:RepV N ρ v x) (r':RepV N ρ w y) :
 Sim0 C S Φ m N ρ mh s RV (wp_ S Φ s (call (.builtin "list.append") [x,y])) (zdE v w mh):=by
 cases v with
 | ref i=>
  refine x1_2 r.ref_ ?_;rintro p hp rfl
  dsimp only [zdE]
  refine x1_2 (I.H.of hp) fun o ho hr=>?_
  rw [ho]
  cases o with
  | list vs n=>
   refine x2_3 hr ?_;(try clear hr);intro its k' a1 a2 a3
   dsimp only
   by_cases hk:vs.length < 4096
   · rw [if_pos hk]
     intro Q E hQ
     have e:listOf (its.toArray.push y) (k' + 1)=listOf (its ++ [y]).toArray (k' + 1):=by simp
     refine append_K (its:=its.toArray) (n:=k') I.F (front_news I.NN a1) front_upd (fun h' F' N'=>?_) (line_of a3)
     rw [e] at N'
     refine x0_2 (I.wrote ho hp a1 F' N' (a2.append (show RepVs N ρ [w] [y] by simp only [RepVs];exact ⟨y,[],rfl,r',rfl⟩)) (by rw [List.length_append,a2.length];exact hk)) fun I' X'=>?_
     exact hQ _ h' s.toks _ ρ I' X' repNone
   · rw [if_neg hk];trivial
  | _=>trivial
 | _=>trivial
end
noncomputable abbrev Fram.at (Φ:Fram) (g:Heap) :Fram:=⟨Φ.A₀,Φ.A,Φ.base,g,Φ.outer,Φ.fenv,Φ.L⟩
structure UpS (g g':Heap) :Prop where
 size:g'.objs.size=g.objs.size
 no:∀ b,g.get? b=none→g'.get? b=none
 up:∀ b o,g.get? b=some o→∃ sl,g'.get? b=some {o with slots:=sl}
 same:∀ b o,g.get? b=some o→(∀ es ep,o.data≠.dict es ep)→g'.get? b=some o
theorem UpS.refl (g:Heap) :UpS g g:=⟨rfl,fun _ h=>h,fun b o h=>⟨o.slots,h⟩,fun _ _ h _=>h⟩
theorem UpS.trans {a b c:Heap} (h:UpS a b) (k:UpS b c) :UpS a c:=⟨k.size.trans h.size,fun x e=>k.no x (h.no x e),fun x o e=>by
 refine x1_1 (h.up x o e) fun sl e1=>?_
 refine x1_1 (k.up x _ e1) fun sl' e2=>?_
 exact ⟨sl',e2⟩,fun x o e hd=>k.same x o (h.same x o e hd) hd⟩
theorem UpS.back {g g':Heap} (u:UpS g g') {b:Addr} {o:Obj} (h:g'.get? b=some o) :∃ o',g.get? b=some o'∧o.data=o'.data:=by
 cases e:g.get? b with
 | none=>rw [u.no b e] at h;exact nofO h
 | some o'=>
  refine x1_1 (u.up b o' e) fun sl e1=>?_
  rw [h] at e1
  (refine sy1 (Option.some.inj e1) ?_;clear e1;intro zq;subst zq)
  exact ⟨o',rfl,rfl⟩
noncomputable def DictFr (l:List Env) (h:Heap) :Prop:=∀ a∈ l.filterMap (·.frame),∃ o es ep,h.get? a=some o∧o.data= .dict es ep
structure Inv (C:Cfg) (S:Stat) (Φ:Fram) (m:Str→Option Value) (N:Led) (ρ:Rho) (mh:zax) (h:Heap) :Prop where
 ex:∃ g,UpS Φ.h₀ g∧Inv0 C S (Φ.at g) m N ρ mh h
 Xb:S.K.In Φ.base
 Tb:Top S.p S.loose S.mean S.mg S.mb Φ.base∧DictFr Φ.outer Φ.h₀
theorem Inv.open {C:Cfg} {S:Stat} {Φ:Fram} {m:Str→Option Value} {N:Led} {ρ:Rho} {mh:zax} {h:Heap} {Z:Prop} (I:Inv C S Φ m N ρ mh h) (q:∀ g,UpS Φ.h₀ g→Inv0 C S (Φ.at g) m N ρ mh h→S.K.In Φ.base→(Top S.p S.loose S.mean S.mg S.mb Φ.base∧DictFr Φ.outer Φ.h₀)→Z) :Z:=I.ex.elim fun g e=>q g e.1 e.2 I.Xb I.Tb
noncomputable def Flies (C:Cfg) (Φ:Fram) (m:Str→Option Value) (N:Led) (ρ:Rho) (mh mh':zax) (e:Addr) (h':Heap) :Prop:=∃ g,UpS Φ.h₀ g∧Below Φ.A₀ Φ.base Φ.outer g∧Flies0 C (Φ.at g) m N ρ mh mh' e h'
theorem Flies.after {C:Cfg} {Φ:Fram} {m:Str→Option Value} {N N':Led} {ρ ρ':Rho} {mh mh' mh'':zax} {e:Addr} {h:Heap} (f:Flies C Φ m N' ρ' mh' mh'' e h) (X:Ext N ρ mh N' ρ' mh') :Flies C Φ m N ρ mh mh'' e h:=by
 obtain ⟨g,u,bl,N'',ρ'',g₂,a1,a2,a3,a4,a5⟩:=f
 exact ⟨g,u,bl,N'',ρ'',g₂,a1,a2,a3,a4,X.trans a5⟩
noncomputable def Sim {α β:Type} (C:Cfg) (S:Stat) (Φ:Fram) (m:Str→Option Value) (N:Led) (ρ:Rho) (mh:zax) (s:Shared) (R:Led→Rho→β→α→Prop) (W:zaY α) (r:Res β) :Prop:=
 match r with
 | .ok b mh'=>∀ Q E,(∀ a h' tk' N' ρ',Inv C S Φ m N' ρ' mh' h'→Ext N ρ mh N' ρ' mh'→R N' ρ' b a→Q a {s with heap:=h',toks:=tk'})→W Q E
 | .exc mh'=>∀ Q E,(∀ e h' tk',Flies C Φ m N ρ mh mh' e h'→E (.ref e) {s with heap:=h',toks:=tk'})→W Q E
 | .stuck=>True
section
variable {C:Cfg} {S:Stat} {Φ:Fram} {m:Str→Option Value} {N:Led} {ρ:Rho} {mh:zax} {s:Shared} {α β γ δ:Type}
theorem Sim.seq {R1:Led→Rho→β→α→Prop} {R2:Led→Rho→γ→δ→Prop} {t1:Sem α} {r1:Res β} {g:β→zax→Res γ} {W:zaY δ}
 (W2:α→Shared→zaY δ)
 (h1:Sim C S Φ m N ρ mh s R1 (fun Q E=>wpAny S.M Φ.A t1 Q E s) r1)
 (comb:∀ Q E,wpAny S.M Φ.A t1 (fun a s₁=>W2 a s₁ Q E) E s→W Q E)
 (h2:∀ b mh' a h' tk' N' ρ',Inv C S Φ m N' ρ' mh' h'→Ext N ρ mh N' ρ' mh'→R1 N' ρ' b a→Sim C S Φ m N' ρ' mh' {s with heap:=h',toks:=tk'} R2 (W2 a {s with heap:=h',toks:=tk'}) (g b mh')) :
 Sim C S Φ m N ρ mh s R2 W (r1.bind g):=by
 cases r1 with
 | stuck=>trivial
 | exc mh1=>exact fun Q E hE=>comb Q E (h1 _ _ hE)
 | ok b mh1=>
  show Sim C S Φ m N ρ mh s R2 W (g b mh1)
  cases hg:g b mh1 with
  | stuck=>trivial
  | ok c mh2=>
   intro Q E hQ
   refine comb Q E (h1 _ _ fun a h' tk' N' ρ' I X r=>?_)
   have:=h2 b mh1 a h' tk' N' ρ' I X r
   simp only [hg] at this
   exact this Q E fun a' h'' tk'' N'' ρ'' I' X' r'=>hQ a' h'' tk'' N'' ρ'' I' (X.trans X') r'
  | exc mh2=>
   intro Q E hE
   refine comb Q E (h1 _ _ fun a h' tk' N' ρ' I X r=>?_)
   have:=h2 b mh1 a h' tk' N' ρ' I X r
   simp only [hg] at this
   exact this Q E fun e h'' tk'' f=>hE e h'' tk'' (f.after X)
theorem Sim.conv {R:Led→Rho→β→α→Prop} {W W':zaY α} {r:Res β} (c:∀ Q E,W Q E→W' Q E) (h:Sim C S Φ m N ρ mh s R W r) :Sim C S Φ m N ρ mh s R W' r:=by
 cases r with
 | stuck=>trivial
 | ok b mh'=>exact fun Q E hQ=>c _ _ (h Q E hQ)
 | exc mh'=>exact fun Q E hQ=>c _ _ (h Q E hQ)
theorem Sim.done {R:Led→Rho→β→α→Prop} {W:zaY α} {b:β} {a:α} {tk:Nat} (I:Inv C S Φ m N ρ mh s.heap) (r:R N ρ b a) (c:∀ Q E,Q a {s with toks:=tk}→W Q E) :Sim C S Φ m N ρ mh s R W (.ok b mh):=
 fun Q E hQ=>c Q E (hQ a s.heap tk N ρ I (Ext.refl _ _ _) r)
theorem Sim.next {R1:Led→Rho→β→α→Prop} {R2:Led→Rho→γ→δ→Prop} {t1:zaY α} {b:β} {mh1:zax} {r2:Res γ} {W:zaY δ}
 (W2:α→Shared→zaY δ)
 (h1:Sim C S Φ m N ρ mh s R1 t1 (.ok b mh1))
 (comb:∀ Q E,t1 (fun a s₁=>W2 a s₁ Q E) E→W Q E)
 (h2:∀ a h' tk' N' ρ',Inv C S Φ m N' ρ' mh1 h'→Ext N ρ mh N' ρ' mh1→R1 N' ρ' b a→Sim C S Φ m N' ρ' mh1 {s with heap:=h',toks:=tk'} R2 (W2 a {s with heap:=h',toks:=tk'}) r2) :
 Sim C S Φ m N ρ mh s R2 W r2:=by
 cases hg:r2 with
 | stuck=>trivial
 | ok c mh2=>
  intro Q E hQ
  refine comb Q E (h1 _ E fun a h' tk' N' ρ' I X r=>?_)
  have:=h2 a h' tk' N' ρ' I X r
  simp only [hg] at this
  exact this Q E fun a' h'' tk'' N'' ρ'' I' X' r'=>hQ a' h'' tk'' N'' ρ'' I' (X.trans X') r'
 | exc mh2=>
  intro Q E hE
  refine comb Q E (h1 _ E fun a h' tk' N' ρ' I X r=>?_)
  have:=h2 a h' tk' N' ρ' I X r
  simp only [hg] at this
  exact this Q E fun e h'' tk'' f=>hE e h'' tk'' (f.after X)
theorem Sim.lift {R:Led→Rho→β→α→Prop} {W:zaY α} {r:Res β} (I:Inv C S Φ m N ρ mh s.heap) (h:∀ g,UpS Φ.h₀ g→Inv0 C S (Φ.at g) m N ρ mh s.heap→Sim0 C S (Φ.at g) m N ρ mh s R W r) :Sim C S Φ m N ρ mh s R W r:=by
 refine Inv.open I fun g u I0 xb tb=>?_
 have:=h g u I0
 cases r with
 | stuck=>trivial
 | ok b mh'=>exact fun Q E hQ=>this Q E fun a h' tk' N' ρ' I' X r=>hQ a h' tk' N' ρ' ⟨⟨g,u,I'⟩,xb,tb⟩ X r
 | exc mh'=>exact fun Q E hE=>this Q E fun e h' tk' f=>hE e h' tk' ⟨g,u,I0.B,f⟩
theorem Ext.rp {N':Led} {ρ':Rho} {mh':zax} {h:Heap} (X:Ext N ρ mh N' ρ' mh') (I:Inv C S Φ m N ρ mh h) {v:MV} {x:Value} (r:RepV N ρ v x) :RepV N' ρ' v x:=by
 refine Inv.open I fun g u I0 _ _=>?_;exact X.rep I0.H I0.NN r
theorem Ext.rps {N':Led} {ρ':Rho} {mh':zax} {h:Heap} (X:Ext N ρ mh N' ρ' mh') (I:Inv C S Φ m N ρ mh h) {v:List MV} {x:List Value} (r:RepVs N ρ v x) :RepVs N' ρ' v x:=by
 refine Inv.open I fun g u I0 _ _=>?_;exact X.reps I0.H I0.NN r
theorem Inv.hh {h:Heap} (I:Inv C S Φ m N ρ mh h) :Φ.A.handled=none:=by refine Inv.open I fun g u I0 _ _=>?_;exact I0.hh
theorem Inv.hA {h:Heap} (I:Inv C S Φ m N ρ mh h) :Φ.A.frames=some (Φ.fenv :: Φ.outer):=by refine Inv.open I fun g u I0 _ _=>?_;exact I0.hA
theorem Inv.hf {h:Heap} (I:Inv C S Φ m N ρ mh h) :Φ.fenv.frame=some Φ.L:=by refine Inv.open I fun g u I0 _ _=>?_;exact I0.hf
theorem Inv.inK {h:Heap} (I:Inv C S Φ m N ρ mh h) :S.K.In h:=by refine Inv.open I fun g u I0 _ _=>?_;exact I0.X.keeps I0.F.keep
theorem Inv.at {h:Heap} (I:Inv C S Φ m N ρ mh h) {p:Addr × Obj} (hp:p∈ N) :h.get? p.1=some p.2:=by refine Inv.open I fun g u I0 _ _=>?_;exact (I0.NN p hp).1
theorem Inv.neL {h:Heap} (I:Inv C S Φ m N ρ mh h) {p:Addr × Obj} (hp:p∈ N) :p.1≠Φ.L:=by refine Inv.open I fun g u I0 _ _=>?_;exact (I0.NN p hp).2.1
theorem Inv.one {h:Heap} (I:Inv C S Φ m N ρ mh h) {a:Addr} {o o':Obj} (h1:(a,o)∈ N) (h2:(a,o')∈ N) :o=o':=by refine Inv.open I fun g u I0 _ _=>?_;exact zdz I0.NN h1 h2
theorem Inv.lenH {h:Heap} (I:Inv C S Φ m N ρ mh h) :ρ.length=mh.length:=by refine Inv.open I fun g u I0 _ _=>?_;exact I0.H.len
theorem Inv.onto {h h':Heap} (I:Inv C S Φ m N ρ mh h) (k:∀ b o,h.get? b=some o→h'.get? b=some o) :Inv C S Φ m N ρ mh h':=by
 refine Inv.open I fun g u I0 a b=>?_;exact ⟨⟨g,u,I0.onto k⟩,a,b⟩
theorem Inv.noL {h:Heap} (I:Inv C S Φ m N ρ mh h) :Φ.h₀.get? Φ.L=none:=by
 refine Inv.open I fun g u I0 _ _=>?_
 have h1:g.objs.size≤Φ.L:=I0.F.above
 exact Heap.get?_none_of_le (by rw [← u.size];exact h1)
theorem Inv.Llt {h:Heap} (I:Inv C S Φ m N ρ mh h) :@LT.lt Nat _ Φ.L h.objs.size:=by refine Inv.open I fun g u I0 _ _=>?_;exact I0.F.ns.lt
theorem Inv.baselt {h:Heap} (I:Inv C S Φ m N ρ mh h) :@LE.le Nat _ Φ.h₀.objs.size h.objs.size:=by
 refine Inv.open I fun g u I0 _ _=>?_
 have h1:@LE.le Nat _ g.objs.size Φ.L:=I0.F.above
 have h2:@LT.lt Nat _ Φ.L h.objs.size:=I0.F.ns.lt
 have h3:=u.size
 lia
theorem Inv.new {h:Heap} (I:Inv C S Φ m N ρ mh h) :Φ.h₀.get? h.objs.size=none:=Heap.get?_none_of_le I.baselt
theorem Inv.below {h:Heap} (I:Inv C S Φ m N ρ mh h) :∀ p∈ N,p.1≠h.objs.size:=fun p hp=>Nat.ne_of_lt (Heap.lt_size (I.at hp))
theorem Inv.tup_off {h:Heap} (I:Inv C S Φ m N ρ mh h) {a:Addr} {its:Array Value} {n:Nat} (hm:(a,zaU its n)∈ N) :¬ zbS ρ a:=by
 refine Inv.open I fun g u I0 _ _=>?_;exact I0.H.tup_off I0.NN hm
theorem Inv.isNone {h:Heap} (I:Inv C S Φ m N ρ mh h) {p:Addr × Obj} (hp:p∈ N) :Φ.h₀.get? p.1=none:=by
 refine Inv.open I fun g u I0 _ _=>?_
 cases e:Φ.h₀.get? p.1 with
 | none=>rfl
 | some o=>
  refine x1_1 (u.up _ _ e) fun sl e1=>?_
  have:=(I0.NN p hp).2.2
  rw [this] at e1;exact nofO e1
theorem Inv.same {h:Heap} (I:Inv C S Φ m N ρ mh h) {b:Addr} {o:Obj} (hb:Φ.h₀.get? b=some o) (hd:∀ es ep,o.data≠.dict es ep) :h.get? b=some o:=by
 refine Inv.open I fun g u I0 _ _=>?_;exact I0.F.keep _ _ (u.same _ _ hb hd)
theorem Inv.news {h:Heap} (I:Inv C S Φ m N ρ mh h) :News Φ.h₀ Φ.L h N:=fun p hp=>⟨I.at hp,I.neL hp,I.isNone hp⟩
theorem Inv.more {h:Heap} (I:Inv C S Φ m N ρ mh h) {N':Led} (NN':News Φ.h₀ Φ.L h N') (hs:∀ p∈ N,p∈ N') :Inv C S Φ m N' ρ mh h:=by
 refine Inv.open I fun g u I0 a b=>?_
 exact ⟨⟨g,u,I0.more I0.F (fun p hp=>⟨(NN' p hp).1,(NN' p hp).2.1,u.no _ (NN' p hp).2.2⟩) hs⟩,a,b⟩
theorem Inv.pushList {h:Heap} (I:Inv C S Φ m N ρ mh h) {q:Addr} {its:List Value} {n:Nat} {vs:List MV} (NN':News Φ.h₀ Φ.L h ((q,listOf its.toArray n) :: N)) (l:∀ p∈ N,p.1≠q) (r:RepVs N ρ vs its) (hl:its.length≤4096) :
 Inv C S Φ m ((q,listOf its.toArray n) :: N) (ρ ++ [(q,q)]) (mh ++ [.list vs 0]) h∧Ext N ρ mh ((q,listOf its.toArray n) :: N) (ρ ++ [(q,q)]) (mh ++ [.list vs 0])∧
  RepV ((q,listOf its.toArray n) :: N) (ρ ++ [(q,q)]) (.ref mh.length) (.ref q):=by
 refine Inv.open I fun g u I0 a b=>?_
 refine x0_3 (I0.pushList I0.F (fun p hp=>⟨(NN' p hp).1,(NN' p hp).2.1,u.no _ (NN' p hp).2.2⟩) l r hl) fun x y z=>?_
 exact ⟨⟨⟨g,u,x⟩,a,b⟩,y,z⟩
theorem zeA (I:Inv C S Φ m N ρ mh s.heap) {v:MV} {x:Value} (r:RepV N ρ v x) {b:Bool} (hb:zbI mh v=some b) :Sim C S Φ m N ρ mh s RB (wp_ S Φ s (truthy x)) (.ok b mh):=
 Sim.lift I fun g u I=>sim0_truthy (Φ:=Φ.at g) I r hb
theorem sim_neg (I:Inv C S Φ m N ρ mh s.heap) {i:Int} {t:Tok} :Sim C S Φ m N ρ mh s RV (wp_ S Φ s (unaryOp .USub (.int i t))) (.ok (.int (-i)) mh):=
 Sim.lift I fun g u I=>sim0_neg (Φ:=Φ.at g) I
theorem sim_newList (I:Inv C S Φ m N ρ mh s.heap) {vs:List MV} {its:List Value} (r:RepVs N ρ vs its) :Sim C S Φ m N ρ mh s RV (wp_ S Φ s (newList its)) (zaR vs mh):=
 Sim.lift I fun g u I=>sim0_newList (Φ:=Φ.at g) I r
theorem sim_newTuple (I:Inv C S Φ m N ρ mh s.heap) {vs:List MV} {its:List Value} (r:RepVs N ρ vs its) :Sim C S Φ m N ρ mh s RV (wp_ S Φ s (newTuple its)) (mkTup vs mh):=
 Sim.lift I fun g u I=>sim0_newTuple (Φ:=Φ.at g) I r
theorem sim_bin (I:Inv C S Φ m N ρ mh s.heap) {op:Operator} {o:MOp} (ho:opOf op=some o) {v w:MV} {x y:Value} (hx:RepV N ρ v x) (hy:RepV N ρ w y) :Sim C S Φ m N ρ mh s RV (wp_ S Φ s (binaryOp op x y)) (binV o v w mh):=
 Sim.lift I fun g u I=>sim0_bin (Φ:=Φ.at g) I ho hx hy
theorem sim_isInt (I:Inv C S Φ m N ρ mh s.heap) {v:MV} {x:Value} (r:RepV N ρ v x) :Sim C S Φ m N ρ mh s RV (wp_ S Φ s (call (.builtin "isinstance") [x,.type "int"])) (biV .isInt [v] mh):=
 Sim.lift I fun g u I=>sim0_isInt (Φ:=Φ.at g) I r
theorem sim_isBool (I:Inv C S Φ m N ρ mh s.heap) {v:MV} {x:Value} (r:RepV N ρ v x) :Sim C S Φ m N ρ mh s RV (wp_ S Φ s (call (.builtin "isinstance") [x,.type "bool"])) (biV .isBool [v] mh):=
 Sim.lift I fun g u I=>sim0_isBool (Φ:=Φ.at g) I r
theorem sim_bi (I:Inv C S Φ m N ρ mh s.heap) {b:MBi} {vs:List MV} {xs:List Value} (r:RepVs N ρ vs xs) :Sim C S Φ m N ρ mh s RV (wp_ S Φ s (call (biVal b) (biArgs b xs))) (biV b vs mh):=
 Sim.lift I fun g u I=>sim0_bi (Φ:=Φ.at g) I r
theorem sim_cmp (I:Inv C S Φ m N ρ mh s.heap) (hu:Φ.A.units + 16 < cLine) {op:CmpOp} {o:MCmp} (ho:cmpOf op=some o) {v w:MV} {x y:Value} (h1:RepV N ρ v x) (h2:RepV N ρ w y) :Sim C S Φ m N ρ mh s RV (wp_ S Φ s (compareOp op x y)) (cmpR mh o v w):=
 Sim.lift I fun g u I=>sim0_cmp (Φ:=Φ.at g) I hu ho h1 h2
theorem sim_item (I:Inv C S Φ m N ρ mh s.heap) {value slice:PySem.Expr} (hs:zcL slice) {v w:MV} {x y:Value} (h1:RepV N ρ v x) (h2:RepV N ρ w y) :Sim C S Φ m N ρ mh s RV (wp_ S Φ s (subscriptTail value slice x y)) (itemR mh v w):=
 Sim.lift I fun g u I=>sim0_item (Φ:=Φ.at g) I hs h1 h2
theorem sim_slice (to:Bool) (I:Inv C S Φ m N ρ mh s.heap) {value:PySem.Expr} {lo up:Option PySem.Expr} {pp:Pos} {v w:MV} {x y:Value} (h1:RepV N ρ v x) (h2:RepV N ρ w y) :
 Sim C S Φ m N ρ mh s RV (fun Q E=>wpAny S.M Φ.A (subscriptTail value (.Slice lo up none pp) x (.ref s.heap.objs.size)) Q E {s with heap:=s.heap.push (zbC (if to then .none else y) (if to then y else .none))}) (zbT to v w mh):=
 Sim.lift I fun g u I=>sim0_slice (Φ:=Φ.at g) to I h1 h2
theorem sim_attr (A:AtOK C) (K:∀ c,(C.T.cinit c).isSome=true→ClsOK C S c) (I:Inv C S Φ m N ρ mh s.heap) {v:MV} {x:Value} (r:RepV N ρ v x) {a:Nat} (ha:a < C.G.at_.length) {expr:Bool} :
 Sim C S Φ m N ρ mh s RV (wp_ S Φ s (getAttr x (C.atn a) expr)) (attrV C.T v a mh):=
 Sim.lift I fun g u I=>sim0_attr (Φ:=Φ.at g) A K I r ha
theorem zeP (A:AtOK C) (K:∀ c,(C.T.cinit c).isSome=true→ClsOK C S c) (I:Inv C S Φ m N ρ mh s.heap) {v w:MV} {x y:Value} (r:RepV N ρ v x) (r':RepV N ρ w y) {a:Nat} (ha:a < C.G.at_.length) :
 Sim C S Φ m N ρ mh s (fun _ _ (_:Unit) (_:Unit)=>True) (wp_ S Φ s (setAttr x (C.atn a) y)) (zbE v a w mh):=
 Sim.lift I fun g u I=>sim0_setAttr (Φ:=Φ.at g) A K I r r' ha
theorem sim_setItem (I:Inv C S Φ m N ρ mh s.heap) {v w u:MV} {x y z:Value} (r:RepV N ρ v x) (r':RepV N ρ w y) (r'':RepV N ρ u z) :Sim C S Φ m N ρ mh s RU (wp_ S Φ s (setItem x y z)) (zdx v w u mh):=
 Sim.lift I fun g _ I=>sim0_setItem (Φ:=Φ.at g) I r r' r''
theorem sim_append (I:Inv C S Φ m N ρ mh s.heap) {v w:MV} {x y:Value} (r:RepV N ρ v x) (r':RepV N ρ w y) :Sim C S Φ m N ρ mh s RV (wp_ S Φ s (call (.builtin "list.append") [x,y])) (zdE v w mh):=
 Sim.lift I fun g u I=>sim0_append (Φ:=Φ.at g) I r r'
set_option tactic.hygienic true in
theorem sim0_getItem (I:Inv0 C S Φ m N ρ mh s.heap) {v w:MV} {x y:Value} (h1:RepV N ρ v x) (h2:RepV N ρ w y) :
 Sim0 C S Φ m N ρ mh s RV (wp_ S Φ s (getItem x y)) (itemR mh v w):=by
 cases w with
 | int k=>
  refine x1_1 h2.int_ ?_;rintro t rfl
  simp only [itemR]
  cases v with
  | tup vs=>
   refine x3_4 h1.tup_ ?_;rintro a its n rfl mm r l
   simp only [zaG]
   cases hj:zeR k vs.length with
   | none=>trivial
   | some j=>
    simp only [Option.bind_some]
    cases hv:vs[j]? with
    | none=>trivial
    | some u=>
     refine x1_2 (r.get hv) fun xx hx rx=>?_
     have hb:-(2 ^ 63)≤k∧k < 2 ^ 63:=by
      have:=r.length
      unfold zeR at hj
      split at hj
      · split at hj
        · constructor <;> lia
        · exact nofO hj
      · split at hj
        · constructor <;> lia
        · exact nofO hj
     refine Sim0.done (tk:=s.toks) I rx fun Q E h=>getItem_tuple (j:=j) (I.isTup mm) hb.1 hb.2 ?_ ?_ h
     · simp only [List.size_toArray,r.length];exact zeM hj
     · simpa using hx
  | ref i=>
   refine x1_2 h1.ref_ ?_;rintro p hp rfl
   simp only [zaG]
   cases hv:items? mh i with
   | none=>trivial
   | some vs=>
    refine x1_3 (I.isList hp hv) fun its L r l=>?_
    have hlen:=r.length
    simp only [Option.bind_eq_bind,Option.bind_some]
    cases hj:zeR k vs.length with
    | none=>trivial
    | some j=>
     simp only [Option.bind_some]
     cases hw:vs[j]? with
     | none=>trivial
     | some u=>
      refine x1_2 (r.get hw) fun xx hx rx=>?_
      unfold zeR at hj
      split at hj
      · split at hj
        · (refine sy1 (Option.some.inj hj) ?_;clear hj;intro zq;subst zq)
          exact Sim0.done (tk:=s.toks) I rx fun Q E h=>wpAny_getItem_list L (by assumption) (by lia) (by simpa using hx) h
        · exact nofO hj
      · split at hj
        · (refine sy1 (Option.some.inj hj) ?_;clear hj;intro zq;subst zq)
          rename_i q1 q2
          refine Sim0.done (tk:=s.toks) I rx fun Q E h=>wpAny_getItem_list_neg L (by (with_reducible exact Int.not_le.mp (by assumption))) (by rw [List.size_toArray];lia) (by lia) ?_ h
          have e:(k + (its.toArray.size:Int)).toNat=vs.length - (-k).toNat:=by rw [List.size_toArray];lia
          rw [e];simpa using hx
        · exact nofO hj
  | _=>trivial
 | _=>trivial
theorem sim_getItem (I:Inv C S Φ m N ρ mh s.heap) {v w:MV} {x y:Value} (h1:RepV N ρ v x) (h2:RepV N ρ w y) :Sim C S Φ m N ρ mh s RV (wp_ S Φ s (getItem x y)) (itemR mh v w):=
 Sim.lift I fun g u I=>sim0_getItem (Φ:=Φ.at g) I h1 h2
end
theorem forIn_fold {α β:Type} (f:β→α→β) (g:α→β→Sem (ForInStep β)) (hg:∀ a b,g a b=pure (ForInStep.yield (f b a))) :∀ (l:List α) (b:β),forIn l b g=(pure (l.foldl f b) :Sem β)
 | [],b=>rfl
 | a :: r,b=>by
  rw [List.forIn_cons,hg]
  show (pure (ForInStep.yield (f b a)) :Sem _) >>= _ = _
  exact forIn_fold f g hg r (f b a)
noncomputable def zcS (slots:List (Str × Value)) (x:Str × Value) :List (Str × Value):=if (slots.lookup x.1).isNone=true then slots ++ [(x.1,x.2)] else slots
theorem zcE:∀ {names:List Str} {xs:List Value} {n:Str} {j:Nat},j≤xs.length→n∈ names.take j→((names.zip xs).lookup n).isSome=true
 | [],xs,n,j,h,hn=>by simp at hn
 | a :: r,[],n,j,h,hn=>by
  simp at h;subst h;simp at hn
 | a :: r,x :: xs,n,0,h,hn=>by simp at hn
 | a :: r,x :: xs,n,j + 1,h,hn=>by
  simp only [List.zip_cons_cons,List.lookup_cons]
  by_cases e:n=a
  · subst e;simp
  · have e':(n == a)=false:=beq_eq_false_iff_ne.mpr e
    rw [e']
    simp only [List.take_succ_cons,List.mem_cons] at hn
    exact zcE (by simpa using h) (hn.resolve_left e)
theorem fold_skip:∀ (L slots:List (Str × Value)),(∀ x∈ L,(slots.lookup x.1).isSome=true)→L.foldl zcS slots=slots
 | [],slots,h=>rfl
 | x :: r,slots,h=>by
  have:zcS slots x=slots:=by
   unfold zcS
   have:=h x (.head _)
   rw [if_neg (by cases q:slots.lookup x.1 <;> simp_all)]
  simp only [List.foldl_cons,this]
  exact fold_skip r slots fun y hy=>h y (.tail _ hy)
theorem zdX:∀ {names:List Str} {xs:List Value} {n:Str},n ∉ names→(names.zip xs).lookup n=none
 | [],xs,n,h=>rfl
 | a :: r,[],n,h=>rfl
 | a :: r,x :: xs,n,h=>by
  simp only [List.zip_cons_cons,List.lookup_cons]
  have e':(n == a)=false:=beq_eq_false_iff_ne.mpr fun e=>h (e ▸ .head _)
  rw [e']
  exact zdX fun q=>h (.tail _ q)
theorem fold_add:∀ (rest:List Str) (ws:List Value) (pre:List Str) (zs:List Value),(pre ++ rest).Nodup→pre.length=zs.length→rest.length=ws.length→
 (rest.zip ws).foldl zcS (pre.zip zs)=(pre ++ rest).zip (zs ++ ws)
 | [],[],pre,zs,_,_,_=>by simp
 | [],_ :: _,pre,zs,_,_,h=>by simp at h
 | _ :: _,[],pre,zs,_,_,h=>by simp at h
 | n :: r,w :: ws,pre,zs,nd,h1,h2=>by
  have hn:n ∉ pre:=fun q=>by
   have:=List.nodup_append.mp nd
   exact this.2.2 n q n (.head _) rfl
  have e:zcS (pre.zip zs) (n,w)=(pre ++ [n]).zip (zs ++ [w]):=by
   unfold zcS
   rw [if_pos (by rw [zdX hn];rfl)]
   rw [List.zip_append h1];rfl
  simp only [List.zip_cons_cons,List.foldl_cons,e]
  have:=fold_add r ws (pre ++ [n]) (zs ++ [w]) (by rw [List.append_assoc];exact nd) (by simp [h1]) (by simpa using h2)
  simp only [this]
  simp
theorem filter_zip:∀ (names:List Str) (vs:List Value),names.Nodup→vs.length=names.length→(names.filterMap fun n=>((names.zip vs).lookup n).map (n,·))=names.zip vs
 | [],vs,_,h=>rfl
 | a :: r,[],_,h=>by simp at h
 | a :: r,v :: vs,nd,h=>by
  have nd':=List.nodup_cons.mp nd
  rw [List.zip_cons_cons,List.filterMap_cons]
  simp only [List.lookup_cons,beq_self_eq_true,Option.map_some]
  congr 1
  rw [← filter_zip r vs nd'.2 (by simpa using h)]
  have:∀ l:List Str,(∀ n∈ l,n≠a)→(l.filterMap fun n=>((match n == a with | true=>some v | false=>(r.zip vs).lookup n) :Option Value).map (n,·))=l.filterMap fun n=>((r.zip vs).lookup n).map (n,·):=by
   intro l
   induction l with
   | nil=>intro _;rfl
   | cons n l ih=>
    intro hl
    have e:(n == a)=false:=beq_eq_false_iff_ne.mpr (hl n (.head _))
    rw [List.filterMap_cons,List.filterMap_cons,e]
    rw [ih fun m hm=>hl m (.tail _ hm)]
  have t:=this r fun n hn e=>nd'.1 (e ▸ hn)
  rw [filter_zip r vs nd'.2 (by simpa using h)] at t ⊢
  exact t
theorem zeW:∀ (names:List Str) (xs:List Value),names.zip xs=(names.take xs.length).zip xs
 | [],xs=>by simp
 | n :: r,[]=>rfl
 | n :: r,x :: xs=>by
  simp only [List.length_cons,List.take_succ_cons,List.zip_cons_cons,List.zip_cons_cons,← zeW r xs]
theorem sub_add3 {a b c:Nat} (h2:a≤c + b) (h3:b≤a) :a - b + (c + b - a)=c:=by
 refine x1_1 (Nat.exists_eq_add_of_le h3) ?_;rintro k rfl
 rw [Nat.add_sub_cancel_left,Nat.add_comm b k]
 refine x1_1 (Nat.exists_eq_add_of_le (Nat.le_of_add_le_add_right (Nat.add_comm b k ▸ h2))) ?_;rintro j rfl
 rw [Nat.add_right_comm,Nat.add_sub_cancel_left]
theorem sub_sub3 {n x d:Nat} (h1:x≤n) (h2:n≤x + d) :n - x=d - (x + d - n):=by
 refine x1_1 (Nat.exists_eq_add_of_le h1) ?_;rintro k rfl
 refine x1_1 (Nat.exists_eq_add_of_le (Nat.le_of_add_le_add_left h2)) ?_;rintro j rfl
 rw [Nat.add_sub_cancel_left,← Nat.add_assoc,Nat.add_sub_cancel_left,Nat.add_sub_cancel]
theorem slots_all {names:List Str} (nd:names.Nodup) {xs D:List Value} (h1:xs.length≤names.length) (h2:names.length≤xs.length + D.length) (h3:D.length≤names.length) :
 ((names.drop (names.length - D.length)).zip D).foldl zcS (names.zip xs)=names.zip (xs ++ D.drop (xs.length + D.length - names.length)):=by
 have s1:names=names.take xs.length ++ names.drop xs.length:=(List.take_append_drop _ _).symm
 have s2:names.drop (names.length - D.length)=(names.drop (names.length - D.length)).take (xs.length + D.length - names.length) ++ names.drop xs.length:=by
  have:=(List.take_append_drop (xs.length + D.length - names.length) (names.drop (names.length - D.length))).symm
  rw [List.drop_drop] at this
  have e:=sub_add3 h2 h3
  rw [e] at this;exact this
 have s3:D=D.take (xs.length + D.length - names.length) ++ D.drop (xs.length + D.length - names.length):=(List.take_append_drop _ _).symm
 have s4:(names.drop (names.length - D.length)).zip D=((names.drop (names.length - D.length)).take (xs.length + D.length - names.length)).zip (D.take (xs.length + D.length - names.length)) ++ (names.drop xs.length).zip (D.drop (xs.length + D.length - names.length)):=
  (congr (congrArg List.zip s2) s3).trans (List.zip_append (by simp only [List.length_take,List.length_take,List.length_drop,Nat.sub_sub_self h3]))
 have hs:(((names.drop (names.length - D.length)).take (xs.length + D.length - names.length)).zip (D.take (xs.length + D.length - names.length))).foldl zcS (names.zip xs)=names.zip xs:=by
  refine fold_skip _ _ fun x hx=>?_
  have hm:x.1∈ (names.drop (names.length - D.length)).take (xs.length + D.length - names.length):=(List.of_mem_zip (a:=x.1) (b:=x.2) hx).1
  rw [List.take_drop] at hm
  have e:=sub_add3 h2 h3
  rw [e] at hm
  exact zcE (j:=xs.length) (Nat.le_refl _) (List.mem_of_mem_drop hm)
 rw [s4,List.foldl_append,hs,zeW names xs]
 rw [fold_add]
 · rw [← s1]
 · rw [← s1];exact nd
 · rw [List.length_take];exact Nat.min_eq_left h1
 · simp only [List.length_drop,List.length_drop];exact sub_sub3 h1 h2
theorem bindArgs_plain {fd:FuncData} {as:List Arg} {ds:List Expr} {xs:List Value} (hp:fd.params=⟨[],as,none,[],[],none,ds⟩) (nd:(as.map (·.arg)).Nodup) (h1:xs.length≤as.length) :
 ∃ k:Option (Array Value)→Sem (List (Str × Value)),bindArgs fd ⟨xs,[]⟩=seqItems? fd.defaults >>= k∧∀ (d:Option (Array Value)) (D:List Value),(d.getD #[]).toList=D→as.length≤xs.length + D.length→D.length≤as.length→
  k d=pure ((as.map (·.arg)).zip (xs ++ D.drop (xs.length + D.length - as.length))):=by
 obtain ⟨fname,qn,params,body,scope,gl,cl,dV,kV,doc,pm,an,cd,ct,bl⟩:=fd
 have hp:params= _:=hp
 subst hp
 refine ⟨_,rfl,fun d D hD h2 h3=>?_⟩
 have hl:(as.map (·.arg)).length=as.length:=List.length_map _
 have n1:¬ ((decide (xs.length > (as.map (·.arg)).length) && (none:Option Arg).isNone)=true):=by simp;assumption
 have n0:(d.getD #[]).toList.drop ((d.getD #[]).toList.length - (as.map (·.arg)).length)=D:=by simp only [hD,hl,Nat.sub_eq_zero_of_le h3];rfl
 have n3:(List.filter (fun n=>(List.lookup n ((as.map (·.arg)).zip xs)).isNone) (List.take ((as.map (·.arg)).length - D.length) (as.map (·.arg))))= []:=by
  rw [List.filter_eq_nil_iff]
  intro n hn q
  have:=zcE (xs:=xs) (by rw [hl];omega) hn
  rw [Option.isNone_iff_eq_none.mp q] at this
  exact noC Bool.ctorIdx this rfl
 refine (if_neg n1).trans ((if_neg ?n2).trans ?_)
 case n2=>
  show ¬ ((!(List.filter (fun n=>(List.lookup n ((as.map (·.arg)).zip xs)).isNone) (List.take ((as.map (·.arg)).length - (List.drop ((d.getD #[]).toList.length - (as.map (·.arg)).length) (d.getD #[]).toList).length) (as.map (·.arg)))).isEmpty)=true)
  rw [n0,n3];exact fun h=>nomatch h
 show (forIn (List.zip (List.drop ((as.map (·.arg)).length - (List.drop ((d.getD #[]).toList.length - (as.map (·.arg)).length) (d.getD #[]).toList).length) (as.map (·.arg))) (List.drop ((d.getD #[]).toList.length - (as.map (·.arg)).length) (d.getD #[]).toList)) ((as.map (·.arg)).zip xs) _ >>= _)= _
 rw [n0]
 refine (congrArg (fun m=>m >>= _) (forIn_fold zcS _ (fun a b=>?hg) _ _)).trans ?_
 case hg=>
  obtain ⟨k,v⟩:=a
  by_cases q:(b.lookup k).isNone=true
  · exact (if_pos q).trans (congrArg (fun z=>pure (ForInStep.yield z)) (if_pos q).symm)
  · exact (if_neg q).trans (congrArg (fun z=>pure (ForInStep.yield z)) (if_neg q).symm)
 have e:=slots_all nd (xs:=xs) (D:=D) (by rw [hl];assumption) (by rw [hl];assumption) (by rw [hl];assumption)
 show (pure (List.filterMap (fun n=>(List.lookup n (((((as.map (·.arg)).drop ((as.map (·.arg)).length - D.length)).zip D).foldl zcS ((as.map (·.arg)).zip xs)))).map (n,·)) (as.map (·.arg) ++ [])) :Sem _)= _
 rw [List.append_nil,e,hl]
 exact congrArg pure (filter_zip _ _ nd (by simp only [List.length_append,List.length_drop,List.length_map];omega))
theorem binds_of {s:Shared} {fd:FuncData} {as:List Arg} {ds:List Expr} {xs D:List Value} (hp:fd.params=⟨[],as,none,[],[],none,ds⟩) (nd:(as.map (·.arg)).Nodup)
 (hD:(fd.defaults= .none∧D= [])∨∃ T o n,fd.defaults= .ref T∧s.heap.get? T=some o∧o.data= .seq D.toArray n) (h1:xs.length≤as.length) (h2:as.length≤xs.length + D.length) (h3:D.length≤as.length) :
 BindsTo s fd ⟨xs,[]⟩ ((as.map (·.arg)).zip (xs ++ D.drop (xs.length + D.length - as.length))):=by
 refine x1_2 (bindArgs_plain (xs:=xs) hp nd h1) fun k e hk=>?_
 rcases hD with ⟨hd,rfl⟩ | ⟨T,o,n,hd,ho,hs⟩
 · refine BindsTo.of_eq ?_
   rw [e,hd]
   show (pure none:Sem _) >>= k= _
   exact hk none [] rfl h2 h3
 · exact BindsTo.of_defaults hd ho hs e (hk (some D.toArray) D rfl h2 h3)
noncomputable def GlobFact (C:Cfg) (S:Stat) (x:Str) :GV→Prop
 | .int k=>∃ t,nsIn S.K mainGlobals x=some (some (.int k t))
 | .fn f=>nsIn S.K mainGlobals x=some (some (.ref (C.fnA f)))∧keepIn S.K (.ref (C.fnA f))=true
 | .cls c=>nsIn S.K mainGlobals x=some (some (.ref (C.clsA c)))∧(C.T.cinit c).isSome=true
 | .exc c=>nsIn S.K mainGlobals x=some (some (.ref (C.excA c)))
 | .bi b=>nsIn S.K mainGlobals x=some none∧bootBuiltins x=some (biVal b)∧x≠"__name__" ∧b≠.isInt∧b≠.isBool∧b≠.append∧b≠.toInt
 | .range=>nsIn S.K mainGlobals x=some none∧bootBuiltins x=some (.type "range")∧x≠"__name__"
 | .enum=>nsIn S.K mainGlobals x=some none∧bootBuiltins x=some (.type "enumerate")∧x≠"__name__"
 | .isinst=>nsIn S.K mainGlobals x=some none∧bootBuiltins x=some (.builtin "isinstance")∧x≠"__name__"
 | .tyInt=>nsIn S.K mainGlobals x=some none∧bootBuiltins x=some (.type "int")∧x≠"__name__"
 | .tyBool=>nsIn S.K mainGlobals x=some none∧bootBuiltins x=some (.type "bool")∧x≠"__name__"
structure Sit (C:Cfg) (S:Stat) :Prop where
 glob:∀ x g,C.G.gt.lookup x=some g→GlobFact C S x g
 at_:AtOK C
 cls:∀ c,(C.T.cinit c).isSome=true→ClsOK C S c
 noSuper:C.G.gt.lookup (Str.ofString "super")=none
structure EnvOK (env:Env) (Γ:Gam) (sc:Scope) :Prop where
 kind:env.scope.kind= .function
 glob:env.globals=mainGlobals
 blt:env.builtins=builtinsNs
 names:∀ x k,Γ.names.lookup x=some k→(x == ("__debug__" :Str))=false∧(x == ("__classdict__" :Str))=false
 gl:∀ x,Γ.names.lookup x=some none→env.kindOf x=some .globalImplicit
 slots:∀ x i,Γ.names.lookup x=some (some i)→i < Γ.n
 cells:∀ x,sc.names.lookup x=some .cell→env.kindOf x=some .cell∧∃ c,env.cells.lookup x=some c
inductive VarAt (env:Env) (L:Addr) (m:Str→Option Value) (N:Led) (ρ:Rho) (x:Str) (v:Value) :Prop
 | loc:env.kindOf x=some .local→env.locals=L→m x=some v→VarAt env L m N ρ x v
 | cell (c:Addr) (o:Obj) :env.kindOf x=some .cell→env.cells.lookup x=some c→(c,o)∈ N→o.data= .cell (some v)→VarAt env L m N ρ x v
 | free (c:Addr) (o:Obj) :env.kindOf x=some .free→env.cells.lookup x=some c→(c,o)∈ N→o.data= .cell (some v)→VarAt env L m N ρ x v
 | own (o:Obj) (m₂:Str→Option Value) :env.kindOf x=some .local→(env.locals,o)∈ N→LCg.NsObj o m₂→m₂ x=some v→¬ zbS ρ env.locals→VarAt env L m N ρ x v
structure VOK (env:Env) (Γ:Gam) (L:Addr) (m:Str→Option Value) (N:Led) (ρ:Rho) (l:Locs) :Prop where
 len:l.length=Γ.n
 var:∀ x i mv,Γ.names.lookup x=some (some i)→l[i]? =some (some mv)→∃ v,VarAt env L m N ρ x v∧RepV N ρ mv v
noncomputable def Room (Φ:Fram) (n:Nat) :Prop:=Φ.A.depth + 2 * n + 8 < recursionLimit∧Φ.A.units + 16 * n + 64 < cLine
section
variable {C:Cfg} {S:Stat} {Φ:Fram} {m:Str→Option Value} {N:Led} {ρ:Rho} {mh:zax} {s:Shared} {α β γ δ:Type} {env:Env} {Γ:Gam} {l:Locs} {sc:Scope}
theorem Inv.cell_off {h:Heap} (I:Inv C S Φ m N ρ mh h) {c:Addr} {o:Obj} {v:Option Value} (hm:(c,o)∈ N) (hd:o.data= .cell v) :¬ zbS ρ c:=fun hi=>by
 refine Inv.open I fun g u I _ _=>?_
 rcases I.H.key I.NN hm hi with ⟨_,_,e⟩ | ⟨_,_,e⟩ | ⟨_,_,e⟩ <;> (rw [e] at hd;cases hd)
theorem VarAt.ext {h:Heap} (I:Inv C S Φ m N ρ mh h) {N':Led} {ρ':Rho} {mh':zax} (X:Ext N ρ mh N' ρ' mh') {L:Addr} {x:Str} {v:Value} (V:VarAt env L m N ρ x v) :VarAt env L m N' ρ' x v:=by
 cases V with
 | loc a b c=>exact .loc a b c
 | cell c o a b d e=>exact .cell c o a b (X.keep _ d (I.cell_off d e)) e
 | free c o a b d e=>exact .free c o a b (X.keep _ d (I.cell_off d e)) e
 | own o m₂ a b d e f=>exact .own o m₂ a (X.keep _ b f) d e (X.off b f)
theorem VOK.ext {h:Heap} (V:VOK env Γ Φ.L m N ρ l) (I:Inv C S Φ m N ρ mh h) {N':Led} {ρ':Rho} {mh':zax} (X:Ext N ρ mh N' ρ' mh') :VOK env Γ Φ.L m N' ρ' l where
 len:=V.len
 var:=fun x i mv h1 h2=>let ⟨v,a,b⟩:=V.var x i mv h1 h2;⟨v,a.ext I X,X.rp I b⟩
theorem VarAt.load (I:Inv C S Φ m N ρ mh s.heap) (E₀:EnvOK env Γ sc) {x:Str} {v:Value} {k:Option Nat} (hx:Γ.names.lookup x=some k) (V:VarAt env Φ.L m N ρ x v) {A:Around} {Q:Value→Shared→Prop} {E:Value→Shared→Prop} (h:Q v s) :
 wpAny S.M A (loadName env x) Q E s:=by
 refine Inv.open I fun g u I _ _=>?_
 cases V with
 | loc a b c=>exact wpAny_loadName_local E₀.kind a (b ▸ I.F.ns) c h
 | cell c o a b d e=>exact wpAny_loadName_cell E₀.kind a b ⟨o,(I.NN _ d).1,e⟩ h
 | free c o a b d e=>exact wpAny_loadName_free E₀.kind a b ⟨o,(I.NN _ d).1,e⟩ h (E₀.names x k hx).2
 | own o m₂ a b d e f=>exact wpAny_loadName_local E₀.kind a (d.ns (I.NN _ b).1) e h
theorem zfD (I:Inv C S Φ m N ρ mh s.heap) (E₀:EnvOK env Γ sc) {x:Str} {pos:Pos} {v:Value} (hx:Γ.names.lookup x=some none) (e:nsIn S.K mainGlobals x=some (some v)) {Q:Value→Shared→Prop} {E:Value→Shared→Prop} (h:Q v s) :
 wpAny S.M Φ.A (eval (.Name x pos) env) Q E s:=
 let ⟨⟨g,u,I⟩,_,_⟩:=I
 Name_function_global E₀.kind (E₀.gl x hx) (loadGlobal_global (by rw [E₀.glob];exact I.T.g.keeps I.F.keep) (mg_of I.X I.T.g e) h) (E₀.names x _ hx).1
theorem zcO (I:Inv C S Φ m N ρ mh s.heap) (E₀:EnvOK env Γ sc) {x:Str} {pos:Pos} {v:Value} (hx:Γ.names.lookup x=some none) (e:nsIn S.K mainGlobals x=some none) (hv:bootBuiltins x=some v) (hn:x≠"__name__") {Q:Value→Shared→Prop} {E:Value→Shared→Prop} (h:Q v s) :
 wpAny S.M Φ.A (eval (.Name x pos) env) Q E s:=
 let ⟨⟨g,u,I⟩,_,_⟩:=I
 Name_function_global E₀.kind (E₀.gl x hx) (loadGlobal_builtin (by rw [E₀.glob];exact I.T.g.keeps I.F.keep) (mg_none_of I.X I.T.g e) (by rw [E₀.blt];exact I.T.b.keeps I.F.keep) ((I.T.builtins x hn).trans hv) h) (E₀.names x _ hx).1
theorem sim_name (Z:Sit C S) {Ψ:Nat→List MV→zax→Res MV} (I:Inv C S Φ m N ρ mh s.heap) (E₀:EnvOK env Γ sc) (V:VOK env Γ Φ.L m N ρ l) {x:Str} {pos:Pos} :
 Sim C S Φ m N ρ mh s RV (wp_ S Φ s (eval (.Name x pos) env)) (zaw C.T Ψ (nameE C.G Γ x) l mh):=by
 unfold nameE
 cases hx:Γ.names.lookup x with
 | none=>trivial
 | some k=>
  cases k with
  | some i=>
   show Sim _ _ _ _ _ _ _ _ _ _ (match (l[i]?).join with | some v=> .ok v mh | none=> .stuck)
   cases hl:l[i]? with
   | none=>trivial
   | some o=>
    cases o with
    | none=>trivial
    | some mv=>
     refine x1_2 (V.var x i mv hx hl) fun v Va r=>?_
     exact Sim.done (tk:=s.toks) I r fun Q E h=>wpAny_Name (Va.load I E₀ hx h) (E₀.names x _ hx).1
  | none=>
   dsimp only
   cases hg:C.G.gt.lookup x with
   | none=>trivial
   | some g=>
    cases g with
    | int k=>
     refine x1_1 (Z.glob x _ hg) fun t ht=>?_
     exact Sim.done (tk:=s.toks) I (a:= .int k t) zbz fun Q E h=>zfD I E₀ hx ht h
    | _=>trivial
theorem sim_constInt {Ψ:Nat→List MV→zax→Res MV} (I:Inv C S Φ m N ρ mh s.heap) {i:Int} {k:Nat} {pos:Pos} :Sim C S Φ m N ρ mh s RV (wp_ S Φ s (eval (.Constant (.int i) k pos) env)) (zaw C.T Ψ (.const (.int i)) l mh):=by
 exact Sim.done I zbz fun Q E h=>wpAny_Constant_int h
theorem sim_constNone {Ψ:Nat→List MV→zax→Res MV} (I:Inv C S Φ m N ρ mh s.heap) {k:Nat} {pos:Pos} :Sim C S Φ m N ρ mh s RV (wp_ S Φ s (eval (.Constant .none k pos) env)) (zaw C.T Ψ (.const .none) l mh):=by
 exact Sim.done (tk:=s.toks) I repNone fun Q E h=>wpAny_Constant_none h
theorem sim_constBool {Ψ:Nat→List MV→zax→Res MV} (I:Inv C S Φ m N ρ mh s.heap) {b:Bool} {k:Nat} {pos:Pos} :Sim C S Φ m N ρ mh s RV (wp_ S Φ s (eval (.Constant (.bool b) k pos) env)) (zaw C.T Ψ (.const (.bool b)) l mh):=by
 exact Sim.done (tk:=s.toks) I zbJ fun Q E h=>(fun _ _ _=>h)
theorem sim_constStr {Ψ:Nat→List MV→zax→Res MV} (I:Inv C S Φ m N ρ mh s.heap) {b:Str} {k:Nat} {pos:Pos} :Sim C S Φ m N ρ mh s RV (wp_ S Φ s (eval (.Constant (.str b) k pos) env)) (zaw C.T Ψ (.const (.str b)) l mh):=by
 exact Sim.done (tk:=s.toks + 1) I (a:= .str b s.toks) repStr fun Q E h=>(fun _ _ _=>h)
theorem Room.units {n:Nat} (h:Room Φ n) :Φ.A.units + 16 < cLine:=by have:=h.2;lia
end
noncomputable def SimE (C:Cfg) (S:Stat) (n:Nat) (sc:Scope) (e:PySem.Expr) :Prop:=
 ∀ (Φ:Fram) (Γ:Gam) (env:Env) (l:Locs) (m:Str→Option Value) (N:Led) (ρ:Rho) (mh:zax) (s:Shared),Inv C S Φ m N ρ mh s.heap→Room Φ n→EnvOK env Γ sc→VOK env Γ Φ.L m N ρ l→
  Sim C S Φ m N ρ mh s RV (wp_ S Φ s (eval e env)) (zaw C.T (zay C.T C.fns n) (trE C.G Γ e) l mh)
noncomputable def zcJ (r:Res MV) :Res Bool:=r.bind fun v h=>match zbI h v with | some b=> .ok b h | none=> .stuck
noncomputable def SimT (C:Cfg) (S:Stat) (n:Nat) (sc:Scope) (e:PySem.Expr) :Prop:=
 ∀ (Φ:Fram) (Γ:Gam) (env:Env) (l:Locs) (m:Str→Option Value) (N:Led) (ρ:Rho) (mh:zax) (s:Shared),Inv C S Φ m N ρ mh s.heap→Room Φ n→EnvOK env Γ sc→VOK env Γ Φ.L m N ρ l→
  Sim C S Φ m N ρ mh s RB (wp_ S Φ s (isTrue e env (eval e env))) (zcJ (zaw C.T (zay C.T C.fns n) (trE C.G Γ e) l mh))
section
variable {C:Cfg} {S:Stat} {n:Nat} {sc:Scope}
theorem SimE.test {e:PySem.Expr} (h:SimE C S n sc e) (he:∀ env (whole:Sem Value),isTrue e env whole=(do let v ← whole;standAt e.pos;holding [v] (truthy v))) :SimT C S n sc e:=by
 intro Φ Γ env l m N ρ mh s I R E₀ V
 refine Sim.seq (fun a s₁ Q E=>wpAny S.M Φ.A (truthy a) Q E s₁) (h Φ Γ env l m N ρ mh s I R E₀ V) (fun Q E h=>wpAny_isTrue_value h (he _ _)) fun b mh' a h' tk' N' ρ' I' X r=>?_
 cases ht:zbI mh' b with
 | none=>trivial
 | some c=>exact zeA I' r ht
end
end Mine
set_option linter.unusedSimpArgs false
namespace Mine
open PySem PySem.W PySem.Calls PyProof.Rows
theorem Res.bind_assoc {α β γ:Type} (r:Res α) (f:α→zax→Res β) (g:β→zax→Res γ) :(r.bind f).bind g=r.bind fun a h=>(f a h).bind g:=by
 cases r <;> rfl
theorem Res.bind_congr {α β:Type} {r:Res α} {f g:α→zax→Res β} (h:∀ a h',f a h'=g a h') :r.bind f=r.bind g:=by
 have:f=g:=funext fun a=>funext fun h'=>h a h'
 rw [this]
section
variable {C:Cfg} {S:Stat} {n:Nat} {sc:Scope}
theorem zdN {α β:Type} {Φ:Fram} {m:Str→Option Value} {N:Led} {ρ:Rho} {mh:zax} {s:Shared} {R1:Led→Rho→α→β→Prop} {W:zaY β} {r r':Res α} (e:r=r') (h:Sim C S Φ m N ρ mh s R1 W r') :Sim C S Φ m N ρ mh s R1 W r:=e ▸ h
section
variable {α:Type} {Φ:Fram} {m:Str→Option Value} {N:Led} {ρ:Rho} {mh:zax} {s:Shared} {q:Option α} {f:α→ME} {lo:Locs}
theorem Sim.onE {W:zaY Value} (h:∀ i,q=some i→Sim C S Φ m N ρ mh s RV W (zaw C.T (zay C.T C.fns n) (f i) lo mh)) :Sim C S Φ m N ρ mh s RV W (zaw C.T (zay C.T C.fns n) (Mine.onE q f) lo mh):=by
 cases q with
 | none=>trivial
 | some i=>exact h i rfl
theorem Sim.onT {W:zaY Bool} (h:∀ i,q=some i→Sim C S Φ m N ρ mh s RB W (zcJ (zaw C.T (zay C.T C.fns n) (f i) lo mh))) :Sim C S Φ m N ρ mh s RB W (zcJ (zaw C.T (zay C.T C.fns n) (Mine.onE q f) lo mh)):=by
 cases q with
 | none=>trivial
 | some i=>exact h i rfl
end
theorem SimE.bin {l r:PySem.Expr} {op:Operator} {pos:Pos} (hl:SimE C S n sc l) (hr:SimE C S n sc r) :SimE C S n sc (.BinOp l op r pos):=by
 intro Φ Γ env lo m N ρ mh s I R E₀ V
 refine Sim.onE fun o ho=>?_
 exact Sim.seq (fun a s₁ Q E=>wpAny S.M Φ.A (eval r env) (fun b s₂=>wpAny S.M Φ.A (binaryOp op a b) Q E s₂) E s₁) (hl Φ Γ env lo m N ρ mh s I R E₀ V)
  (fun Q E h=>wpAny_BinOp h) fun b mh' a h' tk' N' ρ' I' X ra=>
   Sim.seq (fun b s₂ Q E=>wpAny S.M Φ.A (binaryOp op a b) Q E s₂) (hr Φ Γ env lo m N' ρ' mh' _ I' R E₀ (V.ext I X)) (fun Q E h=>h)
    fun b' mh'' a' h'' tk'' N'' ρ'' I'' X' rb=>sim_bin I'' ho (X'.rp I' ra) rb
theorem SimE.neg {x:PySem.Expr} {pos:Pos} (hx:SimE C S n sc x) :SimE C S n sc (.UnaryOp .USub x pos):=by
 intro Φ Γ env lo m N ρ mh s I R E₀ V
 refine Sim.seq (fun a s₁ Q E=>wpAny S.M Φ.A (unaryOp .USub a) Q E s₁) (hx Φ Γ env lo m N ρ mh s I R E₀ V) (fun Q E h=>wpAny_UnaryOp h) fun b mh' a h' tk' N' ρ' I' X ra=>?_
 cases b with
 | int i=>(refine x1_1 ra.int_ ?_;rintro t rfl);exact sim_neg I'
 | _=>trivial
theorem SimE.not {x:PySem.Expr} {pos:Pos} (hx:SimE C S n sc x) :SimE C S n sc (.UnaryOp .Not x pos):=by
 intro Φ Γ env lo m N ρ mh s I R E₀ V
 refine Sim.seq (fun a s₁ Q E=>wpAny S.M Φ.A (unaryOp .Not a) Q E s₁) (hx Φ Γ env lo m N ρ mh s I R E₀ V) (fun Q E h=>wpAny_UnaryOp h) fun b mh' a h' tk' N' ρ' I' X ra=>?_
 cases ht:zbI mh' b with
 | none=>trivial
 | some c=>
  refine Sim.next (R1:=RB) (fun c s₁ Q E=>Q (Value.bool (!c)) s₁) (zeA I' ra ht) (fun Q E h=>not_of h) fun a' h'' tk'' N'' ρ'' I'' X' rb=>?_
  subst rb
  exact Sim.done (tk:=tk'') I'' (a:= .bool !c) zbJ fun Q E h=>h
theorem SimT.not {x:PySem.Expr} {pos:Pos} (hx:SimT C S n sc x) :SimT C S n sc (.UnaryOp .Not x pos):=by
 intro Φ Γ env lo m N ρ mh s I R E₀ V
 have key:zcJ (zaw C.T (zay C.T C.fns n) (trE C.G Γ (.UnaryOp .Not x pos)) lo mh)=(zcJ (zaw C.T (zay C.T C.fns n) (trE C.G Γ x) lo mh)).bind fun c h=> .ok (!c) h:=by
  refine (Res.bind_assoc _ _ _).trans ((Res.bind_congr fun v h=>?_).trans (Res.bind_assoc _ _ _).symm)
  cases zbI h v <;> rfl
 rw [key]
 refine Sim.seq (fun c s₁ Q E=>Q (!c) s₁) (hx Φ Γ env lo m N ρ mh s I R E₀ V) (fun Q E h=>wpAny_isTrue_Not h) fun b' mh'' a' h'' tk'' N'' ρ'' I'' X' rb=>?_
 subst rb
 exact Sim.done (tk:=tk'') I'' (a:=!b') rfl fun Q E h=>h
theorem SimE.ite {t b o:PySem.Expr} {pos:Pos} (ht:SimT C S n sc t) (hb:SimE C S n sc b) (ho:SimE C S n sc o) :SimE C S n sc (.IfExp t b o pos):=by
 intro Φ Γ env lo m N ρ mh s I R E₀ V
 have key:zaw C.T (zay C.T C.fns n) (trE C.G Γ (.IfExp t b o pos)) lo mh=(zcJ (zaw C.T (zay C.T C.fns n) (trE C.G Γ t) lo mh)).bind fun c h=>
  if c then zaw C.T (zay C.T C.fns n) (trE C.G Γ b) lo h else zaw C.T (zay C.T C.fns n) (trE C.G Γ o) lo h:=by
  refine (Res.bind_congr fun v h=>?_).trans (Res.bind_assoc _ _ _).symm
  cases zbI h v with
  | none=>rfl
  | some c=>cases c <;> rfl
 rw [key]
 refine Sim.seq (fun c s₁ Q E=>if c then wpAny S.M Φ.A (eval b env) Q E s₁ else wpAny S.M Φ.A (eval o env) Q E s₁) (ht Φ Γ env lo m N ρ mh s I R E₀ V) (fun Q E h=>wpAny_IfExp h) fun b' mh'' a' h'' tk'' N'' ρ'' I'' X' rb=>?_
 subst rb
 cases b'
 · exact ho Φ Γ env lo m N'' ρ'' mh'' _ I'' R E₀ (V.ext I X')
 · exact hb Φ Γ env lo m N'' ρ'' mh'' _ I'' R E₀ (V.ext I X')
theorem SimT.ite {t b o:PySem.Expr} {pos:Pos} (ht:SimT C S n sc t) (hb:SimT C S n sc b) (ho:SimT C S n sc o) :SimT C S n sc (.IfExp t b o pos):=by
 intro Φ Γ env lo m N ρ mh s I R E₀ V
 have key:zcJ (zaw C.T (zay C.T C.fns n) (trE C.G Γ (.IfExp t b o pos)) lo mh)=(zcJ (zaw C.T (zay C.T C.fns n) (trE C.G Γ t) lo mh)).bind fun c h=>
  if c then zcJ (zaw C.T (zay C.T C.fns n) (trE C.G Γ b) lo h) else zcJ (zaw C.T (zay C.T C.fns n) (trE C.G Γ o) lo h):=by
  refine (Res.bind_assoc _ _ _).trans ((Res.bind_congr fun v h=>?_).trans (Res.bind_assoc _ _ _).symm)
  cases zbI h v with
  | none=>rfl
  | some c=>cases c <;> rfl
 rw [key]
 refine Sim.seq (fun c s₁ Q E=>if c then wpAny S.M Φ.A (isTrue b env (eval b env)) Q E s₁ else wpAny S.M Φ.A (isTrue o env (eval o env)) Q E s₁) (ht Φ Γ env lo m N ρ mh s I R E₀ V) (fun Q E h=>by
  exact wpAny_bind (wpAny_mono h (fun c s₁ h₁=>by cases c <;> exact h₁) fun _ _ x=>x)) fun b' mh'' a' h'' tk'' N'' ρ'' I'' X' rb=>?_
 subst rb
 cases b'
 · exact ho Φ Γ env lo m N'' ρ'' mh'' _ I'' R E₀ (V.ext I X')
 · exact hb Φ Γ env lo m N'' ρ'' mh'' _ I'' R E₀ (V.ext I X')
theorem noMarks {op:CmpOp} {o:MCmp} (h:cmpOf op=some o) (e:PySem.Expr) :behindInMarks op e=false:=by
 have k:(op == .In || op == .NotIn)=false:=by cases op <;> first | rfl | exact nofO h
 cases e with
 | Set elts j p=>
  show (j == 0 && (op == .In || op == .NotIn) && elts.all (constantsAlone 8))=false
  rw [k,Bool.and_false];rfl
 | _=>rfl
theorem SimE.cmp1 {l r:PySem.Expr} {op:CmpOp} {pos:Pos} (hl:SimE C S n sc l) (hr:SimE C S n sc r) :SimE C S n sc (.Compare l [op] [r] pos):=by
 intro Φ Γ env lo m N ρ mh s I R E₀ V
 refine Sim.onE fun o ho=>?_
 exact Sim.seq (fun a s₁ Q E=>wpAny S.M Φ.A (eval r env) (fun b s₂=>wpAny S.M Φ.A (compareOp op a b) Q E s₂) E s₁) (hl Φ Γ env lo m N ρ mh s I R E₀ V)
  (fun Q E h=>wpAny_Compare1 h (noMarks ho r)) fun b mh' a h' tk' N' ρ' I' X ra=>
   Sim.seq (fun b s₂ Q E=>wpAny S.M Φ.A (compareOp op a b) Q E s₂) (hr Φ Γ env lo m N' ρ' mh' _ I' R E₀ (V.ext I X)) (fun Q E h=>h)
    fun b' mh'' a' h'' tk'' N'' ρ'' I'' X' rb=>sim_cmp I'' R.units ho (X'.rp I' ra) rb
theorem sim_cmpT {Φ:Fram} {m:Str→Option Value} {N:Led} {ρ:Rho} {mh:zax} {s:Shared} (I:Inv C S Φ m N ρ mh s.heap) (R:Room Φ n) {op:CmpOp} {o:MCmp} (ho:cmpOf op=some o) {v w:MV} {x y:Value} (h1:RepV N ρ v x) (h2:RepV N ρ w y) :
 Sim C S Φ m N ρ mh s (fun _ _ (c:Bool) (p:Value × Bool)=>p=(.bool c,c)) (fun Q E=>wpAny S.M Φ.A (compareOp op x y) (fun c s₂=>wpAny S.M Φ.A (truthy c) (fun t s₃=>Q (c,t) s₃) E s₂) E s) (match cmpV mh o v w with | some c=> .ok c mh | none=> .stuck):=by
 have h0:=sim_cmp I R.units ho h1 h2
 unfold cmpR at h0
 cases hc:cmpV mh o v w with
 | none=>trivial
 | some c=>
  rw [hc] at h0
  refine Sim.next (fun a s₂ Q E=>wpAny S.M Φ.A (truthy a) (fun t s₃=>Q (a,t) s₃) E s₂) h0 (fun Q E h=>h) fun a' h'' tk'' N'' ρ'' I'' X' rb=>?_
  obtain rfl:=rb.bool_
  exact Sim.done (tk:=tk'') I'' (a:=(.bool c,c)) rfl fun Q E h=>wpAny_truthy_bool h
theorem SimT.cmp1 {l r:PySem.Expr} {op:CmpOp} {pos:Pos} (hl:SimE C S n sc l) (hr:SimE C S n sc r) :SimT C S n sc (.Compare l [op] [r] pos):=by
 intro Φ Γ env lo m N ρ mh s I R E₀ V
 refine Sim.onT fun o ho=>zdN (Res.bind_assoc _ _ _) ?_
 refine Sim.seq (fun a s₁ Q E=>wpAny S.M Φ.A (eval r env) (fun b s₂=>wpAny S.M Φ.A (compareOp op a b) (fun c s₃=>wpAny S.M Φ.A (truthy c) Q E s₃) E s₂) E s₁) (hl Φ Γ env lo m N ρ mh s I R E₀ V)
  (fun Q E h=>wpAny_isTrue_Compare1 h (noMarks ho r)) fun b mh' a h' tk' N' ρ' I' X ra=>
   zdN (Res.bind_assoc _ _ _) <| Sim.seq (fun b s₂ Q E=>wpAny S.M Φ.A (compareOp op a b) (fun c s₃=>wpAny S.M Φ.A (truthy c) Q E s₃) E s₂) (hr Φ Γ env lo m N' ρ' mh' _ I' R E₀ (V.ext I X)) (fun Q E h=>h)
    fun b' mh'' a' h'' tk'' N'' ρ'' I'' X' rb=>?_
 have h0:=sim_cmpT (s:={s with heap:=h'',toks:=tk''}) I'' R ho (X'.rp I' ra) rb
 cases hc:cmpV mh'' o b b' with
 | none=>trivial
 | some c=>
  rw [hc] at h0
  exact Sim.conv (W:=fun Q E=>wpAny S.M Φ.A (compareOp op a a') (fun c s₃=>wpAny S.M Φ.A (truthy c) (fun t s₄=>Q t s₄) E s₃) E _) (fun Q E h=>h)
   (Sim.next (fun p s₁ Q E=>Q p.2 s₁) h0 (fun Q E h=>h) fun a3 h3 tk3 N3 ρ3 I3 X3 r3=>Sim.done (tk:=tk3) I3 (a:=a3.2) (by rw [r3]) fun Q E h=>h)
theorem SimE.cmp2 {l r r2:PySem.Expr} {op op':CmpOp} {pos:Pos} (hl:SimE C S n sc l) (hr:SimE C S n sc r) (hr2:SimE C S n sc r2) :SimE C S n sc (.Compare l [op,op'] [r,r2] pos):=by
 intro Φ Γ env lo m N ρ mh s I R E₀ V
 refine Sim.onE fun o ho=>Sim.onE fun o' ho'=>?_
 refine Sim.seq (fun a s₁ Q E=>wpAny S.M Φ.A (compareChain pos a [op,op'] [eval r env,eval r2 env]) Q E s₁) (hl Φ Γ env lo m N ρ mh s I R E₀ V)
  (fun Q E h=>Compare_chain h (noMarks ho' r2)) fun b mh' a h' tk' N' ρ' I' X ra=>
   Sim.seq (fun b s₂ Q E=>wpAny S.M Φ.A (compareOp op a b) (fun c s₃=>wpAny S.M Φ.A (truthy c) (fun t s₄=>if t then wpAny S.M Φ.A (compareChain pos b [op'] [eval r2 env]) Q E s₄ else Q c s₄) E s₃) E s₂) (hr Φ Γ env lo m N' ρ' mh' _ I' R E₀ (V.ext I X)) (fun Q E h=>chain_link h)
    fun b' mh'' a' h'' tk'' N'' ρ'' I'' X' rb=>?_
 have h0:=sim_cmpT (s:={s with heap:=h'',toks:=tk''}) I'' R ho (X'.rp I' ra) rb
 cases hc:cmpV mh'' o b b' with
 | none=>trivial
 | some c=>
  rw [hc] at h0
  refine Sim.next (fun p s₁ Q E=>if p.2 then wpAny S.M Φ.A (compareChain pos a' [op'] [eval r2 env]) Q E s₁ else Q p.1 s₁) h0 (fun Q E h=>h) fun a3 h3 tk3 N3 ρ3 I3 X3 r3=>?_
  subst r3
  cases c with
  | false=>exact Sim.done (tk:=tk3) I3 (a:= .bool false) zbJ fun Q E h=>h
  | true=>
   refine Sim.seq (fun b s₂ Q E=>wpAny S.M Φ.A (compareOp op' a' b) Q E s₂) (hr2 Φ Γ env lo m N3 ρ3 _ _ I3 R E₀ ((V.ext I (X.trans X')).ext I'' X3)) (fun Q E h=>chain_last h) fun b4 mh4 a4 h4 tk4 N4 ρ4 I4 X4 r4=>?_
   exact sim_cmp I4 R.units ho' (X4.rp I3 (X3.rp I'' rb)) r4
theorem SimT.cmp2 {l r r2:PySem.Expr} {op op':CmpOp} {pos:Pos} (hl:SimE C S n sc l) (hr:SimE C S n sc r) (hr2:SimE C S n sc r2) :SimT C S n sc (.Compare l [op,op'] [r,r2] pos):=by
 intro Φ Γ env lo m N ρ mh s I R E₀ V
 refine Sim.onT fun o ho=>Sim.onT fun o' ho'=>zdN (Res.bind_assoc _ _ _) ?_
 refine Sim.seq (fun a s₁ Q E=>wpAny S.M Φ.A (testChain pos a [op,op'] [eval r env,eval r2 env]) Q E s₁) (hl Φ Γ env lo m N ρ mh s I R E₀ V)
  (fun Q E h=>isTrue_chain h (noMarks ho' r2)) fun b mh' a h' tk' N' ρ' I' X ra=>
   zdN (Res.bind_assoc _ _ _) <| Sim.seq (fun b s₂ Q E=>wpAny S.M Φ.A (compareOp op a b) (fun c s₃=>wpAny S.M Φ.A (truthy c) (fun t s₄=>if t then wpAny S.M Φ.A (testChain pos b [op'] [eval r2 env]) Q E s₄ else Q false s₄) E s₃) E s₂) (hr Φ Γ env lo m N' ρ' mh' _ I' R E₀ (V.ext I X)) (fun Q E h=>test_link h)
    fun b' mh'' a' h'' tk'' N'' ρ'' I'' X' rb=>?_
 have h0:=sim_cmpT (s:={s with heap:=h'',toks:=tk''}) I'' R ho (X'.rp I' ra) rb
 cases hc:cmpV mh'' o b b' with
 | none=>trivial
 | some c=>
  rw [hc] at h0
  refine Sim.next (fun p s₁ Q E=>if p.2 then wpAny S.M Φ.A (testChain pos a' [op'] [eval r2 env]) Q E s₁ else Q false s₁) h0 (fun Q E h=>h) fun a3 h3 tk3 N3 ρ3 I3 X3 r3=>?_
  subst r3
  cases c with
  | false=>exact Sim.done (tk:=tk3) I3 (a:=false) rfl fun Q E h=>h
  | true=>
   refine zdN (Res.bind_assoc _ _ _) ?_
   refine Sim.seq (fun b s₂ Q E=>wpAny S.M Φ.A (compareOp op' a' b) (fun c s₃=>wpAny S.M Φ.A (truthy c) Q E s₃) E s₂) (hr2 Φ Γ env lo m N3 ρ3 _ _ I3 R E₀ ((V.ext I (X.trans X')).ext I'' X3)) (fun Q E h=>test_last h) fun b4 mh4 a4 h4 tk4 N4 ρ4 I4 X4 r4=>?_
   have h5:=sim_cmpT (s:={s with heap:=h4,toks:=tk4}) I4 R ho' (X4.rp I3 (X3.rp I'' rb)) r4
   cases hc5:cmpV mh4 o' b' b4 with
   | none=>trivial
   | some c5=>
    rw [hc5] at h5
    exact Sim.conv (W:=fun Q E=>wpAny S.M Φ.A (compareOp op' a' a4) (fun c s₃=>wpAny S.M Φ.A (truthy c) (fun t s₄=>Q t s₄) E s₃) E _) (fun Q E h=>h)
     (Sim.next (fun p s₁ Q E=>Q p.2 s₁) h5 (fun Q E h=>h) fun a3 h3 tk3 N3 ρ3 I3 X3 r3=>Sim.done (tk:=tk3) I3 (a:=a3.2) (by rw [r3]) fun Q E h=>h)
end
noncomputable def zcC:PySem.Expr→Bool
 | .Starred ..=>false
 | _=>true
noncomputable def noStar (es:List PySem.Expr) :Bool:=es.all zcC
noncomputable def baseOK:PySem.Expr→Bool
 | .Call (.Name ..) [] [] _=>false
 | _=>true
noncomputable def notSet:PySem.Expr→Bool
 | .Set ..=>false
 | _=>true
noncomputable def scOK (sc:Scope) (ts:List Str) (sc':Scope) :Bool:=
 sc'.kind == .function && sc'.names.all (fun y=>y.2 != .cell) && sc'.names.all (fun y=>sc'.names.lookup y.1 == some y.2) &&
 ts.all (fun t=>sc'.names.lookup t == some .local) &&
 (ts.length < 3) && ((match ts with | [a,b]=>a != b | _=>true) :Bool) &&
 sc'.names.all (fun y=>y.2 != .free || sc.names.lookup y.1 == some .cell) &&
 sc'.names.all (fun y=>y.1 != ("__debug__" :Str) && y.1 != ("__classdict__" :Str))
noncomputable def zcD:Scope:=⟨.function,[],false,false,[]⟩
noncomputable def okSl (ok:PySem.Expr→Bool) (lo hi st:Option PySem.Expr) :Bool:=match st with
 | some _=>false
 | none=>(match lo with
  | none=>(match hi with | some e=>ok e | none=>false)
  | some e=>(match hi with | none=>ok e | some _=>false))
noncomputable def okSub (ok:PySem.Expr→Bool) :PySem.Expr→Bool
 | .Slice lo hi st _=>okSl ok lo hi st
 | i=>ok i
noncomputable def okCall (ok:PySem.Expr→Bool) (args:List PySem.Expr) (pos:Pos) :PySem.Expr→Bool
 | .Attribute o _ apos=>baseOK o && ((apos.endLine == pos.line) && (decide (args.length < 29) && ok o))
 | .Name ..=>true
 | _=>false
noncomputable def itArgs:PySem.Expr→List PySem.Expr
 | .Call _ args _ _=>args
 | _=>[]
noncomputable def okIt (ok:PySem.Expr→Bool) (it:PySem.Expr) :Bool:=notSet it && (ok it && (itArgs it).all fun x=>zcC x && ok x)
noncomputable def okGen (ok:Scope→PySem.Expr→Bool) (sc sc':Scope) (elt:PySem.Expr) :Comprehension→Bool
 | ⟨t,it,ifs,a⟩=>(match zbx t with | some p=>scOK sc p.2 sc' | none=>false) && (okIt (ok sc) it && (ok zcD elt && (ifs.all (ok zcD) && a == 0)))
noncomputable def okGens (ok:Scope→PySem.Expr→Bool) (sc sc':Scope) (elt:PySem.Expr) :List Comprehension→Bool
 | []=>false
 | g :: r=>(match r with | []=>okGen ok sc sc' elt g | _ :: _=>false)
noncomputable def okCmp:List PySem.Expr→List CmpOp→Bool
 | [],_=>false
 | _ :: r,o=>(match r with
  | []=>o.length == 1
  | _ :: q=>(match q with | []=>o.length == 2 | _ :: _=>false))
noncomputable def okUn:PySem.UnaryOp→Bool
 | .USub=>true
 | .Not=>true
 | _=>false
noncomputable def okConst:PySem.Const→Bool
 | .none=>true
 | .bool _=>true
 | .int _=>true
 | .str _=>true
 | _=>false
noncomputable def noKws:List PySem.Keyword→Bool
 | []=>true
 | _ :: _=>false
noncomputable def okE1 (ok:Scope→PySem.Expr→Bool) (sc:Scope) :PySem.Expr→Bool
 | .Constant c _ _=>okConst c
 | .Name ..=>true
 | .BinOp l _ r _=>ok sc l && ok sc r
 | .UnaryOp op x _=>okUn op && ok sc x
 | .BoolOp _ vs _=>vs.all (ok sc)
 | .Compare l ops cs _=>okCmp cs ops && (ok sc l && cs.all (ok sc))
 | .IfExp t b o _=>ok sc t && (ok sc b && ok sc o)
 | .Call f args ks pos=>noKws ks && (noStar args && (args.all (ok sc) && okCall (ok sc) args pos f))
 | .Attribute o _ _=>baseOK o && ok sc o
 | .Subscript o i _=>ok sc o && okSub (ok sc) i
 | .List es _=>noStar es && es.all (ok sc)
 | .Tuple es _ _=>noStar es && es.all (ok sc)
 | .ListComp elt gs sc' _=>okGens ok sc sc' elt gs
 | _=>false
noncomputable def okE:Nat→Scope→PySem.Expr→Bool
 | 0=>fun _ _=>false
 | k + 1=>okE1 (okE k)
structure CallsOK (C:Cfg) (S:Stat) (n:Nat) :Prop where
 fn:∀ (Φ:Fram) (m:Str→Option Value) (N:Led) (ρ:Rho) (mh:zax) (s:Shared) f vs xs,Inv C S Φ m N ρ mh s.heap→Room Φ n→RepVs N ρ vs xs→
  Sim C S Φ m N ρ mh s RV (wp_ S Φ s (call (.ref (C.fnA f)) xs)) (zay C.T C.fns n f vs mh)
 new:∀ (Φ:Fram) (m:Str→Option Value) (N:Led) (ρ:Rho) (mh:zax) (s:Shared) c f vs xs,Inv C S Φ m N ρ mh s.heap→Room Φ n→RepVs N ρ vs xs→C.T.cinit c=some f→
  Sim C S Φ m N ρ mh s RV (wp_ S Φ s (call (.ref (C.clsA c)) xs)) ((zay C.T C.fns n f (.ref mh.length :: vs) (mh ++ [.inst c []])).bind fun r h'=>(match r with | .none=> .ok (.ref mh.length) h' | _=> .stuck))
section
variable {C:Cfg} {S:Stat} {n:Nat} {sc:Scope}
noncomputable def SimEs (C:Cfg) (S:Stat) (n:Nat) (sc:Scope) (es:List PySem.Expr) :Prop:=
 ∀ (pos:Pos) (Φ:Fram) (Γ:Gam) (env:Env) (l:Locs) (m:Str→Option Value) (N:Led) (ρ:Rho) (mh:zax) (s:Shared),Inv C S Φ m N ρ mh s.heap→Room Φ n→EnvOK env Γ sc→VOK env Γ Φ.L m N ρ l→
  Sim C S Φ m N ρ mh s RepVs (wp_ S Φ s (spliced (backTo pos (starEach es env)))) (zex C.T (zay C.T C.fns n) (trEs C.G Γ es) l mh)
theorem zaV {e:PySem.Expr} (h:zcC e=true) (rest:List PySem.Expr) (env:Env) :starEach (e :: rest) env=(false,eval e env) :: starEach rest env:=by
 cases e <;> first | rfl | exact noC Bool.ctorIdx h rfl
theorem zcx {pos:Pos} {env:Env} :∀ {es:List PySem.Expr},noStar es=true→(backTo pos (starEach es env)).any (·.1)=false
 | [],_=>rfl
 | e :: r,h=>by
  simp only [noStar,List.all_cons,Bool.and_eq_true] at h
  rw [zaV h.1]
  show (false || (backTo pos (starEach r env)).any (·.1))=false
  rw [zcx (by simpa [noStar] using h.2)]
  rfl
theorem RepVs.cons_ {N:Led} {ρ:Rho} {v:MV} {x:Value} {vs:List MV} {xs:List Value} (h:RepV N ρ v x) (h':RepVs N ρ vs xs) :RepVs N ρ (v :: vs) (x :: xs):=by
 exact ⟨x,xs,rfl,h,h'⟩
theorem SimEs.nil:SimEs C S n sc []:=by
 intro pos Φ Γ env l m N ρ mh s I R E₀ V
 exact Sim.done (tk:=s.toks) I (a:=[]) (by simp only [RepVs]) fun Q E h=>spliced_nil h
theorem SimEs.cons {e:PySem.Expr} {r:List PySem.Expr} (hs:zcC e=true) (he:SimE C S n sc e) (hr:SimEs C S n sc r) :SimEs C S n sc (e :: r):=by
 intro pos Φ Γ env l m N ρ mh s I R E₀ V
 rw [zaV hs]
 refine Sim.seq (fun v s₁ Q E=>wpAny S.M Φ.A (spliced (backTo pos (starEach r env))) (fun vs s₂=>Q (v :: vs) s₂) E s₁) (he Φ Γ env l m N ρ mh s I R E₀ V) (fun Q E h=>spliced_cons h) fun b mh' a h' tk' N' ρ' I' X ra=>?_
 refine Sim.seq (fun vs s₂ Q E=>Q (a :: vs) s₂) (hr pos Φ Γ env l m N' ρ' mh' _ I' R E₀ (V.ext I X)) (fun Q E h=>h) fun b' mh'' a' h'' tk'' N'' ρ'' I'' X' rb=>?_
 exact Sim.done (tk:=tk'') I'' (a:=a :: a') (RepVs.cons_ (X'.rp I' ra) rb) fun Q E h=>h
theorem zbL {Φ:Fram} {Γ:Gam} {env:Env} {l:Locs} {m:Str→Option Value} {N:Led} {ρ:Rho} {mh:zax} {s:Shared} {es:List PySem.Expr} {pos:Pos} {f:Value} {first:List Value} {R2:Led→Rho→MV→Value→Prop}
 {g:List MV→zax→Res MV} (hn:noStar es=true) (hes:SimEs C S n sc es) (hk:∀ h,S.K.In h→∃ k,(k=Keeper.frame∨k=Keeper.machine∨k=Keeper.boundFrame)∧Looks S.M h (keeperOf f) k)
 (I:Inv C S Φ m N ρ mh s.heap) (R:Room Φ n) (E₀:EnvOK env Γ sc) (V:VOK env Γ Φ.L m N ρ l)
 (h:∀ vs mh' xs h' tk' N' ρ',Inv C S Φ m N' ρ' mh' h'→Ext N ρ mh N' ρ' mh'→RepVs N' ρ' vs xs→
  Sim C S Φ m N' ρ' mh' {s with heap:=h',toks:=tk'} R2 (wp_ S Φ {s with heap:=h',toks:=tk'} (call f (first ++ xs))) (g vs mh')) :
 Sim C S Φ m N ρ mh s R2 (wp_ S Φ s (callWith pos f first (backTo pos (starEach es env)) [])) ((zex C.T (zay C.T C.fns n) (trEs C.G Γ es) l mh).bind g):=by
 cases es with
 | nil=>
  exact Sim.conv (fun Q E q=>callWith_of (P:=S.K.In) rfl hk (evalArgs_nil3 ⟨I.inK,q⟩)) (h [] mh [] s.heap s.toks N ρ I (Ext.refl _ _ _) (by simp only [RepVs]))
 | cons e r=>
  have hp:=zcx (pos:=pos) (env:=env) hn
  have hn':=hn
  simp only [noStar,List.all_cons,Bool.and_eq_true] at hn'
  refine Sim.seq (fun xs s₁ Q E=>S.K.In s₁.heap∧wpAny S.M Φ.A (call f (first ++ xs)) Q E s₁) (hes pos Φ Γ env l m N ρ mh s I R E₀ V) (fun Q E q=>?_) fun b mh' a h' tk' N' ρ' I' X ra=>?_
  · refine callWith_of (P:=S.K.In) (by rw [hp];rfl) hk ?_
    rw [zaV hn'.1] at q ⊢
    exact evalArgs_plain q
  · exact Sim.conv (fun Q E q=>⟨I'.inK,q⟩) (h b mh' a h' tk' N' ρ' I' X ra)
theorem zcF {f:Value} (hf:keeperOf f=pure .machine) {M:Model} {K:Frag} :∀ h,K.In h→∃ k,(k=Keeper.frame∨k=Keeper.machine∨k=Keeper.boundFrame)∧Looks M h (keeperOf f) k:=
 fun h _=>⟨.machine,.inr (.inl rfl),Looks.of_pure hf⟩
theorem keeper_bi (b:MBi) :keeperOf (biVal b)=pure .machine:=by cases b <;> rfl
theorem biArgs_plain {b:MBi} (h1:b≠.isInt) (h2:b≠.isBool) (xs:List Value) :biArgs b xs=xs:=by cases b <;> first | rfl | (exact absurd rfl h1) | (exact absurd rfl h2)
theorem sim_callName (Z:Sit C S) (HC:CallsOK C S n) {f:Str} {pf pos:Pos} {args:List PySem.Expr} (hn:noStar args=true) (hes:SimEs C S n sc args)
 {Φ:Fram} {Γ:Gam} {env:Env} {l:Locs} {m:Str→Option Value} {N:Led} {ρ:Rho} {mh:zax} {s:Shared} (I:Inv C S Φ m N ρ mh s.heap) (R:Room Φ n) (E₀:EnvOK env Γ sc) (V:VOK env Γ Φ.L m N ρ l) :
 Sim C S Φ m N ρ mh s RV (wp_ S Φ s (eval (.Call (.Name f pf) args [] pos) env)) (zaw C.T (zay C.T C.fns n) (callE C.G Γ f (trEs C.G Γ args)) l mh):=by
 unfold callE zaS
 cases hx:Γ.names.lookup f with
 | none=>trivial
 | some k=>
  cases k with
  | some i=>trivial
  | none=>
   dsimp only
   cases hg:C.G.gt.lookup f with
   | none=>trivial
   | some g=>
    have ev:∀ {v:Value} (r:Res MV),(∀ Q E,wpAny S.M Φ.A (callWith pos v [] (backTo pos (starEach args env)) []) Q E s→wpAny S.M Φ.A (eval (.Name f pf) env) (fun v s₁=>wpAny S.M Φ.A (callWith pos v [] (backTo pos (starEach args env)) []) Q E s₁) E s)→
     Sim C S Φ m N ρ mh s RV (wp_ S Φ s (callWith pos v [] (backTo pos (starEach args env)) [])) r→Sim C S Φ m N ρ mh s RV (wp_ S Φ s (eval (.Call (.Name f pf) args [] pos) env)) r:=by
     intro v r hv h
     refine Sim.conv (fun Q E q=>?_) h
     exact wpAny_bind (hv Q E q)
    cases g with
    | fn k=>
     refine x0_2 (Z.glob f _ hg) fun h1 h2=>?_
     exact ev _ (fun Q E q=>zfD I E₀ hx h1 q) (zbL hn hes (keeps_K h2) I R E₀ V fun vs mh' xs h' tk' N' ρ' I' X r=>HC.fn Φ m N' ρ' mh' _ k vs xs I' R r)
    | cls c=>
     refine x0_2 (Z.glob f _ hg) fun h1 h2=>?_
     refine ev _ (fun Q E q=>zfD I E₀ hx h1 q) (zbL hn hes (keeps_K (Z.cls c h2).keep) I R E₀ V fun vs mh' xs h' tk' N' ρ' I' X r=>?_)
     cases hi:C.T.cinit c with
     | none=>trivial
     | some k=>exact HC.new Φ m N' ρ' mh' _ c k vs xs I' R r hi
    | bi b=>
     refine x0_7 (Z.glob f _ hg) fun h1 h2 h3 h4 h5 h6 h7=>?_
     refine ev _ (fun Q E q=>zcO I E₀ hx h1 h2 h3 q) (zbL hn hes (zcF (keeper_bi b)) I R E₀ V fun vs mh' xs h' tk' N' ρ' I' X r=>?_)
     have:=sim_bi (b:=b) (s:={s with heap:=h',toks:=tk'}) I' r
     rw [biArgs_plain h4 h5] at this
     exact this
    | _=>trivial
end
section
variable {C:Cfg} {S:Stat} {n:Nat} {sc:Scope}
theorem RepVs.single {N:Led} {ρ:Rho} {v:MV} {x:Value} (h:RepV N ρ v x) :RepVs N ρ [v] [x]:=RepVs.cons_ h (by rfl)
theorem sim_isi (Z:Sit C S) {f t:Str} {pf pt pos:Pos} {e:PySem.Expr} (hn:zcC e=true) (he:SimE C S n sc e) {b:Bool}
 {Φ:Fram} {Γ:Gam} {env:Env} {l:Locs} {m:Str→Option Value} {N:Led} {ρ:Rho} {mh:zax} {s:Shared} (I:Inv C S Φ m N ρ mh s.heap) (R:Room Φ n) (E₀:EnvOK env Γ sc) (V:VOK env Γ Φ.L m N ρ l)
 (h1:zaS C.G Γ f=some .isinst) (h2:zaS C.G Γ t=some (if b then .tyBool else .tyInt)) :
 Sim C S Φ m N ρ mh s RV (wp_ S Φ s (eval (.Call (.Name f pf) [e,.Name t pt] [] pos) env)) (zaw C.T (zay C.T C.fns n) (.bi (if b then .isBool else .isInt) [trE C.G Γ e]) l mh):=by
 have gl:∀ {x:Str} {g:GV},zaS C.G Γ x=some g→Γ.names.lookup x=some none∧C.G.gt.lookup x=some g:=by
  intro x g h
  unfold zaS at h
  cases hx:Γ.names.lookup x with
  | none=>rw [hx] at h;exact nofO h
  | some k=>
   cases k with
   | some i=>rw [hx] at h;exact nofO h
   | none=>rw [hx] at h;exact ⟨rfl,h⟩
 refine x0_2 (gl h1) fun x1 g1=>?_
 refine x0_2 (gl h2) fun x2 g2=>?_
 refine x0_3 (Z.glob f _ g1) fun a1 a2 a3=>?_
 have a4:nsIn S.K mainGlobals t=some none∧bootBuiltins t=some (.type (if b then "bool" else "int"))∧t≠"__name__":=by
  cases b
  · exact Z.glob t _ g2
  · exact Z.glob t _ g2
 refine zdN (r':=(zaw C.T (zay C.T C.fns n) (trE C.G Γ e) l mh).bind fun v h=>biV (if b then .isBool else .isInt) [v] h) (by cases b <;> exact (Res.bind_assoc _ _ _)) ?_
 refine Sim.seq (fun v s₁ Q E=>S.K.In s₁.heap∧wpAny S.M Φ.A (eval (.Name t pt) env) (fun y s₂=>S.K.In s₂.heap∧wpAny S.M Φ.A (call (.builtin "isinstance") [v,y]) Q E s₂) E s₁) (he Φ Γ env l m N ρ mh s I R E₀ V) (fun Q E q=>?_) fun v mh' x h' tk' N' ρ' I' X r=>?_
 · show wpAny S.M Φ.A (eval (.Call (.Name f pf) [e,.Name t pt] [] pos) env) Q E s
   refine wpAny_bind (zcO I E₀ x1 a1 a2 a3 ?_)
   refine callWith_of (P:=S.K.In) (by rw [zcx (by simp only [noStar,List.all_cons,List.all_nil,hn];rfl)];rfl) (zcF rfl) ?_
   rw [zaV hn]
   refine evalArgs_plain (spliced_cons (wpAny_mono q (fun v s₁ q₁=>?_) fun _ _ z=>z))
   exact spliced_cons (wpAny_mono q₁.2 (fun y s₂ q₂=>spliced_nil q₂) fun _ _ z=>z)
 · have hb:Sim C S Φ m N' ρ' mh' {s with heap:=h',toks:=tk'} RV (wp_ S Φ {s with heap:=h',toks:=tk'} (call (.builtin "isinstance") [x,.type (if b then "bool" else "int")])) (biV (if b then .isBool else .isInt) [v] mh'):=by
    cases b
    · exact sim_isInt I' r
    · exact sim_isBool I' r
   refine Sim.conv (fun Q E q=>⟨I'.inK,?_⟩) hb
   exact zcO (s:={s with heap:=h',toks:=tk'}) I' E₀ x2 a4.1 a4.2.1 a4.2.2 ⟨I'.inK,q⟩
theorem sim_toInt (Z:Sit C S) {f:Str} {pf pos:Pos} {e:PySem.Expr} (hn:zcC e=true) (he:SimE C S n sc e)
 {Φ:Fram} {Γ:Gam} {env:Env} {l:Locs} {m:Str→Option Value} {N:Led} {ρ:Rho} {mh:zax} {s:Shared} (I:Inv C S Φ m N ρ mh s.heap) (R:Room Φ n) (E₀:EnvOK env Γ sc) (V:VOK env Γ Φ.L m N ρ l)
 (h1:zaS C.G Γ f=some .tyInt) :
 Sim C S Φ m N ρ mh s RV (wp_ S Φ s (eval (.Call (.Name f pf) [e] [] pos) env)) (zaw C.T (zay C.T C.fns n) (.bi .toInt [trE C.G Γ e]) l mh):=by
 unfold zaS at h1
 cases hx:Γ.names.lookup f with
 | none=>rw [hx] at h1;exact nofO h1
 | some k=>
  cases k with
  | some i=>rw [hx] at h1;exact nofO h1
  | none=>
   rw [hx] at h1
   refine x0_3 (Z.glob f _ h1) fun a1 a2 a3=>?_
   have:=zbL (C:=C) (S:=S) (n:=n) (sc:=sc) (es:=[e]) (pos:=pos) (f:= .type "int") (first:=[]) (R2:=RV) (g:=fun vs h=>biV .toInt vs h) (by simp only [noStar,List.all_cons,List.all_nil,hn];rfl) (SimEs.cons hn he SimEs.nil) (zcF rfl) I R E₀ V
    fun vs mh' xs h' tk' N' ρ' I' X r=>sim_bi (b:= .toInt) I' r
   refine Sim.conv (fun Q E q=>?_) this
   exact wpAny_bind (zcO I E₀ hx a1 a2 a3 q)
theorem zez {x:Str} {k:Nat} (h:zew C.G x=some k) :k < C.G.at_.length∧C.atn k=x:=by
 unfold zew at h
 refine x1_2 (List.findIdx?_eq_some_iff_getElem.mp h) fun hk h1 _=>?_
 refine ⟨hk,?_⟩
 unfold Cfg.atn
 rw [List.getD_eq_getElem?_getD,List.getElem?_eq_getElem hk]
 exact beq_iff_eq.mp h1
theorem base_eq {o:PySem.Expr} (h:baseOK o=true) (a:Str) (env:Env) (t:Sem Value) :attributeBase o a env t=t:=by
 cases o with
 | Call f as ks p=>
  cases f with
  | Name x q=>
   cases as with
   | nil=>cases ks with
    | nil=>exact nofB h
    | cons _ _=>rfl
   | cons _ _=>rfl
  | _=>rfl
 | _=>rfl
theorem SimE.attr (Z:Sit C S) {o:PySem.Expr} {a:Str} {pos:Pos} (hb:baseOK o=true) (ho:SimE C S n sc o) :SimE C S n sc (.Attribute o a pos):=by
 intro Φ Γ env lo m N ρ mh s I R E₀ V
 refine Sim.onE fun k ha=>?_
 · refine x0_2 (zez ha) ?_;rintro hk rfl
   refine Sim.seq (fun v s₁ Q E=>wpAny S.M Φ.A (getAttr v (C.atn k) true) Q E s₁) (ho Φ Γ env lo m N ρ mh s I R E₀ V) (fun Q E q=>?_) fun v mh' x h' tk' N' ρ' I' X r=>sim_attr Z.at_ Z.cls I' r hk
   simp only [arm_eval_Attribute,base_eq hb]
   refine wpAny_bind (wpAny_mono q (fun v s₁ q₁=>wpAny_bind (wpAny_standAt (wpAny_bind (wpAny_holding (wpAny_mono q₁ (fun r s₂ q₂=>wpAny_bind (wpAny_letTemporaryGo (wpAny_pure q₂))) fun _ _ z=>z))))) fun _ _ z=>z)
theorem SimE.sub {o i:PySem.Expr} {pos:Pos} (hs:zcL i) (ho:SimE C S n sc o) (hi:SimE C S n sc i) (htr:∀ Γ,trE C.G Γ (.Subscript o i pos)= .sub (trE C.G Γ o) (trE C.G Γ i)) :SimE C S n sc (.Subscript o i pos):=by
 intro Φ Γ env lo m N ρ mh s I R E₀ V
 rw [htr]
 refine Sim.seq (fun a s₁ Q E=>wpAny S.M Φ.A (eval i env) (fun b s₂=>wpAny S.M Φ.A (subscriptTail o i a b) Q E s₂) E s₁) (ho Φ Γ env lo m N ρ mh s I R E₀ V)
  (fun Q E h=>Subscript_ h) fun b mh' a h' tk' N' ρ' I' X ra=>
   Sim.seq (fun b s₂ Q E=>wpAny S.M Φ.A (subscriptTail o i a b) Q E s₂) (hi Φ Γ env lo m N' ρ' mh' _ I' R E₀ (V.ext I X)) (fun Q E h=>h)
    fun b' mh'' a' h'' tk'' N'' ρ'' I'' X' rb=>sim_item I'' hs (X'.rp I' ra) rb
theorem SimE.sliceTo {o i:PySem.Expr} {pp pos:Pos} (ho:SimE C S n sc o) (hi:SimE C S n sc i) :SimE C S n sc (.Subscript o (.Slice none (some i) none pp) pos):=by
 intro Φ Γ env lo m N ρ mh s I R E₀ V
 refine Sim.seq (fun a s₁ Q E=>wpAny S.M Φ.A (eval i env) (fun b s₂=>wpAny S.M Φ.A (subscriptTail o (.Slice none (some i) none pp) a (.ref s₂.heap.objs.size)) Q E {s₂ with heap:=s₂.heap.push (zbC .none b)}) E s₁) (ho Φ Γ env lo m N ρ mh s I R E₀ V)
  (fun Q E h=>Subscript_ (wpAny_mono h (fun a s₁ h₁=>wpAny_Slice (wpAny_pure (wpAny_mono h₁ (fun b s₂ h₂=>wpAny_pure h₂) fun _ _ z=>z))) fun _ _ z=>z)) fun b mh' a h' tk' N' ρ' I' X ra=>
   Sim.seq (fun b s₂ Q E=>wpAny S.M Φ.A (subscriptTail o (.Slice none (some i) none pp) a (.ref s₂.heap.objs.size)) Q E {s₂ with heap:=s₂.heap.push (zbC .none b)}) (hi Φ Γ env lo m N' ρ' mh' _ I' R E₀ (V.ext I X)) (fun Q E h=>h)
    fun b' mh'' a' h'' tk'' N'' ρ'' I'' X' rb=>sim_slice true (s:={s with heap:=h'',toks:=tk''}) I'' (X'.rp I' ra) rb
theorem SimE.sliceFrom {o i:PySem.Expr} {pp pos:Pos} (ho:SimE C S n sc o) (hi:SimE C S n sc i) :SimE C S n sc (.Subscript o (.Slice (some i) none none pp) pos):=by
 intro Φ Γ env lo m N ρ mh s I R E₀ V
 refine Sim.seq (fun a s₁ Q E=>wpAny S.M Φ.A (eval i env) (fun b s₂=>wpAny S.M Φ.A (subscriptTail o (.Slice (some i) none none pp) a (.ref s₂.heap.objs.size)) Q E {s₂ with heap:=s₂.heap.push (zbC b .none)}) E s₁) (ho Φ Γ env lo m N ρ mh s I R E₀ V)
  (fun Q E h=>Subscript_ (wpAny_mono h (fun a s₁ h₁=>wpAny_Slice (wpAny_mono h₁ (fun b s₂ h₂=>wpAny_pure (wpAny_pure h₂)) fun _ _ z=>z)) fun _ _ z=>z)) fun b mh' a h' tk' N' ρ' I' X ra=>
   Sim.seq (fun b s₂ Q E=>wpAny S.M Φ.A (subscriptTail o (.Slice (some i) none none pp) a (.ref s₂.heap.objs.size)) Q E {s₂ with heap:=s₂.heap.push (zbC b .none)}) (hi Φ Γ env lo m N' ρ' mh' _ I' R E₀ (V.ext I X)) (fun Q E h=>h)
    fun b' mh'' a' h'' tk'' N'' ρ'' I'' X' rb=>sim_slice false (s:={s with heap:=h'',toks:=tk''}) I'' (X'.rp I' ra) rb
theorem SimE.list {es:List PySem.Expr} {pos:Pos} (h:SimEs C S n sc es) :SimE C S n sc (.List es pos):=by
 intro Φ Γ env lo m N ρ mh s I R E₀ V
 refine Sim.seq (fun xs s₁ Q E=>wpAny S.M Φ.A (newList xs) Q E s₁) (h pos Φ Γ env lo m N ρ mh s I R E₀ V) (fun Q E q=>?_) fun vs mh' xs h' tk' N' ρ' I' X r=>sim_newList I' r
 exact wpAny_bind (wpAny_standAt (wpAny_bind q))
theorem SimE.tuple {es:List PySem.Expr} {k:Nat} {pos:Pos} (h:SimEs C S n sc es) :SimE C S n sc (.Tuple es k pos):=by
 intro Φ Γ env lo m N ρ mh s I R E₀ V
 refine Sim.seq (fun xs s₁ Q E=>wpAny S.M Φ.A (newTuple xs) Q E s₁) (h pos Φ Γ env lo m N ρ mh s I R E₀ V) (fun Q E q=>?_) fun vs mh' xs h' tk' N' ρ' I' X r=>sim_newTuple I' r
 exact wpAny_bind (wpAny_standAt (wpAny_bind q))
theorem backTo_all {pos:Pos} {env:Env} :∀ {es:List PySem.Expr},noStar es=true→(backTo pos (starEach es env)).all (fun x=>!x.1)=true
 | [],_=>rfl
 | e :: r,h=>by
  simp only [noStar,List.all_cons,Bool.and_eq_true] at h
  rw [zaV h.1]
  show (true && (backTo pos (starEach r env)).all (fun x=>!x.1))=true
  rw [backTo_all (by simpa [noStar] using h.2)]
  rfl
theorem methodCall_ {o:PySem.Expr} {name:Str} {apos pos:Pos} {args:List PySem.Expr} {env:Env} {M:Model} {A:Around} {E:Value→Shared→Prop} {s:Shared} {Q:Value→Shared→Prop}
 (hb:baseOK o=true) (hn:noStar args=true) (hl:(apos.endLine == pos.line)=true) (hf:args.length < 29)
 (h:wpAny M A (eval o env) (fun ov s₁=>wpAny M A (getMethod ov name (do return (← importBound o env).getD true)) (fun fx s₂=>wpAny M A (callWith pos fx.1 fx.2 (backTo pos (starEach args env)) []) Q E s₂) E s₁) E s) :
 wpAny M A (eval (.Call (.Attribute o name apos) args [] pos) env) Q E s:=by
 simp only [arm_eval_Call,base_eq hb]
 refine wpAny_bind (wpAny_mono h (fun ov s₁ h₁=>?_) fun _ _ e=>e)
 refine wpAny_bind (wpAny_standAt ?_)
 have hform:methodCallForm (args.length + ([] :List Keyword).length) (backTo pos (starEach args env)) (backToKw pos (keywordEach [] env))=true:=by
  unfold methodCallForm
  rw [backTo_all hn]
  show (true && true && decide (args.length + 0 + 0 < 30))=true
  simp;lia
 have hpos:methodCallPos true o env apos pos=pure pos:=by unfold methodCallPos;simp [hl]
 unfold methodCall
 rw [hform]
 refine wpAny_bind (wpAny_holding ?_)
 exact wpAny_mono h₁ (fun fx s₂ h₂=>wpAny_bind (wpAny_of_eq hpos h₂)) fun _ _ z=>z
theorem SimE.meth (Z:Sit C S) (HC:CallsOK C S n) {o:PySem.Expr} {a:Str} {k:Nat} {apos pos:Pos} {args:List PySem.Expr} (hb:baseOK o=true) (hn:noStar args=true) (hl:(apos.endLine == pos.line)=true) (hf:args.length < 29)
 (ha:zew C.G a=some k) (ho:SimE C S n sc o) (hes:SimEs C S n sc args)
 {Φ:Fram} {Γ:Gam} {env:Env} {l:Locs} {m:Str→Option Value} {N:Led} {ρ:Rho} {mh:zax} {s:Shared} (I:Inv C S Φ m N ρ mh s.heap) (R:Room Φ n) (E₀:EnvOK env Γ sc) (V:VOK env Γ Φ.L m N ρ l) :
 Sim C S Φ m N ρ mh s RV (wp_ S Φ s (eval (.Call (.Attribute o a apos) args [] pos) env)) (zaw C.T (zay C.T C.fns n) (.meth (trE C.G Γ o) k (trEs C.G Γ args)) l mh):=by
 refine x0_2 (zez ha) ?_;rintro hk rfl
 refine Sim.seq (fun ov s₁ Q E=>wpAny S.M Φ.A (getMethod ov (C.atn k) (do return (← importBound o env).getD true)) (fun fx s₂=>wpAny S.M Φ.A (callWith pos fx.1 fx.2 (backTo pos (starEach args env)) []) Q E s₂) E s₁) (ho Φ Γ env l m N ρ mh s I R E₀ V)
  (fun Q E q=>methodCall_ hb hn hl hf q) fun v mh' x h' tk' N' ρ' I' X r=>?_
 cases v with
 | ref i=>
  refine x1_2 r.ref_ ?_;rintro p hp rfl
  dsimp only
  refine Inv.open I' fun g₀ u₀ J _ _=>?_
  refine x1_2 (J.H.of hp) fun ob hob hr=>?_
  rw [hob]
  cases ob with
  | inst c fs=>
   refine x2_4 hr ?_;(try clear hr);intro es nn h1 h2 h3 h4
   have kc:=Z.cls c h4
   have IA:=InstAt.of_news J.NN h1 h2
   have fg:=zeE (N:=N') (ρ:=ρ') Z.at_ hk h3
   dsimp only
   cases hg:getF k fs with
   | some w=>trivial
   | none=>
    cases hm:C.T.cmeth c k with
    | none=>trivial
    | some f=>
     dsimp only
     rcases kc.attr k hk with ⟨e,_⟩ | ⟨e,_⟩ | ⟨f',e,e1,e2,e3⟩
     · rw [hm] at e;exact noC Option.ctorIdx e rfl
     · rw [hm] at e;exact noC Option.ctorIdx e rfl
     · rw [hm] at e;(refine sy1 (Option.some.inj e) ?_;clear e;intro zq;subst zq)
       refine Sim.conv (fun Q E q=>?_) (zbL (f:= .ref (C.fnA f)) (first:=[.ref p.1]) (pos:=pos) (R2:=RV) (g:=fun vs h=>zay C.T C.fns n f (.ref i :: vs) h) hn hes (keeps_K e3) I' R E₀ (V.ext I X)
        fun vs mh'' xs h'' tk'' N'' ρ'' I'' X'' r''=>HC.fn Φ m N'' ρ'' mh'' _ f (.ref i :: vs) (.ref p.1 :: xs) I'' R (RepVs.cons_ (X''.rp I' r) r''))
       exact method_inst (s:={s with heap:=h',toks:=tk'}) J.F J.X IA (kc.get _) e1 e2 (fg.2 hg) q
  | _=>trivial
 | _=>trivial
theorem SimE.app {o x:PySem.Expr} {apos pos:Pos} (hb:baseOK o=true) (hn:zcC x=true) (hl:(apos.endLine == pos.line)=true) (ho:SimE C S n sc o) (hx:SimE C S n sc x)
 {Φ:Fram} {Γ:Gam} {env:Env} {l:Locs} {m:Str→Option Value} {N:Led} {ρ:Rho} {mh:zax} {s:Shared} (I:Inv C S Φ m N ρ mh s.heap) (R:Room Φ n) (E₀:EnvOK env Γ sc) (V:VOK env Γ Φ.L m N ρ l) :
 Sim C S Φ m N ρ mh s RV (wp_ S Φ s (eval (.Call (.Attribute o (Str.ofString "append") apos) [x] [] pos) env)) (zaw C.T (zay C.T C.fns n) (.app (trE C.G Γ o) (trE C.G Γ x)) l mh):=by
 have hns:noStar [x]=true:=by simp only [noStar,List.all_cons,List.all_nil,hn];rfl
 refine Sim.seq (fun ov s₁ Q E=>wpAny S.M Φ.A (getMethod ov "append" (do return (← importBound o env).getD true)) (fun fx s₂=>wpAny S.M Φ.A (callWith pos fx.1 fx.2 (backTo pos (starEach [x] env)) []) Q E s₂) E s₁) (ho Φ Γ env l m N ρ mh s I R E₀ V)
  (fun Q E q=>methodCall_ hb hns hl (by simp) q) fun v mh' xv h' tk' N' ρ' I' X r=>?_
 cases v with
 | ref i=>
  refine x1_2 r.ref_ ?_;rintro p hp rfl
  dsimp only
  refine Inv.open I' fun g₀ u₀ J _ _=>?_
  refine x1_2 (J.H.of hp) fun ob hob hr=>?_
  rw [hob]
  cases ob with
  | list vs ver=>
   refine x2_3 hr ?_;(try clear hr);intro its k' a1 a2 a3
   have key:((zex C.T (zay C.T C.fns n) (trEs C.G Γ [x]) l mh').bind fun vs h=>match vs with | [y]=>zdE (.ref i) y h | _=> .stuck) =
    ((zaw C.T (zay C.T C.fns n) (trE C.G Γ x) l mh').bind fun y h=>zdE (.ref i) y h):=Res.bind_assoc _ _ _
   rw [← key]
   refine Sim.conv (fun Q E q=>?_) (zbL (f:= .builtin "list.append") (first:=[.ref p.1]) (pos:=pos) (R2:=RV) (g:=fun vs h=>match vs with | [y]=>zdE (.ref i) y h | _=> .stuck) hns (SimEs.cons hn hx SimEs.nil) (zcF rfl) I' R E₀ (V.ext I X)
    fun vs mh'' xs h'' tk'' N'' ρ'' I'' X'' r''=>?_)
   · exact getMethod_append_N (s:={s with heap:=h',toks:=tk'}) J.NN a1 q
   · match vs,r'' with
     | [y],r''=>
      refine x1_2 r''.one_ ?_;rintro xx rfl ry
      exact sim_append (s:={s with heap:=h'',toks:=tk''}) I'' (X''.rp I' r) ry
     | [],_=>trivial
     | _ :: _ :: _,_=>trivial
  | _=>trivial
 | _=>trivial
end
noncomputable def strip (wr:List Addr) (N:Led) :Led:=N.filter fun p=>!(wr.contains p.1)
theorem mem_strip {wr:List Addr} {N:Led} {p:Addr × Obj} :p∈ strip wr N ↔ p∈ N∧p.1 ∉ wr:=by
 unfold strip
 simp [List.mem_filter]
section
variable {C:Cfg} {S:Stat} {Φ:Fram} {m:Str→Option Value} {N N₂ own:Led} {ρ ρ₂:Rho} {mh mh₂:zax} {h h' h₀:Heap} {wr:List Addr}
theorem HRel.strip (H:HRel C h₀ N ρ mh) (h1:∀ a∈ wr,¬ zbS ρ a) (h2:∀ p∈ N,p.1∈ wr→∀ its n,p.2≠zaU its n) :HRel C h₀ (strip wr N) ρ mh where
 len:=H.len
 obj:=fun i o p hi hp=>(H.obj i o p hi hp).mono
  (fun e he hq=>mem_strip.mpr ⟨he,fun hw=>h1 _ hw (by rcases hq with q | q <;> simp only [q];exact ⟨i,p,hp,.inl rfl⟩;exact ⟨i,p,hp,.inr rfl⟩)⟩)
  (fun a its n hm=>mem_strip.mpr ⟨hm,fun hw=>h2 _ hm hw _ _ rfl⟩) fun _ _ z=>z
 apart:=H.apart
 one:=H.one
 oner:=H.oner
theorem Inv0.strip (I:Inv0 C S Φ m N ρ mh h) (h1:∀ a∈ wr,¬ zbS ρ a) (h2:∀ p∈ N,p.1∈ wr→∀ its n,p.2≠zaU its n) :Inv0 C S Φ m (strip wr N) ρ mh h:=
 ⟨I.B,I.hA,I.hh,I.hf,I.hk,I.F,I.X,fun p hp=>I.NN p (mem_strip.mp hp).1,I.T,I.H.strip h1 h2⟩
theorem Inv.strip (I:Inv C S Φ m N ρ mh h) (h1:∀ a∈ wr,¬ zbS ρ a) (h2:∀ p∈ N,p.1∈ wr→∀ its n,p.2≠zaU its n) :Inv C S Φ m (strip wr N) ρ mh h:=by
 refine Inv.open I fun g u I a b=>?_
 exact ⟨⟨g,u,I.strip h1 h2⟩,a,b⟩
theorem RepV.strip {v:MV} {x:Value} (r:RepV N ρ v x) (h2:∀ p∈ N,p.1∈ wr→∀ its n,p.2≠zaU its n) :RepV (strip wr N) ρ v x:=
 r.mono (fun a its n hm=>mem_strip.mpr ⟨hm,fun hw=>h2 _ hm hw _ _ rfl⟩) fun _ _ z=>z
theorem RepVs.strip {v:List MV} {x:List Value} (r:RepVs N ρ v x) (h2:∀ p∈ N,p.1∈ wr→∀ its n,p.2≠zaU its n) :RepVs (strip wr N) ρ v x:=
 r.mono (fun a its n hm=>mem_strip.mpr ⟨hm,fun hw=>h2 _ hm hw _ _ rfl⟩) fun _ _ z=>z
theorem Ext.strip (X:Ext (own ++ N) ρ mh N₂ ρ₂ mh₂) (hw:∀ p∈ N,p.1 ∉ wr) :Ext N ρ mh (strip wr N₂) ρ₂ mh₂ where
 pre:=X.pre
 keep:=fun p hp ho=>mem_strip.mpr ⟨X.keep p (List.mem_append_right _ hp) ho,hw p hp⟩
 keys:=fun p hp=>let ⟨o,ho⟩:=X.keys p (List.mem_append_right _ hp);⟨o,mem_strip.mpr ⟨ho,hw p hp⟩⟩
 fresh:=fun i q hq hi p hp=>X.fresh i q hq hi p (List.mem_append_right _ hp)
 ver:=fun i vs n hi=>let ⟨vs',n',a,b,c⟩:=X.ver i vs n hi;⟨vs',n',a,b,fun e=>⟨(c e).1,fun p hp q hq hpq=>mem_strip.mpr ⟨(c e).2 p (List.mem_append_right _ hp) q hq hpq,hw p hp⟩⟩⟩
 ro:=X.ro
 back:=X.back
theorem Inv0.but (I:Inv0 C S Φ m N ρ mh h) (k:∀ b o,b ∉ wr→h.get? b=some o→h'.get? b=some o) (hL:Φ.L ∉ wr) (hb:∀ b∈ wr,Φ.h₀.get? b=none) (hN:∀ p∈ N,p.1 ∉ wr) :Inv0 C S Φ m N ρ mh h':=
 ⟨I.B,I.hA,I.hh,I.hf,I.hk,⟨I.F.ns.at' fun o e=>k _ o hL e,fun b o e=>k b o (fun hw=>by rw [hb b hw] at e;exact nofO e) (I.F.keep b o e),I.F.above⟩,I.X,
  fun p hp=>⟨k _ _ (hN p hp) (I.NN p hp).1,(I.NN p hp).2⟩,I.T,I.H⟩
theorem Inv.but (I:Inv C S Φ m N ρ mh h) (k:∀ b o,b ∉ wr→h.get? b=some o→h'.get? b=some o) (hL:Φ.L ∉ wr) (hb:∀ b∈ wr,Φ.h₀.get? b=none) (hN:∀ p∈ N,p.1 ∉ wr) :Inv C S Φ m N ρ mh h':=by
 refine Inv.open I fun g u I x y=>?_
 exact ⟨⟨g,u,I.but k hL (fun b hb'=>u.no b (hb b hb')) hN⟩,x,y⟩
theorem Inv.new_off (I:Inv C S Φ m N ρ mh h) {q:Addr} (h1:∀ p∈ N,p.1≠q) (h2:Φ.h₀.get? q=none) :¬ zbS ρ q:=by
 refine Inv.open I fun g u I _ _=>?_
 exact I.H.new_off h1 (u.no q h2)
theorem own_go0 {M:Model} {A:Around} {E:Value→Shared→Prop} {s:Shared} {Q:Unit→Shared→Prop} {x y z} {I:Addr} {v:Value} {o:Obj} {n:String} (ho:s.heap.get? I=some o) (hc:o.cls= .type n)
 (hn:(["enumerate","zip","dict_itemiterator","dict_reverseitemiterator","odict_iterator","itertools.zip_longest","itertools.pairwise"].contains n)=false) (hQ:Q () s) :
 wpAny M A (letOwnedTupleGo (.Tuple x y z) (.ref I) v) Q E s:=by
 cases v with
 | ref a=>
  refine wpAny_bind (wpAny_load ho ?_)
  cases o with
  | mk cls dict data slots=>
   have hc':cls= .type n:=hc
   subst hc'
   cases data with
   | fields vs=>dsimp only;rw [hn];exact wpAny_pure hQ
   | _=>exact wpAny_pure hQ
 | _=>exact wpAny_pure hQ
theorem own_go {M:Model} {A:Around} {E:Value→Shared→Prop} {s:Shared} {Q:Unit→Shared→Prop} {target:PySem.Expr} {I:Addr} {v:Value} {o:Obj} {n:String} (ho:s.heap.get? I=some o) (hc:o.cls= .type n)
 (hn:(["enumerate","zip","dict_itemiterator","dict_reverseitemiterator","odict_iterator","itertools.zip_longest","itertools.pairwise"].contains n)=false) (hQ:Q () s) :
 wpAny M A (letOwnedTupleGo target (.ref I) v) Q E s:=by
 cases target with
 | Tuple x y z=>exact own_go0 ho hc hn hQ
 | List x y=>exact own_go0 (x:=x) (y:=0) (z:=y) ho hc hn hQ
 | _=>exact wpAny_pure hQ
noncomputable def ItemRep (tp:Bool) (N:Led) (ρ:Rho) (h:Heap) (mv:MV) (x:Value) :Prop:=
 if tp then ∀ vs,mv= .tup vs→∃ T its,x= .ref T∧IsTup h T (List.toArray its)∧RepVs N ρ vs its else RepV N ρ mv x
structure Walk (C:Cfg) (S:Stat) (Φ:Fram) (target:PySem.Expr) (tp:Bool) (src:Src) (I:Addr) (fp wr:List Addr) (n:Nat) (P Md:Nat→Value→Heap→Prop) (St:Nat→Heap→Prop) (N:Led) (ρ:Rho) (mh:zax) :Prop where
 W:KTurns S.prog S.w Φ.A target I fp wr n P Md St
 self:∀ k (s:Shared) (Q:Value→Shared→Prop) (E:Value→Shared→Prop),St k s.heap→Q (.ref I) s→wpAny S.M Φ.A (pyIter (.ref I)) Q E s
 notL:Φ.L ∉ fp
 base:∀ b∈ wr,Φ.h₀.get? b=none
 out:∀ p∈ N,p.1 ∉ wr
 size:n≤4096
 alive:∀ k h,St k h→∀ b∈ wr,∃ o,h.get? b=some o∧∃ fs,o.data= .fields fs
 cov:∀ b∈ fp,b∈ wr∨(∃ o,Φ.h₀.get? b=some o∧∀ es ep,o.data≠.dict es ep)∨(∃ o,(b,o)∈ N∧¬ zbS ρ b)∨∃ o q a ver num vs,src= .list a ver num∧ρ[a]? =some q∧b=q.1∧(b,o)∈ N∧mh[a]? =some (.list vs ver)
 item:∀ (k:Nat) m' N' ρ' mh' h',Ext N ρ mh N' ρ' mh'→Inv C S Φ m' N' ρ' mh' h'→∀ mv,zaH src k mh'=some (some mv)→k < n∧∀ x,P k x h'→ItemRep tp N' ρ' h' mv x
 fin:∀ (k:Nat) N' ρ' mh',Ext N ρ mh N' ρ' mh'→zaH src k mh'=some none→n≤k
end
noncomputable def Live (src:Src) (mh:zax) :Prop:=∀ a ver num,src= .list a ver num→∃ vs,itemsV? mh a=some (vs,ver)
set_option tactic.hygienic true in
theorem live_of {src:Src} {mh:zax} {k:Nat} {r:Option MV} (h:zaH src k mh=some r) :Live src mh:=by
 rintro a ver num rfl
 unfold zaH at h
 dsimp only at h
 cases hi:itemsV? mh a with
 | none=>rw [hi] at h;exact nofO h
 | some p=>
  obtain ⟨vs,n⟩:=p
  rw [hi] at h
  dsimp only at h
  split at h
  · rename_i e;exact ⟨vs,by rw [e]⟩
  · exact nofO h
section
variable {C:Cfg} {S:Stat} {Φ:Fram} {m:Str→Option Value} {N N₂ own:Led} {ρ ρ₂:Rho} {mh mh₂:zax} {h h' h₀:Heap} {wr:List Addr} {s:Shared} {target:PySem.Expr} {tp:Bool}
theorem listAt (I:Inv C S Φ m N ρ mh h) {i:Nat} {p:Addr × Addr} (hp:ρ[i]? =some p) {vs:List MV} {ver:Nat} (hv:itemsV? mh i=some (vs,ver)) :
 ∃ its:List Value,RepVs N ρ vs its∧its.length≤4096∧h.IsList p.1 its.toArray∧((∃ o,Φ.h₀.get? p.1=some o∧∀ es ep,o.data≠.dict es ep)∧mh[i]? =some (.ro vs)∧ver=0∨∃ k,(p.1,listOf its.toArray k)∈ N∧mh[i]? =some (.list vs ver)):=by
 refine Inv.open I fun g₀ u₀ I _ _=>?_
 refine x1_2 (I.H.of hp) fun o ho hr=>?_
 unfold itemsV? at hv
 rw [ho] at hv
 cases o with
 | list ws n=>
  cases hv
  refine x2_3 hr ?_;(try clear hr);intro its k a b l
  exact ⟨its,b,l,⟨_,(I.NN _ a).1,rfl,k,rfl⟩,.inr ⟨k,a,ho⟩⟩
 | ro ws=>
  cases hv
  refine x1_3 hr ?_;(try clear hr);rintro its ⟨o,a1,a2,n,a3⟩ b l
  exact ⟨its,b,l,⟨o,I.F.keep _ _ a1,a2,n,a3⟩,.inl ⟨(let ⟨o',b1,b2⟩:=u₀.back a1;⟨o',b1,fun es ep q=>by rw [← b2,a3] at q;cases q⟩),ho,rfl⟩⟩
 | inst c fs=>exact nofO hv
theorem Ext.items {N':Led} {ρ':Rho} {mh':zax} (X:Ext N ρ mh N' ρ' mh') {i:Nat} {vs ws:List MV} {ver:Nat} (h1:itemsV? mh i=some (vs,ver)) (h2:itemsV? mh' i=some (ws,ver)) :ws=vs:=by
 unfold itemsV? at h1 h2
 cases ho:mh[i]? with
 | none=>rw [ho] at h1;exact nofO h1
 | some o=>
  rw [ho] at h1
  cases o with
  | list us n=>
   replace h1:=h1.symm;cases h1
   refine x2_3 (X.ver i vs ver ho) fun vs' n' a b c=>?_
   rw [a] at h2
   cases h2
   exact ((c rfl).1).symm
  | ro us=>
   cases h1
   rw [X.ro i _ ho] at h2
   cases h2
   rfl
  | inst c fs=>exact nofO h1
theorem Walk.keeps {src:Src} {I:Addr} {fp:List Addr} {n:Nat} {P Md:Nat→Value→Heap→Prop} {St:Nat→Heap→Prop} (K:Walk C S Φ target tp src I fp wr n P Md St N ρ mh)
 {N':Led} {ρ':Rho} {mh':zax} {h₁ h₂:Heap} {m₁ m₂:Str→Option Value} (X:Ext N ρ mh N' ρ' mh') (I₁:Inv C S Φ m₁ (own ++ N') ρ' mh' h₁) (hw:∀ b∈ wr,∀ o,h₁.get? b=some o→(b,o)∈ own) (ho:∀ b∈ wr,¬ zbS ρ' b)
 (X':Ext (own ++ N') ρ' mh' N₂ ρ₂ mh₂) (I₂:Inv C S Φ m₂ N₂ ρ₂ mh₂ h₂) (L:Live src mh₂) :∀ b∈ fp,∀ o,h₁.get? b=some o→h₂.get? b=some o:=by
 intro b hb o e
 rcases K.cov b hb with h | ⟨o₀,h,hd⟩ | ⟨o₀,h,hn⟩ | ⟨o₀,q,a,ver,num,vs,rfl,hq,rfl,hm,hv⟩
 · exact I₂.at (X'.keep _ (List.mem_append_left _ (hw b h o e)) (ho b h))
 · have:=I₁.same h hd
   rw [e] at this;(refine sy1 (Option.some.inj this) ?_;clear this;intro zq;subst zq)
   exact I₂.same h hd
 · have h1:=X.keep _ h hn
   have h2:(b,o₀)∈ own ++ N':=List.mem_append_right _ h1
   have:=I₁.at h2
   rw [e] at this;(refine sy1 (Option.some.inj this) ?_;clear this;intro zq;subst zq)
   exact I₂.at (X'.keep _ h2 (X.off h hn))
 · refine x1_1 (L a ver num rfl) fun ws hL=>?_
   refine x2_3 (X.ver a vs ver hv) fun vs' n' a1 a2 a3=>?_
   refine x2_3 (X'.ver a vs' n' a1) fun vs'' n'' b1 b2 b3=>?_
   have en:n''=ver:=by
    unfold itemsV? at hL
    rw [b1] at hL
    cases hL;rfl
   have e1:ver=n':=by lia
   have h1:=(a3 e1).2 _ hm q hq rfl
   have h2:(q.1,o₀)∈ own ++ N':=List.mem_append_right _ h1
   have:=I₁.at h2
   rw [e] at this;(refine sy1 (Option.some.inj this) ?_;clear this;intro zq;subst zq)
   exact I₂.at ((b3 (by lia)).2 _ h2 q (X.pre _ _ hq) rfl)
theorem rep_item {its:List Value} {vs:List MV} {N':Led} {ρ':Rho} (r:RepVs N' ρ' vs its) {k:Nat} {x:Value} {mv:MV} (h1:its.toArray[k]? =some x) (h2:vs[k]? =some mv) :RepV N' ρ' mv x:=by
 refine x1_2 (r.get h2) fun y hy ry=>?_
 rw [List.getElem?_toArray,hy] at h1
 (refine sy1 (Option.some.inj h1) ?_;clear h1;intro zq;subst zq)
 exact ry
theorem rep_tup {m':Str→Option Value} {N':Led} {ρ':Rho} {mh':zax} {h':Heap} (I':Inv C S Φ m' N' ρ' mh' h') {mv:MV} {x:Value} (r:RepV N' ρ' mv x) (tp:Bool) :ItemRep tp N' ρ' h' mv x:=by
 cases tp with
 | false=>exact r
 | true=>
  rintro vs rfl
  refine x3_4 r.tup_ ?_;rintro a its n rfl hm hr _
  exact ⟨a,its,rfl,⟨_,I'.at hm,rfl,n,rfl⟩,hr⟩
theorem zfA {vs:List MV} {k:Nat} {mv:MV} (h:vs[k]? =some mv) :k < vs.length:=(List.getElem?_eq_some_iff.mp h).1
theorem zfE {vs:List MV} {k:Nat} (h:vs[k]? =none) :vs.length≤k:=List.getElem?_eq_none_iff.mp h
inductive GoOn (C:Cfg) (S:Stat) (Φ:Fram) (m:Str→Option Value) (target:PySem.Expr) (tp:Bool) (src:Src) (N:Led) (ρ:Rho) (mh:zax) (h₁:Heap) (I:Addr) (h':Heap) :Prop
 | mk (inv:Inv C S Φ m N ρ mh h') (up:∀ b o,h₁.get? b=some o→h'.get? b=some o) (fp wr:List Addr) (n:Nat) (P Md:Nat→Value→Heap→Prop) (St:Nat→Heap→Prop) (new:∀ b∈ wr,h₁.get? b=none) (W:Walk C S Φ target tp src I fp wr n P Md St N ρ mh) (st:St 0 h') :GoOn C S Φ m target tp src N ρ mh h₁ I h'
theorem src_plain (I:Inv C S Φ m N ρ mh s.heap) {v:MV} {x:Value} (r:RepV N ρ v x) {src:Src} (hs:zcU tp .plain v mh=some src) {Q:Value→Shared→Prop} {E:Value→Shared→Prop}
 (h:∀ J h' tk,GoOn C S Φ m target tp src N ρ mh s.heap J h'→Q (.ref J) {s with heap:=h',toks:=tk}) :wpAny S.M Φ.A (pyIter x) Q E s:=by
 cases v with
 | tup vs=>
  cases hs
  refine x3_4 r.tup_ ?_;rintro a its n rfl hm hr hl
  have ht:s.heap.IsTuple a its.toArray:=⟨_,(I.at hm),rfl,n,rfl⟩
  have hlt:a < s.heap.objs.size:=Heap.lt_size (I.at hm)
  refine wpAny_pyIter_tuple ht (h _ _ s.toks ⟨I.onto fun b o e=>Heap.get?_push_of_some _ e,fun b o e=>Heap.get?_push_of_some _ e,_,_,_,_,_,_,fun b hb=>by rw [List.mem_singleton.mp hb];exact Heap.get?_none_of_le (Nat.le_refl _),
   {W:=KTurns.ofWalks (Walks.tuple I.hh s.heap.objs.size a (Nat.ne_of_lt hlt) its.toArray) (fun i v s Q E st hQ=>let ⟨o,e1,e2,_⟩:=st.1;own_go e1 e2 (by decide) hQ)
    notL:=?_,self:=(Walks.tuple I.hh s.heap.objs.size a (Nat.ne_of_lt hlt) its.toArray).self,base:=?_,out:=?_,size:=?_,alive:=?_,cov:=?_,item:=?_,fin:=?_},⟨⟨_,Heap.get?_push_size _ rfl,rfl,rfl⟩,?_⟩⟩)
  · intro hb
    rcases List.mem_cons.mp hb with e | hb
    · exact absurd I.Llt (by rw [e];exact Nat.lt_irrefl _)
    · exact (I.neL hm) (List.mem_singleton.mp hb).symm
  · intro b hb;rw [List.mem_singleton.mp hb];exact I.new
  · intro p hp hb;exact I.below p hp (List.mem_singleton.mp hb)
  · exact hl
  · intro k h st b hb
    rw [List.mem_singleton.mp hb]
    refine x1_3 st.1 fun o e1 e2 e3=>?_
    exact ⟨o,e1,_,e3⟩
  · intro b hb
    rcases List.mem_cons.mp hb with rfl | hb
    · exact .inl (List.mem_singleton.mpr rfl)
    · rw [List.mem_singleton.mp hb]
      exact .inr (.inr (.inl ⟨_,hm,I.tup_off hm⟩))
  · intro k m' N' ρ' mh' h' X I' mv hi
    simp only [zaH,Option.some.injEq] at hi
    refine ⟨by rw [List.size_toArray,hr.length];exact zfA hi,fun x hx=>rep_tup I' (rep_item (X.rps I hr) hx hi) tp⟩
  · intro k N' ρ' mh' X hi
    simp only [zaH,Option.some.injEq] at hi
    rw [List.size_toArray,hr.length];exact zfE hi
  · exact ⟨_,Heap.get?_push_of_some _ (I.at hm),rfl,n,rfl⟩
 | ref i=>
  have hs:srcL mh i false=some src:=hs
  unfold srcL at hs
  refine x1_2 r.ref_ ?_;rintro p hp rfl
  cases hv:itemsV? mh i with
  | none=>rw [hv] at hs;exact nofO hs
  | some q=>
   obtain ⟨vs,ver⟩:=q
   rw [hv] at hs
   simp only [Option.some.injEq] at hs
   subst hs
   refine x1_4 (listAt I hp hv) fun its hr hl hli hw=>?_
   have hlt:p.1 < s.heap.objs.size:=by (refine x1_2 hli ?_;(try clear hli);intro o e _);exact Heap.lt_size e
   refine wpAny_pyIter_list hli (h _ _ s.toks ⟨I.onto fun b o e=>Heap.get?_push_of_some _ e,fun b o e=>Heap.get?_push_of_some _ e,_,_,_,_,_,_,fun b hb=>by rw [List.mem_singleton.mp hb];exact Heap.get?_none_of_le (Nat.le_refl _),
    {W:=KTurns.ofWalks (Walks.list I.hh s.heap.objs.size p.1 (Nat.ne_of_lt hlt) its.toArray) (fun i v s Q E st hQ=>let ⟨o,e1,e2,_⟩:=st.1;own_go e1 e2 (by decide) hQ)
     notL:=?_,self:=(Walks.list I.hh s.heap.objs.size p.1 (Nat.ne_of_lt hlt) its.toArray).self,base:=?_,out:=?_,size:=?_,alive:=?_,cov:=?_,item:=?_,fin:=?_},⟨⟨_,Heap.get?_push_size _ rfl,rfl,rfl⟩,?_⟩⟩)
   · intro hb
     rcases List.mem_cons.mp hb with e | hb
     · exact absurd I.Llt (by rw [e];exact Nat.lt_irrefl _)
     · have e:=List.mem_singleton.mp hb
       rcases hw with ⟨⟨o,ho,_⟩,_⟩ | ⟨k,hm,_⟩
       · rw [← e] at ho
         rw [I.noL] at ho;exact nofO ho
       · exact (I.neL hm) e.symm
   · intro b hb;rw [List.mem_singleton.mp hb];exact I.new
   · intro p hp hb;exact I.below p hp (List.mem_singleton.mp hb)
   · exact hl
   · intro k h st b hb
     rw [List.mem_singleton.mp hb]
     refine x1_3 st.1 fun o e1 e2 e3=>?_
     exact ⟨o,e1,_,e3⟩
   · intro b hb
     rcases List.mem_cons.mp hb with rfl | hb
     · exact .inl (List.mem_singleton.mpr rfl)
     · rw [List.mem_singleton.mp hb]
       rcases hw with ⟨ho,_⟩ | ⟨k,hm,hmh⟩
       · exact .inr (.inl ho)
       · exact .inr (.inr (.inr ⟨_,p,i,ver,false,vs,rfl,hp,rfl,hm,hmh⟩))
   · intro k m' N' ρ' mh' h' X I' mv hi
     refine x1_1 (live_of hi i ver false rfl) fun ws hL=>?_
     have:=X.items hv hL
     subst this
     simp only [zaH,hL,if_true,Bool.false_eq_true,if_false,Option.map_id',Option.some.injEq] at hi
     refine ⟨by rw [List.size_toArray,hr.length];exact zfA hi,fun x hx=>rep_tup I' (rep_item (X.rps I hr) hx hi) tp⟩
   · intro k N' ρ' mh' X hi
     refine x1_1 (live_of hi i ver false rfl) fun ws hL=>?_
     have:=X.items hv hL
     subst this
     simp only [zaH,hL,if_true,Bool.false_eq_true,if_false,Option.map_id',Option.some.injEq] at hi
     rw [List.size_toArray,hr.length];exact zfE hi
   · exact hli.push _
 | _=>exact noC Option.ctorIdx hs rfl
end
section
variable {C:Cfg} {S:Stat} {Φ:Fram} {m:Str→Option Value} {N N₂ own:Led} {ρ ρ₂:Rho} {mh mh₂:zax} {h h' h₀:Heap} {wr:List Addr} {s:Shared} {target:PySem.Expr} {tp:Bool}
theorem zdG {a b:Addr} (h:a=b) :@Eq Nat a b:=h
theorem base_lt (I:Inv C S Φ m N ρ mh h) :@LE.le Nat _ Φ.h₀.objs.size h.objs.size:=I.baselt
theorem L_lt (I:Inv C S Φ m N ρ mh h) :@LT.lt Nat _ Φ.L h.objs.size:=I.Llt
theorem N_lt (I:Inv C S Φ m N ρ mh h) {p:Addr × Obj} (hp:p∈ N) :@LT.lt Nat _ p.1 h.objs.size:=Heap.lt_size (I.at hp)
set_option tactic.hygienic true in
theorem src_range (I:Inv C S Φ m N ρ mh s.heap) {v:MV} {x:Value} (r:RepV N ρ v x) {src:Src} (hs:zcU tp .range v mh=some src) {Q:Value→Shared→Prop} {E:Value→Shared→Prop}
 (h:∀ J h' tk,GoOn C S Φ m target tp src N ρ mh s.heap J h'→Q (.ref J) {s with heap:=h',toks:=tk}) :wpAny S.M Φ.A (call (.type "range") [x]) (fun y s₁=>wpAny S.M Φ.A (pyIter y) Q E s₁) E s:=by
 cases v with
 | int n=>
  refine x1_1 r.int_ ?_;rintro t rfl
  have hs:(if 0≤n∧n < 4096 then some (Src.fixed ((List.range n.toNat).map fun k=> .int (Int.ofNat k))) else none)=some src:=hs
  split at hs
  · rename_i hn
    simp only [Option.some.injEq] at hs
    subst hs
    refine x1_1 (Int.eq_ofNat_of_zero_le hn.1) ?_;rintro k rfl
    have hk:k < 4096:=by lia
    have hz:Builtin.Range.rangeSize 0 (k:Int) 1=(k:Int):=by
     unfold Builtin.Range.rangeSize
     simp
     lia
    have hsm:Builtin.Range.small 0 (k:Int) 1=true:=by
     unfold Builtin.Range.small
     rw [hz]
     simp [Builtin.Range.rangeFitsLong]
     lia
    refine call_range_1 (wpAny_pyIter_range (Heap.get?_push_size _ rfl) hsm ?_)
    have up:∀ b o,s.heap.get? b=some o→((s.heap.push {cls:= .type "range",data:= .fields #[.int 0 s.toks,.int (k:Int) t,.int 1 (s.toks + 1)]}).push {cls:= .type "range_iterator",data:= .fields #[rawInt 0,rawInt (Builtin.Range.rangeSize 0 (k:Int) 1),rawInt 1]}).get? b=some o:=
     fun b o e=>Heap.get?_push_of_some _ (Heap.get?_push_of_some _ e)
    have sz:(s.heap.push {cls:= .type "range",data:= .fields #[.int 0 s.toks,.int (k:Int) t,.int 1 (s.toks + 1)]}).objs.size=s.heap.objs.size + 1:=Heap.size_push ..
    refine h _ _ _ ⟨I.onto up,up,_,_,_,_,_,_,fun b hb=>by rw [List.mem_singleton.mp hb,sz];exact Heap.get?_none_of_le (Nat.le_succ _),
     {W:=KTurns.ofWalks (LCg.range_walks I.hh 0 k) (fun i v s Q E st hQ=>own_go st rfl (by decide) hQ)
      notL:=?_,self:=(LCg.range_walks I.hh 0 k).self,base:=?_,out:=?_,size:=?_,alive:=?_,cov:=?_,item:=?_,fin:=?_},?_⟩
    · intro hb
      have e:=zdG (List.mem_singleton.mp hb)
      have:=L_lt I
      rw [sz] at e
      lia
    · intro b hb
      rw [List.mem_singleton.mp hb,sz]
      exact Heap.get?_none_of_le (Nat.le_succ_of_le (base_lt I))
    · intro p hp hb
      have e:=zdG (List.mem_singleton.mp hb)
      have:=N_lt I hp
      rw [sz] at e
      lia
    · (with_reducible exact Nat.le_of_lt (by assumption))
    · intro k h st b hb
      rw [List.mem_singleton.mp hb]
      exact ⟨_,st,_,rfl⟩
    · intro b hb;exact .inl hb
    · intro j m' N' ρ' mh' h' X I' mv hi
      simp only [zaH,Option.some.injEq] at hi
      have hj:=zfA hi
      simp only [List.length_map,List.length_range,Int.ofNat_eq_natCast] at hj
      refine ⟨hj,fun x hx=>?_⟩
      refine x1_1 hx ?_;(try clear hx);rintro t' rfl
      rw [List.getElem?_map,List.getElem?_range (by simpa using hj)] at hi
      simp only [Option.map_some,Option.some.injEq] at hi
      subst hi
      have e:(0:Int) + (j:Int)=Int.ofNat j:=by simp
      rw [e]
      exact rep_tup I' zbz tp
    · intro j N' ρ' mh' X hi
      simp only [zaH,Option.some.injEq] at hi
      have:=zfE hi
      simpa using this
    · show IsRangeIter _ _ _ _ _
      rw [hz]
      have:=Heap.get?_push_size (s.heap.push {cls:= .type "range",data:= .fields #[.int 0 s.toks,.int (k:Int) t,.int 1 (s.toks + 1)]}) (o:={cls:= .type "range_iterator",data:= .fields #[rawInt 0,rawInt (k:Int),rawInt 1]}) rfl
      simpa using this
  · exact nofO hs
 | _=>exact noC Option.ctorIdx hs rfl
theorem src_enum {elts:List PySem.Expr} {ek:Nat} {epos:Pos} (I:Inv C S Φ m N ρ mh s.heap) {v:MV} {x:Value} (r:RepV N ρ v x) {src:Src} (hs:zcU true .enum v mh=some src) {Q:Value→Shared→Prop} {E:Value→Shared→Prop}
 (h:∀ J h' tk,GoOn C S Φ m (.Tuple elts ek epos) true src N ρ mh s.heap J h'→Q (.ref J) {s with heap:=h',toks:=tk}) :wpAny S.M Φ.A (call (.type "enumerate") [x]) (fun y s₁=>wpAny S.M Φ.A (pyIter y) Q E s₁) E s:=by
 cases v with
 | ref i=>
  have hs:srcL mh i true=some src:=hs
  unfold srcL at hs
  refine x1_2 r.ref_ ?_;rintro p hp rfl
  cases hv:itemsV? mh i with
  | none=>rw [hv] at hs;exact nofO hs
  | some q=>
   obtain ⟨vs,ver⟩:=q
   rw [hv] at hs
   simp only [Option.some.injEq] at hs
   subst hs
   refine x1_4 (listAt I hp hv) fun its hr hl hli hw=>?_
   have hlt:p.1 < s.heap.objs.size:=by (refine x1_2 hli ?_;(try clear hli);intro o e _);exact Heap.lt_size e
   have hL:=L_lt I
   have hab:=base_lt I
   have hpL:p.1≠Φ.L:=by
    intro e
    rcases hw with ⟨⟨o,ho,_⟩,_⟩ | ⟨k,hm,_⟩
    · rw [e,I.noL] at ho;exact nofO ho
    · exact I.neL hm e
   refine call_enumerate_list hli fun h' hE hI hsz hk=>wpAny_pyIter_enum hE (h _ _ s.toks ⟨I.onto hk,hk,_,_,_,_,_,_,(fun b hb=>by
    simp only [List.mem_cons,List.not_mem_nil,or_false] at hb
    rcases hb with rfl | rfl
    · exact Heap.get?_none_of_le (Nat.le_succ _)
    · exact Heap.get?_none_of_le (Nat.le_refl _)),
    {W:=KTurns.ofWalksU (WalksT.enumerate I.hh (s.heap.objs.size + 1) s.heap.objs.size p.1 (Nat.succ_ne_self _) (Nat.ne_of_lt (Nat.lt_succ_of_lt hlt)) (Nat.ne_of_lt hlt) its.toArray).toU
     notL:=?_,self:=(WalksT.enumerate I.hh (s.heap.objs.size + 1) s.heap.objs.size p.1 (Nat.succ_ne_self _) (Nat.ne_of_lt (Nat.lt_succ_of_lt hlt)) (Nat.ne_of_lt hlt) its.toArray).self,base:=?_,out:=?_,size:=?_,alive:=?_,cov:=?_,item:=?_,fin:=?_},⟨⟨_,hE⟩,hI,hli.at fun o e=>hk _ _ e⟩⟩)
   · intro hb
     simp only [List.mem_cons,List.not_mem_nil,or_false] at hb
     rcases hb with e | e | e
     · have e:=zdG e;lia
     · have e:=zdG e;lia
     · exact hpL e.symm
   · intro b hb
     simp only [List.mem_cons,List.not_mem_nil,or_false] at hb
     rcases hb with rfl | rfl
     · exact Heap.get?_none_of_le (Nat.le_succ_of_le hab)
     · exact Heap.get?_none_of_le hab
   · intro q hq hb
     have:=N_lt I hq
     simp only [List.mem_cons,List.not_mem_nil,or_false] at hb
     rcases hb with e | e <;> (have e:=zdG e;lia)
   · exact hl
   · intro k h st b hb
     simp only [List.mem_cons,List.not_mem_nil,or_false] at hb
     refine x0_3 st ?_;(try clear st);rintro ⟨old,he⟩ ⟨o,e1,e2,e3⟩ _
     rcases hb with rfl | rfl
     · exact ⟨_,he,_,rfl⟩
     · exact ⟨o,e1,_,e3⟩
   · intro b hb
     simp only [List.mem_cons,List.not_mem_nil,or_false] at hb
     rcases hb with rfl | rfl | rfl
     · exact .inl (List.mem_cons_self)
     · exact .inl (by simp)
     · rcases hw with ⟨ho,_⟩ | ⟨k,hm,hmh⟩
       · exact .inr (.inl ho)
       · exact .inr (.inr (.inr ⟨_,p,i,ver,true,vs,rfl,hp,rfl,hm,hmh⟩))
   · intro k m' N' ρ' mh' h' X I' mv hi
     refine x1_1 (live_of hi i ver true rfl) fun ws hL=>?_
     have:=X.items hv hL
     subst this
     simp only [zaH,hL,if_true,Option.some.injEq,Option.map_eq_some_iff] at hi
     refine x1_2 hi ?_;(try clear hi);rintro u hu rfl
     refine ⟨by rw [List.size_toArray,hr.length];exact zfA hu,fun x hx=>?_⟩
     refine x2_3 hx ?_;(try clear hx);rintro T vals rfl ⟨t,y,hy,rfl⟩ hT
     intro us e
     (refine sy1 (MV.tup.inj e) ?_;clear e;intro zq;subst zq)
     exact ⟨T,[.int k t,y],rfl,hT,RepVs.cons_ zbz (RepVs.single (rep_item (X.rps I hr) hy hu))⟩
   · intro k N' ρ' mh' X hi
     refine x1_1 (live_of hi i ver true rfl) fun ws hL=>?_
     have:=X.items hv hL
     subst this
     simp only [zaH,hL,if_true,Option.some.injEq,Option.map_eq_none_iff] at hi
     rw [List.size_toArray,hr.length];exact zfE hi
 | _=>exact noC Option.ctorIdx hs rfl
end
theorem globAt_ok {G:Gl} {Γ:Gam} {x:Str} {g:GV} (h:zaS G Γ x=some g) :Γ.names.lookup x=some none∧G.gt.lookup x=some g:=by
 unfold zaS at h
 cases hx:Γ.names.lookup x with
 | none=>rw [hx] at h;exact nofO h
 | some k=>
  cases k with
  | some i=>rw [hx] at h;exact nofO h
  | none=>rw [hx] at h;exact ⟨rfl,h⟩
inductive IterK (G:Gl) (Γ:Gam) (k:SrcK) :PySem.Expr→Prop
 | mk (f p x pos) (h:zaS G Γ f=some (if k= .range then .range else .enum)) :IterK G Γ k (.Call (.Name f p) [x] [] pos)
theorem iterKind_ok {G:Gl} {Γ:Gam} {it:PySem.Expr} {k:SrcK} (h:zbH G Γ it=k) (hk:k≠.plain) :IterK G Γ k it:=by
 have no:SrcK.plain=k→False:=fun e=>hk e.symm
 cases it with
 | Call f as ks pos=>
  cases f with
  | Name f p=>
   cases as with
   | nil=>exact (no h).elim
   | cons x r=>
    cases r with
    | cons _ _=>exact (no h).elim
    | nil=>
     cases ks with
     | cons _ _=>exact (no h).elim
     | nil=>
      refine .mk f p x pos ?_
      delta zbH at h
      dsimp only at h
      cases hg:zaS G Γ f with
      | none=>rw [hg] at h;exact (no h).elim
      | some g=>
       rw [hg] at h
       cases g with
       | range=>subst h;rfl
       | enum=>subst h;rfl
       | _=>exact (no h).elim
  | _=>exact (no h).elim
 | _=>exact (no h).elim
section
variable {C:Cfg} {S:Stat} {n:Nat} {sc:Scope}
noncomputable def Cells (bs:List Addr) (N:Led) :Prop:=∀ b∈ bs,∃ o v,(b,o)∈ N∧o.data= .cell v
theorem Cells.at {Φ:Fram} {m:Str→Option Value} {N:Led} {ρ:Rho} {mh:zax} {h:Heap} {bs:List Addr} (c:Cells bs N) (I:Inv C S Φ m N ρ mh h) {p:Addr × Obj} (hp:p∈ N) (hb:p.1∈ bs) :∃ v,p.2.data= .cell v:=by
 refine x2_2 (c _ hb) fun o v ho hv=>?_
 have:=I.one ho hp
 exact ⟨v,this ▸ hv⟩
theorem Cells.ext {Φ:Fram} {m:Str→Option Value} {N N':Led} {ρ ρ':Rho} {mh mh':zax} {h:Heap} {bs:List Addr} (c:Cells bs N) (I:Inv C S Φ m N ρ mh h) (X:Ext N ρ mh N' ρ' mh') :Cells bs N':=fun b hb=>by
 refine x2_2 (c b hb) fun o v ho hv=>?_
 exact ⟨o,v,X.keep _ ho (I.cell_off ho hv),hv⟩
theorem Cells.off {Φ:Fram} {m:Str→Option Value} {N:Led} {ρ:Rho} {mh:zax} {h:Heap} {bs:List Addr} (c:Cells bs N) (I:Inv C S Φ m N ρ mh h) :∀ b∈ bs,¬ zbS ρ b:=fun b hb=>by
 refine x2_2 (c b hb) fun o v ho hv=>?_
 exact I.cell_off ho hv
theorem Cells.tup {Φ:Fram} {m:Str→Option Value} {N:Led} {ρ:Rho} {mh:zax} {h:Heap} {bs:List Addr} (c:Cells bs N) (I:Inv C S Φ m N ρ mh h) :∀ p∈ N,p.1∈ bs→∀ its n,p.2≠zaU its n:=fun p hp hb its n e=>by
 refine x1_1 (c.at I hp hb) fun v hv=>?_
 rw [e] at hv;cases hv
theorem strip_nil (N:Led) :strip [] N=N:=by unfold strip;simp
inductive GoOnB (C:Cfg) (S:Stat) (Φ:Fram) (m:Str→Option Value) (target:PySem.Expr) (tp:Bool) (src:Src) (bs:List Addr) (N:Led) (ρ:Rho) (mh:zax) (J:Addr) (h':Heap) :Prop
 | mk (inv:Inv C S Φ m N ρ mh h') (fp wr:List Addr) (n:Nat) (P Md:Nat→Value→Heap→Prop) (St:Nat→Heap→Prop) (out:∀ p∈ N,p.1 ∉ wr) (W:Walk C S Φ target tp src J fp wr n P Md St (strip bs N) ρ mh) (st:St 0 h') :GoOnB C S Φ m target tp src bs N ρ mh J h'
theorem GoOn.b {Φ:Fram} {m:Str→Option Value} {target:PySem.Expr} {tp:Bool} {src:Src} {N:Led} {ρ:Rho} {mh:zax} {h₁ h':Heap} {J:Addr} {bs:List Addr} (I:Inv C S Φ m N ρ mh h₁) (g:GoOn C S Φ m target tp src (strip bs N) ρ mh h₁ J h') :GoOnB C S Φ m target tp src bs N ρ mh J h':=by
 obtain ⟨_,up,fp,wr,n,P,Md,St,new,K,st⟩:=g
 exact ⟨I.onto up,fp,wr,n,P,Md,St,(fun p hp hw=>absurd ((I.at hp).symm.trans (new _ hw)) (by simp)),K,st⟩
noncomputable def iterR (C:Cfg) (n:Nat) (tp:Bool) (Γ:Gam) (it:PySem.Expr) (l:Locs) (mh:zax) :Res Src:=
 (zaw C.T (zay C.T C.fns n) (iterE C.G Γ it) l mh).bind fun v h=>match zcU tp (zbH C.G Γ it) v h with | some src=> .ok src h | none=> .stuck
noncomputable def SimIter (C:Cfg) (S:Stat) (n:Nat) (sc:Scope) (target:PySem.Expr) (tp:Bool) (it:PySem.Expr) :Prop:=
 ∀ (Φ:Fram) (Γ:Gam) (env:Env) (l:Locs) (m:Str→Option Value) (N:Led) (ρ:Rho) (mh:zax) (s:Shared),Inv C S Φ m N ρ mh s.heap→Room Φ n→EnvOK env Γ sc→VOK env Γ Φ.L m N ρ l→∀ bs,Cells bs N→
  match iterR C n tp Γ it l mh with
  | .ok src mh'=>∀ Q E,(∀ J h' tk' N' ρ',Ext N ρ mh N' ρ' mh'→GoOnB C S Φ m target tp src bs N' ρ' mh' J h'→Q (.ref J) {s with heap:=h',toks:=tk'})→wpAny S.M Φ.A (eval it env) (fun xv s₁=>wpAny S.M Φ.A (pyIter xv) Q E s₁) E s
  | .exc mh'=>∀ Q E,(∀ e h' tk',Flies C Φ m N ρ mh mh' e h'→E (.ref e) {s with heap:=h',toks:=tk'})→wpAny S.M Φ.A (eval it env) (fun xv s₁=>wpAny S.M Φ.A (pyIter xv) Q E s₁) E s
  | .stuck=>True
theorem simIter (Z:Sit C S) {target:PySem.Expr} {tp:Bool} {it:PySem.Expr} (ht:tp=true→∃ elts k pos,target= .Tuple elts k pos) (hit:SimE C S n sc it)
 (hx:∀ f p x pos,it= .Call (.Name f p) [x] [] pos→zcC x=true∧SimE C S n sc x) :SimIter C S n sc target tp it:=by
 intro Φ Γ env l m N ρ mh s I R E₀ V bs Cb
 unfold iterR iterE
 by_cases hk:zbH C.G Γ it= .plain
 · rw [hk]
   have h:=hit Φ Γ env l m N ρ mh s I R E₀ V
   cases hr:zaw C.T (zay C.T C.fns n) (trE C.G Γ it) l mh with
   | stuck=>trivial
   | exc mh'=>rw [hr] at h;exact fun Q E hE=>h _ E hE
   | ok v mh'=>
    rw [hr] at h
    simp only [Res.bind]
    cases hs:zcU tp .plain v mh' with
    | none=>trivial
    | some src=>exact fun Q E hQ=>h _ E fun x h' tk' N' ρ' I' X r=>src_plain (s:={s with heap:=h',toks:=tk'}) (I'.strip ((Cb.ext I X).off I') ((Cb.ext I X).tup I')) (r.strip ((Cb.ext I X).tup I')) hs fun J h'' tk g=>hQ J h'' tk N' ρ' X (g.b I')
 · have IK:=iterKind_ok rfl hk
   generalize hkk:zbH C.G Γ it=kk at IK
   cases IK with | mk f p x pos hg=>
   subst hkk
   refine x0_2 (hx f p x pos rfl) fun hn hxe=>?_
   refine x0_2 (globAt_ok hg) fun g1 g2=>?_
   have hx':zbH C.G Γ (.Call (.Name f p) [x] [] pos)= .range∨zbH C.G Γ (.Call (.Name f p) [x] [] pos)= .enum:=by
    cases h:zbH C.G Γ (.Call (.Name f p) [x] [] pos) with
    | plain=>exact absurd h hk
    | enum=>exact .inr rfl
    | range=>exact .inl rfl
   have h:=hxe Φ Γ env l m N ρ mh s I R E₀ V
   have call_:∀ {v:Value} {Q E},keeperOf v=pure .machine→(∀ Q E,Q v s→wpAny S.M Φ.A (eval (.Name f p) env) Q E s)→
    wpAny S.M Φ.A (eval x env) (fun a s₁=>S.K.In s₁.heap∧wpAny S.M Φ.A (call v [a]) Q E s₁) E s→wpAny S.M Φ.A (eval (.Call (.Name f p) [x] [] pos) env) Q E s:=by
    intro v Q E hv hl q
    refine wpAny_bind (hl _ _ ?_)
    refine callWith_of (P:=S.K.In) (by rw [zcx (by simp only [noStar,List.all_cons,List.all_nil,hn];rfl)];rfl) (zcF hv) ?_
    rw [zaV hn]
    exact evalArgs_plain (spliced_cons (wpAny_mono q (fun a s₁ q₁=>spliced_nil q₁) fun _ _ z=>z))
   have ha:arg1E C.G Γ (.Call (.Name f p) [x] [] pos)=trE C.G Γ x:=rfl
   rcases hx' with hk' | hk'
   · rw [hk'] at hg ⊢
     refine x0_2 (globAt_ok hg) fun _ g2=>?_
     refine x0_3 (Z.glob f _ g2) fun a1 a2 a3=>?_
     dsimp only
     rw [ha]
     cases hr:zaw C.T (zay C.T C.fns n) (trE C.G Γ x) l mh with
     | stuck=>trivial
     | exc mh'=>rw [hr] at h;exact fun Q E hE=>call_ rfl (fun Q E q=>zcO I E₀ g1 a1 a2 a3 q) (h _ E hE)
     | ok v mh'=>
      rw [hr] at h
      simp only [Res.bind]
      cases hs:zcU tp .range v mh' with
      | none=>trivial
      | some src=>exact fun Q E hQ=>call_ rfl (fun Q E q=>zcO I E₀ g1 a1 a2 a3 q) (h _ E fun x h' tk' N' ρ' I' X r=>⟨I'.inK,src_range (s:={s with heap:=h',toks:=tk'}) (I'.strip ((Cb.ext I X).off I') ((Cb.ext I X).tup I')) (r.strip ((Cb.ext I X).tup I')) hs fun J h'' tk g=>hQ J h'' tk N' ρ' X (g.b I')⟩)
   · rw [hk'] at hg ⊢
     refine x0_2 (globAt_ok hg) fun _ g2=>?_
     refine x0_3 (Z.glob f _ g2) fun a1 a2 a3=>?_
     dsimp only
     rw [ha]
     cases hr:zaw C.T (zay C.T C.fns n) (trE C.G Γ x) l mh with
     | stuck=>trivial
     | exc mh'=>rw [hr] at h;exact fun Q E hE=>call_ rfl (fun Q E q=>zcO I E₀ g1 a1 a2 a3 q) (h _ E hE)
     | ok v mh'=>
      rw [hr] at h
      simp only [Res.bind]
      cases hs:zcU tp .enum v mh' with
      | none=>trivial
      | some src=>
       cases tp with
       | false=>cases v <;> exact noC Option.ctorIdx hs rfl
       | true=>
        refine x3_1 (ht rfl) ?_;rintro elts ek epos rfl
        exact fun Q E hQ=>call_ rfl (fun Q E q=>zcO I E₀ g1 a1 a2 a3 q) (h _ E fun x h' tk' N' ρ' I' X r=>⟨I'.inK,src_enum (s:={s with heap:=h',toks:=tk'}) (I'.strip ((Cb.ext I X).off I') ((Cb.ext I X).tup I')) (r.strip ((Cb.ext I X).tup I')) hs fun J h'' tk g=>hQ J h'' tk N' ρ' X (g.b I')⟩)
end
noncomputable def clOf (env:Env) :List (Str × NameKind)→List (Str × Addr)→List (Str × Addr)
 | [],acc=>acc
 | (x,k) :: r,acc=>if k == .free then clOf env r ((x,(env.cells.lookup x).getD 0) :: acc) else clOf env r acc
theorem closure_eq {env:Env} {scope:Scope} (h:∀ y∈ scope.names,y.2= .free→∃ c,env.cells.lookup y.1=some c) :closureFor scope env=pure (clOf env scope.names []):=by
 unfold closureFor
 have key:∀ (ns:List (Str × NameKind)) (acc:List (Str × Addr)),(∀ y∈ ns,y.2= .free→∃ c,env.cells.lookup y.1=some c)→
  (forIn ns acc fun (x:Str × NameKind) (r:List (Str × Addr))=>(match x with | (name,kind)=>if kind == .free then do {let a ← cellOf env name;pure (ForInStep.yield ((name,a) :: r))} else pure (ForInStep.yield r) :Sem (ForInStep (List (Str × Addr)))))=pure (clOf env ns acc):=by
  intro ns
  induction ns with
  | nil=>intro acc _;rfl
  | cons y r ih=>
   obtain ⟨x,k⟩:=y
   intro acc h
   rw [List.forIn_cons]
   dsimp only
   by_cases hk:k= .free
   · subst hk
     refine x1_1 (h _ List.mem_cons_self rfl) fun c hc=>?_
     have:cellOf env x=pure c:=by unfold cellOf;rw [hc]
     simp only [beq_self_eq_true,if_true,this,pure_bind]
     simp only [ih _ fun y hy=>h y (List.mem_cons_of_mem _ hy)]
     simp only [clOf,beq_self_eq_true,if_true,hc,Option.getD_some]
   · have e:(k == NameKind.free)=false:=by simpa using hk
     simp only [e,Bool.false_eq_true,if_false,pure_bind]
     rw [ih _ fun y hy=>h y (List.mem_cons_of_mem _ hy)]
     simp only [clOf,e,Bool.false_eq_true,if_false]
 have:=key scope.names [] h
 simp only [bind_pure]
 exact this
theorem clOf_look {env:Env} {x:Str} {c:Addr} (hc:env.cells.lookup x=some c) :∀ (ns:List (Str × NameKind)) (acc:List (Str × Addr)),
 (acc.lookup x=some c∨(x,.free)∈ ns)→(∀ z,acc.lookup x=some z→z=c)→(clOf env ns acc).lookup x=some c
 | [],acc,h,h'=>by rcases h with h | h;exact h;cases h
 | (y,k) :: r,acc,h,h'=>by
  unfold clOf
  by_cases hk:k= .free
  · subst hk
    by_cases hy:x=y
    · subst hy
      refine clOf_look hc r _ (.inl (by simp [List.lookup,hc])) fun z hz=>?_
      simp [List.lookup,hc] at hz
      exact hz.symm
    · have e:(x == y)=false:=by simpa using hy
      refine clOf_look hc r _ ?_ fun z hz=>h' z (by simpa [List.lookup,e] using hz)
      rcases h with h | h
      · exact .inl (by simpa [List.lookup,e] using h)
      · rcases List.mem_cons.mp h with h | h
        · (refine sy2 (Prod.mk.inj h) ?_;clear h;intro zq zr;subst zq;cases zr);exact absurd rfl hy
        · exact .inr h
  · have e:(k == NameKind.free)=false:=by simpa using hk
    rw [if_neg (by simp [e])]
    refine clOf_look hc r _ ?_ h'
    rcases h with h | h
    · exact .inl h
    · rcases List.mem_cons.mp h with h | h
      · (refine sy2 (Prod.mk.inj h) ?_;clear h;intro zq zr;subst zq;subst zr);exact absurd rfl hk
      · exact .inr h
set_option tactic.hygienic true in
theorem zbG {α:Type} {x:Str} {a:α} :∀ {l:List (Str × α)},l.lookup x=some a→(x,a)∈ l
 | [],h=>by exact noC Option.ctorIdx h rfl
 | (y,b) :: r,h=>by
  simp only [List.lookup] at h
  split at h
  · rename_i e
    (refine sy1 (Option.some.inj h) ?_;clear h;intro zq;subst zq)
    rw [beq_iff_eq.mp e];exact List.mem_cons_self
  · exact List.mem_cons_of_mem _ (zbG h)
set_option tactic.hygienic true in
theorem zeO {env:Env} :∀ {names:List (Str × NameKind)} {x:Str},
 (names.map fun (n,k)=>if (k == NameKind.free && env.scope.kind == .function && env.kindOf n == some .cell) then (n,NameKind.cell) else (n,k)).lookup x =
  (names.lookup x).map fun k=>if (k == NameKind.free && env.scope.kind == .function && env.kindOf x == some .cell) then NameKind.cell else k
 | [],_=>rfl
 | (n,k) :: r,x=>by
  simp only [List.map_cons]
  by_cases hx:x=n
  · subst hx
    have e:(x == x)=true:=beq_self_eq_true x
    split
    · rename_i h;simp only [List.lookup,e,Option.map_some,if_pos h]
    · rename_i h;simp only [List.lookup,e,Option.map_some,if_neg h]
  · have e:(x == n)=false:=by simpa using hx
    have ih:=@zeO env r x
    split <;> simp only [List.lookup,e] <;> exact ih
set_option tactic.hygienic true in
theorem zcB {x:Str} :∀ {ts:List Str} {n:Nat} {k:Option Nat},(zdy n ts).lookup x=some k→∃ j,ts[j]? =some x∧k=some (n + j)
 | [],n,k,h=>by exact noC Option.ctorIdx h rfl
 | t :: r,n,k,h=>by
  dsimp only [zdy,List.lookup] at h
  split at h
  · rename_i e
    (refine sy1 (Option.some.inj h) ?_;clear h;intro zq;subst zq)
    exact ⟨0,by rw [beq_iff_eq.mp e];rfl,rfl⟩
  · refine x1_2 (zcB h) fun j h1 h2=>?_
    exact ⟨j + 1,by simpa using h1,by rw [h2];congr 1;lia⟩
theorem zdw {α:Type} {x:Str} :∀ {l r:List (Str × α)},(l ++ r).lookup x=(l.lookup x).or (r.lookup x)
 | [],r=>by simp
 | (y,b) :: l,r=>by
  dsimp only [List.cons_append,List.lookup]
  split
  · rfl
  · exact zdw
structure ScOK (sc:Scope) (ts:List Str) (sc':Scope) :Prop where
 kind:sc'.kind= .function
 cell:∀ y∈ sc'.names,y.2≠.cell
 look:∀ y∈ sc'.names,sc'.names.lookup y.1=some y.2
 tgt:∀ t∈ ts,sc'.names.lookup t=some .local
 few:ts.length < 3
 two:∀ a b,ts= [a,b]→a≠b
 free:∀ y∈ sc'.names,y.2= .free→sc.names.lookup y.1=some .cell
 odd:∀ y∈ sc'.names,(y.1 == ("__debug__" :Str))=false∧(y.1 == ("__classdict__" :Str))=false
theorem ScOK.of {sc:Scope} {ts:List Str} {sc':Scope} (h:scOK sc ts sc'=true) :ScOK sc ts sc':=by
 unfold scOK at h
 simp only [Bool.and_eq_true,List.all_eq_true,decide_eq_true_eq] at h
 refine x0_2 h ?_;(try clear h);rintro ⟨⟨⟨⟨⟨⟨h1,h2⟩,h3⟩,h4⟩,h5⟩,h6⟩,h7⟩ h8
 refine ⟨beq_iff_eq.mp h1,fun y hy=>by simpa using h2 y hy,fun y hy=>beq_iff_eq.mp (h3 y hy),fun t ht=>beq_iff_eq.mp (h4 t ht),h5,?_,fun y hy e=>?_,fun y hy=>by simpa using h8 y hy⟩
 · rintro a b rfl
   simpa using h6
 · have:=h7 y hy
   simp only [e,Bool.or_eq_true] at this
   rcases this with q | q
   · exact absurd q (by decide)
   · exact beq_iff_eq.mp q
section
variable {C:Cfg} {S:Stat} {n:Nat} {sc sc':Scope} {env:Env} {Γ:Gam} {ts:List Str} {D:Addr}
theorem comp_kind (hk:env.scope.kind= .function) (x:Str) :(compEnvC sc' (clOf env sc'.names []) D env).kindOf x=(sc'.names.lookup x).map fun k=>if (k == NameKind.free && env.scope.kind == .function && env.kindOf x == some .cell) then NameKind.cell else k:=
 zeO
set_option tactic.hygienic true in
theorem zcM {x:Str} {k:Option Nat} (h:(zaP Γ ts sc').names.lookup x=some k) :
 (∃ j,ts[j]? =some x∧k=some (Γ.n + j))∨((x,NameKind.free)∈ sc'.names∧∃ i,k=some i∧Γ.names.lookup x=some (some i))∨((x,NameKind.globalImplicit)∈ sc'.names∧k=none):=by
 unfold zaP at h
 dsimp only at h
 rw [zdw] at h
 cases h1:(zdy Γ.n ts).lookup x with
 | some k'=>
  rw [h1] at h
  cases h
  exact .inl (zcB h1)
 | none=>
  simp only [h1,Option.none_or] at h
  have hm:=zbG h
  rw [List.mem_filterMap] at hm
  refine x1_2 hm ?_;(try clear hm);intro y hy e
  obtain ⟨z,kz⟩:=y
  dsimp only at e
  split at e
  · rename_i hf
    have:kz= .free:=by simpa using hf
    subst this
    split at e
    · rename_i i hi
      cases e
      exact .inr (.inl ⟨hy,i,rfl,hi⟩)
    · exact nofO e
  · split at e
    · rename_i hg
      have:kz= .globalImplicit:=by simpa using hg
      subst this
      cases e
      exact .inr (.inr ⟨hy,rfl⟩)
    · exact nofO e
theorem comp_env (K:ScOK sc ts sc') (E₀:EnvOK env Γ sc) :EnvOK (compEnvC sc' (clOf env sc'.names []) D env) (zaP Γ ts sc') zcD where
 kind:=K.kind
 glob:=E₀.glob
 blt:=E₀.blt
 names:=fun x k h=>by
  rcases zcM h with ⟨j,hj,_⟩ | ⟨hm,_⟩ | ⟨hm,_⟩
  · exact K.odd _ (zbG (K.tgt x (List.mem_of_getElem? hj)))
  · exact K.odd _ hm
  · exact K.odd _ hm
 gl:=fun x h=>by
  rcases zcM h with ⟨j,_,e⟩ | ⟨_,i,e,_⟩ | ⟨hm,_⟩
  · exact nofO e
  · exact nofO e
  · simp only [comp_kind E₀.kind,K.look _ hm];rfl
 slots:=fun x i h=>by
  show i < Γ.n + ts.length
  rcases zcM h with ⟨j,hj,e⟩ | ⟨_,i',e,hi⟩ | ⟨hm,e⟩
  · (refine sy1 (Option.some.inj e) ?_;clear e;intro zq;subst zq);have:=(List.getElem?_eq_some_iff.mp hj).1;lia
  · (refine sy1 (Option.some.inj e) ?_;clear e;intro zq;subst zq);have:=E₀.slots x _ hi;lia
  · exact noC Option.ctorIdx e rfl
 cells:=fun x h=>by exact noC Option.ctorIdx h rfl
theorem comp_vok {Φ:Fram} {m m₂:Str→Option Value} {N:Led} {ρ:Rho} {l new:Locs} {oC:Obj} (K:ScOK sc ts sc') (E₀:EnvOK env Γ sc) (V:VOK env Γ Φ.L m N ρ l) (hl:new.length=ts.length) (hD:(D,oC)∈ N) (hC:LCg.NsObj oC m₂) (hi:¬ zbS ρ D)
 (hv:∀ (j:Nat) t mv,ts[j]? =some t→new[j]? =some (some mv)→∃ v,m₂ t=some v∧RepV N ρ mv v) :VOK (compEnvC sc' (clOf env sc'.names []) D env) (zaP Γ ts sc') Φ.L m N ρ (l ++ new) where
 len:=by simp only [List.length_append,V.len,hl];rfl
 var:=fun x i mv h1 h2=>by
  rcases zcM h1 with ⟨j,hj,e⟩ | ⟨hm,i',e,hi'⟩ | ⟨hm,e⟩
  · (refine sy1 (Option.some.inj e) ?_;clear e;intro zq;subst zq)
    rw [← V.len,List.getElem?_append_right (by (with_reducible exact Nat.le_add_right _ _)),Nat.add_sub_cancel_left] at h2
    refine x1_2 (hv j x mv hj h2) fun v h3 h4=>?_
    refine ⟨v,.own oC m₂ ?_ hD hC h3 hi,h4⟩
    simp only [comp_kind E₀.kind,K.tgt x (List.mem_of_getElem? hj)];rfl
  · (refine sy1 (Option.some.inj e) ?_;clear e;intro zq;subst zq)
    have hlt:=E₀.slots x i hi'
    rw [List.getElem?_append_left (by rw [V.len];exact hlt)] at h2
    refine x1_2 (V.var x i mv hi' h2) fun v h3 h4=>?_
    have hcell:=K.free _ hm rfl
    obtain ⟨c1,c,c2⟩:=E₀.cells x hcell
    refine ⟨v,?_,h4⟩
    cases h3 with
    | loc a b c=>rw [c1] at a;(refine sy1 (Option.some.inj a) ?_;clear a;intro zq;cases zq)
    | own o m₂ a b c d e=>rw [c1] at a;(refine sy1 (Option.some.inj a) ?_;clear a;intro zq;cases zq)
    | free c o a b d e=>rw [c1] at a;(refine sy1 (Option.some.inj a) ?_;clear a;intro zq;cases zq)
    | cell c' o a b d e=>
     refine .cell c' o ?_ (clOf_look b _ _ (.inr hm) (by simp [List.lookup])) d e
     simp only [comp_kind E₀.kind,K.look _ hm]
     simp [E₀.kind,c1]
  · exact noC Option.ctorIdx e rfl
end
section
variable {prog:Program} {w:World} {A:Around} {R:Result→Shared→Prop} {s:Shared}
theorem compLoop_go {elt target iter:PySem.Expr} {ifs:List PySem.Expr} {scope:Scope} {pos:Pos} {it acc:Value} {env:Env} {NB:Value→Shared→Prop} (hNB:notedBy (model prog w) A env (fun e s'=>R (.error e) s')=NB) (I:Nat→Shared→Prop)
 (turn:∀ n s,I n s→wpAny (model prog w) A (pyNext it) (fun r s₁=>match r with
  | none=>R (.ok .next) s₁
  | some v=>wpAny (model prog w) A (letOwnedTupleGo target it v) (fun _ s₁'=>wpAny (model prog w) A (assign target env v) (fun _ s₂=>
   wpAny (model prog w) A (forIn ifs true fun c r=>if r=true then do let ok ← isTrue c env (eval c env);pure (ForInStep.yield ok) else pure (ForInStep.yield r)) (fun ok s₃=>
    if ok=true then wpAny (model prog w) A (eval elt env) (fun x s₄=>
     wpAny (model prog w) A (call (.builtin "list.append") [acc,x]) (fun _ s₅=>∃ m,m < n∧I m s₅) NB s₄) NB s₃
    else ∃ m,m < n∧I m s₃) NB s₂) NB s₁') NB s₁) NB s)
 (n:Nat) (h:I n s) :codeAny (model prog w) A (.compLoop (.ListComp elt [⟨target,iter,ifs,0⟩] scope pos) 0 it acc env) R s:=by
 subst hNB
 refine codeAny_loop rfl I (fun n s hI=>?_) n h
 show wpAny _ A ((compTurn (.ListComp elt [⟨target,iter,ifs,0⟩] scope pos) 0 it acc env).onRaise (fun x=>do noteFrame x env;theTreesLotGoes x)) _ _ s
 refine wpAny_noted ?_
 rw [compTurn_list]
 refine wpAny_bind (wpAny_standAt (wpAny_bind (wpAny_mono (turn n s hI) (fun r s₁ h₁=>?_) fun _ _ h'=>h')))
 cases r with
 | none=>exact wpAny_pure h₁
 | some v=>
  refine wpAny_bind (wpAny_mono h₁ (fun _ s₁' h₁'=>?_) fun _ _ h'=>h')
  refine wpAny_bind (wpAny_mono h₁' (fun _ s₂ h₂=>wpAny_bind (wpAny_mono h₂ (fun ok s₃ h₃=>?_) fun _ _ h'=>h')) fun _ _ h'=>h')
  cases ok with
  | false=>exact wpAny_pure ⟨rfl,h₃⟩
  | true=>
   exact wpAny_bind (wpAny_bind (wpAny_mono h₃ (fun x s₄ h₄=>wpAny_bind (wpAny_mono h₄ (fun _ s₅ h₅=>wpAny_pure (wpAny_pure ⟨rfl,h₅⟩)) fun _ _ h'=>h')) fun _ _ h'=>h'))
end
noncomputable def zdP (m:Str→Option Value) :List Str→List Value→Str→Option Value
 | x :: xs,v :: vs=>zdP (fun z=>if z=x then some v else m z) xs vs
 | _,_=>m
theorem setMany_off {x:Str} :∀ {xs:List Str} {vs:List Value} {m:Str→Option Value},x ∉ xs→zdP m xs vs x=m x
 | [],_,m,_=>by rfl
 | y :: r,[],m,_=>by rfl
 | y :: r,v :: vs,m,h=>by
  simp only [List.mem_cons,not_or] at h
  simp only [zdP]
  rw [setMany_off h.2,if_neg h.1]
theorem setMany_at {x:Str} {v:Value} :∀ {xs:List Str} {vs:List Value} {m:Str→Option Value} {j:Nat},xs.Nodup→xs[j]? =some x→vs[j]? =some v→zdP m xs vs x=some v
 | [],_,m,j,_,h,_=>by simp at h
 | y :: r,[],m,j,_,_,h=>by simp at h
 | y :: r,u :: vs,m,0,hn,h,h'=>by
  simp at h h'
  subst h h'
  simp only [zdP]
  rw [setMany_off (List.nodup_cons.mp hn).1,if_pos rfl]
 | y :: r,u :: vs,m,j + 1,hn,h,h'=>by
  simp at h h'
  simp only [zdP]
  exact setMany_at (List.nodup_cons.mp hn).2 h h'
theorem zcI {α:Type} {a:Option α} {r:Option (List α)} {l:List α} (h:cons2 a r=some l) :∃ x xs,a=some x∧r=some xs∧l=x :: xs:=by
 cases a with
 | none=>exact nofO h
 | some x=>
  cases r with
  | none=>exact nofO h
  | some xs=>cases h;exact ⟨x,xs,rfl,rfl,rfl⟩
theorem zbO {e:PySem.Expr} {x:Str} (h:zdW e=some x) :∃ p,e= .Name x p:=by
 cases e with
 | Name y p=>cases h;exact ⟨p,rfl⟩
 | _=>exact nofO h
theorem zbF {e:PySem.Expr} {r:List PySem.Expr} {xs:List Str} (h:zaI (e :: r)=some xs) :∃ x p ys,e= .Name x p∧zaI r=some ys∧xs=x :: ys:=by
 refine x2_3 (zcI h) ?_;rintro x ys h1 h2 rfl
 refine x1_1 (zbO h1) ?_;rintro p rfl
 exact ⟨x,p,ys,rfl,h2,rfl⟩
theorem zdH {env:Env} :∀ {es:List PySem.Expr} {xs:List Str},zaI es=some xs→(assignEach es env).length=xs.length∧(assignEach es env).findIdx? (·.1)=none
 | [],xs,h=>by cases h;exact ⟨rfl,rfl⟩
 | e :: r,xs,h=>by
  refine x3_3 (zbF h) ?_;rintro x p ys rfl hr rfl
  have ih:=zdH (env:=env) hr
  refine ⟨?_,?_⟩
  · show (assignEach r env).length + 1=ys.length + 1
    rw [ih.1]
  · show ((false,assign (.Name x p) env) :: assignEach r env).findIdx? (·.1)=none
    rw [List.findIdx?_cons]
    simp [ih.2]
theorem assign_names {M:Model} {A:Around} {E:Value→Shared→Prop} {env:Env} {Q:Unit→Shared→Prop} (hk:env.scope.kind= .function) :∀ {es:List PySem.Expr} {xs:List Str} {its:List Value} {m:Str→Option Value} {s:Shared},zaI es=some xs→
 (∀ x∈ xs,env.kindOf x=some .local)→its.length=xs.length→s.heap.Ns env.locals m→
 (∀ h' tk,h'.Ns env.locals (zdP m xs its)→Heap.SameBut env.locals s.heap h'→Q () {s with heap:=h',toks:=tk})→
 wpAny M A (assignInOrder ((assignEach es env).map (·.2)) its) Q E s
 | [],xs,its,m,s,h,hl,hi,hn,hQ=>by
  cases h
  cases its with
  | nil=>exact wpAny_pure (hQ s.heap s.toks (by simpa [zdP] using hn) (Heap.SameBut.refl _ _))
  | cons _ _=>cases hi
 | e :: r,xs,its,m,s,h,hl,hi,hn,hQ=>by
  refine x3_3 (zbF h) ?_;rintro x p ys rfl hr rfl
  cases its with
  | nil=>cases hi
  | cons v vs=>
   refine assignInOrder_cons (wpAny_assign_Name (wpAny_storeName_local (hl x List.mem_cons_self) hn (fun h' hn' hs'=>?_) (by rw [hk];rfl)))
   exact assign_names (s:={s with heap:=h',toks:=s.toks + 1}) hk hr (fun y hy=>hl y (List.mem_cons_of_mem _ hy)) (by simpa using hi) hn' fun h'' tk hn'' hs''=>hQ h'' tk hn'' (hs'.trans hs'')
theorem zeG {src:Src} {nt:Nat} {cond elt:Locs→zax→Res MV} {l:Locs} :∀ (fuel k:Nat) (acc:List MV) (h h':zax),zaN src nt cond elt l fuel k acc h≠.exc h'
 | 0,k,acc,h,h'=>nofun
 | fuel + 1,k,acc,h,h'=>by
  unfold zaN
  split
  · simp
  · simp
  · split
    · simp
    · split
      · split
        · simp
        · exact zeG fuel _ _ _ _
        · split
          · exact zeG fuel _ _ _ _
          · simp
      · simp
noncomputable def grab (wr:List Addr) (h:Heap) :Led:=wr.filterMap fun b=>(h.get? b).map fun o=>(b,o)
theorem mem_grab {wr:List Addr} {h:Heap} {p:Addr × Obj} :p∈ grab wr h ↔ p.1∈ wr∧h.get? p.1=some p.2:=by
 unfold grab
 rw [List.mem_filterMap]
 constructor
 · rintro ⟨b,hb,e⟩
   cases ho:h.get? b with
   | none=>rw [ho] at e;exact noC Option.ctorIdx e rfl
   | some o=>rw [ho] at e;cases e;exact ⟨hb,ho⟩
 · rintro ⟨hb,e⟩
   exact ⟨p.1,hb,by rw [e];rfl⟩
noncomputable abbrev testsOf (ifs:List PySem.Expr) (env:Env) :Sem Bool:=forIn ifs true fun c r=>if r=true then do let ok ← isTrue c env (eval c env);pure (ForInStep.yield ok) else pure (ForInStep.yield r)
noncomputable def newOf (nt:Nat) (v:MV) :Option Locs:=if nt=0 then some [some v] else match v with | .tup vs=>if vs.length=nt then some (vs.map some) else none | _=>none
section
variable {C:Cfg} {S:Stat} {Φ:Fram} {m:Str→Option Value} {N N₂ own:Led} {ρ ρ₂:Rho} {mh mh₂:zax} {h h' h₀:Heap} {s:Shared} {target:PySem.Expr} {tp:Bool}
theorem Walk.there {src:Src} {I:Addr} {fp wr:List Addr} {n:Nat} {P Md:Nat→Value→Heap→Prop} {St:Nat→Heap→Prop} (K:Walk C S Φ target tp src I fp wr n P Md St N ρ mh) (Iv:Inv C S Φ m N ρ mh h) (st:St 0 h) :∀ b∈ fp,∃ o,h.get? b=some o:=by
 intro b hb
 rcases K.cov b hb with h1 | ⟨o,h1,hd⟩ | ⟨o,h1,_⟩ | ⟨o,q,a,ver,num,vs,_,_,_,h1,_⟩
 · (refine x1_2 (K.alive 0 h st b h1) fun o e _=>?_);exact ⟨o,e⟩
 · exact ⟨o,Iv.same h1 hd⟩
 · exact ⟨o,Iv.at h1⟩
 · exact ⟨o,Iv.at h1⟩
theorem ItemRep.tup {x:Value} {mv:MV} (hr:ItemRep tp N ρ h mv x) (e:tp=true) :∀ vs,mv= .tup vs→∃ T its,x= .ref T∧IsTup h T (List.toArray its)∧RepVs N ρ vs its:=by
 subst e;exact hr
theorem assign_targets {M:Model} {A:Around} {E:Value→Shared→Prop} {env:Env} {Q:Unit→Shared→Prop} {prog:Program} {w:World} (hM:M=model prog w) {t:PySem.Expr} {nt:Nat} {ts:List Str} (ht:zbx t=some (nt,ts)) (hk:env.scope.kind= .function)
 (hl:∀ x∈ ts,env.kindOf x=some .local) (hnd:ts.Nodup) {mv:MV} {x:Value} (hr:ItemRep (decide (nt≠0)) N ρ s.heap mv x) {new:Locs} (hnew:newOf nt mv=some new) (hn:s.heap.Ns env.locals m) (hh:A.handled=none)
 (hQ:∀ h' tk m',h'.Ns env.locals m'→(∀ b o,b≠env.locals→s.heap.get? b=some o→h'.get? b=some o)→
  (∀ (j:Nat) t mv',ts[j]? =some t→new[j]? =some (some mv')→∃ v,m' t=some v∧RepV N ρ mv' v)→new.length=ts.length→Q () {s with heap:=h',toks:=tk}) :
 wpAny M A (assign t env x) Q E s:=by
 subst hM
 cases t with
 | Name y py=>
  refine sy2 (Prod.mk.inj (Option.some.inj ht)) ?_;clear ht;intro e1 e2;subst e1 e2
  refine sy1 (Option.some.inj hnew) ?_;clear hnew;intro e;subst e
  refine wpAny_assign_Name (wpAny_storeName_local (hl y List.mem_cons_self) hn (fun h' hn' hs'=>hQ h' _ _ hn' (fun b o hb e=>(hs'.2 b hb).trans e) (fun j t mv' h1 h2=>?_) rfl) (by rw [hk];rfl))
  cases j with
  | zero=>
   refine sy1 (Option.some.inj h1) ?_;clear h1;intro e;subst e
   refine sy1 (Option.some.inj (Option.some.inj h2)) ?_;clear h2;intro e;subst e
   exact ⟨x,if_pos rfl,hr⟩
  | succ j=>exact nofO h1
 | Tuple es k p=>
  have ht:(match zaI es with | some xs=>if 0 < xs.length then some (xs.length,xs) else none | none=>none)=some (nt,ts):=ht
  cases hx:zaI es with
  | none=>rw [hx] at ht;exact nofO ht
  | some xs=>
   rw [hx] at ht
   have ht:(if 0 < xs.length then some (xs.length,xs) else none)=some (nt,ts):=ht
   by_cases hpos:0 < xs.length
   · rw [if_pos hpos] at ht
     refine sy2 (Prod.mk.inj (Option.some.inj ht)) ?_;clear ht;intro e1 e2;subst e1 e2
     have hne:xs.length≠0:=by (with_reducible exact Nat.ne_of_gt (by assumption))
     delta newOf at hnew
     rw [if_neg hne] at hnew
     cases mv with
     | tup vs=>
      have hnew:(if vs.length=xs.length then some (vs.map some) else none)=some new:=hnew
      by_cases hlen:vs.length=xs.length
      · rw [if_pos hlen] at hnew
        (refine sy1 (Option.some.inj hnew) ?_;clear hnew;intro zq;subst zq)
        refine x2_3 (hr.tup (decide_eq_true hne) vs rfl) ?_;rintro T its rfl hT hrs
        refine x0_2 (zdH (env:=env) hx) fun a1 a2=>?_
        have hli:its.length=xs.length:=hrs.length.trans hlen
        refine assign_Tuple_tuple hh hT (by simp only [a1,List.size_toArray,hli]) a2 fun h₁ he=>?_
        have he':∀ b o,s.heap.get? b=some o→h₁.get? b=some o:=fun b o e=>he b o (Nat.ne_of_lt (Heap.lt_size e)) e
        refine assign_names (s:={s with heap:=h₁}) hk hx hl hli (hn.keeps he') fun h' tk hn' hs'=>hQ h' tk _ hn' (fun b o hb e=>(hs'.2 b hb).trans (he' b o e)) (fun j t mv' h1 h2=>?_) (by simp only [List.length_map,hlen])
        rw [List.getElem?_map,Option.map_eq_some_iff] at h2
        refine x1_2 h2 ?_;(try clear h2);intro v hv e
        (refine sy1 (Option.some.inj e) ?_;clear e;intro zq;subst zq)
        refine x1_2 (hrs.get hv) fun y hy ry=>?_
        exact ⟨y,setMany_at hnd h1 hy,ry⟩
      · rw [if_neg hlen] at hnew;exact nofO hnew
     | _=>exact nofO hnew
   · rw [if_neg hpos] at ht;exact nofO ht
 | _=>exact nofO ht
theorem compGo_succ {src:Src} {nt:Nat} {cond elt:Locs→zax→Res MV} {l:Locs} {fuel k:Nat} {acc:List MV} {hp:zax} :zaN src nt cond elt l (fuel + 1) k acc hp =
 match zaH src k hp with
 | none=> .stuck
 | some none=> .ok acc hp
 | some (some v)=>match newOf nt v with
  | none=> .stuck
  | some new=>match cond (l ++ new) hp with
   | .ok c h=>match zbI h c with
    | none=> .stuck
    | some false=>zaN src nt cond elt l fuel (k + 1) acc h
    | some true=>match elt (l ++ new) h with
     | .ok x h=>zaN src nt cond elt l fuel (k + 1) (acc ++ [x]) h
     | _=> .stuck
   | _=> .stuck:=rfl
noncomputable def SimC (C:Cfg) (S:Stat) (n:Nat) (ifs:List PySem.Expr) (cond:Gam→Locs→zax→Res MV) :Prop:=
 ∀ (Φ:Fram) (Γ:Gam) (env:Env) (l:Locs) (m:Str→Option Value) (N:Led) (ρ:Rho) (mh:zax) (s:Shared),Inv C S Φ m N ρ mh s.heap→Room Φ n→EnvOK env Γ zcD→VOK env Γ Φ.L m N ρ l→
  Sim C S Φ m N ρ mh s RB (wp_ S Φ s (testsOf ifs env)) (zcJ (cond Γ l mh))
theorem nodup2 {ts:List Str} (h:ts.length < 3) (h':∀ a b,ts= [a,b]→a≠b) :ts.Nodup:=by
 match ts,h,h' with
 | [],_,_=>exact List.nodup_nil
 | [a],_,_=>simp
 | [a,b],_,h'=>simpa using h' a b rfl
 | _ :: _ :: _ :: _,h,_=>exact absurd h (by simp only [List.length_cons];lia)
variable {src:Src} {I:Addr} {fp wr:List Addr} {nn:Nat} {P Md:Nat→Value→Heap→Prop} {St:Nat→Heap→Prop} {n:Nat} {sc sc':Scope} {env:Env} {Γ:Gam} {l:Locs} {nt:Nat} {ts:List Str}
inductive CompSt (C:Cfg) (S:Stat) (Φ:Fram) (m:Str→Option Value) (N:Led) (ρ:Rho) (mh:zax) (src:Src) (nn:Nat) (wr:List Addr) (St:Nat→Heap→Prop) (D Cn:Addr) (s:Shared) (go:Nat→Nat→List MV→zax→Res (List MV)) (r:Res (List MV)) (f:Nat) (s':Shared) :Prop where
 | mk (h':Heap) (tk:Tok) (k:Nat) (acc:List MV) (ys:List Value) (N':Led) (ρ':Rho) (mh':zax) (m':Str→Option Value) (hs:s'= {s with heap:=h',toks:=tk}) (I:Inv C S Φ m N' ρ' mh' h') (X:Ext N ρ mh N' ρ' mh')
  (out:∀ p∈ N',p.1 ∉ wr∧p.1≠D∧p.1≠Cn) (hk:k≤nn) (hst:Live src mh'→St k h') (hD:h'.get? D=some (LCg.lst ys)) (hC:h'.Ns Cn m') (hacc:RepVs N' ρ' acc ys) (hys:ys.length≤k) (hg:go f k acc mh'=r)
theorem comp_loop {elt iter:PySem.Expr} {ifs:List PySem.Expr} {pos:Pos} {cond:Gam→Locs→zax→Res MV} {R:Result→Shared→Prop} {D Cn:Addr} {vs:List MV} {mhE:zax} {h:Heap} {tk₀:Nat} {m₁:Str→Option Value}
 (ht:zbx target=some (nt,ts)) (htp:tp=decide (nt≠0)) (K:Walk C S Φ target tp src I fp wr nn P Md St N ρ mh) (KS:ScOK sc ts sc') (E₀:EnvOK env Γ sc) (V:VOK env Γ Φ.L m N ρ l) (Rm:Room Φ n)
 (hc:SimC C S n ifs cond) (he:SimE C S n zcD elt)
 (I₀:Inv C S Φ m N ρ mh h) (st:St 0 h) (hDC:D≠Cn) (hDL:D≠Φ.L) (hCL:Cn≠Φ.L) (hD₀:Φ.h₀.get? D=none) (hC₀:Φ.h₀.get? Cn=none) (hDN:∀ p∈ N,p.1≠D) (hCN:∀ p∈ N,p.1≠Cn) (hDf:D ∉ fp) (hCf:Cn ∉ fp)
 (hD:h.get? D=some (LCg.lst [])) (hC:h.Ns Cn m₁) {fuel:Nat}
 (hgo:zaN src nt (cond (zaP Γ ts sc')) (zaw C.T (zay C.T C.fns n) (trE C.G (zaP Γ ts sc') elt)) l fuel 0 [] mh= .ok vs mhE)
 (hR:∀ h' tk N' ρ' ys m',Inv C S Φ m N' ρ' mhE h'→Ext N ρ mh N' ρ' mhE→RepVs N' ρ' vs ys→ys.length≤4096→h'.get? D=some (LCg.lst ys)→h'.Ns Cn m'→(∀ p∈ N',p.1≠D∧p.1≠Cn)→R (.ok .next) {s with heap:=h',toks:=tk}) :
 codeAny S.M Φ.A (.compLoop (.ListComp elt [⟨target,iter,ifs,0⟩] sc' pos) 0 (.ref I) (.ref D) (compEnvC sc' (clOf env sc'.names []) Cn env)) R {s with heap:=h,toks:=tk₀}:=by
 have wrD:D ∉ wr:=fun q=>hDf (K.W.sub _ q)
 have wrC:Cn ∉ wr:=fun q=>hCf (K.W.sub _ q)
 have wrL:Φ.L ∉ wr:=fun q=>K.notL (K.W.sub _ q)
 have EC:=comp_env (D:=Cn) KS E₀
 obtain ⟨ce,hce⟩ :∃ x,compEnvC sc' (clOf env sc'.names []) Cn env=x:=⟨_,rfl⟩
 have hkce:ce.scope.kind= .function:=hce ▸ KS.kind
 have hl:ce.locals=Cn:=hce ▸ rfl
 rw [hce] at EC
 rw [hce]
 obtain ⟨NB,hNB⟩ :∃ x,notedBy (model S.prog S.w) Φ.A ce (fun e s'=>R (.error e) s')=x:=⟨_,rfl⟩
 obtain ⟨T,hT⟩ :∃ x,CompSt C S Φ m N ρ mh src nn wr St D Cn s (zaN src nt (cond (zaP Γ ts sc')) (zaw C.T (zay C.T C.fns n) (trE C.G (zaP Γ ts sc') elt)) l) (.ok vs mhE)=x:=⟨_,rfl⟩
 refine compLoop_go (prog:=S.prog) (w:=S.w) hNB T ?_ fuel (hT ▸ ⟨h,tk₀,0,[],[],N,ρ,mh,m₁,rfl,I₀,Ext.refl _ _ _,fun p hp=>⟨K.out p hp,hDN p hp,hCN p hp⟩,Nat.zero_le _,fun _=>st,hD,hC,by rfl,Nat.le_refl _,hgo⟩)
 intro f s' h0
 rw [← hT] at h0
 obtain ⟨h',tk,k,acc,ys,N',ρ',mh',m',rfl,I',X,out,hk,hst,hD',hC',hacc,hys,hg⟩:=h0
 cases f with
 | zero=>trivial
 | succ f=>
  rw [compGo_succ] at hg
  cases hi:zaH src k mh' with
  | none=>rw [hi] at hg;exact noC Res.ctorIdx hg rfl
  | some r=>
   have st':=hst (live_of hi)
   rw [hi] at hg
   cases r with
   | none=>
    simp only [Res.ok.injEq] at hg
    refine x0_2 hg ?_;(try clear hg);rintro rfl rfl
    have e:k=nn:=Nat.le_antisymm hk (K.fin k N' ρ' mh' X hi)
    subst e
    refine K.W.done _ _ _ st' fun h₂ tk₂ hk₂=>?_
    exact hR h₂ tk₂ N' ρ' ys m' (I'.but hk₂ wrL K.base fun p hp=>(out p hp).1) X hacc (Nat.le_trans hys K.size) (hk₂ _ _ wrD hD') (hC'.at' fun o e=>hk₂ _ o wrC e) fun p hp=>⟨(out p hp).2.1,(out p hp).2.2⟩
   | some v=>
    dsimp only [] at hg
    cases hnew:newOf nt v with
    | none=>rw [hnew] at hg;exact noC Res.ctorIdx hg rfl
    | some new=>
     rw [hnew] at hg
     simp only [] at hg
     have hlt:k < nn:=(K.item k m N' ρ' mh' h' X I' v hi).1
     refine K.W.item k _ _ _ hlt st' fun x h₂ tk₂ hMd hk₂=>?_
     refine K.W.go k x _ _ _ hMd fun h₃ hP st₃ hk₃=>?_
     have k3:∀ b o,b ∉ wr→h'.get? b=some o→h₃.get? b=some o:=fun b o hb e=>hk₃ b o hb (hk₂ b o hb e)
     have I₃:Inv C S Φ m N' ρ' mh' h₃:=I'.but k3 wrL K.base fun p hp=>(out p hp).1
     have hit:=(K.item k m N' ρ' mh' h₃ X I₃ v hi).2 x hP
     refine assign_targets (prog:=S.prog) (w:=S.w) (N:=N') (ρ:=ρ') (m:=m') rfl ht hkce (fun y hy=>?_) (nodup2 KS.few KS.two) (htp ▸ hit) hnew (by show h₃.Ns ce.locals m';rw [hl];exact hC'.at' fun o e=>k3 _ o wrC e) I'.hh fun h₄ tk₄ m₄ hn₄ hk₄ hval hlen=>?_
     · simp only [← hce,comp_kind E₀.kind,KS.tgt y hy];rfl
     simp only [hl] at hn₄ hk₄
     refine x1_2 (LCg.ns_obj hn₄) fun oC heC hoC=>?_
     have st₄:St (k + 1) h₄:=K.W.frame _ _ _ st₃ fun b hb o e=>hk₄ b o (fun q=>hCf (by have q':b=Cn:=q;simp only [← q'];exact hb)) e
     have I₄:Inv C S Φ m N' ρ' mh' h₄:=I₃.but (wr:=[Cn]) (fun b o hb e=>hk₄ b o (fun q=>hb (List.mem_singleton.mpr q)) e) (by simpa using Ne.symm hCL) (by simpa using hC₀) (fun p hp=>by simpa using (out p hp).2.2)
     have hD₄:h₄.get? D=some (LCg.lst ys):=hk₄ _ _ hDC (k3 _ _ wrD hD')
     have base:∀ b∈ D :: Cn :: wr,Φ.h₀.get? b=none:=fun b hb=>by
      rcases List.mem_cons.mp hb with rfl | hb
      · exact hD₀
      · rcases List.mem_cons.mp hb with rfl | hb
        · exact hC₀
        · exact K.base b hb
     have outN:∀ p∈ N',p.1 ∉ D :: Cn :: wr:=fun p hp hb=>by
      rcases List.mem_cons.mp hb with e | hb
      · exact (out p hp).2.1 e
      · rcases List.mem_cons.mp hb with e | hb
        · exact (out p hp).2.2 e
        · exact (out p hp).1 hb
     have offR:∀ b∈ D :: Cn :: wr,¬ zbS ρ' b:=fun b hb=>I₄.new_off (fun p hp e=>outN p hp (e ▸ hb)) (base b hb)
     have I₅:Inv C S Φ m (grab (D :: Cn :: wr) h₄ ++ N') ρ' mh' h₄:=I₄.more (fun p hp=>by
      rcases List.mem_append.mp hp with hp | hp
      · refine x0_2 (mem_grab.mp hp) fun h1 h2=>?_
        refine ⟨h2,fun e=>?_,base _ h1⟩
        rcases List.mem_cons.mp h1 with q | h1
        · exact hDL (q ▸ e)
        · rcases List.mem_cons.mp h1 with q | h1
          · exact hCL (q ▸ e)
          · exact wrL (e ▸ h1)
      · exact I₄.news p hp) fun p hp=>List.mem_append_right _ hp
     have X₅:Ext N' ρ' mh' (grab (D :: Cn :: wr) h₄ ++ N') ρ' mh':=Ext.more fun p hp=>List.mem_append_right _ hp
     have memC:(Cn,oC)∈ grab (D :: Cn :: wr) h₄ ++ N':=List.mem_append_left _ (mem_grab.mpr ⟨by simp,heC⟩)
     have memD:(D,LCg.lst ys)∈ grab (D :: Cn :: wr) h₄ ++ N':=List.mem_append_left _ (mem_grab.mpr ⟨List.mem_cons_self,hD₄⟩)
     have VC:VOK ce (zaP Γ ts sc') Φ.L m (grab (D :: Cn :: wr) h₄ ++ N') ρ' (l ++ new):=
      hce ▸ comp_vok KS E₀ ((V.ext I₀ X).ext I' X₅) hlen memC hoC (offR _ (by simp)) fun j t mv h1 h2=>let ⟨v,a,b⟩:=hval j t mv h1 h2;⟨v,a,X₅.rp I' b⟩
     have notTup:∀ {N₂:Led} {ρ₂:Rho} {mh₂:zax} {h₂:Heap},Inv C S Φ m N₂ ρ₂ mh₂ h₂→Ext (grab (D :: Cn :: wr) h₄ ++ N') ρ' mh' N₂ ρ₂ mh₂→∀ p∈ N₂,p.1∈ D :: Cn :: wr→∀ its n,p.2≠zaU its n:=by
      intro N₂ ρ₂ mh₂ h₂ I₂ X₂ p hp hb its n e
      have key:∀ o,h₄.get? p.1=some o→o=p.2:=fun o ho=>I₂.one (X₂.keep (p.1,o) (List.mem_append_left _ (mem_grab.mpr ⟨hb,ho⟩)) (offR _ hb)) hp
      rcases List.mem_cons.mp hb with q | hb
      · have:=key _ (by rw [q];exact hD₄)
        simp only [e] at this
        exact absurd (congrArg Obj.cls this) (by simp)
      · rcases List.mem_cons.mp hb with q | hb
        · have:=key _ (by rw [q];exact heC)
          refine x2_2 hoC ?_;(try clear hoC);intro es ep hd _
          simp only [e] at this
          rw [this] at hd
          cases hd
        · obtain ⟨o,ho,fs,hf⟩:=K.alive _ _ st₄ p.1 hb
          have:=key _ ho
          simp only [e] at this
          rw [this] at hf
          cases hf
     have offR':∀ {N₂:Led} {ρ₂:Rho} {mh₂:zax} {h₂:Heap},Inv C S Φ m N₂ ρ₂ mh₂ h₂→Ext (grab (D :: Cn :: wr) h₄ ++ N') ρ' mh' N₂ ρ₂ mh₂→∀ b∈ D :: Cn :: wr,¬ zbS ρ₂ b:=by
      intro N₂ ρ₂ mh₂ h₂ I₂ X₂ b hb
      have:∃ o,h₄.get? b=some o:=by
       rcases List.mem_cons.mp hb with rfl | hb
       · exact ⟨_,hD₄⟩
       · rcases List.mem_cons.mp hb with rfl | hb
         · exact ⟨_,heC⟩
         · (refine x1_2 (K.alive _ _ st₄ b hb) fun o ho _=>?_);exact ⟨o,ho⟩
      refine x1_1 this ?_;(try clear this);intro o ho
      exact X₂.off (p:=(b,o)) (List.mem_append_left _ (mem_grab.mpr ⟨hb,ho⟩)) (offR _ hb)
     have after:∀ {N₂:Led} {ρ₂:Rho} {mh₂:zax} {h₂:Heap},Inv C S Φ m N₂ ρ₂ mh₂ h₂→Ext (grab (D :: Cn :: wr) h₄ ++ N') ρ' mh' N₂ ρ₂ mh₂→
      Inv C S Φ m (strip (D :: Cn :: wr) N₂) ρ₂ mh₂ h₂∧Ext N ρ mh (strip (D :: Cn :: wr) N₂) ρ₂ mh₂∧(Live src mh₂→St (k + 1) h₂)∧h₂.get? D=some (LCg.lst ys)∧h₂.Ns Cn m₄:=by
      intro N₂ ρ₂ mh₂ h₂ I₂ X₂
      refine ⟨I₂.strip (offR' I₂ X₂) (notTup I₂ X₂),X.trans (X₂.strip outN),fun L=>?_,(I₂.at (X₂.keep _ memD (offR _ (List.mem_cons_self)))),hoC.ns (I₂.at (X₂.keep _ memC (offR _ (by simp))))⟩
      exact K.W.frame _ _ _ st₄ (K.keeps X I₅ (fun b hb o e=>mem_grab.mpr ⟨by simp [hb],e⟩) (fun b hb=>offR b (by simp [hb])) X₂ I₂ L)
     have hcs:=hc Φ _ _ (l ++ new) m _ ρ' mh' {s with heap:=h₄,toks:=tk₄} I₅ Rm EC VC
     cases hcr:cond (zaP Γ ts sc') (l ++ new) mh' with
     | exc _=>rw [hcr] at hg;exact noC Res.ctorIdx hg rfl
     | stuck=>rw [hcr] at hg;exact noC Res.ctorIdx hg rfl
     | ok c mh₂=>
      rw [hcr] at hg hcs
      simp only [] at hg
      cases htr:zbI mh₂ c with
      | none=>rw [htr] at hg;exact noC Res.ctorIdx hg rfl
      | some b=>
       rw [htr] at hg
       have hcs':Sim C S Φ m (grab (D :: Cn :: wr) h₄ ++ N') ρ' mh' {s with heap:=h₄,toks:=tk₄} RB (wp_ S Φ {s with heap:=h₄,toks:=tk₄} (testsOf ifs ce)) (.ok b mh₂):=by
        have e:zcJ (.ok c mh₂)= .ok b mh₂:=by unfold zcJ;simp only [Res.bind,htr]
        simp only [e] at hcs
        exact hcs
       refine hcs' _ _ fun a h₅ tk₅ N₂ ρ₂ I₆ X₆ ra=>?_
       have ra':b=a:=ra
       subst ra'
       cases b with
       | false=>
        refine x0_5 (after I₆ X₆) fun a1 a2 a3 a4 a5=>?_
        refine ⟨f,Nat.lt_succ_self _,hT ▸ CompSt.mk h₅ tk₅ (k + 1) acc ys _ ρ₂ mh₂ m₄ rfl a1 a2 (fun p hp=>?_) hlt a3 a4 a5 ?_ (Nat.le_succ_of_le hys) hg⟩
        · have:=(mem_strip.mp hp).2
          simp only [List.mem_cons,not_or] at this
          exact ⟨this.2.2,this.1,this.2.1⟩
        · exact (X₆.rps I₅ (X₅.rps I' hacc)).strip (notTup I₆ X₆)
       | true=>
        dsimp only [if_true] at hg ⊢
        have hes:=he Φ _ _ (l ++ new) m N₂ ρ₂ mh₂ {s with heap:=h₅,toks:=tk₅} I₆ Rm EC (VC.ext I₅ X₆)
        cases her:zaw C.T (zay C.T C.fns n) (trE C.G (zaP Γ ts sc') elt) (l ++ new) mh₂ with
        | exc _=>rw [her] at hg;exact noC Res.ctorIdx hg rfl
        | stuck=>rw [her] at hg;exact noC Res.ctorIdx hg rfl
        | ok u mh₃=>
         rw [her] at hg hes
         simp only [] at hg
         refine hes _ _ fun y h₆ tk₆ N₃ ρ₃ I₇ X₇ ry=>?_
         have X₈:=X₆.trans X₇
         refine x0_5 (after I₇ X₈) fun a1 a2 a3 a4 a5=>?_
         refine append_at (s:={s with heap:=h₆,toks:=tk₆}) (hsz:=by show ys.toArray.size≤sizeLine;simp only [List.size_toArray,sizeLine_eq];have:=K.size;lia) a4 fun h₇ hs₇ hD₇=>?_
         have k7:∀ b o,b ∉ [D]→h₆.get? b=some o→h₇.get? b=some o:=fun b o hb e=>(hs₇.2 b (by simpa using hb)).trans e
         have out3:∀ p∈ strip (D :: Cn :: wr) N₃,p.1 ∉ wr∧p.1≠D∧p.1≠Cn:=fun p hp=>by
          have:=(mem_strip.mp hp).2
          simp only [List.mem_cons,not_or] at this
          exact ⟨this.2.2,this.1,this.2.1⟩
         refine ⟨f,Nat.lt_succ_self _,hT ▸ CompSt.mk h₇ tk₆ (k + 1) (acc ++ [u]) (ys ++ [y]) _ ρ₃ mh₃ m₄ rfl
          (a1.but (wr:=[D]) k7 (by simpa using Ne.symm hDL) (by simpa using hD₀) (fun p hp=>by simpa using (out3 p hp).2.1)) a2 out3 hlt (fun L=>K.W.frame _ _ _ (a3 L) fun b hb o e=>k7 b o (fun q=>hDf ((List.mem_singleton.mp q) ▸ hb)) e)
          (hD₇.trans (congrArg some (LCg.lst_snoc ys y))) (a5.sameBut hs₇ (Ne.symm hDC)) ?_ (by simp only [List.length_append,List.length_singleton];lia) hg⟩
         have r1:=(X₈.rps I₅ (X₅.rps I' hacc)).strip (notTup I₇ X₈)
         exact r1.append (RepVs.single (ry.strip (notTup I₇ X₈)))
end
theorem zdT {it:PySem.Expr} (h:notSet it=true) (env:Env) (x:Value) :foldedSetIterable it env x=pure x:=by
 cases it <;> first | rfl | exact noC Bool.ctorIdx h rfl
section
variable {C:Cfg} {S:Stat} {n:Nat} {sc sc':Scope}
theorem comp_core {t it elt:PySem.Expr} {ifs:List PySem.Expr} {pos:Pos} {nt:Nat} {ts:List Str} {cond:Gam→Locs→zax→Res MV} {tp:Bool}
 (ht:zbx t=some (nt,ts)) (htp:tp=decide (nt≠0)) (KS:ScOK sc ts sc') (hc:SimC C S n ifs cond) (he:SimE C S n zcD elt)
 {Φ:Fram} {Γ:Gam} {env:Env} {l:Locs} {m:Str→Option Value} {N:Led} {ρ:Rho} {mh:zax} {s₂:Shared} (R:Room Φ n) (E₀:EnvOK env Γ sc) (V:VOK env Γ Φ.L m N ρ l)
 {src:Src} {J:Addr} {E:Value→Shared→Prop} {RR:Value→Addr→Result→Shared→Prop} {vs:List MV} {mhE:zax} (g:GoOnB C S Φ m t tp src [] N ρ mh J s₂.heap)
 (hg:zaN src nt (cond (zaP Γ ts sc')) (zaw C.T (zay C.T C.fns n) (trE C.G (zaP Γ ts sc') elt)) l (zbN src mh) 0 [] mh= .ok vs mhE)
 (hfin:∀ (D Cn:Addr) h₂ tk₂ N₂ ρ₂ ys m',Inv C S Φ m N₂ ρ₂ mhE h₂→Ext N ρ mh N₂ ρ₂ mhE→RepVs N₂ ρ₂ vs ys→ys.length≤4096→h₂.get? D=some (LCg.lst ys)→h₂.Ns Cn m'→(∀ p∈ N₂,p.1≠D∧p.1≠Cn)→
  D≠Cn→D≠Φ.L→Cn≠Φ.L→Φ.h₀.get? D=none→Φ.h₀.get? Cn=none→RR (.ref D) Cn (.ok .next) {s₂ with heap:=h₂,toks:=tk₂}) :
 wpAny S.M Φ.A (newList []) (fun acc s₃=>wpAny S.M Φ.A (newFunctionEnv sc' env.globals (clOf env sc'.names []) [] env.qual none .none (some env)) (fun cenv s₄=>
  codeAny S.M Φ.A (.compStart (.ListComp elt [⟨t,it,ifs,0⟩] sc' pos) 0 (.ref J) acc {cenv with scope:=relabel sc' env}) (RR acc cenv.locals) s₄) E s₃) E s₂:=by
 obtain ⟨I',fp,wr,nn,P,Md,St,_,K,st⟩:=g
 rw [strip_nil] at K
 refine wpAny_newObj_type (wpAny_newFunctionEnv KS.cell (by intro y hy;simp at hy) (fun h₁ hns₁ hsb₁=>?_) KS.kind)
 dsimp only at hns₁ hsb₁ ⊢
 generalize hH2:s₂.heap.push {cls:= .type "list",dict:=none,data:= .seq ([] :List Value).toArray} =H2 at hns₁ hsb₁ ⊢
 have hC:(H2.objs.size:Nat)=s₂.heap.objs.size + 1:=by rw [← hH2,Heap.size_push]
 have old:∀ b o,s₂.heap.get? b=some o→h₁.get? b=some o:=fun b o e=>hsb₁.extBut b o (by intro q;have h1:@LT.lt Nat _ b s₂.heap.objs.size:=Heap.lt_size e;have q:@Eq Nat b H2.objs.size:=q;lia) (Heap.get?_push_of_some _ (hH2 ▸ Heap.get?_push_of_some _ e))
 have hDC:s₂.heap.objs.size≠H2.objs.size:=by lia
 have hD:h₁.get? s₂.heap.objs.size=some (LCg.lst []):=hsb₁.extBut _ _ hDC (Heap.get?_push_of_some _ (hH2 ▸ Heap.get?_push_size _ rfl))
 have I₁:Inv C S Φ m N ρ mh h₁:=I'.onto old
 have there:=K.there I' st
 have st₁:St 0 h₁:=K.W.frame _ _ _ st fun b _ o e=>old b o e
 have LT:=L_lt I'
 have BT:=base_lt I'
 have d1:s₂.heap.objs.size≠Φ.L:=by intro q;have q:=zdG q;lia
 have d2:H2.objs.size≠Φ.L:=by intro q;have q:=zdG q;lia
 have d3:Φ.h₀.get? s₂.heap.objs.size=none:=Heap.get?_none_of_le BT
 have d4:Φ.h₀.get? H2.objs.size=none:=Heap.get?_none_of_le (by rw [hC];exact Nat.le_succ_of_le BT)
 have loop:∀ s₃:Shared,s₃= {s₂ with heap:=h₁,toks:=s₂.toks + ([] :List (Str × Value)).length}→
  codeAny S.M Φ.A (.compLoop (.ListComp elt [⟨t,it,ifs,0⟩] sc' pos) 0 (.ref J) (.ref s₂.heap.objs.size) (compEnvC sc' (clOf env sc'.names []) H2.objs.size env)) (RR (.ref s₂.heap.objs.size) H2.objs.size) s₃:=by
  rintro s₃ rfl
  exact comp_loop (s:=s₂) (m₁:=fun x=>([] :List (Str × Value)).reverse.lookup x) ht htp K KS E₀ V R hc he I₁ st₁ hDC d1 d2
   d3 d4 (fun p hp q=>by have:=N_lt I' hp;have q:=zdG q;lia) (fun p hp q=>by have:=N_lt I' hp;have q:=zdG q;lia)
   (fun hb=>by (refine x1_1 (there _ hb) fun o e=>?_);exact absurd (Heap.lt_size e) (Nat.lt_irrefl _)) (fun hb=>by (refine x1_1 (there _ hb) fun o e=>?_);have h1:(H2.objs.size:Nat) < s₂.heap.objs.size:=Heap.lt_size e;lia) hD hns₁ hg
   fun h₂ tk₂ N₂ ρ₂ ys m' I₂ X₂ rys hys hD₂ hC₂ off=>hfin _ _ h₂ tk₂ N₂ ρ₂ ys m' I₂ X₂ rys hys hD₂ hC₂ off hDC d1 d2 d3 d4
 exact codeAny_compStart_list (loop _ rfl) (K.self 0 _ _ _ st₁ (loop _ rfl))
theorem comp_new {Φ:Fram} {m:Str→Option Value} {N₂:Led} {ρ₂:Rho} {mhE:zax} {h₂ h'':Heap} {D Cn:Addr} {ys:List Value} {vs:List MV} (I₂:Inv C S Φ m N₂ ρ₂ mhE h₂) (rys:RepVs N₂ ρ₂ vs ys) (hys:ys.length≤4096) (hD₂:h₂.get? D=some (LCg.lst ys))
 (off:∀ p∈ N₂,p.1≠D∧p.1≠Cn) (hDC:D≠Cn) (d1:D≠Φ.L) (d2:Cn≠Φ.L) (d3:Φ.h₀.get? D=none) (d4:Φ.h₀.get? Cn=none) (hs'':Heap.SameBut Cn h₂ h'') :
 Inv C S Φ m ((D,listOf ys.toArray ys.length) :: N₂) (ρ₂ ++ [(D,D)]) (mhE ++ [.list vs 0]) h''∧Ext N₂ ρ₂ mhE ((D,listOf ys.toArray ys.length) :: N₂) (ρ₂ ++ [(D,D)]) (mhE ++ [.list vs 0])∧RepV ((D,listOf ys.toArray ys.length) :: N₂) (ρ₂ ++ [(D,D)]) (.ref mhE.length) (.ref D):=by
 have k'':∀ b o,b ∉ [Cn]→h₂.get? b=some o→h''.get? b=some o:=fun b o hb e=>(hs''.2 b (by simpa using hb)).trans e
 have I₃:=I₂.but (wr:=[Cn]) k'' (by simpa using Ne.symm d2) (by simpa using d4) (fun p hp=>by simpa using (off p hp).2)
 have hD₃:h''.get? D=some (LCg.lst ys):=k'' _ _ (by simpa using hDC) hD₂
 have NN':News Φ.h₀ Φ.L h'' ((D,listOf ys.toArray ys.length) :: N₂):=by
  intro p hp
  rcases List.mem_cons.mp hp with rfl | hp
  · exact ⟨hD₃,d1,d3⟩
  · exact I₃.news p hp
 exact I₃.pushList NN' (fun p hp=>(off p hp).1) rys hys
set_option tactic.hygienic true in
theorem sim_comp {t it elt:PySem.Expr} {ifs:List PySem.Expr} {pos:Pos} {nt:Nat} {ts:List Str} {cond:Gam→Locs→zax→Res MV} {tp:Bool}
 (ht:zbx t=some (nt,ts)) (htp:tp=decide (nt≠0)) (KS:ScOK sc ts sc') (hset:notSet it=true) (hit:SimIter C S n sc t tp it) (hc:SimC C S n ifs cond) (he:SimE C S n zcD elt)
 {Φ:Fram} {Γ:Gam} {env:Env} {l:Locs} {m:Str→Option Value} {N:Led} {ρ:Rho} {mh:zax} {s:Shared} (I:Inv C S Φ m N ρ mh s.heap) (R:Room Φ n) (E₀:EnvOK env Γ sc) (V:VOK env Γ Φ.L m N ρ l) :
 Sim C S Φ m N ρ mh s RV (wp_ S Φ s (eval (.ListComp elt [⟨t,it,ifs,0⟩] sc' pos) env))
  ((iterR C n tp Γ it l mh).bind fun src h=>(zaN src nt (cond (zaP Γ ts sc')) (zaw C.T (zay C.T C.fns n) (trE C.G (zaP Γ ts sc') elt)) l (zbN src h) 0 [] h).bind fun vs h=>zaR vs h):=by
 have hi:=hit Φ Γ env l m N ρ mh s I R E₀ V [] (fun b hb=>by cases hb)
 have rule:∀ Q E,wpAny S.M Φ.A (eval it env) (fun x s₁=>wpAny S.M Φ.A (pyIter x) (fun J s₂=>wpAny S.M Φ.A (newList []) (fun acc s₃=>
  wpAny S.M Φ.A (newFunctionEnv sc' env.globals (clOf env sc'.names []) [] env.qual none .none (some env)) (fun cenv s₄=>
   codeAny S.M Φ.A (.compStart (.ListComp elt [⟨t,it,ifs,0⟩] sc' pos) 0 J acc {cenv with scope:=relabel sc' env}) (compPost S.M Φ.A E none Q acc cenv.locals) s₄) E s₃) E s₂) E s₁) E s→
  wpAny S.M Φ.A (eval (.ListComp elt [⟨t,it,ifs,0⟩] sc' pos) env) Q E s:=by
  intro Q E h
  exact wpAny_comprehension_free (use:=none) rfl (zdT hset env) (closure_eq fun y hy e=>(E₀.cells y.1 (KS.free y hy e)).2) KS.kind (fun y hy e=>by rw [KS.look y hy,e]) h
 cases hr:iterR C n tp Γ it l mh with
 | stuck=>trivial
 | exc mh'=>rw [hr] at hi;exact fun Q E hE=>rule Q E (hi _ E hE)
 | ok src mh₁=>
  rw [hr] at hi
  dsimp only [Res.bind]
  cases hg:zaN src nt (cond (zaP Γ ts sc')) (zaw C.T (zay C.T C.fns n) (trE C.G (zaP Γ ts sc') elt)) l (zbN src mh₁) 0 [] mh₁ with
  | stuck=>trivial
  | exc h=>exact absurd hg (zeG _ _ _ _ _)
  | ok vs mhE=>
   dsimp only [zaR]
   split
   · rename_i hlen
     intro Q E hQ
     refine rule Q E (hi _ E fun J h' tk' N' ρ' X g=>?_)
     refine comp_core (s₂:={s with heap:=h',toks:=tk'}) (RR:=fun acc Cn=>compPost S.M Φ.A E none Q acc Cn) ht htp KS hc he R E₀ (V.ext I X) g hg fun D Cn h₂ tk₂ N₂ ρ₂ ys m' I₂ X₂ rys hys hD₂ hC₂ off hDC d1 d2 d3 d4=>?_
     refine ⟨m',hC₂,fun h'' hs''=>?_⟩
     refine x0_3 (comp_new I₂ rys hys hD₂ off hDC d1 d2 d3 d4 hs'') fun I₃ X₃ r₃=>?_
     exact hQ _ h'' tk₂ _ _ I₃ (X.trans (X₂.trans X₃)) r₃
   · trivial
end
section
variable {C:Cfg} {S:Stat} {n:Nat} {sc sc':Scope}
noncomputable def Both (C:Cfg) (S:Stat) (n:Nat) (sc:Scope) (e:PySem.Expr) :Prop:=SimE C S n sc e∧SimT C S n sc e
theorem Both.of {e:PySem.Expr} (h:SimE C S n sc e) (he:∀ env (whole:Sem Value),isTrue e env whole=(do let v ← whole;standAt e.pos;holding [v] (truthy v))) :Both C S n sc e:=⟨h,h.test he⟩
set_option backward.match.sparseCases true in
theorem sim_boolE {pos:Pos} {op:BoolOp} {Φ:Fram} {Γ:Gam} {env:Env} {l:Locs} {m:Str→Option Value} (R:Room Φ n) (E₀:EnvOK env Γ sc) :∀ {vs:List PySem.Expr} {N:Led} {ρ:Rho} {mh:zax} {s:Shared},(∀ e∈ vs,SimE C S n sc e)→
 Inv C S Φ m N ρ mh s.heap→VOK env Γ Φ.L m N ρ l→Sim C S Φ m N ρ mh s RV (wp_ S Φ s (boolOp pos op (evalEach vs env))) (zaw C.T (zay C.T C.fns n) (boolE op (trEs C.G Γ vs)) l mh)
 | [],N,ρ,mh,s,h,I,V=>by trivial
 | [x],N,ρ,mh,s,h,I,V=>by
  exact h x (by simp) Φ Γ env l m N ρ mh s I R E₀ V
 | x :: y :: r,N,ρ,mh,s,h,I,V=>by
  have hx:=h x (by simp) Φ Γ env l m N ρ mh s I R E₀ V
  have rule:∀ Q E,wpAny S.M Φ.A (eval x env) (fun v s₁=>wpAny S.M Φ.A (truthy v) (fun t s₂=>match op,t with
   | .And,false=>Q v s₂ | .Or,true=>Q v s₂ | _,_=>wpAny S.M Φ.A (boolOp pos op (evalEach (y :: r) env)) Q E s₂) E s₁) E s→wpAny S.M Φ.A (boolOp pos op (evalEach (x :: y :: r) env)) Q E s:=by
   intro Q E q
   show wpAny S.M Φ.A (do
    let v ← eval x env
    standAt pos
    let t ← holding [v] (truthy v)
    match op,t with
    | .And,false | .Or,true=>pure v
    | _,_=>boolOp pos op (evalEach (y :: r) env)) Q E s
   refine wpAny_bind (wpAny_mono q (fun v s₁ q₁=>wpAny_bind (wpAny_standAt (wpAny_bind (wpAny_holding (wpAny_mono q₁ (fun t s₂ q₂=>?_) fun _ _ z=>z))))) fun _ _ z=>z)
   cases op <;> cases t <;> first | exact wpAny_pure q₂ | exact q₂
  have ih:=fun {N:Led} {ρ:Rho} {mh:zax} {s:Shared}=>@sim_boolE pos op Φ Γ env l m R E₀ (y :: r) N ρ mh s (fun e he=>h e (List.mem_cons_of_mem _ he))
  cases op with
  | And=>
   refine Sim.seq (fun v s₁ Q E=>wpAny S.M Φ.A (truthy v) (fun t s₂=>if t then wpAny S.M Φ.A (boolOp pos .And (evalEach (y :: r) env)) Q E s₂ else Q v s₂) E s₁) hx
    (fun Q E q=>rule Q E (wpAny_mono q (fun v s₁ q₁=>wpAny_mono q₁ (fun t s₂ q₂=>by cases t <;> exact q₂) fun _ _ z=>z) fun _ _ z=>z)) fun v mh' a h' tk' N' ρ' I' X ra=>?_
   cases ht:zbI mh' v with
   | none=>trivial
   | some b=>
    refine Sim.next (R1:=RB) (fun t s₂ Q E=>if t then wpAny S.M Φ.A (boolOp pos .And (evalEach (y :: r) env)) Q E s₂ else Q a s₂) (zeA I' ra ht) (fun Q E q=>q) fun a' h'' tk'' N'' ρ'' I'' X' rb=>?_
    have rb':b=a':=rb
    subst rb'
    cases b with
    | true=>exact ih I'' (V.ext I (X.trans X'))
    | false=>exact Sim.done (tk:=tk'') I'' (a:=a) (X'.rp I' ra) fun Q E q=>q
  | Or=>
   refine Sim.seq (fun v s₁ Q E=>wpAny S.M Φ.A (truthy v) (fun t s₂=>if t then Q v s₂ else wpAny S.M Φ.A (boolOp pos .Or (evalEach (y :: r) env)) Q E s₂) E s₁) hx
    (fun Q E q=>rule Q E (wpAny_mono q (fun v s₁ q₁=>wpAny_mono q₁ (fun t s₂ q₂=>by cases t <;> exact q₂) fun _ _ z=>z) fun _ _ z=>z)) fun v mh' a h' tk' N' ρ' I' X ra=>?_
   cases ht:zbI mh' v with
   | none=>trivial
   | some b=>
    refine Sim.next (R1:=RB) (fun t s₂ Q E=>if t then Q a s₂ else wpAny S.M Φ.A (boolOp pos .Or (evalEach (y :: r) env)) Q E s₂) (zeA I' ra ht) (fun Q E q=>q) fun a' h'' tk'' N'' ρ'' I'' X' rb=>?_
    have rb':b=a':=rb
    subst rb'
    cases b with
    | false=>exact ih I'' (V.ext I (X.trans X'))
    | true=>exact Sim.done (tk:=tk'') I'' (a:=a) (X'.rp I' ra) fun Q E q=>q
theorem sim_allTrue {op:BoolOp} {Φ:Fram} {Γ:Gam} {env:Env} {l:Locs} {m:Str→Option Value} (R:Room Φ n) (E₀:EnvOK env Γ sc) :∀ {vs:List PySem.Expr} {N:Led} {ρ:Rho} {mh:zax} {s:Shared},(∀ e∈ vs,SimT C S n sc e)→
 Inv C S Φ m N ρ mh s.heap→VOK env Γ Φ.L m N ρ l→Sim C S Φ m N ρ mh s RB (wp_ S Φ s (allTrue op vs env)) (zcJ (zaw C.T (zay C.T C.fns n) (boolE op (trEs C.G Γ vs)) l mh))
 | [],N,ρ,mh,s,h,I,V=>by trivial
 | [x],N,ρ,mh,s,h,I,V=>by
  have hx:=h x (by simp) Φ Γ env l m N ρ mh s I R E₀ V
  refine Sim.conv (fun Q E q=>?_) hx
  cases op with
  | And=>
   refine wpAny_allTrue_And_cons (wpAny_mono q (fun b s₁ q₁=>?_) fun _ _ z=>z)
   cases b
   · exact q₁
   · show wpAny S.M Φ.A (allTrue .And [] env) Q E s₁
     exact wpAny_pure q₁
  | Or=>
   refine wpAny_allTrue_Or_cons (wpAny_mono q (fun b s₁ q₁=>?_) fun _ _ z=>z)
   cases b
   · show wpAny S.M Φ.A (allTrue .Or [] env) Q E s₁
     exact wpAny_pure q₁
   · exact q₁
 | x :: y :: r,N,ρ,mh,s,h,I,V=>by
  have hx:=h x (by simp) Φ Γ env l m N ρ mh s I R E₀ V
  have ih:=fun {N:Led} {ρ:Rho} {mh:zax} {s:Shared}=>@sim_allTrue op Φ Γ env l m R E₀ (y :: r) N ρ mh s (fun e he=>h e (List.mem_cons_of_mem _ he))
  cases op with
  | And=>
   have key:zcJ (zaw C.T (zay C.T C.fns n) (.and (trE C.G Γ x) (boolE .And (trE C.G Γ y :: trEs C.G Γ r))) l mh)=(zcJ (zaw C.T (zay C.T C.fns n) (trE C.G Γ x) l mh)).bind fun b h=>
    if b then zcJ (zaw C.T (zay C.T C.fns n) (boolE .And (trE C.G Γ y :: trEs C.G Γ r)) l h) else .ok false h:=by
    refine (Res.bind_assoc _ _ _).trans ((Res.bind_congr fun v h=>?_).trans (Res.bind_assoc _ _ _).symm)
    cases ht:zbI h v with
    | none=>rfl
    | some b=>
     cases b with
     | true=>rfl
     | false=>show (match zbI h v with | some b=>Res.ok b h | none=> .stuck)= _;rw [ht];rfl
   refine zdN key ?_
   refine Sim.seq (fun b s₁ Q E=>if b then wpAny S.M Φ.A (allTrue .And (y :: r) env) Q E s₁ else Q false s₁) hx (fun Q E q=>wpAny_allTrue_And_cons q) fun b mh' a h' tk' N' ρ' I' X ra=>?_
   have ra':b=a:=ra
   subst ra'
   cases b with
   | true=>exact ih I' (V.ext I X)
   | false=>exact Sim.done (tk:=tk') I' (a:=false) rfl fun Q E q=>q
  | Or=>
   have key:zcJ (zaw C.T (zay C.T C.fns n) (.or (trE C.G Γ x) (boolE .Or (trE C.G Γ y :: trEs C.G Γ r))) l mh)=(zcJ (zaw C.T (zay C.T C.fns n) (trE C.G Γ x) l mh)).bind fun b h=>
    if b then .ok true h else zcJ (zaw C.T (zay C.T C.fns n) (boolE .Or (trE C.G Γ y :: trEs C.G Γ r)) l h):=by
    refine (Res.bind_assoc _ _ _).trans ((Res.bind_congr fun v h=>?_).trans (Res.bind_assoc _ _ _).symm)
    cases ht:zbI h v with
    | none=>rfl
    | some b=>
     cases b with
     | false=>rfl
     | true=>show (match zbI h v with | some b=>Res.ok b h | none=> .stuck)= _;rw [ht];rfl
   refine zdN key ?_
   refine Sim.seq (fun b s₁ Q E=>if b then Q true s₁ else wpAny S.M Φ.A (allTrue .Or (y :: r) env) Q E s₁) hx (fun Q E q=>wpAny_allTrue_Or_cons q) fun b mh' a h' tk' N' ρ' I' X ra=>?_
   have ra':b=a:=ra
   subst ra'
   cases b with
   | false=>exact ih I' (V.ext I X)
   | true=>exact Sim.done (tk:=tk') I' (a:=true) rfl fun Q E q=>q
end
section
variable {C:Cfg} {S:Stat} {n:Nat} {sc sc':Scope}
theorem zfy:∀ {es:List PySem.Expr},noStar es=true→(∀ e∈ es,SimE C S n sc e)→SimEs C S n sc es
 | [],_,_=>SimEs.nil
 | e :: r,hn,h=>by
  simp only [noStar,List.all_cons,Bool.and_eq_true] at hn
  exact SimEs.cons hn.1 (h e (by simp)) (zfy (by simpa [noStar] using hn.2) fun e he=>h e (List.mem_cons_of_mem _ he))
theorem simC_nil:SimC C S n [] (fun _ _ h=> .ok (.bool true) h):=by
 intro Φ Γ env l m N ρ mh s I R E₀ V
 show Sim C S Φ m N ρ mh s RB _ (.ok true mh)
 exact Sim.done (tk:=s.toks) I (a:=true) rfl fun Q E q=>wpAny_tests_nil q
theorem simC_one {c:PySem.Expr} (h:SimT C S n zcD c) :SimC C S n [c] (fun Γ=>zaw C.T (zay C.T C.fns n) (trE C.G Γ c)):=by
 intro Φ Γ env l m N ρ mh s I R E₀ V
 exact Sim.conv (fun Q E q=>wpAny_tests_one q) (h Φ Γ env l m N ρ mh s I R E₀ V)
theorem a1 {a b:Bool} (h:(a && b)=true) :a=true:=by
 cases a <;> first | rfl | exact noC Bool.ctorIdx h rfl
theorem a2 {a b:Bool} (h:(a && b)=true) :b=true:=by
 cases a <;> first | exact h | exact noC Bool.ctorIdx h rfl
theorem nof {p:Prop} (h:false=true) :p:=nofB h
theorem tup_of_targets {t:PySem.Expr} {nt:Nat} {ts:List Str} (h:zbx t=some (nt,ts)) :decide (nt≠0)=true→∃ elts k pos,t= .Tuple elts k pos:=by
 intro hd
 cases t with
 | Tuple=>exact ⟨_,_,_,rfl⟩
 | Name=>cases h;exact noC Bool.ctorIdx hd rfl
 | _=>exact nofO h
theorem trE_comp {G:Gl} {Γ:Gam} {t it elt:PySem.Expr} {ifs:List PySem.Expr} {pos:Pos} {nt:Nat} {ts:List Str} (ht:zbx t=some (nt,ts)) :
 trE G Γ (.ListComp elt [⟨t,it,ifs,0⟩] sc' pos)=compE nt (zbH G Γ it) (iterE G Γ it) (trE G (zaP Γ ts sc') elt) (trEs G (zaP Γ ts sc') ifs):=by
 have:trE G Γ (.ListComp elt [⟨t,it,ifs,0⟩] sc' pos)=compT (zbx t) (zbH G Γ it) (trE G Γ it) (arg1E G Γ it) (fun ts=>trE G (zaP Γ ts sc') elt) (fun ts=>trEs G (zaP Γ ts sc') ifs):=by
  cases it with
  | Call f args ks p=>
   cases args with
   | nil=>rfl
   | cons x r=>cases r <;> rfl
  | _=>rfl
 rw [this,ht]
 rfl
theorem comp_key {r:Res MV} {so:MV→zax→Option Src} {f:Src→zax→Res MV} :(r.bind fun v h=>match so v h with | some src=>f src h | none=> .stuck) =
 (r.bind fun v h=>match so v h with | some src=> .ok src h | none=> .stuck).bind f:=by
 cases r with
 | ok v h=>show (match so v h with | some src=>f src h | none=> .stuck)=Res.bind (match so v h with | some src=> .ok src h | none=> .stuck) f;cases so v h <;> rfl
 | _=>rfl
theorem iter_of (Z:Sit C S) {ok:PySem.Expr→Bool} (ih:∀ e,ok e=true→Both C S n sc e) {t it:PySem.Expr} {tp:Bool} (ht:tp=true→∃ elts k pos,t= .Tuple elts k pos) (h:okIt ok it=true) :SimIter C S n sc t tp it:=
 simIter Z ht (ih _ (a1 (a2 h))).1 fun f p x pos e=>by
  subst e
  have:=a1 (a2 (a2 h))
  exact ⟨a1 this,(ih _ (a2 this)).1⟩
inductive CompOK (C:Cfg) (S:Stat) (n:Nat) (sc sc':Scope) (t it elt:PySem.Expr) (ifs:List PySem.Expr) :Prop where
 | mk (nt:Nat) (ts:List Str) (ht:zbx t=some (nt,ts)) (KS:ScOK sc ts sc') (hset:notSet it=true) (hI:SimIter C S n sc t (decide (nt≠0)) it) (helt:SimE C S n zcD elt) (hifs:∀ c∈ ifs,SimT C S n zcD c)
theorem CompOK.of (Z:Sit C S) {ok:Scope→PySem.Expr→Bool} (ih:∀ sc e,ok sc e=true→Both C S n sc e) {t it elt:PySem.Expr} {ifs:List PySem.Expr} {a:Int} (h:okGen ok sc sc' elt ⟨t,it,ifs,a⟩=true) :a=0∧CompOK C S n sc sc' t it elt ifs:=by
 have h1:=a1 h
 have h2:=a2 h
 refine ⟨beq_iff_eq.mp (a2 (a2 (a2 h2))),?_⟩
 cases ht:zbx t with
 | none=>rw [ht] at h1;exact nofB h1
 | some p=>
  rw [ht] at h1
  exact ⟨p.1,p.2,ht,ScOK.of h1,a1 (a1 h2),iter_of Z (ih sc) (tup_of_targets ht) (a1 h2),(ih _ _ (a1 (a2 h2))).1,fun c hc=>(ih _ _ (List.all_eq_true.mp (a1 (a2 (a2 h2))) c hc)).2⟩
theorem comp_of {t it elt:PySem.Expr} {ifs:List PySem.Expr} {pos:Pos} (K:CompOK C S n sc sc' t it elt ifs) :SimE C S n sc (.ListComp elt [⟨t,it,ifs,0⟩] sc' pos):=by
 obtain ⟨nt,ts,ht,KS,h2,hI,helt,hifs⟩:=K
 intro Φ Γ env l m N ρ mh s I R E₀ V
 refine zdN (congrArg (fun e=>zaw C.T (zay C.T C.fns n) e l mh) (trE_comp ht)) ?_
 cases ifs with
 | nil=>exact zdN comp_key (sim_comp (pos:=pos) ht rfl KS h2 hI simC_nil helt I R E₀ V)
 | cons c r=>
  cases r with
  | nil=>exact zdN comp_key (sim_comp (pos:=pos) ht rfl KS h2 hI (simC_one (hifs c List.mem_cons_self)) helt I R E₀ V)
  | cons=>trivial
theorem call1_or {P:ME→Prop} {G:Gl} {g:Gam} {f:Str} {e:ME} (h1:zaS G g f=some .tyInt→P (.bi .toInt [e])) (h2:P (callE G g f [e])) :P (call1 G g f e):=by
 unfold call1
 cases h:zaS G g f with
 | none=>exact h2
 | some x=>cases x <;> first | exact h2 | exact h1 h
theorem call2n_or {P:ME→Prop} {G:Gl} {g:Gam} {f t:Str} {e:ME} (h1:zaS G g f=some .isinst→zaS G g t=some .tyInt→P (.bi .isInt [e])) (h3:zaS G g f=some .isinst→zaS G g t=some .tyBool→P (.bi .isBool [e]))
 (h2:P (callE G g f [e,nameE G g t])) :P (call2n G g f t e):=by
 unfold call2n
 cases h:zaS G g f with
 | none=>exact h2
 | some x=>
  cases x with
  | isinst=>
   show P (match zaS G g t with | none=>callE G g f [e,nameE G g t] | some y=>(match y with | .tyInt=> .bi .isInt [e] | .tyBool=> .bi .isBool [e] | _=>callE G g f [e,nameE G g t]))
   cases h':zaS G g t with
   | none=>exact h2
   | some x=>cases x <;> first | exact h2 | exact h1 h h' | exact h3 h h'
  | _=>exact h2
theorem call_name (Z:Sit C S) (HC:CallsOK C S n) {f:Str} {pf pos:Pos} {args:List PySem.Expr} (hn:noStar args=true) (h:∀ e∈ args,SimE C S n sc e) :SimE C S n sc (.Call (.Name f pf) args [] pos):=by
 intro Φ Γ env l m N ρ mh s I R E₀ V
 have gen:=sim_callName Z HC (pf:=pf) (pos:=pos) (f:=f) hn (zfy hn h) I R E₀ V
 cases args with
 | nil=>exact gen
 | cons e r=>
  cases r with
  | nil=>exact call1_or (G:=C.G) (g:=Γ) (f:=f) (e:=trE C.G Γ e) (P:=fun x=>Sim C S Φ m N ρ mh s RV (wp_ S Φ s (eval (.Call (.Name f pf) [e] [] pos) env)) (zaw C.T (zay C.T C.fns n) x l mh)) (fun hg=>sim_toInt Z (a1 hn) (h e List.mem_cons_self) I R E₀ V hg) gen
  | cons g q=>
   cases q with
   | cons=>exact gen
   | nil=>
    cases g with
    | Name t pt=>
     exact call2n_or (G:=C.G) (g:=Γ) (f:=f) (t:=t) (e:=trE C.G Γ e) (P:=fun x=>Sim C S Φ m N ρ mh s RV (wp_ S Φ s (eval (.Call (.Name f pf) [e,.Name t pt] [] pos) env)) (zaw C.T (zay C.T C.fns n) x l mh))
      (fun h1 h2=>sim_isi Z (a1 hn) (h e List.mem_cons_self) (b:=false) I R E₀ V h1 h2) (fun h1 h2=>sim_isi Z (a1 hn) (h e List.mem_cons_self) (b:=true) I R E₀ V h1 h2) gen
    | _=>exact gen
theorem call_meth (Z:Sit C S) (HC:CallsOK C S n) {o:PySem.Expr} {a:Str} {apos pos:Pos} {args:List PySem.Expr} (hn:noStar args=true) (h:∀ e∈ args,SimE C S n sc e) (h1:baseOK o=true) (h3:(apos.endLine == pos.line)=true)
 (h4:args.length < 29) (hO:SimE C S n sc o) :SimE C S n sc (.Call (.Attribute o a apos) args [] pos):=by
 intro Φ Γ env l m N ρ mh s I R E₀ V
 refine Sim.onE fun j ha=>?_
 · by_cases hap:(a == Str.ofString "append")=true
   · rw [if_pos hap]
     obtain rfl:=beq_iff_eq.mp hap
     cases args with
     | nil=>trivial
     | cons x r=>
      cases r with
      | nil=>exact SimE.app h1 (a1 hn) h3 hO (h x List.mem_cons_self) I R E₀ V
      | cons=>trivial
   · rw [if_neg hap]
     exact SimE.meth Z HC h1 hn h3 h4 ha hO (zfy hn h) I R E₀ V
theorem cmp_of {l:PySem.Expr} {ops:List CmpOp} {cs:List PySem.Expr} {pos:Pos} (ho:okCmp cs ops=true) (hl:SimE C S n sc l) (h:∀ e∈ cs,SimE C S n sc e) :Both C S n sc (.Compare l ops cs pos):=by
 cases cs with
 | nil=>exact noC Bool.ctorIdx ho rfl
 | cons c r=>
  have hc:=h c List.mem_cons_self
  cases r with
  | nil=>
   refine x1_1 (List.length_eq_one_iff.mp (beq_iff_eq.mp ho)) ?_;rintro op rfl
   exact ⟨SimE.cmp1 hl hc,SimT.cmp1 hl hc⟩
  | cons d q=>
   have hd:=h d (List.mem_cons_of_mem _ List.mem_cons_self)
   cases q with
   | nil=>
    have ho':ops.length=2:=beq_iff_eq.mp ho
    cases ops with
    | nil=>cases ho'
    | cons op o=>
    refine x1_1 (List.length_eq_one_iff.mp (Nat.succ.inj ho')) ?_;rintro op' rfl
    exact ⟨SimE.cmp2 hl hc hd,SimT.cmp2 hl hc hd⟩
   | cons=>exact noC Bool.ctorIdx ho rfl
theorem sub_of {ok:PySem.Expr→Bool} (ih:∀ e,ok e=true→Both C S n sc e) {o i:PySem.Expr} {pos:Pos} (ho:SimE C S n sc o) (h:okSub ok i=true) :SimE C S n sc (.Subscript o i pos):=by
 cases i with
 | Slice lo hi st pp=>
  cases st with
  | some=>exact nof h
  | none=>
   cases lo with
   | none=>
    cases hi with
    | none=>exact nof h
    | some e=>exact SimE.sliceTo ho (ih e h).1
   | some e=>
    cases hi with
    | none=>exact SimE.sliceFrom ho (ih e h).1
    | some=>exact nof h
 | _=>exact SimE.sub trivial ho (ih _ h).1 fun Γ=>rfl
theorem const_of {c:PySem.Const} {j:Nat} {pos:Pos} (h:okConst c=true) :SimE C S n sc (.Constant c j pos):=by
 intro Φ Γ env l m N ρ mh s I R E₀ V
 cases c with
 | none=>exact sim_constNone I
 | bool b=>exact sim_constBool I
 | int i=>exact sim_constInt I
 | str i=>exact sim_constStr I
 | _=>exact nof h
theorem un_of {op:PySem.UnaryOp} {x:PySem.Expr} {pos:Pos} (h:okUn op=true) (hx:Both C S n sc x) :Both C S n sc (.UnaryOp op x pos):=by
 cases op with
 | USub=>exact .of (SimE.neg hx.1) fun _ _=>rfl
 | Not=>exact ⟨SimE.not hx.1,SimT.not hx.2⟩
 | _=>exact nof h
theorem all_of_ {ok:PySem.Expr→Bool} {P:PySem.Expr→Prop} (ih:∀ e,ok e=true→P e) {es:List PySem.Expr} (h:es.all ok=true) :∀ e∈ es,P e:=fun e he=>ih e (List.all_eq_true.mp h e he)
theorem simE_all (Z:Sit C S) (HC:CallsOK C S n) (k:Nat) :∀ (sc:Scope) (e:PySem.Expr),okE k sc e=true→Both C S n sc e:=by
 induction k with
 | zero=>exact fun _ _ h=>nof h
 | succ k ih=>
  intro sc e ho
  have i1:∀ e,okE k sc e=true→SimE C S n sc e:=fun e h=>(ih sc e h).1
  cases e with
  | Constant c j pos=>exact .of (const_of ho) fun _ _=>rfl
  | Name x pos=>exact .of (fun Φ Γ env l m N ρ mh s I R E₀ V=>sim_name Z I E₀ V) fun _ _=>rfl
  | BinOp l op r pos=>exact .of (SimE.bin (i1 l (a1 ho)) (i1 r (a2 ho))) fun _ _=>rfl
  | UnaryOp op x pos=>exact un_of (a1 ho) (ih sc x (a2 ho))
  | BoolOp op vs pos=>
   have h:=all_of_ (ih sc) ho
   exact ⟨fun Φ Γ env l m N ρ mh s I R E₀ V=>sim_boolE (pos:=pos) R E₀ (fun e he=>(h e he).1) I V,
    fun Φ Γ env l m N ρ mh s I R E₀ V=>Sim.conv (fun Q E q=>wpAny_isTrue_BoolOp q) (sim_allTrue R E₀ (fun e he=>(h e he).2) I V)⟩
  | Compare l ops cs pos=>exact cmp_of (a1 ho) (i1 l (a1 (a2 ho))) (all_of_ i1 (a2 (a2 ho)))
  | IfExp t b o pos=>
   have h1:=(ih sc t (a1 ho)).2
   have h2:=ih sc b (a1 (a2 ho))
   have h3:=ih sc o (a2 (a2 ho))
   exact ⟨SimE.ite h1 h2.1 h3.1,SimT.ite h1 h2.2 h3.2⟩
  | Attribute o a pos=>exact .of (SimE.attr Z (a1 ho) (i1 o (a2 ho))) fun _ _=>rfl
  | List es pos=>exact .of (SimE.list (zfy (a1 ho) (all_of_ i1 (a2 ho)))) fun _ _=>rfl
  | Tuple es j pos=>exact .of (SimE.tuple (zfy (a1 ho) (all_of_ i1 (a2 ho)))) fun _ _=>rfl
  | Subscript o i pos=>exact .of (sub_of (ih sc) (i1 o (a1 ho)) (a2 ho)) fun _ _=>rfl
  | ListComp elt gens sc' pos=>
   refine .of ?_ fun _ _=>rfl
   cases gens with
   | nil=>exact nof ho
   | cons g r=>
    cases r with
    | nil=>
     obtain ⟨t,it,ifs,a⟩:=g
     refine x0_2 (CompOK.of (sc':=sc') (elt:=elt) (t:=t) (it:=it) (ifs:=ifs) (a:=a) Z ih ho) ?_;rintro rfl K
     exact comp_of K
    | cons=>exact nof ho
  | Call f args kws pos=>
   refine .of ?_ fun _ _=>rfl
   cases kws with
   | cons=>exact nof ho
   | nil=>
    have ho':(noStar args && (args.all (okE k sc) && okCall (okE k sc) args pos f))=true:=ho
    have h:=all_of_ i1 (a1 (a2 ho'))
    have h2:okCall (okE k sc) args pos f=true:=a2 (a2 ho')
    cases f with
    | Name f pf=>exact call_name Z HC (a1 ho') h
    | Attribute o a apos=>exact call_meth Z HC (a1 ho') h (a1 h2) (a1 (a2 h2)) (of_decide_eq_true (a1 (a2 (a2 h2)))) (i1 o (a2 (a2 (a2 h2))))
    | _=>exact nof h2
  | _=>exact nof ho
end
noncomputable def ExtS (bs:List Addr) (N:Led) (ρ:Rho) (mh:zax) (N':Led) (ρ':Rho) (mh':zax) :Prop:=Ext (strip bs N) ρ mh (strip bs N') ρ' mh'
theorem Ext.s {N N':Led} {ρ ρ':Rho} {mh mh':zax} (X:Ext N ρ mh N' ρ' mh') (bs:List Addr) :ExtS bs N ρ mh N' ρ' mh' where
 pre:=X.pre
 keep:=fun p hp ho=>mem_strip.mpr ⟨X.keep p (mem_strip.mp hp).1 ho,(mem_strip.mp hp).2⟩
 keys:=fun p hp=>let ⟨o,ho⟩:=X.keys p (mem_strip.mp hp).1;⟨o,mem_strip.mpr ⟨ho,(mem_strip.mp hp).2⟩⟩
 fresh:=fun i q hq hi p hp=>X.fresh i q hq hi p (mem_strip.mp hp).1
 ver:=fun i vs n hi=>let ⟨vs',n',a,b,c⟩:=X.ver i vs n hi;⟨vs',n',a,b,fun e=>⟨(c e).1,fun p hp q hq hpq=>mem_strip.mpr ⟨(c e).2 p (mem_strip.mp hp).1 q hq hpq,(mem_strip.mp hp).2⟩⟩⟩
 ro:=X.ro
 back:=X.back
theorem ExtS.refl (bs:List Addr) (N:Led) (ρ:Rho) (mh:zax) :ExtS bs N ρ mh N ρ mh:=Ext.refl _ _ _
theorem ExtS.trans {bs:List Addr} {N N' N'':Led} {ρ ρ' ρ'':Rho} {mh mh' mh'':zax} (X:ExtS bs N ρ mh N' ρ' mh') (Y:ExtS bs N' ρ' mh' N'' ρ'' mh'') :ExtS bs N ρ mh N'' ρ'' mh'':=Ext.trans X Y
noncomputable abbrev bsOf (env:Env) :List Addr:=env.cells.map (·.2)
structure FnEnv (Φ:Fram) (env:Env) (Γ:Gam) (sc:Scope) :Prop where
 E:EnvOK env Γ sc
 fenv:Φ.fenv=env
 loc:env.locals=Φ.L
 names:env.scope.names=sc.names
 kinds:∀ x i,Γ.names.lookup x=some (some i)→env.kindOf x=some .local∨env.kindOf x=some .cell
 inj:∀ x y i,Γ.names.lookup x=some (some i)→Γ.names.lookup y=some (some i)→x=y
 cinj:∀ x y c,env.cells.lookup x=some c→env.cells.lookup y=some c→x=y
structure SOK (env:Env) (Γ:Gam) (Φ:Fram) (m:Str→Option Value) (N:Led) (ρ:Rho) (l:Locs) :Prop where
 V:VOK env Γ Φ.L m N ρ l
 C:Cells (bsOf env) N
structure MadeOwn (h h':Heap) (e:Addr) (cls:Value) :Prop where
 keeps:∀ b o,h.get? b=some o→h'.get? b=some o
 new:h.get? e=none
 there:∃ ob vs t,h'.get? e=some ob∧ob.cls=cls∧ob.data= .fields vs∧vs[0]? =some t∧vs[1]? =some .none
noncomputable def ExcS (C:Cfg) (S:Stat) (Φ:Fram) (bs:List Addr) (N:Led) (ρ:Rho) (mh mh':zax) (e:Addr) (h':Heap) :Prop:=
 (∃ g,UpS Φ.h₀ g∧Below Φ.A₀ Φ.base Φ.outer g∧∃ m' N' ρ' g₂,RaisedN Φ.base (Φ.fenv :: Φ.outer) e (.ref (C.excA 0)) N' h'∧Fr g Φ.L g₂ m'∧g₂.UpToSlots h'∧HRel C g N' ρ' mh'∧ExtS bs N ρ mh N' ρ' mh')∨
 (∃ m' h₁ N' ρ',Inv C S Φ m' N' ρ' mh' h₁∧MadeOwn h₁ h' e (.ref (C.excA 0))∧ExtS bs N ρ mh N' ρ' mh')
noncomputable def SimX (C:Cfg) (S:Stat) (Φ:Fram) (env:Env) (Γ:Gam) (N:Led) (ρ:Rho) (mh:zax) (s:Shared) (W:zaY Flow) (r:SRes) :Prop:=
 match r with
 | .nxt l' mh'=>∀ Q E,(∀ h' tk' m' N' ρ',Inv C S Φ m' N' ρ' mh' h'→ExtS (bsOf env) N ρ mh N' ρ' mh'→SOK env Γ Φ m' N' ρ' l'→Q .next {s with heap:=h',toks:=tk'})→W Q E
 | .ret v mh'=>∀ Q E,(∀ x h' tk' m' N' ρ',Inv C S Φ m' N' ρ' mh' h'→ExtS (bsOf env) N ρ mh N' ρ' mh'→RepV N' ρ' v x→Q (.ret x) {s with heap:=h',toks:=tk'})→W Q E
 | .exc _ mh'=>∀ Q E,(∀ e h' tk',ExcS C S Φ (bsOf env) N ρ mh mh' e h'→E (.ref e) {s with heap:=h',toks:=tk'})→W Q E
 | .stuck=>True
section
variable {C:Cfg} {S:Stat} {Φ:Fram} {m:Str→Option Value} {N N':Led} {ρ ρ':Rho} {mh mh':zax} {s:Shared} {α β γ δ:Type} {env:Env} {Γ:Gam} {l:Locs} {sc:Scope}
theorem ExcS.after {bs:List Addr} {mh'':zax} {e:Addr} {h:Heap} (X:ExtS bs N ρ mh N' ρ' mh') (x:ExcS C S Φ bs N' ρ' mh' mh'' e h) :ExcS C S Φ bs N ρ mh mh'' e h:=by
 rcases x with ⟨g,u,bl,m',N'',ρ'',g₂,a1,a2,a3,a4,a5⟩ | ⟨m',h₁,N'',ρ'',a1,a2,a3⟩
 · exact .inl ⟨g,u,bl,m',N'',ρ'',g₂,a1,a2,a3,a4,X.trans a5⟩
 · exact .inr ⟨m',h₁,N'',ρ'',a1,a2,X.trans a3⟩
theorem SimX.after {W:zaY Flow} {r:SRes} {h₁:Heap} {t₁:Nat} (X:ExtS (bsOf env) N ρ mh N' ρ' mh') (h:SimX C S Φ env Γ N' ρ' mh' {s with heap:=h₁,toks:=t₁} W r) :SimX C S Φ env Γ N ρ mh s W r:=by
 cases r with
 | stuck=>trivial
 | nxt l' mh''=>exact fun Q E hQ=>h Q E fun h' tk' m' N'' ρ'' I X' V=>hQ h' tk' m' N'' ρ'' I (X.trans X') V
 | ret v mh''=>exact fun Q E hQ=>h Q E fun x h' tk' m' N'' ρ'' I X' V=>hQ x h' tk' m' N'' ρ'' I (X.trans X') V
 | exc l' mh''=>exact fun Q E hQ=>h Q E fun e h' tk' x=>hQ e h' tk' (x.after X)
theorem flies_s {bs:List Addr} {e:Addr} {h:Heap} (f:Flies C Φ m N ρ mh mh' e h) :ExcS C S Φ bs N ρ mh mh' e h:=by
 obtain ⟨g,u,bl,N',ρ',g₂,a1,a2,a3,a4,a5⟩:=f
 exact .inl ⟨g,u,bl,m,N',ρ',g₂,a1,a2,a3,a4,a5.s bs⟩
theorem SimX.seqE {R1:Led→Rho→β→α→Prop} {t1:zaY α} {r1:Res β} {k:β→zax→SRes} {W:zaY Flow}
 (W2:α→Shared→zaY Flow) (h1:Sim C S Φ m N ρ mh s R1 t1 r1) (comb:∀ Q E,t1 (fun a s₁=>W2 a s₁ Q E) E→W Q E)
 (h2:∀ b mh' a h' tk' N' ρ',Inv C S Φ m N' ρ' mh' h'→Ext N ρ mh N' ρ' mh'→R1 N' ρ' b a→SimX C S Φ env Γ N' ρ' mh' {s with heap:=h',toks:=tk'} (W2 a {s with heap:=h',toks:=tk'}) (k b mh')) :
 SimX C S Φ env Γ N ρ mh s W (r1.toS l k):=by
 cases r1 with
 | stuck=>trivial
 | exc mh1=>exact fun Q E hE=>comb Q E (h1 _ _ fun e h' tk' f=>hE e h' tk' (flies_s f))
 | ok b mh1=>
  show SimX C S Φ env Γ N ρ mh s W (k b mh1)
  have key:∀ a h' tk' N' ρ',Inv C S Φ m N' ρ' mh1 h'→Ext N ρ mh N' ρ' mh1→R1 N' ρ' b a→SimX C S Φ env Γ N ρ mh s (W2 a {s with heap:=h',toks:=tk'}) (k b mh1):=
   fun a h' tk' N' ρ' I X r=>SimX.after (X.s _) (h2 b mh1 a h' tk' N' ρ' I X r)
  cases hg:k b mh1 with
  | stuck=>trivial
  | nxt l' mh2=>rw [hg] at key;exact fun Q E hQ=>comb Q E (h1 _ E fun a h' tk' N' ρ' I X r=>key a h' tk' N' ρ' I X r Q E hQ)
  | ret v mh2=>rw [hg] at key;exact fun Q E hQ=>comb Q E (h1 _ E fun a h' tk' N' ρ' I X r=>key a h' tk' N' ρ' I X r Q E hQ)
  | exc l' mh2=>rw [hg] at key;exact fun Q E hQ=>comb Q E (h1 _ E fun a h' tk' N' ρ' I X r=>key a h' tk' N' ρ' I X r Q E hQ)
set_option backward.match.sparseCases true in
theorem SimX.bind {W1 W:zaY Flow} {r1:SRes} {k:Locs→zax→SRes} (W2:Shared→zaY Flow) (h1:SimX C S Φ env Γ N ρ mh s W1 r1)
 (comb:∀ Q E,W1 (fun f s'=>match f with | .next=>W2 s' Q E | f=>Q f s') E→W Q E)
 (h2:∀ l' mh' h' tk' m' N' ρ',Inv C S Φ m' N' ρ' mh' h'→ExtS (bsOf env) N ρ mh N' ρ' mh'→SOK env Γ Φ m' N' ρ' l'→SimX C S Φ env Γ N' ρ' mh' {s with heap:=h',toks:=tk'} (W2 {s with heap:=h',toks:=tk'}) (k l' mh')) :
 SimX C S Φ env Γ N ρ mh s W (r1.bind k):=by
 cases r1 with
 | stuck=>trivial
 | exc l' mh1=>exact fun Q E hE=>comb Q E (h1 _ _ hE)
 | ret v mh1=>exact fun Q E hQ=>comb Q E (h1 _ _ fun x h' tk' m' N' ρ' I X r=>hQ x h' tk' m' N' ρ' I X r)
 | nxt l' mh1=>
  show SimX C S Φ env Γ N ρ mh s W (k l' mh1)
  have key:∀ h' tk' m' N' ρ',Inv C S Φ m' N' ρ' mh1 h'→ExtS (bsOf env) N ρ mh N' ρ' mh1→SOK env Γ Φ m' N' ρ' l'→SimX C S Φ env Γ N ρ mh s (W2 {s with heap:=h',toks:=tk'}) (k l' mh1):=
   fun h' tk' m' N' ρ' I X V=>SimX.after X (h2 l' mh1 h' tk' m' N' ρ' I X V)
  cases hg:k l' mh1 with
  | stuck=>trivial
  | nxt l'' mh2=>rw [hg] at key;exact fun Q E hQ=>comb Q E (h1 _ E fun h' tk' m' N' ρ' I X r=>key h' tk' m' N' ρ' I X r Q E hQ)
  | ret v mh2=>rw [hg] at key;exact fun Q E hQ=>comb Q E (h1 _ E fun h' tk' m' N' ρ' I X r=>key h' tk' m' N' ρ' I X r Q E hQ)
  | exc l'' mh2=>rw [hg] at key;exact fun Q E hQ=>comb Q E (h1 _ E fun h' tk' m' N' ρ' I X r=>key h' tk' m' N' ρ' I X r Q E hQ)
theorem lookup_bs {x:Str} {c:Addr} (h:env.cells.lookup x=some c) :c∈ bsOf env:=List.mem_map.mpr ⟨_,zbG h,rfl⟩
theorem zbA (F:FnEnv Φ env Γ sc) (I:Inv C S Φ m N ρ mh s.heap) (V:SOK env Γ Φ m N ρ l) {x:Str} {i:Nat} (hx:Γ.names.lookup x=some (some i)) {mv:MV} {v:Value} (r:RepV N ρ mv v) {Q:Unit→Shared→Prop} {E:Value→Shared→Prop}
 (h:∀ h' tk' m' N',Inv C S Φ m' N' ρ mh h'→ExtS (bsOf env) N ρ mh N' ρ mh→SOK env Γ Φ m' N' ρ (l.set i (some mv))→(∀ v x,RepV N ρ v x→RepV N' ρ v x)→Q () {s with heap:=h',toks:=tk'}) :wpAny S.M Φ.A (storeName env x v) Q E s:=by
 refine Inv.open I fun g₀ u₀ I₀ xb tb=>?_
 have hlen:(l.set i (some mv)).length=Γ.n:=by rw [List.length_set];exact V.V.len
 have hlt:i < l.length:=by simp only [V.V.len];exact F.E.slots x i hx
 rcases F.kinds x i hx with hk | hk
 · refine wpAny_storeName_local hk (F.loc ▸ I₀.F.ns) (fun h' hn hs=>?_) (by rw [F.E.kind];rfl)
   rw [F.loc] at hn hs
   have hL₀:g₀.get? Φ.L=none:=Heap.get?_none_of_le I₀.F.above
   refine h h' _ _ N ⟨⟨g₀,u₀,⟨I₀.B,I₀.hA,I₀.hh,I₀.hf,I₀.hk,⟨hn,fun b o e=>(hs.2 b (fun q=>by rw [q,hL₀] at e;exact nofO e)).trans (I₀.F.keep b o e),I₀.F.above⟩,I₀.X,fun p hp=>⟨(hs.2 _ (I₀.NN p hp).2.1).trans (I₀.NN p hp).1,(I₀.NN p hp).2⟩,I₀.T,I₀.H⟩⟩,xb,tb⟩ (ExtS.refl _ _ _ _) ⟨⟨hlen,fun y j mw hy hj=>?_⟩,V.C⟩ fun _ _ z=>z
   by_cases e:i=j
   · subst e
     obtain rfl:=F.inj x y i hx hy
     rw [List.getElem?_set_self hlt] at hj
     cases hj
     exact ⟨v,.loc hk F.loc (by simp),r⟩
   · rw [List.getElem?_set_ne e] at hj
     refine x1_2 (V.V.var y j mw hy hj) fun w a b=>?_
     refine ⟨w,?_,b⟩
     have hxy:y≠x:=by rintro rfl;rw [hx] at hy;exact e (by cases hy;rfl)
     cases a with
     | loc a1 a2 a3=>exact .loc a1 a2 (by simp [hxy,a3])
     | cell c o a1 a2 a3 a4=>exact .cell c o a1 a2 a3 a4
     | free c o a1 a2 a3 a4=>exact .free c o a1 a2 a3 a4
     | own o m₂ a1 a2 a3 a4 a5=>exact absurd F.loc (fun q=>(I₀.NN _ a2).2.1 q)
 · obtain ⟨_,c,hc⟩:=F.E.cells x (by rw [← F.names];exact hk)
   have hcb:=lookup_bs hc
   refine x2_2 (V.C c hcb) fun o v₀ ho hd=>?_
   have hN:=I₀.NN _ ho
   refine wpAny_storeName_cell F.E.kind hk hc ⟨o,hN.1,hd⟩ fun h' hv hs=>?_
   refine x1_2 hv ?_;(try clear hv);intro o' ho' hd'
   have off:¬ zbS ρ c:=I.cell_off ho hd
   have notTup:∀ p∈ N,p.1∈ [c]→∀ its n,p.2≠zaU its n:=fun p hp hb its n e=>by
    obtain ⟨a,o₂⟩:=p
    obtain rfl:a=c:=List.mem_singleton.mp hb
    have:=zdz I₀.NN hp ho
    have e':o₂=zaU its n:=e
    rw [← this,e'] at hd;cases hd
   have NN':News g₀ Φ.L h' ((c,o') :: strip [c] N):=fun p hp=>by
    rcases List.mem_cons.mp hp with rfl | hp
    · exact ⟨ho',hN.2⟩
    · refine x0_2 (mem_strip.mp hp) fun h1 h2=>?_
      exact ⟨(hs.2 _ (by simpa using h2)).trans (I₀.NN p h1).1,(I₀.NN p h1).2⟩
   have H':HRel C g₀ ((c,o') :: strip [c] N) ρ mh:=(I₀.H.strip (wr:=[c]) (fun a ha=>List.mem_singleton.mp ha ▸ off) notTup).more fun p hp=> .tail _ hp
   have rep:∀ v x,RepV N ρ v x→RepV ((c,o') :: strip [c] N) ρ v x:=fun v x r=>(r.strip notTup).mono (fun _ _ _ hm=> .tail _ hm) fun _ _ z=>z
   have hm:∀ p∈ N,p.1≠c→p∈ (c,o') :: strip [c] N:=fun p hp q=> .tail _ (mem_strip.mpr ⟨hp,by simpa using q⟩)
   refine h h' _ m _ ⟨⟨g₀,u₀,⟨I₀.B,I₀.hA,I₀.hh,I₀.hf,I₀.hk,⟨I₀.F.ns.at' fun o e=>(hs.2 _ (Ne.symm hN.2.1)).trans e,fun b o e=>(hs.2 b (fun q=>by rw [q,hN.2.2] at e;exact nofO e)).trans (I₀.F.keep b o e),I₀.F.above⟩,I₀.X,NN',I₀.T,H'⟩⟩,xb,tb⟩ ?_ ⟨⟨hlen,fun y j mw hy hj=>?_⟩,fun b hb=>?_⟩ rep
   · exact Ext.more fun p hp=>mem_strip.mpr ⟨hm p (mem_strip.mp hp).1 fun q=>(mem_strip.mp hp).2 (q ▸ hcb),(mem_strip.mp hp).2⟩
   · by_cases e:i=j
     · subst e
       obtain rfl:=F.inj x y i hx hy
       rw [List.getElem?_set_self hlt] at hj
       cases hj
       exact ⟨v,.cell c o' hk hc (.head _) hd',rep _ _ r⟩
     · rw [List.getElem?_set_ne e] at hj
       refine x1_2 (V.V.var y j mw hy hj) fun w a b=>?_
       refine ⟨w,?_,rep _ _ b⟩
       have hxy:y≠x:=by rintro rfl;rw [hx] at hy;exact e (by cases hy;rfl)
       cases a with
       | loc a1 a2 a3=>exact .loc a1 a2 a3
       | cell c' o a1 a2 a3 a4=>exact .cell c' o a1 a2 (hm _ a3 fun q=>hxy (F.cinj y x c (q ▸ a2) hc)) a4
       | free c' o a1 a2 a3 a4=>exact .free c' o a1 a2 (hm _ a3 fun q=>hxy (F.cinj y x c (q ▸ a2) hc)) a4
       | own o m₂ a1 a2 a3 a4 a5=>exact absurd F.loc (fun q=>(I₀.NN _ a2).2.1 q)
   · by_cases q:b=c
     · exact ⟨o',_,q ▸ .head _,hd'⟩
     · refine x2_2 (V.C b hb) fun o₁ v₁ h1 h2=>?_
       exact ⟨o₁,v₁,hm _ h1 q,h2⟩
end
section
variable {C:Cfg} {S:Stat} {Φ:Fram} {m:Str→Option Value} {N N':Led} {ρ ρ':Rho} {mh mh':zax} {s:Shared} {α β γ δ:Type} {env:Env} {Γ:Gam} {l:Locs} {sc:Scope} {n:Nat}
theorem SOK.ext (V:SOK env Γ Φ m N ρ l) {h:Heap} (I:Inv C S Φ m N ρ mh h) (X:Ext N ρ mh N' ρ' mh') :SOK env Γ Φ m N' ρ' l:=⟨V.V.ext I X,V.C.ext I X⟩
theorem zdO:∀ {us:List MT} {vs:List MV} {l:Locs} {h:zax},us.length≠vs.length→zcP us vs l h= .stuck
 | [],[],_,_,h=>absurd rfl h
 | [],_ :: _,_,_,_=>rfl
 | .name i :: us,[],_,_,_=>rfl
 | .attr i a :: us,[],_,_,_=>rfl
 | .name i :: us,v :: vs,l,h,hl=>zdO (us:=us) (by simpa using hl)
 | .attr i a :: us,v :: vs,l,h,hl=>by
  show (match (l[i]?).join with | some o=>(zbE o a v h).toS l fun _ h=>zcP us vs l h | none=> .stuck)= _
  cases (l[i]?).join with
  | none=>rfl
  | some o=>
   show (zbE o a v h).toS l (fun _ h=>zcP us vs l h)= _
   unfold zbE
   split
   · split
     · split
       · exact zdO (by simpa using hl)
       · rfl
     · rfl
   · rfl
inductive TgtT (G:Gl) (Γ:Gam) :PySem.Expr→MT→Prop where
 | name {x:Str} {p:Pos} (i:Nat) (h:Γ.names.lookup x=some (some i)) :TgtT G Γ (.Name x p) (.name i)
 | attr {o a:Str} {po p:Pos} (i k:Nat) (h:Γ.names.lookup o=some (some i)) (ha:zew G a=some k) :TgtT G Γ (.Attribute (.Name o po) a p) (.attr i k)
theorem tgtT_of {G:Gl} {e:PySem.Expr} {u:MT} (h:targetT1 G Γ e=some u) :TgtT G Γ e u:=by
 cases e with
 | Name x p=>
  refine x1_2 (Option.map_eq_some_iff.mp h) ?_;rintro i hi rfl
  exact .name i (Option.join_eq_some_iff.mp hi)
 | Attribute o a p=>
  have h:(match zdW o with | some y=>(match (Γ.names.lookup y).join with | some i=>(zew G a).map (MT.attr i) | none=>none) | none=>none)=some u:=h
  cases hn:zdW o with
  | none=>rw [hn] at h;exact nofO h
  | some y=>
   have h':(match (Γ.names.lookup y).join with | some i=>(zew G a).map (MT.attr i) | none=>none)=some u:=by rw [hn] at h;exact h
   clear h
   refine x1_1 (zbO hn) ?_;rintro po rfl
   cases hi:(Γ.names.lookup y).join with
   | none=>rw [hi] at h';exact nofO h'
   | some i=>
    rw [hi] at h'
    refine x1_2 (Option.map_eq_some_iff.mp h') ?_;rintro k hk rfl
    exact .attr i k (Option.join_eq_some_iff.mp hi) hk
 | _=>exact nofO h
theorem TgtT.each {G:Gl} {e:PySem.Expr} {u:MT} (h:TgtT G Γ e u) (r:List PySem.Expr) :assignEach (e :: r) env=(false,assign e env) :: assignEach r env:=by
 cases h <;> rfl
theorem zbR {G:Gl} {env:Env} :∀ {es:List PySem.Expr} {us:List MT},zaW G Γ es=some us→(assignEach es env).length=us.length∧(assignEach es env).findIdx? (·.1)=none∧∀ e∈ es,∀ r,assignEach (e :: r) env=(false,assign e env) :: assignEach r env
 | [],us,h=>by cases h;exact ⟨rfl,rfl,fun e he=>by cases he⟩
 | e :: r,us,h=>by
  refine x2_3 (zcI h) ?_;rintro u ws h1 h2 rfl
  have ha:=fun r=>(tgtT_of h1).each (env:=env) r
  have ih:=zbR (env:=env) h2
  refine ⟨?_,?_,fun e' he'=>?_⟩
  · simp only [ha,List.length_cons,List.length_cons,ih.1]
  · rw [ha,List.findIdx?_cons]
    simp [ih.2.1]
  · rcases List.mem_cons.mp he' with rfl | he'
    · exact ha
    · exact ih.2.2 e' he'
theorem SimX.viaC {W:zaY Flow} {W2:Heap→Tok→zaY Flow} {r:SRes} {P:Heap→(Str→Option Value)→Led→Prop} {P2:Heap→(Str→Option Value)→Led→Prop} {P3:Heap→(Str→Option Value)→Led→Prop} {P4:Led→Prop}
 (go:∀ Q E,(∀ h' tk' m' N',P h' m' N'→P2 h' m' N'→P3 h' m' N'→P4 N'→W2 h' tk' Q E)→W Q E) (h:∀ h' tk' m' N',P h' m' N'→P2 h' m' N'→P3 h' m' N'→P4 N'→SimX C S Φ env Γ N ρ mh s (W2 h' tk') r) :SimX C S Φ env Γ N ρ mh s W r:=by
 cases r with
 | stuck=>trivial
 | nxt l mh=>exact fun Q E hQ=>go Q E fun h' tk m' N' a b c d=>h h' tk m' N' a b c d Q E hQ
 | ret v mh=>exact fun Q E hQ=>go Q E fun h' tk m' N' a b c d=>h h' tk m' N' a b c d Q E hQ
 | exc l mh=>exact fun Q E hQ=>go Q E fun h' tk m' N' a b c d=>h h' tk m' N' a b c d Q E hQ
theorem RepVs.mono_ (h:∀ v x,RepV N ρ v x→RepV N' ρ v x) :∀ {vs:List MV} {its:List Value},RepVs N ρ vs its→RepVs N' ρ vs its
 | [],_,r=>by exact r
 | v :: vs,_,r=>by
  refine x2_3 r ?_;(try clear r);intro z r e a b
  exact ⟨z,r,e,h _ _ a,RepVs.mono_ h b⟩
theorem zfx (Z:Sit C S) (F:FnEnv Φ env Γ sc) :∀ {es:List PySem.Expr} {us:List MT} {vs:List MV} {its:List Value} {l:Locs} {m:Str→Option Value} {N:Led} {ρ:Rho} {mh:zax} {s:Shared},zaW C.G Γ es=some us→Inv C S Φ m N ρ mh s.heap→SOK env Γ Φ m N ρ l→RepVs N ρ vs its→
 SimX C S Φ env Γ N ρ mh s (fun Q E=>wpAny S.M Φ.A (assignInOrder ((assignEach es env).map (·.2)) its) (fun _ s'=>Q .next s') E s) (zcP us vs l mh)
 | [],us,vs,its,l,m,N,ρ,mh,s,h,I,V,r=>by
  cases h
  cases vs with
  | nil=>
   simp only [RepVs] at r
   subst r
   exact fun Q E hQ=>wpAny_pure (hQ s.heap s.toks m N ρ I (ExtS.refl _ _ _ _) V)
  | cons _ _=>trivial
 | e :: es,us,[],its,l,m,N,ρ,mh,s,h,I,V,r=>by
  refine x2_3 (zcI h) ?_;rintro u ws h1 h2 rfl
  trivial
 | e :: es,us,v :: vs,its,l,m,N,ρ,mh,s,h,I,V,r=>by
  simp only [RepVs] at r
  refine x2_3 r ?_;(try clear r);rintro x its rfl rv rs
  refine x2_3 (zcI h) ?_;rintro u ts h1 hr rfl
  cases tgtT_of h1 with
  | @name y p i hi=>
   refine SimX.viaC (r:=zcP ts vs (l.set i (some v)) mh) (fun Q E q=>assignInOrder_cons (wpAny_assign_Name (zbA F I V hi rv fun h' tk' m' N' I' X' V' rep=>q h' tk' m' N' I' X' V' rep))) fun h' tk' m' N' I' X' V' rep=>
    SimX.after X' (zfx Z F (s:={s with heap:=h',toks:=tk'}) hr I' V' (RepVs.mono_ rep rs))
  | @attr o a po p i k hi ha=>
   refine x0_2 (zez ha) ?_;rintro hk rfl
   show SimX _ _ _ _ _ _ _ _ _ _ (match (l[i]?).join with | some o=>(zbE o k v mh).toS l fun _ h=>zcP ts vs l h | none=> .stuck)
   cases ho:(l[i]?).join with
   | none=>trivial
   | some ov=>
    refine x1_2 (V.V.var o i ov hi (Option.join_eq_some_iff.mp ho)) fun w Va rw_=>?_
    refine SimX.seqE (fun _ s₁ Q E=>wpAny S.M Φ.A (assignInOrder ((assignEach es env).map (·.2)) its) (fun _ s'=>Q .next s') E s₁) (zeP (s:=s) Z.at_ Z.cls I rw_ rv hk) (fun Q E q=>?_) fun _ mh' _ h' tk' N' ρ' I' X' _=>zfx Z F (s:={s with heap:=h',toks:=tk'}) hr I' (V.ext I X') (X'.rps I rs)
    refine assignInOrder_cons ?_
    show wpAny S.M Φ.A (assign (.Attribute (.Name o po) (C.atn k) p) env x) _ E s
    refine wpAny_bind (wpAny_holding (wpAny_Name (Va.load I F.E hi ?_) (F.E.names o _ hi).1))
    exact wpAny_bind (wpAny_standAt (wpAny_bind (wpAny_holding (wpAny_mono q (fun _ _ q₁=>wpAny_release q₁) fun _ _ z=>z))))
end
section
variable {C:Cfg} {S:Stat} {Φ:Fram} {m:Str→Option Value} {N N':Led} {ρ ρ':Rho} {mh mh':zax} {s:Shared} {α β γ δ:Type} {env:Env} {Γ:Gam} {l:Locs} {sc:Scope} {n:Nat}
theorem SimX.next {R1:Led→Rho→β→α→Prop} {t1:zaY α} {b:β} {mh1:zax} {r2:SRes} {W:zaY Flow}
 (W2:α→Shared→zaY Flow) (h1:Sim C S Φ m N ρ mh s R1 t1 (.ok b mh1)) (comb:∀ Q E,t1 (fun a s₁=>W2 a s₁ Q E) E→W Q E)
 (h2:∀ a h' tk' N' ρ',Inv C S Φ m N' ρ' mh1 h'→Ext N ρ mh N' ρ' mh1→R1 N' ρ' b a→SimX C S Φ env Γ N' ρ' mh1 {s with heap:=h',toks:=tk'} (W2 a {s with heap:=h',toks:=tk'}) r2) :
 SimX C S Φ env Γ N ρ mh s W r2:=by
 have key:∀ a h' tk' N' ρ',Inv C S Φ m N' ρ' mh1 h'→Ext N ρ mh N' ρ' mh1→R1 N' ρ' b a→SimX C S Φ env Γ N ρ mh s (W2 a {s with heap:=h',toks:=tk'}) r2:=
  fun a h' tk' N' ρ' I X r=>SimX.after (X.s _) (h2 a h' tk' N' ρ' I X r)
 cases r2 with
 | stuck=>trivial
 | nxt l' mh2=>exact fun Q E hQ=>comb Q E (h1 _ E fun a h' tk' N' ρ' I X r=>key a h' tk' N' ρ' I X r Q E hQ)
 | ret v mh2=>exact fun Q E hQ=>comb Q E (h1 _ E fun a h' tk' N' ρ' I X r=>key a h' tk' N' ρ' I X r Q E hQ)
 | exc l' mh2=>exact fun Q E hQ=>comb Q E (h1 _ E fun a h' tk' N' ρ' I X r=>key a h' tk' N' ρ' I X r Q E hQ)
noncomputable def SimS (C:Cfg) (S:Stat) (n:Nat) (sc:Scope) (st:PySem.Stmt) :Prop:=
 ∀ (Φ:Fram) (Γ:Gam) (env:Env) (l:Locs) (m:Str→Option Value) (N:Led) (ρ:Rho) (mh:zax) (s:Shared),Inv C S Φ m N ρ mh s.heap→Room Φ n→FnEnv Φ env Γ sc→SOK env Γ Φ m N ρ l→
  SimX C S Φ env Γ N ρ mh s (fun Q E=>wpAny S.M Φ.A (exec st env) Q E s) (zcR C.T (zay C.T C.fns n) (trS C.G Γ st) l mh)
noncomputable def SimB (C:Cfg) (S:Stat) (n:Nat) (sc:Scope) (b:List PySem.Stmt) :Prop:=
 ∀ (Φ:Fram) (Γ:Gam) (env:Env) (l:Locs) (m:Str→Option Value) (N:Led) (ρ:Rho) (mh:zax) (s:Shared),Inv C S Φ m N ρ mh s.heap→Room Φ n→FnEnv Φ env Γ sc→SOK env Γ Φ m N ρ l→
  SimX C S Φ env Γ N ρ mh s (fun Q E=>wpAny S.M Φ.A (execs b env) Q E s) (zaC C.T (zay C.T C.fns n) (trB C.G Γ b) l mh)
theorem SimX.slotM {W:zaY Flow} {q:Option (Option Nat)} {f:Nat→MS} (h:∀ i,q=some (some i)→SimX C S Φ env Γ N ρ mh s W (zcR C.T (zay C.T C.fns n) (f i) l mh)) :SimX C S Φ env Γ N ρ mh s W (zcR C.T (zay C.T C.fns n) (Mine.slotM q f) l mh):=by
 cases q with
 | none=>trivial
 | some q=>
  cases q with
  | none=>trivial
  | some i=>exact h i rfl
theorem SimX.onSome {α:Type} {W:zaY Flow} {q:Option α} {f:α→MS} (h:∀ i,q=some i→SimX C S Φ env Γ N ρ mh s W (zcR C.T (zay C.T C.fns n) (f i) l mh)) :SimX C S Φ env Γ N ρ mh s W (zcR C.T (zay C.T C.fns n) (Mine.onSome q f) l mh):=by
 cases q with
 | none=>trivial
 | some i=>exact h i rfl
theorem zeI {e:PySem.Expr} {x:MS} (h:zcL e) :zcZ x e=x:=by
 cases e <;> first | rfl | exact h.elim
theorem SimB.nil:SimB C S n sc []:=by
 intro Φ Γ env l m N ρ mh s I R F V
 exact fun Q E hQ=>wpAny_execs_nil (hQ s.heap s.toks m N ρ I (ExtS.refl _ _ _ _) V)
theorem SimB.cons {st:PySem.Stmt} {b:List PySem.Stmt} (h1:SimS C S n sc st) (h2:SimB C S n sc b) :SimB C S n sc (st :: b):=by
 intro Φ Γ env l m N ρ mh s I R F V
 exact SimX.bind (fun s' Q E=>wpAny S.M Φ.A (execs b env) Q E s') (h1 Φ Γ env l m N ρ mh s I R F V) (fun Q E q=>wpAny_execs_cons q) fun l' mh' h' tk' m' N' ρ' I' X V'=>h2 Φ Γ env l' m' N' ρ' mh' _ I' R F V'
noncomputable def swB (env:Env) (value:PySem.Expr) (t:Str) (pos:Pos) :Bool:=match value with
 | .ListComp _ _ s _ | .SetComp _ _ s _ | .DictComp _ _ _ s _=>env.blockKind == .function && env.kindOf t == some .local && pos.line == value.pos.line
  && !(s.names.any fun (n,k)=>n == t && (k == .local || k == .cell))
 | _=>false
theorem zeK (value:PySem.Expr) (t:Str) (pos:Pos) (line:Nat) (env:Env) :swapsWith value (some (.Name t pos)) line env=pure (swB env value t pos):=by
 cases value <;> rfl
theorem zbM {value t:PySem.Expr} {line:Nat} {env:Env} (h1:∀ a b c d,swapsWith (.ListComp a b c d) (some t) line env=pure false) (h2:∀ a b c d,swapsWith (.SetComp a b c d) (some t) line env=pure false) (h3:∀ a b c d e,swapsWith (.DictComp a b c d e) (some t) line env=pure false) :swapsWith value (some t) line env=pure false:=by
 cases value with
 | ListComp=>exact h1 _ _ _ _
 | SetComp=>exact h2 _ _ _ _
 | DictComp=>exact h3 _ _ _ _ _
 | _=>rfl
theorem SimS.asg {x:Str} {p pos:Pos} {e:PySem.Expr} (he:SimE C S n sc e) (Φ:Fram) (Γ:Gam) (env:Env) (l:Locs) (m:Str→Option Value) (N:Led) (ρ:Rho) (mh:zax) (s:Shared) (I:Inv C S Φ m N ρ mh s.heap) (R:Room Φ n) (F:FnEnv Φ env Γ sc) (V:SOK env Γ Φ m N ρ l)
 (hsw:swB env e x p=false) :SimX C S Φ env Γ N ρ mh s (fun Q E=>wpAny S.M Φ.A (exec (.Assign [.Name x p] e pos) env) Q E s) (zcR C.T (zay C.T C.fns n) (trS C.G Γ (.Assign [.Name x p] e pos)) l mh):=by
 refine SimX.slotM fun i hx=>?_
 refine SimX.seqE (fun v s₁ Q E=>wpAny S.M Φ.A (storeName env x v) (fun _=>Q .next) E s₁) (he Φ Γ env l m N ρ mh s I R F.E V.V) (fun Q E q=>wpAny_Assign_Name q (by rw [zeK,hsw])) fun v mh' a h' tk' N' ρ' I' X r=>?_
 exact fun Q E hQ=>zbA (s:={s with heap:=h',toks:=tk'}) F I' (V.ext I X) hx r fun h'' tk'' m'' N'' I'' X'' V'' _=>hQ h'' tk'' m'' N'' ρ' I'' X'' V''
theorem SimS.asgA (Z:Sit C S) {o e:PySem.Expr} {a:Str} {p pos:Pos} (ho:SimE C S n sc o) (he:SimE C S n sc e) :SimS C S n sc (.Assign [.Attribute o a p] e pos):=by
 intro Φ Γ env l m N ρ mh s I R F V
 refine SimX.onSome fun k ha=>?_
 · refine x0_2 (zez ha) ?_;rintro hk rfl
   refine SimX.seqE (fun v s₁ Q E=>wpAny S.M Φ.A (eval o env) (fun ov s₂=>wpAny S.M Φ.A (setAttr ov (C.atn k) v) (fun _=>Q .next) E s₂) E s₁) (he Φ Γ env l m N ρ mh s I R F.E V.V) (fun Q E q=>plainObj_wpAny_Assign_Attribute q (zbM (fun _ _ _ _=>rfl) (fun _ _ _ _=>rfl) fun _ _ _ _ _=>rfl)) fun v mh' x h' tk' N' ρ' I' X r=>?_
   refine SimX.seqE (fun ov s₂ Q E=>wpAny S.M Φ.A (setAttr ov (C.atn k) x) (fun _=>Q .next) E s₂) (ho Φ Γ env l m N' ρ' mh' _ I' R F.E (V.V.ext I X)) (fun Q E q=>q) fun ov mh'' y h'' tk'' N'' ρ'' I'' X' r'=>?_
   refine SimX.seqE (fun _ s₃ Q E=>Q .next s₃) (zeP (s:={s with heap:=h'',toks:=tk''}) Z.at_ Z.cls I'' r' (X'.rp I' r) hk) (fun Q E q=>q) fun _ mh3 _ h3 tk3 N3 ρ3 I3 X3 _=>?_
   exact fun Q E hQ=>hQ h3 tk3 m N3 ρ3 I3 (ExtS.refl _ _ _ _) (((V.ext I X).ext I' X').ext I'' X3)
theorem SimS.asgI {o i e:PySem.Expr} {p pos:Pos} (hs:zcL i) (ho:SimE C S n sc o) (hi:SimE C S n sc i) (he:SimE C S n sc e) :SimS C S n sc (.Assign [.Subscript o i p] e pos):=by
 intro Φ Γ env l m N ρ mh s I R F V
 show SimX _ _ _ _ _ _ _ _ _ _ (zcR _ _ (zcZ _ i) _ _)
 rw [zeI hs]
 refine SimX.seqE (fun v s₁ Q E=>wpAny S.M Φ.A (eval o env) (fun ov s₂=>wpAny S.M Φ.A (eval i env) (fun iv s₃=>wpAny S.M Φ.A (setItem ov iv v) (fun _=>Q .next) E s₃) E s₂) E s₁) (he Φ Γ env l m N ρ mh s I R F.E V.V) (fun Q E q=>wpAny_Assign_Subscript q (zbM (fun _ _ _ _=>rfl) (fun _ _ _ _=>rfl) fun _ _ _ _ _=>rfl)) fun v mh' x h' tk' N' ρ' I' X r=>?_
 refine SimX.seqE (fun ov s₂ Q E=>wpAny S.M Φ.A (eval i env) (fun iv s₃=>wpAny S.M Φ.A (setItem ov iv x) (fun _=>Q .next) E s₃) E s₂) (ho Φ Γ env l m N' ρ' mh' _ I' R F.E (V.V.ext I X)) (fun Q E q=>q) fun ov mh'' y h'' tk'' N'' ρ'' I'' X' r'=>?_
 refine SimX.seqE (fun iv s₃ Q E=>wpAny S.M Φ.A (setItem y iv x) (fun _=>Q .next) E s₃) (hi Φ Γ env l m N'' ρ'' mh'' _ I'' R F.E ((V.V.ext I X).ext I' X')) (fun Q E q=>q) fun iv mh3 z h3 tk3 N3 ρ3 I3 X3 r3=>?_
 refine SimX.seqE (fun _ s₃ Q E=>Q .next s₃) (sim_setItem (s:={s with heap:=h3,toks:=tk3}) I3 (X3.rp I'' r') r3 (X3.rp I'' (X'.rp I' r))) (fun Q E q=>q) fun _ mh4 _ h4 tk4 N4 ρ4 I4 X4 _=>?_
 exact fun Q E hQ=>hQ h4 tk4 m N4 ρ4 I4 (ExtS.refl _ _ _ _) ((((V.ext I X).ext I' X').ext I'' X3).ext I3 X4)
theorem opOf_add {op:Operator} (h:opOf op=some .add) :op= .Add:=by
 cases op <;> first | rfl | exact nofO h | exact noC MOp.ctorIdx (Option.some.inj h) rfl
theorem SimS.augA (Z:Sit C S) {o e:PySem.Expr} {a:Str} {op:Operator} {p pos:Pos} (ho:SimE C S n sc o) (he:SimE C S n sc e) :SimS C S n sc (.AugAssign (.Attribute o a p) op e pos):=by
 intro Φ Γ env l m N ρ mh s I R F V
 refine SimX.onSome fun k ha=>?_
 · refine x0_2 (zez ha) ?_;rintro hk rfl
   refine SimX.onSome fun mo hop=>?_
   ·
    refine SimX.seqE (fun ov s₁ Q E=>wpAny S.M Φ.A (getAttr ov (C.atn k) true) (fun old s₂=>wpAny S.M Φ.A (eval e env) (fun v s₃=>wpAny S.M Φ.A (inplaceOp op old v) (fun new s₄=>wpAny S.M Φ.A (setAttr ov (C.atn k) new) (fun _=>Q .next) E s₄) E s₃) E s₂) E s₁) (ho Φ Γ env l m N ρ mh s I R F.E V.V) (fun Q E q=>wpAny_AugAssign_AttributeAny q) fun v mh' x h' tk' N' ρ' I' X r=>?_
    refine SimX.seqE (fun old s₂ Q E=>wpAny S.M Φ.A (eval e env) (fun v s₃=>wpAny S.M Φ.A (inplaceOp op old v) (fun new s₄=>wpAny S.M Φ.A (setAttr x (C.atn k) new) (fun _=>Q .next) E s₄) E s₃) E s₂) (sim_attr (s:={s with heap:=h',toks:=tk'}) (expr:=true) Z.at_ Z.cls I' r hk) (fun Q E q=>q) fun w mh'' y h'' tk'' N'' ρ'' I'' X' r'=>?_
    refine SimX.seqE (fun v s₃ Q E=>wpAny S.M Φ.A (inplaceOp op y v) (fun new s₄=>wpAny S.M Φ.A (setAttr x (C.atn k) new) (fun _=>Q .next) E s₄) E s₃) (he Φ Γ env l m N'' ρ'' mh'' _ I'' R F.E ((V.V.ext I X).ext I' X')) (fun Q E q=>q) fun u mh3 z h3 tk3 N3 ρ3 I3 X3 r3=>?_
    cases mo with
    | add=>
     have:op= .Add:=opOf_add hop
     subst this
     cases w with
     | int i=>
      cases u with
      | int j=>
       refine x1_1 ((X3.rp I'' r').int_) ?_;rintro t rfl
       refine x1_1 r3.int_ ?_;rintro t' rfl
       dsimp only
       refine SimX.seqE (fun _ s₄ Q E=>Q .next s₄) (zeP (s:={s with heap:=h3,toks:=tk3 + 1}) Z.at_ Z.cls I3 (X3.rp I'' (X'.rp I' r)) (w:= .int (i + j)) (y:= .int (i + j) tk3) zbz hk) (fun Q E q=>iadd_int q) fun _ mh4 _ h4 tk4 N4 ρ4 I4 X4 _=>?_
       exact fun Q E hQ=>hQ h4 tk4 m N4 ρ4 I4 (ExtS.refl _ _ _ _) ((((V.ext I X).ext I' X').ext I'' X3).ext I3 X4)
      | _=>trivial
     | _=>trivial
    | _=>trivial
theorem SimS.augI {o i e:PySem.Expr} {op:Operator} {p pos:Pos} (hs:zcL i) (ho:SimE C S n sc o) (hi:SimE C S n sc i) (he:SimE C S n sc e) :SimS C S n sc (.AugAssign (.Subscript o i p) op e pos):=by
 intro Φ Γ env l m N ρ mh s I R F V
 refine SimX.onSome fun mo hop=>?_
 · rw [zeI hs]
   refine SimX.seqE (fun ov s₁ Q E=>wpAny S.M Φ.A (eval i env) (fun iv s₂=>wpAny S.M Φ.A (getItem ov iv) (fun old s₃=>wpAny S.M Φ.A (eval e env) (fun v s₄=>wpAny S.M Φ.A (inplaceOp op old v) (fun new s₅=>wpAny S.M Φ.A (setItem ov iv new) (fun _=>Q .next) E s₅) E s₄) E s₃) E s₂) E s₁) (ho Φ Γ env l m N ρ mh s I R F.E V.V)
    (fun Q E q=>wpAny_AugAssign_SubscriptAny q (fun ov iv new=>by cases i <;> first | rfl | exact hs.elim)) fun v mh' x h' tk' N' ρ' I' X r=>?_
   refine SimX.seqE (fun iv s₂ Q E=>wpAny S.M Φ.A (getItem x iv) (fun old s₃=>wpAny S.M Φ.A (eval e env) (fun v s₄=>wpAny S.M Φ.A (inplaceOp op old v) (fun new s₅=>wpAny S.M Φ.A (setItem x iv new) (fun _=>Q .next) E s₅) E s₄) E s₃) E s₂) (hi Φ Γ env l m N' ρ' mh' _ I' R F.E (V.V.ext I X)) (fun Q E q=>q) fun w mh'' y h'' tk'' N'' ρ'' I'' X' r'=>?_
   have hg:=sim_getItem (s:={s with heap:=h'',toks:=tk''}) I'' (X'.rp I' r) r'
   cases hit:itemR mh'' v w with
   | stuck=>trivial
   | exc _=>trivial
   | ok u mh3=>
   rw [hit] at hg
   refine SimX.next (fun old s₃ Q E=>wpAny S.M Φ.A (eval e env) (fun v s₄=>wpAny S.M Φ.A (inplaceOp op old v) (fun new s₅=>wpAny S.M Φ.A (setItem x y new) (fun _=>Q .next) E s₅) E s₄) E s₃) hg (fun Q E q=>q) fun z h3 tk3 N3 ρ3 I3 X3 r3=>?_
   refine SimX.seqE (fun v s₄ Q E=>wpAny S.M Φ.A (inplaceOp op z v) (fun new s₅=>wpAny S.M Φ.A (setItem x y new) (fun _=>Q .next) E s₅) E s₄) (he Φ Γ env l m N3 ρ3 mh3 _ I3 R F.E (((V.V.ext I X).ext I' X').ext I'' X3)) (fun Q E q=>q) fun u' mh4 z' h4 tk4 N4 ρ4 I4 X4 r4=>?_
   cases mo with
   | add=>
    have:op= .Add:=opOf_add hop
    subst this
    cases u with
    | int a=>
     cases u' with
     | int b=>
      refine x1_1 ((X4.rp I3 r3).int_) ?_;rintro t rfl
      refine x1_1 r4.int_ ?_;rintro t' rfl
      dsimp only
      refine SimX.seqE (fun _ s₄ Q E=>Q .next s₄) (sim_setItem (s:={s with heap:=h4,toks:=tk4 + 1}) I4 (X4.rp I3 (X3.rp I'' (X'.rp I' r))) (X4.rp I3 (X3.rp I'' r')) (u:= .int (a + b)) (z:= .int (a + b) tk4) zbz) (fun Q E q=>iadd_int q) fun _ mh5 _ h5 tk5 N5 ρ5 I5 X5 _=>?_
      exact fun Q E hQ=>hQ h5 tk5 m N5 ρ5 I5 (ExtS.refl _ _ _ _) (((((V.ext I X).ext I' X').ext I'' X3).ext I3 X4).ext I4 X5)
     | _=>trivial
    | _=>trivial
   | _=>trivial
noncomputable def notComp:PySem.Expr→Bool
 | .ListComp ..=>false
 | .SetComp ..=>false
 | .DictComp ..=>false
 | _=>true
theorem SimS.expr {e:PySem.Expr} {pos:Pos} (hc:notComp e=true) (he:SimE C S n sc e) :SimS C S n sc (.Expr e pos):=by
 intro Φ Γ env l m N ρ mh s I R F V
 refine SimX.seqE (fun v s₁ Q E=>Q .next s₁) (he Φ Γ env l m N ρ mh s I R F.E V.V) (fun Q E q=>?_) fun v mh' x h' tk' N' ρ' I' X r=>fun Q E hQ=>hQ h' tk' m N' ρ' I' (ExtS.refl _ _ _ _) (V.ext I X)
 have hi:interactive env=false:=by show (env.scope.kind == .module && _)=false;rw [F.E.kind];rfl
 have hs:swapsWith e none pos.line env=pure false:=by cases e <;> first | rfl | exact nofB hc
 show wpAny S.M Φ.A (exec (.Expr e pos) env) Q E s
 rw [exec_Expr env e pos hi hs]
 exact wpAny_bind (wpAny_standAt (wpAny_bind (wpAny_mono q (fun v s' h'=>wpAny_dropValue h') fun _ _ x=>x)))
theorem SimS.ret {e:PySem.Expr} {pos:Pos} (he:SimE C S n sc e) :SimS C S n sc (.Return (some e) pos):=by
 intro Φ Γ env l m N ρ mh s I R F V
 exact SimX.seqE (fun v s₁ Q E=>Q (.ret v) s₁) (he Φ Γ env l m N ρ mh s I R F.E V.V) (fun Q E q=>wpAny_Return_some q) fun v mh' x h' tk' N' ρ' I' X r=>fun Q E hQ=>hQ x h' tk' m N' ρ' I' (ExtS.refl _ _ _ _) r
theorem SimS.retN {pos:Pos} :SimS C S n sc (.Return none pos):=by
 intro Φ Γ env l m N ρ mh s I R F V
 exact fun Q E hQ=>wpAny_Return_none (hQ .none s.heap s.toks m N ρ I (ExtS.refl _ _ _ _) repNone)
theorem SimS.ite {t:PySem.Expr} {b o:List PySem.Stmt} {pos:Pos} (ht:SimT C S n sc t) (hb:SimB C S n sc b) (ho:SimB C S n sc o) :SimS C S n sc (.If t b o pos):=by
 intro Φ Γ env l m N ρ mh s I R F V
 have key:zcR C.T (zay C.T C.fns n) (trS C.G Γ (.If t b o pos)) l mh=(zcJ (zaw C.T (zay C.T C.fns n) (trE C.G Γ t) l mh)).toS l fun c h=>if c then zaC C.T (zay C.T C.fns n) (trB C.G Γ b) l h else zaC C.T (zay C.T C.fns n) (trB C.G Γ o) l h:=by
  show ((zaw C.T (zay C.T C.fns n) (trE C.G Γ t) l mh).toS l fun v h=>_)= _
  unfold zcJ
  cases zaw C.T (zay C.T C.fns n) (trE C.G Γ t) l mh with
  | stuck=>rfl
  | exc h=>rfl
  | ok v h=>
   simp only [Res.bind,Res.toS]
   cases zbI h v with
   | none=>rfl
   | some c=>cases c <;> rfl
 rw [key]
 refine SimX.seqE (fun c s₁ Q E=>if c then wpAny S.M Φ.A (execs b env) Q E s₁ else wpAny S.M Φ.A (execs o env) Q E s₁) (ht Φ Γ env l m N ρ mh s I R F.E V.V) (fun Q E q=>wpAny_If q) fun c mh' c' h' tk' N' ρ' I' X r=>?_
 have r':c=c':=r
 subst r'
 cases c with
 | true=>exact hb Φ Γ env l m N' ρ' mh' _ I' R F (V.ext I X)
 | false=>exact ho Φ Γ env l m N' ρ' mh' _ I' R F (V.ext I X)
end
noncomputable def oddSwap:PySem.Expr→Bool
 | .Tuple vs _ _=>vs.all (constantsAlone 8) && !(vs.all (foldedForSure 8))
 | _=>false
section
variable {C:Cfg} {S:Stat} {Φ:Fram} {m:Str→Option Value} {N N':Led} {ρ ρ':Rho} {mh mh':zax} {s:Shared} {α β γ δ:Type} {env:Env} {Γ:Gam} {l:Locs} {sc:Scope} {n:Nat}
theorem zdU {f:PySem.Expr→Option Str} (hf:∀ e x,f e=some x→zdW e=some x∧env.kindOf x=some .local) :∀ {ts:List PySem.Expr},(ts.filterMap f).length=ts.length→zaI ts=some (ts.filterMap f)∧∀ x∈ ts.filterMap f,env.kindOf x=some .local
 | [],_=>⟨rfl,fun x hx=>by cases hx⟩
 | t :: r,h=>by
  cases ht:f t with
  | none=>
   rw [List.filterMap_cons_none ht] at h
   have:=List.length_filterMap_le f r
   simp at h
   lia
  | some x=>
   rw [List.filterMap_cons_some ht] at h ⊢
   refine x0_2 (hf _ _ ht) fun a b=>?_
   refine x0_2 (zdU hf (ts:=r) (by simpa using h)) fun c d=>?_
   refine ⟨by unfold zaI;rw [a,c];rfl,fun y hy=>?_⟩
   rcases List.mem_cons.mp hy with rfl | hy
   · exact b
   · exact d y hy
theorem dups_two {a b:Str} (h:[a,b].eraseDups.length=2) :a≠b:=by
 rintro rfl
 simp [List.eraseDups_cons] at h
theorem dups_three {a b c:Str} (h:[a,b,c].eraseDups.length=3) :a≠b∧a≠c∧b≠c:=by
 by_cases h1:b=a
 · subst h1
   simp only [List.eraseDups_cons,List.filter_cons,beq_self_eq_true,Bool.not_true,Bool.false_eq_true,if_false,List.filter_nil,List.length_cons] at h
   by_cases h2:c=b
   · subst h2
     simp [List.eraseDups_cons] at h
   · simp [List.eraseDups_cons,h2] at h
 · by_cases h2:c=a
   · subst h2
     simp [List.eraseDups_cons,h1] at h
   · by_cases h3:c=b
     · subst h3
       simp [List.eraseDups_cons,h1] at h
     · exact ⟨Ne.symm h1,Ne.symm h2,Ne.symm h3⟩
theorem five {α:Type} {a b c d e:Prop} [Decidable a] [Decidable b] [Decidable c] [Decidable d] [Decidable e] {n x u y:α} (hy:y=if a then n else if b then n else if c then n else if d then n else if e then u else x) (he:e→d) :y=n∨y=x∧¬ a∧¬ c:=by
 by_cases h1:a
 · exact .inl (hy.trans (if_pos h1))
 rw [if_neg h1] at hy
 by_cases h2:b
 · exact .inl (hy.trans (if_pos h2))
 rw [if_neg h2] at hy
 by_cases h3:c
 · exact .inl (hy.trans (if_pos h3))
 rw [if_neg h3] at hy
 by_cases h4:d
 · exact .inl (hy.trans (if_pos h4))
 rw [if_neg h4,if_neg fun z=>h4 (he z)] at hy
 exact .inr ⟨hy,h1,h3⟩
theorem notF {a:Bool} (h:(!a)=false) :a=true:=by cases a <;> first | rfl | exact nofB h.symm
theorem orF {a b:Bool} (h:¬ (a || b)=true) :a=false∧b=false:=Bool.or_eq_false_iff.mp (Bool.eq_false_iff.mpr h)
theorem neF {a b:Nat} (h:(a != b)=false) :a=b:=beq_iff_eq.mp (notF h)
theorem swapped_cases {ts:List PySem.Expr} {k:Nat} {p:Pos} {e:PySem.Expr} (ho:oddSwap e=false) :swappedStores [.Tuple ts k p] e env=pure none∨
 ∃ names,swappedStores [.Tuple ts k p] e env=pure (some names)∧zaI ts=some names∧(∀ x∈ names,env.kindOf x=some .local)∧(names.length=2∨names.length=3)∧names.eraseDups.length=names.length:=by
 cases e with
 | Tuple vs k' p'=>
  have he:vs.all (constantsAlone 8)=true→vs.all (foldedForSure 8)=true:=fun h5=>by
   have ho:(vs.all (constantsAlone 8) && !(vs.all (foldedForSure 8)))=false:=ho
   rw [h5] at ho
   exact notF ho
  refine (five (y:=swappedStores [.Tuple ts k p] (.Tuple vs k' p') env) rfl he).imp (fun h=>h) fun h=>?_
  refine x0_3 h fun h0 h1 h3=>?_
  refine x0_2 (orF h3) fun h31 h32=>?_
  have h31:=neF h31
  have key:=fun hf=>zdU (env:=env) hf (ts:=ts) h31
  have hf:=key (fun e x h=>by
   cases e with
   | Name id pos=>
    have h:(if (env.kindOf id == some .local && pos.line == _)=true then some id else none)=some x:=h
    by_cases q:(env.kindOf id == some .local && pos.line == ((ts.head?.map (·.pos.line)).getD 0))=true
    · rw [if_pos q] at h
      (refine sy1 (Option.some.inj h) ?_;clear h;intro zq;subst zq)
      exact ⟨rfl,beq_iff_eq.mp (Bool.and_eq_true_iff.mp q).1⟩
    · rw [if_neg q] at h;exact nofO h
   | _=>exact nofO h)
  refine ⟨_,h0,hf.1,hf.2,?_,neF h32⟩
  rw [h31]
  exact (Bool.or_eq_true_iff.mp (notF (orF (Bool.eq_false_iff.mp (orF h1).1)).1)).imp beq_iff_eq.mp beq_iff_eq.mp
 | _=>exact .inl rfl
theorem Inv.isTup {h:Heap} (I:Inv C S Φ m N ρ mh h) {a:Addr} {its:Array Value} {k:Nat} (hm:(a,zaU its k)∈ N) :IsTup h a its:=⟨_,I.at hm,rfl,k,rfl⟩
theorem slot_of_target {G:Gl} {x:Str} {p:Pos} {es:List PySem.Expr} {us:List MT} (h:zaW G Γ (.Name x p :: es)=some us) :∃ i ws,Γ.names.lookup x=some (some i)∧zaW G Γ es=some ws∧us= .name i :: ws:=by
 refine x2_3 (zcI h) ?_;rintro u ws h1 h2 rfl
 cases tgtT_of h1 with
 | name i hi=>exact ⟨i,ws,hi,h2,rfl⟩
theorem namesOfE_nil {r:List PySem.Expr} (h:zaI r=some []) :r= []:=by
 cases r with
 | nil=>rfl
 | cons e r=>(refine x3_3 (zbF h) fun _ _ _ _ _ e=>?_);exact noC List.ctorIdx e rfl
theorem namesOfE_inv {ts:List PySem.Expr} {x:Str} {ys:List Str} (h:zaI ts=some (x :: ys)) :∃ p r,ts= .Name x p :: r∧zaI r=some ys:=by
 cases ts with
 | nil=>cases h
 | cons e r=>
  refine x3_3 (zbF h) ?_;rintro x' p ys' rfl h2 e
  (refine sy2 (List.cons.inj e) ?_;clear e;intro zq zr;subst zq;subst zr)
  exact ⟨p,r,rfl,h2⟩
theorem two_l {α:Type} {l:List α} (h:l.length=2) :∃ a b,l= [a,b]:=by
 cases l with
 | nil=>exact noC (fun n:Nat=>n) h rfl
 | cons a r=>cases r with
  | nil=>exact noC (fun n:Nat=>n) h rfl
  | cons b r=>cases r with
   | nil=>exact ⟨a,b,rfl⟩
   | cons c r=>exact absurd h (by simp)
theorem three_l {α:Type} {l:List α} (h:l.length=3) :∃ a b c,l= [a,b,c]:=by
 cases l with
 | nil=>exact noC (fun n:Nat=>n) h rfl
 | cons a r=>refine x2_1 (two_l (Nat.succ.inj h)) ?_;rintro b c rfl;exact ⟨a,b,c,rfl⟩
section
variable {G:Gl} {ts:List PySem.Expr} {us:List MT}
theorem slot_step {x:Str} {ys:List Str} (hn:zaI ts=some (x :: ys)) (hu:zaW G Γ ts=some us) :∃ i r ws,Γ.names.lookup x=some (some i)∧us= .name i :: ws∧zaI r=some ys∧zaW G Γ r=some ws:=by
 refine x2_2 (namesOfE_inv hn) ?_;rintro p r rfl h
 exact x2_3 (slot_of_target hu) fun i ws h1 h2 h3=>⟨i,r,ws,h1,h3,h,h2⟩
theorem slot_end (hn:zaI ts=some []) (hu:zaW G Γ ts=some us) :us= []:=by
 rw [namesOfE_nil hn] at hu
 exact (Option.some.inj hu).symm
theorem slots2 {a b:Str} (hn:zaI ts=some [a,b]) (hu:zaW G Γ ts=some us) :∃ i j,us= [.name i,.name j]∧Γ.names.lookup a=some (some i)∧Γ.names.lookup b=some (some j):=by
 refine x3_4 (slot_step hn hu) fun i r ws h1 h2 h3 h4=>?_
 refine x3_4 (slot_step h3 h4) fun j r' ws' g1 g2 g3 g4=>?_
 exact ⟨i,j,by rw [h2,g2,slot_end g3 g4],h1,g1⟩
theorem slots3 {a b c:Str} (hn:zaI ts=some [a,b,c]) (hu:zaW G Γ ts=some us) :∃ i j k,us= [.name i,.name j,.name k]∧Γ.names.lookup a=some (some i)∧Γ.names.lookup b=some (some j)∧Γ.names.lookup c=some (some k):=by
 refine x3_4 (slot_step hn hu) fun i r ws h1 h2 h3 h4=>?_
 refine x2_3 (slots2 h3 h4) fun j k g2 g1 g3=>?_
 exact ⟨i,j,k,by rw [h2,g2],h1,g1,g3⟩
end
theorem sub4 {A B C D:Sort _} {P:A→B→C→D→Prop} {a a':A} {b b':B} {c c':C} {d d':D} (e1:a=a') (e2:b=b') (e3:c=c') (e4:d=d') (h:P a' b' c' d') :P a b c d:=by
 subst e1 e2 e3 e4;exact h
theorem RepVs.three_ {v1 v2 v3:MV} {xs:List Value} (r:RepVs N ρ [v1,v2,v3] xs) :∃ x1 x2 x3,xs= [x1,x2,x3]∧RepV N ρ v1 x1∧RepV N ρ v2 x2∧RepV N ρ v3 x3:=by
 simp only [RepVs] at r
 obtain ⟨x1,r0,rfl,r1,x2,r0',rfl,r2,x3,r0'',rfl,r3,rfl⟩:=r
 exact ⟨_,_,_,rfl,r1,r2,r3⟩
theorem sim_swap (F:FnEnv Φ env Γ sc) {ts:List PySem.Expr} {names:List Str} (hn:zaI ts=some names) (hl:names.length=2∨names.length=3) (hd:names.eraseDups.length=names.length) {us:List MT} (hu:zaW C.G Γ ts=some us) {vs:List MV} {its:List Value}
 (I:Inv C S Φ m N ρ mh s.heap) (V:SOK env Γ Φ m N ρ l) (r:RepVs N ρ vs its) (hlen:vs.length=names.length) :
 SimX C S Φ env Γ N ρ mh s (fun Q E=>wpAny S.M Φ.A (assignInOrder (names.reverse.map fun n=>bindName env n) its.reverse) (fun _ s'=>Q .next s') E s) (zcP us vs l mh):=by
 rcases hl with hk | hk
 · refine x2_1 (two_l hk) fun a b e1=>?_
   refine x2_3 (slots2 (hn.trans (congrArg some e1)) hu) fun ia ib e2 ha hb=>?_
   refine x2_1 (two_l (hlen.trans hk)) fun v1 v2 e3=>?_
   refine x2_3 (show RepVs N ρ [v1,v2] its by rw [← e3];exact r).two_ fun x1 x2 e4 r1 r2=>?_
   have hab:=dups_two (show [a,b].eraseDups.length=2 by rw [← e1];exact hd.trans hk)
   refine sub4 (P:=fun (names:List Str) us vs its=>SimX C S Φ env Γ N ρ mh s (fun Q E=>wpAny S.M Φ.A (assignInOrder (names.reverse.map fun n=>bindName env n) (List.reverse its)) (fun _ s'=>Q .next s') E s) (zcP us vs l mh)) e1 e2 e3 e4 ?_
   show SimX _ _ _ _ _ _ _ _ _ _ (.nxt ((l.set ia (some v1)).set ib (some v2)) mh)
   rw [List.set_comm _ _ (fun q:ia=ib=>hab (F.inj _ _ _ ha (q ▸ hb)))]
   exact fun Q E hQ=>assignInOrder_cons (wpAny_bindName (zbA F I V hb r2 fun h' tk' m' N' I' X' V' rep=>assignInOrder_cons (wpAny_bindName (zbA (s:={s with heap:=h',toks:=tk'}) F I' V' ha (rep _ _ r1) fun h'' tk'' m'' N'' I'' X'' V'' _=>wpAny_pure (hQ h'' tk'' m'' N'' ρ I'' (X'.trans X'') V'')))))
 · refine x3_1 (three_l hk) fun a b c e1=>?_
   refine x3_4 (slots3 (hn.trans (congrArg some e1)) hu) fun ia ib ic e2 ha hb hc=>?_
   refine x3_1 (three_l (hlen.trans hk)) fun v1 v2 v3 e3=>?_
   refine x3_4 (show RepVs N ρ [v1,v2,v3] its by rw [← e3];exact r).three_ fun x1 x2 x3 e4 r1 r2 r3=>?_
   refine x0_3 (dups_three (show [a,b,c].eraseDups.length=3 by rw [← e1];exact hd.trans hk)) fun hab hac hbc=>?_
   refine sub4 (P:=fun (names:List Str) us vs its=>SimX C S Φ env Γ N ρ mh s (fun Q E=>wpAny S.M Φ.A (assignInOrder (names.reverse.map fun n=>bindName env n) (List.reverse its)) (fun _ s'=>Q .next s') E s) (zcP us vs l mh)) e1 e2 e3 e4 ?_
   show SimX _ _ _ _ _ _ _ _ _ _ (.nxt (((l.set ia (some v1)).set ib (some v2)).set ic (some v3)) mh)
   rw [List.set_comm _ _ (fun q:ia=ib=>hab (F.inj _ _ _ ha (q ▸ hb))),List.set_comm _ _ (fun q:ia=ic=>hac (F.inj _ _ _ ha (q ▸ hc))),List.set_comm _ _ (fun q:ib=ic=>hbc (F.inj _ _ _ hb (q ▸ hc)))]
   exact fun Q E hQ=>assignInOrder_cons (wpAny_bindName (zbA F I V hc r3 fun h' tk' m' N' I' X' V' rep=>assignInOrder_cons (wpAny_bindName (zbA (s:={s with heap:=h',toks:=tk'}) F I' V' hb (rep _ _ r2) fun h'' tk'' m'' N'' I'' X'' V'' rep'=>
    assignInOrder_cons (wpAny_bindName (zbA (s:={s with heap:=h'',toks:=tk''}) F I'' V'' ha (rep' _ _ (rep _ _ r1)) fun h3 tk3 m3 N3 I3 X3 V3 _=>wpAny_pure (hQ h3 tk3 m3 N3 ρ I3 ((X'.trans X'').trans X3) V3)))))))
theorem zdV:∀ {ts:List PySem.Expr} {xs:List Str},zaI ts=some xs→ts.length=xs.length
 | [],xs,h=>by cases h;rfl
 | e :: r,xs,h=>by
  refine x3_3 (zbF h) ?_;rintro x p ys _ hr rfl
  simp [zdV hr]
theorem zdK {G:Gl} :∀ {ts:List PySem.Expr} {us:List MT},zaW G Γ ts=some us→us.length=ts.length
 | [],us,h=>by cases h;rfl
 | e :: r,us,h=>by
  refine x2_3 (zcI h) ?_;rintro u ws h1 h2 rfl
  exact congrArg (· + 1) (zdK h2)
theorem SimX.go {P:Heap→Prop} {W:Heap→zaY Flow} {W':zaY Flow} {r:SRes} (key:∀ h₁,P h₁→SimX C S Φ env Γ N ρ mh s (W h₁) r) (go:∀ (Q:Flow→Shared→Prop) (E:Value→Shared→Prop),(∀ h₁,P h₁→W h₁ Q E)→W' Q E) :SimX C S Φ env Γ N ρ mh s W' r:=by
 cases r with
 | stuck=>trivial
 | _=>exact fun Q E hQ=>go Q E fun h₁ k=>key h₁ k Q E hQ
theorem SimS.asgT (Z:Sit C S) {ts:List PySem.Expr} {k:Nat} {p pos:Pos} {e:PySem.Expr} (he:SimE C S n sc e) (ho:oddSwap e=false) :SimS C S n sc (.Assign [.Tuple ts k p] e pos):=by
 intro Φ Γ env l m N ρ mh s I R F V
 refine SimX.onSome fun us hu=>?_
 · have hs:swapsWithSole [.Tuple ts k p] e pos.line env=pure false:=zbM (value:=e) (t:= .Tuple ts k p) (line:=pos.line) (env:=env) (fun _ _ _ _=>rfl) (fun _ _ _ _=>rfl) fun _ _ _ _ _=>rfl
   have hul:=zdK hu
   rcases swapped_cases (env:=env) (ts:=ts) (k:=k) (p:=p) ho with hw | ⟨names,hw,h1,h2,h3,h4⟩
   · refine SimX.seqE (fun a s₁ Q E=>wpAny S.M Φ.A (assign (.Tuple ts k p) env a) (fun _=>Q .next) E s₁) (he Φ Γ env l m N ρ mh s I R F.E V.V) (fun Q E q=>Assign_Tuple q hs hw) fun v mh' x h' tk' N' ρ' I' X r=>?_
     cases v with
     | tup vs=>
      by_cases hlen:us.length=vs.length
      · refine x3_4 r.tup_ ?_;rintro T its nn rfl hm hr hl
        refine x0_3 (zbR (env:=env) hu) fun a1 a2 _=>?_
        have key:∀ h₁,(∀ b o,h'.get? b=some o→h₁.get? b=some o)→SimX C S Φ env Γ N' ρ' mh' {s with heap:=h',toks:=tk'} (fun Q E=>wpAny S.M Φ.A (assignInOrder ((assignEach ts env).map (·.2)) its) (fun _ s'=>Q .next s') E {s with heap:=h₁,toks:=tk'}) (zcP us vs l mh'):=
         fun h₁ k=>SimX.after (ExtS.refl _ _ _ _) (zfx (s:={s with heap:=h₁,toks:=tk'}) Z F hu (I'.onto k) (V.ext I X) hr)
        have go:∀ (Q:Flow→Shared→Prop) (E:Value→Shared→Prop),(∀ h₁,(∀ b o,h'.get? b=some o→h₁.get? b=some o)→wpAny S.M Φ.A (assignInOrder ((assignEach ts env).map (·.2)) its) (fun _ s'=>Q .next s') E {s with heap:=h₁,toks:=tk'})→wpAny S.M Φ.A (assign (.Tuple ts k p) env (.ref T)) (fun _=>Q .next) E {s with heap:=h',toks:=tk'}:=fun Q E q=>
         assign_Tuple_tuple I'.hh (I'.isTup hm) (by rw [a1,List.size_toArray,hr.length,hlen]) a2 fun h₁ he=>q h₁ fun b o e=>he b o (Nat.ne_of_lt (Heap.lt_size e)) e
        exact SimX.go key go
      · show SimX _ _ _ _ _ _ _ _ _ _ (zcP us vs l mh');rw [zdO hlen];trivial
     | _=>trivial
   · refine SimX.seqE (fun v s₁ Q E=>wpAny S.M Φ.A (unpackItems v names.length none) (fun items s₂=>wpAny S.M Φ.A (assignInOrder (names.reverse.map fun n=>bindName env n) items.reverse) (fun _=>Q .next) E s₂) E s₁) (he Φ Γ env l m N ρ mh s I R F.E V.V) (fun Q E q=>Assign_Tuple_swapped q hs hw) fun v mh' x h' tk' N' ρ' I' X r=>?_
     cases v with
     | tup vs=>
      by_cases hlen:us.length=vs.length
      · refine x3_4 r.tup_ ?_;rintro T its nn rfl hm hr hl
        have hnl:vs.length=names.length:=by rw [← hlen,hul,zdV h1]
        have key:∀ h₁,(∀ b o,h'.get? b=some o→h₁.get? b=some o)→SimX C S Φ env Γ N' ρ' mh' {s with heap:=h',toks:=tk'} (fun Q E=>wpAny S.M Φ.A (assignInOrder (names.reverse.map fun n=>bindName env n) its.reverse) (fun _ s'=>Q .next s') E {s with heap:=h₁,toks:=tk'}) (zcP us vs l mh'):=
         fun h₁ k=>SimX.after (ExtS.refl _ _ _ _) (sim_swap (s:={s with heap:=h₁,toks:=tk'}) F h1 h3 h4 hu (I'.onto k) (V.ext I X) hr hnl)
        have go:∀ (Q:Flow→Shared→Prop) (E:Value→Shared→Prop),(∀ h₁,(∀ b o,h'.get? b=some o→h₁.get? b=some o)→wpAny S.M Φ.A (assignInOrder (names.reverse.map fun n=>bindName env n) its.reverse) (fun _ s'=>Q .next s') E {s with heap:=h₁,toks:=tk'})→
         wpAny S.M Φ.A (unpackItems (.ref T) names.length none) (fun items s₂=>wpAny S.M Φ.A (assignInOrder (names.reverse.map fun n=>bindName env n) items.reverse) (fun _=>Q .next) E s₂) E {s with heap:=h',toks:=tk'}:=fun Q E q=>by
         have e:names.length=its.toArray.size:=by rw [List.size_toArray,hr.length,hnl]
         rw [e]
         exact unpackItems_tuple I'.hh (I'.isTup hm) fun h₁ he=>q h₁ fun b o e=>he b o (Nat.ne_of_lt (Heap.lt_size e)) e
        exact SimX.go key go
      · show SimX _ _ _ _ _ _ _ _ _ _ (zcP us vs l mh');rw [zdO hlen];trivial
     | _=>trivial
end
section
variable {C:Cfg} {S:Stat} {n:Nat} {sc sc':Scope}
theorem strip_comm (a b:List Addr) (N:Led) :strip a (strip b N)=strip b (strip a N):=by
 unfold strip
 rw [List.filter_filter,List.filter_filter]
 congr 1
 funext p
 exact Bool.and_comm _ _
theorem strip_cons_off {bs:List Addr} {p:Addr × Obj} {N:Led} (h:p.1 ∉ bs) :strip bs (p :: N)=p :: strip bs N:=by
 unfold strip
 rw [List.filter_cons_of_pos]
 simpa using h
theorem SOK.strip {Φ:Fram} {Γ:Gam} {env:Env} {l:Locs} {m:Str→Option Value} {N:Led} {ρ:Rho} {wr:List Addr} (F:FnEnv Φ env Γ sc) {mh:zax} {h:Heap} (I:Inv C S Φ m N ρ mh h) (V:SOK env Γ Φ m N ρ l)
 (hw:∀ p∈ N,p.1∈ wr→(∀ v,p.2.data≠.cell v)∧∀ its n,p.2≠zaU its n) :SOK env Γ Φ m (strip wr N) ρ l where
 V:=⟨V.V.len,fun x i mv h1 h2=>by
  refine x1_2 (V.V.var x i mv h1 h2) fun v a b=>?_
  refine ⟨v,?_,b.strip fun p hp q=>(hw p hp q).2⟩
  cases a with
  | loc a1 a2 a3=>exact .loc a1 a2 a3
  | cell c o a1 a2 a3 a4=>exact .cell c o a1 a2 (mem_strip.mpr ⟨a3,fun q=>(hw _ a3 q).1 _ a4⟩) a4
  | free c o a1 a2 a3 a4=>exact .free c o a1 a2 (mem_strip.mpr ⟨a3,fun q=>(hw _ a3 q).1 _ a4⟩) a4
  | own o m₂ a1 a2 a3 a4 a5=>exact absurd F.loc (fun q=>I.neL a2 q)⟩
 C:=fun b hb=>let ⟨o,v,h1,h2⟩:=V.C b hb;⟨o,v,mem_strip.mpr ⟨h1,fun q=>(hw _ h1 q).1 _ h2⟩,h2⟩
set_option tactic.hygienic true in
theorem sim_compUse {t it elt:PySem.Expr} {ifs:List PySem.Expr} {pos spos py:Pos} {nt:Nat} {ts:List Str} {cond:Gam→Locs→zax→Res MV} {tp:Bool} {y:Str} {i:Nat}
 (ht:zbx t=some (nt,ts)) (htp:tp=decide (nt≠0)) (KS:ScOK sc ts sc') (hset:notSet it=true) (hit:SimIter C S n sc t tp it) (hc:SimC C S n ifs cond) (he:SimE C S n zcD elt)
 {Φ:Fram} {Γ:Gam} {env:Env} {l:Locs} {m:Str→Option Value} {N:Led} {ρ:Rho} {mh:zax} {s:Shared} (I:Inv C S Φ m N ρ mh s.heap) (R:Room Φ n) (F:FnEnv Φ env Γ sc) (V:SOK env Γ Φ m N ρ l)
 (hsw:swapsWith (.ListComp elt [⟨t,it,ifs,0⟩] sc' pos) (some (.Name y py)) spos.line env=pure true) (hy:Γ.names.lookup y=some (some i)) :
 SimX C S Φ env Γ N ρ mh s (fun Q E=>wpAny S.M Φ.A (exec (.Assign [.Name y py] (.ListComp elt [⟨t,it,ifs,0⟩] sc' pos) spos) env) Q E s)
  (((iterR C n tp Γ it l mh).bind fun src h=>(zaN src nt (cond (zaP Γ ts sc')) (zaw C.T (zay C.T C.fns n) (trE C.G (zaP Γ ts sc') elt)) l (zbN src h) 0 [] h).bind fun vs h=>zaR vs h).toS l fun v h=> .nxt (l.set i (some v)) h):=by
 have E₀:=F.E
 have hi:=hit Φ Γ env l m N ρ mh s I R E₀ V.V [] (fun b hb=>by cases hb)
 have rule:∀ (Q:Flow→Shared→Prop) (E:Value→Shared→Prop),wpAny S.M Φ.A (eval it env) (fun x s₁=>wpAny S.M Φ.A (pyIter x) (fun J s₂=>wpAny S.M Φ.A (newList []) (fun acc s₃=>
  wpAny S.M Φ.A (newFunctionEnv sc' env.globals (clOf env sc'.names []) [] env.qual none .none (some env)) (fun cenv s₄=>
   codeAny S.M Φ.A (.compStart (.ListComp elt [⟨t,it,ifs,0⟩] sc' pos) 0 J acc {cenv with scope:=relabel sc' env}) (compPost S.M Φ.A E (some (assign (.Name y py) env)) (fun _ s'=>Q .next s') acc cenv.locals) s₄) E s₃) E s₂) E s₁) E s→
  wpAny S.M Φ.A (exec (.Assign [.Name y py] (.ListComp elt [⟨t,it,ifs,0⟩] sc' pos) spos) env) Q E s:=by
  intro Q E h
  rw [exec_Assign_Name_used _ _ _ _ hsw]
  refine wpAny_bind (wpAny_standAt (wpAny_bind ?_))
  show wpAny S.M Φ.A (do let _ ← comprehension (.ListComp elt [⟨t,it,ifs,0⟩] sc' pos) sc' env _ (newList []) false (eval it env) (some (assign (.Name y py) env))) _ _ s
  exact wpAny_bind (wpAny_mono (wpAny_comprehension_free (use:=some (assign (.Name y py) env)) (Q:=fun _ s'=>Q .next s') rfl (zdT hset env) (closure_eq fun y hy e=>(E₀.cells y.1 (KS.free y hy e)).2) KS.kind (fun y hy e=>by rw [KS.look y hy,e]) h)
   (fun _ s' hq=>wpAny_pure (wpAny_pure hq)) fun _ _ e=>e)
 cases hr:iterR C n tp Γ it l mh with
 | stuck=>trivial
 | exc mh'=>rw [hr] at hi;exact fun Q E hE=>rule Q E (hi _ E fun e h' tk' f=>hE e h' tk' (flies_s f))
 | ok src mh₁=>
  rw [hr] at hi
  simp only [Res.bind]
  cases hg:zaN src nt (cond (zaP Γ ts sc')) (zaw C.T (zay C.T C.fns n) (trE C.G (zaP Γ ts sc') elt)) l (zbN src mh₁) 0 [] mh₁ with
  | stuck=>trivial
  | exc h=>exact absurd hg (zeG _ _ _ _ _)
  | ok vs mhE=>
   simp only [zaR]
   split
   · rename_i hlen
     intro Q E hQ
     refine rule Q E (hi _ E fun J h' tk' N' ρ' X g=>?_)
     have I':=g.1
     have V':=V.ext I X
     refine comp_core (s₂:={s with heap:=h',toks:=tk'}) (RR:=fun acc Cn=>compPost S.M Φ.A E (some (assign (.Name y py) env)) (fun _ s'=>Q .next s') acc Cn) ht htp KS hc he R E₀ V'.V g hg fun D Cn h₂ tk₂ N₂ ρ₂ ys m' I₂ X₂ rys hys hD₂ hC₂ off hDC d1 d2 d3 d4=>?_
     have V₂:=V'.ext I' X₂
     show wpAny S.M Φ.A (assign (.Name y py) env (.ref D)) _ E _
     refine x0_3 (comp_new I₂ rys hys hD₂ off hDC d1 d2 d3 d4 (Heap.SameBut.refl _ _)) fun I₃ X₃ r₃=>?_
     refine x1_2 (LCg.ns_obj hC₂) fun oC heC hoC=>?_
     have hCb:Cn ∉ bsOf env:=fun hb=>by
      refine x2_2 (V₂.C Cn hb) fun o v h1 _=>?_
      exact (off _ h1).2 rfl
     have V₃:=V₂.ext I₂ X₃
     generalize hN₃:(D,listOf ys.toArray ys.length) :: N₂=N₃ at I₃ X₃ r₃ V₃
     generalize hρ₃:ρ₂ ++ [(D,D)]=ρ₃ at I₃ X₃ r₃ V₃
     have hCN:∀ p∈ N₃,p.1≠Cn:=fun p hp q=>by
      rw [← hN₃] at hp
      rcases List.mem_cons.mp hp with rfl | hp
      · exact hDC q
      · exact (off p hp).2 q
     have hCr:¬ zbS ρ₃ Cn:=I₃.new_off hCN d4
     have I₅:Inv C S Φ m ((Cn,oC) :: N₃) ρ₃ (mhE ++ [.list vs 0]) h₂:=I₃.more (fun p hp=>by
      rcases List.mem_cons.mp hp with rfl | hp
      · exact ⟨heC,d2,d4⟩
      · exact I₃.news p hp) fun p hp=> .tail _ hp
     have X₅:Ext N₃ ρ₃ (mhE ++ [.list vs 0]) ((Cn,oC) :: N₃) ρ₃ (mhE ++ [.list vs 0]):=Ext.more fun p hp=> .tail _ hp
     refine wpAny_assign_Name (zbA (s:={s with heap:=h₂,toks:=tk₂}) F I₅ (V₃.ext I₃ X₅) hy (X₅.rp I₃ r₃) fun h₃ tk₃ m₃ N₄ I₄ X₄ V₄ rep=>?_)
     have hm:(Cn,oC)∈ N₄:=(mem_strip.mp (X₄.keep (Cn,oC) (mem_strip.mpr ⟨.head _,hCb⟩) hCr)).1
     have odd:∀ p∈ N₄,p.1∈ [Cn]→(∀ v,p.2.data≠.cell v)∧∀ its n,p.2≠zaU its n:=fun p hp hb=>by
      obtain ⟨a,o⟩:=p
      obtain rfl:a=Cn:=List.mem_singleton.mp hb
      obtain rfl:=I₄.one hp hm
      refine x2_2 hoC ?_;(try clear hoC);intro es ep hd _
      refine ⟨fun v e=>?_,fun its n e=>?_⟩
      · rw [hd] at e;cases e
      · have e':o=zaU its n:=e
        rw [e'] at hd;cases hd
     refine ⟨m',hoC.ns (I₄.at hm),fun h'' hs''=>?_⟩
     have I₆:Inv C S Φ m₃ (strip [Cn] N₄) ρ₃ (mhE ++ [.list vs 0]) h₃:=I₄.strip (fun a ha=>List.mem_singleton.mp ha ▸ hCr) fun p hp hb=>(odd p hp hb).2
     have I₇:Inv C S Φ m₃ (strip [Cn] N₄) ρ₃ (mhE ++ [.list vs 0]) h'':=I₆.but (wr:=[Cn]) (fun b o hb e=>(hs''.2 b (by simpa using hb)).trans e) (by simpa using Ne.symm d2) (by simpa using d4) fun p hp=>(mem_strip.mp hp).2
     refine hQ h'' tk₃ m₃ _ ρ₃ I₇ ?_ (V₄.strip F I₄ odd)
     have Y:Ext ([(Cn,oC)] ++ strip (bsOf env) N₃) ρ₃ (mhE ++ [.list vs 0]) (strip (bsOf env) N₄) ρ₃ (mhE ++ [.list vs 0]):=by
      have:=X₄
      unfold ExtS at this
      rw [strip_cons_off hCb] at this
      exact this
     have Y':=Y.strip (wr:=[Cn]) fun p hp=>by simpa using hCN p (mem_strip.mp hp).1
     rw [strip_comm] at Y'
     exact ((X.trans (X₂.trans X₃)).s (bsOf env)).trans Y'
   · trivial
end
theorem forGo_succ {src:Src} {tgt:MV→Locs→Option Locs} {body:Locs→zax→SRes} {fuel k:Nat} {l:Locs} {h:zax} :zbQ src tgt body (fuel + 1) k l h =
 match zaH src k h with
 | none=> .stuck
 | some none=> .nxt l h
 | some (some v)=>match tgt v l with
  | none=> .stuck
  | some l=>match body l h with
   | .nxt l h=>zbQ src tgt body fuel (k + 1) l h
   | .ret v h=> .ret v h
   | _=> .stuck:=rfl
theorem forGo_exc {src:Src} {tgt:MV→Locs→Option Locs} {body:Locs→zax→SRes} :∀ (fuel k:Nat) (l:Locs) (h:zax) (l':Locs) (h':zax),zbQ src tgt body fuel k l h≠.exc l' h'
 | 0,_,_,_,_,_=>by simp [zbQ]
 | fuel + 1,k,l,h,l',h'=>by
  rw [forGo_succ]
  split
  · simp
  · simp
  · split
    · simp
    · split
      · exact forGo_exc fuel _ _ _ _ _
      · simp
      · simp
theorem strip_append {bs:List Addr} {a b:Led} :strip bs (a ++ b)=strip bs a ++ strip bs b:=List.filter_append ..
theorem strip_off {bs:List Addr} {N:Led} (h:∀ p∈ N,p.1 ∉ bs) :strip bs N=N:=by
 unfold strip
 rw [List.filter_eq_self]
 intro p hp
 simpa using h p hp
section
variable {C:Cfg} {S:Stat} {Φ:Fram} {m:Str→Option Value} {N:Led} {ρ:Rho} {mh:zax} {s:Shared} {env:Env} {Γ:Gam} {l:Locs} {sc:Scope} {n:Nat}
variable {target:PySem.Expr} {tp:Bool} {src:Src} {J:Addr} {fp wr:List Addr} {nn:Nat} {P Md:Nat→Value→Heap→Prop} {St:Nat→Heap→Prop}
noncomputable def BindsT (C:Cfg) (S:Stat) (sc:Scope) (target:PySem.Expr) (tp:Bool) (tgt:Gam→MV→Locs→Option Locs) :Prop:=
 ∀ (Φ:Fram) (Γ:Gam) (env:Env) (l:Locs) (m:Str→Option Value) (N:Led) (ρ:Rho) (mh:zax) (s:Shared) (mv:MV) (x:Value),Inv C S Φ m N ρ mh s.heap→FnEnv Φ env Γ sc→SOK env Γ Φ m N ρ l→ItemRep tp N ρ s.heap mv x→
  SimX C S Φ env Γ N ρ mh s (fun Q E=>wpAny S.M Φ.A (assign target env x) (fun _ s'=>Q .next s') E s) (match tgt Γ mv l with | some l'=> .nxt l' mh | none=> .stuck)
theorem ItemRep.mono {tp:Bool} {N N':Led} {ρ:Rho} {h:Heap} {mv:MV} {x:Value} (r:ItemRep tp N ρ h mv x) (hs:∀ p∈ N,p∈ N') :ItemRep tp N' ρ h mv x:=by
 unfold ItemRep at r ⊢
 cases tp with
 | false=>exact RepV.mono (fun _ _ _ hm=>hs _ hm) (fun _ _ z=>z) r
 | true=>intro vs e;(refine x2_3 (r vs e) fun T its a b c=>?_);exact ⟨T,its,a,b,c.mono (fun _ _ _ hm=>hs _ hm) fun _ _ z=>z⟩
inductive ForSt (C:Cfg) (S:Stat) (Φ:Fram) (env:Env) (Γ:Gam) (N:Led) (ρ:Rho) (mh:zax) (src:Src) (nn:Nat) (wr:List Addr) (St:Nat→Heap→Prop) (s:Shared) (go:Nat→Nat→Locs→zax→SRes) (r:SRes) (f:Nat) (s':Shared) :Prop where
 | mk (h':Heap) (tk:Tok) (k:Nat) (l':Locs) (m':Str→Option Value) (N':Led) (ρ':Rho) (mh':zax) (hs:s'= {s with heap:=h',toks:=tk}) (I:Inv C S Φ m' N' ρ' mh' h') (X:ExtS (bsOf env) N ρ mh N' ρ' mh') (V:SOK env Γ Φ m' N' ρ' l')
  (out:∀ p∈ N',p.1 ∉ wr) (hk:k≤nn) (hst:Live src mh'→St k h') (hg:go f k l' mh'=r)
theorem for_loop {R:Result→Shared→Prop} {body:List PySem.Stmt} {tgt:Gam→MV→Locs→Option Locs} {r₀:SRes} {h:Heap} {tk₀:Nat} {fuel:Nat}
 (hb:BindsT C S sc target tp tgt) (hB:SimB C S n sc body) (F:FnEnv Φ env Γ sc) (Rm:Room Φ n)
 (I₀:Inv C S Φ m N ρ mh h) (V₀:SOK env Γ Φ m N ρ l) (hout:∀ p∈ N,p.1 ∉ wr) (K:Walk C S Φ target tp src J fp wr nn P Md St (strip (bsOf env) N) ρ mh) (st:St 0 h)
 (hgo:zbQ src (tgt Γ) (zaC C.T (zay C.T C.fns n) (trB C.G Γ body)) fuel 0 l mh=r₀) (hr₀:r₀≠.stuck)
 (hN:∀ h' tk' m' N' ρ' l' mh',r₀= .nxt l' mh'→Inv C S Φ m' N' ρ' mh' h'→ExtS (bsOf env) N ρ mh N' ρ' mh'→SOK env Γ Φ m' N' ρ' l'→R (.ok .next) {s with heap:=h',toks:=tk'})
 (hR:∀ x h' tk' m' N' ρ' v mh',r₀= .ret v mh'→Inv C S Φ m' N' ρ' mh' h'→ExtS (bsOf env) N ρ mh N' ρ' mh'→RepV N' ρ' v x→R (.ok (.ret x)) {s with heap:=h',toks:=tk'}) :
 codeAny S.M Φ.A (.forLoop target (.ref J) body [] env) R {s with heap:=h,toks:=tk₀}:=by
 have wrL:Φ.L ∉ wr:=fun q=>K.notL (K.W.sub _ q)
 refine codeAny_forLoop_any (prog:=S.prog) (w:=S.w)
  (ForSt C S Φ env Γ N ρ mh src nn wr St s (zbQ src (tgt Γ) (zaC C.T (zay C.T C.fns n) (trB C.G Γ body))) r₀) ?_ fuel
  ⟨h,tk₀,0,l,m,N,ρ,mh,rfl,I₀,ExtS.refl _ _ _ _,V₀,hout,Nat.zero_le _,fun _=>st,hgo⟩
 rintro f s' ⟨h',tk,k,l',m',N',ρ',mh',rfl,I',X,V',out,hk,hst,hg⟩
 cases f with
 | zero=>exact absurd hg.symm hr₀
 | succ f=>
  rw [forGo_succ] at hg
  cases hi:zaH src k mh' with
  | none=>rw [hi] at hg;exact absurd hg.symm hr₀
  | some r=>
   have st':=hst (live_of hi)
   have IS:Inv C S Φ m' (strip (bsOf env) N') ρ' mh' h':=I'.strip (V'.C.off I') (V'.C.tup I')
   rw [hi] at hg
   cases r with
   | none=>
    simp only [] at hg
    have e:k=nn:=Nat.le_antisymm hk (K.fin k _ ρ' mh' X hi)
    subst e
    refine K.W.done _ _ _ st' fun h₂ tk₂ hk₂=>?_
    exact wpAny_execs_nil (hN h₂ tk₂ m' N' ρ' l' mh' hg.symm (I'.but hk₂ wrL K.base out) X V')
   | some v=>
    simp only [] at hg
    cases htg:tgt Γ v l' with
    | none=>rw [htg] at hg;exact absurd hg.symm hr₀
    | some l₁=>
     rw [htg] at hg
     simp only [] at hg
     have hlt:k < nn:=(K.item k m' _ ρ' mh' h' X IS v hi).1
     refine K.W.item k _ _ _ hlt st' fun x h₂ tk₂ hMd hk₂=>?_
     refine K.W.go k x _ _ _ hMd fun h₃ hP st₃ hk₃=>?_
     have k3:∀ b o,b ∉ wr→h'.get? b=some o→h₃.get? b=some o:=fun b o hb e=>hk₃ b o hb (hk₂ b o hb e)
     have I₃:Inv C S Φ m' N' ρ' mh' h₃:=I'.but k3 wrL K.base out
     have IS₃:Inv C S Φ m' (strip (bsOf env) N') ρ' mh' h₃:=I₃.strip (V'.C.off I₃) (V'.C.tup I₃)
     have hit:=((K.item k m' _ ρ' mh' h₃ X IS₃ v hi).2 x hP)
     have offR:∀ b∈ wr,¬ zbS ρ' b:=fun b hb=>I₃.new_off (fun p hp e=>out p hp (e ▸ hb)) (K.base b hb)
     have offB:∀ b∈ wr,b ∉ bsOf env:=fun b hb hbs=>by
      refine x2_2 (V'.C b hbs) fun o v h1 _=>?_
      exact out _ h1 hb
     have NG:∀ {M:Led},News Φ.h₀ Φ.L h₃ M→News Φ.h₀ Φ.L h₃ (grab wr h₃ ++ M):=fun hM p hp=>by
      rcases List.mem_append.mp hp with hp | hp
      · refine x0_2 (mem_grab.mp hp) fun h1 h2=>?_
        exact ⟨h2,fun e=>wrL (e ▸ h1),K.base _ h1⟩
      · exact hM p hp
     have I₅:Inv C S Φ m' (grab wr h₃ ++ N') ρ' mh' h₃:=I₃.more (NG I₃.news) fun p hp=>List.mem_append_right _ hp
     have IS₅:Inv C S Φ m' (grab wr h₃ ++ strip (bsOf env) N') ρ' mh' h₃:=IS₃.more (NG IS₃.news) fun p hp=>List.mem_append_right _ hp
     have X₅:Ext N' ρ' mh' (grab wr h₃ ++ N') ρ' mh':=Ext.more fun p hp=>List.mem_append_right _ hp
     have V₅:=V'.ext I₃ X₅
     have eS:strip (bsOf env) (grab wr h₃ ++ N')=grab wr h₃ ++ strip (bsOf env) N':=by
      rw [strip_append,strip_off fun p hp=>offB _ (mem_grab.mp hp).1]
     have hbind:=hb Φ Γ env l' m' _ ρ' mh' {s with heap:=h₃,toks:=tk₂} v x I₅ F V₅ (hit.mono fun p hp=>List.mem_append_right _ (mem_strip.mp hp).1)
     rw [htg] at hbind
     have both:SimX C S Φ env Γ (grab wr h₃ ++ N') ρ' mh' {s with heap:=h₃,toks:=tk₂} (fun Q E=>wpAny S.M Φ.A (assign target env x) (fun _ s₂=>wpAny S.M Φ.A (execs body env) Q E s₂) E {s with heap:=h₃,toks:=tk₂}) (zaC C.T (zay C.T C.fns n) (trB C.G Γ body) l₁ mh'):=by
      refine SimX.bind (r1:= .nxt l₁ mh') (k:=fun l h=>zaC C.T (zay C.T C.fns n) (trB C.G Γ body) l h) (fun s₂ Q E=>wpAny S.M Φ.A (execs body env) Q E s₂) hbind (fun Q E q=>q) fun l₂ mh₂ h₄ tk₄ m₄ N₄ ρ₄ I₄ X₄ V₄=>hB Φ Γ env l₂ m₄ N₄ ρ₄ mh₂ _ I₄ Rm F V₄
     have after:∀ {m₂:Str→Option Value} {N₂:Led} {ρ₂:Rho} {mh₂:zax} {h₂:Heap},Inv C S Φ m₂ N₂ ρ₂ mh₂ h₂→ExtS (bsOf env) (grab wr h₃ ++ N') ρ' mh' N₂ ρ₂ mh₂→
      Inv C S Φ m₂ (strip wr N₂) ρ₂ mh₂ h₂∧ExtS (bsOf env) N ρ mh (strip wr N₂) ρ₂ mh₂∧(Cells (bsOf env) N₂→Live src mh₂→St (k + 1) h₂)∧(∀ p∈ N₂,p.1∈ wr→(∀ v,p.2.data≠.cell v)∧∀ its n,p.2≠zaU its n):=by
      intro m₂ N₂ ρ₂ mh₂ h₂ I₂ X₂
      unfold ExtS at X₂
      rw [eS] at X₂
      have odd:∀ p∈ N₂,p.1∈ wr→(∀ v,p.2.data≠.cell v)∧∀ its n,p.2≠zaU its n:=fun p hp hb=>by
       obtain ⟨o,ho,fs,hf⟩:=K.alive _ _ st₃ p.1 hb
       have h1:=X₂.keep (p.1,o) (List.mem_append_left _ (mem_grab.mpr ⟨hb,ho⟩)) (offR _ hb)
       have h2:=I₂.one (mem_strip.mp h1).1 hp
       refine ⟨fun v e=>?_,fun its n e=>?_⟩
       · rw [← h2,hf] at e;cases e
       · rw [← h2] at e;rw [e] at hf;cases hf
      have offR':∀ b∈ wr,¬ zbS ρ₂ b:=fun b hb=>by
       refine x1_2 (K.alive _ _ st₃ b hb) fun o ho _=>?_
       exact X₂.off (p:=(b,o)) (List.mem_append_left _ (mem_grab.mpr ⟨hb,ho⟩)) (offR _ hb)
      refine ⟨I₂.strip offR' fun p hp hb=>(odd p hp hb).2,?_,fun hc L=>?_,odd⟩
      · have Y:=X₂.strip (wr:=wr) fun p hp=>out p (mem_strip.mp hp).1
        rw [strip_comm] at Y
        exact X.trans Y
      · have I₂':Inv C S Φ m₂ (strip (bsOf env) N₂) ρ₂ mh₂ h₂:=I₂.strip (hc.off I₂) (hc.tup I₂)
        exact K.W.frame _ _ _ st₃ (K.keeps X IS₅ (fun b hb o e=>mem_grab.mpr ⟨hb,e⟩) offR X₂ I₂' L)
     cases hbr:zaC C.T (zay C.T C.fns n) (trB C.G Γ body) l₁ mh' with
     | stuck=>rw [hbr] at hg;exact absurd hg.symm hr₀
     | exc _ _=>rw [hbr] at hg;exact absurd hg.symm hr₀
     | nxt l₂ mh₂=>
      rw [hbr] at hg both
      simp only [] at hg
      refine both _ _ fun h₄ tk₄ m₄ N₄ ρ₄ I₄ X₄ V₄=>?_
      refine x0_4 (after I₄ X₄) fun a1 a2 a3 a4=>?_
      exact ⟨f,Nat.lt_succ_self _,h₄,tk₄,k + 1,l₂,m₄,_,ρ₄,mh₂,rfl,a1,a2,V₄.strip F I₄ a4,fun p hp=>(mem_strip.mp hp).2,hlt,a3 V₄.C,hg⟩
     | ret w mh₂=>
      rw [hbr] at hg both
      simp only [] at hg
      refine both _ _ fun y h₄ tk₄ m₄ N₄ ρ₄ I₄ X₄ ry=>?_
      refine x0_4 (after I₄ X₄) fun a1 a2 a3 a4=>?_
      exact hR y h₄ tk₄ m₄ _ ρ₄ w mh₂ hg.symm a1 a2 (ry.strip fun p hp hb=>(a4 p hp hb).2)
theorem simFor {iter:PySem.Expr} {body:List PySem.Stmt} {pos:Pos} {tgt:Gam→MV→Locs→Option Locs} (hb:BindsT C S sc target tp tgt) (hset:notSet iter=true) (hit:SimIter C S n sc target tp iter) (hB:SimB C S n sc body)
 (I:Inv C S Φ m N ρ mh s.heap) (Rm:Room Φ n) (F:FnEnv Φ env Γ sc) (V:SOK env Γ Φ m N ρ l) :
 SimX C S Φ env Γ N ρ mh s (fun Q E=>wpAny S.M Φ.A (exec (.For target iter body [] pos) env) Q E s)
  ((iterR C n tp Γ iter l mh).toS l fun src h=>zbQ src (tgt Γ) (zaC C.T (zay C.T C.fns n) (trB C.G Γ body)) (zbN src h) 0 l h):=by
 have hi:=hit Φ Γ env l m N ρ mh s I Rm F.E V.V (bsOf env) V.C
 cases hr:iterR C n tp Γ iter l mh with
 | stuck=>trivial
 | exc mh'=>
  rw [hr] at hi
  exact fun Q E hE=>wpAny_For (hi _ E fun e h' tk' f=>hE e h' tk' (flies_s f)) (zdT hset env)
 | ok src mh₁=>
  rw [hr] at hi
  simp only [Res.toS]
  generalize hg:zbQ src (tgt Γ) (zaC C.T (zay C.T C.fns n) (trB C.G Γ body)) (zbN src mh₁) 0 l mh₁=r₀
  cases r₀ with
  | stuck=>trivial
  | exc l' mh'=>exact absurd hg (forGo_exc _ _ _ _ _ _)
  | nxt l' mh'=>
   intro Q E hQ
   refine wpAny_For (hi _ E fun J h' tk' N' ρ' X g=>?_) (zdT hset env)
   obtain ⟨I',fp,wr,nn,P,Md,St,out,K,st⟩:=g
   exact for_loop (s:=s) hb hB F Rm I' (V.ext I X) out K st hg (by simp)
    (fun h' tk' m' N' ρ' l'' mh'' e I'' X'' V''=>by (refine sy2 (SRes.nxt.inj e) ?_;clear e;intro zq zr;subst zq;subst zr);exact hQ h' tk' m' N' ρ' I'' ((X.s _).trans X'') V'') (fun x h' tk' m' N' ρ' v mh'' e=>by exact noC SRes.ctorIdx e rfl)
  | ret v mh'=>
   intro Q E hQ
   refine wpAny_For (hi _ E fun J h' tk' N' ρ' X g=>?_) (zdT hset env)
   obtain ⟨I',fp,wr,nn,P,Md,St,out,K,st⟩:=g
   exact for_loop (s:=s) hb hB F Rm I' (V.ext I X) out K st hg (by simp)
    (fun h' tk' m' N' ρ' l'' mh'' e=>by exact noC SRes.ctorIdx e rfl) (fun x h' tk' m' N' ρ' w mh'' e I'' X'' r=>by (refine sy2 (SRes.ret.inj e) ?_;clear e;intro zq zr;subst zq;subst zr);exact hQ x h' tk' m' N' ρ' I'' ((X.s _).trans X'') r)
theorem binds_name {x:Str} {p:Pos} :BindsT C S sc (.Name x p) false (fun Γ v l=>match Γ.names.lookup x with | some (some i)=>some (l.set i (some v)) | _=>none):=by
 intro Φ Γ env l m N ρ mh s mv v I F V r
 dsimp only
 cases hx:Γ.names.lookup x with
 | none=>trivial
 | some k=>
  cases k with
  | none=>trivial
  | some i=>exact fun Q E hQ=>wpAny_assign_Name (zbA F I V hx r fun h' tk' m' N' I' X' V' _=>hQ h' tk' m' N' ρ I' X' V')
theorem setTs_names:∀ {is:List Nat} {vs:List MV} {l:Locs} {h:zax},zcP (is.map MT.name) vs l h=match zcw is vs l with | some l'=> .nxt l' h | none=> .stuck
 | [],[],_,_=>rfl
 | [],_ :: _,_,_=>rfl
 | i :: is,[],_,_=>rfl
 | i :: is,v :: vs,l,h=>setTs_names (is:=is)
theorem zeJ {G:Gl} :∀ {ts:List PySem.Expr} {xs:List Str} {is:List Nat},zaI ts=some xs→slotsOf Γ xs=some is→zaW G Γ ts=some (is.map MT.name)
 | [],xs,is,h,h'=>by cases h;cases h';rfl
 | e :: r,xs,is,h,h'=>by
  refine x3_3 (zbF h) ?_;rintro x p ys rfl hr rfl
  refine x2_3 (zcI h') ?_;rintro i js hx hs rfl
  show cons2 ((Γ.names.lookup x).join.map MT.name) (zaW G Γ r)= _
  rw [hx,zeJ hr hs]
  rfl
theorem binds_tuple (Z:Sit C S) {ts:List PySem.Expr} {k:Nat} {p:Pos} :BindsT C S sc (.Tuple ts k p) true (fun Γ v l=>match zaI ts with | some xs=>(match slotsOf Γ xs with | some is=>(match v with | .tup vs=>zcw is vs l | _=>none) | none=>none) | none=>none):=by
 intro Φ Γ env l m N ρ mh s mv x I F V r
 dsimp only
 cases hn:zaI ts with
 | none=>trivial
 | some xs=>
  simp only []
  cases hs:slotsOf Γ xs with
  | none=>trivial
  | some is=>
   simp only []
   have hu:zaW C.G Γ ts=some (is.map MT.name):=zeJ hn hs
   cases mv with
   | tup vs=>
    simp only []
    refine x2_3 ((show ∀ vs',MV.tup vs= .tup vs'→∃ T its,x= .ref T∧IsTup s.heap T (List.toArray its)∧RepVs N ρ vs' its from by simpa only [ItemRep,if_true] using r) vs rfl) ?_;rintro T its rfl hT hr
    have e:=setTs_names (is:=is) (vs:=vs) (l:=l) (h:=mh)
    rw [← e]
    by_cases hlen:(is.map MT.name).length=vs.length
    · refine x0_3 (zbR (env:=env) hu) fun a1 a2 _=>?_
      have key:∀ h₁,(∀ b o,s.heap.get? b=some o→h₁.get? b=some o)→SimX C S Φ env Γ N ρ mh s (fun Q E=>wpAny S.M Φ.A (assignInOrder ((assignEach ts env).map (·.2)) its) (fun _ s'=>Q .next s') E {s with heap:=h₁}) (zcP (is.map MT.name) vs l mh):=
       fun h₁ k=>SimX.after (h₁:=h₁) (t₁:=s.toks) (ExtS.refl _ _ _ _) (zfx (s:={s with heap:=h₁}) Z F hu (I.onto k) V hr)
      have go:∀ (Q:Flow→Shared→Prop) (E:Value→Shared→Prop),(∀ h₁,(∀ b o,s.heap.get? b=some o→h₁.get? b=some o)→wpAny S.M Φ.A (assignInOrder ((assignEach ts env).map (·.2)) its) (fun _ s'=>Q .next s') E {s with heap:=h₁})→wpAny S.M Φ.A (assign (.Tuple ts k p) env (.ref T)) (fun _ s'=>Q .next s') E s:=fun Q E q=>
       assign_Tuple_tuple I.hh hT (by rw [a1,List.size_toArray,hr.length,hlen]) a2 fun h₁ he=>q h₁ fun b o e=>he b o (Nat.ne_of_lt (Heap.lt_size e)) e
      cases hg:zcP (is.map MT.name) vs l mh with
      | stuck=>trivial
      | nxt l' mh2=>rw [hg] at key;exact fun Q E hQ=>go Q E fun h₁ k=>key h₁ k Q E hQ
      | ret w mh2=>rw [hg] at key;exact fun Q E hQ=>go Q E fun h₁ k=>key h₁ k Q E hQ
      | exc l' mh2=>rw [hg] at key;exact fun Q E hQ=>go Q E fun h₁ k=>key h₁ k Q E hQ
    · rw [zdO hlen];trivial
   | _=>trivial
end
noncomputable def notSliceB:PySem.Expr→Bool
 | .Slice ..=>false
 | _=>true
theorem notSlice_of {e:PySem.Expr} (h:notSliceB e=true) :zcL e:=by
 cases e <;> first | exact trivial | exact nofB h
noncomputable def okTgt (ok:PySem.Expr→Bool) (e:PySem.Expr) :PySem.Expr→Bool
 | .Name ..=>true
 | .Tuple ..=>!oddSwap e
 | .Attribute o _ _=>ok o
 | .Subscript o i _=>notSliceB i && (ok o && ok i)
 | _=>false
noncomputable def okTgts (ok:PySem.Expr→Bool) (e:PySem.Expr) :List PySem.Expr→Bool
 | []=>false
 | t :: r=>(match r with | []=>okTgt ok e t | _ :: _=>false)
noncomputable def okAug (ok:PySem.Expr→Bool) :PySem.Expr→Bool
 | .Attribute o _ _=>ok o
 | .Subscript o i _=>notSliceB i && (ok o && ok i)
 | _=>false
noncomputable def zfw:PySem.Expr→Bool
 | .Name ..=>true
 | .Tuple ..=>true
 | _=>false
noncomputable def okRet (ok:PySem.Expr→Bool) :Option PySem.Expr→Bool
 | some e=>ok e
 | none=>true
noncomputable def okExc (ok:PySem.Expr→Bool) :PySem.Expr→Bool
 | .Call f as ks _=>noKws ks && (okName f && okOne as)
 | _=>false
where
 okName:PySem.Expr→Bool
  | .Name ..=>true
  | _=>false
 okOne:List PySem.Expr→Bool
  | []=>false
  | e :: r=>(match r with | []=>zcC e && ok e | _ :: _=>false)
noncomputable def okRaise (ok:PySem.Expr→Bool) (e c:Option PySem.Expr) :Bool:=match c with
 | some _=>false
 | none=>(match e with | some e=>okExc ok e | none=>false)
noncomputable def retOf:PySem.Stmt→Option PySem.Expr
 | .Return e _=>e
 | _=>none
noncomputable def oneRet:List PySem.Stmt→Option PySem.Expr
 | []=>none
 | s :: r=>(match r with | []=>retOf s | _ :: _=>none)
noncomputable def isNoneC:PySem.Expr→Bool
 | .Constant c _ _=>(match c with | .none=>true | _=>false)
 | _=>false
noncomputable def hName (t:Option PySem.Expr) :Bool:=match t with | some t=>okExc.okName t | none=>false
noncomputable def hNone (t:Option PySem.Expr) :Bool:=match t with | some t=>isNoneC t | none=>false
noncomputable def okH1:PySem.ExceptHandler→Bool
 | .ExceptHandler t n hb _=>n.isNone && (hName t && hNone (oneRet hb))
noncomputable def okHs:List PySem.ExceptHandler→Bool
 | []=>false
 | h :: r=>(match r with | []=>okH1 h | _ :: _=>false)
noncomputable def okTry (ok:PySem.Expr→Bool) (b:List PySem.Stmt) (hs:List PySem.ExceptHandler) (o f:List PySem.Stmt) :Bool:=
 o.isEmpty && (f.isEmpty && (okHs hs && (match oneRet b with | some e=>ok e | none=>false)))
noncomputable def okS1 (ok:PySem.Expr→Bool) (okb:List PySem.Stmt→Bool) :PySem.Stmt→Bool
 | .Assign ts e _=>ok e && okTgts ok e ts
 | .AugAssign t _ e _=>ok e && okAug ok t
 | .Expr e _=>notComp e && ok e
 | .Return e _=>okRet ok e
 | .If t b o _=>ok t && (okb b && okb o)
 | .For t it b o _=>o.isEmpty && (zfw t && (okIt ok it && okb b))
 | .Raise e c _=>okRaise ok e c
 | .Try b hs o f _=>okTry ok b hs o f
 | _=>false
noncomputable def okS (sc:Scope) :Nat→PySem.Stmt→Bool
 | 0=>fun _=>false
 | k + 1=>okS1 (okE 30 sc) fun b=>b.all (okS sc k)
noncomputable def okB (sc:Scope) (b:List PySem.Stmt) :Bool:=b.all (okS sc 30)
structure RaisesOK (C:Cfg) (S:Stat) (n:Nat) :Prop where
 raise:∀ sc c pc e cpos pos,zcC e=true→SimE C S n sc e→SimS C S n sc (.Raise (some (.Call (.Name c pc) [e] [] cpos)) none pos)
 try_:∀ sc e rp c pc k p1 p2 p3 pos,SimE C S n sc e→SimS C S n sc (.Try [.Return (some e) rp] [.ExceptHandler (some (.Name c pc)) none [.Return (some (.Constant .none k p1)) p2] p3] [] [] pos)
section
variable {C:Cfg} {S:Stat} {n:Nat}
theorem asg_comp {sc sc':Scope} {t it elt:PySem.Expr} {ifs:List PySem.Expr} {pos spos py:Pos} {y:Str} (K:CompOK C S n sc sc' t it elt ifs)
 {Φ:Fram} {Γ:Gam} {env:Env} {l:Locs} {m:Str→Option Value} {N:Led} {ρ:Rho} {mh:zax} {s:Shared} (I:Inv C S Φ m N ρ mh s.heap) (R:Room Φ n) (F:FnEnv Φ env Γ sc) (V:SOK env Γ Φ m N ρ l)
 (hsw:swapsWith (.ListComp elt [⟨t,it,ifs,0⟩] sc' pos) (some (.Name y py)) spos.line env=pure true) :
 SimX C S Φ env Γ N ρ mh s (fun Q E=>wpAny S.M Φ.A (exec (.Assign [.Name y py] (.ListComp elt [⟨t,it,ifs,0⟩] sc' pos) spos) env) Q E s) (zcR C.T (zay C.T C.fns n) (trS C.G Γ (.Assign [.Name y py] (.ListComp elt [⟨t,it,ifs,0⟩] sc' pos) spos)) l mh):=by
 obtain ⟨nt,ts,ht,KS,h2,hI,helt,hifs⟩:=K
 refine SimX.slotM fun i hy=>?_
 show SimX _ _ _ _ _ _ _ _ _ _ (Res.toS _ (zaw _ _ (trE C.G Γ (.ListComp elt [⟨t,it,ifs,0⟩] sc' pos)) _ _) _)
 rw [trE_comp ht]
 cases ifs with
 | nil=>exact (congrArg (fun r=>SimX C S Φ env Γ N ρ mh s _ (Res.toS l r _)) comp_key).mpr (sim_compUse (pos:=pos) ht rfl KS h2 hI simC_nil helt I R F V hsw hy)
 | cons c r=>
  cases r with
  | nil=>exact (congrArg (fun r=>SimX C S Φ env Γ N ρ mh s _ (Res.toS l r _)) comp_key).mpr (sim_compUse (pos:=pos) ht rfl KS h2 hI (simC_one (hifs c List.mem_cons_self)) helt I R F V hsw hy)
  | cons=>trivial
theorem swB_comp {sc:Scope} {env:Env} {x:Str} {p:Pos} {e:PySem.Expr} (hsw:swB env e x p=true) (hok:okE 30 sc e=true) :∃ elt g sc' cpos,e= .ListComp elt [g] sc' cpos:=by
 cases e with
 | ListComp elt gens sc' cpos=>
  cases gens with
  | nil=>exact nof hok
  | cons g r=>
   cases r with
   | nil=>exact ⟨_,_,_,_,rfl⟩
   | cons=>exact nof hok
 | SetComp=>exact nof hok
 | DictComp=>exact nof hok
 | _=>exact nof hsw
theorem asg_any (Z:Sit C S) (HC:CallsOK C S n) {sc:Scope} {x:Str} {p pos:Pos} {e:PySem.Expr} (hok:okE 30 sc e=true) :SimS C S n sc (.Assign [.Name x p] e pos):=by
 intro Φ Γ env l m N ρ mh s I R F V
 cases hsw:swB env e x p with
 | false=>exact SimS.asg (simE_all Z HC 30 sc e hok).1 Φ Γ env l m N ρ mh s I R F V hsw
 | true=>
  refine x4_1 (swB_comp hsw hok) ?_;rintro elt ⟨t,it,ifs,a⟩ sc' cpos rfl
  refine x0_2 (CompOK.of (sc':=sc') (elt:=elt) (t:=t) (it:=it) (ifs:=ifs) (a:=a) Z (simE_all Z HC 29) hok) ?_;rintro rfl K
  exact asg_comp K I R F V (by rw [zeK,hsw])
section
variable {sc:Scope} {ok:PySem.Expr→Bool}
theorem tgt_of (Z:Sit C S) (hE:∀ e,ok e=true→SimE C S n sc e) {e t:PySem.Expr} {pos:Pos} (hn:∀ x p,SimS C S n sc (.Assign [.Name x p] e pos)) (he:SimE C S n sc e) (h:okTgt ok e t=true) :SimS C S n sc (.Assign [t] e pos):=by
 cases t with
 | Name=>exact hn _ _
 | Tuple=>exact SimS.asgT Z he (Bool.not_eq_true' _ ▸ h)
 | Attribute o=>exact SimS.asgA Z (hE o h) he
 | Subscript o i=>exact SimS.asgI (notSlice_of (a1 h)) (hE o (a1 (a2 h))) (hE i (a2 (a2 h))) he
 | _=>exact nof h
theorem aug_of (Z:Sit C S) (hE:∀ e,ok e=true→SimE C S n sc e) {e t:PySem.Expr} {op:Operator} {pos:Pos} (he:SimE C S n sc e) (h:okAug ok t=true) :SimS C S n sc (.AugAssign t op e pos):=by
 cases t with
 | Attribute o=>exact SimS.augA Z (hE o h) he
 | Subscript o i=>exact SimS.augI (notSlice_of (a1 h)) (hE o (a1 (a2 h))) (hE i (a2 (a2 h))) he
 | _=>exact nof h
theorem for_key {tp:Bool} {k:SrcK} {r:Res MV} {l:Locs} {f:Src→zax→SRes} :(r.toS l fun v h=>match zcU tp k v h with | some src=>f src h | none=> .stuck) =
 (r.bind fun v h=>match zcU tp k v h with | some src=> .ok src h | none=> .stuck).toS l f:=by
 cases r with
 | ok v h=>show (match zcU tp k v h with | some src=>f src h | none=> .stuck)=Res.toS l (match zcU tp k v h with | some src=> .ok src h | none=> .stuck) f;cases zcU tp k v h <;> rfl
 | _=>rfl
theorem simX_eq {Φ:Fram} {Γ:Gam} {env:Env} {N:Led} {ρ:Rho} {mh:zax} {s:Shared} {W:zaY Flow} {r r':SRes} (e:r=r') (h:SimX C S Φ env Γ N ρ mh s W r') :SimX C S Φ env Γ N ρ mh s W r:=e ▸ h
theorem nameOrTup_of {t:PySem.Expr} (h:zfw t=true) :(∃ x p,t= .Name x p)∨∃ ts j p,t= .Tuple ts j p:=by
 cases t with
 | Name=>exact .inl ⟨_,_,rfl⟩
 | Tuple=>exact .inr ⟨_,_,_,rfl⟩
 | _=>exact nof h
theorem for_of (Z:Sit C S) (hE:∀ e,ok e=true→Both C S n sc e) {t it:PySem.Expr} {b:List PySem.Stmt} {pos:Pos} (hB:SimB C S n sc b) (h:zfw t=true) (hit:okIt ok it=true) :SimS C S n sc (.For t it b [] pos):=by
 intro Φ Γ env l m N ρ mh s I R F V
 rcases nameOrTup_of h with ⟨x,p,rfl⟩ | ⟨ts,j,p,rfl⟩
 · refine SimX.slotM fun i hx=>?_
   have:=simFor (pos:=pos) (binds_name (x:=x) (p:=p)) (a1 hit) (iter_of Z hE (fun h=>by exact nofB h) hit) hB I R F V
   rw [hx] at this
   exact simX_eq for_key this
 · refine SimX.onSome fun xs hn=>SimX.onSome fun is hsl=>?_
   have:=simFor (pos:=pos) (binds_tuple (sc:=sc) Z (ts:=ts) (k:=j) (p:=p)) (a1 hit) (iter_of Z hE (fun h=>⟨_,_,_,rfl⟩) hit) hB I R F V
   simp only [hn,hsl] at this
   exact simX_eq for_key this
theorem name_of {f:PySem.Expr} (h:okExc.okName f=true) :∃ x p,f= .Name x p:=by
 cases f with
 | Name=>exact ⟨_,_,rfl⟩
 | _=>exact nof h
theorem raise_of (HR:RaisesOK C S n) (hE:∀ e,ok e=true→SimE C S n sc e) {e c:Option PySem.Expr} {pos:Pos} (h:okRaise ok e c=true) :SimS C S n sc (.Raise e c pos):=by
 cases c with
 | some=>exact nof h
 | none=>
  cases e with
  | none=>exact nof h
  | some e=>
   cases e with
   | Call f as ks p=>
    cases ks with
    | cons=>exact nof h
    | nil=>
     have h':(okExc.okName f && okExc.okOne ok as)=true:=h
     refine x2_1 (name_of (a1 h')) ?_;rintro x q rfl
     cases as with
     | nil=>exact nof h
     | cons e r=>
      cases r with
      | nil=>exact HR.raise _ _ _ _ _ _ (a1 h) (hE e (a2 h))
      | cons=>exact nof h
   | _=>exact nof h
theorem oneRet_of {b:List PySem.Stmt} {e:PySem.Expr} (h:oneRet b=some e) :∃ p,b= [.Return (some e) p]:=by
 cases b with
 | nil=>exact nofO h
 | cons s r=>
  cases r with
  | cons=>exact nofO h
  | nil=>
   cases s with
   | Return e' p=>exact ⟨p,by cases (show e'=some e from h);rfl⟩
   | _=>exact nofO h
theorem isNoneC_of {e:PySem.Expr} (h:isNoneC e=true) :∃ k p,e= .Constant .none k p:=by
 cases e with
 | Constant c k p=>cases c with
  | none=>exact ⟨_,_,rfl⟩
  | _=>exact nof h
 | _=>exact nof h
theorem hs_of {hs:List PySem.ExceptHandler} (h:okHs hs=true) :∃ c pc k p1 p2 p3,hs= [.ExceptHandler (some (.Name c pc)) none [.Return (some (.Constant .none k p1)) p2] p3]:=by
 cases hs with
 | nil=>exact nof h
 | cons x r=>
  cases r with
  | cons=>exact nof h
  | nil=>
   obtain ⟨t,n,hb,p⟩:=x
   have h:(n.isNone && (hName t && hNone (oneRet hb)))=true:=h
   obtain rfl:=Option.isNone_iff_eq_none.mp (a1 h)
   have h1:=a1 (a2 h)
   have h2:=a2 (a2 h)
   cases t with
   | none=>exact nof h1
   | some t=>
    refine x2_1 (name_of h1) ?_;rintro x q rfl
    cases hr:oneRet hb with
    | none=>rw [hr] at h2;exact nof h2
    | some e=>
     rw [hr] at h2
     refine x1_1 (oneRet_of hr) ?_;rintro p2 rfl
     refine x2_1 (isNoneC_of h2) ?_;rintro k p1 rfl
     exact ⟨_,_,_,_,_,_,rfl⟩
theorem try_of (HR:RaisesOK C S n) (hE:∀ e,ok e=true→SimE C S n sc e) {b o f:List PySem.Stmt} {hs:List PySem.ExceptHandler} {pos:Pos} (h:okTry ok b hs o f=true) :SimS C S n sc (.Try b hs o f pos):=by
 obtain rfl:=List.isEmpty_iff.mp (a1 h)
 obtain rfl:=List.isEmpty_iff.mp (a1 (a2 h))
 refine x6_1 (hs_of (a1 (a2 (a2 h)))) ?_;rintro c pc k p1 p2 p3 rfl
 have h2:=a2 (a2 (a2 h))
 cases hr:oneRet b with
 | none=>rw [hr] at h2;exact nof h2
 | some e=>
  rw [hr] at h2
  refine x1_1 (oneRet_of hr) ?_;rintro rp rfl
  exact HR.try_ _ _ _ _ _ _ _ _ _ _ (hE e h2)
theorem simB_of {ok:PySem.Stmt→Bool} (h:∀ st,ok st=true→SimS C S n sc st) :∀ {b:List PySem.Stmt},b.all ok=true→SimB C S n sc b
 | [],_=>SimB.nil
 | st :: r,hb=>SimB.cons (h st (a1 hb)) (simB_of h (a2 hb))
end
theorem simS_all (Z:Sit C S) (HC:CallsOK C S n) (HR:RaisesOK C S n) {sc:Scope} (k:Nat) :∀ st:PySem.Stmt,okS sc k st=true→SimS C S n sc st:=by
 induction k with
 | zero=>exact fun _ h=>nof h
 | succ k ih=>
  intro st ho
  have hB:=simE_all Z HC 30 sc
  have hE:∀ e,okE 30 sc e=true→SimE C S n sc e:=fun e h=>(hB e h).1
  cases st with
  | Assign ts e pos=>
   cases ts with
   | nil=>exact nof (a2 ho)
   | cons t r=>
    cases r with
    | nil=>exact tgt_of Z hE (fun x p=>asg_any Z HC (a1 ho)) (hE e (a1 ho)) (a2 ho)
    | cons=>exact nof (a2 ho)
  | AugAssign t op e pos=>exact aug_of Z hE (hE e (a1 ho)) (a2 ho)
  | Expr e pos=>exact SimS.expr (a1 ho) (hE e (a2 ho))
  | Return e pos=>
   cases e with
   | none=>exact SimS.retN
   | some e=>exact SimS.ret (hE e ho)
  | If t b o pos=>exact SimS.ite (hB t (a1 ho)).2 (simB_of ih (a1 (a2 ho))) (simB_of ih (a2 (a2 ho)))
  | For t it b o pos=>
   obtain rfl:=List.isEmpty_iff.mp (a1 ho)
   have ho':(zfw t && (okIt (okE 30 sc) it && b.all (okS sc k)))=true:=ho
   exact for_of Z hB (simB_of ih (a2 (a2 ho'))) (a1 ho') (a1 (a2 ho'))
  | Raise e c pos=>exact raise_of HR hE ho
  | Try b hs o f pos=>exact try_of HR hE ho
  | _=>exact nof ho
theorem simB_all (Z:Sit C S) (HC:CallsOK C S n) (HR:RaisesOK C S n) {sc:Scope} {b:List PySem.Stmt} (h:okB sc b=true) :SimB C S n sc b:=simB_of (simS_all Z HC HR 30) h
end
theorem zdB:∀ {names:List (Str × NameKind)} {n:Nat} {acc:List (Str × Addr)} {p:Str × Addr},p∈ cellsFrom n names acc→p∈ acc∨((p.1,NameKind.cell)∈ names∧@LE.le Nat _ n p.2)
 | [],n,acc,p,h=> .inl h
 | (x,k) :: r,n,acc,p,h=>by
  unfold cellsFrom at h
  by_cases hk:(k == NameKind.cell)=true
  · rw [if_pos hk] at h
    have hk':k= .cell:=by simpa using hk
    subst hk'
    rcases zdB h with h | ⟨h,h'⟩
    · rcases List.mem_cons.mp h with rfl | h
      · exact .inr ⟨List.mem_cons_self,Nat.le_refl _⟩
      · exact .inl h
    · exact .inr ⟨List.mem_cons_of_mem _ h,Nat.le_of_succ_le h'⟩
  · rw [if_neg hk] at h
    rcases zdB h with h | ⟨h,h'⟩
    · exact .inl h
    · exact .inr ⟨List.mem_cons_of_mem _ h,h'⟩
theorem zdC:∀ {names:List (Str × NameKind)} {n:Nat} {acc:List (Str × Addr)},(∀ p∈ acc,@LT.lt Nat _ p.2 n)→(∀ p∈ acc,∀ q∈ acc,p.2=q.2→p=q)→∀ p∈ cellsFrom n names acc,∀ q∈ cellsFrom n names acc,p.2=q.2→p=q
 | [],n,acc,_,h=>h
 | (x,k) :: r,n,acc,hl,h=>by
  unfold cellsFrom
  by_cases hk:(k == NameKind.cell)=true
  · rw [if_pos hk]
    refine zdC (fun p hp=>?_) fun p hp q hq e=>?_
    · rcases List.mem_cons.mp hp with rfl | hp
      · exact Nat.lt_succ_self _
      · exact Nat.lt_succ_of_lt (hl p hp)
    · rcases List.mem_cons.mp hp with rfl | hp
      · rcases List.mem_cons.mp hq with rfl | hq
        · rfl
        · exact absurd (hl q hq) (by rw [← e];exact Nat.lt_irrefl _)
      · rcases List.mem_cons.mp hq with rfl | hq
        · exact absurd (hl p hp) (by rw [e];exact Nat.lt_irrefl _)
        · exact h p hp q hq e
  · rw [if_neg hk]
    exact zdC hl h
theorem zey {cm:Str→Option Value} :∀ {cs:List (Str × Addr)} {cells:List (Addr × Obj)},CellsAre cm cs cells→(∀ p∈ cs,∃ o,(p.2,o)∈ cells∧o.data= .cell (cm p.1))∧∀ q∈ cells,∃ x,(x,q.1)∈ cs
 | _,_,.nil=>⟨(fun p hp=>by cases hp),(fun q hq=>by cases hq)⟩
 | _,_,.cons hd h=>by
  refine x0_2 (zey h) fun a b=>?_
  refine ⟨fun p hp=>?_,fun q hq=>?_⟩
  · rcases List.mem_cons.mp hp with rfl | hp
    · exact ⟨_,List.mem_cons_self,hd⟩
    · refine x1_2 (a p hp) fun o h1 h2=>?_
      exact ⟨o,List.mem_cons_of_mem _ h1,h2⟩
  · rcases List.mem_cons.mp hq with rfl | hq
    · exact ⟨_,List.mem_cons_self⟩
    · refine x1_1 (b q hq) fun x hx=>?_
      exact ⟨x,List.mem_cons_of_mem _ hx⟩
theorem bindL_off {kindOf:Str→Option NameKind} {x:Str} :∀ {bs:List (Str × Value)} {m:Str→Option Value},x ∉ bs.map (·.1)→bindL kindOf bs m x=m x
 | [],m,_=>rfl
 | (n,v) :: r,m,h=>by
  simp only [List.map_cons,List.mem_cons,not_or] at h
  unfold bindL
  rw [bindL_off h.2]
  split
  · exact if_neg h.1
  · rfl
theorem bindL_get {kindOf:Str→Option NameKind} {x:Str} {v:Value} (hk:kindOf x=some .local) :∀ {bs:List (Str × Value)} {m:Str→Option Value},(bs.map (·.1)).Nodup→(x,v)∈ bs→bindL kindOf bs m x=some v
 | [],m,_,h=>by cases h
 | (n,w) :: r,m,hn,h=>by
  simp only [List.map_cons,List.nodup_cons] at hn
  unfold bindL
  rcases List.mem_cons.mp h with h | h
  · (refine sy2 (Prod.mk.inj h) ?_;clear h;intro zq zr;subst zq;subst zr)
    rw [bindL_off hn.1,if_pos hk,if_pos rfl]
  · exact bindL_get hk hn.2 h
theorem bindC_off {kindOf:Str→Option NameKind} {x:Str} :∀ {bs:List (Str × Value)} {m:Str→Option Value},x ∉ bs.map (·.1)→bindC kindOf bs m x=m x
 | [],m,_=>rfl
 | (n,v) :: r,m,h=>by
  simp only [List.map_cons,List.mem_cons,not_or] at h
  unfold bindC
  rw [bindC_off h.2]
  split
  · rfl
  · exact if_neg h.1
theorem bindC_get {kindOf:Str→Option NameKind} {x:Str} {v:Value} (hk:kindOf x≠some .local) :∀ {bs:List (Str × Value)} {m:Str→Option Value},(bs.map (·.1)).Nodup→(x,v)∈ bs→bindC kindOf bs m x=some v
 | [],m,_,h=>by cases h
 | (n,w) :: r,m,hn,h=>by
  simp only [List.map_cons,List.nodup_cons] at hn
  unfold bindC
  rcases List.mem_cons.mp h with h | h
  · (refine sy2 (Prod.mk.inj h) ?_;clear h;intro zq zr;subst zq;subst zr)
    rw [bindC_off hn.1,if_neg hk,if_pos rfl]
  · exact bindC_get hk hn.2 h
noncomputable def fnScOK (sc:Scope) (ps:List Str) :Bool:=
 sc.kind == .function && !sc.isCoroutine && !sc.isGenerator && sc.names.all (fun y=>sc.names.lookup y.1 == some y.2) && (zaM sc).take ps.length == ps &&
 sc.names.all (fun y=>y.1 != ("__debug__" :Str) && y.1 != ("__classdict__" :Str)) && decide (zaM sc).Nodup && decide ((cellsFrom 0 sc.names []).map (·.1)).Nodup
structure FnSc (sc:Scope) (ps:List Str) :Prop where
 kind:sc.kind= .function
 co:sc.isCoroutine=false
 gen:sc.isGenerator=false
 look:∀ y∈ sc.names,sc.names.lookup y.1=some y.2
 own:(zaM sc).take ps.length=ps
 odd:∀ y∈ sc.names,(y.1 == ("__debug__" :Str))=false∧(y.1 == ("__classdict__" :Str))=false
 nd:(zaM sc).Nodup
 cnd:((cellsFrom 0 sc.names []).map (·.1)).Nodup
theorem FnSc.of {sc:Scope} {ps:List Str} (h:fnScOK sc ps=true) :FnSc sc ps:=by
 unfold fnScOK at h
 simp only [Bool.and_eq_true,List.all_eq_true,decide_eq_true_eq,Bool.not_eq_true'] at h
 refine x0_2 h ?_;(try clear h);rintro ⟨⟨⟨⟨⟨⟨h1,h2⟩,h3⟩,h4⟩,h5⟩,h6⟩,h7⟩ h8
 exact ⟨beq_iff_eq.mp h1,h2,h3,fun y hy=>beq_iff_eq.mp (h4 y hy),beq_iff_eq.mp h5,fun y hy=>by simpa using h6 y hy,h7,h8⟩
theorem zbW {sc:Scope} {x:Str} {k:Option Nat} (h:(gamOf sc).names.lookup x=some k) :(∃ j:Nat,(zaM sc)[j]? =some x∧k=some j)∨((x,NameKind.globalImplicit)∈ sc.names∧k=none):=by
  unfold gamOf at h
  dsimp only at h
  rw [zdw] at h
  cases h1:(zdy 0 (zaM sc)).lookup x with
  | some k'=>
    rw [h1] at h
    cases h
    refine x1_2 (zcB h1) fun j h2 h3=>?_
    exact .inl ⟨j,h2,by simpa using h3⟩
  | none=>
    rw [h1,Option.none_or] at h
    have hm:=zbG h
    rw [List.mem_map] at hm
    refine x1_2 hm ?_;(try clear hm);intro y hy e
    unfold globNames at hy
    rw [List.mem_map] at hy
    refine x1_2 hy ?_;(try clear hy);rintro z hz rfl
    refine x0_2 (List.mem_filter.mp hz) fun h3 h4=>?_
    (refine sy2 (Prod.mk.inj e) ?_;clear e;intro zq zr;subst zq;subst zr)
    exact .inr ⟨by have : z.2 = .globalImplicit := by simpa using h4
                   rw [← this]; exact h3, rfl⟩
theorem zeS {sc:Scope} {x:Str} (h:x∈ zaM sc) :(x,NameKind.local)∈ sc.names∨(x,NameKind.cell)∈ sc.names:=by
 unfold zaM at h
 rw [List.mem_map] at h
 refine x1_2 h ?_;(try clear h);rintro z hz rfl
 refine x0_2 (List.mem_filter.mp hz) fun h1 h2=>?_
 rcases Bool.or_eq_true_iff.mp h2 with q | q
 · left;have:z.2= .local:=by simpa using q
   rw [← this];exact h1
 · right;have:z.2= .cell:=by simpa using q
   rw [← this];exact h1
theorem fn_env {sc:Scope} {ps:List Str} (K:FnSc sc ps) {qual:Str} {L f:Addr} {cd:Value} :EnvOK (envOfC qual sc L f cd) (gamOf sc) sc where
 kind:=K.kind
 glob:=rfl
 blt:=rfl
 names:=fun x k h=>by
  rcases zbW h with ⟨j,hj,_⟩ | ⟨hm,_⟩
  · rcases zeS (List.mem_of_getElem? hj) with q | q <;> exact K.odd _ q
  · exact K.odd _ hm
 gl:=fun x h=>by
  rcases zbW h with ⟨j,_,e⟩ | ⟨hm,_⟩
  · exact nofO e
  · exact K.look _ hm
 slots:=fun x i h=>by
  rcases zbW h with ⟨j,hj,e⟩ | ⟨_,e⟩
  · (refine sy1 (Option.some.inj e) ?_;clear e;intro zq;subst zq);exact (List.getElem?_eq_some_iff.mp hj).1
  · exact noC Option.ctorIdx e rfl
 cells:=fun x h=>⟨h,by
  have:=cellsFrom_some sc.names (L + 1) [] (.inl h)
  exact Option.isSome_iff_exists.mp this⟩
theorem fn_fnenv {sc:Scope} {ps:List Str} (K:FnSc sc ps) {qual:Str} {L f:Addr} {cd:Value} {Φ:Fram} (hf:Φ.fenv=envOfC qual sc L f cd) (hL:Φ.L=L) :FnEnv Φ (envOfC qual sc L f cd) (gamOf sc) sc where
 E:=fn_env K
 fenv:=hf
 loc:=hL.symm
 names:=rfl
 kinds:=fun x i h=>by
  rcases zbW h with ⟨j,hj,_⟩ | ⟨_,e⟩
  · rcases zeS (List.mem_of_getElem? hj) with q | q
    · exact .inl (K.look _ q)
    · exact .inr (K.look _ q)
  · exact noC Option.ctorIdx e rfl
 inj:=fun x y i hx hy=>by
  rcases zbW hx with ⟨j,hj,e⟩ | ⟨_,e⟩
  · (refine sy1 (Option.some.inj e) ?_;clear e;intro zq;subst zq)
    rcases zbW hy with ⟨j',hj',e⟩ | ⟨_,e⟩
    · (refine sy1 (Option.some.inj e) ?_;clear e;intro zq;subst zq)
      rw [hj] at hj';exact Option.some.inj hj'
    · exact noC Option.ctorIdx e rfl
  · exact noC Option.ctorIdx e rfl
 cinj:=fun x y c hx hy=>by
  have:=zdC (names:=sc.names) (n:=L + 1) (acc:=[]) (fun p hp=>by cases hp) (fun p hp=>by cases hp) _ (zbG hx) _ (zbG hy) rfl
  exact congrArg Prod.fst this
theorem fn_sok {sc:Scope} {ps:List Str} (K:FnSc sc ps) {qual:Str} {L f:Addr} {cd:Value} {Φ:Fram} (hL:Φ.L=L) {N cells:Led} {ρ:Rho} {ws:List MV} {xs:List Value} (r:RepVs N ρ ws xs) (hl:ws.length=ps.length)
 (Y:CellsAre (bindC (envOfC qual sc L f cd).kindOf (ps.zip xs) fun _=>none) (cellsFrom (L + 1) sc.names []) cells) (hc:∀ p∈ cells,p∈ N) (hnp:ps.length≤(zaM sc).length) :
 SOK (envOfC qual sc L f cd) (gamOf sc) Φ (bindL (envOfC qual sc L f cd).kindOf (ps.zip xs) fun _=>none) N ρ (ws.map some ++ List.replicate ((zaM sc).length - ps.length) none) where
 V:=⟨by rw [List.length_append,List.length_map,List.length_replicate,hl];show ps.length + ((zaM sc).length - ps.length)=(zaM sc).length;lia,fun x i mv h1 h2=>by
  rcases zbW h1 with ⟨j,hj,e⟩ | ⟨_,e⟩
  · (refine sy1 (Option.some.inj e) ?_;clear e;intro zq;subst zq)
    have hi:i < ws.length:=by
     rcases Nat.lt_or_ge i ws.length with q | q
     · exact q
     · rw [List.getElem?_append_right (by simpa using q)] at h2
       have:=List.mem_of_getElem? h2
       rw [List.mem_replicate] at this
       cases this.2
    rw [List.getElem?_append_left (by simpa using hi),List.getElem?_map,Option.map_eq_some_iff] at h2
    refine x1_2 h2 ?_;(try clear h2);intro w hw e
    (refine sy1 (Option.some.inj e) ?_;clear e;intro zq;subst zq)
    refine x1_2 (r.get hw) fun v hv rv=>?_
    have hp:ps[i]? =some x:=by
     have:=K.own
     rw [← this,List.getElem?_take_of_lt (by lia)]
     exact hj
    have hz:(x,v)∈ ps.zip xs:=List.mem_of_getElem? (i:=i) (by rw [List.getElem?_zip_eq_some];exact ⟨hp,hv⟩)
    have hnd:((ps.zip xs).map (·.1)).Nodup:=by
     rw [List.map_fst_zip (by rw [r.length,hl];exact Nat.le_refl _)]
     rw [← K.own]
     exact (List.take_sublist _ _).nodup K.nd
    refine ⟨v,?_,rv⟩
    rcases zeS (List.mem_of_getElem? hj) with q | q
    · have hk:(envOfC qual sc L f cd).kindOf x=some .local:=K.look _ q
      exact .loc hk hL.symm (bindL_get hk hnd hz)
    · have hk:(envOfC qual sc L f cd).kindOf x=some .cell:=K.look _ q
      refine x1_1 (((fn_env (qual:=qual) (L:=L) (f:=f) (cd:=cd) K).cells x (K.look _ q)).2) fun c hcl=>?_
      refine x1_2 ((zey Y).1 _ (zbG hcl)) fun o ho hd=>?_
      exact .cell c o hk hcl (hc _ ho) (by rw [hd,bindC_get (by rw [hk];simp) hnd hz])
  · exact noC Option.ctorIdx e rfl⟩
 C:=fun b hb=>by
  refine x1_2 (List.mem_map.mp hb) ?_;rintro p hp rfl
  refine x1_2 ((zey Y).1 p hp) fun o ho hd=>?_
  exact ⟨o,_,hc _ ho,hd⟩
noncomputable def zcY (g h:Heap) :Heap:={g with objs:=Array.ofFn (n:=g.objs.size) fun i=>match g.get? i.val,h.get? i.val with | some _,some o=>o | _,_=>{cls:= .none,data:= .freed}}
theorem zcX (g h:Heap) :(zcY g h).objs.size=g.objs.size:=by unfold zcY;simp
set_option backward.match.sparseCases true in
set_option tactic.hygienic true in
theorem zby (g h:Heap) (b:Addr) :(zcY g h).get? b=match g.get? b with | none=>none | some _=>h.get? b:=by
 have key:(zcY g h).get? b=match (zcY g h).objs[b]? with | some ⟨_,_,.freed,_⟩=>none | o=>o:=rfl
 rw [key]
 unfold zcY
 simp only [Array.getElem?_ofFn]
 by_cases hb:@LT.lt Nat _ b g.objs.size
 · simp only [hb,dif_pos]
   cases hg:g.get? b with
   | none=>rfl
   | some o=>
    cases hh:h.get? b with
    | none=>rfl
    | some o'=>
     dsimp only
     have:h.get? b=match h.objs[b]? with | some ⟨_,_,.freed,_⟩=>none | o=>o:=rfl
     rw [hh] at this
     split
     · rename_i c d sl e
       exfalso
       (refine sy1 (Option.some.inj e) ?_;clear e;intro zq;subst zq)
       revert this
       split
       · intro q;exact noC Option.ctorIdx q rfl
       · rename_i hne
         intro q
         exact hne _ _ _ q.symm
     · rfl
 · simp only [hb,dif_neg,not_false_eq_true]
   have:g.get? b=none:=Heap.get?_none_of_le (Nat.le_of_not_lt hb)
   rw [this]
noncomputable def constRep:MV→Value→Prop
 | .none,.none=>True
 | .bool b,.bool c=>b=c
 | .int i,.int j _=>i=j
 | _,_=>False
noncomputable def ConstsRep:List MV→List Value→Prop
 | [],[]=>True
 | v :: vs,x :: xs=>constRep v x∧ConstsRep vs xs
 | _,_=>False
theorem constRep.rep {N:Led} {ρ:Rho} {v:MV} {x:Value} (h:constRep v x) :RepV N ρ v x:=by
 cases v <;> cases x <;> first | exact h.elim | exact repNone | (cases h;exact zbJ) | (cases h;exact zbz)
theorem ConstsRep.rep {N:Led} {ρ:Rho} :∀ {vs:List MV} {xs:List Value},ConstsRep vs xs→RepVs N ρ vs xs
 | [],[],_=>by simp only [RepVs]
 | v :: vs,x :: xs,h=>RepVs.cons_ h.1.rep h.2.rep
 | [],_ :: _,h=>h.elim
 | _ :: _,[],h=>h.elim
inductive FnOK (C:Cfg) (S:Stat) (f:Nat) (d:MFn) :Prop
 | mk {name qual:Str} {params:Arguments} {body:List PySem.Stmt} {scope:Scope} {dV kV doc pm cdv ct oc:Value} {an od:Option Addr} {osl:Array (Option Value)} {as:List Arg} {ds:List PySem.Expr} {D:List Value}
  (look:S.K.lookup (C.fnA f)=some ⟨oc,od,.func (fnOf name qual params body scope dV kV doc pm an cdv ct),osl⟩)
  (code:codeIn S.K cdv qual=true)
  (par:params=⟨[],as,none,[],[],none,ds⟩)
  (sc:FnSc scope (as.map (·.arg)))
  (defs:(dV= .none∧D= [])∨∃ T o n,dV= .ref T∧S.K.lookup T=some o∧o.data= .seq D.toArray n)
  (rep:ConstsRep d.defs D) (le:D.length≤as.length)
  (np:d.np=as.length) (slots:d.slots=(zaM scope).length) (nple:as.length≤(zaM scope).length)
  (body_:d.body=trB C.G (gamOf scope) body) (ok:okB scope body=true)
  (plain:d.plain=true→∀ y∈ scope.names,y.2≠.cell) :FnOK C S f d
noncomputable def CodeR (C:Cfg) (S:Stat) (Φ:Fram) (m:Str→Option Value) (N:Led) (ρ:Rho) (mh:zax) (s:Shared) (f:Addr) (xs:List Value) (r:Res MV) :Prop:=
 match r with
 | .ok v mh'=>∀ R:Result→Shared→Prop,(∀ x h' tk' N' ρ',Inv C S Φ m N' ρ' mh' h'→Ext N ρ mh N' ρ' mh'→RepV N' ρ' v x→R (.ok (.ret x)) {s with heap:=h',toks:=tk'})→codeAny S.M Φ.A (.call (.ref f) ⟨xs,[]⟩) R s
 | .exc mh'=>∀ R:Result→Shared→Prop,(∀ e h' tk',Flies C Φ m N ρ mh mh' e h'→R (.error (.ref e)) {s with heap:=h',toks:=tk'})→codeAny S.M Φ.A (.call (.ref f) ⟨xs,[]⟩) R s
 | .stuck=>True
section
variable {C:Cfg} {S:Stat} {Φ:Fram} {m:Str→Option Value} {N:Led} {ρ:Rho} {mh:zax} {s:Shared} {n:Nat}
theorem HRel.base {h₁ h₂:Heap} (H:HRel C h₁ N ρ mh) (h:∀ (i:Nat) vs p its,mh[i]? =some (.ro vs)→ρ[i]? =some p→h₁.IsList p.1 its→h₂.IsList p.1 its) :HRel C h₂ N ρ mh where
 len:=H.len
 obj:=fun i o p hi hp=>by
  have:=H.obj i o p hi hp
  cases o with
  | list vs n=>exact this
  | inst c fs=>exact this
  | ro vs=>(refine x1_3 this ?_;(try clear this);intro its a b c);exact ⟨its,h i vs p _ hi hp a,b,c⟩
 apart:=H.apart
 one:=H.one
 oner:=H.oner
theorem Ext.callee {bs:List Addr} {cells N':Led} {ρ':Rho} {mh':zax} (X:ExtS bs (cells ++ N) ρ mh N' ρ' mh') (hoff:∀ p∈ N,p.1 ∉ bs) :Ext N ρ mh N' ρ' mh' where
 pre:=X.pre
 keep:=fun p hp ho=>(mem_strip.mp (X.keep p (mem_strip.mpr ⟨List.mem_append_right _ hp,hoff p hp⟩) ho)).1
 keys:=fun p hp=>let ⟨o,ho⟩:=X.keys p (mem_strip.mpr ⟨List.mem_append_right _ hp,hoff p hp⟩);⟨o,(mem_strip.mp ho).1⟩
 fresh:=fun i q hq hi p hp=>X.fresh i q hq hi p (mem_strip.mpr ⟨List.mem_append_right _ hp,hoff p hp⟩)
 ver:=fun i vs n hi=>let ⟨vs',n',a,b,c⟩:=X.ver i vs n hi;⟨vs',n',a,b,fun e=>⟨(c e).1,fun p hp q hq hpq=>(mem_strip.mp ((c e).2 p (mem_strip.mpr ⟨List.mem_append_right _ hp,hoff p hp⟩) q hq hpq)).1⟩⟩
 ro:=X.ro
 back:=X.back
theorem cellsFrom_nil:∀ {names:List (Str × NameKind)} {n:Nat} {acc:List (Str × Addr)},(∀ y∈ names,y.2≠.cell)→cellsFrom n names acc=acc
 | [],_,_,_=>rfl
 | (x,k) :: r,n,acc,h=>by
  unfold cellsFrom
  have:(k == NameKind.cell)=false:=by simpa using h _ List.mem_cons_self
  rw [this,if_neg (by simp)]
  exact cellsFrom_nil fun y hy=>h y (List.mem_cons_of_mem _ hy)
theorem isList_one {h:Heap} {a:Addr} {i j:Array Value} (h1:h.IsList a i) (h2:h.IsList a j) :i=j:=by
 obtain ⟨o,e,_,n,d⟩:=h1
 obtain ⟨o',e',_,n',d'⟩:=h2
 rw [e] at e'
 (refine sy1 (Option.some.inj e') ?_;clear e';intro zq;subst zq)
 rw [d] at d'
 cases d'
 rfl
theorem cut_up {g₁ g g':Heap} (st:g₁.StaysIn g) (u:UpS g g') :UpS g₁ (zcY g₁ g') where
 size:=zcX _ _
 no:=fun b e=>by rw [zby,e]
 up:=fun b o e=>by
  rw [zby,e]
  exact u.up b o (st b o e)
 same:=fun b o e hd=>by
  rw [zby,e]
  exact u.same b o (st b o e) hd
theorem cut_in {g₁ g':Heap} {b:Addr} {o:Obj} (e:(zcY g₁ g').get? b=some o) :g'.get? b=some o:=by
 rw [zby] at e
 cases h:g₁.get? b with
 | none=>rw [h] at e;exact nofO e
 | some o'=>rw [h] at e;exact e
theorem back_inv {g₁ g g':Heap} {N₂:Led} {ρ₂:Rho} {mh₂:zax} {h₁ h₂:Heap} {m₂:Str→Option Value} {L':Addr} {A':Around} {fenv':Env} (u₁:UpS Φ.h₀ g₁) (I₀:Inv0 C S (Φ.at g₁) m N ρ mh h₁) (Xb:S.K.In Φ.base) (Tb:Top S.p S.loose S.mean S.mg S.mb Φ.base∧DictFr Φ.outer Φ.h₀)
 (FG:Fr g₁ Φ.L g m) (st:g₁.StaysIn g) (u:UpS g g') (I₂:Inv0 C S ⟨Φ.A,A',Φ.base,g',Φ.fenv :: Φ.outer,fenv',L'⟩ m₂ N₂ ρ₂ mh₂ h₂) (X:Ext N ρ mh N₂ ρ₂ mh₂) :Inv C S Φ m N₂ ρ₂ mh₂ h₂:=by
 have sb:Φ.base.StaysIn (zcY g₁ g'):=fun b o e=>by
  rw [zby,I₀.B.stays b o e]
  exact I₂.B.stays b o e
 have uu:=cut_up st u
 refine x3_3 FG.ns fun oL es ep e1 e2 e3=>?_
 refine x1_1 (u.up _ _ e1) fun sl e4=>?_
 refine ⟨⟨zcY g₁ g',u₁.trans uu,⟨⟨I₀.B.stack,sb,?_⟩,I₀.hA,I₀.hh,I₀.hf,I₀.hk,⟨⟨_,es,ep,I₂.F.keep _ _ e4,e2,e3⟩,fun b o e=>I₂.F.keep _ _ (cut_in e),?_⟩,Xb.keeps sb,fun p hp=>⟨(I₂.NN p hp).1,fun q=>?_,?_⟩,Tb.1.keeps sb,?_⟩⟩,Xb,Tb⟩
 · exact I₀.B.frames.of_keeps fun b o hb _=>by
    refine x1_1 (uu.up b o hb) fun sl e=>?_
    exact ⟨_,e,rfl⟩
 · show (zcY g₁ g').objs.size≤Φ.L
   rw [zcX]
   exact I₀.F.above
 · have:=(I₂.NN p hp).2.2
   rw [q] at this
   have e5:g'.get? Φ.L=none:=this
   rw [e4] at e5;exact noC Option.ctorIdx e5 rfl
 · have h1:g'.get? p.1=none:=(I₂.NN p hp).2.2
   show (zcY g₁ g').get? p.1=none
   rw [zby]
   cases g₁.get? p.1 <;> first | rfl | exact h1
 · refine I₂.H.base fun i ws p its hi hp hl=>?_
   have h1:=X.back i ws hi
   refine x1_2 (I₀.H.at h1) fun q hq hr=>?_
   have:=X.pre i q hq
   rw [hp] at this
   (refine sy1 (Option.some.inj this) ?_;clear this;intro zq;subst zq)
   refine x1_3 hr ?_;(try clear hr);rintro its₀ ⟨o,a1,a2,k,a3⟩ _ _
   have nd:∀ es ep,o.data≠.dict es ep:=fun es ep q=>by rw [a3] at q;cases q
   have h2:Heap.IsList g' p.1 its₀.toArray:=⟨o,u.same _ _ (st _ _ a1) nd,a2,k,a3⟩
   rw [isList_one hl h2]
   exact ⟨o,uu.same _ _ a1 nd,a2,k,a3⟩
theorem back_flies {g₁ g g':Heap} {N₂:Led} {ρ₂:Rho} {mh₂:zax} {h₁ h₂:Heap} {e:Addr} (u₁:UpS Φ.h₀ g₁) (I₀:Inv0 C S (Φ.at g₁) m N ρ mh h₁)
 (FG:Fr g₁ Φ.L g m) (st:g₁.StaysIn g) (u:UpS g g') (B₂:Below Φ.A Φ.base (Φ.fenv :: Φ.outer) g') (H₂:HRel C g' N₂ ρ₂ mh₂) (X:Ext N ρ mh N₂ ρ₂ mh₂)
 (R:RaisedN Φ.base (Φ.fenv :: Φ.outer) e (.ref (C.excA 0)) N₂ h₂) (U:g'.UpToSlots h₂) :Flies C Φ m N ρ mh mh₂ e h₂:=by
 have sb:Φ.base.StaysIn (zcY g₁ g'):=fun b o e=>by
  rw [zby,I₀.B.stays b o e]
  exact B₂.stays b o e
 have uu:=cut_up st u
 refine x3_3 FG.ns fun oL es ep e1 e2 e3=>?_
 refine x1_1 (u.up _ _ e1) fun sl e4=>?_
 refine ⟨zcY g₁ g',u₁.trans uu,⟨I₀.B.stack,sb,I₀.B.frames.of_keeps fun b o hb _=>by
  refine x1_1 (uu.up b o hb) fun sl e=>?_
  exact ⟨_,e,rfl⟩⟩,N₂,ρ₂,g',R,⟨⟨_,es,ep,e4,e2,e3⟩,fun b o e=>cut_in e,?_⟩,U,?_,X⟩
 · show (zcY g₁ g').objs.size≤Φ.L
   rw [zcX]
   exact I₀.F.above
 · refine H₂.base fun i ws p its hi hp hl=>?_
   have h1:=X.back i ws hi
   refine x1_2 (I₀.H.at h1) fun q hq hr=>?_
   have:=X.pre i q hq
   rw [hp] at this
   (refine sy1 (Option.some.inj this) ?_;clear this;intro zq;subst zq)
   refine x1_3 hr ?_;(try clear hr);rintro its₀ ⟨o,a1,a2,k,a3⟩ _ _
   have nd:∀ es ep,o.data≠.dict es ep:=fun es ep q=>by rw [a3] at q;cases q
   have h2:Heap.IsList g' p.1 its₀.toArray:=⟨o,u.same _ _ (st _ _ a1) nd,a2,k,a3⟩
   rw [isList_one hl h2]
   exact ⟨o,uu.same _ _ a1 nd,a2,k,a3⟩
theorem leave_own {M:Model} {A:Around} {E:Value→Shared→Prop} {s':Shared} {base g h:Heap} {outer:List Env} {L a e:Addr} {m:Str→Option Value} {name:Str} {scope:Scope} {cd:Value} {Q:Unit→Shared→Prop} {news:List (Addr × Obj)} {cls:Value}
 (K:Below A base outer g) (hx:MadeOwn h s'.heap e cls) (F:Fr g L h m) (NN:News g L h news) (hQ:∀ h',RaisedN base outer e cls news h'→g.UpToSlots h'→Q () {s' with heap:=h'}) (hk:scope.kind= .function) :
 wpAny M (A.deeper (envOf name scope L a cd)) (leaving (envOf name scope L a cd) (.ref e)) Q E s':=by
 have K':=K.push (name:=name) (a:=a) (cd:=cd) F hk
 refine x3_5 hx.there fun ob vs t he hc hd h0 h1=>?_
 let fr:=(envOf name scope L a cd :: outer).filterMap (·.frame)
 have hin:∀ env∈ (envOf name scope L a cd :: outer),∀ b,env.frame=some b→b∈ fr:=fun env he b hb=>List.mem_filterMap.mpr ⟨env,he,hb⟩
 have st:base.StaysIn (hideAll h fr):=fun b o q=>hideAll_get _ (K'.stays b o q) fun hm=>by
  rw [(K'.frames.mem hm).1] at q;exact nofO q
 have hl:∀ q∈ news,(hideAll h fr).get? q.1=some q.2∧base.get? q.1=none:=fun q hq=>by
  refine ⟨hideAll_get _ (NN q hq).1 fun hm=>?_,fresh_of_stays K.stays (NN q hq).2.2⟩
  refine x1_2 (List.mem_filterMap.mp hm) fun env he hf=>?_
  rcases List.mem_cons.mp he with rfl | he
  · exact (NN q hq).2.1 (Option.some.inj hf).symm
  · refine x1_2 ((K.frames.mem (List.mem_filterMap.mpr ⟨env,he,hf⟩)).2) fun o ho _=>?_
    rw [(NN q hq).2.2] at ho;exact nofO ho
 have hen:(hideAll h fr).get? e=none:=by
  cases q:(hideAll h fr).get? e with
  | none=>rfl
  | some o=>have:=of_hideAll _ q;rw [hx.new] at this;exact nofO this
 refine wpAny_leaving_firstW (a0:=t) K'.stack ((funFrames_hide K'.frames hin).of_keeps fun b o hb _=>⟨o,hx.keeps b o hb,rfl⟩) rfl he (fun b o hb=>hx.keeps b o (of_hideAll _ hb)) hen hd h1 h0 fun h' hL=>?_
 refine x0_4 hL ?_;(try clear hL);rintro k1 ⟨_,_,k2⟩ k3 k4
 exact hQ h' ⟨_,t,st,hl,k1,hen,k2,by rw [← hc];exact k3⟩ (((Heap.UpToSlots.of_keeps F.keep).trans (Heap.UpToSlots.of_keeps hx.keeps)).trans k4)
end
section
variable {C:Cfg} {S:Stat} {Φ:Fram} {m:Str→Option Value} {N:Led} {ρ:Rho} {mh:zax} {s:Shared} {n:Nat}
theorem dictFr_push {h₀ g₁ g:Heap} {L:Addr} {m:Str→Option Value} {env:Env} {l:List Env} (u:UpS h₀ g₁) (hf:env.frame=some L) (FG:Fr g₁ L g m) (st:g₁.StaysIn g) (D:DictFr l h₀) :DictFr (env :: l) g:=fun a ha=>by
 rw [List.filterMap_cons,hf] at ha
 rcases List.mem_cons.mp ha with rfl | ha
 · refine x3_3 FG.ns fun o es ep h1 h2 _=>?_
   exact ⟨o,es,ep,h1,h2⟩
 · refine x3_2 (D a ha) fun o es ep h1 h2=>?_
   refine x1_1 (u.up _ _ h1) fun sl h3=>?_
   exact ⟨_,es,ep,st _ _ h3,h2⟩
set_option backward.match.sparseCases true in
theorem callY {R:Result→Shared→Prop} {g₁:Heap} {name qual:Str} {params:Arguments} {body:List PySem.Stmt} {scope:Scope} {dV kV doc pm cdv ct:Value} {an:Option Addr} {f:Addr} {fo:Obj} {args:Args} {binds:List (Str × Value)}
 (I₀:Inv0 C S (Φ.at g₁) m N ρ mh s.heap) (ho:s.heap.get? f=some fo) (hd:fo.data= .func (fnX name qual params body scope [] dV kV doc pm an cdv ct)) (hcd:s.heap.CodeRec cdv qual) (hroom:Φ.A.depth < recursionLimit)
 (hbind:BindsTo s (fnX name qual params body scope [] dV kV doc pm an cdv ct) args binds)
 (hkind:∀ n,∀ x∈ binds,scope.names.lookup x.1=some .local∨(scope.names.lookup x.1=some .cell∧((cellsFrom n scope.names []).lookup x.1).isSome=true))
 (hnd:((cellsFrom 0 scope.names []).map (·.1)).Nodup)
 (h:∀ g L' h₁ tk cells,Fr g₁ Φ.L g m→Fr g L' h₁ (bindL (envOfC qual scope L' f cdv).kindOf binds fun _=>none)→News g L' h₁ (cells ++ N)→
  CellsAre (bindC (envOfC qual scope L' f cdv).kindOf binds fun _=>none) (cellsFrom (L' + 1) scope.names []) cells→Below Φ.A Φ.base (Φ.fenv :: Φ.outer) g→g₁.StaysIn g→(∀ p∈ N,p.1 < L')→s.heap.StaysIn h₁→
  wpAny S.M (Φ.A.deeper (envOfC qual scope L' f cdv)) (execs body (envOfC qual scope L' f cdv))
   (fun fl s'=>R (.ok (.ret (match fl with | .ret v=>v | _=> .none))) s')
   (fun e s'=>wpAny S.M (Φ.A.deeper (envOfC qual scope L' f cdv)) (leaving (envOfC qual scope L' f cdv) e) (fun _ s''=>R (.error e) s'') (fun e' s''=>R (.error e') s'') s')
   {s with heap:=h₁,toks:=tk})
 (hco:scope.isCoroutine=false) (hgen:scope.isGenerator=false) (hk:scope.kind= .function) :codeAny S.M Φ.A (.call (.ref f) args) R s:=by
 refine x0_4 (groundX (R:=R) I₀.B I₀.F I₀.NN I₀.hA I₀.hf I₀.hk) ?_;rintro FG BG st (-)
 refine codeAny_call_function hroom ho hd hco hgen rfl hcd (hbind _ _ _ _ ?_)
 refine wpAny_newFunctionEnv_cells hk (hkind _) fun env' he s' x=>?_
 subst he
 refine ⟨(I₀.T.nolimit.keeps I₀.F.keep).keeps x.toInCall.keep,codeAny_func ?_⟩
 refine x2_2 x.done ?_;rintro h₁ tk rfl _
 have hk₁:=x.toInCall.keep
 refine x1_2 (Cl.news (h₀:=s.heap) (Nat.le_refl _) fun n c hm=>⟨x.cell n c (lookup_of_mem_nodup (cellsFrom_names scope.names 0 (s.heap.objs.size + 1) [] [] rfl ▸ hnd) hm),x.above n c hm⟩) fun cells NC Y=>?_
 refine h _ s.heap.objs.size h₁ tk cells FG ⟨x.toInCall.ns,fun b o e=>hk₁ b o (of_hideAll _ e),Nat.le_of_eq (hideAll_size _ _)⟩ (fun p hp=>?_) Y BG st (fun p hp=>Heap.lt_size (I₀.NN p hp).1) hk₁
 rcases List.mem_append.mp hp with hp | hp
 · refine ⟨(NC p hp).1,(NC p hp).2.1,?_⟩
   cases q:(hideAll s.heap (N.map (·.1))).get? p.1 with
   | none=>rfl
   | some o=>have:=of_hideAll _ q;rw [(NC p hp).2.2] at this;exact nofO this
 · exact ⟨hk₁ _ _ (I₀.NN p hp).1,Nat.ne_of_lt (Heap.lt_size (I₀.NN p hp).1),hideAll_none _ (List.mem_map_of_mem hp)⟩
set_option backward.match.sparseCases true in
set_option tactic.hygienic true in
theorem fn_code (hB:∀ sc b,okB sc b=true→SimB C S n sc b) {f:Nat} {d:MFn} (hf:C.fns f=some d) (K:FnOK C S f d) (I:Inv C S Φ m N ρ mh s.heap) (R₁:Φ.A.depth + 1 + 2 * n + 8 < recursionLimit) (R₂:Φ.A.units + 3 + 16 * n + 64 < cLine)
 {vs:List MV} {xs:List Value} (r:RepVs N ρ vs xs) :CodeR C S Φ m N ρ mh s (C.fnA f) xs (zay C.T C.fns (n + 1) f vs mh):=by
 obtain ⟨look,code,rfl,sc,defs,rep,le,np,slots,nple,body_,ok,plain⟩:=K
 rename_i name qual body scope dV kV doc pm cdv ct oc an od osl as ds D
 unfold zay
 rw [hf]
 simp only []
 refine Inv.open I fun g₁ u₁ I₀ xb tb=>?_
 cases hbd:zdD d.np d.defs vs with
 | none=>trivial
 | some ws=>
  simp only []
  unfold zdD at hbd
  split at hbd
  · rename_i hlen
    simp only [Option.some.injEq] at hbd
    have hdl:D.length=d.defs.length:=(rep.rep (N:=[]) (ρ:=[])).length
    have hxl:xs.length=vs.length:=r.length
    rw [np] at hbd hlen
    have rws:RepVs N ρ ws (xs ++ D.drop (xs.length + D.length - as.length)):=by
     rw [← hbd,hxl,hdl]
     exact r.append (rep.rep.drop _)
    have wl:ws.length=(as.map (·.arg)).length:=by
     rw [← hbd,List.length_append,List.length_drop,List.length_map];omega
    have nd:(as.map (·.arg)).Nodup:=by rw [← sc.own];exact (List.take_sublist _ _).nodup sc.nd
    have hK:S.K.In s.heap:=I.inK
    have hbind:BindsTo s (fnX name qual ⟨[],as,none,[],[],none,ds⟩ body scope [] dV kV doc pm an cdv ct) ⟨xs,[]⟩ ((as.map (·.arg)).zip (xs ++ D.drop (xs.length + D.length - as.length))):=
     binds_of rfl nd (by
      rcases defs with h | ⟨T,o,k,h1,h2,h3⟩
      · exact .inl h
      · exact .inr ⟨T,o,k,h1,hK _ _ h2,h3⟩) (by lia) (by lia) le
    have hkind:(((as.map (·.arg)).zip (xs ++ D.drop (xs.length + D.length - as.length))).all fun y=>scope.names.lookup y.1 == some .local || scope.names.lookup y.1 == some .cell)=true:=by
     rw [List.all_eq_true]
     intro y hy
     have h1:y.1∈ as.map (·.arg):=(List.of_mem_zip hy).1
     have h2:y.1∈ zaM scope:=by rw [← sc.own] at h1;exact List.mem_of_mem_take h1
     rcases zeS h2 with q | q
     · rw [sc.look _ q];rfl
     · rw [sc.look _ q];rfl
    have core:∀ R:Result→Shared→Prop,(∀ g L' h₁ tk cells,Fr g₁ Φ.L g m→Fr g L' h₁ (bindL (envOfC qual scope L' (C.fnA f) cdv).kindOf ((as.map (·.arg)).zip (xs ++ D.drop (xs.length + D.length - as.length))) fun _=>none)→News g L' h₁ (cells ++ N)→
     CellsAre (bindC (envOfC qual scope L' (C.fnA f) cdv).kindOf ((as.map (·.arg)).zip (xs ++ D.drop (xs.length + D.length - as.length))) fun _=>none) (cellsFrom (L' + 1) scope.names []) cells→Below Φ.A Φ.base (Φ.fenv :: Φ.outer) g→g₁.StaysIn g→(∀ p∈ N,p.1 < L')→
     wpAny S.M (Φ.A.deeper (envOfC qual scope L' (C.fnA f) cdv)) (execs body (envOfC qual scope L' (C.fnA f) cdv))
      (fun fl s'=>R (.ok (.ret (match fl with | .ret v=>v | _=> .none))) s')
      (fun e s'=>wpAny S.M (Φ.A.deeper (envOfC qual scope L' (C.fnA f) cdv)) (leaving (envOfC qual scope L' (C.fnA f) cdv) e) (fun _ s''=>R (.error e) s'') (fun e' s''=>R (.error e') s'') s')
      {s with heap:=h₁,toks:=tk})→codeAny S.M Φ.A (.call (.ref (C.fnA f)) ⟨xs,[]⟩) R s:=fun R hh=>
     callY I₀ (hK _ _ look) rfl (codeRec_of hK code) (by omega) hbind (kindsX hkind) sc.cnd (fun g L' h₁ tk cells a b c d e f i _=>hh g L' h₁ tk cells a b c d e f i) sc.co sc.gen sc.kind
    have run:∀ g L' h₁ tk cells,Fr g₁ Φ.L g m→Fr g L' h₁ (bindL (envOfC qual scope L' (C.fnA f) cdv).kindOf ((as.map (·.arg)).zip (xs ++ D.drop (xs.length + D.length - as.length))) fun _=>none)→News g L' h₁ (cells ++ N)→
     CellsAre (bindC (envOfC qual scope L' (C.fnA f) cdv).kindOf ((as.map (·.arg)).zip (xs ++ D.drop (xs.length + D.length - as.length))) fun _=>none) (cellsFrom (L' + 1) scope.names []) cells→Below Φ.A Φ.base (Φ.fenv :: Φ.outer) g→g₁.StaysIn g→
     SimX C S ⟨Φ.A,Φ.A.deeper (envOfC qual scope L' (C.fnA f) cdv),Φ.base,g,Φ.fenv :: Φ.outer,envOfC qual scope L' (C.fnA f) cdv,L'⟩ (envOfC qual scope L' (C.fnA f) cdv) (gamOf scope) (cells ++ N) ρ mh {s with heap:=h₁,toks:=tk}
      (fun Q E=>wpAny S.M (Φ.A.deeper (envOfC qual scope L' (C.fnA f) cdv)) (execs body (envOfC qual scope L' (C.fnA f) cdv)) Q E {s with heap:=h₁,toks:=tk})
      (zaC C.T (zay C.T C.fns n) d.body (ws.map some ++ List.replicate (d.slots - d.np) none) mh):=by
     intro g L' h₁ tk cells FG F' N' Y B' st
     have I':Inv C S ⟨Φ.A,Φ.A.deeper (envOfC qual scope L' (C.fnA f) cdv),Φ.base,g,Φ.fenv :: Φ.outer,envOfC qual scope L' (C.fnA f) cdv,L'⟩ (bindL (envOfC qual scope L' (C.fnA f) cdv).kindOf ((as.map (·.arg)).zip (xs ++ D.drop (xs.length + D.length - as.length))) fun _=>none) (cells ++ N) ρ mh h₁:=
      ⟨⟨g,UpS.refl g,B',Around.frames_deeper I₀.hA,I₀.hh,rfl,sc.kind,F',I₀.X.keeps st,N',I₀.T.keeps st,(I₀.H.more fun p hp=>List.mem_append_right _ hp).base fun i ws p its _ _ hl=>by
       (refine x1_2 hl ?_;(try clear hl);intro o e hr);exact ⟨o,st _ _ e,hr⟩⟩,xb,tb.1,dictFr_push u₁ I₀.hf FG st tb.2⟩
     have V':=fn_sok (f:=C.fnA f) (cd:=cdv) (qual:=qual) (Φ:=⟨Φ.A,Φ.A.deeper (envOfC qual scope L' (C.fnA f) cdv),Φ.base,g,Φ.fenv :: Φ.outer,envOfC qual scope L' (C.fnA f) cdv,L'⟩) sc rfl (N:=cells ++ N) (cells:=cells) (RepVs.mono (fun _ _ _ h=>List.mem_append_right _ h) (fun _ _ z=>z) rws) wl Y (fun p hp=>List.mem_append_left _ hp) (by rw [List.length_map];exact nple)
     rw [List.length_map] at V'
     rw [body_,slots,np]
     exact hB scope body ok _ _ _ _ _ _ _ _ _ I' ⟨by show Φ.A.depth + 1 + 2 * n + 8 < recursionLimit;exact R₁,by show Φ.A.units + 3 + 16 * n + 64 < cLine;exact R₂⟩ (fn_fnenv sc rfl rfl) V'
    have offBs:∀ {L':Addr},(∀ p∈ N,p.1 < L')→∀ p∈ N,p.1 ∉ bsOf (envOfC qual scope L' (C.fnA f) cdv):=by
     intro L' hl p hp hb
     refine x1_2 (List.mem_map.mp hb) fun q hq e=>?_
     rcases zdB hq with h | ⟨_,h⟩
     · cases h
     · have h1:@LT.lt Nat _ p.1 L':=hl p hp
       have h2:@LE.le Nat _ (L' + 1) p.1:=e ▸ h
       omega
    generalize hr:zaC C.T (zay C.T C.fns n) d.body (ws.map some ++ List.replicate (d.slots - d.np) none) mh=res at run
    cases res with
    | stuck=>trivial
    | nxt l' mh'=>
     intro R hR
     refine core R fun g L' h₁ tk cells FG F' N' Y B' st hl=>run g L' h₁ tk cells FG F' N' Y B' st _ _ fun h₂ tk₂ m₂ N₂ ρ₂ I₂ X₂ V₂=>?_
     have X₃:=Ext.callee X₂ (offBs hl)
     refine Inv.open I₂ fun g' u' J₂ _ _=>?_
     exact hR .none h₂ tk₂ N₂ ρ₂ (back_inv u₁ I₀ xb tb FG st u' J₂ X₃) X₃ repNone
    | ret v mh'=>
     intro R hR
     refine core R fun g L' h₁ tk cells FG F' N' Y B' st hl=>run g L' h₁ tk cells FG F' N' Y B' st _ _ fun x h₂ tk₂ m₂ N₂ ρ₂ I₂ X₂ rv=>?_
     have X₃:=Ext.callee X₂ (offBs hl)
     refine Inv.open I₂ fun g' u' J₂ _ _=>?_
     exact hR x h₂ tk₂ N₂ ρ₂ (back_inv u₁ I₀ xb tb FG st u' J₂ X₃) X₃ rv
    | exc l' mh'=>
     cases hp:d.plain with
     | false=>trivial
     | true=>
      simp only [if_true]
      intro R hR
      have hnc:=plain hp
      refine core R fun g L' h₁ tk cells FG F' N' Y B' st hl=>run g L' h₁ tk cells FG F' N' Y B' st _ _ fun e h₂ tk₂ x=>?_
      have eqE:envOfC qual scope L' (C.fnA f) cdv=envOf qual scope L' (C.fnA f) cdv:=by
       unfold envOfC envOf
       rw [cellsFrom_nil hnc]
      rcases x with ⟨g',u',bl,m',N₂,ρ₂,g₂,a1,a2,a3,a4,a5⟩ | ⟨m',h₃,N₂,ρ₂,a1,a2,a3⟩
      · have X₃:=Ext.callee a5 (offBs hl)
        dsimp only at a1
        rw [eqE] at a1 ⊢
        exact leave_onN bl a2 a1 a3 fun h₄ R₄ U₄=>hR e h₄ tk₂ (back_flies u₁ I₀ FG st u' bl a4 X₃ R₄ U₄)
      · have X₃:=Ext.callee a3 (offBs hl)
        refine Inv.open a1 fun g' u' J₂ _ _=>?_
        rw [eqE]
        exact leave_own J₂.B a2 J₂.F J₂.NN (fun h₄ R₄ U₄=>hR e h₄ tk₂ (back_flies u₁ I₀ FG st u' J₂.B J₂.H X₃ R₄ U₄)) sc.kind
  · exact nofO hbd
end
section
variable {C:Cfg} {S:Stat} {Φ:Fram} {m:Str→Option Value} {N:Led} {ρ:Rho} {mh:zax} {s:Shared} {n:Nat}
noncomputable abbrev Fram.new (Φ:Fram) (a:Addr) (xs:List Value) :Fram:=⟨Φ.A₀,Φ.A.under (.builtin "type.__call__" ⟨.ref a :: xs,[]⟩),Φ.base,Φ.h₀,Φ.outer,Φ.fenv,Φ.L⟩
theorem rm1 {a u n r:Nat} (h:a + 2 * (n + 1) + 8 < r) (l:u≤a + 1) :u + 1 + 2 * n + 8 < r:=
 Nat.lt_of_le_of_lt (Nat.add_le_add_right (Nat.le_trans (Nat.add_le_add_right (Nat.add_le_add_right l 1) (2 * n)) (Nat.le_of_eq ((Nat.add_assoc a 2 (2 * n)).trans (congrArg (a + ·) (Nat.add_comm 2 (2 * n)))))) 8) h
theorem rm2 {a u n r:Nat} (h:a + 16 * (n + 1) + 64 < r) (l:u≤a + 8) :u + 3 + 16 * n + 64 < r:=
 Nat.lt_of_le_of_lt (Nat.add_le_add_right (Nat.le_trans (Nat.add_le_add_right (Nat.add_le_add_right l 3) (16 * n)) (Nat.le_trans (Nat.le_of_eq (Nat.add_assoc a 11 (16 * n))) (Nat.add_le_add_left (Nat.le_trans (Nat.le_of_eq (Nat.add_comm 11 (16 * n))) (Nat.add_le_add_left (by decide:11≤16) _)) a))) 64) h
theorem calls_all (Z:Sit C S) (HF:∀ f d,C.fns f=some d→FnOK C S f d) (HR:∀ n,CallsOK C S n→RaisesOK C S n) :∀ n,CallsOK C S n
 | 0=>⟨fun Φ m N ρ mh s f vs xs I R r=>trivial,fun Φ m N ρ mh s c f vs xs I R r hi=>trivial⟩
 | n + 1=>by
  have ih:=calls_all Z HF HR n
  have hB:∀ sc b,okB sc b=true→SimB C S n sc b:=fun sc b h=>simB_all Z ih (HR n ih) h
  refine ⟨fun Φ m N ρ mh s f vs xs I R r=>?_,fun Φ m N ρ mh s c f vs xs I R r hi=>?_⟩
  · cases hf:C.fns f with
    | none=>unfold zay;rw [hf];trivial
    | some d=>
     have h:=fn_code hB hf (HF f d hf) I (rm1 R.1 (Nat.le_succ _)) (rm2 R.2 (Nat.le_add_right _ 8)) r
     cases hr:zay C.T C.fns (n + 1) f vs mh with
     | stuck=>trivial
     | ok v mh'=>rw [hr] at h;exact fun Q E hQ=>wpAny_call (h _ fun x h' tk' N' ρ' I' X' r'=>hQ x h' tk' N' ρ' I' X' r')
     | exc mh'=>rw [hr] at h;exact fun Q E hE=>wpAny_call (h _ fun e h' tk' f=>hE e h' tk' f)
  · cases hf:C.fns f with
    | none=>unfold zay;rw [hf];trivial
    | some d=>
     have kc:=Z.cls c (by rw [hi];rfl)
     refine x0_2 (kc.init f hi) fun i1 i2=>?_
     refine Inv.open I fun g₁ u₁ I₀ xb tb=>?_
     have key:∀ x dx h',Fr g₁ Φ.L h' m→News g₁ Φ.L h' ((x,instObj (C.clsA c) dx) :: (dx,dictOf [] 0) :: N)→(∀ p∈ N,p.1 < dx)→dx < x→
      Inv C S (Φ.new (C.clsA c) xs) m ((x,instObj (C.clsA c) dx) :: (dx,dictOf [] 0) :: N) (ρ ++ [(x,dx)]) (mh ++ [.inst c []]) h'∧
      Ext N ρ mh ((x,instObj (C.clsA c) dx) :: (dx,dictOf [] 0) :: N) (ρ ++ [(x,dx)]) (mh ++ [.inst c []])∧
      CodeR C S (Φ.new (C.clsA c) xs) m ((x,instObj (C.clsA c) dx) :: (dx,dictOf [] 0) :: N) (ρ ++ [(x,dx)]) (mh ++ [.inst c []]) {s with heap:=h'} (C.fnA f) (.ref x :: xs) (zay C.T C.fns (n + 1) f (.ref mh.length :: vs) (mh ++ [.inst c []])):=by
      intro x dx h' F' N' l1 l2
      have sub:∀ e∈ N,e∈ (x,instObj (C.clsA c) dx) :: (dx,dictOf [] 0) :: N:=fun e he=> .tail _ (.tail _ he)
      have o1:∀ e∈ N,e.1≠x∧e.1≠dx:=fun e he=>⟨Nat.ne_of_lt (Nat.lt_trans (l1 e he) l2),Nat.ne_of_lt (l1 e he)⟩
      have fx:¬ zbS ρ x:=I₀.H.new_off (fun p hp=>(o1 p hp).1) (N' _ (.head _)).2.2
      have fd:¬ zbS ρ dx:=I₀.H.new_off (fun p hp=>(o1 p hp).2) (N' _ (.tail _ (.head _))).2.2
      have H':HRel C g₁ ((x,instObj (C.clsA c) dx) :: (dx,dictOf [] 0) :: N) (ρ ++ [(x,dx)]) (mh ++ [.inst c []]):=
       I₀.H.snoc sub ⟨[],0,.head _,.tail _ (.head _),rfl,by rw [hi];rfl⟩ fx fd (fun _ _ e=>by exact noC MObj.ctorIdx e rfl) (fun _ e=>by exact noC MObj.ctorIdx e rfl)
      have X':Ext N ρ mh ((x,instObj (C.clsA c) dx) :: (dx,dictOf [] 0) :: N) (ρ ++ [(x,dx)]) (mh ++ [.inst c []]):=Ext.snoc _ _ _ sub o1 (fun _ e=>by exact noC MObj.ctorIdx e rfl)
      have I':Inv C S (Φ.new (C.clsA c) xs) m ((x,instObj (C.clsA c) dx) :: (dx,dictOf [] 0) :: N) (ρ ++ [(x,dx)]) (mh ++ [.inst c []]) h':=
       ⟨⟨g₁,u₁,I₀.B,by
        have:=I.hA
        exact this,I₀.hh,I₀.hf,I₀.hk,F',I₀.X,N',I₀.T,H'⟩,xb,tb⟩
      refine ⟨I',X',fn_code (s:={s with heap:=h'}) hB hf (HF f d hf) I' (rm1 R.1 (Nat.le_refl _)) ?_ (RepVs.cons_ ?_ (X'.rps I r))⟩
      · refine rm2 R.2 ?_
        have hfr:Code.frames (.builtin "type.__call__" ⟨.ref (C.clsA c) :: xs,[]⟩)≤2:=by
         first
          | exact Nat.le_trans (Nat.le_of_eq (show Code.frames (.builtin "type.__call__" ⟨.ref (C.clsA c) :: xs,[]⟩)=0 from rfl)) (by decide)
          | exact Nat.le_trans (Nat.le_of_eq (show Code.frames (.builtin "type.__call__" ⟨.ref (C.clsA c) :: xs,[]⟩)=1 from rfl)) (by decide)
          | exact Nat.le_trans (Nat.le_of_eq (show Code.frames (.builtin "type.__call__" ⟨.ref (C.clsA c) :: xs,[]⟩)=2 from rfl)) (by decide)
        exact Nat.add_le_add_left (Nat.le_succ_of_le (Nat.add_le_add_left (Nat.mul_le_mul_left 3 hfr) 1)) _
      · have:(ρ ++ [(x,dx)])[mh.length]? =some (x,dx):=by rw [← I.lenH];exact snoc_new
        exact repRef this
     generalize hr:zay C.T C.fns (n + 1) f (.ref mh.length :: vs) (mh ++ [.inst c []])=res at key
     cases res with
     | stuck=>trivial
     | ok v mh'=>
      cases v with
      | none=>
       exact fun Q E hQ=>call_cls I₀.F I₀.X I₀.NN kc.makes i1 i2 fun x dx h' F' N' l1 l2=>(key x dx h' F' N' l1 l2).2.2 _ fun y h₂ tk₂ N₂ ρ₂ I₂ X₂ r₂=>by
        obtain rfl:=r₂.none_
        refine ⟨rfl,?_⟩
        have Xs:=(key x dx h' F' N' l1 l2).2.1
        have hp:ρ₂[mh.length]? =some (x,dx):=X₂.pre _ _ (by rw [← I.lenH];exact snoc_new)
        refine Inv.open I₂ fun g₂ u₂ J₂ _ _=>?_
        exact hQ (.ref x) h₂ tk₂ N₂ ρ₂ ⟨⟨g₂,u₂,J₂.B,I.hA,I.hh,J₂.hf,J₂.hk,J₂.F,J₂.X,J₂.NN,J₂.T,J₂.H⟩,xb,tb⟩ (Xs.trans X₂) (repRef hp)
      | _=>trivial
     | exc mh'=>
      exact fun Q E hE=>call_cls I₀.F I₀.X I₀.NN kc.makes i1 i2 fun x dx h' F' N' l1 l2=>(key x dx h' F' N' l1 l2).2.2 _ fun e h₂ tk₂ fl=>by
       obtain ⟨gg,uu,bl,N₂,ρ₂,g₂,a1,a2,a3,a4,a5⟩:=fl
       exact hE e h₂ tk₂ ⟨gg,uu,bl,N₂,ρ₂,g₂,a1,a2,a3,a4,(key x dx h' F' N' l1 l2).2.1.trans a5⟩
end
end Mine
set_option maxHeartbeats 2000000
namespace Mine
open PySem PySem.W PySem.Calls PyProof.Rows Builtin Builtin.ObjectAttr
noncomputable abbrev veMro:List Value:=[.type "ValueError",.type "Exception",.type "BaseException",.type "object"]
noncomputable def isRefV:Value→Bool
 | .ref _=>true
 | _=>false
noncomputable def zcy (l:List Value) :Bool:=l.dropWhile isRefV == veMro
theorem zeT {P:List Value→Prop} (h0:P veMro) (h1:∀ c r,P r→P (.ref c :: r)) :∀ {l:List Value},zcy l=true→P l
 | [],e=>by exact noC Bool.ctorIdx e rfl
 | v :: r,e=>by
  unfold zcy at e
  by_cases hv:isRefV v=true
  · rw [List.dropWhile_cons_of_pos hv] at e
    cases v with
    | ref c=>exact h1 c r (zeT h0 h1 e)
    | _=>exact noC Bool.ctorIdx hv rfl
  · rw [List.dropWhile_cons_of_neg hv] at e
    rw [beq_iff_eq.mp e];exact h0
theorem zbK {b:Bool} {X:String} (h:veMro.contains (.type X)=b) {l:List Value} (e:zcy l=true) :l.contains (.type X)=b:=
 zeT (P:=fun l=>l.contains (.type X)=b) h (fun c r ih=>by rw [List.contains_cons,ih];rfl) e
theorem excTail_refuse (self:Value) {l:List Value} (e:zcy l=true) :refuseLoop self "__setattr__" l=pure ():=
 zeT (P:=fun l=>refuseLoop self "__setattr__" l=pure ()) (PySem.F.store_ValueError.passes self) (fun c r ih=>by rw [refuseLoop_ref];exact ih) e
noncomputable abbrev zcQ (C t:Addr) :Obj:={cls:= .ref C,data:= .fields #[.ref t,.none,.none,.none,.bool false,.none]}
section
variable {prog:Program} {w:World} {A:Around} {E:Value→Shared→Prop} {h:Heap} {g:Array GenState} {d:Drawn} {t:Nat} {os:OsState} {K:Frag} {R:Result→Shared→Prop}
variable {nm q:Str} {C N:Addr} {bs bm:List Value} {hdct:Bool} {sn:List Str} {sub:List Value} {ab:Bool} {col:Option Bool} {dd:Option Addr} {k0 k1 k2 k3 k5:Option Value}
theorem exc_check_new (T:zcy bm=true) {M:Model} {rest:List Value} {Q:Unit→Shared→Prop} (hC:h.get? C=some (excClassObj nm q C N bs bm hdct sn sub ab col dd k0 k1 k2 k3 k5 "ValueError.__new__"))
 (hq:Q () ⟨h,g,d,t,os⟩) :wpAny M A (checkBuiltinCall "ValueError.__new__" ⟨.ref C :: rest,[]⟩) Q E ⟨h,g,d,t,os⟩:=by
 have F:=PySem.F.excBase_ValueError
 have hcont:(Value.ref C :: bm).contains (.type "ValueError")=true:=by rw [List.contains_cons,zbK (b:=true) rfl T,Bool.or_true]
 have hstar:=F.noStar
 simp only [checkBuiltinCall,F.newKind,F.newSplit,F.newRow]
 repeat (first | refine wpAny_loadPart_at hC ?_ | (refine wpAny_isSubtype_exc hC ?_;rw [hcont]) | refine wpAny_staticBase_exc hC ?_ | refine wpAny_madeBy_exc hC ?_ | simp only [bne_self_eq_false,Bool.false_eq_true,if_false] | wp_step)
 exact hq
theorem exc_new (T:zcy bm=true) {rest:List Value} (hC:h.get? C=some (excClassObj nm q C N bs bm hdct sn sub ab col dd k0 k1 k2 k3 k5 "ValueError.__new__"))
 (hq:R (.ok (.ret (.ref (h.objs.size + 1)))) ⟨(h.push (zaU rest.toArray 0)).push (zcQ C h.objs.size),g,d,t,os⟩) (hrest:rest.length≤sizeLine) :
 codeAny (model prog w) A (.builtin "ValueError.__new__" ⟨.ref C :: rest,[]⟩) R ⟨h,g,d,t,os⟩:=by
 have F:=PySem.F.excBase_ValueError
 have hends:=F.ends
 have hcB:(Value.ref C :: bm).contains (.type "ValueError")=true:=by rw [List.contains_cons,zbK (b:=true) rfl T,Bool.or_true]
 have hcA:(Value.ref C :: bm).contains (.type "AttributeError")=false:=by rw [List.contains_cons,zbK (b:=false) rfl T];rfl
 have hcN:(Value.ref C :: bm).contains (.type "NameError")=false:=by rw [List.contains_cons,zbK (b:=false) rfl T];rfl
 refine codeAny_builtinAt F.entry ?_
 unfold Builtin.«BaseException.__new__»
 refine PySem.wpAt_bind ?_
 show PySem.wpAt _ _ _ (stack >>= _) _ _ _
 refine PySem.wpAt_bind (PySem.wpAt_stack fun p below=>PySem.wpAt_of_wpAny ?_)
 wp_walk
 refine PySem.wpAt_of_wpAny ?_
 rw [F.owner]
 repeat (first | with_reducible refine wpAny_madeHere_exc F.canon hC ?_ | with_reducible refine wpAny_loadPart_at hC ?_ | (with_reducible refine wpAny_isSubtype_exc hC ?_;first | rw [hcB] | rw [hcA] | rw [hcN]) | wp_step)
 show R _ _
 rw [Heap.size_push]
 exact hq
theorem exc_call (X:K.In h) (T:zcy bm=true) {rest:List Value} {fI:Addr} {Q:Value→Shared→Prop}
 (hC:h.get? C=some (excClassObj nm q C N bs bm hdct sn sub ab col dd k0 k1 k2 k3 k5 "ValueError.__new__")) (hi:findIn K (.ref C) "__init__" =some (some (.ref fI))) (hf:typeIn K (.ref fI)=some (.type "function"))
 (hq:∀ h' e,Heap.MadeExcOf h h' e (.ref C) rest→
  wpAny (model prog w) (A.under (.builtin "type.__call__" ⟨.ref C :: rest,[]⟩)) (call (.ref fI) (.ref e :: rest)) (fun r s'=>r= .none∧Q (.ref e) s') E ⟨h',g,d,t,os⟩) (hrest:rest.length≤sizeLine) :
 wpAny (model prog w) A (call (.ref C) rest) Q E ⟨h,g,d,t,os⟩:=by
 have F:=PySem.F.excBase_ValueError
 have f1:=tc_lookup
 have f2:=tc_bind (.ref C)
 have hT:(⟨h,g,d,t,os⟩ :Shared).TypeIs (.ref C) "type":=⟨_,hC,rfl⟩
 refine wpAny_call (codeAny_of_tree ?_)
 show wpAny _ _ (callAny (.ref C) _) _ _ _
 repeat (any_goals (first | assumption | with_reducible refine wpAny_loadPart_at hC ?_ | wp_step))
 refine ⟨rfl,?_⟩
 refine codeAny_call_builtin_at (Code.quiet_builtin _ (by decide +kernel)) entry_typeCall (wpAny_check_type_call_sub hC ?_)
 repeat (first | with_reducible refine wpAny_loadPart_at hC ?_ | with_reducible refine wpAny_madeBy_exc hC ?_ | wp_step)
 refine codeAny_call_builtin_code (Code.quiet_builtin _ F.quiet) (exc_check_new T hC ?_)
 refine exc_new T hC ?_ hrest
 show wpAny _ _ _ _ _ _
 have k:∀ b o,h.get? b=some o→((h.push (zaU rest.toArray 0)).push (zcQ C h.objs.size)).get? b=some o:=fun b o e=>Heap.get?_push_of_some _ (Heap.get?_push_of_some _ e)
 have hC₁:=k _ _ hC
 have hget:((h.push (zaU rest.toArray 0)).push (zcQ C h.objs.size)).get? (h.objs.size + 1)=some (zcQ C h.objs.size):=by heap_get
 have hcC:(Value.ref C :: bm).contains (.ref C)=true:=by simp
 unfold isInstance
 repeat (first | with_reducible refine wpAny_loadPart_at hget ?_ | wp_step)
 show wpAny _ _ (isSubtype (.ref C) (.ref C)) _ _ _
 refine wpAny_isSubtype_exc hC₁ ?_
 rw [hcC]
 repeat (first | with_reducible refine wpAny_loadPart_at hget ?_ | wp_step)
 show wpAny _ _ (typeLookup (.ref C) _) _ _ _
 refine (looks_findIn (X.keeps k) hi).here (wpAny_holding (wpAny_bind ((bind_fn (X.keeps k) _ hf).here ?_)))
 refine wpAny_bind (wpAny_mono (hq _ (h.objs.size + 1) ⟨k,Heap.get?_none_of_le (Nat.le_succ _),h.objs.size,hget,Heap.get?_none_of_le (Nat.le_refl _),Heap.get?_push_of_some _ (Heap.get?_push_at rfl rfl)⟩) (fun r s' hr=>?_) fun _ _ x=>x)
 refine x0_2 hr ?_;(try clear hr);rintro rfl hQ
 wp_walk
 exact hQ
end
section
variable {prog:Program} {w:World} {A:Around} {E:Value→Shared→Prop} {s:Shared} {K:Frag} {R:Result→Shared→Prop}
variable {nm q:Str} {C N x tp:Addr} {bs bm:List Value} {sn:List Str} {sub:List Value} {ab:Bool} {col:Option Bool} {dd:Option Addr} {k0 k1 k2 k3 k5:Option Value} {name:Str} {v:Value} {newId:String}
theorem exc_store {tk:Tok} (X:K.In s.heap) (T:zcy bm=true) (hC:K.lookup C=some (excClassObj nm q C N bs bm true sn sub ab col dd k0 k1 k2 k3 k5 newId))
 (hx:s.heap.get? x=some (zcQ C tp)) (ht:takerIn K C name=some none)
 (h:∀ h' tk',(∀ b o,b≠x→s.heap.get? b=some o→h'.get? b=some o)→(∃ d,h'.get? x=some {zcQ C tp with dict:=some d})→R (.ok (.ret .none)) {s with heap:=h',toks:=tk'}) :
 codeAny (model prog w) A (.call (.builtin "object.__setattr__") ⟨[.ref x,.str name tk,v],[]⟩) R s:=by
 have SF:=PySem.F.store_object
 have hc:clsIn K C=some {name:=nm,bases:=bs,mro:= .ref C :: bm,ns:=N,qualname:=q,hasDict:=true,slotNames:=sn,subclasses:=sub,abstract:=ab,collection:=col,hasDel:=false}:=by unfold clsIn;rw [hC]
 have I:InstAt s.heap x (zcQ C tp) C none:=⟨hx,rfl,rfl,trivial⟩
 have hsub:Looks (model prog w) s.heap (isInstance (.ref x) (.type "object")) true:=I.type.andThen (looks_mroIn X (by
  unfold mroIn
  rw [hc,Option.bind_some,if_neg (by simp),List.contains_cons,zbK (b:=true) rfl T,Bool.or_true]))
 refine codeAny_call_builtin SF.slot.plain SF.entry (@check_slot (model prog w) _ _ s "object.__setattr__" "object" "__setattr__" (.ref x) [.str name tk,v] [] _ SF.kind SF.split hsub (SF.args (.ref x) (.str name tk) v) ?_)
 refine x1_2 (Option.bind_eq_some_iff.mp ht) fun attr ha hr=>?_
 have hm:Looks (model prog w) s.heap (mroOf (.ref C)) (.ref C :: bm):=(looks_clsIn X hc).andThen .now
 have L3:Looks (model prog w) s.heap (storeTaker? attr) none:=by
  cases attr with
  | none=>exact .now
  | some a=>
   refine x1_2 (Option.map_eq_some_iff.mp hr) fun b hb e=>?_
   refine (looks_takesIn X hb).andThen ?_
   cases b with
   | false=>exact .now
   | true=>exact noC Option.ctorIdx e rfl
 rw [osa_eq,refuse_eq]
 refine wpAny_bind (wpAny_bind (I.type.here (wpAny_bind (hm.here ?_))))
 rw [refuseLoop_ref,excTail_refuse _ T]
 refine wpAny_pure (wpAny_bind (I.type.here (wpAny_bind ((looks_findIn X ha).here (wpAny_bind (L3.here ?_))))))
 refine wpAny_bind (wpAny_pure (wpAny_bind (wpAny_bind (wpAny_loadPart hx (wpAny_bind ((looks_clsIn X hc).here ?_))))))
 have xs:x≠s.heap.objs.size:=Nat.ne_of_lt (Heap.lt_size hx)
 have hx₁:(s.heap.push emptyDict).get? x=some (zcQ C tp):=Heap.get?_push_of_some _ hx
 refine wpAny_bind ?_
 refine wpAny_alloc ?_
 refine wpAny_bind (wpAny_update hx₁ (wpAny_pure ?_))
 have hgd:((s.heap.push emptyDict).update x fun o=>{o with dict:=some s.heap.objs.size}).get? s.heap.objs.size=some emptyDict:=
  (Heap.get?_update_other _ _ xs).trans (Heap.get?_push_at rfl rfl)
 have hnd:((s.heap.push emptyDict).update x fun o=>{o with dict:=some s.heap.objs.size}).Ns s.heap.objs.size (fun _=>none):=
  ⟨_,#[],_,hgd,rfl,fun e he=>absurd he (by simp),fun _=>rfl⟩
 refine wpAny_bind (wpAny_pure (wpAny_bind (wpAny_nsSet1 (Heap.Ns1.of_empty hnd) fun h' hn' hs=>?_)))
 refine x3_3 (hn'.count (Within.cons name v Within.nil)) fun oD esD epD hoD hdD hcD=>?_
 refine wpAny_bind (wpAny_lookBehind hoD (by rw [hdD];exact pastItsLine_dict (Nat.le_trans hcD (by rw [List.length_cons,List.length_nil,sizeLine_eq];omega))) ?_)
 refine wpAny_pure (h h' _ (fun b o hb ho=>?_) ⟨s.heap.objs.size,?_⟩)
 · exact (hs.2 b (Nat.ne_of_lt (Heap.lt_size ho))).trans ((Heap.get?_update_other _ _ (Ne.symm hb)).trans (Heap.get?_push_of_some _ ho))
 · exact (hs.2 x xs).trans (Heap.get?_update_self _ hx₁ rfl)
end
end Mine
namespace Mine
open PySem PySem.W PySem.Calls PyProof.Rows
inductive ExcOK (C:Cfg) (S:Stat) :Prop
 | mk {nm q:Str} {N:Addr} {bs bm:List Value} {sn:List Str} {sub:List Value} {ab:Bool} {col:Option Bool} {dd:Option Addr} {k0 k1 k2 k3 k5:Option Value} {fI:Addr}
  {name qual:Str} {params:Arguments} {body:List PySem.Stmt} {scope:Scope} {dV kV doc pm cdv ct oc:Value} {an od:Option Addr} {osl:Array (Option Value)} {as:List Arg} {ds:List PySem.Expr} {D:List Value}
  {x1 x2 a:Str} {p1 p2 p3 p4:Pos}
  (keep:keepIn S.K (.ref (C.excA 0))=true)
  (obj:S.K.lookup (C.excA 0)=some (excClassObj nm q (C.excA 0) N bs bm true sn sub ab col dd k0 k1 k2 k3 k5 "ValueError.__new__"))
  (tail:zcy bm=true)
  (init:findIn S.K (.ref (C.excA 0)) "__init__" =some (some (.ref fI))) (fn:typeIn S.K (.ref fI)=some (.type "function"))
  (setat:findIn S.K (.ref (C.excA 0)) "__setattr__" =some (some (.builtin "object.__setattr__")))
  (taker:takerIn S.K (C.excA 0) a=some none)
  (look:S.K.lookup fI=some ⟨oc,od,.func (fnOf name qual params body scope dV kV doc pm an cdv ct),osl⟩)
  (code:codeIn S.K cdv qual=true)
  (par:params=⟨[],as,none,[],[],none,ds⟩) (pn:as.map (·.arg)= [x1,x2])
  (sc:FnSc scope [x1,x2])
  (defs:(dV= .none∧D= [])∨∃ T o n,dV= .ref T∧S.K.lookup T=some o∧o.data= .seq D.toArray n) (le:D.length≤2)
  (bd:body= [.Assign [.Attribute (.Name x1 p1) a p2] (.Name x2 p3) p4])
  (plain:∀ y∈ scope.names,y.2≠.cell) :ExcOK C S
section
variable {C:Cfg} {S:Stat} {Φ:Fram} {m:Str→Option Value} {N:Led} {ρ:Rho} {mh:zax} {s:Shared} {n:Nat}
set_option tactic.hygienic true in
theorem exc_made (X:ExcOK C S) (I:Inv C S Φ m N ρ mh s.heap) (hroom:Φ.A.depth + 1 < recursionLimit) {v:Value} {Q:Value→Shared→Prop} {E:Value→Shared→Prop}
 (h:∀ e h' tk',MadeOwn s.heap h' e (.ref (C.excA 0))→Q (.ref e) {s with heap:=h',toks:=tk'}) :wpAny S.M Φ.A (call (.ref (C.excA 0)) [v]) Q E s:=by
 obtain ⟨keep,obj,tail,init,fn,setat,taker,look,code,rfl,pn,sc,defs,le,rfl,plain⟩:=X
 rename_i nm q N' bs bm sn sub ab col dd k0 k1 k2 k3 k5 fI name qual scope dV kV doc pm cdv ct oc an od osl as ds D x1 x2 a p1 p2 p3 p4
 have hK:=I.inK
 refine Inv.open I fun g₁ u₁ I₀ xb tb=>?_
 obtain ⟨hp,gn,dr,tk,os⟩:=s
 refine exc_call (K:=S.K) hK tail (hK _ _ obj) init fn (fun h₂ e M=>?_) (by rw [sizeLine_eq,List.length_cons,List.length_nil];lia)
 refine x1_3 M.there fun t he ht htup=>?_
 have nd:(as.map (·.arg)).Nodup:=by rw [pn,← sc.own];exact (List.take_sublist _ _).nodup sc.nd
 have I₁:Inv0 C S ((⟨Φ.A₀,Φ.A.under (.builtin "type.__call__" ⟨.ref (C.excA 0) :: [v],[]⟩),Φ.base,g₁,Φ.outer,Φ.fenv,Φ.L⟩ :Fram).at g₁) m [] [] [] h₂:=
  ⟨I₀.B,by
   have:=I₀.hA
   show pushEnvs (Code.envs (.builtin "type.__call__" ⟨.ref (C.excA 0) :: [v],[]⟩)) Φ.A.frames= _
   rw [show Φ.A.frames= _ from this];rfl,I₀.hh,I₀.hf,I₀.hk,⟨I₀.F.ns.keeps M.keeps,fun b o q=>M.keeps b o (I₀.F.keep b o q),I₀.F.above⟩,I₀.X,(fun p hp=>by cases hp),I₀.T,⟨rfl,(fun i o p q=>by simp at q),(fun i j p q r=>by simp at r),(fun i p vs n q=>by simp at q),(fun i p vs q=>by simp at q)⟩⟩
 have hK₂:=hK.keeps M.keeps
 have le2:as.length=2:=by have:=congrArg List.length pn;simpa using this
 have hbind:BindsTo ⟨h₂,gn,dr,tk,os⟩ (fnX name qual ⟨[],as,none,[],[],none,ds⟩ [.Assign [.Attribute (.Name x1 p1) a p2] (.Name x2 p3) p4] scope [] dV kV doc pm an cdv ct) ⟨[.ref e,v],[]⟩ ((as.map (·.arg)).zip ([.ref e,v] ++ D.drop ([Value.ref e,v].length + D.length - as.length))):=
  binds_of rfl nd (by
   rcases defs with h | ⟨T,o,k,h1,h2,h3⟩
   · exact .inl h
   · exact .inr ⟨T,o,k,h1,hK₂ _ _ h2,h3⟩) (by simp [le2]) (by simp [le2]) (by rw [le2];exact le)
 rw [show D.drop ([Value.ref e,v].length + D.length - as.length)= [] from by rw [le2];simp] at hbind
 have lk:∀ x∈ as.map (·.arg),scope.names.lookup x=some .local:=fun x hx=>by
  have h2:x∈ zaM scope:=by rw [pn,← sc.own] at hx;exact List.mem_of_mem_take hx
  rcases zeS h2 with q | q
  · exact sc.look _ q
  · exact absurd rfl (plain _ q)
 have hkind:(((as.map (·.arg)).zip ([.ref e,v] ++ [])).all fun y=>scope.names.lookup y.1 == some .local || scope.names.lookup y.1 == some .cell)=true:=by
  rw [List.all_eq_true]
  intro y hy
  rw [lk y.1 (List.of_mem_zip hy).1];rfl
 refine wpAny_call (callY I₁ (hK₂ _ _ look) rfl (codeRec_of hK₂ code) hroom hbind (kindsX hkind) sc.cnd (fun g L' h₁ tk₁ cells FG F' N₁ Y B' st _ kk=>?_) sc.co sc.gen sc.kind)
 have mk:∀ x w,(x,w)∈ (as.map (·.arg)).zip ([.ref e,v] ++ [])→(envOfC qual scope L' fI cdv).kindOf x=some .local∧bindL (envOfC qual scope L' fI cdv).kindOf ((as.map (·.arg)).zip ([.ref e,v] ++ [])) (fun _=>none) x=some w:=fun x w hx=>by
  have hl:(envOfC qual scope L' fI cdv).kindOf x=some .local:=lk x (List.of_mem_zip hx).1
  exact ⟨hl,bindL_get hl (by rw [List.map_fst_zip (by simp [le2])];exact nd) hx⟩
 have ld:∀ x w pos (Q':Value→Shared→Prop) E' s',s'.heap=h₁→(x,w)∈ (as.map (·.arg)).zip ([.ref e,v] ++ [])→Q' w s'→wpAny S.M ((Φ.A.under (.builtin "type.__call__" ⟨.ref (C.excA 0) :: [v],[]⟩)).deeper (envOfC qual scope L' fI cdv)) (eval (.Name x pos) (envOfC qual scope L' fI cdv)) Q' E' s':=fun x w pos Q' E' s' hs hx hQ=>by
  refine x0_2 (mk x w hx) fun a1 a2=>?_
  refine wpAny_Name (wpAny_loadName_local sc.kind a1 (by rw [hs];exact F'.ns) a2 hQ) ?_
  have h2:x∈ as.map (·.arg):=(List.of_mem_zip hx).1
  rw [pn,← sc.own] at h2
  rcases zeS (List.mem_of_mem_take h2) with q | q <;> exact (sc.odd _ q).1
 rw [pn] at ld
 have kk₁:=kk
 refine wpAny_execs_cons (plainObj_wpAny_Assign_Attribute (ld x2 v _ _ _ _ rfl (by simp) (ld x1 (.ref e) _ _ _ _ rfl (by simp) ?_)) (zbM (fun _ _ _ _=>rfl) (fun _ _ _ _=>rfl) fun _ _ _ _ _=>rfl))
 have hx₁:h₁.get? e=some (zcQ (C.excA 0) t):=kk _ _ he
 refine set_plain (K:=S.K) (hK₂.keeps kk) (ox:=zcQ (C.excA 0) t) (od:=none) ⟨hx₁,rfl,rfl,trivial⟩ setat (exc_store (K:=S.K) (hK₂.keeps kk) tail obj hx₁ taker fun h₃ tk₃ k₃ hx₃=>?_)
 refine wpAny_execs_nil ⟨rfl,?_⟩
 refine x1_1 hx₃ ?_;(try clear hx₃);intro d₃ hx₃
 exact h e h₃ tk₃ ⟨fun b o q=>k₃ b o (fun z=>by rw [z,M.new] at q;exact nofO q) (kk _ _ (M.keeps b o q)),M.new,_,_,_,hx₃,rfl,rfl,rfl,rfl⟩
end
section
variable {M:Model} {A:Around} {E:Value→Shared→Prop} {env:Env}
variable {nm q:Str} {C N:Addr} {bs bm:List Value} {hdct:Bool} {sn:List Str} {sub:List Value} {ab:Bool} {col:Option Bool} {dd:Option Addr} {k0 k1 k2 k3 k5:Option Value} {newId:String}
theorem raise_made {K:Frag} {s:Shared} {x:Sem Value} {Q:Flow→Shared→Prop} (obj:K.lookup C=some (excClassObj nm q C N bs bm hdct sn sub ab col dd k0 k1 k2 k3 k5 newId)) (hbase:bm.contains (.type "BaseException")=true) (hh:A.handled=none)
 (h:wpAny M A x (fun v s₁=>∃ e od vs sl,v= .ref e∧K.In s₁.heap∧
  s₁.heap.get? e=some {cls:= .ref C,dict:=od,data:= .fields vs,slots:=sl}∧vs[1]? =some .none∧E (.ref e) s₁) E s) :
 wpAny M A (raiseStmt env (some x) none) Q E s:=by
 have hcB:(Value.ref C :: bm).contains (.type "BaseException")=true:=by rw [List.contains_cons,hbase,Bool.or_true]
 unfold raiseStmt
 refine wpAny_bind (wpAny_mono h (fun v s₁ h₁=>?_) fun _ _ x=>x)
 refine x4_5 h₁ ?_;(try clear h₁);rintro e od vs sl rfl hK he hv hE
 have hC:=hK _ _ obj
 obtain ⟨hp,g,d,tk,os⟩:=s₁
 repeat (first | with_reducible refine wpAny_loadPart_at he ?_ | with_reducible refine wpAny_loadPart_at hC ?_ | (with_reducible refine wpAny_isSubtype_exc hC ?_;rw [hcB]) | wp_step)
 rw [hv]
 exact wpAny_pure (wpAny_pure (wpAny_raiseNew_none hh hE))
end
section
variable {C:Cfg} {S:Stat} {Φ:Fram} {m:Str→Option Value} {N:Led} {ρ:Rho} {mh:zax} {s:Shared} {n:Nat} {sc:Scope}
theorem SimS.raise (Z:Sit C S) (X:ExcOK C S) {c:Str} {pc cpos pos:Pos} {e:PySem.Expr} (hn:zcC e=true) (he:SimE C S n sc e) :SimS C S n sc (.Raise (some (.Call (.Name c pc) [e] [] cpos)) none pos):=by
 intro Φ Γ env l m N ρ mh s I R F V
 show SimX _ _ _ _ _ _ _ _ _ _ (zcR _ _ (match zaS C.G Γ c with | some x=>(match x with | .exc k=> .raise k (trE C.G Γ e) | _=> .bad) | none=> .bad) _ _)
 unfold zaS
 cases hx:Γ.names.lookup c with
 | none=>trivial
 | some k=>
  cases k with
  | some i=>trivial
  | none=>
   dsimp only
   cases hg:C.G.gt.lookup c with
   | none=>trivial
   | some g=>
    cases g with
    | exc k=>
     dsimp only
     by_cases hk:k=0
     · subst hk
       show SimX _ _ _ _ _ _ _ _ _ _ ((zaw C.T (zay C.T C.fns n) (trE C.G Γ e) l mh).toS l fun v h=>(match v with | .str _=> .exc l h | _=> .stuck))
       have hl:=Z.glob c _ hg
       refine SimX.seqE (fun v s₁ Q E=>S.K.In s₁.heap∧wpAny S.M Φ.A (call (.ref (C.excA 0)) ([] ++ [v])) (fun w s₂=>∃ e,w= .ref e∧MadeOwn s₁.heap s₂.heap e (.ref (C.excA 0))∧E (.ref e) s₂) E s₁)
        (he Φ Γ env l m N ρ mh s I R F.E V.V) (fun Q E q=>?_) fun v mh' x h' tk' N' ρ' I' X' r=>?_
       · rw [arm_exec_Raise]
         obtain ⟨keep,obj,tail,-⟩:=X
         have hp:=zcx (pos:=cpos) (env:=env) (es:=[e]) (by simpa [noStar] using hn)
         refine wpAny_bind (wpAny_standAt (raise_made obj (zbK (b:=true) rfl tail) I.hh (wpAny_bind (wpAny_mono (wpAny_Call_ofName (zfD I F.E hx hl (callWith_of (P:=S.K.In) (by rw [hp];rfl) (keeps_K keep) ?_))) (fun v s₃ h₃=>wpAny_bind (wpAny_standAt (wpAny_pure h₃))) fun _ _ x=>x))))
         rw [zaV hn] at hp ⊢
         refine evalArgs_plain (spliced_cons (wpAny_mono q (fun v s₁ h₁=>spliced_nil ⟨h₁.1,?_⟩) fun _ _ x=>x))
         refine wpAny_mono h₁.2 (fun w s₂ h₂=>?_) fun _ _ x=>x
         refine x1_3 h₂ ?_;(try clear h₂);rintro e' rfl M hE
         refine x3_5 M.there ?_;rintro ⟨oc,od,dt,sl⟩ vs t a1 a2 a3 a4 a5
         cases a2
         cases a3
         exact ⟨e',od,vs,sl,rfl,h₁.1.keeps M.keeps,a1,a5,hE⟩
       · cases v with
         | str b=>
          refine x1_1 r.str_ ?_;rintro t rfl
          intro Q E hE
          refine ⟨I'.inK,exc_made X (s:={s with heap:=h',toks:=tk'}) I' (by have:=R.1;lia) fun e h₂ tk₂ M=>⟨e,rfl,M,hE e h₂ tk₂ ?_⟩⟩
          exact .inr ⟨m,h',N',ρ',I',M,ExtS.refl _ _ _ _⟩
         | _=>trivial
     · show SimX _ _ _ _ _ _ _ _ _ _ (if k=0 then (zaw C.T (zay C.T C.fns n) (trE C.G Γ e) l mh).toS l fun v h=>(match v with | .str _=> .exc l h | _=> .stuck) else .stuck);rw [if_neg hk];trivial
    | _=>trivial
end
section
variable {C:Cfg} {S:Stat} {Φ:Fram} {m:Str→Option Value} {N:Led} {ρ:Rho} {mh:zax} {s:Shared} {n:Nat} {sc:Scope}
theorem land_inv {g g' g₂ B h₁ h' hx:Heap} {N':Led} {ρ':Rho} {mh':zax} (u:UpS Φ.h₀ g) (I₀:Inv0 C S (Φ.at g) m N ρ mh h₁) (Xb:S.K.In Φ.base) (Tb:Top S.p S.loose S.mean S.mg S.mb Φ.base∧DictFr Φ.outer Φ.h₀)
 (u':UpS g g') (F₂:Fr g' Φ.L g₂ m) (U:g₂.UpToSlots h') (H':HRel C g' N' ρ' mh') (X:Ext N ρ mh N' ρ' mh')
 (hB:(hideAll g (Φ.outer.filterMap (·.frame))).StaysIn B) (hl:∀ q∈ N',B.get? q.1=some q.2∧(hideAll g (Φ.outer.filterMap (·.frame))).get? q.1=none)
 (hfr:hx.FunFrames B (Φ.fenv :: Φ.outer)) (st:B.StaysIn hx) (sm:h'.UpToSlots hx) :Inv C S Φ m N' ρ' mh' hx:=by
 have dg:DictFr Φ.outer g:=fun a ha=>by
  refine x3_2 (Tb.2 a ha) fun o es ep h1 h2=>?_
  refine x1_1 (u.up _ _ h1) fun sl h3=>?_
  exact ⟨_,es,ep,h3,h2⟩
 have off:∀ b o,g.get? b=some o→b ∉ Φ.outer.filterMap (·.frame)→hx.get? b=some o:=fun b o e nb=>st _ _ (hB _ _ (hideAll_get _ e nb))
 have uu:UpS g (zcY g hx):=⟨zcX _ _,fun b e=>by rw [zby,e],fun b o e=>by
  rw [zby,e]
  by_cases nb:b∈ Φ.outer.filterMap (·.frame)
  · refine x3_2 (dg b nb) fun o' es ep h1 h2=>?_
    rw [e] at h1
    (refine sy1 (Option.some.inj h1) ?_;clear h1;intro zq;subst zq)
    have nf:∀ vs,o.data≠.fields vs:=fun vs q=>by rw [h2] at q;cases q
    refine x1_1 (u'.up _ _ e) fun sl k1=>?_
    refine x1_1 (U _ _ (F₂.keep _ _ k1) nf) fun sl₂ k2=>?_
    refine x1_1 (sm _ _ k2 nf) fun sl₃ k3=>?_
    exact ⟨sl₃,k3⟩
  · exact ⟨o.slots,off b o e nb⟩,fun b o e hd=>by
  rw [zby,e]
  refine off b o e fun nb=>?_
  refine x3_2 (dg b nb) fun o' es ep h1 h2=>?_
  rw [e] at h1
  (refine sy1 (Option.some.inj h1) ?_;clear h1;intro zq;subst zq)
  exact hd _ _ h2⟩
 have sb:Φ.base.StaysIn (zcY g hx):=fun b o e=>by
  have h1:=I₀.B.stays b o e
  rw [zby,h1]
  exact off b o h1 fun nb=>by
   rw [(I₀.B.frames.mem nb).1] at e;exact nofO e
 have hL:∀ a∈ (Φ.fenv :: Φ.outer).filterMap (·.frame),B.get? a=none:=fun a ha=>(hfr.mem ha).1
 refine ⟨⟨zcY g hx,u.trans uu,⟨⟨I₀.B.stack,sb,I₀.B.frames.of_keeps fun b o hb _=>by
  refine x1_1 (uu.up b o hb) fun sl e=>?_
  exact ⟨_,e,rfl⟩⟩,I₀.hA,I₀.hh,I₀.hf,I₀.hk,⟨sm.ns (U.ns F₂.ns),fun b o e=>cut_in e,?_⟩,Xb.keeps sb,fun p hp=>⟨st _ _ (hl p hp).1,fun q=>?_,?_⟩,Tb.1.keeps sb,?_⟩⟩,Xb,Tb⟩
 · show (zcY g hx).objs.size≤Φ.L
   rw [zcX]
   exact I₀.F.above
 · have:=hL Φ.L (by rw [List.filterMap_cons,show Φ.fenv.frame=some Φ.L from I₀.hf];exact .head _)
   have h2:=(hl p hp).1
   rw [show p.1=Φ.L from q,this] at h2;exact nofO h2
 · show (zcY g hx).get? p.1=none
   rw [zby]
   cases e:g.get? p.1 with
   | none=>rfl
   | some o=>
    exfalso
    by_cases nb:p.1∈ Φ.outer.filterMap (·.frame)
    · have:=hL p.1 (by rw [List.filterMap_cons,show Φ.fenv.frame=some Φ.L from I₀.hf];exact .tail _ nb)
      rw [(hl p hp).1] at this;exact noC Option.ctorIdx this rfl
    · have:=hideAll_get (Φ.outer.filterMap (·.frame)) e nb
      rw [(hl p hp).2] at this;exact nofO this
 · refine H'.base fun i ws p its hi hp hil=>?_
   have h1:=X.back i ws hi
   refine x1_2 (I₀.H.at h1) fun q hq hr=>?_
   have:=X.pre i q hq
   rw [hp] at this
   (refine sy1 (Option.some.inj this) ?_;clear this;intro zq;subst zq)
   refine x1_3 hr ?_;(try clear hr);rintro its₀ ⟨o,a1,a2,k,a3⟩ _ _
   have nd:∀ es ep,o.data≠.dict es ep:=fun es ep q=>by rw [a3] at q;cases q
   have h2:Heap.IsList g' p.1 its₀.toArray:=⟨o,u'.same _ _ a1 nd,a2,k,a3⟩
   rw [isList_one hil h2]
   exact ⟨o,uu.same _ _ a1 nd,a2,k,a3⟩
theorem glob_loadA (I:Inv C S Φ m N ρ mh s.heap) {env:Env} {Γ:Gam} (E₀:EnvOK env Γ sc) {x:Str} {pos:Pos} {v:Value} (hx:Γ.names.lookup x=some none) (e:nsIn S.K mainGlobals x=some (some v)) {A:Around} {Q:Value→Shared→Prop} {E:Value→Shared→Prop} (h:Q v s) :
 wpAny S.M A (eval (.Name x pos) env) Q E s:=
 let ⟨⟨g,u,I⟩,_,_⟩:=I
 Name_function_global E₀.kind (E₀.gl x hx) (loadGlobal_global (by rw [E₀.glob];exact I.T.g.keeps I.F.keep) (mg_of I.X I.T.g e) h) (E₀.names x _ hx).1
theorem SimS.try_ (Z:Sit C S) (X:ExcOK C S) {e:PySem.Expr} {rp:Pos} {c:Str} {pc p1 p2 p3 pos:Pos} {k:Nat} (he:SimE C S n sc e) :SimS C S n sc (.Try [.Return (some e) rp] [.ExceptHandler (some (.Name c pc)) none [.Return (some (.Constant .none k p1)) p2] p3] [] [] pos):=by
 intro Φ Γ env l m N ρ mh s I R F V
 show SimX _ _ _ _ _ _ _ _ _ _ (zcR _ _ (match zaS C.G Γ c with | some x=>(match x with | .exc k=> .try_ (trE C.G Γ e) k | _=> .bad) | none=> .bad) _ _)
 unfold zaS
 cases hx:Γ.names.lookup c with
 | none=>trivial
 | some kk=>
  cases kk with
  | some i=>trivial
  | none=>
   dsimp only
   cases hg:C.G.gt.lookup c with
   | none=>trivial
   | some gv=>
    cases gv with
    | exc j=>
     dsimp only
     by_cases hj:j=0
     · subst hj
       show SimX _ _ _ _ _ _ _ _ _ _ (match zaw C.T (zay C.T C.fns n) (trE C.G Γ e) l mh with | .ok v h=> .ret v h | .exc h=> .ret .none h | .stuck=> .stuck)
       have hgl:=Z.glob c _ hg
       cases hr:zaw C.T (zay C.T C.fns n) (trE C.G Γ e) l mh with
       | stuck=>trivial
       | ok v mh'=>
        have h:=he Φ Γ env l m N ρ mh s I R F.E V.V
        rw [hr] at h
        exact fun Q E hQ=>wpAny_Try_except (wpAny_execs_cons (wpAny_Return_some (h _ _ fun a h' tk' N' ρ' I' X' r=>hQ a h' tk' m N' ρ' I' (X'.s _) r)))
       | exc mh'=>
        refine Inv.open I fun g u I₀ xb tb=>?_
        have stb:Φ.base.StaysIn (hideAll g (Φ.outer.filterMap (·.frame))):=fun b o q=>hideAll_get _ (I₀.B.stays b o q) fun hm=>by
         rw [(I₀.B.frames.mem hm).1] at q;exact nofO q
        have I':Inv C S ⟨Φ.A₀,Φ.A,hideAll g (Φ.outer.filterMap (·.frame)),g,Φ.outer,Φ.fenv,Φ.L⟩ m N ρ mh s.heap:=
         ⟨⟨g,UpS.refl g,⟨⟨I₀.B.stack,fun b o e=>of_hideAll _ e,funFrames_hide I₀.B.frames fun env he a ha=>List.mem_filterMap.mpr ⟨env,he,ha⟩⟩,I₀.hA,I₀.hh,I₀.hf,I₀.hk,I₀.F,I₀.X,I₀.NN,I₀.T,I₀.H⟩⟩,xb.keeps stb,tb.1.keeps stb,fun a ha=>by
          refine x3_2 (tb.2 a ha) fun o es ep h1 h2=>?_
          refine x1_1 (u.up _ _ h1) fun sl h3=>?_
          exact ⟨_,es,ep,h3,h2⟩⟩
        have h:=he _ Γ env l m N ρ mh s I' R F.E V.V
        rw [hr] at h
        intro Q E hQ
        refine wpAny_Try_except (wpAny_execs_cons (wpAny_Return_some (h _ _ fun x h' tk' fl=>?_)))
        obtain ⟨g',u',bl,N',ρ',g₂,⟨B,a0,hB,hl,hfl⟩,F₂,U,H',X'⟩:=fl
        have ef:=F.fenv
        subst ef
        refine wpAny_looks_onW I.hA I.hf hfl fun h₄ held₄ sm₄=>?_
        refine wpAny_landsW held₄ fun h₅ fly₅ sm₅=>?_
        have I₅:=land_inv u I₀ xb tb u' F₂ U H' X' hB hl fly₅.2.2.1 fly₅.1 (sm₄.trans sm₅)
        refine x1_2 fly₅.there fun ob hob hobc=>?_
        refine wpAny_handleBy_cons (codeAny_handlers_test (glob_loadA I₅ F.E hx hgl ?_)) (by intro q;cases q)
        obtain ⟨keep,obj,tail,-⟩:=X
        refine wpAny_excMatches_sub_self (I₅.inK _ _ obj) hob hobc (zbK (b:=true) rfl tail) (codeAny_handlers_suite ?_)
        refine lands_againW fly₅ fun h₆ fly₆ sm₆=>?_
        have I₆:=land_inv u I₀ xb tb u' F₂ U H' X' hB hl fly₆.2.2.1 fly₆.1 ((sm₄.trans sm₅).trans sm₆)
        exact wpAny_execs_cons (wpAny_Return_some (wpAny_Constant_none (hQ .none h₆ tk' m N' ρ' I₆ (X'.s _) repNone)))
     · show SimX _ _ _ _ _ _ _ _ _ _ (if j≠0 then .stuck else (match zaw C.T (zay C.T C.fns n) (trE C.G Γ e) l mh with | .ok v h=> .ret v h | .exc h=> .ret .none h | .stuck=> .stuck));rw [if_pos hj];trivial
    | _=>trivial
theorem raises_ok (Z:Sit C S) (X:ExcOK C S) (n:Nat) :RaisesOK C S n where
 raise:=fun sc c pc e cpos pos hn he=>SimS.raise Z X hn he
 try_:=fun sc e rp c pc k p1 p2 p3 pos he=>SimS.try_ Z X he
theorem calls_ok (Z:Sit C S) (X:ExcOK C S) (HF:∀ f d,C.fns f=some d→FnOK C S f d) (n:Nat) :CallsOK C S n:=calls_all Z HF (fun n _=>raises_ok Z X n) n
end
noncomputable def clsL:List Addr:=[234,297,342,363,384,406,427]
noncomputable def excL:List Addr:=[64,52,76]
noncomputable def fnL:List Addr:=[89,96,103,110,117,152,181,188,245,259,266,273,280,287,339,360,381,403,424,438,456,462,467,472,477,484,491,506,513,520,527,534,541,548,555,562,569,583,590,598,606,613,620,627,634,639,646,653,660,667,674,681,686,691,698]
noncomputable def excI:Addr:=36
noncomputable def kA:List Addr:=[3,29,35,36,38,39,63,64,88,89,95,96,102,103,109,110,116,117,151,152,174,180,181,187,188,233,234,244,245,258,259,265,266,272,273,279,280,286,287,296,297,338,339,341,342,359,360,362,363,380,381,383,384,396,402,403,405,406,423,424,426,427,437,438,451,455,456,457,461,462,466,467,471,472,476,477,483,484,490,491,505,506,512,513,519,520,526,527,533,534,540,541,547,548,554,555,561,562,568,569,582,583,589,590,591,597,598,599,605,606,612,613,619,620,626,627,633,634,638,639,645,646,652,653,659,660,666,667,673,674,680,681,685,686,690,691,697,698]
noncomputable def cfgT:Cfg:=⟨glT,tabs,fnsT,fun i=>clsL.getD i 0,fun i=>fnL.getD i 0,fun i=>excL.getD i 0⟩
noncomputable abbrev Txt:=Arguments × List PySem.Stmt × Scope
noncomputable def findFn (n:Str) (b:List PySem.Stmt) :Option Txt:=b.findSome? fun s=>match s with
 | .FunctionDef m a bd _ _ _ sc _ _ _=>if m == n then some (a,bd,sc) else none
 | _=>none
noncomputable def findCl (n:Str) (b:List PySem.Stmt) :Option (List PySem.Stmt):=b.findSome? fun s=>match s with
 | .ClassDef m _ _ bd _ _ _ _ _ _ _=>if m == n then some bd else none
 | _=>none
noncomputable def getFn (x:Option Str × Str) :Option Txt:=match x.1 with
 | none=>findFn x.2 PySem.Challenge.pw_xm0375_01.main.body
 | some c=>(findCl c PySem.Challenge.pw_xm0375_01.main.body).bind (findFn x.2)
noncomputable def texts:List (Option Txt):=fnNames.map getFn
noncomputable def argNames (as:List Arg) :List Str:=as.map (·.arg)
noncomputable def plainA (a:Arguments) :Bool:=a.posonlyargs.isEmpty && (a.vararg.isNone && (a.kwonlyargs.isEmpty && (a.kw_defaults.isEmpty && a.kwarg.isNone)))
theorem plainA_of {a:Arguments} (h:plainA a=true) :a=⟨[],a.args,none,[],[],none,a.defaults⟩:=by
 obtain ⟨b,c,d,e,f,g,k⟩:=a
 have h1:b= []:=List.isEmpty_iff.mp (a1 h)
 have h2:d=none:=Option.isNone_iff_eq_none.mp (a1 (a2 h))
 have h3:e= []:=List.isEmpty_iff.mp (a1 (a2 (a2 h)))
 have h4:f= []:=List.isEmpty_iff.mp (a1 (a2 (a2 (a2 h))))
 have h5:g=none:=Option.isNone_iff_eq_none.mp (a2 (a2 (a2 (a2 h))))
 subst h1 h2 h3 h4 h5
 rfl
noncomputable def defVal:PySem.Expr→MV
 | .Constant (.int i) _ _=> .int i
 | .Name n _=>(match glT.gt.lookup n with | some (.int k)=> .int k | _=> .none)
 | _=> .none
noncomputable def mkFn (t:Txt) :MFn:=⟨t.1.args.length,(zaM t.2.2).length,t.1.defaults.map defVal,trB glT (gamOf t.2.2) t.2.1,t.2.2.names.all (fun y=>y.2 != .cell)⟩
noncomputable def txtOK (t:Txt) :Bool:=plainA t.1 && (fnScOK t.2.2 (argNames t.1.args) && (Nat.ble t.1.args.length (zaM t.2.2).length && okB t.2.2 t.2.1))
theorem texts_fn:texts.map (Option.map mkFn)=tabF.map some:=by kernel_rfl
theorem texts_ok:texts.all (fun t=>t.any txtOK)=true:=by kernel_rfl
noncomputable def constB (v:MV) (x:Value) :Bool:=match v with
 | .none=>(match x with | .none=>true | _=>false)
 | .bool b=>(match x with | .bool c=>b == c | _=>false)
 | .int i=>(match x with | .int j _=>decide (i=j) | _=>false)
 | _=>false
noncomputable def constsB:List MV→List Value→Bool
 | [],[]=>true
 | v :: vs,x :: xs=>constB v x && constsB vs xs
 | _,_=>false
theorem constB_rep {v:MV} {x:Value} (h:constB v x=true) :constRep v x:=by
 cases v with
 | none=>cases x <;> first | exact trivial | exact nofB h
 | bool b=>cases x <;> first | exact beq_iff_eq.mp h | exact nofB h
 | int i=>cases x <;> first | exact nofB h | exact of_decide_eq_true (p:=i= _) h
 | _=>exact nofB h
theorem constsB_rep:∀ {vs:List MV} {xs:List Value},constsB vs xs=true→ConstsRep vs xs
 | [],[],_=>trivial
 | v :: vs,x :: xs,h=>by
  have h:=Bool.and_eq_true_iff.mp h
  exact ⟨constB_rep h.1,constsB_rep h.2⟩
 | [],_ :: _,h=>by exact noC Bool.ctorIdx h rfl
 | _ :: _,[],h=>by exact noC Bool.ctorIdx h rfl
noncomputable def dfltO (p:List Value→Bool) (o:Option Obj) :Bool:=match o with
 | some o=>(match o.data with | .seq vs _=>p vs.toList | _=>false)
 | none=>false
noncomputable def dfltB (K:Frag) (dV:Value) (p:List Value→Bool) :Bool:=match dV with
 | .none=>p []
 | .ref T=>dfltO p (K.lookup T)
 | _=>false
theorem dfltB_some {K:Frag} {dV:Value} {p:List Value→Bool} (h:dfltB K dV p=true) :∃ D,p D=true∧((dV= .none∧D= [])∨∃ T o n,dV= .ref T∧K.lookup T=some o∧o.data= .seq D.toArray n):=by
 cases dV with
 | none=>exact ⟨[],h,.inl ⟨rfl,rfl⟩⟩
 | ref T=>
  have h:dfltO p (K.lookup T)=true:=h
  cases ho:K.lookup T with
  | none=>rw [ho] at h;exact nofB h
  | some o=>
   rw [ho] at h
   obtain ⟨c,dd,d,sl⟩:=o
   cases d with
   | seq vs n=>exact ⟨vs.toList,h,.inr ⟨T,_,n,rfl,ho,rfl⟩⟩
   | _=>exact nofB h
 | _=>exact nofB h
noncomputable def funcOf (K:Frag) (a:Addr) :Option FuncData:=match K.lookup a with
 | some o=>(match o.data with | .func fd=>some fd | _=>none)
 | none=>none
theorem funcOf_inv {K:Frag} {a:Addr} {fd:FuncData} (h:funcOf K a=some fd) :∃ oc od osl,K.lookup a=some ⟨oc,od,.func fd,osl⟩:=by
 unfold funcOf at h
 cases ho:K.lookup a with
 | none=>rw [ho] at h;exact nofO h
 | some o=>
  rw [ho] at h
  obtain ⟨c,dd,d,sl⟩:=o
  cases d with
  | func fd=>(refine sy1 (Option.some.inj h) ?_;clear h;intro zq;subst zq);exact ⟨_,_,_,rfl⟩
  | _=>exact nofO h
noncomputable def objOK (K:Frag) (a:Addr) (p:List Value→Bool) :Bool:=match funcOf K a with
 | some fd=>fd.closure.isEmpty && (fd.globals == mainGlobals && (fd.builtins == builtinsNs && (codeIn K fd.code fd.qualname && dfltB K fd.defaults p)))
 | none=>false
noncomputable def objTxt (K:Frag) (a:Addr) :Option (Arguments × FuncBody × Scope):=match funcOf K a with
 | some fd=>some (fd.params,fd.body,fd.scope)
 | none=>none
inductive ObjFn (K:Frag) (a:Addr) (p:List Value→Bool) (ps:Arguments) (b:List PySem.Stmt) (sc:Scope) :Prop
 | mk (name qual dV kV doc pm cdv ct oc an od osl) (look:K.lookup a=some ⟨oc,od,.func (fnOf name qual ps b sc dV kV doc pm an cdv ct),osl⟩) (code:codeIn K cdv qual=true) (D) (hp:p D=true)
  (defs:(dV= .none∧D= [])∨∃ T o n,dV= .ref T∧K.lookup T=some o∧o.data= .seq D.toArray n) :ObjFn K a p ps b sc
theorem fd_eq {fd:FuncData} {ps:Arguments} {b:List PySem.Stmt} {sc:Scope} (e:some (fd.params,fd.body,fd.scope)=some (ps,.stmts b,sc)) (q1:fd.closure= []) (q2:fd.globals=mainGlobals) (q3:fd.builtins=builtinsNs) :
 fd=fnOf fd.name fd.qualname ps b sc fd.defaults fd.kwdefaults fd.doc fd.pyModule fd.annotations fd.code fd.closureTuple:=by
 obtain ⟨nm,qn,params,body,scope,gl,cl,dV,kV,doc,pm,an,cd,ct,bl⟩:=fd
 cases e
 subst q1 q2 q3
 rfl
theorem obj_fn {K:Frag} {a:Addr} {p:List Value→Bool} {ps:Arguments} {b:List PySem.Stmt} {sc:Scope} (h:objOK K a p=true) (e:objTxt K a=some (ps,.stmts b,sc)) :ObjFn K a p ps b sc:=by
 unfold objOK at h
 unfold objTxt at e
 cases hf:funcOf K a with
 | none=>rw [hf] at h;exact nofB h
 | some fd=>
  rw [hf] at h e
  refine x3_1 (funcOf_inv hf) fun oc od osl ho=>?_
  refine x1_2 (dfltB_some (a2 (a2 (a2 (a2 h))))) fun D d1 d2=>?_
  exact .mk _ _ _ _ _ _ _ _ _ _ _ _ (ho.trans (congrArg (fun fd=>some (Obj.mk oc od (.func fd) osl)) (fd_eq e (List.isEmpty_iff.mp (a1 h)) (beq_iff_eq.mp (a1 (a2 h))) (beq_iff_eq.mp (a1 (a2 (a2 h))))))) (a1 (a2 (a2 (a2 h)))) D d1 d2
theorem fnOK_of {S:Stat} {f:Nat} {d:MFn} {t:Txt} (ht:texts[f]? =some (some t)) (hd:fnsT f=some d) (hdef:objOK S.K (cfgT.fnA f) (fun D=>constsB d.defs D && Nat.ble D.length d.np)=true)
 (hobj:objTxt S.K (cfgT.fnA f)=some (t.1,.stmts t.2.1,t.2.2)) :FnOK cfgT S f d:=by
 have h1:mkFn t=d:=by
  have:=congrArg (fun l=>l[f]?) texts_fn
  simp only [List.getElem?_map,ht,Option.map_some] at this
  unfold fnsT at hd
  rw [hd] at this
  simpa using this
 have h2:txtOK t=true:=by
  have:=List.all_eq_true.mp texts_ok _ (List.mem_of_getElem? ht)
  simpa using this
 subst h1
 obtain ⟨ps,b,sc⟩:=t
 obtain ⟨name,qual,dV,kV,doc,pm,cdv,ct,oc,an,od,osl,look,code,D,hp,defs⟩:=obj_fn hdef hobj
 exact .mk look code (plainA_of (a1 h2)) (FnSc.of (a1 (a2 h2))) defs (constsB_rep (a1 hp)) (Nat.le_of_ble_eq_true (a2 hp)) rfl rfl (Nat.le_of_ble_eq_true (a1 (a2 (a2 h2)))) rfl (a2 (a2 (a2 h2))) fun hpl y hy=>bne_iff_ne.mp (List.all_eq_true.mp (show (sc.names.all fun y=>y.2 != .cell)=true from hpl) y hy)
noncomputable def intV (k:Int) :Value→Bool
 | .int j _=>decide (j=k)
 | _=>false
noncomputable def intIs (n:Option (Option Value)) (k:Int) :Bool:=match n with
 | some v=>(match v with | some v=>intV k v | none=>false)
 | none=>false
noncomputable def globB (K:Frag) (x:Str) (g:GV) :Bool:=match g with
 | .int k=>intIs (nsIn K mainGlobals x) k
 | .fn f=>nsIn K mainGlobals x == some (some (.ref (cfgT.fnA f))) && keepIn K (.ref (cfgT.fnA f))
 | .cls c=>nsIn K mainGlobals x == some (some (.ref (cfgT.clsA c))) && (tabs.cinit c).isSome
 | .exc c=>nsIn K mainGlobals x == some (some (.ref (cfgT.excA c)))
 | .bi b=>nsIn K mainGlobals x == some none && (bootBuiltins x == some (biVal b) && (x != "__name__" && (b != .isInt && (b != .isBool && (b != .append && b != .toInt)))))
 | .range=>nsIn K mainGlobals x == some none && (bootBuiltins x == some (.type "range") && x != "__name__")
 | .enum=>nsIn K mainGlobals x == some none && (bootBuiltins x == some (.type "enumerate") && x != "__name__")
 | .isinst=>nsIn K mainGlobals x == some none && (bootBuiltins x == some (.builtin "isinstance") && x != "__name__")
 | .tyInt=>nsIn K mainGlobals x == some none && (bootBuiltins x == some (.type "int") && x != "__name__")
 | .tyBool=>nsIn K mainGlobals x == some none && (bootBuiltins x == some (.type "bool") && x != "__name__")
noncomputable def globsB (K:Frag) :Bool:=glT.gt.all fun p=>globB K p.1 p.2
theorem intIs_of {n:Option (Option Value)} {k:Int} (h:intIs n k=true) :∃ t,n=some (some (.int k t)):=by
 cases n with
 | none=>exact nofB h
 | some n=>
  cases n with
  | none=>exact nofB h
  | some v=>
   cases v with
   | int j t=>exact ⟨t,by rw [of_decide_eq_true h]⟩
   | _=>exact nofB h
theorem three_of {α β γ:Type} [BEq α] [LawfulBEq α] [BEq β] [LawfulBEq β] [BEq γ] [LawfulBEq γ] {a a':α} {b b':β} {c c':γ} (h:(a == a' && (b == b' && c != c'))=true) :a=a'∧b=b'∧c≠c':=⟨beq_iff_eq.mp (a1 h),beq_iff_eq.mp (a1 (a2 h)),bne_iff_ne.mp (a2 (a2 h))⟩
theorem glob_fact {S:Stat} (h:globsB S.K=true) (x:Str) (g:GV) (e:glT.gt.lookup x=some g) :GlobFact cfgT S x g:=by
 have h:globB S.K x g=true:=List.all_eq_true.mp h _ (zbG e)
 cases g with
 | int k=>exact intIs_of h
 | fn f=>exact ⟨beq_iff_eq.mp (a1 h),a2 h⟩
 | cls c=>exact ⟨beq_iff_eq.mp (a1 h),a2 h⟩
 | exc c=>exact beq_iff_eq.mp h
 | bi b=>
  have h':=a2 (a2 (a2 h))
  exact ⟨beq_iff_eq.mp (a1 h),beq_iff_eq.mp (a1 (a2 h)),bne_iff_ne.mp (a1 (a2 (a2 h))),bne_iff_ne.mp (a1 h'),bne_iff_ne.mp (a1 (a2 h')),bne_iff_ne.mp (a1 (a2 (a2 h'))),bne_iff_ne.mp (a2 (a2 (a2 h')))⟩
 | _=>exact three_of h
noncomputable def attrI (K:Frag) (r:Option Value) (v:MV) :Bool:=match v with
 | .int j=>(match r with
  | some x=>intV j x && specialIn K x "__get__" == some none
  | none=>false)
 | _=>false
noncomputable def attrB (K:Frag) (c a:Nat) :Bool:=match findIn K (.ref (cfgT.clsA c)) (cfgT.atn a) with
 | none=>false
 | some r=>(match tabs.cmeth c a with
  | some f=>r == some (.ref (cfgT.fnA f)) && (isFn K (.ref (cfgT.fnA f)) && keepIn K (.ref (cfgT.fnA f)))
  | none=>(match tabs.cattr c a with
   | none=>r.isNone
   | some v=>attrI K r v))
noncomputable def clsB (K:Frag) (c:Nat) :Bool:=
 makesIn K (cfgT.clsA c) && (keepIn K (.ref (cfgT.clsA c)) &&
 (((tabs.cinit c).all fun f=>findIn K (.ref (cfgT.clsA c)) "__init__" == some (some (.ref (cfgT.fnA f))) && isFn K (.ref (cfgT.fnA f))) &&
 (findIn K (.ref (cfgT.clsA c)) "__setattr__" == some (some (.builtin "object.__setattr__")) && (plainOver K (cfgT.clsA c) && (hasDictIn K (cfgT.clsA c) && (plainGet K (cfgT.clsA c) "" &&
 (List.range glT.at_.length).all (fun a=>takerIn K (cfgT.clsA c) (cfgT.atn a) == some none && attrB K c a)))))))
theorem attrI_of {K:Frag} {r:Option Value} {v:MV} (h:attrI K r v=true) :∃ i t,v= .int i∧r=some (.int i t)∧specialIn K (.int i t) "__get__" =some none:=by
 cases v with
 | int i=>
  cases r with
  | none=>exact nofB h
  | some x=>
   cases x with
   | int j t=>
    obtain rfl:j=i:=of_decide_eq_true (a1 h)
    exact ⟨j,t,rfl,rfl,beq_iff_eq.mp (a2 h)⟩
   | _=>exact nofB h
 | _=>exact nofB h
theorem attr_of {K:Frag} {c a:Nat} (h:attrB K c a=true) :(tabs.cmeth c a=none∧tabs.cattr c a=none∧findIn K (.ref (cfgT.clsA c)) (cfgT.atn a)=some none)∨
 (tabs.cmeth c a=none∧∃ i t,tabs.cattr c a=some (.int i)∧findIn K (.ref (cfgT.clsA c)) (cfgT.atn a)=some (some (.int i t))∧specialIn K (.int i t) "__get__" =some none)∨
 (∃ f,tabs.cmeth c a=some f∧findIn K (.ref (cfgT.clsA c)) (cfgT.atn a)=some (some (.ref (cfgT.fnA f)))∧isFn K (.ref (cfgT.fnA f))=true∧keepIn K (.ref (cfgT.fnA f))=true):=by
 unfold attrB at h
 generalize findIn K (.ref (cfgT.clsA c)) (cfgT.atn a)=q at h ⊢
 generalize tabs.cmeth c a=p at h ⊢
 generalize tabs.cattr c a=z at h ⊢
 cases q with
 | none=>exact nofB h
 | some r=>
  cases p with
  | some f=>exact .inr (.inr ⟨f,rfl,congrArg some (beq_iff_eq.mp (a1 h)),a1 (a2 h),a2 (a2 h)⟩)
  | none=>
   cases z with
   | none=>exact .inl ⟨rfl,rfl,congrArg some (Option.isNone_iff_eq_none.mp h)⟩
   | some v=>
    refine x2_3 (attrI_of h) ?_;rintro i t rfl rfl e
    exact .inr (.inl ⟨rfl,i,t,rfl,rfl,e⟩)
theorem cls_ok {S:Stat} {c:Nat} (h:clsB S.K c=true) :ClsOK cfgT S c:=by
 have h2:=a2 (a2 h)
 have h4:=a2 (a2 (a2 (a2 h2)))
 have h8:∀ a,a < glT.at_.length→(takerIn S.K (cfgT.clsA c) (cfgT.atn a) == some none && attrB S.K c a)=true:=fun a ha=>List.all_eq_true.mp (a2 h4) a (List.mem_range.mpr ha)
 refine ⟨a1 h,a1 (a2 h),fun f hf=>?_,beq_iff_eq.mp (a1 (a2 h2)),a1 (a2 (a2 h2)),a1 (a2 (a2 (a2 h2))),fun x=>a1 h4,fun a ha=>beq_iff_eq.mp (a1 (h8 a ha)),fun a ha=>attr_of (a2 (h8 a ha))⟩
 have hf':tabs.cinit c=some f:=hf
 have h3:=a1 h2
 rw [hf'] at h3
 exact ⟨beq_iff_eq.mp (a1 h3),a2 h3⟩
theorem at_ok:AtOK cfgT:=by
 have h:((List.range glT.at_.length).all fun a=>((List.range glT.at_.length).all fun b=>!(cfgT.atn a == cfgT.atn b) || Nat.beq a b) && !copiedNames.contains (cfgT.atn a))=true:=by kernel_rfl
 rw [List.all_eq_true] at h
 refine ⟨fun a b ha hb e=>?_,fun a ha=>?_⟩
 · have:=h a (List.mem_range.mpr ha)
   simp only [Bool.and_eq_true] at this
   have:=List.all_eq_true.mp this.1 b (List.mem_range.mpr hb)
   rw [e,beq_self_eq_true,Bool.not_true,Bool.false_or] at this
   exact Nat.eq_of_beq_eq_true this
 · have:=h a (List.mem_range.mpr ha)
   simp only [Bool.and_eq_true,Bool.not_eq_true'] at this
   exact this.2
theorem cinit_lt {c:Nat} (h:(tabs.cinit c).isSome=true) :c < 7:=by
 rcases Nat.lt_or_ge c 7 with q | q
 · exact q
 · refine x1_1 (Nat.exists_eq_add_of_le' q) ?_;rintro k rfl
   exact noC Bool.ctorIdx h rfl
noncomputable def sitB (K:Frag) :Bool:=globsB K && (List.range 7).all (clsB K)
theorem sit_of {S:Stat} (h:sitB S.K=true) :Sit cfgT S:=by
 unfold sitB at h
 refine x0_2 (Bool.and_eq_true_iff.mp h) fun h1 h2=>?_
 exact ⟨glob_fact h1,at_ok,fun c hc=>cls_ok (List.all_eq_true.mp h2 c (List.mem_range.mpr (cinit_lt hc))),by kernel_rfl⟩
noncomputable def excMro:List Value→Bool
 | []=>false
 | v :: bm=>v == .ref (cfgT.excA 0) && zcy bm
noncomputable def excCd (cd:ClassData) :Bool:=excMro cd.mro && (!cd.hasDel && cd.hasDict)
noncomputable def excObj (o:Obj) :Bool:=o.cls == .type "type" && (o.slots.size == 6 && ((match o.slots[4]? with | some s=>s == some (.builtin "ValueError.__new__") | none=>false) && (match o.data with | .cls cd=>excCd cd | _=>false)))
noncomputable def excClsB (K:Frag) :Bool:=match K.lookup (cfgT.excA 0) with
 | some o=>excObj o
 | none=>false
noncomputable def reasonT:Option Txt:=(findCl "PageError" PySem.Challenge.pw_xm0375_01.main.body).bind (findFn "__init__")
noncomputable def reasonS:Str:=Str.ofString "reason"
noncomputable def excB (K:Frag) :Bool:=excClsB K && (keepIn K (.ref (cfgT.excA 0)) && (findIn K (.ref (cfgT.excA 0)) "__init__" == some (some (.ref excI)) && (typeIn K (.ref excI) == some (.type "function") &&
 (findIn K (.ref (cfgT.excA 0)) "__setattr__" == some (some (.builtin "object.__setattr__")) && (takerIn K (cfgT.excA 0) reasonS == some none && objOK K excI (fun D=>Nat.ble D.length 2))))))
noncomputable def asg1Of:PySem.Stmt→Option (PySem.Expr × PySem.Expr)
 | .Assign ts e _=>(match ts with
  | []=>none
  | t :: r=>(match r with | []=>some (t,e) | _ :: _=>none))
 | _=>none
noncomputable def attrOf:PySem.Expr→Option (PySem.Expr × Str)
 | .Attribute o a _=>some (o,a)
 | _=>none
noncomputable def one1 {α:Type} :List α→Option α
 | []=>none
 | s :: r=>(match r with | _ :: _=>none | []=>some s)
theorem one1_inv {α:Type} {l:List α} {a:α} (h:one1 l=some a) :l= [a]:=by
 cases l with
 | nil=>exact nofO h
 | cons s r=>cases r with
  | nil=>exact congrArg (fun x=>[x]) (Option.some.inj h)
  | cons=>exact nofO h
noncomputable def reasonOf (b:List PySem.Stmt) :Option (Str × Str):=(one1 b).bind fun s=>(asg1Of s).bind fun p=>(attrOf p.1).bind fun q=>(zdW q.1).bind fun x=>(zdW p.2).bind fun y=>if q.2 == reasonS then some (x,y) else none
theorem asg1Of_inv {s:PySem.Stmt} {p:PySem.Expr × PySem.Expr} (h:asg1Of s=some p) :∃ pos,s= .Assign [p.1] p.2 pos:=by
 cases s with
 | Assign ts e pos=>
  cases ts with
  | nil=>exact nofO h
  | cons t r=>
   cases r with
   | nil=>cases h;exact ⟨_,rfl⟩
   | cons=>exact nofO h
 | _=>exact nofO h
theorem attrOf_inv {e:PySem.Expr} {p:PySem.Expr × Str} (h:attrOf e=some p) :∃ pos,e= .Attribute p.1 p.2 pos:=by
 cases e with
 | Attribute o a pos=>cases h;exact ⟨_,rfl⟩
 | _=>exact nofO h
theorem reasonOf_inv {b:List PySem.Stmt} {x y:Str} (h:reasonOf b=some (x,y)) :∃ p1 p2 p3 p4,b= [.Assign [.Attribute (.Name x p1) reasonS p2] (.Name y p3) p4]:=by
 refine x1_2 (Option.bind_eq_some_iff.mp h) fun s e0 h=>?_
 refine x1_2 (Option.bind_eq_some_iff.mp h) fun p e1 h=>?_
 refine x1_2 (Option.bind_eq_some_iff.mp h) fun q e2 h=>?_
 refine x1_2 (Option.bind_eq_some_iff.mp h) fun u e3 h=>?_
 refine x1_2 (Option.bind_eq_some_iff.mp h) fun w e4 h=>?_
 by_cases c:(q.2 == reasonS)=true
 · rw [if_pos c] at h
   refine sy2 (Prod.mk.inj (Option.some.inj h)) ?_;clear h;intro h1 h2;subst h1 h2
   refine x1_1 (asg1Of_inv e1) fun p4 e1=>?_
   refine x1_1 (attrOf_inv e2) fun p2 e2=>?_
   refine x1_1 (zbO e3) fun p1 e3=>?_
   refine x1_1 (zbO e4) fun p3 e4=>?_
   exact ⟨p1,p2,p3,p4,by rw [one1_inv e0,e1,e2,e3,e4,beq_iff_eq.mp c]⟩
 · rw [if_neg c] at h;exact nofO h
noncomputable def reasonShape (t:Txt) :Bool:=plainA t.1 && (match reasonOf t.2.1 with
 | some p=>decide (t.1.args.map (·.arg)= [p.1,p.2]) && (fnScOK t.2.2 [p.1,p.2] && t.2.2.names.all (fun y=>y.2 != .cell))
 | none=>false)
theorem reason_ok:reasonT.any reasonShape=true:=by kernel_rfl
inductive Six {α:Type} :Array α→Prop
 | mk (k0 k1 k2 k3 k4 k5) :Six #[k0,k1,k2,k3,k4,k5]
theorem six {α:Type} {a:Array α} (h:a.size=6) :Six a:=by
 obtain ⟨l⟩:=a
 refine x2_1 (List.exists_cons_of_length_eq_add_one h) ?_;rintro k0 l rfl
 refine x2_1 (List.exists_cons_of_length_eq_add_one (Nat.succ.inj h)) ?_;rintro k1 l rfl
 refine x2_1 (List.exists_cons_of_length_eq_add_one (Nat.succ.inj (Nat.succ.inj h))) ?_;rintro k2 l rfl
 refine x3_1 (three_l (Nat.succ.inj (Nat.succ.inj (Nat.succ.inj h)))) ?_;rintro k3 k4 k5 rfl
 exact .mk _ _ _ _ _ _
inductive ExcObjI (o:Obj) :Prop
 | mk (nm bs bm ns qn sn sub ab col dd k0 k1 k2 k3 k5) (e:o=excClassObj nm qn (cfgT.excA 0) ns bs bm true sn sub ab col dd k0 k1 k2 k3 k5 "ValueError.__new__") (tl:zcy bm=true) :ExcObjI o
theorem excObj_of {o:Obj} (h:excObj o=true) :ExcObjI o:=by
 obtain ⟨c,dd,d,sl⟩:=o
 have h1:c= .type "type":=beq_iff_eq.mp (a1 h)
 have h5:=a2 (a2 (a2 h))
 cases d with
 | cls cd=>
  cases six (a:=sl) (beq_iff_eq.mp (a1 (a2 h))) with
  | mk k0 k1 k2 k3 k4 k5=>
   have h4:k4=some (.builtin "ValueError.__new__"):=beq_iff_eq.mp (a1 (a2 (a2 h)))
   subst h1 h4
   obtain ⟨nm,bs,mro,ns,qn,hd,sn,sub,ab,col,del⟩:=cd
   have h6:(excMro mro && (!del && hd))=true:=h5
   cases mro with
   | nil=>exact nofB (a1 h6)
   | cons v bm=>
    have h7:v= .ref (cfgT.excA 0):=beq_iff_eq.mp (a1 (a1 h6))
    have h8:del=false:=(Bool.not_eq_true' _).mp (a1 (a2 h6))
    have h9:hd=true:=a2 (a2 h6)
    have h10:zcy bm=true:=a2 (a1 h6)
    subst h7 h8 h9
    exact .mk _ _ _ _ _ _ _ _ _ _ _ _ _ _ _ rfl h10
 | _=>exact nofB h5
theorem exc_of {S:Stat} {t:Txt} (h:excB S.K=true) (ht:reasonT=some t) (hobj:objTxt S.K excI=some (t.1,.stmts t.2.1,t.2.2)) :ExcOK cfgT S:=by
 have hr:=reason_ok
 rw [ht] at hr
 have hr:reasonShape t=true:=hr
 obtain ⟨ps,b,sc⟩:=t
 have h3:=a2 (a2 h)
 have h6:=a2 (a2 (a2 h3))
 have hq:=a2 hr
 cases hb:reasonOf b with
 | none=>rw [hb] at hq;exact nofB hq
 | some p=>
  rw [hb] at hq
  have h1:=a1 h
  unfold excClsB at h1
  cases ho:S.K.lookup (cfgT.excA 0) with
  | none=>rw [ho] at h1;exact nofB h1
  | some o=>
   rw [ho] at h1
   cases excObj_of h1 with
   | mk nm bs bm ns qn sn sub ab col dd k0 k1 k2 k3 k5 e tl=>
   subst e
   obtain ⟨name,qual,dV,kV,doc,pm,cdv,ct,oc,an,od,osl,look,code,D,hp,defs⟩:=obj_fn (a2 h6) hobj
   refine x4_1 (reasonOf_inv hb) fun p1 p2 p3 p4 eb=>?_
   exact .mk (a1 (a2 h)) ho tl (beq_iff_eq.mp (a1 h3)) (beq_iff_eq.mp (a1 (a2 h3))) (beq_iff_eq.mp (a1 (a2 (a2 h3)))) (beq_iff_eq.mp (a1 h6)) look code (plainA_of (a1 hr)) (of_decide_eq_true (a1 hq)) (FnSc.of (a1 (a2 hq))) defs (Nat.le_of_ble_eq_true hp) eb
    fun y hy=>bne_iff_ne.mp (List.all_eq_true.mp (a2 (a2 hq)) y hy)
noncomputable def fnB (K:Frag) (f:Nat) :Bool:=match fnsT f with
 | some d=>objOK K (cfgT.fnA f) (fun D=>constsB d.defs D && Nat.ble D.length d.np)
 | none=>true
noncomputable def checkK (K:Frag) :Bool:=sitB K && (excB K && (List.range 55).all (fnB K))
noncomputable def obsK (K:Frag) :List (Option (Arguments × FuncBody × Scope)):=objTxt K excI :: (List.range 55).map fun f=>objTxt K (cfgT.fnA f)
noncomputable def toObs (t:Txt) :Arguments × FuncBody × Scope:=(t.1,.stmts t.2.1,t.2.2)
noncomputable def obsT:List (Option (Arguments × FuncBody × Scope)):=reasonT.map toObs :: texts.map (Option.map toObs)
theorem all_of {S:Stat} (h:checkK S.K=true) (e:obsK S.K=obsT) :Sit cfgT S∧ExcOK cfgT S∧∀ f d,cfgT.fns f=some d→FnOK cfgT S f d:=by
 have h1:=a1 h
 have h2:=a1 (a2 h)
 have h3:=a2 (a2 h)
 have e1:=congrArg (fun l=>l[0]?) e
 obtain ⟨t,ht⟩ :∃ t,reasonT=some t:=by
  have:=reason_ok
  cases q:reasonT with
  | none=>rw [q] at this;exact noC Bool.ctorIdx this rfl
  | some t=>exact ⟨t,rfl⟩
 refine ⟨sit_of h1,exc_of h2 ht (by simpa [obsK,obsT,ht,toObs] using e1),fun f d hf=>?_⟩
 have hf':fnsT f=some d:=hf
 have hlt:f < 55:=(List.getElem?_eq_some_iff.mp hf').1
 have h4:=List.all_eq_true.mp h3 f (List.mem_range.mpr hlt)
 unfold fnB at h4
 rw [hf'] at h4
 have e2:=congrArg (fun l=>l[f + 1]?) e
 simp only [obsK,obsT,List.getElem?_cons_succ,List.getElem?_map,List.getElem?_range hlt,Option.map_some] at e2
 have hl:f < texts.length:=hlt
 rw [List.getElem?_eq_getElem hl] at e2
 have h5:texts[f].any txtOK=true:=List.all_eq_true.mp texts_ok _ (List.getElem_mem hl)
 cases ht:texts[f] with
 | none=>rw [ht] at h5;exact noC Bool.ctorIdx h5 rfl
 | some t=>
  rw [ht] at e2
  exact fnOK_of (t:=t) (by rw [List.getElem?_eq_getElem hl,ht]) hf' h4 (by simpa [toObs] using e2)
end Mine
namespace Mine
open PySem PySem.W PyProof.Rows
noncomputable abbrev pw:Program:=PySem.Challenge.pw_xm0375_01
noncomputable def qv:Program:={pw with main:={pw.main with body:=view pw [84] |>.main.body}}
noncomputable def loose0:List Str:=pw.boundNames.filter fun x=>x != Str.ofString "law" && !startupNames.contains x
end Mine
namespace Mine
open PySem PySem.W
noncomputable def env0:Env:={scope:=pw.main.scope,locals:=mainNs,globals:=mainNs,cells:=[],code:= .ref 13,frame:=some 14}
noncomputable def o11:Obj:={cls:= .type "tuple",data:= .seq #[]}
noncomputable def o12:Obj:={cls:= .none,data:= .fields #[]}
noncomputable def o13 : Obj := { cls := .type "code", data := .fields #[.str (Str.ofString "<module>") 182, .str (Str.ofString "<module>") 183,
          .str (Str.ofString "/claim/cut.py") 184, .int 1 0, .int 0 0, .int 0 0, .int 0 0, .int 0 0, .ref 11, .bool false,
          .int 181 0,.ref 12,.none,.none,.none,.none,.int 185 0,.int 1 0,.str (Str.ofString "/claim/cut.py") 186]}
noncomputable def o14:Obj:={cls:= .type "frame",slots:=#[some (.ref 13),some (.ref 3),some (.ref 3),none,some (.str (Str.ofString "__main__") 164),none,some (.ref 0)]}
noncomputable def heap0 (P:Params) :Heap:=⟨⟨[boot_o_0 P,boot_o_1 P,boot_o_2 P,boot_o_3 P,boot_o_4 P,boot_o_5 P,boot_o_6 P,boot_o_7 P,boot_o_8 P,boot_o_9 P,boot_o_10 P,o11,o12,o13,o14]⟩,{}⟩
noncomputable def tree0 (P:Params) :BT:=
 .node (boot_o_0 P)
  (.node (boot_o_1 P)
   (.node (boot_o_3 P) (.node (boot_o_7 P) .nil .nil) (.node o11 .nil .nil))
   (.node (boot_o_5 P) (.node (boot_o_9 P) .nil .nil) (.node o13 .nil .nil)))
  (.node (boot_o_2 P)
   (.node (boot_o_4 P) (.node (boot_o_8 P) .nil .nil) (.node o12 .nil .nil))
   (.node (boot_o_6 P) (.node (boot_o_10 P) .nil .nil) (.node o14 .nil .nil)))
noncomputable abbrev pos0:Pos:=⟨0,0,0,0⟩
noncomputable abbrev st0 (w:World) (os:OsState) :SharedT:={tree:=tree0 w.params,n:=15,life:={},gens:=⟨[]⟩,drawn:={},toks:=187,os:=os}
noncomputable abbrev cd0:Code:= .body (behindTheImports pw) env0
noncomputable abbrev th0:Thread:=piecesOf (behindTheImports pw) env0 cd0 pos0 [topFrame pos0]
theorem boot (w:World) :(fencedOpening treeTable pw w 20000).map (fun s=>(s.heap,s.gens,s.drawn,s.toks))=some (boot_heap w.params,Array.mk [],boot_drawn,boot_toks):=
 boot_open (p:=pw) (N:=20000) rfl (by decide) (fun s=>rfl) w
theorem size0:(fun w:World=>((boot_heap w.params).isNs mainGlobals && (Array.mk [] :Array GenState).size == 0,(boot_heap w.params).objs.size,(boot_heap w.params).nsMap mainGlobals "__annotations__"))=fun _=>(true,11,some (.ref 6)):=by
 kernel_rfl
theorem pre0:(fun (w:World) (os:OsState)=>topGo treeTable pw w 11 (some (.ref 6)) 12 ⟨boot_heap w.params,Array.mk [],boot_drawn,boot_toks,os⟩ (topStub pw))=fun w os=>some (⟨heap0 w.params,Array.mk [],{},187,os⟩,⟨denote treeTable cd0,cd0,pos0,[topFrame pos0]⟩):=by
 kernel_rfl
theorem block0:(fun (w:World) (os:OsState)=>segRun treeTable pw w 11 (some (.ref 6)) 1 2 ⟨heap0 w.params,Array.mk [],{},187,os⟩ (blockOf (behindTheImports pw) env0 cd0 pos0 [topFrame pos0]))=fun w os=>some (.next,(st0 w os).abs,cd0,pos0):=by
 kernel_rfl
theorem fin0:(fun (w:World) (s:Shared) (pos:Pos)=>topRun treeTable pw w 11 (some (.ref 6)) 5 s ⟨doneF .next,cd0,pos,[topFrame pos0]⟩)=fun w s pos=>some s:=by
 kernel_rfl
noncomputable def fragT (t:BT) (n:Nat) :Frag:=kA.filterMap fun a=>match Nat.blt a n with
 | true=>((t.get a).bind alive).map fun o=>(a,o)
 | false=>none
theorem lookup_in {a:Addr} {o:Obj} :∀ {l:List (Addr × Obj)},l.lookup a=some o→(a,o)∈ l
 | [],h=>by cases h
 | (b,x) :: r,h=>by
  rw [List.lookup_cons] at h
  by_cases q:(a == b)=true
  · rw [q] at h
    cases h
    rw [beq_iff_eq.mp q];exact .head _
  · rw [Bool.not_eq_true] at q
    rw [q] at h
    exact .tail _ (lookup_in h)
set_option tactic.hygienic true in
theorem fragT_in (t:BT) (n:Nat) (life:Life) :(fragT t n).In (absHeap t n life):=fun a o e=>by
 have h:=lookup_in e
 unfold fragT at h
 rw [List.mem_filterMap] at h
 obtain ⟨b,hb,h⟩:=h
 split at h
 · rename_i hlt
   obtain ⟨o',h1,h2⟩:=Option.map_eq_some_iff.mp h
   obtain ⟨rfl,rfl⟩:=Prod.mk.inj h2
   obtain ⟨o₀,h3,h4⟩:=Option.bind_eq_some_iff.mp h1
   rw [abs_get (Nat.le_of_ble_eq_true hlt) h3,h4]
 · cases h
noncomputable abbrev Xt0:Shared→Bool:=fun s=>xlAt qv [] s && recOk [] s
noncomputable def looks0 (P:Params) (s:Shared) :Bool:=staticsOk (importedModules pw.main.body) (boot_heap P) s.heap && namesBound pw s.heap && gensDone s && laidKept (boot_heap P) s.heap
noncomputable def run0 (W:World) (os:OsState):=Fast.tw10110043849684766642 Fast.tw14364793385576792824 pw W 11 (some (.ref 6)) 1 6000 (st0 W os) th0
noncomputable def runA (W:World) (os:OsState):=(run0 W os).map fun r=>(r.1,r.2.2.1,looks0 W.params r.2.1.abs,Fast.tw4187177175401517315 qv loose0 (importedModules pw.main.body) Xt0 true r.2.1.abs,obsK (fragT r.2.1.tree r.2.1.n))
noncomputable def runB (W:World) (os:OsState):=(run0 W os).map fun r=>checkK (fragT r.2.1.tree r.2.1.n)
theorem runA_f:(fun (w:World) (os:OsState)=>runA (w.withFollow "special-get-raises" false) os)=fun _ _=>some (.next,cd0,true,openGood qv loose0,obsT):=by
 kernel_rfl
theorem runA_t:(fun (w:World) (os:OsState)=>runA (w.withFollow "special-get-raises" true) os)=fun _ _=>some (.next,cd0,true,openGood qv loose0,obsT):=by
 kernel_rfl
theorem runB_f:(fun (w:World) (os:OsState)=>runB (w.withFollow "special-get-raises" false) os)=fun _ _=>some true:=by
 kernel_rfl
theorem runB_t:(fun (w:World) (os:OsState)=>runB (w.withFollow "special-get-raises" true) os)=fun _ _=>some true:=by
 kernel_rfl
theorem by_row {α:Type} {F:World→OsState→α} {c:α} (f:(fun (w:World) (os:OsState)=>F (w.withFollow "special-get-raises" false) os)=fun _ _=>c) (t:(fun (w:World) (os:OsState)=>F (w.withFollow "special-get-raises" true) os)=fun _ _=>c) (w:World) (os:OsState) :F w os=c:=by
 have e:=World.withFollow_self w "special-get-raises"
 cases h:w.params.followText "special-get-raises" <;> rw [h] at e
 · have:=congrFun (congrFun f w) os
   rwa [e] at this
 · have:=congrFun (congrFun t w) os
   rwa [e] at this
noncomputable def KSays (h:Heap) :Prop:=∃ K:Frag,K.In h∧checkK K=true∧obsK K=obsT
theorem left0:LeftO pw qv loose0 Xt0 (fun s=>KSays s.heap) (fun _=>True) 20000:=fun w=>by
 obtain ⟨⟨h,gs,d,k,os⟩,e,e'⟩:=Option.map_eq_some_iff.mp (boot w)
 obtain ⟨rfl,rfl,rfl,rfl⟩ :h=boot_heap w.params∧gs=Array.mk []∧d=boot_drawn∧k=boot_toks:=by simpa using e'
 have r:=by_row runA_f runA_t w os
 have rb:=by_row runB_f runB_t w os
 unfold runA run0 at r
 unfold runB run0 at rb
 rw [← Fast.te10110043849684766642,← Fast.te14364793385576792824,← Fast.te4187177175401517315] at r
 rw [← Fast.te10110043849684766642,← Fast.te14364793385576792824] at rb
 obtain ⟨⟨f,sT,c,p⟩,r1,r2⟩:=Option.map_eq_some_iff.mp r
 rw [r1] at rb
 have r5:checkK (fragT sT.tree sT.n)=true:=Option.some.inj rb
 simp only [Prod.mk.injEq] at r2
 obtain ⟨rfl,rfl,r3,r4,r6⟩:=r2
 have z:=congrFun size0 w
 obtain ⟨z1,z2,z3⟩ :_∧_∧_:=by simpa only [Prod.mk.injEq] using z
 have t1:=piece_app (rest:=[]) (segRun_of r1) (piece_nil (N:=5) (congrFun (congrFun (congrFun fin0 w) sT.abs) p))
 rw [List.append_nil] at t1
 have t2:=piece_block (congrFun (congrFun block0 w) os) t1
 have t3:=go_top (congrFun (congrFun pre0 w) os) t2
 have t4:=topRun_mono (20000 - (12 + (2 + (6000 + 5)))) _ _ _ _ t3
 have t:topFrom treeTable pw w 20000 ⟨boot_heap w.params,Array.mk [],boot_drawn,boot_toks,os⟩=some sT.abs:=by
  unfold topFrom
  dsimp only
  rw [z1,z2,z3]
  rw [show 12 + (2 + (6000 + 5)) + (20000 - (12 + (2 + (6000 + 5))))=20000 from rfl] at t4
  rw [t4]
  show (match looks0 w.params sT.abs with | true=>_ | false=>_)= _
  rw [r3]
 unfold openEnds
 rw [e]
 show (topFrom treeTable pw w 20000 _).map _ = _
 rw [t]
 refine congrArg some (Prod.ext r4 ?_)
 exact eq_true ⟨_,fragT_in sT.tree sT.n sT.life,r5,r6⟩
end Mine
namespace Mine
open PySem PySem.W PySem.Calls PyProof.Rows
theorem ints_rep {N:Led} {ρ:Rho} {xs:List Value} {is:List Int} (h:IntsAre xs is) :RepVs N ρ (is.map MV.int) xs:=by
 induction h with
 | nil=>simp only [List.map_nil,RepVs]
 | cons _ _ _ ih=>exact RepVs.cons_ zbz ih
set_option tactic.hygienic true in
theorem top_call {C:Cfg} {S:Stat} (Z:Sit C S) (X:ExcOK C S) (HF:∀ f d,C.fns f=some d→FnOK C S f d) {f n:Nat} {d:MFn} (hf:C.fns f=some d) (hd:d.defs= []) (hnp:d.np=1) (hpl:d.plain=true) (hn:callerA.depth + 1 + 2 * n + 8 < recursionLimit) (hu:callerA.units + 3 + 16 * n + 64 < cLine)
 {s:Shared} {L:Addr} {is:List Int} {xs:List Value} (hK:S.K.In s.heap) (T:Top S.p S.loose S.mean S.mg S.mb s.heap) (hl:s.heap.IsList L xs.toArray) (hi:IntsAre xs is) (hlen:xs.length≤4096)
 {mh':zax} (hres:zay C.T C.fns (n + 1) f [.ref 0] [.ro (is.map MV.int)]= .ok (.bool true) mh') {R:Result→Shared→Prop}
 (h:∀ h' tk,(∀ b o,s.heap.get? b=some o→h'.get? b=some o)→R (.ok (.ret (.bool true))) {s with heap:=h',toks:=tk}) :codeAny S.M callerA (.call (.ref (C.fnA f)) ⟨[.ref L],[]⟩) R s:=by
 obtain ⟨look,code,rfl,sc,defs,rep,le,np,slots,nple,body_,ok,plain⟩:=HF f d hf
 rename_i name qual body scope dV kV doc pm cdv ct oc an od osl as ds D
 have hB:=simB_all Z (calls_ok Z X HF n) (raises_ok Z X n) ok
 rw [hd] at rep
 have hD:D= []:=by cases D with
  | nil=>rfl
  | cons _ _=>exact rep.elim
 subst hD
 have las:as.length=1:=by rw [← np];exact hnp
 have nd:(as.map (·.arg)).Nodup:=by rw [← sc.own];exact (List.take_sublist _ _).nodup sc.nd
 have hbind:BindsTo s (fnX name qual ⟨[],as,none,[],[],none,ds⟩ body scope [] dV kV doc pm an cdv ct) ⟨[.ref L],[]⟩ ((as.map (·.arg)).zip ([.ref L] ++ ([] :List Value).drop ([Value.ref L].length + ([] :List Value).length - as.length))):=
  binds_of rfl nd (by
   rcases defs with h | ⟨T,o,k,h1,h2,h3⟩
   · exact .inl h
   · exact .inr ⟨T,o,k,h1,hK _ _ h2,h3⟩) (by simp [las]) (by simp [las]) le
 rw [List.drop_nil,List.append_nil] at hbind
 have hkind:(((as.map (·.arg)).zip [Value.ref L]).all fun y=>scope.names.lookup y.1 == some .local || scope.names.lookup y.1 == some .cell)=true:=by
  rw [List.all_eq_true]
  intro y hy
  have h1:y.1∈ as.map (·.arg):=(List.of_mem_zip hy).1
  have h2:y.1∈ zaM scope:=by rw [← sc.own] at h1;exact List.mem_of_mem_take h1
  rcases zeS h2 with q | q
  · rw [sc.look _ q];rfl
  · rw [sc.look _ q];rfl
 refine codeAny_call_function (by decide) (hK _ _ look) rfl sc.co sc.gen rfl (codeRec_of hK code) (hbind _ _ _ _ ?_)
 refine wpAny_newFunctionEnv_cells sc.kind (kindsX hkind _) fun env' he s' x=>?_
 subst he
 refine ⟨T.nolimit.keeps x.toInCall.keep,codeAny_func ?_⟩
 refine x2_2 x.done ?_;rintro h₁ tk rfl _
 have hk₁:=x.toInCall.keep
 refine x1_2 (Cl.news (h₀:=s.heap) (Nat.le_refl _) fun n c hm=>⟨x.cell n c (lookup_of_mem_nodup (cellsFrom_names scope.names 0 (s.heap.objs.size + 1) [] [] rfl ▸ sc.cnd) hm),x.above n c hm⟩) fun cells NC Y=>?_
 have H₀:HRel C s.heap cells [(L,L)] [.ro (is.map MV.int)]:=by
  refine ⟨rfl,fun i o p hi' hp=>?_,fun i j p q hp hq ne=>?_,fun i p vs n hi' hp=>?_,fun i p vs hi' hp=>?_⟩
  · cases i with
    | zero=>cases hi';cases hp;exact ⟨xs,hl,ints_rep hi,hlen⟩
    | succ i=>simp at hi'
  · cases i with
    | zero=>cases j with
     | zero=>exact absurd rfl ne
     | succ j=>simp at hq
    | succ i=>simp at hp
  · cases i with
    | zero=>cases hi'
    | succ i=>simp at hi'
  · cases i with
    | zero=>cases hp;rfl
    | succ i=>simp at hi'
 have I:Inv C S ⟨callerA,callerA.deeper (envOfC qual scope s.heap.objs.size (C.fnA f) cdv),s.heap,s.heap,[],envOfC qual scope s.heap.objs.size (C.fnA f) cdv,s.heap.objs.size⟩ (bindL (envOfC qual scope s.heap.objs.size (C.fnA f) cdv).kindOf ((as.map (·.arg)).zip [Value.ref L]) fun _=>none) cells [(L,L)] [.ro (is.map MV.int)] h₁:=
  ⟨⟨s.heap,UpS.refl _,⟨below_caller _,Around.frames_deeper rfl,rfl,rfl,sc.kind,⟨x.toInCall.ns,hk₁,Nat.le_refl _⟩,hK,NC,T,H₀⟩⟩,hK,T,fun a ha=>by cases ha⟩
 have V:=fn_sok (f:=C.fnA f) (cd:=cdv) (qual:=qual) (Φ:=⟨callerA,callerA.deeper (envOfC qual scope s.heap.objs.size (C.fnA f) cdv),s.heap,s.heap,[],envOfC qual scope s.heap.objs.size (C.fnA f) cdv,s.heap.objs.size⟩) sc rfl (N:=cells) (cells:=cells) (ρ:=[(L,L)]) (ws:=[.ref 0]) (xs:=[.ref L]) (RepVs.cons_ (repRef (p:=(L,L)) rfl) (by simp only [RepVs])) (by simp [las]) Y (fun p hp=>hp) (by rw [List.length_map];exact nple)
 have run:=hB _ _ _ _ _ _ _ _ {s with heap:=h₁,toks:=tk} I ⟨by show callerA.depth + 1 + 2 * n + 8 < recursionLimit;exact hn,by show callerA.units + 3 + 16 * n + 64 < cLine;exact hu⟩ (fn_fnenv sc rfl rfl) V
 have ev:zaC C.T (zay C.T C.fns n) (trB C.G (gamOf scope) body) ([MV.ref 0].map some ++ List.replicate ((zaM scope).length - (as.map (·.arg)).length) none) [.ro (is.map MV.int)]= .ret (.bool true) mh':=by
  unfold zay at hres
  rw [hf] at hres
  simp only [zdD,hd,hnp] at hres
  rw [show (if [MV.ref 0].length≤1∧1≤[MV.ref 0].length + ([] :List MV).length then some ([MV.ref 0] ++ ([] :List MV).drop ([MV.ref 0].length + ([] :List MV).length - 1)) else none)=some [MV.ref 0] from rfl] at hres
  simp only [body_,slots] at hres
  rw [List.length_map,las]
  split at hres
  · cases hres
  · rename_i e;(refine sy2 (Res.ok.inj hres) ?_;clear hres;intro zq zr;subst zq;subst zr);exact e
  · simp [hpl] at hres
  · exact noC Res.ctorIdx hres rfl
 rw [ev] at run
 refine run _ _ fun v h' tk' m' N' ρ' I' X' r=>?_
 have:=r.bool_
 subst this
 refine Inv.open I' fun g u I₀ _ _=>?_
 exact h h' tk' fun b o hb=>I₀.F.keep b o (I₀.B.stays b o hb)
end Mine
namespace Mine.Pw
open PySem
set_option genCtorIdx true in
inductive Ans where
 | o (x:MObj)
 | b (b:Bool)
 | i (v:MV)
 | r (x:Res MV)
 | l (x:Res (List MV))
 | s (x:SRes)
noncomputable abbrev Anss:=List Ans
noncomputable def askB (c:Bool) (o:Anss) (K:Bool→Anss→Prop) :Prop:=match o with
 | .b b :: o=>c=b→K b o
 | _=>match c with
  | true=>K true o
  | false=>K false o
noncomputable def askR (q:Res MV) (o:Anss) (K:Res MV→Anss→Prop) :Prop:=match o with
 | .r x :: o=>q=x→K x o
 | _=>True
noncomputable def askO (q:Option MObj) (o:Anss) (K:MObj→Anss→Prop) :Prop:=match o with
 | .o x :: o=>q=some x→K x o
 | _=>True
noncomputable def askR' (q:Res MV) (o:Anss) (K:Res MV→Anss→Prop) :Prop:=match o with
 | .r x :: o=>q=x→K x o
 | _=>K q o
noncomputable def askC (q:Option Bool) (o:Anss) (K:Bool→Anss→Prop) :Prop:=match o with
 | .b b :: o=>q=some b→K b o
 | _=>match q with
  | some c=>K c o
  | none=>True
noncomputable def askI (q:Option MV) (o:Anss) (K:MV→Anss→Prop) :Prop:=match o with
 | .i v :: o=>q=some v→K v o
 | _=>match q with
  | some v=>K v o
  | none=>True
noncomputable def askL (q:Res (List MV)) (o:Anss) (K:Res (List MV)→Anss→Prop) :Prop:=match o with
 | .l x :: o=>q=x→K x o
 | _=>True
noncomputable def askS (q:SRes) (o:Anss) (K:SRes→Anss→Prop) :Prop:=match o with
 | .s x :: o=>q=x→K x o
 | _=>True
noncomputable def zbw {α β:Type} (r:Res α) (o:Anss) (K:Res β→Anss→Prop) (f:α→zax→Anss→Prop) :Prop:=match r with
 | .ok a h=>f a h o
 | .exc h=>K (.exc h) o
 | .stuck=>True
noncomputable def toSP {α:Type} (l:Locs) (r:Res α) (o:Anss) (K:SRes→Anss→Prop) (f:α→zax→Anss→Prop) :Prop:=match r with
 | .ok a h=>f a h o
 | .exc h=>K (.exc l h) o
 | .stuck=>True
noncomputable def objItems:MObj→Option (List MV × Nat)
 | .list vs n=>some (vs,n)
 | .ro vs=>some (vs,0)
 | .inst _ _=>none
noncomputable def lstP (h:zax) (a:Nat) (o:Anss) (K:List MV→Nat→Anss→Prop) :Prop:=askO h[a]? o fun x o=>match objItems x with
 | some (vs,n)=>K vs n o
 | none=>True
noncomputable def newL (vs:List MV) (h:zax) (o:Anss) (K:Res MV→Anss→Prop) :Prop:=vs.length≤4096→K (.ok (.ref h.length) (h ++ [.list vs 0])) o
noncomputable def newL' (vs:List MV) (h:zax) (o:Anss) (K:Res MV→Anss→Prop) :Prop:=match Nat.ble vs.length 4096 with
 | true=>K (.ok (.ref h.length) (h ++ [.list vs 0])) o
 | false=>True
noncomputable def newT' (vs:List MV) (h:zax) (o:Anss) (K:Res MV→Anss→Prop) :Prop:=match Nat.ble vs.length 4096 with
 | true=>K (.ok (.tup vs) h) o
 | false=>True
noncomputable def truthP (h:zax) (v:MV) (o:Anss) (K:Bool→Anss→Prop) :Prop:=match v with
 | .bool c=>askB c o K
 | .int i=>askB (decide (i≠0)) o K
 | .ref a=>lstP h a o fun vs _ o=>K (!vs.isEmpty) o
 | .tup vs=>K (!vs.isEmpty) o
 | .none=>K false o
 | .str _=>True
noncomputable def eqP (h:zax) (a b:MV) (o:Anss) (K:Bool→Anss→Prop) :Prop:=match a with
 | .int i=>(match b with
  | .int j=>K (decide (i=j)) o
  | b=>askC (eqH h (.int i) b) o K)
 | a=>askC (eqH h a b) o K
noncomputable def zfC (a b:MV) (K:Int→Int→Prop) :Prop:=match a with
 | .int i=>(match b with
  | .int j=>K i j
  | _=>True)
 | _=>True
noncomputable def cmpP (h:zax) (op:MCmp) (a b:MV) (o:Anss) (K:Bool→Anss→Prop) :Prop:=match op with
 | .eq=>eqP h a b o K
 | .ne=>eqP h a b o fun c o=>K (!c) o
 | .lt=>zfC a b fun i j=>K (decide (i < j)) o
 | .le=>zfC a b fun i j=>K (decide (i≤j)) o
 | .gt=>zfC a b fun i j=>K (decide (i > j)) o
 | .ge=>zfC a b fun i j=>K (decide (i≥j)) o
 | .is=>(match b with | .none=>K (isNone a) o | _=>True)
 | .isNot=>(match b with | .none=>K (!isNone a) o | _=>True)
noncomputable def addP (a b:MV) (h:zax) (o:Anss) (K:Res MV→Anss→Prop) :Prop:=match a with
 | .int i=>(match b with | .int j=>K (.ok (.int (i + j)) h) o | _=>True)
 | .tup vs=>(match b with | .tup ws=>newT' (vs ++ ws) h o K | _=>True)
 | .ref x=>(match b with | .ref y=>lstP h x o fun vs _ o=>lstP h y o fun ws _ o=>newL (vs ++ ws) h o K | _=>True)
 | _=>True
noncomputable def binP (op:MOp) (a b:MV) (h:zax) (o:Anss) (K:Res MV→Anss→Prop) :Prop:=match op with
 | .add=>addP a b h o K
 | .sub=>zfC a b fun i j=>K (.ok (.int (i - j)) h) o
 | .mul=>zfC a b fun i j=>Short i j→K (.ok (.int (i * j)) h) o
 | .fdiv=>zfC a b fun i j=>0 < j∧j < 18446744073709551616→K (.ok (.int (i / j)) h) o
 | .mod=>zfC a b fun i j=>0 < j∧j < 18446744073709551616→K (.ok (.int (i % j)) h) o
 | .pow=>zfC a b fun i j=>0≤j∧j≤64∧0≤i∧i≤64→K (.ok (.int (i ^ j.toNat)) h) o
noncomputable def attrP (T:Tables) (v:MV) (a:Nat) (h:zax) (o:Anss) (K:Res MV→Anss→Prop) :Prop:=match v with
 | .ref i=>askO h[i]? o fun x o=>match x with
  | .inst c fs=>(match T.cmeth c a with
   | some _=>True
   | none=>match getF a fs with
    | some v=>K (.ok v h) o
    | none=>match T.cattr c a with | some v=>K (.ok v h) o | none=>True)
  | _=>True
 | _=>True
noncomputable def zeB (v:MV) (a:Nat) (w:MV) (h:zax) (o:Anss) (K:zax→Anss→Prop) :Prop:=match v with
 | .ref i=>askO h[i]? o fun x o=>match x with
  | .inst c fs=>(match Nat.blt fs.length 64 with
   | true=>K (h.set i (.inst c (putF a w fs))) o
   | false=>True)
  | _=>True
 | _=>True
noncomputable def setItemP (v k w:MV) (h:zax) (o:Anss) (K:zax→Anss→Prop) :Prop:=match v with
 | .ref a=>(match k with
  | .int k=>askO h[a]? o fun x o=>match x with
   | .list vs n=>0≤k∧k.toNat < vs.length→K (h.set a (.list (vs.set k.toNat w) (n + 1))) o
   | _=>True
  | _=>True)
 | _=>True
noncomputable def itemP (h:zax) (x y:MV) (o:Anss) (K:MV→Anss→Prop) :Prop:=match y with
 | .int k=>askI (zaG h x k) o K
 | _=>True
noncomputable def appP (v x:MV) (h:zax) (o:Anss) (K:Res MV→Anss→Prop) :Prop:=match v with
 | .ref a=>askO h[a]? o fun ob o=>match ob with
  | .list vs n=>vs.length < 4096→K (.ok .none (h.set a (.list (vs ++ [x]) (n + 1)))) o
  | _=>True
 | _=>True
noncomputable def arg1P (vs:List MV) (K:MV→Prop) :Prop:=match vs with
 | []=>True
 | x :: r=>(match r with | []=>K x | _ :: _=>True)
noncomputable def arg2P (vs:List MV) (K:Int→Int→Prop) :Prop:=match vs with
 | []=>True
 | x :: r=>arg1P r fun y=>zfC x y K
noncomputable def onLst (h:zax) (v:MV) (o:Anss) (K:List MV→Nat→Anss→Prop) :Prop:=match v with
 | .ref a=>lstP h a o K
 | _=>True
noncomputable def biP (b:MBi) (vs:List MV) (h:zax) (o:Anss) (K:Res MV→Anss→Prop) :Prop:=match b with
 | .max=>arg2P vs fun i j=>K (.ok (.int (if i < j then j else i)) h) o
 | .min=>arg2P vs fun i j=>K (.ok (.int (if j < i then j else i)) h) o
 | .abs=>arg1P vs fun x=>(match x with | .int i=>K (.ok (.int i.natAbs) h) o | _=>True)
 | .len=>arg1P vs fun x=>onLst h x o fun vs _ o=>K (.ok (.int vs.length) h) o
 | .list=>arg1P vs fun x=>onLst h x o fun vs _ o=>newL vs h o K
 | .tuple=>arg1P vs fun x=>onLst h x o fun vs _ o=>K (.ok (.tup vs) h) o
 | b=>askR' (biV b vs h) o K
noncomputable def srcP (tp:Bool) (k:SrcK) (v:MV) (h:zax) (o:Anss) (K:Src→Nat→Anss→Prop) :Prop:=match k with
 | .plain=>(match v with
  | .tup vs=>K (.fixed vs) (vs.length + 1) o
  | .ref a=>lstP h a o fun vs n o=>K (.list a n false) (vs.length + 1) o
  | _=>True)
 | .enum=>(match v with
  | .ref a=>(match tp with
   | true=>lstP h a o fun vs n o=>K (.list a n true) (vs.length + 1) o
   | false=>True)
  | _=>True)
 | .range=>(match v with
  | .int n=>0≤n∧n < 4096→K (.fixed ((List.range n.toNat).map fun k=> .int (Int.ofNat k))) (((List.range n.toNat).map fun k=>MV.int (Int.ofNat k)).length + 1) o
  | _=>True)
section
variable (T:Tables) (Φ:Nat→List MV→zax→Res MV)
mutual
noncomputable def zaQ:ME→Locs→zax→Anss→(Res MV→Anss→Prop)→Prop
 | .bad,_,_,_,_=>True
 | .const v,_,h,o,K=>K (.ok v h) o
 | .loc i,l,h,o,K=>match (l[i]?).join with | some v=>K (.ok v h) o | none=>True
 | .bin op a b,l,h,o,K=>zaQ a l h o fun r o=>zbw r o K fun x h o=>zaQ b l h o fun r o=>zbw r o K fun y h o=>binP op x y h o K
 | .neg a,l,h,o,K=>zaQ a l h o fun r o=>zbw r o K fun x h o=>match x with | .int i=>K (.ok (.int (-i)) h) o | _=>True
 | .not a,l,h,o,K=>zaQ a l h o fun r o=>zbw r o K fun x h o=>truthP h x o fun b o=>K (.ok (.bool !b) h) o
 | .and a b,l,h,o,K=>zaQ a l h o fun r o=>zbw r o K fun x h o=>truthP h x o fun c o=>match c with | true=>zaQ b l h o K | false=>K (.ok x h) o
 | .or a b,l,h,o,K=>zaQ a l h o fun r o=>zbw r o K fun x h o=>truthP h x o fun c o=>match c with | false=>zaQ b l h o K | true=>K (.ok x h) o
 | .cmp1 op a b,l,h,o,K=>zaQ a l h o fun r o=>zbw r o K fun x h o=>zaQ b l h o fun r o=>zbw r o K fun y h o=>cmpP h op x y o fun c o=>K (.ok (.bool c) h) o
 | .cmp2 op op' a b c,l,h,o,K=>zaQ a l h o fun r o=>zbw r o K fun x h o=>zaQ b l h o fun r o=>zbw r o K fun y h o=>cmpP h op x y o fun d o=>askB d o fun d o=>match d with
  | true=>zaQ c l h o fun r o=>zbw r o K fun z h o=>cmpP h op' y z o fun c o=>K (.ok (.bool c) h) o
  | false=>K (.ok (.bool false) h) o
 | .ite t b e,l,h,o,K=>zaQ t l h o fun r o=>zbw r o K fun x h o=>truthP h x o fun c o=>match c with | true=>zaQ b l h o K | false=>zaQ e l h o K
 | .call f args,l,h,o,K=>evalPs args l h o fun r o=>zbw r o K fun vs h o=>askR (Φ f vs h) o K
 | .new c args,l,h,o,K=>evalPs args l h o fun r o=>zbw r o K fun vs h o=>match T.cinit c with
  | some f=>askR (Φ f (.ref h.length :: vs) (h ++ [.inst c []])) o fun r o=>zbw r o K fun x h' o=>match x with | .none=>K (.ok (.ref h.length) h') o | _=>True
  | none=>True
 | .meth e m args,l,h,o,K=>zaQ e l h o fun r o=>zbw r o K fun x h o=>match x with
  | .ref i=>askO h[i]? o fun ob o=>match ob with
   | .inst c fs=>(match getF m fs with
    | none=>(match T.cmeth c m with
     | some f=>evalPs args l h o fun r o=>zbw r o K fun vs h o=>askR (Φ f (.ref i :: vs) h) o K
     | none=>True)
    | some _=>True)
   | _=>True
  | _=>True
 | .app e x,l,h,o,K=>zaQ e l h o fun r o=>zbw r o K fun v h o=>match v with
  | .ref a=>askO h[a]? o fun ob o=>match ob with
   | .list _ _=>zaQ x l h o fun r o=>zbw r o K fun x h o=>appP (.ref a) x h o K
   | _=>True
  | _=>True
 | .bi b args,l,h,o,K=>evalPs args l h o fun r o=>zbw r o K fun vs h o=>biP b vs h o K
 | .attr e a,l,h,o,K=>zaQ e l h o fun r o=>zbw r o K fun x h o=>attrP T x a h o K
 | .sub e i,l,h,o,K=>zaQ e l h o fun r o=>zbw r o K fun x h o=>zaQ i l h o fun r o=>zbw r o K fun y h o=>itemP h x y o fun v o=>K (.ok v h) o
 | .sliceTo e i,l,h,o,K=>zaQ e l h o fun r o=>zbw r o K fun x h o=>zaQ i l h o fun r o=>zbw r o K fun y h o=>askR' (zbT true x y h) o K
 | .sliceFrom e i,l,h,o,K=>zaQ e l h o fun r o=>zbw r o K fun x h o=>zaQ i l h o fun r o=>zbw r o K fun y h o=>askR' (zbT false x y h) o K
 | .list es,l,h,o,K=>evalPs es l h o fun r o=>zbw r o K fun vs h o=>newL' vs h o K
 | .tup es,l,h,o,K=>evalPs es l h o fun r o=>zbw r o K fun vs h o=>newT' vs h o K
 | .comp elt nt k it,l,h,o,K=>zaQ it l h o fun r o=>zbw r o K fun v h o=>srcP (decide (nt≠0)) k v h o fun src fuel o=>
  askL (zaN src nt (fun _ h=> .ok (.bool true) h) (zaw T Φ elt) l fuel 0 [] h) o fun r o=>zbw r o K fun vs h o=>newL vs h o K
 | .compIf elt nt k it c,l,h,o,K=>zaQ it l h o fun r o=>zbw r o K fun v h o=>srcP (decide (nt≠0)) k v h o fun src fuel o=>
  askL (zaN src nt (zaw T Φ c) (zaw T Φ elt) l fuel 0 [] h) o fun r o=>zbw r o K fun vs h o=>newL vs h o K
noncomputable def evalPs:List ME→Locs→zax→Anss→(Res (List MV)→Anss→Prop)→Prop
 | [],_,h,o,K=>K (.ok [] h) o
 | e :: es,l,h,o,K=>zaQ e l h o fun r o=>zbw r o K fun v h o=>evalPs es l h o fun r o=>zbw r o K fun vs h o=>K (.ok (v :: vs) h) o
end
noncomputable def setTsP:List MT→List MV→Locs→zax→Anss→(SRes→Anss→Prop)→Prop
 | [],vs,l,h,o,K=>(match vs with | []=>K (.nxt l h) o | _ :: _=>True)
 | t :: ts,vs,l,h,o,K=>(match vs with
  | []=>True
  | v :: vs=>(match t with
   | .name i=>setTsP ts vs (l.set i (some v)) h o K
   | .attr i a=>(match (l[i]?).join with
    | some x=>zeB x a v h o fun h o=>setTsP ts vs l h o K
    | none=>True)))
mutual
noncomputable def execP:MS→Locs→zax→Anss→(SRes→Anss→Prop)→Prop
 | .bad,_,_,_,_=>True
 | .asg i e,l,h,o,K=>zaQ T Φ e l h o fun r o=>toSP l r o K fun v h o=>K (.nxt (l.set i (some v)) h) o
 | .asgT ts e,l,h,o,K=>zaQ T Φ e l h o fun r o=>toSP l r o K fun v h o=>match v with | .tup vs=>setTsP ts vs l h o K | _=>True
 | .asgA x a e,l,h,o,K=>zaQ T Φ e l h o fun r o=>toSP l r o K fun v h o=>zaQ T Φ x l h o fun r o=>toSP l r o K fun x h o=>zeB x a v h o fun h o=>K (.nxt l h) o
 | .asgI x i e,l,h,o,K=>zaQ T Φ e l h o fun r o=>toSP l r o K fun v h o=>zaQ T Φ x l h o fun r o=>toSP l r o K fun x h o=>zaQ T Φ i l h o fun r o=>toSP l r o K fun k h o=>setItemP x k v h o fun h o=>K (.nxt l h) o
 | .augA x a op e,l,h,o,K=>zaQ T Φ x l h o fun r o=>toSP l r o K fun x h o=>attrP T x a h o fun r o=>toSP l r o K fun y h o=>zaQ T Φ e l h o fun r o=>toSP l r o K fun z h o=>match op with
  | .add=>zfC y z fun i j=>zeB x a (.int (i + j)) h o fun h o=>K (.nxt l h) o
  | _=>True
 | .augI x i op e,l,h,o,K=>zaQ T Φ x l h o fun r o=>toSP l r o K fun x h o=>zaQ T Φ i l h o fun r o=>toSP l r o K fun k h o=>itemP h x k o fun y o=>zaQ T Φ e l h o fun r o=>toSP l r o K fun z h o=>match op with
  | .add=>zfC y z fun i j=>setItemP x k (.int (i + j)) h o fun h o=>K (.nxt l h) o
  | _=>True
 | .expr e,l,h,o,K=>zaQ T Φ e l h o fun r o=>toSP l r o K fun _ h o=>K (.nxt l h) o
 | .ret e,l,h,o,K=>zaQ T Φ e l h o fun r o=>toSP l r o K fun v h o=>K (.ret v h) o
 | .ite t b e,l,h,o,K=>zaQ T Φ t l h o fun r o=>toSP l r o K fun x h o=>truthP h x o fun c o=>match c with | true=>execPB b l h o K | false=>execPB e l h o K
 | .forN i k it b,l,h,o,K=>zaQ T Φ it l h o fun r o=>toSP l r o K fun v h o=>srcP false k v h o fun src fuel o=>
  askS (zbQ src (fun v l=>some (l.set i (some v))) (zaC T Φ b) fuel 0 l h) o K
 | .forT is k it b,l,h,o,K=>zaQ T Φ it l h o fun r o=>toSP l r o K fun v h o=>srcP true k v h o fun src fuel o=>
  askS (zbQ src (fun v l=>match v with | .tup vs=>zcw is vs l | _=>none) (zaC T Φ b) fuel 0 l h) o K
 | .raise c e,l,h,o,K=>match c with
  | 0=>zaQ T Φ e l h o fun r o=>toSP l r o K fun v h o=>match v with | .str _=>K (.exc l h) o | _=>True
  | _ + 1=>True
 | .try_ e c,l,h,o,K=>match c with
  | 0=>zaQ T Φ e l h o fun r o=>match r with
   | .ok v h=>K (.ret v h) o
   | .exc h=>K (.ret .none h) o
   | .stuck=>True
  | _ + 1=>True
noncomputable def execPB:List MS→Locs→zax→Anss→(SRes→Anss→Prop)→Prop
 | [],l,h,o,K=>K (.nxt l h) o
 | s :: r,l,h,o,K=>execP s l h o fun sr o=>match sr with
  | .nxt l h=>execPB r l h o K
  | .ret v h=>K (.ret v h) o
  | .exc l h=>K (.exc l h) o
  | .stuck=>True
end
end
theorem askB_ok {c:Bool} {K:Bool→Anss→Prop} (h:∀ o,K c o) (o:Anss) :askB c o K:=by
 unfold askB;split
 · exact fun e=>e ▸ h _
 · cases c <;> exact h _
theorem askR_ok {q:Res MV} {K:Res MV→Anss→Prop} (h:∀ o,K q o) (o:Anss) :askR q o K:=by
 unfold askR;split
 · exact fun e=>e ▸ h _
 · trivial
theorem askS_ok {q:SRes} {K:SRes→Anss→Prop} (h:∀ o,K q o) (o:Anss) :askS q o K:=by
 unfold askS;split
 · exact fun e=>e ▸ h _
 · trivial
theorem askL_ok {q:Res (List MV)} {K:Res (List MV)→Anss→Prop} (h:∀ o,K q o) (o:Anss) :askL q o K:=by
 unfold askL;split
 · exact fun e=>e ▸ h _
 · trivial
theorem zeU {q:Option MObj} {K:MObj→Anss→Prop} (h:∀ x o,q=some x→K x o) (o:Anss) :askO q o K:=by
 unfold askO;split
 · exact fun e=>h _ _ e
 · trivial
theorem askR'_ok {q:Res MV} {K:Res MV→Anss→Prop} (h:∀ o,K q o) (o:Anss) :askR' q o K:=by
 unfold askR';split
 · exact fun e=>e ▸ h _
 · exact h _
theorem askC_ok {q:Option Bool} {K:Bool→Anss→Prop} (h:∀ x o,q=some x→K x o) (o:Anss) :askC q o K:=by
 unfold askC;split
 · exact fun e=>h _ _ e
 · cases q with
   | none=>trivial
   | some v=>exact h _ _ rfl
theorem askI_ok {q:Option MV} {K:MV→Anss→Prop} (h:∀ x o,q=some x→K x o) (o:Anss) :askI q o K:=by
 unfold askI;split
 · exact fun e=>h _ _ e
 · cases q with
   | none=>trivial
   | some v=>exact h _ _ rfl
theorem zaE {α β:Type} {r:Res α} {o:Anss} {K:Res β→Anss→Prop} {f:α→zax→Anss→Prop} {F:α→zax→Res β} (hK:∀ o,K (r.bind F) o) (h:∀ x h o,(∀ o,K (F x h) o)→f x h o) :zbw r o K f:=by
 cases r with
 | ok a h'=>exact h _ _ _ hK
 | exc h'=>exact hK o
 | stuck=>trivial
theorem zaZ {α:Type} {l:Locs} {r:Res α} {o:Anss} {K:SRes→Anss→Prop} {f:α→zax→Anss→Prop} {F:α→zax→SRes} (hK:∀ o,K (r.toS l F) o) (h:∀ x h o,(∀ o,K (F x h) o)→f x h o) :toSP l r o K f:=by
 cases r with
 | ok a h'=>exact h _ _ _ hK
 | exc h'=>exact hK o
 | stuck=>trivial
theorem lst_of {h:zax} {a:Nat} {x:MObj} (e:h[a]? =some x) {vs:List MV} {n:Nat} (e':objItems x=some (vs,n)) :items? h a=some vs∧itemsV? h a=some (vs,n):=by
 unfold items? itemsV?
 rw [e]
 cases x with
 | list a b=>cases e';exact ⟨rfl,rfl⟩
 | ro a=>cases e';exact ⟨rfl,rfl⟩
 | inst a b=>exact noC Option.ctorIdx e' rfl
set_option tactic.hygienic true in
theorem lstP_ok {h:zax} {a:Nat} {K:List MV→Nat→Anss→Prop} (k:∀ vs n o,items? h a=some vs→itemsV? h a=some (vs,n)→K vs n o) (o:Anss) :lstP h a o K:=by
 refine zeU (fun x o e=>?_) o
 split
 · rename_i vs n e'
   refine x0_2 (lst_of e e') fun h1 h2=>?_
   exact k _ _ _ h1 h2
 · trivial
theorem newL_ok {vs:List MV} {h:zax} {K:Res MV→Anss→Prop} (k:∀ o,K (zaR vs h) o) (o:Anss) :newL vs h o K:=fun q=>by
 have:=k o
 unfold zaR at this
 rwa [if_pos q] at this
set_option tactic.hygienic true in
theorem newL'_ok {vs:List MV} {h:zax} {K:Res MV→Anss→Prop} (k:∀ o,K (zaR vs h) o) (o:Anss) :newL' vs h o K:=by
 unfold newL';split
 · rename_i q
   have:=k o
   unfold zaR at this
   rwa [if_pos (Nat.le_of_ble_eq_true q)] at this
 · trivial
set_option tactic.hygienic true in
theorem newT'_ok {vs:List MV} {h:zax} {K:Res MV→Anss→Prop} (k:∀ o,K (mkTup vs h) o) (o:Anss) :newT' vs h o K:=by
 unfold newT';split
 · rename_i q
   have:=k o
   unfold mkTup at this
   rwa [if_pos (Nat.le_of_ble_eq_true q)] at this
 · trivial
theorem zdI {h:zax} {v:MV} {K:Bool→Anss→Prop} (k:∀ b o,zbI h v=some b→K b o) (o:Anss) :truthP h v o K:=by
 cases v with
 | none=>exact k _ _ rfl
 | bool c=>exact askB_ok (fun o=>k _ _ rfl) o
 | int i=>exact askB_ok (fun o=>k _ _ rfl) o
 | str s=>trivial
 | tup vs=>exact k _ _ rfl
 | ref a=>exact lstP_ok (fun vs n o h1 h2=>k _ _ (by simp only [zbI,h1,Option.map_some])) o
theorem eqP_ok {h:zax} {a b:MV} {K:Bool→Anss→Prop} (k:∀ c o,eqH h a b=some c→K c o) (o:Anss) :eqP h a b o K:=by
 unfold eqP
 split
 · split
   · exact k _ _ rfl
   · exact askC_ok k o
 · exact askC_ok k o
theorem zcA {a b:MV} {K:Int→Int→Prop} (k:∀ i j,a= .int i→b= .int j→K i j) :zfC a b K:=by
 unfold zfC
 split
 · split
   · exact k _ _ rfl rfl
   · trivial
 · trivial
theorem cmpP_ok {h:zax} {op:MCmp} {a b:MV} {K:Bool→Anss→Prop} (k:∀ c o,cmpV h op a b=some c→K c o) (o:Anss) :cmpP h op a b o K:=by
 unfold cmpP
 cases op with
 | eq=>exact eqP_ok k o
 | ne=>exact eqP_ok (fun c o e=>k _ _ (by show (eqH h a b).map _ = _;rw [e];rfl)) o
 | is=>dsimp only;split;exact k _ _ rfl;trivial
 | isNot=>dsimp only;split;exact k _ _ rfl;trivial
 | _=>exact zcA fun i j e1 e2=>k _ _ (by simp only [e1,e2];rfl)
theorem binP_ok {op:MOp} {a b:MV} {h:zax} {K:Res MV→Anss→Prop} (k:∀ o,K (binV op a b h) o) (o:Anss) :binP op a b h o K:=by
 unfold binP
 cases op with
 | add=>
  unfold addP
  dsimp only
  split
  · split
    · exact k o
    · trivial
  · split
    · exact newT'_ok k o
    · trivial
  · split
    · refine lstP_ok (fun vs _ o h1 _=>lstP_ok (fun ws _ o h2 _=>newL_ok (fun o=>?_) o) o) o
      have:=k o
      simp only [binV,addV,onItems,h1,h2] at this
      exact this
    · trivial
  · trivial
 | sub=>exact zcA fun i j e1 e2=>by rw [e1,e2] at k;exact k o
 | mul=>exact zcA fun i j e1 e2 q=>by rw [e1,e2] at k;simp only [binV,int2,if_pos q] at k;exact k o
 | fdiv=>exact zcA fun i j e1 e2 q=>by rw [e1,e2] at k;simp only [binV,int2,if_pos q] at k;exact k o
 | mod=>exact zcA fun i j e1 e2 q=>by rw [e1,e2] at k;simp only [binV,int2,if_pos q] at k;exact k o
 | pow=>exact zcA fun i j e1 e2 q=>by rw [e1,e2] at k;simp only [binV,int2,if_pos q] at k;exact k o
set_option tactic.hygienic true in
theorem attrP_ok {T:Tables} {v:MV} {a:Nat} {h:zax} {K:Res MV→Anss→Prop} (k:∀ o,K (attrV T v a h) o) (o:Anss) :attrP T v a h o K:=by
 unfold attrP
 split
 · refine zeU (fun x o e=>?_) o
   simp only [attrV,e] at k
   split
   · dsimp only at k
     split
     · trivial
     · rename_i e1
       rw [e1] at k
       split
       · rename_i e2;rw [e2] at k;exact k o
       · rename_i e2
         rw [e2] at k
         dsimp only at k
         split
         · rename_i e3;rw [e3] at k;exact k o
         · trivial
   · trivial
 · trivial
set_option tactic.hygienic true in
theorem zeQ {v:MV} {a:Nat} {w:MV} {h:zax} {K:zax→Anss→Prop} (k:∀ h' o,zbE v a w h= .ok () h'→K h' o) (o:Anss) :zeB v a w h o K:=by
 unfold zeB
 split
 · refine zeU (fun x o e=>?_) o
   split
   · split
     · rename_i q
       exact k _ _ (by simp only [zbE,e];exact if_pos (Nat.le_of_ble_eq_true q))
     · trivial
   · trivial
 · trivial
theorem setItemP_ok {v i w:MV} {h:zax} {K:zax→Anss→Prop} (k:∀ h' o,zdx v i w h= .ok () h'→K h' o) (o:Anss) :setItemP v i w h o K:=by
 unfold setItemP
 split
 · split
   · refine zeU (fun x o e=>?_) o
     split
     · exact fun q=>k _ _ (by simp only [zdx,e];rw [if_pos q])
     · trivial
   · trivial
 · trivial
theorem itemP_ok {h:zax} {x y:MV} {K:MV→Anss→Prop} (k:∀ i v o,y= .int i→zaG h x i=some v→K v o) (o:Anss) :itemP h x y o K:=by
 unfold itemP
 split
 · exact askI_ok (fun v o e=>k _ _ _ rfl e) o
 · trivial
theorem appP_ok {v x:MV} {h:zax} {K:Res MV→Anss→Prop} (k:∀ o,K (zdE v x h) o) (o:Anss) :appP v x h o K:=by
 unfold appP
 split
 · refine zeU (fun ob o e=>?_) o
   simp only [zdE,e] at k
   split
   · exact fun q=>by dsimp only at k;rw [if_pos q] at k;exact k o
   · trivial
 · trivial
theorem arg1P_ok {vs:List MV} {K:MV→Prop} (k:∀ x,vs= [x]→K x) :arg1P vs K:=by
 cases vs with
 | nil=>trivial
 | cons x r=>
  cases r with
  | nil=>exact k x rfl
  | cons=>trivial
theorem arg2P_ok {vs:List MV} {K:Int→Int→Prop} (k:∀ i j,vs= [.int i,.int j]→K i j) :arg2P vs K:=by
 cases vs with
 | nil=>trivial
 | cons x r=>exact arg1P_ok fun y e=>zcA fun i j e1 e2=>k i j (by simp only [e1,e,e2])
theorem onLst_ok {h:zax} {v:MV} {K:List MV→Nat→Anss→Prop} (k:∀ vs n o,onItems h v=(fun f=>f vs)→K vs n o) (o:Anss) :onLst h v o K:=by
 cases v with
 | ref a=>exact lstP_ok (fun vs n o h1 _=>k vs n o (funext fun f=>by show (match items? h a with | some vs=>f vs | none=> .stuck)= _;rw [h1])) o
 | _=>trivial
theorem biP_ok {b:MBi} {vs:List MV} {h:zax} {K:Res MV→Anss→Prop} (k:∀ o,K (biV b vs h) o) (o:Anss) :biP b vs h o K:=by
 cases b with
 | max=>exact arg2P_ok fun i j e=>by subst e;exact k o
 | min=>exact arg2P_ok fun i j e=>by subst e;exact k o
 | abs=>
  refine arg1P_ok fun x e=>?_
  subst e
  cases x with
  | int i=>exact k o
  | _=>trivial
 | len=>
  refine arg1P_ok fun x e=>onLst_ok (fun vs _ o h1=>?_) o
  subst e
  have k:∀ o,K (onItems h x fun vs=> .ok (.int vs.length) h) o:=k
  rw [h1] at k;exact k o
 | list=>
  refine arg1P_ok fun x e=>onLst_ok (fun vs _ o h1=>newL_ok ?_ o) o
  subst e
  have k:∀ o,K (onItems h x fun vs=>zaR vs h) o:=k
  rw [h1] at k;exact k
 | tuple=>
  refine arg1P_ok fun x e=>onLst_ok (fun vs _ o h1=>?_) o
  subst e
  have k:∀ o,K (onItems h x fun vs=> .ok (.tup vs) h) o:=k
  rw [h1] at k;exact k o
 | _=>exact askR'_ok k o
set_option tactic.hygienic true in
theorem srcP_ok {tp:Bool} {k:SrcK} {v:MV} {h:zax} {K:Src→Nat→Anss→Prop} (q:∀ src o,zcU tp k v h=some src→K src (zbN src h) o) (o:Anss) :srcP tp k v h o K:=by
 unfold srcP
 cases k with
 | plain=>
  dsimp only;split
  · exact q _ _ rfl
  · rename_i a
    refine lstP_ok (fun vs n o h1 h2=>?_) o
    have:=q (.list a n false) o (by simp only [zcU,srcL,h2])
    simp only [zbN,h1] at this
    exact this
  · trivial
 | enum=>
  dsimp only;split
  · split
    · rename_i a _
      refine lstP_ok (fun vs n o h1 h2=>?_) o
      have:=q (.list a n true) o (by simp only [zcU,srcL,h2,if_true])
      simp only [zbN,h1] at this
      exact this
    · trivial
  · trivial
 | range=>
  dsimp only;split
  · exact fun c=>q _ _ (by simp only [zcU,if_pos c])
  · trivial
section
variable (T:Tables) (Φ:Nat→List MV→zax→Res MV)
mutual
theorem zaA:∀ (e:ME) (l:Locs) (h:zax) (o:Anss) (K:Res MV→Anss→Prop),(∀ o,K (zaw T Φ e l h) o)→zaQ T Φ e l h o K
 | .bad,l,h,o,K,k=>trivial
 | .const v,l,h,o,K,k=>k o
 | .loc i,l,h,o,K,k=>by
  show match (l[i]?).join with | some v=>K (.ok v h) o | none=>True
  have k:∀ o,K (match (l[i]?).join with | some v=> .ok v h | none=> .stuck) o:=k
  cases e:(l[i]?).join with
  | some v=>rw [e] at k;exact k o
  | none=>trivial
 | .bin op a b,l,h,o,K,k=>by
  exact zaA a l h o _ fun o=>zaE k fun x h o k=>zaA b l h o _ fun o=>zaE k fun y h o k=>binP_ok k o
 | .neg a,l,h,o,K,k=>by
  refine zaA a l h o _ fun o=>zaE k fun x h o k=>?_
  split
  · exact k o
  · trivial
 | .not a,l,h,o,K,k=>by
  refine zaA a l h o _ fun o=>zaE k fun x h o k=>zdI (fun b o e=>?_) o
  rw [e] at k;exact k o
 | .and a b,l,h,o,K,k=>by
  refine zaA a l h o _ fun o=>zaE k fun x h o k=>zdI (fun c o e=>?_) o
  rw [e] at k
  cases c with
  | true=>exact zaA b l h o _ k
  | false=>exact k o
 | .or a b,l,h,o,K,k=>by
  refine zaA a l h o _ fun o=>zaE k fun x h o k=>zdI (fun c o e=>?_) o
  rw [e] at k
  cases c with
  | false=>exact zaA b l h o _ k
  | true=>exact k o
 | .cmp1 op a b,l,h,o,K,k=>by
  refine zaA a l h o _ fun o=>zaE k fun x h o k=>zaA b l h o _ fun o=>zaE k fun y h o k=>cmpP_ok (fun c o e=>?_) o
  rw [e] at k;exact k o
 | .cmp2 op op' a b c,l,h,o,K,k=>by
  refine zaA a l h o _ fun o=>zaE k fun x h o k=>zaA b l h o _ fun o=>zaE k fun y h o k=>cmpP_ok (fun d o e=>?_) o
  rw [e] at k
  refine askB_ok (fun o=>?_) o
  cases d with
  | true=>
   refine zaA c l h o _ fun o=>zaE k fun z h o k=>cmpP_ok (fun c o e=>?_) o
   rw [e] at k;exact k o
  | false=>exact k o
 | .ite t b e,l,h,o,K,k=>by
  refine zaA t l h o _ fun o=>zaE k fun x h o k=>zdI (fun c o q=>?_) o
  rw [q] at k
  cases c with
  | true=>exact zaA b l h o _ k
  | false=>exact zaA e l h o _ k
 | .call f args,l,h,o,K,k=>by
  exact zcH args l h o _ fun o=>zaE k fun vs h o k=>askR_ok k o
 | .new c args,l,h,o,K,k=>by
  refine zcH args l h o _ fun o=>zaE k fun vs h o k=>?_
  cases hc:T.cinit c with
  | none=>trivial
  | some f=>
   rw [hc] at k
   refine askR_ok (fun o=>zaE k fun x h' o k=>?_) o
   split
   · exact k o
   · trivial
 | .meth e m args,l,h,o,K,k=>by
  refine zaA e l h o _ fun o=>zaE k fun x h o k=>?_
  split
  · refine zeU (fun ob o e=>?_) o
    simp only [e] at k
    split
    · dsimp only at k
      cases hg:getF m _ with
      | some _=>trivial
      | none=>
       cases hm:T.cmeth _ m with
       | none=>trivial
       | some f=>
        simp only [hg,hm] at k
        exact zcH args l h o _ fun o=>zaE k fun vs h o k=>askR_ok k o
    · trivial
  · trivial
 | .app e x,l,h,o,K,k=>by
  refine zaA e l h o _ fun o=>zaE k fun v h o k=>?_
  split
  · refine zeU (fun ob o e=>?_) o
    simp only [e] at k
    split
    · exact zaA x l h o _ fun o=>zaE k fun x h o k=>appP_ok k o
    · trivial
  · trivial
 | .bi b args,l,h,o,K,k=>by
  exact zcH args l h o _ fun o=>zaE k fun vs h o k=>biP_ok k o
 | .attr e a,l,h,o,K,k=>by
  exact zaA e l h o _ fun o=>zaE k fun x h o k=>attrP_ok k o
 | .sub e i,l,h,o,K,k=>by
  refine zaA e l h o _ fun o=>zaE k fun x h o k=>zaA i l h o _ fun o=>zaE k fun y h o k=>itemP_ok (fun i v o e1 e2=>?_) o
  subst e1
  simp only [e2] at k;exact k o
 | .sliceTo e i,l,h,o,K,k=>by
  exact zaA e l h o _ fun o=>zaE k fun x h o k=>zaA i l h o _ fun o=>zaE k fun y h o k=>askR'_ok k o
 | .sliceFrom e i,l,h,o,K,k=>by
  exact zaA e l h o _ fun o=>zaE k fun x h o k=>zaA i l h o _ fun o=>zaE k fun y h o k=>askR'_ok k o
 | .list es,l,h,o,K,k=>by
  exact zcH es l h o _ fun o=>zaE k fun vs h o k=>newL'_ok k o
 | .tup es,l,h,o,K,k=>by
  exact zcH es l h o _ fun o=>zaE k fun vs h o k=>newT'_ok k o
 | .comp elt nt kk it,l,h,o,K,k=>by
  refine zaA it l h o _ fun o=>zaE k fun v h o k=>srcP_ok (fun src o e=>askL_ok (fun o=>?_) o) o
  rw [e] at k
  exact zaE k fun vs h o k=>newL_ok k o
 | .compIf elt nt kk it c,l,h,o,K,k=>by
  refine zaA it l h o _ fun o=>zaE k fun v h o k=>srcP_ok (fun src o e=>askL_ok (fun o=>?_) o) o
  rw [e] at k
  exact zaE k fun vs h o k=>newL_ok k o
theorem zcH:∀ (es:List ME) (l:Locs) (h:zax) (o:Anss) (K:Res (List MV)→Anss→Prop),(∀ o,K (zex T Φ es l h) o)→evalPs T Φ es l h o K
 | [],l,h,o,K,k=>k o
 | e :: es,l,h,o,K,k=>by
  exact zaA e l h o _ fun o=>zaE k fun v h o k=>zcH es l h o _ fun o=>zaE k fun vs h o k=>k o
end
theorem setTsP_ok {K:SRes→Anss→Prop} :∀ (ts:List MT) (vs:List MV) (l:Locs) (h:zax) (o:Anss),(∀ o,K (zcP ts vs l h) o)→setTsP ts vs l h o K
 | [],[],l,h,o,k=>k o
 | [],_ :: _,l,h,o,k=>trivial
 | _ :: ts,[],l,h,o,k=>trivial
 | .name i :: ts,v :: vs,l,h,o,k=>setTsP_ok ts vs _ h o k
 | .attr i a :: ts,v :: vs,l,h,o,k=>by
  show match (l[i]?).join with | some x=>zeB x a v h o fun h o=>setTsP ts vs l h o K | none=>True
  have k:∀ o,K (match (l[i]?).join with | some o=>(zbE o a v h).toS l fun _ h=>zcP ts vs l h | none=> .stuck) o:=k
  cases e:(l[i]?).join with
  | some x=>
   rw [e] at k
   exact zeQ (fun h' o e=>setTsP_ok ts vs l h' o (by dsimp only at k;rw [e] at k;exact k)) o
  | none=>trivial
mutual
theorem execP_ok:∀ (s:MS) (l:Locs) (h:zax) (o:Anss) (K:SRes→Anss→Prop),(∀ o,K (zcR T Φ s l h) o)→execP T Φ s l h o K
 | .bad,l,h,o,K,k=>trivial
 | .asg i e,l,h,o,K,k=>by
  exact zaA T Φ e l h o _ fun o=>zaZ k fun v h o k=>k o
 | .asgT ts e,l,h,o,K,k=>by
  refine zaA T Φ e l h o _ fun o=>zaZ k fun v h o k=>?_
  split
  · exact setTsP_ok _ _ _ _ _ k
  · trivial
 | .asgA x a e,l,h,o,K,k=>by
  refine zaA T Φ e l h o _ fun o=>zaZ k fun v h o k=>zaA T Φ x l h o _ fun o=>zaZ k fun x h o k=>zeQ (fun h' o e=>?_) o
  rw [e] at k;exact k o
 | .asgI x i e,l,h,o,K,k=>by
  refine zaA T Φ e l h o _ fun o=>zaZ k fun v h o k=>zaA T Φ x l h o _ fun o=>zaZ k fun x h o k=>zaA T Φ i l h o _ fun o=>zaZ k fun i h o k=>setItemP_ok (fun h' o e=>?_) o
  rw [e] at k;exact k o
 | .augA x a op e,l,h,o,K,k=>by
  refine zaA T Φ x l h o _ fun o=>zaZ k fun x h o k=>attrP_ok (fun o=>zaZ k fun y h o k=>zaA T Φ e l h o _ fun o=>zaZ k fun z h o k=>?_) o
  split
  · refine zcA fun i j e1 e2=>zeQ (fun h' o e=>?_) o
    subst e1 e2
    simp only [e] at k;exact k o
  · trivial
 | .augI x i op e,l,h,o,K,k=>by
  refine zaA T Φ x l h o _ fun o=>zaZ k fun x h o k=>zaA T Φ i l h o _ fun o=>zaZ k fun i h o k=>itemP_ok (fun j v o e1 e2=>?_) o
  subst e1
  simp only [itemR,e2] at k
  refine zaA T Φ e l h o _ fun o=>zaZ k fun z h o k=>?_
  split
  · refine zcA fun i j e3 e4=>setItemP_ok (fun h' o e=>?_) o
    subst e3 e4
    simp only [e] at k;exact k o
  · trivial
 | .expr e,l,h,o,K,k=>by
  exact zaA T Φ e l h o _ fun o=>zaZ k fun v h o k=>k o
 | .ret e,l,h,o,K,k=>by
  exact zaA T Φ e l h o _ fun o=>zaZ k fun v h o k=>k o
 | .ite t b e,l,h,o,K,k=>by
  refine zaA T Φ t l h o _ fun o=>zaZ k fun x h o k=>zdI (fun c o q=>?_) o
  rw [q] at k
  cases c with
  | true=>exact zdZ b l h o _ k
  | false=>exact zdZ e l h o _ k
 | .forN i kk it b,l,h,o,K,k=>by
  refine zaA T Φ it l h o _ fun o=>zaZ k fun v h o k=>srcP_ok (fun src o e=>askS_ok (fun o=>?_) o) o
  rw [e] at k;exact k o
 | .forT is kk it b,l,h,o,K,k=>by
  refine zaA T Φ it l h o _ fun o=>zaZ k fun v h o k=>srcP_ok (fun src o e=>askS_ok (fun o=>?_) o) o
  rw [e] at k;exact k o
 | .raise c e,l,h,o,K,k=>by
  cases c with
  | succ c=>trivial
  | zero=>
   refine zaA T Φ e l h o _ fun o=>zaZ k fun v h o k=>?_
   split
   · exact k o
   · trivial
 | .try_ e c,l,h,o,K,k=>by
  cases c with
  | succ c=>trivial
  | zero=>
   refine zaA T Φ e l h o _ fun o=>?_
   have k:∀ o,K (match zaw T Φ e l h with | .ok v h=> .ret v h | .exc h=> .ret .none h | .stuck=> .stuck) o:=k
   cases e:zaw T Φ e l h with
   | ok v h=>rw [e] at k;exact k o
   | exc h=>rw [e] at k;exact k o
   | stuck=>trivial
theorem zdZ:∀ (b:List MS) (l:Locs) (h:zax) (o:Anss) (K:SRes→Anss→Prop),(∀ o,K (zaC T Φ b l h) o)→execPB T Φ b l h o K
 | [],l,h,o,K,k=>k o
 | s :: r,l,h,o,K,k=>by
  refine execP_ok s l h o _ fun o=>?_
  have k:∀ o,K ((zcR T Φ s l h).bind fun l h=>zaC T Φ r l h) o:=k
  cases hs:zcR T Φ s l h with
  | nxt l' h'=>rw [hs] at k;exact zdZ r l' h' o _ k
  | ret v h'=>rw [hs] at k;exact k o
  | exc l' h'=>rw [hs] at k;exact k o
  | stuck=>trivial
end
end
noncomputable def finR (d:MFn) :SRes→Res MV
 | .nxt _ h=> .ok .none h
 | .ret v h=> .ok v h
 | .exc _ h=>(match d.plain with | true=> .exc h | false=> .stuck)
 | .stuck=> .stuck
theorem runD (f:Nat) (d:MFn) (n:Nat) (vs ws:List MV) (h:zax) (o:Anss) (hd:fnsT f=some d) (hb:zdD d.np d.defs vs=some ws) :
 execPB tabs (zay tabs fnsT n) d.body (ws.map some ++ List.replicate (d.slots - d.np) none) h o fun r _=>zay tabs fnsT (n + 1) f vs h=finR d r:=by
 refine zdZ _ _ _ _ _ _ _ fun o=>?_
 unfold zay
 rw [hd]
 simp only [hb]
 cases hr:zaC tabs (zay tabs fnsT n) d.body (ws.map some ++ List.replicate (d.slots - d.np) none) h with
 | exc l h'=>dsimp only;unfold finR;cases d.plain <;> rfl
 | _=>rfl
theorem run (f:Nat) (d:MFn) (n:Nat) (vs:List MV) (h:zax) (o:Anss) (hd:fnsT f=some d) (hb:zdD d.np d.defs vs=some vs) :
 execPB tabs (zay tabs fnsT n) d.body (vs.map some ++ List.replicate (d.slots - d.np) none) h o fun r _=>zay tabs fnsT (n + 1) f vs h=finR d r:=runD f d n vs vs h o hd hb
theorem runB {n:Nat} {b:List MS} {l:Locs} {h:zax} (o:Anss) :execPB tabs (zay tabs fnsT n) b l h o fun r _=>zaC tabs (zay tabs fnsT n) b l h=r:=zdZ _ _ _ _ _ _ _ fun _=>rfl
theorem runE {n:Nat} {e:ME} {l:Locs} {h:zax} (o:Anss) :zaQ tabs (zay tabs fnsT n) e l h o fun r _=>zaw tabs (zay tabs fnsT n) e l h=r:=zaA _ _ _ _ _ _ _ fun _=>rfl
theorem dt {p:Prop} [Decidable p] (h:p) :decide p=true:=decide_eq_true h
theorem df {p:Prop} [Decidable p] (h:¬p) :decide p=false:=decide_eq_false h
noncomputable abbrev zaB (n f:Nat) (vs:List MV) (h:zax) :Res MV:=zay tabs fnsT n f vs h
noncomputable abbrev maxD:Int:=1073741823
inductive L2 {α β:Type} (R:α→β→Prop) :List α→List β→Prop
 | nil:L2 R [] []
 | cons {a b as bs} :R a b→L2 R as bs→L2 R (a :: as) (b :: bs)
section
variable {α β:Type} {R S:α→β→Prop} {as cs:List α} {bs ds:List β}
theorem L2.len (h:L2 R as bs) :as.length=bs.length:=by
 induction h with
 | nil=>rfl
 | cons _ _ ih=>simp [ih]
theorem L2.imp (f:∀ a b,R a b→S a b) (h:L2 R as bs) :L2 S as bs:=by
 induction h with
 | nil=>exact .nil
 | cons x _ ih=>exact .cons (f _ _ x) ih
theorem L2.app (h:L2 R as bs) (k:L2 R cs ds) :L2 R (as ++ cs) (bs ++ ds):=by
 induction h with
 | nil=>exact k
 | cons x _ ih=>exact .cons x ih
theorem L2.get (h:L2 R as bs) :∀ {k:Nat} {a:α},as[k]? =some a→∃ b,bs[k]? =some b∧R a b:=by
 induction h with
 | nil=>intro k a e;simp at e
 | cons x _ ih=>
  intro k a e
  cases k with
  | zero=>cases e;exact ⟨_,rfl,x⟩
  | succ k=>exact ih e
theorem L2.get' (h:L2 R as bs) :∀ {k:Nat} {b:β},bs[k]? =some b→∃ a,as[k]? =some a∧R a b:=by
 induction h with
 | nil=>intro k a e;simp at e
 | cons x _ ih=>
  intro k a e
  cases k with
  | zero=>cases e;exact ⟨_,rfl,x⟩
  | succ k=>exact ih e
theorem L2.set (h:L2 R as bs) {a:α} {b:β} (r:R a b) :∀ (k:Nat),L2 R (as.set k a) (bs.set k b):=by
 induction h with
 | nil=>intro k;exact .nil
 | cons x y ih=>
  intro k
  cases k with
  | zero=>exact .cons r y
  | succ k=>exact .cons x (ih k)
theorem L2.take (h:L2 R as bs) :∀ (k:Nat),L2 R (as.take k) (bs.take k):=by
 induction h with
 | nil=>intro k;simp;exact .nil
 | cons x y ih=>
  intro k
  cases k with
  | zero=>exact .nil
  | succ k=>exact .cons x (ih k)
theorem L2.drop (h:L2 R as bs) :∀ (k:Nat),L2 R (as.drop k) (bs.drop k):=by
 induction h with
 | nil=>intro k;simp;exact .nil
 | cons x y ih=>
  intro k
  cases k with
  | zero=>exact .cons x y
  | succ k=>exact ih k
end
section
variable (n:Nat) (h:zax)
theorem c0 {v lo hi:Int} (h1:lo≤v) (h2:v≤hi) :zaB (n + 1) 0 [.int v,.int lo,.int hi] h= .ok (.bool true) h:=
 (show zaB (n + 1) 0 [.int v,.int lo,.int hi] h=Res.ok (.bool (decide (v≤hi))) h from run 0 f0 n [.int v,.int lo,.int hi] h [.b true,.b false,.b true,.b true] rfl rfl rfl rfl rfl (dt h1)).trans (by rw [dt h2])
theorem c1 {v:Int} :zaB (n + 1) 1 [.int v] h= .ok (.int v) h:=run 1 f1 n [.int v] h [] rfl rfl
theorem c2 {v:Int} (h1:-2147483647≤v) (h2:v≤2147483647) :zaB (n + 2) 2 [.int v] h= .ok (.int v) h:=
 run 2 f2 (n + 1) [.int v] h [.r (.ok (.int v) h),.b true,.b true] rfl rfl (c1 n h) (dt h1) (dt h2)
theorem c3 {v:Int} (h1:-maxD≤v) (h2:v≤maxD) :zaB (n + 2) 3 [.int v] h= .ok (.int v) h:=
 run 3 f3 (n + 1) [.int v] h [.r (.ok (.int v) h),.b true,.b true] rfl rfl (c1 n h) (dt h1) (dt h2)
theorem c3x {v:Int} (hx:¬(-maxD≤v∧v≤maxD)) :zaB (n + 2) 3 [.int v] h= .exc h:=by
 by_cases h1:-maxD≤v
 · exact run 3 f3 (n + 1) [.int v] h [.r (.ok (.int v) h),.b true,.b false] rfl rfl (c1 n h) (dt h1) (df fun q=>hx ⟨h1,q⟩)
 · exact run 3 f3 (n + 1) [.int v] h [.r (.ok (.int v) h),.b false] rfl rfl (c1 n h) (df h1)
noncomputable def rnd (a b:Int) :Int:=if a < 0 then -((b - 2 * a) / (2 * b)) else (2 * a + b) / (2 * b)
theorem c4 {a b:Int} (h1:0 < b) (h2:b < 4611686018427387904) :zaB (n + 1) 4 [.int a,.int b] h= .ok (.int (rnd a b)) h:=by
 have h3:¬ b≤0:=Int.not_le.mpr h1
 have h4:0 < 2 * b∧2 * b < 18446744073709551616:=by lia
 unfold rnd
 by_cases h5:a < 0
 · rw [if_pos h5]
   exact run 4 f4 n [.int a,.int b] h [.b false,.b true] rfl rfl (df h3) (dt h5) (.inl (by decide)) (.inl (by decide)) h4
 · rw [if_neg h5]
   exact run 4 f4 n [.int a,.int b] h [.b false,.b false] rfl rfl (df h3) (df h5) (.inl (by decide)) (.inl (by decide)) h4
noncomputable def badR (e t:Int) :Int:=if e≤7230584 then e * 297 / t else if 1663497≤t then e / (t / 297) else e
noncomputable def bad (e t:Int) :Int:=if e=0 then 0 else if t≤0 then 10000 else if 1290 < badR e t then 10000 else (badR e t * badR e t * badR e t + 131072) / 262144
theorem c5 {e t:Int} (h1:0 < e) (h2:t < 18446744073709551616) :zaB (n + 1) 5 [.int e,.int t] h= .ok (.int (bad e t)) h:=by
 have h3:¬ e < 0:=by lia
 have h4:¬ e=0:=by (with_reducible exact Int.ne_of_gt (by assumption))
 unfold bad
 rw [if_neg h4]
 by_cases h5:t≤0
 · rw [if_pos h5]
   exact run 5 f5 n [.int e,.int t] h [.b false,.b false,.b true] rfl rfl (df h3) (df h4) (dt h5)
 · rw [if_neg h5]
   have h6:0 < t:=by (with_reducible exact Int.not_le.mp (by assumption))
   by_cases h7:e≤7230584
   · have e1:badR e t=e * 297 / t:=if_pos h7
     rw [e1]
     by_cases h8:1290 < e * 297 / t
     · rw [if_pos h8]
       exact run 5 f5 n [.int e,.int t] h [.b false,.b false,.b false,.b true,.b true] rfl rfl (df h3) (df h4) (df h5) (dt h7) (.inr (by decide)) ⟨h6,h2⟩ (dt h8)
     · rw [if_neg h8]
       have h9:(e * 297 / t).natAbs < 18446744073709551616:=by have:=Int.ediv_nonneg (a:=e * 297) (b:=t) (by lia) (by (with_reducible exact Int.le_of_lt (by assumption)));lia
       exact run 5 f5 n [.int e,.int t] h [.b false,.b false,.b false,.b true,.b false] rfl rfl (df h3) (df h4) (df h5) (dt h7) (.inr (by decide)) ⟨h6,h2⟩ (df h8) (.inr h9) (.inr h9) (by decide)
   · by_cases ha:1663497≤t
     · have e1:badR e t=e / (t / 297):=by unfold badR;rw [if_neg h7,if_pos ha]
       have hb:0 < t / 297∧t / 297 < 18446744073709551616:=by lia
       rw [e1]
       by_cases h8:1290 < e / (t / 297)
       · rw [if_pos h8]
         exact run 5 f5 n [.int e,.int t] h [.b false,.b false,.b false,.b false,.b true,.b true] rfl rfl (df h3) (df h4) (df h5) (df h7) (dt ha) (by decide) hb (dt h8)
       · rw [if_neg h8]
         have h9:(e / (t / 297)).natAbs < 18446744073709551616:=by have:=Int.ediv_nonneg (a:=e) (b:=t / 297) (by (with_reducible exact Int.not_lt.mp (by assumption))) (by lia);lia
         exact run 5 f5 n [.int e,.int t] h [.b false,.b false,.b false,.b false,.b true,.b false] rfl rfl (df h3) (df h4) (df h5) (df h7) (dt ha) (by decide) hb (df h8) (.inr h9) (.inr h9) (by decide)
     · have e1:badR e t=e:=by unfold badR;rw [if_neg h7,if_neg ha]
       rw [e1,if_pos (by lia)]
       exact run 5 f5 n [.int e,.int t] h [.b false,.b false,.b false,.b false,.b false,.b true] rfl rfl (df h3) (df h4) (df h5) (df h7) (df ha) (dt (by lia))
theorem c19:zaB (n + 1) 19 [.int 0] h= .ok .none h:=run 19 f19 n [.int 0] h [] rfl rfl
theorem c31 {u d:Int} :zaB (n + 1) 31 [.int u,.int d] h= .ok (if 0 < d then .tup [.int u,.int d] else .tup [.int (-u),.int (-d)]) h:=by
 by_cases q:0 < d
 · rw [if_pos q];exact run 31 f31 n [.int u,.int d] h [.b true] rfl rfl (dt q)
 · rw [if_neg q];exact run 31 f31 n [.int u,.int d] h [.b false] rfl rfl (df q)
theorem c37 {own mode am:Int} (hm:mode=0∨mode=1) (h1:-maxD≤am) (h2:am≤maxD) :zaB (n + 3) 37 [.int own,.int mode,.int am] h= .ok (.int (if mode=0 then am else own + am)) h:=by
 rcases hm with rfl | rfl
 · exact run 37 f37 (n + 2) [.int own,.int 0,.int am] h [.r (.ok (.int am) h)] rfl rfl (c3 n h h1 h2)
 · exact run 37 f37 (n + 2) [.int own,.int 1,.int am] h [.r (.ok (.int am) h)] rfl rfl (c3 n h h1 h2)
theorem c37x {own mode am:Int} (hm:mode=0∨mode=1) (hx:¬(-maxD≤am∧am≤maxD)) :zaB (n + 3) 37 [.int own,.int mode,.int am] h= .exc h:=by
 rcases hm with rfl | rfl
 · exact run 37 f37 (n + 2) [.int own,.int 0,.int am] h [.r (.exc h)] rfl rfl (c3x n h hx)
 · exact run 37 f37 (n + 2) [.int own,.int 1,.int am] h [.r (.exc h)] rfl rfl (c3x n h hx)
end
theorem zcG {src:Src} {tgt:MV→Locs→Option Locs} {body:Locs→zax→SRes} {m k:Nat} {l l1 l2:Locs} {h h2:zax} {v:MV} (h1:zaH src k h=some (some v)) (ht:tgt v l=some l1) (hb:body l1 h= .nxt l2 h2) :
 zbQ src tgt body (m + 1) k l h=zbQ src tgt body m (k + 1) l2 h2:=by
 conv=>lhs;unfold zbQ
 simp only [h1,ht,hb]
theorem for_ret {src:Src} {tgt:MV→Locs→Option Locs} {body:Locs→zax→SRes} {m k:Nat} {l l1:Locs} {h h2:zax} {v r:MV} (h1:zaH src k h=some (some v)) (ht:tgt v l=some l1) (hb:body l1 h= .ret r h2) :
 zbQ src tgt body (m + 1) k l h= .ret r h2:=by
 unfold zbQ
 simp only [h1,ht,hb]
theorem for_end {src:Src} {tgt:MV→Locs→Option Locs} {body:Locs→zax→SRes} {m k:Nat} {l:Locs} {h:zax} (h1:zaH src k h=some none) :
 zbQ src tgt body (m + 1) k l h= .nxt l h:=by
 unfold zbQ
 simp only [h1]
theorem zbY {α:Type} {R:MV→α→Prop} {a ver:Nat} {num:Bool} {vs:List MV} {tgt:MV→Locs→Option Locs} {body:Locs→zax→SRes} (I:List α→Locs→zax→Prop) {ps:List α} (hR:L2 R vs ps)
 (hsrc:∀ d l h,I d l h→itemsV? h a=some (vs,ver))
 (step:∀ d p v l h,I d l h→vs[d.length]? =some v→R v p→ps[d.length]? =some p→∃ l1 l2 h2,tgt (if num then .tup [.int d.length,v] else v) l=some l1∧body l1 h= .nxt l2 h2∧I (d ++ [p]) l2 h2) :
 ∀ {m:Nat} {d:List α} {l:Locs} {h:zax},I d l h→(∃ r,d ++ r=ps)→vs.length + 1=m + d.length→∃ l' h',zbQ (.list a ver num) tgt body m d.length l h= .nxt l' h'∧I ps l' h'
 | 0,d,l,h,hI,⟨r,hr⟩,hm=>by
  have:=hR.len
  simp only [← hr,List.length_append] at this
  lia
 | m + 1,d,l,h,hI,⟨r,hr⟩,hm=>by
  have hs:=hsrc d l h hI
  have hlen:=hR.len
  cases r with
  | nil=>
   rw [List.append_nil] at hr
   subst hr
   refine ⟨l,h,for_end ?_,hI⟩
   unfold zaH
   simp only [hs]
   rw [List.getElem?_eq_none (by (with_reducible exact Nat.le_of_eq (by assumption)))]
   rfl
  | cons p r=>
   have hd:d.length < ps.length:=by rw [← hr];simp
   have hv:vs[d.length]? =some vs[d.length]:=List.getElem?_eq_getElem (by lia)
   have hp:ps[d.length]? =some p:=by simp only [← hr];simp
   have hRp:R vs[d.length] p:=by
    refine x1_2 (hR.get hv) fun q h1 h2=>?_
    rw [hp] at h1
    (refine sy1 (Option.some.inj h1) ?_;clear h1;intro zq;subst zq)
    exact h2
   refine x3_3 (step d p _ l h hI hv hRp hp) fun l1 l2 h2 e1 e2 e3=>?_
   have hi:zaH (.list a ver num) d.length h=some (some (if num then .tup [.int d.length,vs[d.length]] else vs[d.length])):=by
    unfold zaH
    simp only [hs]
    rw [hv]
    rfl
   refine x2_2 (zbY I hR hsrc step (m:=m) (d:=d ++ [p]) e3 ⟨r,by simp only [← hr];simp⟩ (by simp only [List.length_append,List.length_singleton];lia)) fun l' h' e4 e5=>?_
   refine ⟨l',h',?_,e5⟩
   rw [zcG hi e1 e2]
   simp only [List.length_append,List.length_singleton] at e4
   exact e4
structure Gr (W:List Nat) (h h':zax) :Prop where
 len:h.length≤h'.length
 obj:∀ {i:Nat} {o:MObj},h[i]? =some o→(∀ vs n,o= .list vs n→i ∉ W)→h'[i]? =some o
section
variable {W V:List Nat} {h h' h'':zax} {i:Nat} {o:MObj}
theorem Gr.refl (W:List Nat) (h:zax) :Gr W h h:=⟨Nat.le_refl _,fun e _=>e⟩
theorem Gr.trans (a:Gr W h h') (b:Gr W h' h'') :Gr W h h'':=⟨Nat.le_trans a.len b.len,fun e k=>b.obj (a.obj e k) k⟩
theorem Gr.mono (a:Gr W h h') (s:∀ i∈ W,i∈ V) :Gr V h h':=⟨a.len,fun e k=>a.obj e fun vs n q m=>k vs n q (s _ m)⟩
theorem Gr.nil (a:Gr [] h h') :Gr V h h':=a.mono fun i m=>nomatch m
theorem Gr.app (W:List Nat) (h e:zax) :Gr W h (h ++ e):=⟨by simp only [List.length_append];exact Nat.le_add_right _ _,fun x _=>by rw [List.getElem?_append_left (List.getElem?_eq_some_iff.mp x).1];exact x⟩
theorem Gr.push (a:Gr W h h') (e:zax) :Gr W h (h' ++ e):=a.trans (Gr.app W h' e)
theorem Gr.fresh (a:Gr W h h') (hi:h.length≤i) (x:MObj) :Gr W h (h'.set i x):=⟨by simp only [List.length_set];exact a.len,fun e k=>by
 have:=(List.getElem?_eq_some_iff.mp e).1
 rw [List.getElem?_set_ne (by (with_reducible exact Nat.ne_of_gt (Nat.lt_of_lt_of_le (by assumption) (by assumption))))];exact a.obj e k⟩
theorem Gr.inst (a:Gr W h h') {c:Nat} {fs:List (Nat × MV)} (e:h[i]? =some (.inst c fs)) :h'[i]? =some (.inst c fs):=a.obj e fun _ _ q=>nomatch q
theorem Gr.ro (a:Gr W h h') {vs:List MV} (e:h[i]? =some (.ro vs)) :h'[i]? =some (.ro vs):=a.obj e fun _ _ q=>nomatch q
theorem Gr.lst (a:Gr W h h') {vs:List MV} {n:Nat} (e:h[i]? =some (.list vs n)) (k:i ∉ W) :h'[i]? =some (.list vs n):=a.obj e fun _ _ _=>k
theorem Gr.set (W:List Nat) {vs:List MV} {n:Nat} (e:h[i]? =some (.list vs n)) (m:i∈ W) (x:MObj) :Gr W h (h.set i x):=⟨by simp only [List.length_set];exact Nat.le_refl _,fun {j o} e' k=>by
 by_cases q:i=j
 · subst q;rw [e] at e';(refine sy1 (Option.some.inj e') ?_;clear e';intro zq;subst zq);exact absurd m (k _ _ rfl)
 · rw [List.getElem?_set_ne q];exact e'⟩
theorem zeH (e:h[i]? =some o) :i < h.length:=(List.getElem?_eq_some_iff.mp e).1
theorem zaD (h:zax) (x:MObj) :(h ++ [x])[h.length]? =some x:=by simp
theorem zaO (e:h[i]? =some o) (x:MObj) :(h.set i x)[i]? =some x:=List.getElem?_set_self (zeH e)
theorem zcz {j:Nat} {x:MObj} (e:h[j]? =some o) (q:i≠j) :(h.set i x)[j]? =some o:=by rw [List.getElem?_set_ne q];exact e
theorem zaJ {e:zax} (x:h[i]? =some o) :(h ++ e)[i]? =some o:=by rw [List.getElem?_append_left (zeH x)];exact x
theorem set_new (h:zax) (x y:MObj) :(h ++ [x]).set h.length y=h ++ [y]:=by simp
end
noncomputable abbrev glueO (w s so sh ho:MV) :MObj:= .inst 0 [(0,w),(1,s),(2,so),(3,sh),(4,ho)]
noncomputable abbrev totO (n st sh:MV) :MObj:= .inst 1 [(5,n),(1,st),(3,sh)]
noncomputable abbrev boxO (k w h d it sf sg o rt:MV) :MObj:= .inst 2 [(6,k),(0,w),(7,h),(8,d),(9,it),(10,sf),(11,sg),(12,o),(13,rt)]
noncomputable abbrev ruleO (w h d:MV) :MObj:= .inst 3 [(0,w),(7,h),(8,d)]
noncomputable abbrev kernO (w s:MV) :MObj:= .inst 4 [(0,w),(14,s)]
noncomputable abbrev skipO (g:MV) :MObj:= .inst 5 [(15,g),(14,.int 0),(16,.none)]
noncomputable abbrev penO (v:MV) :MObj:= .inst 6 [(17,v)]
noncomputable abbrev dim (v:Int) :Prop:=-maxD≤v∧v≤maxD
noncomputable abbrev nrm (s so:Int) :Int:=if s≠0 then so else 0
theorem nt {p:Prop} [Decidable p] (h:¬p) :(!decide p)=true:=by rw [df h];rfl
theorem nf {p:Prop} [Decidable p] (h:p) :(!decide p)=false:=by rw [dt h];rfl
theorem nrm_cond (s so:Int) :cond (!decide (s=0)) (MV.int so) (.int 0)= .int (nrm s so):=by
 unfold nrm
 by_cases q:s=0
 · rw [nf q,if_neg (by simp [q])];rfl
 · rw [nt q,if_pos q];rfl
section
variable (n:Nat) {H:zax} {i:Nat}
theorem c6 {w s so sh ho:Int} (e:H[i]? =some (.inst 0 [])) (hw:dim w) (hs:dim s) (hh:dim sh) (h1:0≤so) (h2:so≤3) (h3:0≤ho) (h4:ho≤3) :
 zaB (n + 3) 6 [.ref i,.int w,.int s,.int so,.int sh,.int ho] H= .ok .none (H.set i (glueO (.int w) (.int s) (.int (nrm s so)) (.int sh) (.int (nrm sh ho)))):=by
 have key:∀ b c x y,(!decide (s=0))=b→(!decide (sh=0))=c→(cond b (.int so) (.int 0))=x→(cond c (.int ho) (.int 0))=y→zaB (n + 3) 6 [.ref i,.int w,.int s,.int so,.int sh,.int ho] H= .ok .none (H.set i (glueO (.int w) (.int s) x (.int sh) y)):=by
  intro b c x y hb hc hx hy
  have r:∀ H',zaB (n + 2) 0 [.int so,.int 0,.int 3] H'= .ok (.bool true) H':=fun H'=>c0 (n + 1) H' h1 h2
  have r':∀ H',zaB (n + 2) 0 [.int ho,.int 0,.int 3] H'= .ok (.bool true) H':=fun H'=>c0 (n + 1) H' h3 h4
  have q:∀ v H',dim v→zaB (n + 2) 3 [.int v] H'= .ok (.int v) H':=fun v H' d=>c3 n H' d.1 d.2
  have fin:(((((H.set i (.inst 0 [(0,.int w)])).set i (.inst 0 [(0,.int w),(1,.int s)])).set i (.inst 0 [(0,.int w),(1,.int s),(2,x)])).set i (.inst 0 [(0,.int w),(1,.int s),(2,x),(3,.int sh)])).set i (glueO (.int w) (.int s) x (.int sh) y))=H.set i (glueO (.int w) (.int s) x (.int sh) y):=by
   simp only [List.set_set]
  simp only [← fin]
  have a1:=zaO e (.inst 0 [(0,.int w)])
  have a2:=zaO a1 (.inst 0 [(0,.int w),(1,.int s)])
  have a3:=zaO a2 (.inst 0 [(0,.int w),(1,.int s),(2,x)])
  have a4:=zaO a3 (.inst 0 [(0,.int w),(1,.int s),(2,x),(3,.int sh)])
  cases b <;> cases c <;> cases hx <;> cases hy <;>
  exact run 6 f6 (n + 2) [.ref i,.int w,.int s,.int so,.int sh,.int ho] H [.r (.ok (.bool true) H),.r (.ok (.bool true) H),.r (.ok (.int w) H),.o (.inst 0 []),.r (.ok (.int s) _),.o _,.b _,.o _,.r (.ok (.int sh) _),.o _,.b _,.o _] rfl rfl
   (r _) (r' _) (q _ _ hw) e (q _ _ hs) a1 hb a2 (q _ _ hh) a3 hc a4
 exact key _ _ _ _ rfl rfl (nrm_cond _ _) (nrm_cond _ _)
theorem n6 {h:zax} {w s so sh ho:Int} (hw:dim w) (hs:dim s) (hh:dim sh) (h1:0≤so) (h2:so≤3) (h3:0≤ho) (h4:ho≤3) :
 zaB (n + 3) 6 [.ref h.length,.int w,.int s,.int so,.int sh,.int ho] (h ++ [.inst 0 []])= .ok .none (h ++ [glueO (.int w) (.int s) (.int (nrm s so)) (.int sh) (.int (nrm sh ho))]):=
 (c6 n (zaD h _) hw hs hh h1 h2 h3 h4).trans (by rw [set_new])
theorem c7 {w s so sh ho:MV} (e:H[i]? =some (glueO w s so sh ho)) :zaB (n + 1) 7 [.ref i] H= .ok (.tup [w,s,so,sh,ho]) H:=
 run 7 f7 n [.ref i] H [.o _,.o _,.o _,.o _,.o _] rfl rfl e e e e e
noncomputable abbrev t4 (S:Int→Int) :List MV:=[.int (S 0),.int (S 1),.int (S 2),.int (S 3)]
noncomputable def addAt (o x:Int) (S:Int→Int) :Int→Int:=fun k=>S k + if k=o then x else 0
theorem ord_cases {o:Int} (h1:0≤o) (h2:o≤3) :o=0∨o=1∨o=2∨o=3:=int_fin 4 (P:=fun o=>o=0∨o=1∨o=2∨o=3) (by decide) h1 (Int.lt_add_one_of_le h2)
theorem t4_set {o:Int} (h1:0≤o) (h2:o≤3) (x:Int) (S:Int→Int) :(t4 S).set o.toNat (.int (S o + x))=t4 (addAt o x S):=by
 rcases ord_cases h1 h2 with rfl | rfl | rfl | rfl <;> simp [t4,addAt]
theorem t4_get {H:zax} {a v:Nat} {S:Int→Int} (e:H[a]? =some (.list (t4 S) v)) {o:Int} (h1:0≤o) (h2:o≤3) :zaG H (.ref a) o=some (.int (S o)):=by
 simp only [zaG,items?,e]
 rcases ord_cases h1 h2 with rfl | rfl | rfl | rfl <;> rfl
theorem t4_lt {o:Int} (h1:0≤o) (h2:o≤3) {S:Int→Int} :0≤o∧o.toNat < (t4 S).length:=⟨h1,by show o.toNat < 4;lia⟩
structure Tot (h₀ h:zax) (t:Nat) (nat:Int) (S Z:Int→Int) :Prop where
 gr:Gr [] h₀ h
 ex:∃ a b va vb,h₀.length≤t∧h₀.length≤a∧h₀.length≤b∧a≠b∧h[t]? =some (totO (.int nat) (.ref a) (.ref b))∧h[a]? =some (.list (t4 S) va)∧h[b]? =some (.list (t4 Z) vb)
noncomputable abbrev zeros:List MV:=[.int 0,.int 0,.int 0,.int 0]
theorem n9 (h:zax) :∃ h',zaB (n + 1) 9 [.ref h.length] (h ++ [.inst 1 []])= .ok .none h'∧Tot h h' h.length 0 (fun _=>0) (fun _=>0):=by
 have e0:=zaD h (.inst 1 [])
 have e1:=zaO e0 (.inst 1 [(5,.int 0)])
 have e2:=zaO (zaJ (e:=[.list zeros 0]) e1) (.inst 1 [(5,.int 0),(1,.ref ((h ++ [MObj.inst 1 []]).set h.length (.inst 1 [(5,.int 0)])).length)])
 have k1:=zeH e1
 have k2:=zeH e2
 refine ⟨_,run 9 f9 n [.ref h.length] (h ++ [MObj.inst 1 []]) [.o (.inst 1 []),.o (.inst 1 [(5,.int 0)]),.o (.inst 1 [(5,.int 0),(1,.ref ((h ++ [MObj.inst 1 []]).set h.length (.inst 1 [(5,.int 0)])).length)])] rfl rfl e0 (zaJ e1) (zaJ e2),⟨(((((Gr.app _ _ _).fresh (Nat.le_refl _) _).push _).fresh (Nat.le_refl _) _).push _).fresh (Nat.le_refl _) _,_,_,0,0,Nat.le_refl _,Nat.le_of_lt k1,Nat.le_of_lt k2,?_,zaO (zaJ e2) _,
  zcz (zaJ (zcz (zaD _ _) (Nat.ne_of_lt k1))) (Nat.ne_of_lt k1),zcz (zaD _ _) (Nat.ne_of_lt k2)⟩⟩
 refine Nat.ne_of_lt ?_
 simp only [List.length_set,List.length_append,List.length_singleton]
 exact Nat.lt_succ_self _
section
variable {h₀ h:zax} {t:Nat} {nat:Int} {S Z:Int→Int}
theorem c10 (T:Tot h₀ h t nat S Z) {g:Nat} {w s so sh ho:Int} (e:h[g]? =some (glueO (.int w) (.int s) (.int so) (.int sh) (.int ho))) (h1:0≤so) (h2:so≤3) (h3:0≤ho) (h4:ho≤3) :
 ∃ h',zaB (n + 1) 10 [.ref t,.ref g] h= .ok .none h'∧Tot h₀ h' t (nat + w) (addAt so s S) (addAt ho sh Z):=by
 obtain ⟨gr,a,b,va,vb,k1,k2,k3,ab,et,ea,eb⟩:=T
 have nga:∀ x y v,h[x]? =some (.list y v)→g≠x:=fun x y v q z=>by rw [← z,e] at q;cases q
 have nta:∀ x y v,h[x]? =some (.list y v)→t≠x:=fun x y v q z=>by rw [← z,et] at q;cases q
 have tg:t≠g:=fun z=>by simp only [z,e] at et;cases et
 have et1:=zaO et (totO (.int (nat + w)) (.ref a) (.ref b))
 have e1:=zcz (x:=totO (.int (nat + w)) (.ref a) (.ref b)) e tg
 have ea1:=zcz (x:=totO (.int (nat + w)) (.ref a) (.ref b)) ea (nta _ _ _ ea)
 have eb1:=zcz (x:=totO (.int (nat + w)) (.ref a) (.ref b)) eb (nta _ _ _ eb)
 have et2:=zcz (x:= .list ((t4 S).set so.toNat (.int (S so + s))) (va + 1)) et1 (nta _ _ _ ea).symm
 have e2:=zcz (x:= .list ((t4 S).set so.toNat (.int (S so + s))) (va + 1)) e1 (nga _ _ _ ea).symm
 have ea2:=zaO ea1 (.list ((t4 S).set so.toNat (.int (S so + s))) (va + 1))
 have eb2:=zcz (x:= .list ((t4 S).set so.toNat (.int (S so + s))) (va + 1)) eb1 ab
 have q1:=t4_set h1 h2 s S
 have q2:=t4_set h3 h4 sh Z
 refine ⟨_,run 10 f10 n [.ref t,.ref g] h [.o _,.o _,.o _,.o _,.o _,.i _,.o _,.o _,.o _,.o _,.i _,.o _,.o _] rfl rfl et e et et1 e1 (t4_get ea1 h1 h2) e1 ea1 (t4_lt h1 h2) et2 e2 (t4_get eb2 h3 h4) e2 eb2 (t4_lt h3 h4),?_⟩
 rw [q1] at et2 ea2 eb2 ⊢
 rw [q2]
 exact ⟨((gr.fresh k1 _).fresh k2 _).fresh k3 _,a,b,va + 1,vb + 1,k1,k2,k3,ab,zcz et2 (nta _ _ _ eb).symm,zcz ea2 ab.symm,zaO eb2 _⟩
theorem c11 (T:Tot h₀ h t nat S Z) {w:Int} :∃ h',zaB (n + 1) 11 [.ref t,.int w] h= .ok .none h'∧Tot h₀ h' t (nat + w) S Z:=by
 obtain ⟨gr,a,b,va,vb,k1,k2,k3,ab,et,ea,eb⟩:=T
 have nta:∀ x y v,h[x]? =some (.list y v)→t≠x:=fun x y v q z=>by rw [← z,et] at q;cases q
 exact ⟨_,run 11 f11 n [.ref t,.int w] h [.o _,.o _] rfl rfl et et,gr.fresh k1 _,a,b,va,vb,k1,k2,k3,ab,zaO et _,zcz ea (nta _ _ _ ea),zcz eb (nta _ _ _ eb)⟩
noncomputable def topO (S:Int→Int) :Int:=if S 3≠0 then 3 else if S 2≠0 then 2 else if S 1≠0 then 1 else 0
theorem zdJ (S:Int→Int) :0≤topO S∧topO S≤3:=by
 unfold topO;split <;> (try split) <;> (try split) <;> decide
theorem c8 {a v:Nat} (e:h[a]? =some (.list (t4 S) v)) :zaB (n + 1) 8 [.ref a] h= .ok (.int (topO S)) h:=by
 have B1:∀ (k:Int),0≤k→k≤3→S k≠0→zaC tabs (zay tabs fnsT n) b8l0 [some (.ref a),some (.int k)] h= .ret (.int k) h:=fun k k1 k2 q=>
  runB (n:=n) (b:=b8l0) (l:=[some (.ref a),some (.int k)]) (h:=h) [.i _,.b true] (t4_get e k1 k2) (nt q)
 have B2:∀ (k:Int),0≤k→k≤3→S k=0→zaC tabs (zay tabs fnsT n) b8l0 [some (.ref a),some (.int k)] h= .nxt [some (.ref a),some (.int k)] h:=fun k k1 k2 q=>
  runB (n:=n) (b:=b8l0) (l:=[some (.ref a),some (.int k)]) (h:=h) [.i _,.b false] (t4_get e k1 k2) (nf q)
 have fin:∀ r,zbQ (.fixed [.int 3,.int 2,.int 1]) (fun v l=>some (l.set 1 (some v))) (zaC tabs (zay tabs fnsT n) b8l0) 4 0 [some (.ref a),none] h=r→
  (r= .ret (.int (topO S)) h∨(topO S=0∧∃ l,r= .nxt [some (.ref a),l] h))→zaB (n + 1) 8 [.ref a] h= .ok (.int (topO S)) h:=fun r hr hq=>by
  rcases hq with rfl | ⟨q,l,rfl⟩
  · exact run 8 f8 n [.ref a] h [.s _] rfl rfl hr
  · rw [q];exact run 8 f8 n [.ref a] h [.s _] rfl rfl hr
 unfold topO at fin ⊢
 by_cases h3:S 3=0
 · rw [if_neg (by simp [h3])] at fin ⊢
   by_cases h2:S 2=0
   · rw [if_neg (by simp [h2])] at fin ⊢
     by_cases h1:S 1=0
     · rw [if_neg (by simp [h1])] at fin ⊢
       exact fin _ rfl (.inr ⟨rfl,some (.int 1),(zcG rfl rfl (B2 3 (by decide) (by decide) h3)).trans ((zcG rfl rfl (B2 2 (by decide) (by decide) h2)).trans ((zcG rfl rfl (B2 1 (by decide) (by decide) h1)).trans (for_end rfl)))⟩)
     · rw [if_pos h1] at fin ⊢
       exact fin _ rfl (.inl ((zcG rfl rfl (B2 3 (by decide) (by decide) h3)).trans ((zcG rfl rfl (B2 2 (by decide) (by decide) h2)).trans (for_ret rfl rfl (B1 1 (by decide) (by decide) h1)))))
   · rw [if_pos h2] at fin ⊢
     exact fin _ rfl (.inl ((zcG rfl rfl (B2 3 (by decide) (by decide) h3)).trans (for_ret rfl rfl (B1 2 (by decide) (by decide) h2))))
 · rw [if_pos h3] at fin ⊢
   exact fin _ rfl (.inl (for_ret rfl rfl (B1 3 (by decide) (by decide) h3)))
theorem c12 (T:Tot h₀ h t nat S Z) :zaB (n + 2) 12 [.ref t] h= .ok (.int (topO S)) h:=by
 obtain ⟨gr,a,b,va,vb,k1,k2,k3,ab,et,ea,eb⟩:=T
 exact run 12 f12 (n + 1) [.ref t] h [.o _,.r _] rfl rfl et (c8 n ea)
theorem c13 (T:Tot h₀ h t nat S Z) :zaB (n + 2) 13 [.ref t] h= .ok (.int (topO Z)) h:=by
 obtain ⟨gr,a,b,va,vb,k1,k2,k3,ab,et,ea,eb⟩:=T
 exact run 13 f13 (n + 1) [.ref t] h [.o _,.r _] rfl rfl et (c8 n eb)
end
end
set_option genCtorIdx true in
inductive Part where
 | glue (w s so sh ho:Int)
 | kern (w srt:Int)
 | pen (v:Int)
 | rule (w h d:Option Int)
 | box (k w h d sf:Int)
noncomputable def optV:Option Int→MV
 | none=> .none
 | some i=> .int i
noncomputable abbrev bxO (k w h d sf:Int) (j:Nat) :MObj:=boxO (.int k) (.int w) (.int h) (.int d) (.ref j) (.int sf) (.int 0) (.int 0) (.tup [.int 0,.int 1])
inductive RepP (P:Nat→Prop) (h:zax) :MV→Part→Prop
 | glue {i j:Nat} {w s so sh ho:Int} :h[i]? =some (skipO (.ref j))→h[j]? =some (glueO (.int w) (.int s) (.int (nrm s so)) (.int sh) (.int (nrm sh ho)))→0≤so→so≤3→0≤ho→ho≤3→RepP P h (.ref i) (.glue w s so sh ho)
 | kern {i:Nat} {w srt:Int} :h[i]? =some (kernO (.int w) (.int srt))→RepP P h (.ref i) (.kern w srt)
 | pen {i:Nat} {v:Int} :h[i]? =some (penO (.int v))→RepP P h (.ref i) (.pen v)
 | rule {i:Nat} {w a d:Option Int} :h[i]? =some (ruleO (optV w) (optV a) (optV d))→RepP P h (.ref i) (.rule w a d)
 | box {i j m:Nat} {k w a d sf:Int} :h[i]? =some (bxO k w a d sf j)→h[j]? =some (.list [] m)→P j→(k=2∨k=3)→RepP P h (.ref i) (.box k w a d sf)
theorem RepP.gr {P:Nat→Prop} {W:List Nat} {h h':zax} (g:Gr W h h') (hP:∀ j,P j→j ∉ W) {v:MV} {p:Part} (r:RepP P h v p) :RepP P h' v p:=by
 cases r with
 | glue a b c d e f=>exact .glue (g.inst a) (g.inst b) c d e f
 | kern a=>exact .kern (g.inst a)
 | pen a=>exact .pen (g.inst a)
 | rule a=>exact .rule (g.inst a)
 | box a b c d=>exact .box (g.inst a) (g.lst b (hP _ c)) c d
theorem RepP.imp {P Q:Nat→Prop} {h:zax} (f:∀ j,P j→j < h.length→Q j) {v:MV} {p:Part} (r:RepP P h v p) :RepP Q h v p:=by
 cases r with
 | glue a b c d e f=>exact .glue a b c d e f
 | kern a=>exact .kern a
 | pen a=>exact .pen a
 | rule a=>exact .rule a
 | box a b c d=>exact .box a b (f _ c (zeH b)) d
theorem nrm_ge {s so:Int} (h1:0≤so) (h2:so≤3) :0≤nrm s so∧nrm s so≤3:=by
 unfold nrm;split
 · exact ⟨h1,h2⟩
 · decide
namespace Part
noncomputable def wid:Part→Int
 | glue w ..=>w
 | kern w _=>w
 | pen _=>0
 | rule w _ _=>w.getD 0
 | box _ w ..=>w
noncomputable def hgt:Part→Int
 | rule _ h _=>h.getD 0
 | box _ _ h ..=>h
 | _=>0
noncomputable def dep:Part→Int
 | rule _ _ d=>d.getD 0
 | box _ _ _ d _=>d
 | _=>0
noncomputable def lnH:Part→Int
 | box _ _ h _ sf=>h - sf
 | p=>p.hgt
noncomputable def lnD:Part→Int
 | box _ _ _ d sf=>d + sf
 | p=>p.dep
noncomputable def acr:Part→Int
 | box _ w _ _ sf=>w + sf
 | rule w _ _=>w.getD 0
 | _=>0
noncomputable def fsz (u:Bool) :Part→Int
 | glue w ..=>w
 | kern w _=>w
 | p=>if u then p.hgt + p.dep else p.wid
end Part
open Part
section
variable (n:Nat) {P:Nat→Prop} {h:zax} {v:MV} {p:Part}
theorem c22 (r:RepP P h v p) :zaB (n + 1) 22 [v] h= .ok (.int p.wid) h:=by
 cases r with
 | @glue i _ _ _ _ _ _ a b=>exact run 22 f22 n [.ref i] h [.o _,.o _,.o _] rfl rfl a a b
 | @kern i _ _ a=>exact run 22 f22 n [.ref i] h [.o _,.o _] rfl rfl a a
 | @pen i _ a=>exact run 22 f22 n [.ref i] h [.o _] rfl rfl a
 | @rule i w _ _ a=>cases w with
  | none=>exact run 22 f22 n [.ref i] h [.o _,.o _] rfl rfl a a
  | some w=>exact run 22 f22 n [.ref i] h [.o _,.o _,.o _] rfl rfl a a a
 | @box i _ _ _ _ _ _ _ a b c d=>rcases d with rfl | rfl <;> exact run 22 f22 n [.ref i] h [.o _,.o _] rfl rfl a a
theorem c23 (r:RepP P h v p) :zaB (n + 1) 23 [v] h= .ok (.int p.hgt) h:=by
 cases r with
 | @glue i _ _ _ _ _ _ a b=>exact run 23 f23 n [.ref i] h [.o _,.o _] rfl rfl a a
 | @kern i _ _ a=>exact run 23 f23 n [.ref i] h [.o _] rfl rfl a
 | @pen i _ a=>exact run 23 f23 n [.ref i] h [.o _] rfl rfl a
 | @rule i _ w _ a=>cases w with
  | none=>exact run 23 f23 n [.ref i] h [.o _,.o _] rfl rfl a a
  | some w=>exact run 23 f23 n [.ref i] h [.o _,.o _,.o _] rfl rfl a a a
 | @box i _ _ _ _ _ _ _ a b c d=>rcases d with rfl | rfl <;> exact run 23 f23 n [.ref i] h [.o _,.o _] rfl rfl a a
theorem c24 (r:RepP P h v p) :zaB (n + 1) 24 [v] h= .ok (.int p.dep) h:=by
 cases r with
 | @glue i _ _ _ _ _ _ a b=>exact run 24 f24 n [.ref i] h [.o _,.o _] rfl rfl a a
 | @kern i _ _ a=>exact run 24 f24 n [.ref i] h [.o _] rfl rfl a
 | @pen i _ a=>exact run 24 f24 n [.ref i] h [.o _] rfl rfl a
 | @rule i _ _ w a=>cases w with
  | none=>exact run 24 f24 n [.ref i] h [.o _,.o _] rfl rfl a a
  | some w=>exact run 24 f24 n [.ref i] h [.o _,.o _,.o _] rfl rfl a a a
 | @box i _ _ _ _ _ _ _ a b c d=>rcases d with rfl | rfl <;> exact run 24 f24 n [.ref i] h [.o _,.o _] rfl rfl a a
theorem c25 (r:RepP P h v p) :zaB (n + 2) 25 [v] h= .ok (.int p.lnH) h:=by
 have q:=c23 n r
 cases r with
 | @glue i _ _ _ _ _ _ a b=>exact run 25 f25 (n + 1) [.ref i] h [.o _,.o _,.r _] rfl rfl a a q
 | @kern i _ _ a=>exact run 25 f25 (n + 1) [.ref i] h [.o _,.o _,.r _] rfl rfl a a q
 | @pen i _ a=>exact run 25 f25 (n + 1) [.ref i] h [.o _,.o _,.r _] rfl rfl a a q
 | @rule i _ _ _ a=>exact run 25 f25 (n + 1) [.ref i] h [.o _,.o _,.r _] rfl rfl a a q
 | @box i _ _ _ _ _ _ _ a b c d=>
  rcases d with rfl | rfl
  · exact run 25 f25 (n + 1) [.ref i] h [.o _,.o _,.o _] rfl rfl a a a
  · exact run 25 f25 (n + 1) [.ref i] h [.o _,.o _,.o _,.o _] rfl rfl a a a a
theorem c26 (r:RepP P h v p) :zaB (n + 2) 26 [v] h= .ok (.int p.lnD) h:=by
 have q:=c24 n r
 cases r with
 | @glue i _ _ _ _ _ _ a b=>exact run 26 f26 (n + 1) [.ref i] h [.o _,.o _,.r _] rfl rfl a a q
 | @kern i _ _ a=>exact run 26 f26 (n + 1) [.ref i] h [.o _,.o _,.r _] rfl rfl a a q
 | @pen i _ a=>exact run 26 f26 (n + 1) [.ref i] h [.o _,.o _,.r _] rfl rfl a a q
 | @rule i _ _ _ a=>exact run 26 f26 (n + 1) [.ref i] h [.o _,.o _,.r _] rfl rfl a a q
 | @box i _ _ _ _ _ _ _ a b c d=>
  rcases d with rfl | rfl
  · exact run 26 f26 (n + 1) [.ref i] h [.o _,.o _,.o _] rfl rfl a a a
  · exact run 26 f26 (n + 1) [.ref i] h [.o _,.o _,.o _,.o _] rfl rfl a a a a
theorem c28 (r:RepP P h v p) :zaB (n + 2) 28 [v] h= .ok (.int p.acr) h:=by
 have q:=c22 n r
 cases r with
 | @glue i _ _ _ _ _ _ a b=>exact run 28 f28 (n + 1) [.ref i] h [.o _,.o _,.o _,.o _] rfl rfl a a a a
 | @kern i _ _ a=>exact run 28 f28 (n + 1) [.ref i] h [.o _,.o _,.o _,.o _] rfl rfl a a a a
 | @pen i _ a=>exact run 28 f28 (n + 1) [.ref i] h [.o _,.o _,.o _,.o _,.r _] rfl rfl a a a a q
 | @rule i _ _ _ a=>exact run 28 f28 (n + 1) [.ref i] h [.o _,.o _,.o _,.o _,.r _] rfl rfl a a a a q
 | @box i _ _ _ _ _ _ _ a b c d=>
  rcases d with rfl | rfl
  · exact run 28 f28 (n + 1) [.ref i] h [.o _,.o _,.o _] rfl rfl a a a
  · exact run 28 f28 (n + 1) [.ref i] h [.o _,.o _,.o _,.o _] rfl rfl a a a a
end
end Mine.Pw
namespace Mine.Pw
open PySem Part
noncomputable def isum:List Int→Int
 | []=>0
 | x :: r=>x + isum r
theorem isum_app:∀ (a b:List Int),isum (a ++ b)=isum a + isum b
 | [],b=>by simp [isum]
 | x :: a,b=>by simp only [List.cons_append,isum,isum_app a b];lia
theorem zcV {α:Type} (f:α→Int) (d:List α) (p:α) :isum ((d ++ [p]).map f)=isum (d.map f) + f p:=by
 simp only [List.map_append,isum_app];simp [isum]
noncomputable def mx (i j:Int) :Int:=if i < j then j else i
noncomputable def atS (k:Int) :Part→Int
 | .glue _ s so _ _=>if k=nrm s so then s else 0
 | _=>0
noncomputable def atZ (k:Int) :Part→Int
 | .glue _ _ _ sh ho=>if k=nrm sh ho then sh else 0
 | _=>0
noncomputable def sumS (d:List Part) :Int→Int:=fun k=>isum (d.map (atS k))
noncomputable def sumZ (d:List Part) :Int→Int:=fun k=>isum (d.map (atZ k))
noncomputable def natL (d:List Part) :Int:=isum (d.map wid)
noncomputable def hgtL (d:List Part) :Int:=d.foldl (fun m p=>mx m p.lnH) 0
noncomputable def depL (d:List Part) :Int:=d.foldl (fun m p=>mx m p.lnD) 0
theorem sumS_glue (d:List Part) (w s so sh ho:Int) :sumS (d ++ [.glue w s so sh ho])=addAt (nrm s so) s (sumS d):=by
 funext k;exact zcV _ _ _
theorem sumZ_glue (d:List Part) (w s so sh ho:Int) :sumZ (d ++ [.glue w s so sh ho])=addAt (nrm sh ho) sh (sumZ d):=by
 funext k;exact zcV _ _ _
theorem zdM (d:List Part) {p:Part} (h:∀ k,atS k p=0) :sumS (d ++ [p])=sumS d:=by
 funext k;exact (zcV _ _ _).trans (by rw [h];exact Int.add_zero _)
theorem zdL (d:List Part) {p:Part} (h:∀ k,atZ k p=0) :sumZ (d ++ [p])=sumZ d:=by
 funext k;exact (zcV _ _ _).trans (by rw [h];exact Int.add_zero _)
noncomputable abbrev zaK (P:Nat→Prop) (h:zax) :List MV→List Part→Prop:=L2 (RepP P h)
section
variable (n:Nat) {P:Nat→Prop} {h:zax} {a ver:Nat} {vs:List MV} {ps:List Part}
theorem c29 (ha:h[a]? =some (.list vs ver)) (r:zaK P h vs ps) :zaB (n + 1) 29 [.ref a] h= .ok .none h:=by
 refine x2_2 (zbY (α:=Part) (R:=RepP P h) (a:=a) (ver:=ver) (num:=false) (tgt:=fun v l=>some (l.set 1 (some v))) (body:=zaC tabs (zay tabs fnsT n) b29l0)
  (fun d l h'=>h'=h∧∃ x,l= [some (.ref a),x]) r (fun d l h' ⟨e,_⟩=>by rw [e];simp only [itemsV?,ha]) (fun d p v l h' zz _ rp _=>by
   obtain ⟨e,x,q⟩:=zz
   subst e q
   refine ⟨_,_,_,rfl,?_,rfl,some v,rfl⟩
   cases rp with
   | @glue i _ _ _ _ _ _ q=>exact runB (n:=n) (b:=b29l0) (l:=[some (.ref a),some (.ref i)]) (h:=h') [.o _,.o _,.o _,.o _] q q q q
   | @kern i _ _ q=>exact runB (n:=n) (b:=b29l0) (l:=[some (.ref a),some (.ref i)]) (h:=h') [.o _,.o _,.o _,.o _] q q q q
   | @pen i _ q=>exact runB (n:=n) (b:=b29l0) (l:=[some (.ref a),some (.ref i)]) (h:=h') [.o _,.o _,.o _,.o _] q q q q
   | @rule i _ _ _ q=>exact runB (n:=n) (b:=b29l0) (l:=[some (.ref a),some (.ref i)]) (h:=h') [.o _,.o _,.o _,.o _] q q q q
   | @box i _ _ _ _ _ _ _ q _ _ z=>
    rcases z with rfl | rfl
    · exact runB (n:=n) (b:=b29l0) (l:=[some (.ref a),some (.ref i)]) (h:=h') [.o _,.o _,.o _,.o _] q q q q
    · exact runB (n:=n) (b:=b29l0) (l:=[some (.ref a),some (.ref i)]) (h:=h') [.o _,.o _,.o _,.o _] q q q q)
  (m:=vs.length + 1) (d:=[]) (l:=[some (.ref a),none]) (h:=h) ⟨rfl,none,rfl⟩ ⟨ps,rfl⟩ rfl) ?_;rintro l' h' e ⟨rfl,x,rfl⟩
 exact run 29 f29 n [.ref a] h' [.o (.list vs ver),.s (.nxt [some (.ref a),x] h')] rfl rfl ha e
theorem c27 (ha:h[a]? =some (.list vs ver)) (r:zaK P h vs ps) :∃ t h',zaB (n + 3) 27 [.ref a] h= .ok (.tup [.ref t,.int (hgtL ps),.int (depL ps)]) h'∧Tot h h' t (natL ps) (sumS ps) (sumZ ps):=by
 refine x1_2 (n9 (n + 1) h) fun h1 e1 T1=>?_
 obtain ⟨l',h',e,T,x,rfl⟩:=zbY (α:=Part) (R:=RepP P h) (a:=a) (ver:=ver) (num:=false) (tgt:=fun v l=>some (l.set 4 (some v))) (body:=zaC tabs (zay tabs fnsT (n + 2)) b27l0)
  (fun d l h'=>Tot h h' h.length (natL d) (sumS d) (sumZ d)∧∃ x,l= [some (.ref a),some (.ref h.length),some (.int (hgtL d)),some (.int (depL d)),x]) r
  (fun d l h' ⟨T,_⟩=>by simp only [itemsV?,T.gr.lst ha (fun m=>nomatch m)]) (fun d p v l h' zz _ rp _=>by
   obtain ⟨T,x,q⟩:=zz
   subst q
   have q1:=fun h2 (g:Gr [] h h2)=>c25 n (rp.gr g (fun _ _ m=>nomatch m))
   have q2:=fun h2 (g:Gr [] h h2)=>c26 n (rp.gr g (fun _ _ m=>nomatch m))
   have q3:=c22 (n + 1) (rp.gr T.gr (fun _ _ m=>nomatch m))
   have eH:hgtL (d ++ [p])=mx (hgtL d) p.lnH:=by unfold hgtL;rw [List.foldl_append];rfl
   have eD:depL (d ++ [p])=mx (depL d) p.lnD:=by unfold depL;rw [List.foldl_append];rfl
   have eN:natL (d ++ [p])=natL d + p.wid:=zcV _ _ _
   refine x4_7 T.ex fun _ _ _ _ _ _ _ _ et _ _=>?_
   suffices z:∃ h2,Tot h h2 h.length (natL (d ++ [p])) (sumS (d ++ [p])) (sumZ (d ++ [p]))∧zaC tabs (zay tabs fnsT (n + 2)) b27l0 [some (.ref a),some (.ref h.length),some (.int (hgtL d)),some (.int (depL d)),some v] h'= .nxt [some (.ref a),some (.ref h.length),some (.int (mx (hgtL d) p.lnH)),some (.int (mx (depL d) p.lnD)),some v] h2 by
    refine x1_2 z ?_;intro h2 T2 e2
    exact ⟨_,_,h2,rfl,e2,T2,some v,by rw [eH,eD]⟩
   rw [eN]
   cases rp with
   | @glue i j w s so sh ho q b c1 c2 c3 c4=>
    have k1:=nrm_ge (s:=s) c1 c2
    have k2:=nrm_ge (s:=sh) c3 c4
    have a':=T.gr.inst q
    refine x1_2 (c10 (n + 1) T (T.gr.inst b) k1.1 k1.2 k2.1 k2.2) fun h2 e2 T2=>?_
    rw [← sumS_glue,← sumZ_glue] at T2
    exact ⟨h2,T2,runB (n:=n + 2) (b:=b27l0) (l:=[some (.ref a),some (.ref h.length),some (.int (hgtL d)),some (.int (depL d)),some (.ref i)]) (h:=h') [.o _,.o _,.o _,.r _,.r _,.r _] a' et a' e2 (q1 h2 T2.gr) (q2 h2 T2.gr)⟩
   | @kern i w srt q=>
    refine x1_2 (c11 (n + 1) T (w:=w)) fun h2 e2 T2=>?_
    simp only [← zdM d (p:= .kern w srt) (fun _=>rfl),← zdL d (p:= .kern w srt) (fun _=>rfl)] at T2
    exact ⟨h2,T2,runB (n:=n + 2) (b:=b27l0) (l:=[some (.ref a),some (.ref h.length),some (.int (hgtL d)),some (.int (depL d)),some (.ref i)]) (h:=h') [.o _,.o _,.r _,.r _,.r _,.r _] (T.gr.inst q) et q3 e2 (q1 h2 T2.gr) (q2 h2 T2.gr)⟩
   | @pen i x q=>
    refine x1_2 (c11 (n + 1) T (w:=0)) fun h2 e2 T2=>?_
    simp only [← zdM d (p:= .pen x) (fun _=>rfl),← zdL d (p:= .pen x) (fun _=>rfl)] at T2
    exact ⟨h2,T2,runB (n:=n + 2) (b:=b27l0) (l:=[some (.ref a),some (.ref h.length),some (.int (hgtL d)),some (.int (depL d)),some (.ref i)]) (h:=h') [.o _,.o _,.r _,.r _,.r _,.r _] (T.gr.inst q) et q3 e2 (q1 h2 T2.gr) (q2 h2 T2.gr)⟩
   | @rule i w x y q=>
    refine x1_2 (c11 (n + 1) T (w:=w.getD 0)) fun h2 e2 T2=>?_
    simp only [← zdM d (p:= .rule w x y) (fun _=>rfl),← zdL d (p:= .rule w x y) (fun _=>rfl)] at T2
    exact ⟨h2,T2,runB (n:=n + 2) (b:=b27l0) (l:=[some (.ref a),some (.ref h.length),some (.int (hgtL d)),some (.int (depL d)),some (.ref i)]) (h:=h') [.o _,.o _,.r _,.r _,.r _,.r _] (T.gr.inst q) et q3 e2 (q1 h2 T2.gr) (q2 h2 T2.gr)⟩
   | @box i j m k w x y sf q b c k2=>
    refine x1_2 (c11 (n + 1) T (w:=w)) fun h2 e2 T2=>?_
    simp only [← zdM d (p:= .box k w x y sf) (fun _=>rfl),← zdL d (p:= .box k w x y sf) (fun _=>rfl)] at T2
    rcases k2 with rfl | rfl
    · exact ⟨h2,T2,runB (n:=n + 2) (b:=b27l0) (l:=[some (.ref a),some (.ref h.length),some (.int (hgtL d)),some (.int (depL d)),some (.ref i)]) (h:=h') [.o _,.o _,.r _,.r _,.r _,.r _] (T.gr.inst q) et q3 e2 (q1 h2 T2.gr) (q2 h2 T2.gr)⟩
    · exact ⟨h2,T2,runB (n:=n + 2) (b:=b27l0) (l:=[some (.ref a),some (.ref h.length),some (.int (hgtL d)),some (.int (depL d)),some (.ref i)]) (h:=h') [.o _,.o _,.r _,.r _,.r _,.r _] (T.gr.inst q) et q3 e2 (q1 h2 T2.gr) (q2 h2 T2.gr)⟩)
  (m:=vs.length + 1) (d:=[]) (l:=[some (.ref a),some (.ref h.length),some (.int 0),some (.int 0),none]) (h:=h1) ⟨T1,none,rfl⟩ ⟨ps,rfl⟩ rfl
 exact ⟨_,h',run 27 f27 (n + 2) [.ref a] h [.r (.ok .none h1),.o (.list vs ver),.s (.nxt _ h')] rfl rfl e1 (T1.gr.lst ha (fun m=>nomatch m)) e,T⟩
end
noncomputable def colF:Int × Int × Int→Part→Int × Int × Int
 | (nt,wd,dp),.glue w s so sh ho=>(nt + dp + w,mx wd (Part.glue w s so sh ho).acr,0)
 | (nt,wd,dp),.kern w k=>(nt + (dp + w),mx wd (Part.kern w k).acr,0)
 | (nt,wd,dp),.pen v=>(nt,mx wd (Part.pen v).acr,dp)
 | (nt,wd,dp),p=>(nt + (dp + p.hgt),mx wd p.acr,p.dep)
noncomputable def colL (ps:List Part) :Int × Int × Int:=ps.foldl colF (0,0,0)
section
variable (n:Nat) {P:Nat→Prop} {h:zax} {a ver:Nat} {vs:List MV} {ps:List Part}
theorem c30 (ha:h[a]? =some (.list vs ver)) (r:zaK P h vs ps) :∃ t h',zaB (n + 4) 30 [.ref a] h= .ok (.tup [.ref t,.int (colL ps).2.1,.int (colL ps).2.2]) h'∧Tot h h' t (colL ps).1 (sumS ps) (sumZ ps):=by
 refine x1_2 (n9 (n + 2) h) fun h1 e1 T1=>?_
 obtain ⟨l',h',e,T,x,rfl⟩:=zbY (α:=Part) (R:=RepP P h) (a:=a) (ver:=ver) (num:=false) (tgt:=fun v l=>some (l.set 4 (some v))) (body:=zaC tabs (zay tabs fnsT (n + 3)) b30l0)
  (fun d l h'=>Tot h h' h.length (colL d).1 (sumS d) (sumZ d)∧∃ x,l= [some (.ref a),some (.ref h.length),some (.int (colL d).2.1),some (.int (colL d).2.2),x]) r
  (fun d l h' ⟨T,_⟩=>by simp only [itemsV?,T.gr.lst ha (fun m=>nomatch m)]) (fun d p v l h' zz _ rp _=>by
   obtain ⟨T,x,q⟩:=zz
   subst q
   have gr':∀ {h2},Gr [] h h2→RepP P h2 v p:=fun g=>rp.gr g (fun _ _ m=>nomatch m)
   have q0:=c28 (n + 1) (gr' T.gr)
   have q1:=c23 (n + 2) (gr' T.gr)
   have q2:=fun h2 (g:Gr [] h h2)=>c24 (n + 2) (gr' g)
   have eC:colL (d ++ [p])=colF (colL d) p:=by unfold colL;rw [List.foldl_append];rfl
   refine x4_7 T.ex fun _ _ _ _ _ _ _ _ et _ _=>?_
   rw [eC]
   clear eC
   generalize colL d=c at T et ⊢
   obtain ⟨nt,wd,dp⟩:=c
   dsimp only at T et ⊢
   suffices z:∃ h2,Tot h h2 h.length (colF (nt,wd,dp) p).1 (sumS (d ++ [p])) (sumZ (d ++ [p]))∧zaC tabs (zay tabs fnsT (n + 3)) b30l0 [some (.ref a),some (.ref h.length),some (.int wd),some (.int dp),some v] h'= .nxt [some (.ref a),some (.ref h.length),some (.int (colF (nt,wd,dp) p).2.1),some (.int (colF (nt,wd,dp) p).2.2),some v] h2 by
    refine x1_2 z ?_;intro h2 T2 e2
    exact ⟨_,_,h2,rfl,e2,T2,some v,rfl⟩
   cases rp with
   | @glue i j w s so sh ho q b c1 c2 c3 c4=>
    have k1:=nrm_ge (s:=s) c1 c2
    have k2:=nrm_ge (s:=sh) c3 c4
    refine x1_2 (c11 (n + 2) T (w:=dp)) fun h2 e2 T2=>?_
    refine x4_7 T2.ex fun _ _ _ _ _ _ _ _ et2 _ _=>?_
    refine x1_2 (c10 (n + 2) T2 (T2.gr.inst b) k1.1 k1.2 k2.1 k2.2) fun h3 e3 T3=>?_
    simp only [← sumS_glue d w s so sh ho,← sumZ_glue d w s so sh ho] at T3
    exact ⟨h3,T3,runB (n:=n + 3) (b:=b30l0) (l:=[some (.ref a),some (.ref h.length),some (.int wd),some (.int dp),some (.ref i)]) (h:=h') [.r _,.o _,.o _,.r _,.o _,.o _,.r _] q0 (T.gr.inst q) et e2 et2 (T2.gr.inst q) e3⟩
   | @kern i w srt q=>
    refine x1_2 (c11 (n + 2) T (w:=dp + w)) fun h2 e2 T2=>?_
    simp only [← zdM d (p:= .kern w srt) (fun _=>rfl),← zdL d (p:= .kern w srt) (fun _=>rfl)] at T2
    exact ⟨h2,T2,runB (n:=n + 3) (b:=b30l0) (l:=[some (.ref a),some (.ref h.length),some (.int wd),some (.int dp),some (.ref i)]) (h:=h') [.r _,.o _,.o _,.o _,.o _,.r _] q0 (T.gr.inst q) (T.gr.inst q) et (T.gr.inst q) e2⟩
   | @pen i x q=>
    have T2:=T
    simp only [← zdM d (p:= .pen x) (fun _=>rfl),← zdL d (p:= .pen x) (fun _=>rfl)] at T2
    have q':=T.gr.inst q
    exact ⟨h',T2,runB (n:=n + 3) (b:=b30l0) (l:=[some (.ref a),some (.ref h.length),some (.int wd),some (.int dp),some (.ref i)]) (h:=h') [.r _,.o _,.o _,.o _,.o _,.o _,.o _] q0 q' q' q' q' q' q'⟩
   | @rule i w x y q=>
    refine x1_2 (c11 (n + 2) T (w:=dp + x.getD 0)) fun h2 e2 T2=>?_
    simp only [← zdM d (p:= .rule w x y) (fun _=>rfl),← zdL d (p:= .rule w x y) (fun _=>rfl)] at T2
    have q':=T.gr.inst q
    exact ⟨h2,T2,runB (n:=n + 3) (b:=b30l0) (l:=[some (.ref a),some (.ref h.length),some (.int wd),some (.int dp),some (.ref i)]) (h:=h') [.r _,.o _,.o _,.o _,.o _,.o _,.o _,.r _,.r _,.r _] q0 q' q' q' q' q' et q1 e2 (q2 h2 T2.gr)⟩
   | @box i j m k w x y sf q b c k2=>
    refine x1_2 (c11 (n + 2) T (w:=dp + x)) fun h2 e2 T2=>?_
    simp only [← zdM d (p:= .box k w x y sf) (fun _=>rfl),← zdL d (p:= .box k w x y sf) (fun _=>rfl)] at T2
    have q':=T.gr.inst q
    rcases k2 with rfl | rfl
    · exact ⟨h2,T2,runB (n:=n + 3) (b:=b30l0) (l:=[some (.ref a),some (.ref h.length),some (.int wd),some (.int dp),some (.ref i)]) (h:=h') [.r _,.o _,.o _,.o _,.o _,.r _,.r _,.r _] q0 q' q' q' et q1 e2 (q2 h2 T2.gr)⟩
    · exact ⟨h2,T2,runB (n:=n + 3) (b:=b30l0) (l:=[some (.ref a),some (.ref h.length),some (.int wd),some (.int dp),some (.ref i)]) (h:=h') [.r _,.o _,.o _,.o _,.o _,.o _,.r _,.r _,.r _] q0 q' q' q' q' et q1 e2 (q2 h2 T2.gr)⟩)
  (m:=vs.length + 1) (d:=[]) (l:=[some (.ref a),some (.ref h.length),some (.int 0),some (.int 0),none]) (h:=h1) ⟨T1,none,rfl⟩ ⟨ps,rfl⟩ rfl
 exact ⟨_,h',run 30 f30 (n + 3) [.ref a] h [.r (.ok .none h),.r (.ok .none h1),.o (.list vs ver),.s (.nxt _ h')] rfl rfl (c29 (n + 2) ha r) e1 (T1.gr.lst ha (fun m=>nomatch m)) e,T⟩
end
noncomputable def flx (sg od:Int) :Part→Int
 | .glue _ s so sh ho=>if sg=1∧nrm s so=od then s else if sg=2∧nrm sh ho=od then -sh else 0
 | _=>0
structure Setg where
 sg:Int
 od:Int
 r0:Int
 r1:Int
 q0:Int
 q1:Int
noncomputable def plF (u:Bool) (g:Setg) :Int × Int × List Int→Part→Int × Int × List Int
 | (fx,fl,l),p=>(fx + p.fsz u,fl + flx g.sg g.od p,l ++ [fx + p.fsz u + rnd (g.r0 * (fl + flx g.sg g.od p)) g.r1])
noncomputable def plL (u:Bool) (g:Setg) (ps:List Part) :Int × Int × List Int:=ps.foldl (plF u g) (0,0,[0])
noncomputable abbrev kd (u:Bool) :Int:=if u then 3 else 2
noncomputable abbrev setO (k w h d:MV) (it:Nat) (sf:MV) (g:Setg) :MObj:=boxO k w h d (.ref it) sf (.int g.sg) (.int g.od) (.tup [.int g.r0,.int g.r1])
section
variable (n:Nat) {P:Nat→Prop} {h:zax} {b it ver:Nat} {vs:List MV} {ps:List Part} {u:Bool} {w hh d sf:MV} {g:Setg} {v:MV} {p:Part}
theorem c33 (hb:h[b]? =some (setO (.int (kd u)) w hh d it sf g)) {j:Nat} {wd s so sh ho:Int} (hg:h[j]? =some (glueO (.int wd) (.int s) (.int (nrm s so)) (.int sh) (.int (nrm sh ho)))) :
 zaB (n + 1) 33 [.ref b,.ref j] h= .ok (.int (flx g.sg g.od (.glue wd s so sh ho))) h:=by
 simp only [flx]
 by_cases h1:g.sg=1
 · have h2:¬ g.sg=2:=by lia
   by_cases h3:nrm s so=g.od
   · rw [if_pos ⟨h1,h3⟩]
     exact run 33 f33 n [.ref b,.ref j] h [.o _,.b true,.o _,.o _,.b true,.o _] rfl rfl hb (dt h1) hg hb (dt h3) hg
   · rw [if_neg (fun q=>h3 q.2),if_neg (fun q=>h2 q.1)]
     exact run 33 f33 n [.ref b,.ref j] h [.o _,.b true,.o _,.o _,.b false,.o _,.b false,.b false] rfl rfl hb (dt h1) hg hb (df h3) hb (df h2) (df h2)
 · rw [if_neg (fun q=>h1 q.1)]
   by_cases h2:g.sg=2
   · by_cases h3:nrm sh ho=g.od
     · rw [if_pos ⟨h2,h3⟩]
       exact run 33 f33 n [.ref b,.ref j] h [.o _,.b false,.b false,.o _,.b true,.o _,.o _,.b true,.o _] rfl rfl hb (df h1) (df h1) hb (dt h2) hg hb (dt h3) hg
     · rw [if_neg (fun q=>h3 q.2)]
       exact run 33 f33 n [.ref b,.ref j] h [.o _,.b false,.b false,.o _,.b true,.o _,.o _,.b false] rfl rfl hb (df h1) (df h1) hb (dt h2) hg hb (df h3)
   · rw [if_neg (fun q=>h2 q.1)]
     exact run 33 f33 n [.ref b,.ref j] h [.o _,.b false,.b false,.o _,.b false,.b false] rfl rfl hb (df h1) (df h1) hb (df h2) (df h2)
theorem c34 (hb:h[b]? =some (setO (.int (kd u)) w hh d it sf g)) {fl:Int} (h0:g.r0.natAbs < 18446744073709551616) (h1:0 < g.r1) (h2:g.r1 < 4611686018427387904) :
 zaB (n + 2) 34 [.ref b,.int fl] h= .ok (.int (rnd (g.r0 * fl) g.r1)) h:=
 run 34 f34 (n + 1) [.ref b,.int fl] h [.o _,.o _,.r _] rfl rfl hb (.inl h0) hb (c4 n h h1 h2)
theorem c35 (hb:h[b]? =some (setO (.int (kd u)) w hh d it sf g)) (r:RepP P h v p) (hp:∀ w s so sh ho,p≠.glue w s so sh ho) :zaB (n + 2) 35 [.ref b,v] h= .ok (.int (p.fsz u)) h:=by
 have q0:=c22 n r
 have q1:=c23 n r
 have q2:=c24 n r
 cases u with
 | false=>
  cases r with
  | glue _ _=>exact absurd rfl (hp _ _ _ _ _)
  | @kern i _ _ q=>exact run 35 f35 (n + 1) [.ref b,.ref i] h [.o _,.r _] rfl rfl hb q0
  | @pen i _ q=>exact run 35 f35 (n + 1) [.ref b,.ref i] h [.o _,.r _] rfl rfl hb q0
  | @rule i _ _ _ q=>exact run 35 f35 (n + 1) [.ref b,.ref i] h [.o _,.r _] rfl rfl hb q0
  | @box i _ _ _ _ _ _ _ q _ _ _=>exact run 35 f35 (n + 1) [.ref b,.ref i] h [.o _,.r _] rfl rfl hb q0
 | true=>
  cases r with
  | glue _ _=>exact absurd rfl (hp _ _ _ _ _)
  | @kern i _ _ q=>exact run 35 f35 (n + 1) [.ref b,.ref i] h [.o _,.o _,.o _] rfl rfl hb q q
  | @pen i _ q=>exact run 35 f35 (n + 1) [.ref b,.ref i] h [.o _,.o _,.r _,.r _] rfl rfl hb q q1 q2
  | @rule i _ _ _ q=>exact run 35 f35 (n + 1) [.ref b,.ref i] h [.o _,.o _,.r _,.r _] rfl rfl hb q q1 q2
  | @box i _ _ _ _ _ _ _ q _ _ z=>
   rcases z with rfl | rfl
   · exact run 35 f35 (n + 1) [.ref b,.ref i] h [.o _,.o _,.r _,.r _] rfl rfl hb q q1 q2
   · exact run 35 f35 (n + 1) [.ref b,.ref i] h [.o _,.o _,.r _,.r _] rfl rfl hb q q1 q2
theorem c36 (hb:h[b]? =some (setO (.int (kd u)) w hh d it sf g)) (hi:h[it]? =some (.list vs ver)) (r:zaK P h vs ps) (hlen:vs.length < 4000) (h0:g.r0.natAbs < 18446744073709551616) (h1:0 < g.r1) (h2:g.r1 < 4611686018427387904) :
 ∃ h' m,zaB (n + 4) 36 [.ref b] h= .ok (.ref h.length) h'∧Gr [] h h'∧h'[h.length]? =some (.list ((plL u g ps).2.2.map MV.int) m):=by
 have e0:=zaD h (.list [.int 0] 0)
 obtain ⟨l',h',e,gr,m,e',x,rfl⟩:=zbY (α:=Part) (R:=RepP P h) (a:=it) (ver:=ver) (num:=false) (tgt:=fun v l=>some (l.set 4 (some v))) (body:=zaC tabs (zay tabs fnsT (n + 3)) b36l0)
  (fun d l h'=>Gr [] h h'∧∃ m,h'[h.length]? =some (.list ((plL u g d).2.2.map MV.int) m)∧∃ x,l= [some (.ref b),some (.ref h.length),some (.int (plL u g d).1),some (.int (plL u g d).2.1),x]) r
  (fun d l h' ⟨gr,_⟩=>by simp only [itemsV?,gr.lst hi (fun m=>nomatch m)]) (fun d' p v l h' zz hv rp _=>by
   obtain ⟨gr,m,e',x,q⟩:=zz
   subst q
   have eC:plL u g (d' ++ [p])=plF u g (plL u g d') p:=by unfold plL;simp only [List.foldl_append];rfl
   have ll:∀ ds:List Part,(plL u g ds).2.2.length=ds.length + 1:=fun ds=>by
    have key:∀ (ds:List Part) s,(ds.foldl (plF u g) s).2.2.length=ds.length + s.2.2.length:=by
     intro ds
     induction ds with
     | nil=>intro s;simp
     | cons p r ih=>intro ⟨s1,s2,s3⟩;simp only [List.foldl_cons,ih];simp only [plF,List.length_append,List.length_cons,List.length_nil];lia
    exact key ds _
   have l4:((plL u g d').2.2.map MV.int).length < 4096:=by
    simp only [List.length_map,ll]
    have:=(List.getElem?_eq_some_iff.mp hv).1
    lia
   rw [eC]
   clear eC ll
   generalize plL u g d'=c at e' l4 ⊢
   obtain ⟨fx,fl,fo⟩:=c
   dsimp only at e' l4 ⊢
   have hb':=gr.inst hb
   have rp':=rp.gr gr (fun _ _ m=>nomatch m)
   have fin:zaC tabs (zay tabs fnsT (n + 3)) b36l0 [some (.ref b),some (.ref h.length),some (.int fx),some (.int fl),some v] h'= .nxt [some (.ref b),some (.ref h.length),some (.int (fx + p.fsz u)),some (.int (fl + flx g.sg g.od p)),some v]
    (h'.set h.length (.list (fo.map MV.int ++ [.int (fx + p.fsz u + rnd (g.r0 * (fl + flx g.sg g.od p)) g.r1)]) (m + 1)))→∃ l1 l2 h2,some ([some (MV.ref b),some (.ref h.length),some (.int fx),some (.int fl),x].set 4 (some v))=some l1∧zaC tabs (zay tabs fnsT (n + 3)) b36l0 l1 h'= .nxt l2 h2∧
     Gr [] h h2∧∃ m,h2[h.length]? =some (.list ((plF u g (fx,fl,fo) p).2.2.map MV.int) m)∧∃ x,l2= [some (.ref b),some (.ref h.length),some (.int (plF u g (fx,fl,fo) p).1),some (.int (plF u g (fx,fl,fo) p).2.1),x]:=fun e2=>
    ⟨_,_,_,rfl,e2,gr.fresh (Nat.le_refl _) _,m + 1,by rw [zaO e'];simp only [plF,List.map_append,List.map_cons,List.map_nil],some v,rfl⟩
   refine fin ?_
   have z:∀ fl',zaB (n + 3) 34 [.ref b,.int fl'] h'= .ok (.int (rnd (g.r0 * fl') g.r1)) h':=fun fl'=>c34 (n + 1) hb' h0 h1 h2
   have nz:fl + 0=fl:=Int.add_zero _
   cases rp' with
   | @glue i j w s so sh ho q q' c1 c2 c3 c4=>
    exact runB (n:=n + 3) (b:=b36l0) (l:=[some (.ref b),some (.ref h.length),some (.int fx),some (.int fl),some (.ref i)]) (h:=h') [.o _,.o _,.o _,.o _,.r _,.o _,.r _,.o _] q q q' q (c33 (n + 2) hb' q') e' (z _) e' l4
   | @kern i w srt q=>
    have q':=c35 (n + 1) hb' (.kern (P:=P) q) (fun _ _ _ _ _ e=>nomatch e)
    have:=runB (n:=n + 3) (b:=b36l0) (l:=[some (.ref b),some (.ref h.length),some (.int fx),some (.int fl),some (.ref i)]) (h:=h') [.o _,.r _,.o _,.r _,.o _] q q' e' (z _) e' l4
    simp only [flx,nz];exact this
   | @pen i x q=>
    have q':=c35 (n + 1) hb' (.pen (P:=P) q) (fun _ _ _ _ _ e=>nomatch e)
    have:=runB (n:=n + 3) (b:=b36l0) (l:=[some (.ref b),some (.ref h.length),some (.int fx),some (.int fl),some (.ref i)]) (h:=h') [.o _,.r _,.o _,.r _,.o _] q q' e' (z _) e' l4
    simp only [flx,nz];exact this
   | @rule i w x y q=>
    have q':=c35 (n + 1) hb' (.rule (P:=P) q) (fun _ _ _ _ _ e=>nomatch e)
    have:=runB (n:=n + 3) (b:=b36l0) (l:=[some (.ref b),some (.ref h.length),some (.int fx),some (.int fl),some (.ref i)]) (h:=h') [.o _,.r _,.o _,.r _,.o _] q q' e' (z _) e' l4
    simp only [flx,nz];exact this
   | @box i j m' k w x y sf q q1 q2 k2=>
    have q':=c35 (n + 1) hb' (.box (P:=P) q q1 q2 k2) (fun _ _ _ _ _ e=>nomatch e)
    simp only [flx,nz]
    rcases k2 with rfl | rfl
    · exact runB (n:=n + 3) (b:=b36l0) (l:=[some (.ref b),some (.ref h.length),some (.int fx),some (.int fl),some (.ref i)]) (h:=h') [.o _,.r _,.o _,.r _,.o _] q q' e' (z _) e' l4
    · exact runB (n:=n + 3) (b:=b36l0) (l:=[some (.ref b),some (.ref h.length),some (.int fx),some (.int fl),some (.ref i)]) (h:=h') [.o _,.r _,.o _,.r _,.o _] q q' e' (z _) e' l4)
  (m:=vs.length + 1) (d:=[]) (l:=[some (.ref b),some (.ref h.length),some (.int 0),some (.int 0),none]) (h:=h ++ [.list [.int 0] 0]) ⟨Gr.app _ _ _,0,e0,none,rfl⟩ ⟨ps,rfl⟩ rfl
 refine ⟨h',m,?_,gr,e'⟩
 cases u with
 | false=>exact run 36 f36 (n + 3) [.ref b] h [.o _,.o _,.o (.list vs ver),.s (.nxt _ h')] rfl rfl hb (zaJ hb) (zaJ hi) e
 | true=>exact run 36 f36 (n + 3) [.ref b] h [.o _,.o _,.r (.ok .none h),.o _,.o (.list vs ver),.s (.nxt _ h')] rfl rfl hb hb (c29 (n + 2) hi r) (zaJ hb) (zaJ hi) e
end
noncomputable def repG (o T e:Int) :Int × Int:=
 if o=0 then (if e < 0∧T < -e then (3,-e - T) else (if 0 < e then 1 else 2,bad e.natAbs T)) else (0,0)
noncomputable def setG (S Z:Int→Int) (e:Int) :Setg:=
 if e=0 then ⟨0,0,0,1,0,0⟩ else
  let X:=if 0 < e then S else Z
  let o:=topO X
  let T:=X o
  let rp:=repG o T e
  if T=0 then ⟨0,0,0,1,rp.1,rp.2⟩ else if rp.1=3 then ⟨2,o,1,1,rp.1,rp.2⟩ else
   ⟨if 0 < e then 1 else 2,o,if 0 < T then e.natAbs else -e.natAbs,if 0 < T then T else -T,rp.1,rp.2⟩
noncomputable abbrev setM (g:Setg) :MV:= .tup [.int g.sg,.int g.od,.tup [.int g.r0,.int g.r1],.tup [.int g.q0,.int g.q1]]
theorem topO_ne {S:Int→Int} (h:topO S≠0) :S (topO S)≠0:=by
 unfold topO at h ⊢
 split
 · assumption
 · rw [if_neg (by assumption)] at h
   split
   · assumption
   · rw [if_neg (by assumption)] at h
     split
     · assumption
     · rw [if_neg (by assumption)] at h;exact absurd rfl h
section
variable (n:Nat) {h₀ h:zax} {t:Nat} {nat:Int} {S Z:Int→Int}
theorem c31' (h:zax) (u d:Int) :zaB (n + 1) 31 [.int u,.int d] h= .ok (.tup [.int (if 0 < d then u else -u),.int (if 0 < d then d else -d)]) h:=by
 rw [c31];split <;> rfl
theorem c32 (T:Tot h₀ h t nat S Z) {e:Int} (hS:∀ k,S k < 18446744073709551616) (hZ:∀ k,Z k < 18446744073709551616) :zaB (n + 3) 32 [.ref t,.int e] h= .ok (setM (setG S Z e)) h:=by
 have q1:=c12 n T
 have q2:=c13 n T
 obtain ⟨gr,a,b,va,vb,k1,k2,k3,ab,et,ea,eb⟩:=T
 have g1:=zdJ S
 have g2:=zdJ Z
 have i1:=t4_get ea g1.1 g1.2
 have i2:=t4_get eb g2.1 g2.2
 unfold setG
 by_cases h0:e=0
 · rw [if_pos h0];exact run 32 f32 (n + 2) [.ref t,.int e] h [.b true] rfl rfl (dt h0)
 · rw [if_neg h0]
   dsimp only
   by_cases hp:0 < e
   · have hn:¬ e < 0:=by lia
     rw [if_pos hp,if_pos hp]
     have q3:∀ x,x < 18446744073709551616→zaB (n + 2) 5 [.int (e.natAbs:Int),.int x] h= .ok (.int (bad e.natAbs x)) h:=fun x hx=>c5 (n + 1) h (by lia) hx
     have q4:=c31' (n + 1) h (e.natAbs:Int)
     by_cases ho:topO S=0
     · have er:repG (topO S) (S (topO S)) e=(1,bad e.natAbs (S (topO S))):=by unfold repG;rw [if_pos ho,if_neg (fun q=>hn q.1),if_pos hp]
       rw [er]
       by_cases hT:S (topO S)=0
       · rw [if_pos hT]
         exact run 32 f32 (n + 2) [.ref t,.int e] h [.b false,.b true,.o _,.r _,.b true,.o _,.i _,.b true,.b true,.r _,.b true,.b false,.b false,.b true] rfl rfl (df h0) (dt hp) et q1 (dt hp) et i1 (dt ho) (dt hp) (q3 _ (hS _)) (dt ho) (df hn) (df hn) (dt hT)
       · rw [if_neg hT,if_neg (by decide:¬ (1:Int)=3)]
         exact run 32 f32 (n + 2) [.ref t,.int e] h [.b false,.b true,.o _,.r _,.b true,.o _,.i _,.b true,.b true,.r _,.b true,.b false,.b false,.b false,.b false,.b true,.r _] rfl rfl (df h0) (dt hp) et q1 (dt hp) et i1 (dt ho) (dt hp) (q3 _ (hS _)) (dt ho) (df hn) (df hn) (df hT) rfl (dt hp) (q4 _)
     · have er:repG (topO S) (S (topO S)) e=(0,0):=by unfold repG;rw [if_neg ho]
       have hT:=topO_ne ho
       rw [er,if_neg hT,if_neg (by decide:¬ (0:Int)=3)]
       exact run 32 f32 (n + 2) [.ref t,.int e] h [.b false,.b true,.o _,.r _,.b true,.o _,.i _,.b false,.b false,.b false,.b false,.b false,.b true,.r _] rfl rfl (df h0) (dt hp) et q1 (dt hp) et i1 (df ho) (df ho) (df ho) (df hT) rfl (dt hp) (q4 _)
   · have hn:e < 0:=by lia
     rw [if_neg hp,if_neg hp]
     have q3:∀ x,x < 18446744073709551616→zaB (n + 2) 5 [.int (e.natAbs:Int),.int x] h= .ok (.int (bad e.natAbs x)) h:=fun x hx=>c5 (n + 1) h (by lia) hx
     have q4:=c31' (n + 1) h (e.natAbs:Int)
     by_cases ho:topO Z=0
     · by_cases hf:Z (topO Z) < -e
       · have er:repG (topO Z) (Z (topO Z)) e=(3,-e - Z (topO Z)):=by unfold repG;rw [if_pos ho,if_pos ⟨hn,hf⟩]
         rw [er]
         by_cases hT:Z (topO Z)=0
         · rw [if_pos hT]
           exact run 32 f32 (n + 2) [.ref t,.int e] h [.b false,.b false,.o _,.r _,.b false,.o _,.i _,.b true,.b false,.r _,.b true,.b true,.b true,.b true] rfl rfl (df h0) (df hp) et q2 (df hp) et i2 (dt ho) (df hp) (q3 _ (hZ _)) (dt ho) (dt hn) (dt hf) (dt hT)
         · rw [if_neg hT,if_pos rfl]
           exact run 32 f32 (n + 2) [.ref t,.int e] h [.b false,.b false,.o _,.r _,.b false,.o _,.i _,.b true,.b false,.r _,.b true,.b true,.b true,.b false,.b true] rfl rfl (df h0) (df hp) et q2 (df hp) et i2 (dt ho) (df hp) (q3 _ (hZ _)) (dt ho) (dt hn) (dt hf) (df hT) rfl
       · have er:repG (topO Z) (Z (topO Z)) e=(2,bad e.natAbs (Z (topO Z))):=by unfold repG;rw [if_pos ho,if_neg (fun q=>hf q.2),if_neg hp]
         have hT:¬ Z (topO Z)=0:=by lia
         rw [er,if_neg hT,if_neg (by decide:¬ (2:Int)=3)]
         exact run 32 f32 (n + 2) [.ref t,.int e] h [.b false,.b false,.o _,.r _,.b false,.o _,.i _,.b true,.b false,.r _,.b true,.b true,.b false,.b false,.b false,.b false,.r _] rfl rfl (df h0) (df hp) et q2 (df hp) et i2 (dt ho) (df hp) (q3 _ (hZ _)) (dt ho) (dt hn) (df hf) (df hT) rfl (df hp) (q4 _)
     · have er:repG (topO Z) (Z (topO Z)) e=(0,0):=by unfold repG;rw [if_neg ho]
       have hT:=topO_ne ho
       rw [er,if_neg hT,if_neg (by decide:¬ (0:Int)=3)]
       exact run 32 f32 (n + 2) [.ref t,.int e] h [.b false,.b false,.o _,.r _,.b false,.o _,.i _,.b false,.b false,.b false,.b false,.b false,.b false,.r _] rfl rfl (df h0) (df hp) et q2 (df hp) et i2 (df ho) (df ho) (df ho) (df hT) rfl (df hp) (q4 _)
end
section
variable (n:Nat) {h₀ h:zax} {t:Nat} {nat:Int} {S Z:Int→Int}
theorem n14 (h:zax) {k w hh d:Int} (it:MV) (hk:k=2∨k=3) (hw:dim w) (h1:dim hh) (hd:dim d) :
 ∃ h',zaB (n + 3) 14 [.ref h.length,.int k,.int w,.int hh,.int d,it] (h ++ [.inst 2 []])= .ok .none h'∧Gr [] h h'∧h'=h ++ [boxO (.int k) (.int w) (.int hh) (.int d) it (.int 0) (.int 0) (.int 0) (.tup [.int 0,.int 1])]:=by
 have q:∀ v H,dim v→zaB (n + 2) 3 [.int v] H= .ok (.int v) H:=fun v H d=>c3 n H d.1 d.2
 have e0:=zaD h (.inst 2 [])
 have z:∀ x y:MObj,(h ++ [x]).set h.length y=h ++ [y]:=set_new h
 have r:zaB (n + 2) 0 [.int k,.int 2,.int 3] (h ++ [.inst 2 []])= .ok (.bool true) (h ++ [.inst 2 []]):=c0 (n + 1) _ (by lia) (by lia)
 have E:=fun fs:List (Nat × MV)=>zaD h (.inst 2 fs)
 have a1:=zaO e0 (.inst 2 [(6,.int k)])
 have a2:=zaO a1 (.inst 2 [(6,.int k),(0,.int w)])
 have a3:=zaO a2 (.inst 2 [(6,.int k),(0,.int w),(7,.int hh)])
 have a4:=zaO a3 (.inst 2 [(6,.int k),(0,.int w),(7,.int hh),(8,.int d)])
 have a5:=zaO a4 (.inst 2 [(6,.int k),(0,.int w),(7,.int hh),(8,.int d),(9,it)])
 have a6:=zaO a5 (.inst 2 [(6,.int k),(0,.int w),(7,.int hh),(8,.int d),(9,it),(10,.int 0)])
 have a7:=zaO a6 (.inst 2 [(6,.int k),(0,.int w),(7,.int hh),(8,.int d),(9,it),(10,.int 0),(11,.int 0)])
 have a8:=zaO a7 (.inst 2 [(6,.int k),(0,.int w),(7,.int hh),(8,.int d),(9,it),(10,.int 0),(11,.int 0),(12,.int 0)])
 refine ⟨_,run 14 f14 (n + 2) [.ref h.length,.int k,.int w,.int hh,.int d,it] (h ++ [MObj.inst 2 []]) [.r _,.o (.inst 2 []),.r (.ok (.int w) _),.o _,.r (.ok (.int hh) _),.o _,.r (.ok (.int d) _),.o _,.o _,.o _,.o _,.o _,.o _] rfl rfl r e0 (q _ _ hw) a1 (q _ _ h1) a2 (q _ _ hd) a3 a4 a5 a6 a7 a8,?_,?_⟩
 · simp only [z];exact Gr.app _ _ _
 · simp only [z];rfl
theorem n14x (h:zax) {k w hh d:Int} (it:MV) (hk:k=2∨k=3) (hx:¬ dim w∨(dim w∧¬ dim hh)) :
 ∃ h',zaB (n + 3) 14 [.ref h.length,.int k,.int w,.int hh,.int d,it] (h ++ [.inst 2 []])= .exc h'∧Gr [] h h':=by
 have q:∀ v H,dim v→zaB (n + 2) 3 [.int v] H= .ok (.int v) H:=fun v H d=>c3 n H d.1 d.2
 have e0:=zaD h (.inst 2 [])
 have r:zaB (n + 2) 0 [.int k,.int 2,.int 3] (h ++ [.inst 2 []])= .ok (.bool true) (h ++ [.inst 2 []]):=c0 (n + 1) _ (by lia) (by lia)
 have a1:=zaO e0 (.inst 2 [(6,.int k)])
 rcases hx with hx | ⟨hw,hx⟩
 · exact ⟨_,run 14 f14 (n + 2) [.ref h.length,.int k,.int w,.int hh,.int d,it] (h ++ [MObj.inst 2 []]) [.r _,.o (.inst 2 []),.r (.exc _)] rfl rfl r e0 (c3x n _ hx),(Gr.app _ _ _).fresh (Nat.le_refl _) _⟩
 · exact ⟨_,run 14 f14 (n + 2) [.ref h.length,.int k,.int w,.int hh,.int d,it] (h ++ [MObj.inst 2 []]) [.r _,.o (.inst 2 []),.r (.ok (.int w) _),.o _,.r (.exc _)] rfl rfl r e0 (q _ _ hw) a1 (c3x n _ hx),((Gr.app _ _ _).fresh (Nat.le_refl _) _).fresh (Nat.le_refl _) _⟩
end
theorem Tot.at (T:Tot h₀ h t nat S Z) {h':zax} (g:Gr [] h h') :Tot h₀ h' t nat S Z:=by
 obtain ⟨gr,a,b,va,vb,k1,k2,k3,ab,et,ea,eb⟩:=T
 exact ⟨gr.trans g,a,b,va,vb,k1,k2,k3,ab,g.inst et,g.lst ea (fun m=>nomatch m),g.lst eb (fun m=>nomatch m)⟩
theorem Tot.nat_ {h₀ h:zax} {t:Nat} {nat:Int} {S Z:Int→Int} (T:Tot h₀ h t nat S Z) :∃ a b,h[t]? =some (totO (.int nat) a b):=by
 obtain ⟨gr,a,b,va,vb,k1,k2,k3,ab,et,ea,eb⟩:=T
 exact ⟨_,_,et⟩
noncomputable def rp0 (vs:List MV) (g:Setg) :MV:=if vs= [] then .tup [.int 0,.int 0] else .tup [.int g.q0,.int g.q1]
section
variable (n:Nat) {h₀ h:zax} {t b it ver:Nat} {nat:Int} {S Z:Int→Int} {vs:List MV}
theorem eq_nil {H:zax} {x y vx vy:Nat} {vs:List MV} (h1:H[x]? =some (.list vs vx)) (h2:H[y]? =some (.list [] vy)) :eqH H (.ref x) (.ref y)=some (decide (vs= [])):=by
 unfold eqH
 simp only [items?,h1,h2,Option.bind_some]
 cases vs with
 | nil=>rfl
 | cons v r=>rfl
theorem c38 (T:Tot h₀ h t nat S Z) {e:Int} (hS:∀ k,S k < 18446744073709551616) (hZ:∀ k,Z k < 18446744073709551616) {k w hh d sf:Int} {g0:Setg} (hb:h[b]? =some (setO (.int k) (.int w) (.int hh) (.int d) it (.int sf) g0)) (hi:h[it]? =some (.list vs ver)) (lb:h₀.length≤b) :
 ∃ h',zaB (n + 4) 38 [.ref b,.ref t,.int e] h= .ok (rp0 vs (setG S Z e)) h'∧Gr [] h₀ h'∧h'[b]? =some (setO (.int k) (.int w) (.int hh) (.int d) it (.int sf) (setG S Z e))∧h'[it]? =some (.list vs ver):=by
 have q:=c32 n T (e:=e) hS hZ
 have gr:=T.gr
 have e1:=zaO hb (boxO (.int k) (.int w) (.int hh) (.int d) (.ref it) (.int sf) (.int (setG S Z e).sg) (.int g0.od) (.tup [.int g0.r0,.int g0.r1]))
 have e2:=zaO e1 (boxO (.int k) (.int w) (.int hh) (.int d) (.ref it) (.int sf) (.int (setG S Z e).sg) (.int (setG S Z e).od) (.tup [.int g0.r0,.int g0.r1]))
 have e3:=zaO e2 (setO (.int k) (.int w) (.int hh) (.int d) it (.int sf) (setG S Z e))
 have bi:b≠it:=fun q=>by simp only [q,hi] at hb;cases hb
 have hi3:=zcz (x:=setO (.int k) (.int w) (.int hh) (.int d) it (.int sf) (setG S Z e)) (zcz (x:=boxO (.int k) (.int w) (.int hh) (.int d) (.ref it) (.int sf) (.int (setG S Z e).sg) (.int (setG S Z e).od) (.tup [.int g0.r0,.int g0.r1])) (zcz (x:=boxO (.int k) (.int w) (.int hh) (.int d) (.ref it) (.int sf) (.int (setG S Z e).sg) (.int g0.od) (.tup [.int g0.r0,.int g0.r1])) hi bi) bi) bi
 unfold rp0
 by_cases hv:vs= []
 · rw [if_pos hv]
   exact ⟨_,run 38 f38 (n + 3) [.ref b,.ref t,.int e] h [.r _,.o _,.o _,.o _,.o _,.b true] rfl rfl q hb e1 e2 e3 ((eq_nil (zaJ hi3) (zaD _ _)).trans (congrArg some (dt hv))),(((gr.fresh lb _).fresh lb _).fresh lb _).push _,zaJ e3,zaJ hi3⟩
 · rw [if_neg hv]
   exact ⟨_,run 38 f38 (n + 3) [.ref b,.ref t,.int e] h [.r _,.o _,.o _,.o _,.o _,.b false] rfl rfl q hb e1 e2 e3 ((eq_nil (zaJ hi3) (zaD _ _)).trans (congrArg some (df hv))),(((gr.fresh lb _).fresh lb _).fresh lb _).push _,zaJ e3,zaJ hi3⟩
noncomputable abbrev zaL (nat mode am:Int) :Int:=if mode=0 then am else nat + am
variable {P:Nat→Prop} {a:Nat} {ps:List Part} {mode am most:Int}
noncomputable abbrev bnd (f:Int→Int) :Prop:=∀ k,f k < 18446744073709551616
theorem c39 (ha:h[a]? =some (.list vs ver)) (r:zaK P h vs ps) (hm:mode=0∨mode=1) (d1:dim am) (d2:dim (zaL (natL ps) mode am)) (d3:dim (hgtL ps)) (d4:dim (depL ps)) (hS:bnd (sumS ps)) (hZ:bnd (sumZ ps)) :
 ∃ b h',zaB (n + 6) 39 [.ref a,.int mode,.int am] h= .ok (.tup [.ref b,rp0 vs (setG (sumS ps) (sumZ ps) (zaL (natL ps) mode am - natL ps))]) h'∧Gr [] h h'∧
  h'[b]? =some (setO (.int 2) (.int (zaL (natL ps) mode am)) (.int (hgtL ps)) (.int (depL ps)) a (.int 0) (setG (sumS ps) (sumZ ps) (zaL (natL ps) mode am - natL ps)))∧h'[a]? =some (.list vs ver):=by
 have g0:Gr [] h (h ++ [.list [] 0]):=Gr.app _ _ _
 have r0:zaK P (h ++ [.list [] 0]) vs ps:=r.imp fun _ _ x=>x.gr g0 (fun _ _ m=>nomatch m)
 refine x2_2 (c27 (n + 2) (zaJ ha) r0) fun t h1 e1 T1=>?_
 refine x2_1 T1.nat_ fun _ _ et=>?_
 have e2:=c37 (n + 2) h1 (own:=natL ps) hm d1.1 d1.2
 refine x1_3 (n14 (n + 2) h1 (.ref a) (.inl rfl) d2 d3 d4) ?_;rintro h2 e3 g3 rfl
 have T2:=T1.at g3
 refine x2_1 T2.nat_ fun _ _ et2=>?_
 have ha2:=(T1.gr.trans g3).lst (zaJ ha) (fun m=>nomatch m)
 refine x1_4 (c38 (n + 1) T2 (g0:=⟨0,0,0,1,0,0⟩) hS hZ (zaD h1 _) ha2 T1.gr.len (e:=zaL (natL ps) mode am - natL ps)) fun h3 e4 g4 b4 i4=>?_
 exact ⟨_,h3,runD 39 f39 (n + 5) [.ref a,.int mode,.int am] [.ref a,.int mode,.int am,.none] h [.r (.ok (.tup [.ref t,.int (hgtL ps),.int (depL ps)]) h1),.o _,.r _,.r _,.o _,.r _] rfl rfl e1 et e2 e3 et2 e4,g0.trans g4,b4,i4⟩
theorem c39x (ha:h[a]? =some (.list vs ver)) (r:zaK P h vs ps) (hm:mode=0∨mode=1) (hx:¬(dim am∧dim (zaL (natL ps) mode am))) :
 ∃ h',zaB (n + 6) 39 [.ref a,.int mode,.int am] h= .exc h'∧Gr [] h h':=by
 have g0:Gr [] h (h ++ [.list [] 0]):=Gr.app _ _ _
 have r0:zaK P (h ++ [.list [] 0]) vs ps:=r.imp fun _ _ x=>x.gr g0 (fun _ _ m=>nomatch m)
 refine x2_2 (c27 (n + 2) (zaJ ha) r0) fun t h1 e1 T1=>?_
 refine x2_1 T1.nat_ fun _ _ et=>?_
 by_cases d1:dim am
 · have e2:=c37 (n + 2) h1 (own:=natL ps) hm d1.1 d1.2
   refine x1_2 (n14x (n + 2) h1 (k:=2) (hh:=hgtL ps) (d:=depL ps) (.ref a) (.inl rfl) (.inl fun q=>hx ⟨d1,q⟩)) fun h2 e3 g3=>?_
   exact ⟨h2,runD 39 f39 (n + 5) [.ref a,.int mode,.int am] [.ref a,.int mode,.int am,.none] h [.r (.ok (.tup [.ref t,.int (hgtL ps),.int (depL ps)]) h1),.o _,.r _,.r _] rfl rfl e1 et e2 e3,(g0.trans T1.gr).trans g3⟩
 · have e2:=c37x (n + 2) h1 (own:=natL ps) hm d1
   exact ⟨h1,runD 39 f39 (n + 5) [.ref a,.int mode,.int am] [.ref a,.int mode,.int am,.none] h [.r (.ok (.tup [.ref t,.int (hgtL ps),.int (depL ps)]) h1),.o _,.r _] rfl rfl e1 et e2,g0.trans T1.gr⟩
noncomputable def natV (ps:List Part) (most:Int) :Int:=(colL ps).1 + (if most < (colL ps).2.2 then (colL ps).2.2 - most else 0)
noncomputable def depV (ps:List Part) (most:Int) :Int:=if most < (colL ps).2.2 then most else (colL ps).2.2
theorem c40_ (ha:h[a]? =some (.list vs ver)) (r:zaK P h vs ps) (hd:dim most) :∃ t h1,Tot h h1 t (natV ps most) (sumS ps) (sumZ ps)∧h1[a]? =some (.list vs ver)∧
 (∀ r3 r4,zaB (n + 5) 37 [.int (natV ps most),.int mode,.int am] h1=r3→((∃ x,r3= .exc x)∧r4=r3)∨
  (∃ s,r3= .ok (.int s) h1∧((∃ x,zaB (n + 5) 14 [.ref h1.length,.int 3,.int (colL ps).2.1,.int s,.int (depV ps most),.ref a] (h1 ++ [.inst 2 []])= .exc x∧r4= .exc x)∨
   (∃ h2 h3 rr N,zaB (n + 5) 14 [.ref h1.length,.int 3,.int (colL ps).2.1,.int s,.int (depV ps most),.ref a] (h1 ++ [.inst 2 []])= .ok .none h2∧(∃ x y,h2[t]? =some (totO (.int N) x y))∧
    zaB (n + 5) 38 [.ref h1.length,.ref t,.int (s - N)] h2= .ok rr h3∧r4= .ok (.tup [.ref h1.length,rr]) h3)))→zaB (n + 6) 40 [.ref a,.int mode,.int am,.int most] h=r4):=by
 have e0:=c3 (n + 3) h hd.1 hd.2
 refine x2_2 (c30 (n + 1) ha r) fun t h1 e1 T1=>?_
 by_cases q:most < (colL ps).2.2
 · refine x2_1 T1.nat_ fun _ _ et=>?_
   refine x1_2 (c11 (n + 4) T1 (w:=(colL ps).2.2 - most)) fun h2 e2 T2=>?_
   refine x2_1 T2.nat_ fun _ _ et2=>?_
   refine ⟨t,h2,by unfold natV;rw [if_pos q];exact T2,T2.gr.lst ha (fun m=>nomatch m),fun r3 r4 h3 hr=>?_⟩
   have eN:natV ps most=(colL ps).1 + ((colL ps).2.2 - most):=by unfold natV;rw [if_pos q]
   have eD:depV ps most=most:=if_pos q
   rw [eN] at h3
   rw [eD] at hr
   refine x4_7 T1.ex fun _ _ _ _ _ _ _ _ et' _ _=>?_
   rcases hr with ⟨⟨x,rfl⟩,rfl⟩ | ⟨s,rfl,⟨x,q3,rfl⟩ | ⟨h4,h5,rr,N,q3,⟨x,y,q4⟩,q5,rfl⟩⟩
   · exact run 40 f40 (n + 5) [.ref a,.int mode,.int am,.int most] h [.r (.ok (.int most) h),.r (.ok (.tup [.ref t,.int (colL ps).2.1,.int (colL ps).2.2]) h1),.b true,.o _,.r _,.o _,.r _] rfl rfl e0 e1 (dt q) et' e2 et2 h3
   · exact run 40 f40 (n + 5) [.ref a,.int mode,.int am,.int most] h [.r (.ok (.int most) h),.r (.ok (.tup [.ref t,.int (colL ps).2.1,.int (colL ps).2.2]) h1),.b true,.o _,.r _,.o _,.r (.ok (.int s) h2),.r _] rfl rfl e0 e1 (dt q) et' e2 et2 h3 q3
   · exact run 40 f40 (n + 5) [.ref a,.int mode,.int am,.int most] h [.r (.ok (.int most) h),.r (.ok (.tup [.ref t,.int (colL ps).2.1,.int (colL ps).2.2]) h1),.b true,.o _,.r _,.o _,.r (.ok (.int s) h2),.r _,.o _,.r _] rfl rfl e0 e1 (dt q) et' e2 et2 h3 q3 q4 q5
 · refine x2_1 T1.nat_ fun _ _ et=>?_
   refine ⟨t,h1,by unfold natV;rw [if_neg q,Int.add_zero];exact T1,T1.gr.lst ha (fun m=>nomatch m),fun r3 r4 h3 hr=>?_⟩
   have eN:natV ps most=(colL ps).1:=by unfold natV;rw [if_neg q,Int.add_zero]
   have eD:depV ps most=(colL ps).2.2:=if_neg q
   rw [eN] at h3
   rw [eD] at hr
   rcases hr with ⟨⟨x,rfl⟩,rfl⟩ | ⟨s,rfl,⟨x,q3,rfl⟩ | ⟨h4,h5,rr,N,q3,⟨x,y,q4⟩,q5,rfl⟩⟩
   · exact run 40 f40 (n + 5) [.ref a,.int mode,.int am,.int most] h [.r (.ok (.int most) h),.r (.ok (.tup [.ref t,.int (colL ps).2.1,.int (colL ps).2.2]) h1),.b false,.o _,.r _] rfl rfl e0 e1 (df q) et h3
   · exact run 40 f40 (n + 5) [.ref a,.int mode,.int am,.int most] h [.r (.ok (.int most) h),.r (.ok (.tup [.ref t,.int (colL ps).2.1,.int (colL ps).2.2]) h1),.b false,.o _,.r (.ok (.int s) h1),.r _] rfl rfl e0 e1 (df q) et h3 q3
   · exact run 40 f40 (n + 5) [.ref a,.int mode,.int am,.int most] h [.r (.ok (.int most) h),.r (.ok (.tup [.ref t,.int (colL ps).2.1,.int (colL ps).2.2]) h1),.b false,.o _,.r (.ok (.int s) h1),.r _,.o _,.r _] rfl rfl e0 e1 (df q) et h3 q3 q4 q5
theorem c40 (ha:h[a]? =some (.list vs ver)) (r:zaK P h vs ps) (hm:mode=0∨mode=1) (hd:dim most) (d1:dim am) (d2:dim (zaL (natV ps most) mode am)) (d3:dim (colL ps).2.1) (d4:dim (depV ps most)) (hS:bnd (sumS ps)) (hZ:bnd (sumZ ps)) :
 ∃ b h',zaB (n + 6) 40 [.ref a,.int mode,.int am,.int most] h= .ok (.tup [.ref b,rp0 vs (setG (sumS ps) (sumZ ps) (zaL (natV ps most) mode am - natV ps most))]) h'∧Gr [] h h'∧
  h'[b]? =some (setO (.int 3) (.int (colL ps).2.1) (.int (zaL (natV ps most) mode am)) (.int (depV ps most)) a (.int 0) (setG (sumS ps) (sumZ ps) (zaL (natV ps most) mode am - natV ps most)))∧h'[a]? =some (.list vs ver):=by
 refine x2_3 (c40_ n (mode:=mode) (am:=am) ha r hd) fun t h1 T1 ha1 k=>?_
 have e2:=c37 (n + 2) h1 (own:=natV ps most) hm d1.1 d1.2
 refine x1_3 (n14 (n + 2) h1 (.ref a) (.inr rfl) d3 d2 d4) ?_;rintro h2 e3 g3 rfl
 have T2:=T1.at g3
 refine x1_4 (c38 (n + 1) T2 (g0:=⟨0,0,0,1,0,0⟩) hS hZ (zaD h1 _) (g3.lst ha1 (fun m=>nomatch m)) T1.gr.len (e:=zaL (natV ps most) mode am - natV ps most)) fun h3 e4 g4 b4 i4=>?_
 exact ⟨_,h3,k _ _ e2 (.inr ⟨_,rfl,.inr ⟨_,h3,_,natV ps most,e3,T2.nat_,e4,rfl⟩⟩),g4,b4,i4⟩
theorem c40x (ha:h[a]? =some (.list vs ver)) (r:zaK P h vs ps) (hm:mode=0∨mode=1) (hd:dim most) (d3:dim (colL ps).2.1) (hx:¬(dim am∧dim (zaL (natV ps most) mode am))) :
 ∃ h',zaB (n + 6) 40 [.ref a,.int mode,.int am,.int most] h= .exc h'∧Gr [] h h':=by
 refine x2_3 (c40_ n (mode:=mode) (am:=am) ha r hd) fun t h1 T1 ha1 k=>?_
 by_cases d1:dim am
 · have e2:=c37 (n + 2) h1 (own:=natV ps most) hm d1.1 d1.2
   refine x1_2 (n14x (n + 2) h1 (k:=3) (d:=depV ps most) (.ref a) (.inr rfl) (.inr ⟨d3,fun q=>hx ⟨d1,q⟩⟩)) fun h2 e3 g3=>?_
   exact ⟨h2,k _ _ e2 (.inr ⟨_,rfl,.inl ⟨h2,e3,rfl⟩⟩),T1.gr.trans g3⟩
 · have e2:=c37x (n + 2) h1 (own:=natV ps most) hm d1
   exact ⟨h1,k _ _ e2 (.inl ⟨⟨_,rfl⟩,rfl⟩),T1.gr⟩
end
theorem for_src {src:Src} {vs:List MV} {tgt:MV→Locs→Option Locs} {body:Locs→zax→SRes} (I:Nat→Locs→zax→Prop) (hsrc:∀ k l h,I k l h→zaH src k h=some vs[k]?)
 (step:∀ k v l h,I k l h→vs[k]? =some v→∃ l1 l2 h2,tgt v l=some l1∧body l1 h= .nxt l2 h2∧I (k + 1) l2 h2) :
 ∀ {m k:Nat} {l:Locs} {h:zax},I k l h→k≤vs.length→vs.length + 1=m + k→∃ l' h',zbQ src tgt body m k l h= .nxt l' h'∧I vs.length l' h'
 | 0,k,l,h,hI,hk,hm=>absurd hk (by lia)
 | m + 1,k,l,h,hI,hk,hm=>by
  have hs:=hsrc k l h hI
  by_cases q:k=vs.length
  · subst q
    exact ⟨l,h,for_end (by rw [hs,List.getElem?_eq_none (Nat.le_refl _)]),hI⟩
  · have hv:vs[k]? =some vs[k]:=List.getElem?_eq_getElem (by lia)
    refine x3_3 (step k _ l h hI hv) fun l1 l2 h2 e1 e2 e3=>?_
    refine x2_2 (for_src I hsrc step e3 (by lia) (m:=m) (by lia)) fun l' h' e4 e5=>?_
    exact ⟨l',h',(zcG (by simp only [hs,hv]) e1 e2).trans e4,e5⟩
noncomputable def newOf (nt:Nat) (v:MV) :Option Locs:=if nt=0 then some [some v] else match v with | .tup vs=>if vs.length=nt then some (vs.map some) else none | _=>none
set_option tactic.hygienic true in
theorem zcN {src:Src} {vs:List MV} {nt:Nat} {cond elt:Locs→zax→Res MV} {l:Locs} (I:Nat→List MV→zax→Prop) (hsrc:∀ k acc h,I k acc h→zaH src k h=some vs[k]?)
 (step:∀ k acc h v,I k acc h→vs[k]? =some v→∃ new cv h1 c,newOf nt v=some new∧cond (l ++ new) h= .ok cv h1∧zbI h1 cv=some c∧(c=false→I (k + 1) acc h1)∧
  (c=true→∃ x h2,elt (l ++ new) h1= .ok x h2∧I (k + 1) (acc ++ [x]) h2)) :
 ∀ {m k:Nat} {acc:List MV} {h:zax},I k acc h→k≤vs.length→vs.length + 1=m + k→∃ acc' h',zaN src nt cond elt l m k acc h= .ok acc' h'∧I vs.length acc' h'
 | 0,k,acc,h,hI,hk,hm=>absurd hk (by lia)
 | m + 1,k,acc,h,hI,hk,hm=>by
  have hs:=hsrc k acc h hI
  unfold zaN
  by_cases q:k=vs.length
  · subst q
    simp only [hs,List.getElem?_eq_none (Nat.le_refl _)]
    exact ⟨acc,h,rfl,hI⟩
  · have hv:vs[k]? =some vs[k]:=List.getElem?_eq_getElem (by lia)
    refine x4_5 (step k acc h _ hI hv) fun new cv h1 c e1 e2 e3 e4 e5=>?_
    simp only [hs,hv]
    split
    · rename_i q1
      exact absurd (q1.symm.trans e1) (by simp)
    · rename_i new' q1
      have q2:some new'=some new:=q1.symm.trans e1
      (refine sy1 (Option.some.inj q2) ?_;clear q2;intro zq;subst zq)
      simp only [e2,e3]
      cases c with
      | false=>exact zcN I hsrc step (e4 rfl) (by lia) (by lia)
      | true=>
       refine x2_2 (e5 rfl) fun x h2 e6 e7=>?_
       simp only [e6]
       exact zcN I hsrc step e7 (by lia) (by lia)
inductive Plain:Nat→MV→Prop
 | int {n:Nat} (i:Int) :Plain n (.int i)
 | none {n:Nat} :Plain n .none
 | tup {n:Nat} {vs:List MV} :(∀ v∈ vs,Plain n v)→Plain (n + 1) (.tup vs)
theorem eqVs_refl {f:MV→MV→Option Bool} :∀ {vs:List MV},(∀ v∈ vs,f v v=some true)→eqVs f vs vs=some true
 | [],_=>rfl
 | v :: vs,h=>by
  unfold eqVs
  rw [h v (.head _),eqVs_refl fun w m=>h w (.tail _ m)]
  rfl
theorem eqV_refl {n:Nat} {v:MV} (p:Plain n v) :eqV n v v=some true:=by
 induction p with
 | @int n i=>cases n <;> exact congrArg some (decide_eq_true rfl)
 | @none n=>cases n <;> rfl
 | tup _ ih=>exact eqVs_refl ih
theorem zbV {n:Nat} {is:List Int} :∀ v∈ is.map MV.int,Plain n v:=fun v m=>by
 refine x1_2 (List.mem_map.mp m) ?_;rintro i _ rfl
 exact .int i
theorem eqH_tup {h:zax} {vs:List MV} (p:Plain 8 (.tup vs)) :eqH h (.tup vs) (.tup vs)=some true:=eqV_refl p
theorem zeV:∀ (is:List Int),zbX (is.map MV.int)=some is
 | []=>rfl
 | i :: is=>by simp only [List.map_cons,zbX,zeV is];rfl
theorem eqH_ints {h:zax} {x y m k:Nat} {is js:List Int} (h1:h[x]? =some (.list (is.map MV.int) m)) (h2:h[y]? =some (.list (js.map MV.int) k)) (hl:is.length=js.length) :eqH h (.ref x) (.ref y)=some (decide (is=js)):=by
 simp only [eqH,eqL,items?,h1,h2,List.length_map,if_pos hl,zeV]
section
variable (n:Nat) {P:Nat→Prop}
theorem n17 (h:zax) (g:MV) :zaB (n + 2) 17 [.ref h.length,g,.int 0] (h ++ [.inst 5 []])= .ok .none (h ++ [skipO g]):=by
 have e0:=zaD h (.inst 5 [])
 have z:∀ x y:MObj,(h ++ [x]).set h.length y=h ++ [y]:=set_new h
 have r:zaB (n + 1) 0 [.int 0,.int 0,.int 5] (h ++ [.inst 5 []])= .ok (.bool true) (h ++ [.inst 5 []]):=c0 n _ (by (with_reducible exact Int.le_refl _)) (by (with_reducible exact by decide))
 have a1:=zaO e0 (.inst 5 [(15,g)])
 have a2:=zaO a1 (.inst 5 [(15,g),(14,.int 0)])
 have:=runD 17 f17 (n + 1) [.ref h.length,g,.int 0] [.ref h.length,g,.int 0,.none] (h ++ [MObj.inst 5 []]) [.r (.ok (.bool true) _),.o (.inst 5 []),.o _,.o _] rfl rfl r e0 a1 a2
 exact this.trans (congrArg (Res.ok MV.none) (by simp only [z];rfl))
theorem n16 (h:zax) {w srt:Int} (hw:dim w) (h1:0≤srt) (h2:srt≤3) :zaB (n + 3) 16 [.ref h.length,.int w,.int srt] (h ++ [.inst 4 []])= .ok .none (h ++ [kernO (.int w) (.int srt)]):=by
 have e0:=zaD h (.inst 4 [])
 have z:∀ x y:MObj,(h ++ [x]).set h.length y=h ++ [y]:=set_new h
 have a1:=zaO e0 (.inst 4 [(0,.int w)])
 have:=run 16 f16 (n + 2) [.ref h.length,.int w,.int srt] (h ++ [MObj.inst 4 []]) [.r (.ok (.bool true) _),.r (.ok (.int w) _),.o (.inst 4 []),.o _] rfl rfl (c0 (n + 1) _ h1 h2) (c3 n _ hw.1 hw.2) e0 a1
 exact this.trans (congrArg (Res.ok MV.none) (by simp only [z];rfl))
theorem n18 (h:zax) {v:Int} (h1:-2147483647≤v) (h2:v≤2147483647) :zaB (n + 3) 18 [.ref h.length,.int v] (h ++ [.inst 6 []])= .ok .none (h ++ [penO (.int v)]):=by
 have e0:=zaD h (.inst 6 [])
 have:=run 18 f18 (n + 2) [.ref h.length,.int v] (h ++ [MObj.inst 6 []]) [.r (.ok (.int v) _),.o (.inst 6 [])] rfl rfl (c2 n _ h1 h2) e0
 exact this.trans (congrArg (Res.ok MV.none) (set_new _ _ _))
noncomputable abbrev dimO (w:Option Int) :Prop:=∀ i,w=some i→dim i
theorem n15 (h:zax) {w a d:Option Int} (hw:dimO w) (ha:dimO a) (hd:dimO d) :zaB (n + 3) 15 [.ref h.length,optV w,optV a,optV d] (h ++ [.inst 3 []])= .ok .none (h ++ [ruleO (optV w) (optV a) (optV d)]):=by
 have e0:=zaD h (.inst 3 [])
 have z:∀ x y:MObj,(h ++ [x]).set h.length y=h ++ [y]:=set_new h
 have a1:=zaO e0 (.inst 3 [(0,optV w)])
 have a2:=zaO a1 (.inst 3 [(0,optV w),(7,optV a)])
 have B:∀ (o:Option Int) (x:Option MV),dimO o→zaC tabs (zay tabs fnsT (n + 2)) b15l0 [some (.ref h.length),some (optV w),some (optV a),some (optV d),some (optV o)] (h ++ [.inst 3 []])= .nxt [some (.ref h.length),some (optV w),some (optV a),some (optV d),some (optV o)] (h ++ [.inst 3 []]):=fun o x ho=>by
  cases o with
  | none=>exact runB (n:=n + 2) (b:=b15l0) (l:=[some (.ref h.length),some (optV w),some (optV a),some (optV d),some .none]) (h:=h ++ [.inst 3 []]) []
  | some i=>exact runB (n:=n + 2) (b:=b15l0) (l:=[some (.ref h.length),some (optV w),some (optV a),some (optV d),some (.int i)]) (h:=h ++ [MObj.inst 3 []]) [.r (.ok (.int i) (h ++ [MObj.inst 3 []]))] (c3 n (h ++ [MObj.inst 3 []]) (ho i rfl).1 (ho i rfl).2)
 have lp:zbQ (.fixed [optV w,optV a,optV d]) (fun v l=>some (l.set 4 (some v))) (zaC tabs (zay tabs fnsT (n + 2)) b15l0) 4 0 [some (.ref h.length),some (optV w),some (optV a),some (optV d),none] (h ++ [.inst 3 []])= .nxt [some (.ref h.length),some (optV w),some (optV a),some (optV d),some (optV d)] (h ++ [.inst 3 []]):=by
  refine (zcG (v:=optV w) rfl rfl (B w none hw)).trans ?_
  refine (zcG (v:=optV a) rfl rfl (B a none ha)).trans ?_
  refine (zcG (v:=optV d) rfl rfl (B d none hd)).trans ?_
  exact for_end rfl
 have:=run 15 f15 (n + 2) [.ref h.length,optV w,optV a,optV d] (h ++ [MObj.inst 3 []]) [.s (.nxt _ _),.o (.inst 3 []),.o _,.o _] rfl rfl lp e0 a1 a2
 exact this.trans (congrArg (Res.ok MV.none) (by simp only [z];rfl))
noncomputable def skipP (sense w a o:Int) :Part:=if sense=1 then .glue w a o 0 0 else .glue w 0 0 a o
theorem c49 (h:zax) {sense w s so sh ho am:Int} (hw:dim w) (ha:dim am) (h1:0≤so) (h2:so≤3) (h3:0≤ho) (h4:ho≤3) :
 ∃ v h',zaB (n + 4) 49 [.tup [.int w,.int s,.int so,.int sh,.int ho],.int sense,.int am] h= .ok v h'∧Gr [] h h'∧RepP P h' v (skipP sense w am (if sense=1 then so else ho)):=by
 unfold skipP
 have d0:dim 0:=by decide
 by_cases q:sense=1
 · rw [if_pos q,if_pos q]
   have e1:zaB (n + 3) 6 [.ref h.length,.int w,.int am,.int so] (h ++ [.inst 0 []])= .ok .none (h ++ [glueO (.int w) (.int am) (.int (nrm am so)) (.int 0) (.int (nrm 0 0))]):=n6 n (h:=h) (sh:=0) (ho:=0) hw ha d0 h1 h2 (by decide) (by decide)
   have e2:=n17 (n + 1) (h ++ [glueO (.int w) (.int am) (.int (nrm am so)) (.int 0) (.int (nrm 0 0))]) (.ref h.length)
   exact ⟨_,_,run 49 f49 (n + 3) [.tup [.int w,.int s,.int so,.int sh,.int ho],.int sense,.int am] h [.b true,.r _,.r _] rfl rfl (dt q) e1 e2,(Gr.app _ _ _).push _,.glue (zaD _ _) (zaJ (zaD _ _)) h1 h2 (by decide) (by decide)⟩
 · rw [if_neg q,if_neg q]
   have e1:=n6 n (h:=h) (w:=w) (s:=0) (so:=0) (sh:=am) (ho:=ho) hw d0 ha (by decide) (by decide) h3 h4
   have e2:=n17 (n + 1) (h ++ [glueO (.int w) (.int 0) (.int (nrm 0 0)) (.int am) (.int (nrm am ho))]) (.ref h.length)
   exact ⟨_,_,run 49 f49 (n + 3) [.tup [.int w,.int s,.int so,.int sh,.int ho],.int sense,.int am] h [.b false,.r _,.r _] rfl rfl (df q) e1 e2,(Gr.app _ _ _).push _,.glue (zaD _ _) (zaJ (zaD _ _)) (by decide) (by decide) h3 h4⟩
end
noncomputable def dsc:Part→List MV
 | .glue w s so sh ho=>[.int 6,.tup [.int w,.int s,.int (nrm s so),.int sh,.int (nrm sh ho)],.int 0,.tup []]
 | .kern w srt=>[.int 5,.int w,.int srt]
 | .pen v=>[.int 7,.int v]
 | .rule w h d=>[.int 4,ro_ w,ro_ h,ro_ d]
 | .box k w h d sf=>[.int k,.int w,.int h,.int d,.int sf,.int 0,.int 0,.tup [.int 0,.int 1],.tup []]
where ro_:Option Int→MV
 | none=> .tup []
 | some i=> .tup [.int i]
theorem dsc_plain (p:Part) :Plain 7 (.tup (dsc p)):=by
 have r:∀ o,Plain 6 (dsc.ro_ o):=fun o=>by
  cases o with
  | none=>exact .tup fun _ m=>nomatch m
  | some i=>exact .tup fun v m=>by simp at m;subst m;exact .int i
 have t:∀ (is:List Int),Plain 6 (.tup (is.map MV.int)):=fun is=> .tup zbV
 refine .tup fun v m=>?_
 cases p with
 | glue w s so sh ho=>
  simp only [dsc,List.mem_cons,List.not_mem_nil,or_false] at m
  rcases m with rfl | rfl | rfl | rfl
  · exact .int _
  · exact t [w,s,nrm s so,sh,nrm sh ho]
  · exact .int _
  · exact t []
 | kern w srt=>
  simp only [dsc,List.mem_cons,List.not_mem_nil,or_false] at m
  rcases m with rfl | rfl | rfl <;> exact .int _
 | pen x=>
  simp only [dsc,List.mem_cons,List.not_mem_nil,or_false] at m
  rcases m with rfl | rfl <;> exact .int _
 | rule w h d=>
  simp only [dsc,List.mem_cons,List.not_mem_nil,or_false] at m
  rcases m with rfl | rfl | rfl | rfl
  · exact .int _
  all_goals exact r _
 | box k w h d sf=>
  simp only [dsc,List.mem_cons,List.not_mem_nil,or_false] at m
  rcases m with rfl | rfl | rfl | rfl | rfl | rfl | rfl | rfl | rfl <;> first | exact .int _ | exact t [0,1] | exact t []
section
variable (n:Nat) {P:Nat→Prop} {h:zax} {v:MV} {p:Part}
theorem c21n {it m:Nat} (hi:h[it]? =some (.list [] m)) (dp:Int) :∃ h',zaB (n + 1) 21 [.ref it,.int dp] h= .ok (.tup []) h'∧Gr [] h h':=by
 have e:zaN (.list it m false) 0 (fun _ h=> .ok (.bool true) h) (zaw tabs (zay tabs fnsT n) b21e0) [some (.ref it),some (.int dp)] 1 0 [] h= .ok [] h:=by
  unfold zaN
  simp only [zaH,itemsV?,hi,if_true]
  rfl
 exact ⟨_,run 21 f21 n [.ref it,.int dp] h [.o (.list [] m),.l (.ok [] h),.o (.list [] 0)] rfl rfl hi e (by decide) (zaD _ _),Gr.app _ _ _⟩
theorem ro_eval (o:Option Int) (a b c d:Option MV) (h:zax) :zaw tabs (zay tabs fnsT n) b20e0 [a,b,c,d,some (optV o)] h= .ok (dsc.ro_ o) h:=by
 cases o with
 | none=>exact runE (n:=n) (e:=b20e0) (l:=[a,b,c,d,some .none]) (h:=h) []
 | some i=>exact runE (n:=n) (e:=b20e0) (l:=[a,b,c,d,some (.int i)]) (h:=h) []
theorem c20 (r:RepP P h v p) :∃ h',zaB (n + 3) 20 [v,.int 0] h= .ok (.tup (dsc p)) h'∧Gr [] h h':=by
 have c:=fun H=>c19 (n + 1) H
 cases r with
 | @glue i j w s so sh ho a b c1 c2 c3 c4=>
  exact ⟨_,run 20 f20 (n + 2) [.ref i,.int 0] h [.r (.ok .none h),.o _,.o _,.o _,.r (.ok (.tup [.int w,.int s,.int (nrm s so),.int sh,.int (nrm sh ho)]) h),.o _,.o _] rfl rfl (c h) a a b (c7 (n + 1) b) a a,Gr.refl _ _⟩
 | @kern i w srt a=>exact ⟨_,run 20 f20 (n + 2) [.ref i,.int 0] h [.r (.ok .none h),.o _,.o _,.o _] rfl rfl (c h) a a a,Gr.refl _ _⟩
 | @pen i x a=>exact ⟨_,run 20 f20 (n + 2) [.ref i,.int 0] h [.r (.ok .none h),.o _,.o _] rfl rfl (c h) a a,Gr.refl _ _⟩
 | @rule i w x y a=>
  have e:zaN (.fixed [optV w,optV x,optV y]) 0 (fun _ h=> .ok (.bool true) h) (zaw tabs (zay tabs fnsT (n + 2)) b20e0) [some (.ref i),some (.int 0),some (.int 4),none] 4 0 [] h= .ok [dsc.ro_ w,dsc.ro_ x,dsc.ro_ y] h:=by
   have q:=fun o=>ro_eval (n + 2) o (some (.ref i)) (some (.int 0)) (some (.int 4)) none h
   refine x2_3 (zcN (src:= .fixed [optV w,optV x,optV y]) (vs:=[optV w,optV x,optV y]) (nt:=0) (cond:=fun _ h=> .ok (.bool true) h) (elt:=zaw tabs (zay tabs fnsT (n + 2)) b20e0) (l:=[some (.ref i),some (.int 0),some (.int 4),none])
    (fun k acc h'=>h'=h∧acc=([w,x,y].take k).map dsc.ro_) (fun k acc h' _=>rfl) (fun k acc h' v zz hv=>by
     refine x0_2 zz ?_;(try clear zz);intro e1 e2
     subst e1 e2
     match k,hv with
     | 0,hv=>cases hv;exact ⟨_,_,_,true,rfl,rfl,rfl,(fun q=>nomatch q),fun _=>⟨_,_,q w,rfl,rfl⟩⟩
     | 1,hv=>cases hv;exact ⟨_,_,_,true,rfl,rfl,rfl,(fun q=>nomatch q),fun _=>⟨_,_,q x,rfl,rfl⟩⟩
     | 2,hv=>cases hv;exact ⟨_,_,_,true,rfl,rfl,rfl,(fun q=>nomatch q),fun _=>⟨_,_,q y,rfl,rfl⟩⟩
     | k + 3,hv=>simp at hv)
    (m:=4) (k:=0) (acc:=[]) (h:=h) ⟨rfl,rfl⟩ (Nat.zero_le _) rfl) ?_;rintro acc h' e rfl rfl
   exact e
  exact ⟨_,run 20 f20 (n + 2) [.ref i,.int 0] h [.r (.ok .none h),.o _,.o _,.o _,.o _,.l (.ok [dsc.ro_ w,dsc.ro_ x,dsc.ro_ y] h),.o (.list [dsc.ro_ w,dsc.ro_ x,dsc.ro_ y] 0)] rfl rfl (c h) a a a a e (show 3≤4096 by decide) (zaD _ _),Gr.app _ _ _⟩
 | @box i j m k w x y sf a b c' d=>
  refine x1_2 (c21n (n + 1) b 1) fun h' e g=>?_
  rcases d with rfl | rfl
  · exact ⟨h',run 20 f20 (n + 2) [.ref i,.int 0] h [.r (.ok .none h),.o _,.o _,.o _,.o _,.o _,.o _,.o _,.o _,.o _,.r (.ok (.tup []) h')] rfl rfl (c h) a a a a a a a a a e,g⟩
  · exact ⟨h',run 20 f20 (n + 2) [.ref i,.int 0] h [.r (.ok .none h),.o _,.o _,.o _,.o _,.o _,.o _,.o _,.o _,.o _,.r (.ok (.tup []) h')] rfl rfl (c h) a a a a a a a a a e,g⟩
theorem c21 {a ver:Nat} {vs:List MV} {ps:List Part} (ha:h[a]? =some (.list vs ver)) (r:zaK P h vs ps) (hlen:vs.length≤4000) :∃ h',zaB (n + 4) 21 [.ref a] h= .ok (.tup (ps.map fun p=> .tup (dsc p))) h'∧Gr [] h h':=by
 refine x2_3 (zcN (src:= .list a ver false) (vs:=vs) (nt:=0) (cond:=fun _ h=> .ok (.bool true) h) (elt:=zaw tabs (zay tabs fnsT (n + 3)) b21e0) (l:=[some (.ref a),some (.int 0)])
  (fun k acc h'=>Gr [] h h'∧acc=(ps.take k).map fun p=> .tup (dsc p)) (fun k acc h' zz=>by
   refine x0_2 zz ?_;intro g _
   simp only [zaH,itemsV?,g.lst ha (fun m=>nomatch m),if_true];cases vs[k]? <;> rfl) (fun k acc h' v zz hv=>by
   refine x0_2 zz ?_;(try clear zz);intro g e2
   subst e2
   refine x1_2 (r.get hv) fun p hp rp=>?_
   refine x1_2 (c20 n (rp.gr g (fun _ _ m=>nomatch m))) fun h2 e2 g2=>?_
   refine ⟨[some v],_,_,true,rfl,rfl,rfl,(fun q=>nomatch q),fun _=>⟨_,h2,runE (n:=n + 3) (e:=b21e0) (l:=[some (.ref a),some (.int 0),some v]) (h:=h') [.r (.ok (.tup (dsc p)) h2)] e2,g.trans g2,?_⟩⟩
   simp only [List.take_add_one,hp,List.map_append]
   rfl)
  (m:=vs.length + 1) (k:=0) (acc:=[]) (h:=h) ⟨Gr.refl _ _,rfl⟩ (Nat.zero_le _) rfl) ?_;rintro acc h' e g rfl
 have hl:=r.len
 simp only [List.take_of_length_le (by (with_reducible exact Nat.le_of_eq (Eq.symm (by assumption))))] at e
 exact ⟨_,runD 21 f21 (n + 3) [.ref a] [.ref a,.int 0] h [.o (.list vs ver),.l (.ok (ps.map fun p=> .tup (dsc p)) h'),.o (.list (ps.map fun p=> .tup (dsc p)) 0)] rfl rfl ha e (by rw [List.length_map];lia) (zaD _ _),g.push _⟩
end
noncomputable def natU (u:Bool) (ps:List Part) (most:Int) :Int:=if u then natV ps most else natL ps
noncomputable def gU (u:Bool) (ps:List Part) (most size:Int) :Setg:=setG (sumS ps) (sumZ ps) (size - natU u ps most)
noncomputable def wU (u:Bool) (ps:List Part) (size:Int) :Int:=if u then (colL ps).2.1 else size
noncomputable def hU (u:Bool) (ps:List Part) (size:Int) :Int:=if u then size else hgtL ps
noncomputable def dU (u:Bool) (ps:List Part) (most:Int) :Int:=if u then depV ps most else depL ps
structure Fit (ps:List Part) (most:Int) :Prop where
 mo:dim most
 h:dim (hgtL ps)
 d:dim (depL ps)
 w:dim (colL ps).2.1
 v:dim (depV ps most)
 s:bnd (sumS ps)
 z:bnd (sumZ ps)
noncomputable abbrev zaF (mode am most:Int) :MV:= .tup [.int mode,.int am,.int most]
section
variable (n:Nat) {P:Nat→Prop} {h:zax} {a ver:Nat} {vs:List MV} {ps:List Part} {u:Bool} {mode am most:Int}
theorem c47 (ha:h[a]? =some (.list vs ver)) (r:zaK P h vs ps) (hlen:vs.length≤4000) (hm:mode=0∨mode=1) (F:Fit ps most) (d1:dim am) (d2:dim (zaL (natU u ps most) mode am)) :
 ∃ b it h',zaB (n + 7) 47 [.ref a,.bool u,zaF mode am most] h= .ok (.tup [.ref b,rp0 vs (gU u ps most (zaL (natU u ps most) mode am))]) h'∧Gr [] h h'∧
  h'[b]? =some (setO (.int (kd u)) (.int (wU u ps (zaL (natU u ps most) mode am))) (.int (hU u ps (zaL (natU u ps most) mode am))) (.int (dU u ps most)) it (.int 0) (gU u ps most (zaL (natU u ps most) mode am)))∧h'[it]? =some (.list vs 0):=by
 have g0:Gr [] h (h ++ [.list vs 0]):=Gr.app _ _ _
 have r0:zaK P (h ++ [.list vs 0]) vs ps:=r.imp fun _ _ x=>x.gr g0 (fun _ _ m=>nomatch m)
 cases u with
 | false=>
  refine x2_4 (c39 n (zaD h (.list vs 0)) r0 hm d1 d2 F.h F.d F.s F.z) fun b h' e g hb hi=>?_
  exact ⟨b,_,h',run 47 f47 (n + 6) [.ref a,.bool false,zaF mode am most] h [.b false,.o (.list vs ver),.r _] rfl rfl rfl ha (by lia) e,g0.trans g,hb,hi⟩
 | true=>
  refine x2_4 (c40 n (zaD h (.list vs 0)) r0 hm F.mo d1 d2 F.w F.v F.s F.z) fun b h' e g hb hi=>?_
  exact ⟨b,_,h',run 47 f47 (n + 6) [.ref a,.bool true,zaF mode am most] h [.b true,.o (.list vs ver),.r _] rfl rfl rfl ha (by lia) e,g0.trans g,hb,hi⟩
theorem c47x (ha:h[a]? =some (.list vs ver)) (r:zaK P h vs ps) (hlen:vs.length≤4000) (hm:mode=0∨mode=1) (F:Fit ps most) (hx:¬(dim am∧dim (zaL (natU u ps most) mode am))) :
 ∃ h',zaB (n + 7) 47 [.ref a,.bool u,zaF mode am most] h= .ok .none h'∧Gr [] h h':=by
 have g0:Gr [] h (h ++ [.list vs 0]):=Gr.app _ _ _
 have r0:zaK P (h ++ [.list vs 0]) vs ps:=r.imp fun _ _ x=>x.gr g0 (fun _ _ m=>nomatch m)
 cases u with
 | false=>
  refine x1_2 (c39x n (zaD h (.list vs 0)) r0 hm hx) fun h' e g=>?_
  exact ⟨h',run 47 f47 (n + 6) [.ref a,.bool false,zaF mode am most] h [.b false,.o (.list vs ver),.r _] rfl rfl rfl ha (by lia) e,g0.trans g⟩
 | true=>
  refine x1_2 (c40x n (zaD h (.list vs 0)) r0 hm F.mo F.w hx) fun h' e g=>?_
  exact ⟨h',run 47 f47 (n + 6) [.ref a,.bool true,zaF mode am most] h [.b true,.o (.list vs ver),.r _] rfl rfl rfl ha (by lia) e,g0.trans g⟩
noncomputable abbrev toldM (k w h d:Int) (g:Setg) (rp:MV) :List MV:=[.int k,.int w,.int h,.int d,.int 0,.int g.sg,.int g.od,.tup [.int g.r0,.int g.r1],rp]
theorem c48 {b it:Nat} {k w hh d:Int} {g:Setg} {rp:MV} (hb:h[b]? =some (setO (.int k) (.int w) (.int hh) (.int d) it (.int 0) g)) :zaB (n + 1) 48 [.tup [.ref b,rp]] h= .ok (.tup (toldM k w hh d g rp)) h:=
 run 48 f48 n [.tup [.ref b,rp]] h [.o _,.o _,.o _,.o _,.o _,.o _,.o _,.o _] rfl rfl hb hb hb hb hb hb hb hb
theorem rp0_plain (vs:List MV) (g:Setg) :Plain 7 (rp0 vs g):=by
 have t:∀ (is:List Int),Plain 7 (.tup (is.map MV.int)):=fun is=> .tup zbV
 unfold rp0;split
 · exact t [0,0]
 · exact t [g.q0,g.q1]
theorem told_plain {k w h d:Int} {g:Setg} {rp:MV} (hr:Plain 7 rp) :Plain 8 (.tup (toldM k w h d g rp)):= .tup fun v m=>by
 have t:∀ (is:List Int),Plain 7 (.tup (is.map MV.int)):=fun is=> .tup zbV
 simp only [List.mem_cons,List.not_mem_nil,or_false] at m
 rcases m with rfl | rfl | rfl | rfl | rfl | rfl | rfl | rfl | rfl <;> first | exact .int _ | exact t [g.r0,g.r1] | exact hr
structure QOK (g:Setg) :Prop where
 r0:g.r0.natAbs < 18446744073709551616
 p:0 < g.r1
 r1:g.r1 < 4611686018427387904
theorem c50 (ha:h[a]? =some (.list vs ver)) (r:zaK P h vs ps) (hlen:vs.length < 4000) (hm:mode=0∨mode=1) (F:Fit ps most) (d1:dim am) (d2:dim (zaL (natU u ps most) mode am)) (q:QOK (gU u ps most (zaL (natU u ps most) mode am)))
 {told:MV} (ht:told= .tup (toldM (kd u) (wU u ps (zaL (natU u ps most) mode am)) (hU u ps (zaL (natU u ps most) mode am)) (dU u ps most) (gU u ps most (zaL (natU u ps most) mode am)) (rp0 vs (gU u ps most (zaL (natU u ps most) mode am)))))
 {bg m:Nat} (hbg:h[bg]? =some (.list ((plL u (gU u ps most (zaL (natU u ps most) mode am)) ps).2.2.map MV.int) m)) :
 ∃ h',zaB (n + 8) 50 [.ref a,.bool u,zaF mode am most,told,.ref bg] h= .ok (.bool true) h'∧Gr [] h h':=by
 subst ht
 refine x3_4 (c47 n ha r (by (with_reducible exact Nat.le_of_lt (by assumption))) hm F d1 d2) fun b it h1 e1 g1 hb hi=>?_
 have r1:zaK P h1 vs ps:=r.imp fun _ _ x=>x.gr g1 (fun _ _ m=>nomatch m)
 refine x2_3 (c36 (n + 3) hb hi r1 hlen q.r0 q.p q.r1) fun h2 m2 e2 g2 hp=>?_
 exact ⟨h2,run 50 f50 (n + 7) [.ref a,.bool u,zaF mode am most,_,.ref bg] h [.r _,.b true,.r _,.b true,.b true,.r (.ok (.ref h1.length) h2),.b true] rfl rfl e1 rfl (c48 (n + 6) hb) (eqH_tup (told_plain (rp0_plain _ _))) rfl e2
  ((eqH_ints hp ((g1.trans g2).lst hbg (fun m=>nomatch m)) rfl).trans (congrArg some (dt rfl))),g1.trans g2⟩
end
noncomputable abbrev small (x:Int) :Prop:=-4000000≤x∧x≤4000000
theorem small.dim {x:Int} (h:small x) :dim x:=⟨by show (-1073741823:Int)≤x;lia,by show x≤(1073741823:Int);lia⟩
noncomputable def Rng (h:zax) (bx:Nat) :Prop:=∃ x y v,h[bx]? =some (.list [.int x,.int y] v)∧0≤x∧0≤y∧y < 2147483647
structure RG (bx:Nat) (h h':zax) :Prop where
 gr:Gr [bx] h h'
 rng:Rng h' bx
theorem RG.trans {bx:Nat} {h h' h'':zax} (a:RG bx h h') (b:RG bx h' h'') :RG bx h h'':=⟨a.gr.trans b.gr,b.rng⟩
theorem Rng.refl {bx:Nat} {h:zax} (r:Rng h bx) :RG bx h h:=⟨Gr.refl _ _,r⟩
theorem RG.app {bx:Nat} {h h':zax} (a:RG bx h h') (e:zax) :RG bx h (h' ++ e):=⟨a.gr.push e,by
 refine x3_2 a.rng fun x y v h1 h2=>?_
 exact ⟨x,y,v,zaJ h1,h2⟩⟩
theorem RG.grow {bx:Nat} {h h' h'':zax} (a:RG bx h h') (g:Gr [] h' h'') :RG bx h h'':=⟨a.gr.trans g.nil,by
 refine x3_2 a.rng fun x y v h1 h2=>?_
 exact ⟨x,y,v,g.lst h1 (fun m=>nomatch m),h2⟩⟩
theorem RG.lst {bx:Nat} {h h':zax} (a:RG bx h h') {i:Nat} {vs:List MV} {n:Nat} (e:h[i]? =some (.list vs n)) (k:i≠bx) :h'[i]? =some (.list vs n):=a.gr.lst e (by simpa using k)
theorem RG.ne {bx:Nat} {h h':zax} (r:Rng h bx) (l:h.length≤h'.length) :h'.length≠bx:=by
 refine x3_2 r ?_;intro x y v h1 _
 have:=zeH h1
 lia
section
variable (n:Nat) {h:zax} {bx:Nat}
theorem list2_0 {x y:MV} {v:Nat} (e:h[bx]? =some (.list [x,y] v)) :zaG h (.ref bx) 0=some x:=by simp only [zaG,items?,e];rfl
theorem list2_1 {x y:MV} {v:Nat} (e:h[bx]? =some (.list [x,y] v)) :zaG h (.ref bx) 1=some y:=by simp only [zaG,items?,e];rfl
inductive I42 (n bx:Nat) (many:Int) (h:zax) :Prop
 | mk (d:Int) (h':zax) (e:zaB (n + 1) 42 [.ref bx,.int many] h= .ok (.int d) h') (a:0≤d) (b:d < many) (g:RG bx h h') :I42 n bx many h
theorem x42 {n bx:Nat} {many:Int} {h:zax} {Z:Prop} (k:I42 n bx many h) (q:∀ d h',zaB (n + 1) 42 [.ref bx,.int many] h= .ok (.int d) h'→0≤d→d < many→RG bx h h'→Z) :Z:=k.casesOn q
theorem c42 (r:Rng h bx) {many:Int} (h1:0 < many) (h2:many < 2147483648) :I42 n bx many h:=by
 refine x3_4 r ?_;intro x y v e hx hy hy'
 have hm:0 < many∧many < 18446744073709551616:=⟨h1,by lia⟩
 by_cases q:0 < x
 · refine ⟨x % many,_,run 42 f42 n [.ref bx,.int many] h [.i (.int x),.b true,.i (.int x),.i (.int x),.o (.list [.int x,.int y] v)] rfl rfl (list2_0 e) (dt q) (list2_0 e) hm (list2_0 e) hm e ⟨by decide,show 0 < 2 by decide⟩,Int.emod_nonneg _ (by (with_reducible exact Int.ne_of_gt (by assumption))),Int.emod_lt_of_pos _ h1,Gr.set _ e (.head _) _,x / many,y,v + 1,zaO e _,Int.ediv_nonneg hx (by (with_reducible exact Int.le_of_lt (by assumption))),hy,hy'⟩
 · have z1:0≤(y * 48271 + 11) % 2147483647:=Int.emod_nonneg _ (by decide)
   have z2:(y * 48271 + 11) % 2147483647 < 2147483647:=Int.emod_lt_of_pos _ (by decide)
   have e':=zaO e (.list [.int x,.int ((y * 48271 + 11) % 2147483647)] (v + 1))
   exact ⟨(y * 48271 + 11) % 2147483647 / 16 % many,_,run 42 f42 n [.ref bx,.int many] h [.i (.int x),.b false,.i (.int y),.o (.list [.int x,.int y] v),.i (.int ((y * 48271 + 11) % 2147483647))] rfl rfl (list2_0 e) (df q) (list2_1 e) (.inr (by decide)) (by decide) e ⟨by decide,show 1 < 2 by decide⟩ (list2_1 e') (by decide) hm,Int.emod_nonneg _ (by (with_reducible exact Int.ne_of_gt (by assumption))),Int.emod_lt_of_pos _ h1,Gr.set _ e (.head _) _,x,_,v + 1,e',hx,z1,z2⟩
inductive I43 (n bx:Nat) (h:zax) :Prop
 | mk (s:Int) (h':zax) (e:zaB (n + 2) 43 [.ref bx] h= .ok (.int s) h') (a:small s) (g:RG bx h h') :I43 n bx h
theorem x43 {n bx:Nat} {h:zax} {Z:Prop} (k:I43 n bx h) (q:∀ s h',zaB (n + 2) 43 [.ref bx] h= .ok (.int s) h'→small s→RG bx h h'→Z) :Z:=k.casesOn q
theorem c43 (r:Rng h bx) :I43 n bx h:=by
 refine x42 (c42 n r (many:=8) (by decide) (by decide)) fun d h1 e1 a1 b1 g1=>?_
 by_cases q0:d=0
 · exact ⟨0,h1,run 43 f43 (n + 1) [.ref bx] h [.r _,.b true] rfl rfl e1 (dt q0),by decide,g1⟩
 · by_cases q1:d=1
   · refine x42 (c42 n g1.rng (many:=12) (by decide) (by decide)) fun c h2 e2 a2 b2 g2=>?_
     exact ⟨-1 - c,h2,run 43 f43 (n + 1) [.ref bx] h [.r _,.b false,.b true,.r _] rfl rfl e1 (df q0) (dt q1) e2,by constructor <;> lia,g1.trans g2⟩
   · by_cases q2:d < 7
     · refine x42 (c42 n g1.rng (many:=40) (by decide) (by decide)) fun c h2 e2 a2 b2 g2=>?_
       exact ⟨1 + c,h2,run 43 f43 (n + 1) [.ref bx] h [.r _,.b false,.b false,.b true,.r _] rfl rfl e1 (df q0) (df q1) (dt q2) e2,by constructor <;> lia,g1.trans g2⟩
     · refine x42 (c42 n g1.rng (many:=60) (by decide) (by decide)) fun c h2 e2 a2 b2 g2=>?_
       refine x42 (c42 n g2.rng (many:=9) (by decide) (by decide)) fun c' h3 e3 a3 b3 g3=>?_
       exact ⟨65536 * c + c',h3,run 43 f43 (n + 1) [.ref bx] h [.r _,.b false,.b false,.b false,.r (.ok (.int c) h2),.r _] rfl rfl e1 (df q0) (df q1) (df q2) e2 (.inl (by decide)) e3,by constructor <;> lia,(g1.trans g2).trans g3⟩
noncomputable def zaz:Part→MV
 | .glue w s so sh ho=> .tup [.int w,.int s,.int so,.int sh,.int ho]
 | _=> .tup []
noncomputable abbrev smallO (o:Option Int) :Prop:=∀ i,o=some i→small i
noncomputable def POK:Part→Prop
 | .glue w s so sh ho=>small w∧small s∧small sh∧0≤so∧so≤3∧0≤ho∧ho≤3
 | .kern w srt=>small w∧0≤srt∧srt≤3
 | .pen v=>0≤v∧v≤98
 | .rule w h d=>smallO w∧smallO h∧smallO d
 | .box k w h d sf=>(k=2∨k=3)∧small w∧small h∧small d∧small sf
noncomputable abbrev amounts:List MV:=[.int 0,.int 1,.int 2,.int 5,.int 12,.int (-1),.int 65536,.int 1966080]
theorem amounts_at {a m:Nat} (e:h[a]? =some (.list amounts m)) {d:Int} (h1:0≤d) (h2:d < 8) :∃ x,zaG h (.ref a) d=some (.int x)∧small x:=by
 simp only [zaG,items?,e]
 have:d=0∨d=1∨d=2∨d=3∨d=4∨d=5∨d=6∨d=7:=int_fin 8 (P:=fun d=>d=0∨d=1∨d=2∨d=3∨d=4∨d=5∨d=6∨d=7) (by decide) h1 h2
 rcases this with rfl | rfl | rfl | rfl | rfl | rfl | rfl | rfl <;> exact ⟨_,rfl,by decide⟩
theorem last_at {a m:Nat} {vs:List MV} {v:MV} (e:h[a]? =some (.list (vs ++ [v]) m)) :zaG h (.ref a) (-1)=some v:=by
 simp only [zaG,items?,e,Option.bind_eq_bind,Option.bind_some,zeR]
 rw [if_neg (by decide),if_pos (by simp),Option.bind_some,List.length_append,List.length_singleton]
 show (vs ++ [v])[vs.length + 1 - 1]? =some v
 simp
inductive I44 (n bx:Nat) (orders:Int) (oa:Nat) (h:zax) :Prop
 | mk (w s so sh ho:Int) (h':zax) (e:zaB (n + 3) 44 [.ref bx,.int orders,.ref oa] h= .ok (.tup [.int w,.int s,.int so,.int sh,.int ho]) h') (k:POK (.glue w s so sh ho)) (g:RG bx h h') :I44 n bx orders oa h
theorem x44 {n bx:Nat} {orders:Int} {oa:Nat} {h:zax} {Z:Prop} (k:I44 n bx orders oa h) (q:∀ w s so sh ho h',zaB (n + 3) 44 [.ref bx,.int orders,.ref oa] h= .ok (.tup [.int w,.int s,.int so,.int sh,.int ho]) h'→POK (.glue w s so sh ho)→RG bx h h'→Z) :Z:=k.casesOn q
inductive F44 (n bx:Nat) (orders:Int) (h h1:zax) :Prop
 | mk (w s so sh ho:Int) (h':zax) (k:POK (.glue w s so sh ho)) (g:RG bx h h') (h2 h3 h4 h5:zax) (d1 d2:Int) (e2:zaB (n + 2) 43 [.ref bx] (h1 ++ [.list amounts 0])= .ok (.int w) h2) (e3:zaB (n + 2) 42 [.ref bx,.int 8] h2= .ok (.int d1) h3) (i3:zaG h3 (.ref h1.length) d1=some (.int s))
  (e4:zaB (n + 2) 42 [.ref bx,.int orders] h3= .ok (.int so) h4) (e5:zaB (n + 2) 42 [.ref bx,.int 8] h4= .ok (.int d2) h5) (i5:zaG h5 (.ref h1.length) d2=some (.int sh)) (e6:zaB (n + 2) 42 [.ref bx,.int orders] h5= .ok (.int ho) h') :F44 n bx orders h h1
theorem c44 (r:Rng h bx) {orders:Int} (ho:1≤orders∧orders≤4) {oa m:Nat} {gs:List Part} (e:h[oa]? =some (.list (gs.map zaz) m)) (ne:oa≠bx) (hg:∀ p∈ gs,POK p∧∃ w s so sh ho,p= .glue w s so sh ho) :
 I44 n bx orders oa h:=by
 have r0:=r.refl.app [.list [] 0]
 have e0:(h ++ [.list [] 0])[oa]? =some (.list (gs.map zaz) m):=zaJ e
 have en:=eq_nil e0 (zaD h (.list [] 0))
 have fresh:∀ h1,RG bx h h1→F44 n bx orders h h1:=fun h1 g1=>by
  have g1':=g1.app [.list amounts 0]
  have nb:=RG.ne r g1.gr.len
  refine x43 (c43 n g1'.rng) fun w h2 e2 s2 g2=>?_
  refine x42 (c42 (n + 1) g2.rng (many:=8) (by decide) (by decide)) fun d1 h3 e3 a3 b3 g3=>?_
  have x3:=g3.lst (g2.lst (zaD h1 (.list amounts 0)) nb) nb
  refine x1_2 (amounts_at x3 a3 b3) fun s i3 s3=>?_
  refine x42 (c42 (n + 1) g3.rng (many:=orders) (by lia) (by lia)) fun so h4 e4 a4 b4 g4=>?_
  refine x42 (c42 (n + 1) g4.rng (many:=8) (by decide) (by decide)) fun d2 h5 e5 a5 b5 g5=>?_
  refine x1_2 (amounts_at (g5.lst (g4.lst x3 nb) nb) a5 b5) fun sh i5 s5=>?_
  refine x42 (c42 (n + 1) g5.rng (many:=orders) (by lia) (by lia)) fun ho' h6 e6 a6 b6 g6=>?_
  exact ⟨w,s,so,sh,ho',h6,⟨s2,s3,s5,a4,by lia,a6,by lia⟩,((((g1'.trans g2).trans g3).trans g4).trans g5).trans g6,h2,h3,h4,h5,d1,d2,e2,e3,i3,e4,e5,i5,e6⟩
 by_cases q:gs= []
 · obtain ⟨w,s,so,sh,ho,h',ok,g,h2,h3,h4,h5,d1,d2,e2,e3,i3,e4,e5,i5,e6⟩:=fresh _ r0
   have q':gs.map zaz= []:=by rw [q];rfl
   exact ⟨w,s,so,sh,ho,h',run 44 f44 (n + 2) [.ref bx,.int orders,.ref oa] h [.b true,.r _,.r (.ok (.int d1) h3),.i (.int s),.r (.ok (.int so) h4),.r (.ok (.int d2) h5),.i (.int sh),.r _] rfl rfl (en.trans (congrArg some (dt q'))) e2 e3 i3 e4 e5 i5 e6,ok,g⟩
 · have q':¬ gs.map zaz= []:=by simpa using q
   refine x42 (c42 (n + 1) r0.rng (many:=3) (by decide) (by decide)) fun d h1 e1 a1 b1 g1=>?_
   by_cases qd:d=0
   · obtain ⟨gs',p,rfl⟩ :∃ gs' p,gs=gs' ++ [p]:=⟨gs.dropLast,gs.getLast q,(List.dropLast_concat_getLast q).symm⟩
     obtain ⟨ok,w0,s,so,sh,ho',rfl⟩:=hg p (by simp)
     have el:=g1.lst e0 ne
     rw [List.map_append] at el
     refine x43 (c43 n g1.rng) fun w h2 e2 s2 g2=>?_
     refine x0_7 ok ?_;intro k1 k2 k3 k4 k5 k6 k7
     exact ⟨w,-s,so,-sh,ho',h2,run 44 f44 (n + 2) [.ref bx,.int orders,.ref oa] h [.b false,.r _,.b true,.i (.tup [.int w0,.int s,.int so,.int sh,.int ho']),.r _] rfl rfl (en.trans (congrArg some (df q'))) e1 (dt qd) (last_at el) e2,⟨s2,by constructor <;> lia,by constructor <;> lia,k4,k5,k6,k7⟩,(r0.trans g1).trans g2⟩
   · obtain ⟨w,s,so,sh,ho,h',ok,g,h2,h3,h4,h5,d1,d2,e2,e3,i3,e4,e5,i5,e6⟩:=fresh _ (r0.trans g1)
     exact ⟨w,s,so,sh,ho,h',run 44 f44 (n + 2) [.ref bx,.int orders,.ref oa] h [.b false,.r _,.b false,.r (.ok (.int w) h2),.r (.ok (.int d1) h3),.i (.int s),.r (.ok (.int so) h4),.r (.ok (.int d2) h5),.i (.int sh),.r _] rfl rfl (en.trans (congrArg some (df q'))) e1 (df qd) e2 e3 i3 e4 e5 i5 e6,ok,g⟩
theorem c46 (r:Rng h bx) {mode own less:Int} (hm:mode=0∨mode=1) (ho:-100000000≤own∧own≤100000000) (hl:-100000000≤less∧less≤100000000) :
    ∃ am h',zaB (n + 2) 46 [.ref bx,.int mode,.int own,.int less] h= .ok (.int am) h'∧(-2147483648≤am∧am≤2147483648)∧RG bx h h':=by
  refine x42 (c42 n r (many:=9) (by decide) (by decide)) fun d h1 e1 a1 b1 g1=>?_
  have fin:∀ gap,(-1000000000≤gap∧gap≤1000000000)→(-2147483648≤(if mode=1 then gap else own + gap)∧(if mode=1 then gap else own + gap)≤2147483648):=fun gap q=>by split <;> lia
  by_cases q0:d=8
  · refine x42 (c42 n g1.rng (many:=2) (by decide) (by decide)) fun c h2 e2 a2 b2 g2=>?_
    refine x42 (c42 n g2.rng (many:=64) (by decide) (by decide)) fun c' h3 e3 a3 b3 g3=>?_
    have hc:c=0∨c=1:=by lia
    refine ⟨(1 - 2 * c) * (2 ^ (30:Int).toNat - 40 + c'),h3,run 46 f46 (n + 1) [.ref bx,.int mode,.int own,.int less] h [.r _,.b true,.r _,.r (.ok (.int c') h3)] rfl rfl e1 (dt q0) e2 (.inl (by decide)) ⟨by decide,by decide,by decide,by decide⟩ e3 (.inl (by lia)),?_,(g1.trans g2).trans g3⟩
    have:(2:Int) ^ (30:Int).toNat=1073741824:=by decide
    rw [this]
    rcases hc with rfl | rfl <;> lia
  · have last : ∀ gap H (g : RG bx h H) (pre : List Ans), (-1000000000 ≤ gap ∧ gap ≤ 1000000000) → (∀ b, decide (mode = 1) = b → zaB (n + 2) 46 [.ref bx, .int mode, .int own, .int less] h = .ok (.int (cond b gap (own + gap))) H) →
        ∃ am h', zaB (n + 2) 46 [.ref bx, .int mode, .int own, .int less] h = .ok (.int am) h' ∧ (-2147483648 ≤ am ∧ am ≤ 2147483648) ∧ RG bx h h' := fun gap H g pre hq k => by
      refine ⟨_,H,k _ rfl,?_,g⟩
      have:=fin gap hq
      by_cases q:mode=1
      · rw [dt q];rw [if_pos q] at this;exact this
      · rw [df q];rw [if_neg q] at this;exact this
    by_cases q1:d < 3
    · refine x42 (c42 n g1.rng (many:=60) (by decide) (by decide)) fun c h2 e2 a2 b2 g2=>?_
      refine last (1 + c) h2 (g1.trans g2) [] (by lia) fun b hb=>?_
      cases b
      · exact run 46 f46 (n + 1) [.ref bx,.int mode,.int own,.int less] h [.r _,.b false,.b true,.r _,.b false] rfl rfl e1 (df q0) (dt q1) e2 hb
      · exact run 46 f46 (n + 1) [.ref bx,.int mode,.int own,.int less] h [.r _,.b false,.b true,.r _,.b true] rfl rfl e1 (df q0) (dt q1) e2 hb
    · by_cases q2:d < 5
      · refine x42 (c42 n g1.rng (many:=30) (by decide) (by decide)) fun c h2 e2 a2 b2 g2=>?_
        refine last (-1 - c) h2 (g1.trans g2) [] (by lia) fun b hb=>?_
        cases b
        · exact run 46 f46 (n + 1) [.ref bx,.int mode,.int own,.int less] h [.r _,.b false,.b false,.b true,.r _,.b false] rfl rfl e1 (df q0) (df q1) (dt q2) e2 hb
        · exact run 46 f46 (n + 1) [.ref bx,.int mode,.int own,.int less] h [.r _,.b false,.b false,.b true,.r _,.b true] rfl rfl e1 (df q0) (df q1) (dt q2) e2 hb
      · by_cases q3:d=5
        · refine x42 (c42 n g1.rng (many:=3) (by decide) (by decide)) fun c h2 e2 a2 b2 g2=>?_
          refine last (-less - c) h2 (g1.trans g2) [] (by lia) fun b hb=>?_
          cases b
          · exact run 46 f46 (n + 1) [.ref bx,.int mode,.int own,.int less] h [.r _,.b false,.b false,.b false,.b true,.r _,.b false] rfl rfl e1 (df q0) (df q1) (df q2) (dt q3) e2 hb
          · exact run 46 f46 (n + 1) [.ref bx,.int mode,.int own,.int less] h [.r _,.b false,.b false,.b false,.b true,.r _,.b true] rfl rfl e1 (df q0) (df q1) (df q2) (dt q3) e2 hb
        · by_cases q4:d=6
          · refine x42 (c42 n g1.rng (many:=200) (by decide) (by decide)) fun c h2 e2 a2 b2 g2=>?_
            refine last (65536 * (c - 60)) h2 (g1.trans g2) [] (by lia) fun b hb=>?_
            cases b
            · exact run 46 f46 (n + 1) [.ref bx,.int mode,.int own,.int less] h [.r _,.b false,.b false,.b false,.b false,.b true,.r _,.b false] rfl rfl e1 (df q0) (df q1) (df q2) (df q3) (dt q4) e2 (.inl (by decide)) hb
            · exact run 46 f46 (n + 1) [.ref bx,.int mode,.int own,.int less] h [.r _,.b false,.b false,.b false,.b false,.b true,.r _,.b true] rfl rfl e1 (df q0) (df q1) (df q2) (df q3) (dt q4) e2 (.inl (by decide)) hb
          · refine last 0 h1 g1 [] (by (with_reducible exact by decide)) fun b hb=>?_
            cases b
            · exact run 46 f46 (n + 1) [.ref bx,.int mode,.int own,.int less] h [.r _,.b false,.b false,.b false,.b false,.b false,.b false] rfl rfl e1 (df q0) (df q1) (df q2) (df q3) (df q4) hb
            · exact run 46 f46 (n + 1) [.ref bx,.int mode,.int own,.int less] h [.r _,.b false,.b false,.b false,.b false,.b false,.b true] rfl rfl e1 (df q0) (df q1) (df q2) (df q3) (df q4) hb
end
set_option tactic.hygienic true in
theorem zeF {src:Src} {nt:Nat} {cond elt:Locs→zax→Res MV} {l new:Locs} {m k:Nat} {acc:List MV} {h h2:zax} {v x:MV} (h1:zaH src k h=some (some v)) (h3:newOf nt v=some new) (h4:cond (l ++ new) h= .ok (.bool true) h) (h5:elt (l ++ new) h= .ok x h2) :
 zaN src nt cond elt l (m + 1) k acc h=zaN src nt cond elt l m (k + 1) (acc ++ [x]) h2:=by
 conv=>lhs;unfold zaN
 simp only [h1]
 split
 · rename_i q
   exact absurd (q.symm.trans h3) (by simp)
 · rename_i new' q
   have q2:some new'=some new:=q.symm.trans h3
   (refine sy1 (Option.some.inj q2) ?_;clear q2;intro zq;subst zq)
   simp only [h4,h5,zbI]
theorem comp_end {src:Src} {nt:Nat} {cond elt:Locs→zax→Res MV} {l:Locs} {m k:Nat} {acc:List MV} {h:zax} (h1:zaH src k h=some none) :zaN src nt cond elt l (m + 1) k acc h= .ok acc h:=by
 unfold zaN
 simp only [h1]
noncomputable abbrev yes:Locs→zax→Res MV:=fun _ h=> .ok (.bool true) h
theorem comp3 {elt:Locs→zax→Res MV} {l:Locs} {h h1 h2 h3:zax} {v0 v1 v2 x0 x1 x2:MV} (e0:elt (l ++ [some v0]) h= .ok x0 h1) (e1:elt (l ++ [some v1]) h1= .ok x1 h2) (e2:elt (l ++ [some v2]) h2= .ok x2 h3) :
 zaN (.fixed [v0,v1,v2]) 0 yes elt l 4 0 [] h= .ok [x0,x1,x2] h3:=
 (zeF (new:=[some v0]) rfl rfl rfl e0).trans ((zeF (new:=[some v1]) rfl rfl rfl e1).trans ((zeF (new:=[some v2]) rfl rfl rfl e2).trans (comp_end rfl)))
theorem comp3l {elt:Locs→zax→Res MV} {l:Locs} {h:zax} {a n:Nat} {v0 v1 v2 x0 x1 x2:MV} (ha:h[a]? =some (.list [v0,v1,v2] n)) (e0:elt (l ++ [some v0]) h= .ok x0 h) (e1:elt (l ++ [some v1]) h= .ok x1 h) (e2:elt (l ++ [some v2]) h= .ok x2 h) :
 zaN (.list a n false) 0 yes elt l 4 0 [] h= .ok [x0,x1,x2] h:=by
 have s:∀ k,zaH (.list a n false) k h=some (([v0,v1,v2] :List MV)[k]?):=fun k=>by simp only [zaH,itemsV?,ha,if_true];cases ([v0,v1,v2] :List MV)[k]? <;> rfl
 exact (zeF (new:=[some v0]) (s 0) rfl rfl e0).trans ((zeF (new:=[some v1]) (s 1) rfl rfl e1).trans ((zeF (new:=[some v2]) (s 2) rfl rfl e2).trans (comp_end (s 3))))
theorem list3 {h:zax} {a n:Nat} {v0 v1 v2:MV} (ha:h[a]? =some (.list [v0,v1,v2] n)) :zaG h (.ref a) 0=some v0∧zaG h (.ref a) 1=some v1∧zaG h (.ref a) 2=some v2:=by
 simp only [zaG,items?,ha];exact ⟨rfl,rfl,rfl⟩
noncomputable def isGl:Part→Bool
 | .glue ..=>true
 | _=>false
noncomputable def deepM:Part→MV
 | .pen _=> .none
 | p=> .int p.dep
section
variable (n:Nat) {h:zax} {bx:Nat}
theorem ne_eval (p:Part) (l0 l1 l2 l3 l4 l5 l6 l7 l8 l9 l10:Option MV) :zaw tabs (zay tabs fnsT n) b45e1 [l0,l1,l2,l3,l4,l5,l6,l7,l8,l9,l10,some (zaz p)] h= .ok (.bool (isGl p)) h:=by
 have z:=runE (n:=n) (e:=b45e1) (l:=[l0,l1,l2,l3,l4,l5,l6,l7,l8,l9,l10,some (.tup [])]) (h:=h) []
 cases p with
 | glue w s so sh ho=>exact runE (n:=n) (e:=b45e1) (l:=[l0,l1,l2,l3,l4,l5,l6,l7,l8,l9,l10,some (.tup [.int w,.int s,.int so,.int sh,.int ho])]) (h:=h) []
 | _=>exact z
theorem flows_met {fa m:Nat} {ps:List Part} (e:h[fa]? =some (.list (ps.map zaz) m)) (l0 l1 l2 l3 l4 l5 l6 l7 l8 l9 l10:Option MV) (Φn:Nat) :
 zaN (.list fa m false) 0 (zaw tabs (zay tabs fnsT Φn) b45e1) (zaw tabs (zay tabs fnsT Φn) b45e0) [l0,l1,l2,l3,l4,l5,l6,l7,l8,l9,l10] ((ps.map zaz).length + 1) 0 [] h= .ok ((ps.filter isGl).map zaz) h:=by
 refine x2_3 (zcN (src:= .list fa m false) (vs:=ps.map zaz) (nt:=0) (cond:=zaw tabs (zay tabs fnsT Φn) b45e1) (elt:=zaw tabs (zay tabs fnsT Φn) b45e0) (l:=[l0,l1,l2,l3,l4,l5,l6,l7,l8,l9,l10])
  (fun k acc h'=>h'=h∧acc=((ps.take k).filter isGl).map zaz) (fun k acc h' ⟨q,_⟩=>by subst q;simp only [zaH,itemsV?,e,if_true];cases (ps.map zaz)[k]? <;> rfl) (fun k acc h' v zz hv=>by
   refine x0_2 zz ?_;(try clear zz);intro q1 q2
   subst q1 q2
   rw [List.getElem?_map,Option.map_eq_some_iff] at hv
   refine x1_2 hv ?_;(try clear hv);rintro p hp rfl
   have tk:ps.take (k + 1)=ps.take k ++ [p]:=by simp only [List.take_add_one,hp];rfl
   refine ⟨[some (zaz p)],.bool (isGl p),h',isGl p,rfl,?_,rfl,fun q=>⟨rfl,?_⟩,fun q=>⟨_,h',runE (n:=Φn) (e:=b45e0) (l:=[l0,l1,l2,l3,l4,l5,l6,l7,l8,l9,l10,some (zaz p)]) (h:=h') [],rfl,?_⟩⟩
   · exact ne_eval Φn p l0 l1 l2 l3 l4 l5 l6 l7 l8 l9 l10
   · rw [tk,List.filter_append,List.filter_cons_of_neg (by simp [q])];simp
   · rw [tk,List.filter_append,List.filter_cons_of_pos q];simp)
  (m:=(ps.map zaz).length + 1) (k:=0) (acc:=[]) (h:=h) ⟨rfl,rfl⟩ (Nat.zero_le _) rfl) ?_;rintro acc h' e' rfl rfl
 rw [List.length_map,List.take_length] at e'
 rw [List.length_map];exact e'
theorem three (r:Rng h bx) (l1 l2 l3 l4 l5 l6 l7 l8 l9 l10:Option MV) :∃ a b c h',zaN (.fixed [.int 0,.int 1,.int 2]) 0 yes (zaw tabs (zay tabs fnsT (n + 2)) b45e2) [some (.ref bx),l1,l2,l3,l4,l5,l6,l7,l8,l9,l10] 4 0 [] h= .ok [.int a,.int b,.int c] h'∧small a∧small b∧small c∧RG bx h h':=by
 refine x43 (c43 n r) fun a h1 e1 s1 g1=>?_
 refine x43 (c43 n g1.rng) fun b h2 e2 s2 g2=>?_
 refine x43 (c43 n g2.rng) fun c h3 e3 s3 g3=>?_
 exact ⟨a,b,c,h3,comp3 (runE (n:=n + 2) (e:=b45e2) (l:=[some (.ref bx),l1,l2,l3,l4,l5,l6,l7,l8,l9,l10,some (.int 0)]) (h:=h) [.r _] e1)
  (runE (n:=n + 2) (e:=b45e2) (l:=[some (.ref bx),l1,l2,l3,l4,l5,l6,l7,l8,l9,l10,some (.int 1)]) (h:=h1) [.r _] e2)
  (runE (n:=n + 2) (e:=b45e2) (l:=[some (.ref bx),l1,l2,l3,l4,l5,l6,l7,l8,l9,l10,some (.int 2)]) (h:=h2) [.r _] e3),s1,s2,s3,(g1.trans g2).trans g3⟩
theorem side_eval {d k x:Int} {sz:Nat} (i:zaG h (.ref sz) k=some (.int x)) (l0 l1 l2 l3 l4 l5 l6 l9 l10:Option MV) :
 zaw tabs (zay tabs fnsT n) b45e3 [l0,l1,l2,l3,l4,l5,l6,some (.ref sz),some (.int d),l9,l10,some (.int k)] h= .ok (optV (if k=d then none else some x)) h:=by
 by_cases q:k=d
 · rw [if_pos q];exact runE (n:=n) (e:=b45e3) (l:=[l0,l1,l2,l3,l4,l5,l6,some (.ref sz),some (.int d),l9,l10,some (.int k)]) (h:=h) [.b true] (dt q)
 · rw [if_neg q];exact runE (n:=n) (e:=b45e3) (l:=[l0,l1,l2,l3,l4,l5,l6,some (.ref sz),some (.int d),l9,l10,some (.int k)]) (h:=h) [.b false,.i (.int x)] (df q) i
theorem none0_eval (o:Option Int) (l0 l1 l2 l3 l4 l5 l6 l7 l8 l9 l10:Option MV) :zaw tabs (zay tabs fnsT n) b45e4 [l0,l1,l2,l3,l4,l5,l6,l7,l8,l9,l10,some (optV o)] h= .ok (.int (o.getD 0)) h:=by
 cases o with
 | none=>exact runE (n:=n) (e:=b45e4) (l:=[l0,l1,l2,l3,l4,l5,l6,l7,l8,l9,l10,some .none]) (h:=h) []
 | some i=>exact runE (n:=n) (e:=b45e4) (l:=[l0,l1,l2,l3,l4,l5,l6,l7,l8,l9,l10,some (.int i)]) (h:=h) []
theorem smallO.dimO {o:Option Int} (h:smallO o) :dimO o:=fun i e=>(h i e).dim
theorem c45 (r:Rng h bx) (u:Bool) {orders:Int} (ho:1≤orders∧orders≤4) {fa m:Nat} {ps:List Part} (e:h[fa]? =some (.list (ps.map zaz) m)) (ne:fa≠bx) (hp:∀ p∈ ps,POK p) (hlen:ps.length≤4000) :
 ∃ v p h',zaB (n + 5) 45 [.ref bx,.bool u,.int orders,.ref fa] h= .ok (.tup [v,zaz p,.int (p.fsz u),deepM p]) h'∧RepP (fun j=>h.length≤j) h' v p∧POK p∧RG bx h h':=by
 refine x42 (c42 (n + 3) r (many:=12) (by decide) (by decide)) fun way h1 e1 a1 b1 g1=>?_
 have ef:=g1.lst e ne
 by_cases q0:way < 8
 · have c1:=flows_met ef (some (.ref bx)) (some (.bool u)) (some (.int orders)) (some (.ref fa)) (some (.int way)) none none none none none none (n + 4)
   refine x44 (c44 (n + 1) (g1.app [.list ((ps.filter isGl).map zaz) 0]).rng ho (zaD h1 (.list ((ps.filter isGl).map zaz) 0)) (RG.ne r g1.gr.len) (fun p m=>by
    rw [List.mem_filter] at m
    refine ⟨hp p m.1,?_⟩
    refine x0_2 m ?_;(try clear m);intro _ m
    cases p <;> first | exact ⟨_,_,_,_,_,rfl⟩ | exact noC Bool.ctorIdx m rfl)) fun w s so sh ho' h2 e2 ok g2=>?_
   refine x0_7 (id ok) fun k1 k2 k3 k4 k5 k6 k7=>?_
   have e3:=n6 (n + 1) (h:=h2) k1.dim k2.dim k3.dim k4 k5 k6 k7
   have e4:=n17 (n + 2) (h2 ++ [glueO (.int w) (.int s) (.int (nrm s so)) (.int sh) (.int (nrm sh ho'))]) (.ref h2.length)
   exact ⟨_,.glue w s so sh ho',_,run 45 f45 (n + 4) [.ref bx,.bool u,.int orders,.ref fa] h [.r (.ok (.int way) h1),.b true,.o (.list (ps.map zaz) m),.l (.ok ((ps.filter isGl).map zaz) h1),.r (.ok (.tup [.int w,.int s,.int so,.int sh,.int ho']) h2),.r _,.r _] rfl rfl e1 (dt q0) ef c1
    (by rw [List.length_map];exact Nat.le_trans (List.length_filter_le _ _) (by (with_reducible exact Nat.le_trans (by assumption) (Nat.le_add_left _ _)))) e2 e3 e4,.glue (zaD _ _) (zaJ (zaD _ _)) k4 k5 k6 k7,ok,(((g1.app _).trans g2).app _).app _⟩
 · by_cases q1:way=8
   · refine x43 (c43 (n + 2) g1.rng) fun s h2 e2 s2 g2=>?_
     refine x42 (c42 (n + 3) g2.rng (many:=4) (by decide) (by decide)) fun d h3 e3 a3 b3 g3=>?_
     have e4:=n16 (n + 1) h3 (srt:=d) s2.dim a3 (by lia)
     exact ⟨_,.kern s d,_,run 45 f45 (n + 4) [.ref bx,.bool u,.int orders,.ref fa] h [.r (.ok (.int way) h1),.b false,.b true,.r (.ok (.int s) h2),.r (.ok (.int d) h3),.r _] rfl rfl e1 (df q0) (dt q1) e2 e3 e4,.kern (zaD _ _),⟨s2,a3,by lia⟩,((g1.trans g2).trans g3).app _⟩
   · by_cases q2:way=9
     · refine x42 (c42 (n + 3) g1.rng (many:=99) (by decide) (by decide)) fun d h3 e3 a3 b3 g3=>?_
       have e4:=n18 (n + 1) h3 (v:=d) (by lia) (by lia)
       have z:(Part.pen d).fsz u=0:=by cases u <;> rfl
       refine ⟨.ref h3.length,.pen d,h3 ++ [penO (.int d)],?_,.pen (zaD _ _),⟨a3,by lia⟩,(g1.trans g3).app _⟩
       rw [z]
       exact run 45 f45 (n + 4) [.ref bx,.bool u,.int orders,.ref fa] h [.r (.ok (.int way) h1),.b false,.b false,.b true,.r (.ok (.int d) h3),.r _] rfl rfl e1 (df q0) (df q1) (dt q2) e3 e4
     · have l11:([some (.ref bx),some (.bool u),some (.int orders),some (.ref fa),some (.int way),none,none,none,none,none,none] :Locs).length=11:=rfl
       refine x4_5 (three (n + 2) g1.rng (some (.bool u)) (some (.int orders)) (some (.ref fa)) (some (.int way)) none none none none none none) fun a b c h2 e2 s1 s2 s3 g2=>?_
       have g2':=(g1.trans g2).app [.list [.int a,.int b,.int c] 0]
       have nb:=RG.ne r (g1.trans g2).gr.len
       have z2:=zaD h2 (.list [.int a,.int b,.int c] 0)
       have last:∀ p:Part,isGl p=false→(∀ w k,p≠.kern w k)→p.fsz u=cond u (p.hgt + p.dep) p.wid:=fun p q1 q2=>by
        cases p <;> first | (exact noC Bool.ctorIdx q1 rfl;done) | (exact absurd rfl (q2 _ _)) | (cases u <;> rfl)
       by_cases q3:way=10
       · refine x42 (c42 (n + 3) g2'.rng (many:=4) (by decide) (by decide)) fun d h3 e3 a3 b3 g3=>?_
         have z3:=g3.lst z2 nb
         refine x0_3 (list3 z3) fun i0 i1 i2=>?_
         let o0:Option Int:=if (0:Int)=d then none else some a
         let o1:Option Int:=if (1:Int)=d then none else some b
         let o2:Option Int:=if (2:Int)=d then none else some c
         have d0:smallO o0:=fun i q=>by simp only [o0] at q;split at q <;> cases q;exact s1
         have d1:smallO o1:=fun i q=>by simp only [o1] at q;split at q <;> cases q;exact s2
         have d2:smallO o2:=fun i q=>by simp only [o2] at q;split at q <;> cases q;exact s3
         have e4:zaN (.fixed [.int 0,.int 1,.int 2]) 0 yes (zaw tabs (zay tabs fnsT (n + 4)) b45e3) [some (.ref bx),some (.bool u),some (.int orders),some (.ref fa),some (.int way),none,none,some (.ref h2.length),some (.int d),none,none] 4 0 [] h3= .ok [optV o0,optV o1,optV o2] h3:=
          comp3 (side_eval (n + 4) i0 _ _ _ _ _ _ _ _ _) (side_eval (n + 4) i1 _ _ _ _ _ _ _ _ _) (side_eval (n + 4) i2 _ _ _ _ _ _ _ _ _)
         have z4:=zaD h3 (.list [optV o0,optV o1,optV o2] 0)
         refine x0_3 (list3 z4) fun j0 j1 j2=>?_
         have e5:=n15 (n + 1) (h3 ++ [.list [optV o0,optV o1,optV o2] 0]) d0.dimO d1.dimO d2.dimO
         have z5:((h3 ++ [MObj.list [optV o0,optV o1,optV o2] 0]) ++ [ruleO (optV o0) (optV o1) (optV o2)])[h3.length]? =some (.list [optV o0,optV o1,optV o2] 0):=zaJ z4
         have N:=fun o=>none0_eval (n + 4) (h:=(h3 ++ [.list [optV o0,optV o1,optV o2] 0]) ++ [ruleO (optV o0) (optV o1) (optV o2)]) o (some (.ref bx)) (some (.bool u)) (some (.int orders)) (some (.ref fa)) (some (.int way)) none none (some (.ref h2.length)) (some (.int d)) (some (.ref h3.length)) none
         have e6:=comp3l (elt:=zaw tabs (zay tabs fnsT (n + 4)) b45e4) (l:=[some (.ref bx),some (.bool u),some (.int orders),some (.ref fa),some (.int way),none,none,some (.ref h2.length),some (.int d),some (.ref h3.length),none]) z5 (N o0) (N o1) (N o2)
         refine x0_3 (list3 (zaD ((h3 ++ [MObj.list [optV o0,optV o1,optV o2] 0]) ++ [ruleO (optV o0) (optV o1) (optV o2)]) (.list [.int (o0.getD 0),.int (o1.getD 0),.int (o2.getD 0)] 0))) fun k0 k1 k2=>?_
         refine ⟨.ref (h3 ++ [MObj.list [optV o0,optV o1,optV o2] 0]).length,.rule o0 o1 o2,((h3 ++ [MObj.list [optV o0,optV o1,optV o2] 0]) ++ [ruleO (optV o0) (optV o1) (optV o2)]) ++ [.list [.int (o0.getD 0),.int (o1.getD 0),.int (o2.getD 0)] 0],?_,.rule (zaJ (zaD _ _)),⟨d0,d1,d2⟩,(((g2'.trans g3).app _).app _).app _⟩
         cases u
         · exact run 45 f45 (n + 4) [.ref bx,.bool false,.int orders,.ref fa] h [.r (.ok (.int way) h1),.b false,.b false,.b false,.l (.ok [.int a,.int b,.int c] h2),.b true,.r (.ok (.int d) h3),.l (.ok [optV o0,optV o1,optV o2] h3),.i (optV o0),.i (optV o1),.i (optV o2),.r (.ok .none ((h3 ++ [MObj.list [optV o0,optV o1,optV o2] 0]) ++ [ruleO (optV o0) (optV o1) (optV o2)])),.o (.list [optV o0,optV o1,optV o2] 0),.l (.ok [.int (o0.getD 0),.int (o1.getD 0),.int (o2.getD 0)] ((h3 ++ [MObj.list [optV o0,optV o1,optV o2] 0]) ++ [ruleO (optV o0) (optV o1) (optV o2)])),.b false,.i (.int (o0.getD 0)),.i (.int (o2.getD 0))] rfl rfl e1 (df q0) (df q1) (df q2) (by decide) e2 (show 3≤4096 by decide) (dt q3) e3 (by decide) e4 (show 3≤4096 by decide) j0 j1 j2 e5 z5 e6 (show 3≤4096 by decide) rfl k0 k2
         · exact run 45 f45 (n + 4) [.ref bx,.bool true,.int orders,.ref fa] h [.r (.ok (.int way) h1),.b false,.b false,.b false,.l (.ok [.int a,.int b,.int c] h2),.b true,.r (.ok (.int d) h3),.l (.ok [optV o0,optV o1,optV o2] h3),.i (optV o0),.i (optV o1),.i (optV o2),.r (.ok .none ((h3 ++ [MObj.list [optV o0,optV o1,optV o2] 0]) ++ [ruleO (optV o0) (optV o1) (optV o2)])),.o (.list [optV o0,optV o1,optV o2] 0),.l (.ok [.int (o0.getD 0),.int (o1.getD 0),.int (o2.getD 0)] ((h3 ++ [MObj.list [optV o0,optV o1,optV o2] 0]) ++ [ruleO (optV o0) (optV o1) (optV o2)])),.b true,.i (.int (o1.getD 0)),.i (.int (o2.getD 0)),.i (.int (o2.getD 0))] rfl rfl e1 (df q0) (df q1) (df q2) (by decide) e2 (show 3≤4096 by decide) (dt q3) e3 (by decide) e4 (show 3≤4096 by decide) j0 j1 j2 e5 z5 e6 (show 3≤4096 by decide) rfl k1 k2 k2
       · refine x42 (c42 (n + 3) g2'.rng (many:=2) (by decide) (by decide)) fun d h3 e3 a3 b3 g3=>?_
         have z3:=g3.lst z2 nb
         refine x0_3 (list3 z3) fun i0 i1 i2=>?_
         have k2:2 + d=2∨2 + d=3:=by lia
         refine x1_3 (n14 (n + 1) (h3 ++ [.list [] 0]) (.ref h3.length) (k:=2 + d) (w:=a) (hh:=b) (d:=c) k2 s1.dim s2.dim s3.dim) ?_;rintro h4 e4 _ rfl
         have g4:=((g2'.trans g3).app [.list [] 0]).app [bxO (2 + d) a b c 0 h3.length]
         refine x43 (c43 (n + 2) g4.rng) fun sf h5 e5 s5 g5=>?_
         have zb:=g5.gr.inst (zaD (h3 ++ [.list [] 0]) (bxO (2 + d) a b c 0 h3.length))
         have nb3:h3.length≠bx:=RG.ne r (g2'.trans g3).gr.len
         have zl:=g5.lst (zaJ (e:=[bxO (2 + d) a b c 0 h3.length]) (zaD h3 (.list [] 0))) nb3
         have lb:h.length≤(h3 ++ [MObj.list [] 0]).length:=((g2'.trans g3).app [.list [] 0]).gr.len
         have lt:=zeH zb
         have nb4:(h3 ++ [MObj.list [] 0]).length≠bx:=RG.ne r lb
         have zs:=zaO zb (bxO (2 + d) a b c sf h3.length)
         have zq:h5[h2.length]? =some (.list [.int a,.int b,.int c] 0):=g5.lst (zaJ (zaJ (g3.lst z2 nb))) nb
         have zc:=zcz (x:=bxO (2 + d) a b c sf h3.length) zq (i:=(h3 ++ [MObj.list [] 0]).length) (fun q=>by simp only [q,zq] at zb;cases zb)
         refine x0_3 (list3 zc) fun k0 k1 k2'=>?_
         have fin:RG bx h (h5.set (h3 ++ [MObj.list [] 0]).length (bxO (2 + d) a b c sf h3.length)):=⟨(g4.trans g5).gr.fresh lb _,by
          refine x3_2 g5.rng fun x y v q q'=>?_
          exact ⟨x,y,v,zcz q nb4,q'⟩⟩
         refine ⟨.ref (h3 ++ [MObj.list [] 0]).length,.box (2 + d) a b c sf,_,?_,.box zs (zcz zl (by simp)) (g2'.trans g3).gr.len k2,⟨k2,s1,s2,s3,s5⟩,fin⟩
         cases u
         · exact run 45 f45 (n + 4) [.ref bx,.bool false,.int orders,.ref fa] h [.r (.ok (.int way) h1),.b false,.b false,.b false,.l (.ok [.int a,.int b,.int c] h2),.b false,.r (.ok (.int d) h3),.i (.int a),.i (.int b),.i (.int c),.r (.ok .none ((h3 ++ [MObj.list [] 0]) ++ [bxO (2 + d) a b c 0 h3.length])),.r (.ok (.int sf) h5),.o (bxO (2 + d) a b c 0 h3.length),.b false,.i (.int a),.i (.int c)] rfl rfl e1 (df q0) (df q1) (df q2) (by decide) e2 (show 3≤4096 by decide) (df q3) e3 i0 i1 i2 e4 e5 zb rfl k0 k2'
         · exact run 45 f45 (n + 4) [.ref bx,.bool true,.int orders,.ref fa] h [.r (.ok (.int way) h1),.b false,.b false,.b false,.l (.ok [.int a,.int b,.int c] h2),.b false,.r (.ok (.int d) h3),.i (.int a),.i (.int b),.i (.int c),.r (.ok .none ((h3 ++ [MObj.list [] 0]) ++ [bxO (2 + d) a b c 0 h3.length])),.r (.ok (.int sf) h5),.o (bxO (2 + d) a b c 0 h3.length),.b true,.i (.int b),.i (.int c),.i (.int c)] rfl rfl e1 (df q0) (df q1) (df q2) (by decide) e2 (show 3≤4096 by decide) (df q3) e3 i0 i1 i2 e4 e5 zb rfl k1 k2' k2'
end
noncomputable def shp:Part→Part
 | .glue w ..=> .kern w 0
 | .kern w _=> .kern w 0
 | p=>p
noncomputable abbrev zcK (ps qs:List Part) :Prop:=ps.map shp=qs.map shp
section
variable {ps qs:List Part}
theorem map_shp {α:Type} (f:Part→α) (hf:∀ p,f (shp p)=f p) (h:zcK ps qs) :ps.map f=qs.map f:=by
 have e:∀ l:List Part,l.map f=(l.map shp).map f:=fun l=>by simp only [List.map_map];exact List.map_congr_left fun p _=>(hf p).symm
 simp only [e ps,e qs,h]
theorem fold_shp {σ:Type} (F:σ→Part→σ) (s:σ) (hf:∀ s p,F s (shp p)=F s p) (h:zcK ps qs) :ps.foldl F s=qs.foldl F s:=by
 have e:∀ l:List Part,l.foldl F s=(l.map shp).foldl F s:=fun l=>by simp only [List.foldl_map];congr 1;funext s p;exact (hf s p).symm
 simp only [e ps,e qs,h]
theorem same_natL (h:zcK ps qs) :natL ps=natL qs:=congrArg isum (map_shp wid (fun p=>by cases p <;> rfl) h)
theorem same_hgtL (h:zcK ps qs) :hgtL ps=hgtL qs:=fold_shp _ _ (fun s p=>by cases p <;> rfl) h
theorem same_depL (h:zcK ps qs) :depL ps=depL qs:=fold_shp _ _ (fun s p=>by cases p <;> rfl) h
theorem zdQ (h:zcK ps qs) :colL ps=colL qs:=fold_shp colF _ (fun ⟨a,b,c⟩ p=>by cases p <;> first | rfl | (dsimp only [shp,colF,Part.acr];rw [Int.add_assoc])) h
theorem same_fsz (u:Bool) (h:zcK ps qs) :ps.map (fsz u)=qs.map (fsz u):=map_shp _ (fun p=>by cases p <;> rfl) h
theorem same_natU {u:Bool} {most:Int} (h:zcK ps qs) :natU u ps most=natU u qs most:=by unfold natU natV;rw [same_natL h,zdQ h]
theorem same_wU {u:Bool} {s:Int} (h:zcK ps qs) :wU u ps s=wU u qs s:=by unfold wU;rw [zdQ h]
theorem same_hU {u:Bool} {s:Int} (h:zcK ps qs) :hU u ps s=hU u qs s:=by unfold hU;rw [same_hgtL h]
theorem same_dU {u:Bool} {s:Int} (h:zcK ps qs) :dU u ps s=dU u qs s:=by unfold dU depV;rw [same_depL h,zdQ h]
theorem same_len (h:zcK ps qs) :ps.length=qs.length:=by have:=congrArg List.length h;simpa using this
theorem Fit.same {most:Int} (F:Fit ps most) (h:zcK ps qs) (s:bnd (sumS qs)) (z:bnd (sumZ qs)) :Fit qs most where
 mo:=F.mo
 h:=same_hgtL h ▸ F.h
 d:=same_depL h ▸ F.d
 w:=zdQ h ▸ F.w
 v:=by have:=F.v;unfold depV at this ⊢;rwa [← zdQ h]
 s:=s
 z:=z
end
noncomputable def amB (b:Bool) :Part→Int
 | .glue _ s _ sh _=>cond b s sh
 | _=>0
noncomputable def orB (b:Bool) :Part→Int
 | .glue _ _ so _ ho=>cond b so ho
 | _=>0
noncomputable def atB (b:Bool) (k:Int) (p:Part) :Int:=if k=orB b p then amB b p else 0
noncomputable def sumB (b:Bool) (ps:List Part) (k:Int) :Int:=isum (ps.map (atB b k))
theorem nrm_if (s so k:Int) :(if k=nrm s so then s else 0)=if k=so then s else 0:=by
 unfold nrm
 by_cases q:s=0
 · subst q;simp
 · rw [if_pos q]
theorem atS_eq (k:Int) (p:Part) :atS k p=atB true k p:=by
 cases p with
 | glue w s so sh ho=>exact nrm_if s so k
 | _=>dsimp only [atS,atB,amB];split <;> rfl
theorem atZ_eq (k:Int) (p:Part) :atZ k p=atB false k p:=by
 cases p with
 | glue w s so sh ho=>exact nrm_if sh ho k
 | _=>dsimp only [atZ,atB,amB];split <;> rfl
theorem sumS_eq (ps:List Part) :sumS ps=sumB true ps:=by funext k;unfold sumS sumB;congr 1;exact List.map_congr_left fun p _=>atS_eq k p
theorem sumZ_eq (ps:List Part) :sumZ ps=sumB false ps:=by funext k;unfold sumZ sumB;congr 1;exact List.map_congr_left fun p _=>atZ_eq k p
noncomputable abbrev sgB (b:Bool) :Int:=cond b 1 2
noncomputable abbrev sn (b:Bool) (x:Int) :Int:=cond b x (-x)
theorem flx_b (b:Bool) (od:Int) (p:Part) :flx (sgB b) od p=sn b (atB b od p):=by
 cases p with
 | glue w s so sh ho=>
  cases b
  · show (if (2:Int)=1∧nrm s so=od then s else if (2:Int)=2∧nrm sh ho=od then -sh else 0)= -(if od=ho then sh else 0)
    rw [if_neg (fun q=>absurd q.1 (by decide))]
    by_cases z:sh=0
    · subst z;simp
    · have e:nrm sh ho=ho:=if_pos z
      rw [e]
      by_cases w:ho=od
      · rw [if_pos ⟨rfl,w⟩,if_pos w.symm]
      · rw [if_neg (fun q=>w q.2),if_neg (fun q=>w q.symm)];rfl
  · show (if (1:Int)=1∧nrm s so=od then s else if (1:Int)=2∧nrm sh ho=od then -sh else 0)=(if od=so then s else 0)
    by_cases z:s=0
    · subst z;simp
    · have e:nrm s so=so:=if_pos z
      rw [e]
      by_cases w:so=od
      · rw [if_pos ⟨rfl,w⟩,if_pos w.symm]
      · rw [if_neg (fun q=>w q.2),if_neg (fun q=>absurd q.1 (by decide)),if_neg (fun q=>w q.symm)]
 | _=>cases b <;> simp [flx,atB,amB]
theorem flx_0 (od:Int) (p:Part) :flx 0 od p=0:=by
 cases p with
 | glue w s so sh ho=>simp only [flx];rw [if_neg (fun q=>absurd q.1 (by decide)),if_neg (fun q=>absurd q.1 (by decide))]
 | _=>rfl
noncomputable def setB (e o T:Int) :Setg:=
 if T=0 then ⟨0,0,0,1,(repG o T e).1,(repG o T e).2⟩ else if (repG o T e).1=3 then ⟨2,o,1,1,(repG o T e).1,(repG o T e).2⟩ else
  ⟨if 0 < e then 1 else 2,o,if 0 < T then e.natAbs else -e.natAbs,if 0 < T then T else -T,(repG o T e).1,(repG o T e).2⟩
theorem setG_B {e:Int} (h:e≠0) (ps:List Part) :setG (sumS ps) (sumZ ps) e=setB e (topO (sumB (decide (0 < e)) ps)) (sumB (decide (0 < e)) ps (topO (sumB (decide (0 < e)) ps))):=by
 unfold setG
 rw [if_neg h]
 by_cases q:0 < e
 · rw [dt q];simp only [sumS_eq];unfold setB;rw [if_pos q]
 · rw [df q];simp only [sumZ_eq];unfold setB;rw [if_neg q]
theorem setG_0 (S Z:Int→Int) :setG S Z 0=⟨0,0,0,1,0,0⟩:=by unfold setG;rw [if_pos rfl]
set_option tactic.hygienic true in
theorem topO_hi {X:Int→Int} {k:Int} (h:topO X < k) (h3:k≤3) :X k=0:=by
 have h0:=(zdJ X).1
 unfold topO at h
 have hk:k=1∨k=2∨k=3:=by lia
 split at h
 · lia
 · rename_i a
   split at h
   · obtain rfl:k=3:=by lia
     simpa using a
   · rename_i b
     split at h
     · rcases hk with rfl | rfl | rfl
       · lia
       · simpa using b
       · simpa using a
     · rename_i c
       rcases hk with rfl | rfl | rfl
       · simpa using c
       · simpa using b
       · simpa using a
theorem topO_le {X:Int→Int} {k:Int} (h1:0≤k) (h2:k≤3) (h:X k≠0) :k≤topO X:=by
 rcases Int.lt_or_le (topO X) k with q | q
 · exact absurd (topO_hi q h2) h
 · exact q
theorem rnd_rat {a b a' b':Int} (h1:0 < b) (h2:0 < b') (h:a * b'=a' * b) :rnd a b=rnd a' b':=by
 have key:∀ x y x' y':Int,0 < y→0 < y'→x * y'=x' * y→(2 * x + y) / (2 * y)=(2 * x' + y') / (2 * y'):=fun x y x' y' q1 q2 q=>by
  simp only [← Int.mul_ediv_mul_of_pos (a:=y') (2 * x + y) (2 * y) q2,← Int.mul_ediv_mul_of_pos (a:=y) (2 * x' + y') (2 * y') q1]
  have e1:y' * (2 * x + y)=y * (2 * x' + y'):=by
   rw [Int.mul_add,Int.mul_add,← Int.mul_assoc,← Int.mul_assoc,Int.mul_comm y' 2,Int.mul_comm y 2,Int.mul_assoc,Int.mul_assoc,Int.mul_comm y' x,q,Int.mul_comm x' y,Int.mul_comm y' y]
  have e2:y' * (2 * y)=y * (2 * y'):=by simp only [Int.mul_comm y' (2 * y),Int.mul_comm y (2 * y'),Int.mul_assoc,Int.mul_assoc,Int.mul_comm y y']
  simp only [e1,e2]
 have sg:a < 0 ↔ a' < 0:=by
  constructor
  · intro q
    rcases Int.lt_or_le a' 0 with z | z
    · exact z
    · have:=Int.mul_neg_of_neg_of_pos q h2
      have:=Int.mul_nonneg z (Int.le_of_lt h1)
      lia
  · intro q
    rcases Int.lt_or_le a 0 with z | z
    · exact z
    · have:=Int.mul_neg_of_neg_of_pos q h1
      have:=Int.mul_nonneg z (Int.le_of_lt h2)
      lia
 unfold rnd
 by_cases q:a < 0
 · rw [if_pos q,if_pos (sg.mp q)]
   have:=key (-a) b (-a') b' h1 h2 (by simp only [Int.neg_mul,Int.neg_mul,h])
   simp only [show b - 2 * a=2 * -a + b by lia,show b' - 2 * a'=2 * -a' + b' by lia,this]
 · rw [if_neg q,if_neg (fun z=>q (sg.mpr z))]
   exact key a b a' b' h1 h2 h
theorem rnd_one (a:Int) :rnd a 1=a:=by unfold rnd;split <;> lia
theorem rnd_mul {a b:Int} (h:0 < b) :rnd (a * b) b=a:=by
 simp only [rnd_rat (a':=a) (b':=1) h (by decide) (by rw [Int.mul_one]),rnd_one]
theorem badR_pos {e t:Int} (he:0 < e) (ht:0 < t) :0≤badR e t:=by
 unfold badR;split
 · exact Int.ediv_nonneg (by lia) (by (with_reducible exact Int.le_of_lt (by assumption)))
 · split
   · exact Int.ediv_nonneg (by (with_reducible exact Int.le_of_lt (by assumption))) (by lia)
   · (with_reducible exact Int.le_of_lt (by assumption))
theorem div_anti {a b c:Int} (h0:0≤a) (h1:0 < b) (h2:b≤c) :a / c≤a / b:=by
 refine Int.le_ediv_of_mul_le h1 ?_
 have p1:0≤a / c:=Int.ediv_nonneg h0 (by (with_reducible exact Int.le_of_lt (Int.lt_of_lt_of_le (by assumption) (by assumption))))
 have p2:=Int.mul_le_mul_of_nonneg_left h2 p1
 have p3:=Int.ediv_mul_le a (show c≠0 by lia)
 (with_reducible exact Int.le_trans (by assumption) (by assumption))
theorem badR_le {e t t':Int} (he:0 < e) (ht:0 < t) (h:t≤t') :badR e t'≤badR e t:=by
 unfold badR
 by_cases q:e≤7230584
 · rw [if_pos q,if_pos q]
   exact div_anti (by lia) ht h
 · rw [if_neg q,if_neg q]
   by_cases q1:1663497≤t
   · rw [if_pos q1,if_pos (by (with_reducible exact Int.le_trans (by assumption) (by assumption)))]
     exact div_anti (by (with_reducible exact Int.le_of_lt (by assumption))) (by lia) (by lia)
   · rw [if_neg q1]
     split
     · exact Int.ediv_le_self _ (by (with_reducible exact Int.le_of_lt (by assumption)))
     · lia
set_option tactic.hygienic true in
theorem bad_rng {e t:Int} (he:0 < e) :0≤bad e t∧bad e t≤10000:=by
 unfold bad
 rw [if_neg (by (with_reducible exact Int.ne_of_gt (by assumption)))]
 split
 · lia
 · rename_i q
   split
   · lia
   · rename_i q1
     have r0:=badR_pos he (show 0 < t by (with_reducible exact Int.not_le.mp (by assumption)))
     generalize badR e t=r at q1 r0
     have h1:r * r≤1290 * 1290:=Int.mul_le_mul (by (with_reducible exact Int.not_lt.mp (by assumption))) (by (with_reducible exact Int.not_lt.mp (by assumption))) r0 (by decide)
     have h2:0≤r * r:=Int.mul_nonneg r0 r0
     have h3:r * r * r≤1290 * 1290 * 1290:=Int.mul_le_mul h1 (by (with_reducible exact Int.not_lt.mp (by assumption))) r0 (by decide)
     have h4:0≤r * r * r:=Int.mul_nonneg h2 r0
     lia
theorem bad_le {e t t':Int} (he:0 < e) (h:t≤0∨t≤t') :bad e t'≤bad e t:=by
 by_cases q:t≤0
 · have e1:bad e t=10000:=by unfold bad;rw [if_neg (by (with_reducible exact Int.ne_of_gt (by assumption))),if_pos q]
   simp only [e1];exact (bad_rng he).2
 · by_cases q2:1290 < badR e t
   · have e1:bad e t=10000:=by unfold bad;rw [if_neg (by (with_reducible exact Int.ne_of_gt (by assumption))),if_neg q,if_pos q2]
     simp only [e1];exact (bad_rng he).2
   · have h':t≤t':=by lia
     have le:=badR_le he (by (with_reducible exact Int.not_le.mp (by assumption))) h'
     have r0:=badR_pos he (show 0 < t' by lia)
     unfold bad
     rw [if_neg (by (with_reducible exact Int.ne_of_gt (by assumption))),if_neg (by lia),if_neg (by lia),if_neg (by (with_reducible exact Int.ne_of_gt (by assumption))),if_neg q,if_neg q2]
     generalize badR e t=r at *
     generalize badR e t'=r' at *
     have h1:r' * r'≤r * r:=Int.mul_le_mul le le r0 (by (with_reducible exact Int.le_trans (by assumption) (by assumption)))
     have h3:r' * r' * r'≤r * r * r:=Int.mul_le_mul h1 le r0 (Int.mul_nonneg (by (with_reducible exact Int.le_trans (by assumption) (by assumption))) (by (with_reducible exact Int.le_trans (by assumption) (by assumption))))
     lia
theorem zfB {α:Type} {f:α→Int} {l:List α} (h:∀ p∈ l,f p=0) :isum (l.map f)=0:=by
 induction l with
 | nil=>rfl
 | cons p r ih=>simp only [List.map_cons,isum,h p (.head _),ih fun q m=>h q (.tail _ m)];rfl
theorem zeD {α:Type} {f g:α→Int} {l:List α} (h:∀ p∈ l,f p=g p) :isum (l.map f)=isum (l.map g):=by
 rw [List.map_congr_left h]
theorem isum_mul {α:Type} (c:Int) (f:α→Int) (l:List α) :isum (l.map fun p=>c * f p)=c * isum (l.map f):=by
 induction l with
 | nil=>simp [isum]
 | cons p r ih=>simp only [List.map_cons,isum,ih,Int.mul_add]
theorem isum_neg {α:Type} (f:α→Int) (l:List α) :isum (l.map fun p=>-f p)= -isum (l.map f):=by
 induction l with
 | nil=>rfl
 | cons p r ih=>simp only [List.map_cons,isum,ih];lia
theorem isum_bnd {α:Type} {f:α→Int} {l:List α} {c:Int} (h:∀ p∈ l,-c≤f p∧f p≤c) :-(c * l.length)≤isum (l.map f)∧isum (l.map f)≤c * l.length:=by
 induction l with
 | nil=>simp [isum]
 | cons p r ih=>
  have:=h p (.head _)
  have:=ih fun q m=>h q (.tail _ m)
  simp only [List.map_cons,isum,List.length_cons,Int.natCast_succ,Int.mul_add]
  lia
theorem pl_go (u:Bool) {g g':Setg} (f:Int) (hr:∀ y,rnd (g'.r0 * (f * y)) g'.r1=rnd (g.r0 * y) g.r1) :∀ {ps qs:List Part},ps.map (fsz u)=qs.map (fsz u)→qs.map (flx g'.sg g'.od)=ps.map (fun p=>f * flx g.sg g.od p)→
 ∀ (x y:Int) (l:List Int),(qs.foldl (plF u g') (x,f * y,l)).2.2=(ps.foldl (plF u g) (x,y,l)).2.2
 | [],[],_,_,_,_,_=>rfl
 | [],_ :: _,h,_,_,_,_=>nomatch h
 | _ :: _,[],h,_,_,_,_=>nomatch h
 | p :: ps,q :: qs,h1,h2,x,y,l=>by
  simp only [List.map_cons,List.cons.injEq] at h1 h2
  have ih:=pl_go u f hr h1.2 h2.2 (x + p.fsz u) (y + flx g.sg g.od p) (l ++ [x + p.fsz u + rnd (g.r0 * (y + flx g.sg g.od p)) g.r1])
  simp only [List.foldl_cons,plF]
  simp only [h2.1,← h1.1,← Int.mul_add,hr]
  exact ih
theorem pl_scale (u:Bool) {g g':Setg} (f:Int) (hr:∀ y,rnd (g'.r0 * (f * y)) g'.r1=rnd (g.r0 * y) g.r1) {ps qs:List Part} (h1:ps.map (fsz u)=qs.map (fsz u)) (h2:qs.map (flx g'.sg g'.od)=ps.map (fun p=>f * flx g.sg g.od p)) :(plL u g' qs).2.2=(plL u g ps).2.2:=by
 have:=pl_go u f hr h1 h2 0 0 [0]
 rw [Int.mul_zero] at this
 exact this
theorem pl_same (u:Bool) (g:Setg) {ps qs:List Part} (h1:ps.map (fsz u)=qs.map (fsz u)) (h2:qs.map (flx g.sg g.od)=ps.map (flx g.sg g.od)) :(plL u g qs).2.2=(plL u g ps).2.2:=
 pl_scale u 1 (fun y=>by rw [Int.one_mul]) h1 (h2.trans (List.map_congr_left fun p _=>(Int.one_mul _).symm))
theorem pl_last (u:Bool) {g:Setg} (hr:0 < g.r1) (ps:List Part) :∃ l,(plL u g ps).2.2=l ++ [isum (ps.map (fsz u)) + rnd (g.r0 * isum (ps.map (flx g.sg g.od))) g.r1]:=by
 have key:∀ (ps:List Part) (d:List Part) s,s=plL u g d→(∃ l,s.2.2=l ++ [s.1 + rnd (g.r0 * s.2.1) g.r1])→∃ l,(ps.foldl (plF u g) s).2.2=l ++ [s.1 + isum (ps.map (fsz u)) + rnd (g.r0 * (s.2.1 + isum (ps.map (flx g.sg g.od)))) g.r1]:=by
  intro ps
  induction ps with
  | nil=>intro d s _ h;simpa [isum] using h
  | cons p r ih=>
   intro d ⟨x,y,l⟩ e h
   refine x1_1 (ih (d ++ [p]) (plF u g (x,y,l) p) (by unfold plL;simp only [List.foldl_append,e];rfl) ⟨_,rfl⟩) fun l' q=>?_
   refine ⟨l',?_⟩
   simp only [List.foldl_cons,q]
   simp only [plF,List.map_cons,isum,Int.add_assoc]
 have z:rnd (g.r0 * 0) g.r1=0:=by rw [Int.mul_zero];unfold rnd;exact Int.ediv_eq_zero_of_lt (by lia) (by lia)
 refine x1_1 (key ps [] (0,0,[0]) rfl ⟨[],by simp only [z];rfl⟩) fun l q=>?_
 simp only [Int.zero_add] at q
 exact ⟨l,q⟩
variable {e o T:Int}
theorem setB_0 (e o:Int) :setB e o 0=⟨0,0,0,1,(repG o 0 e).1,(repG o 0 e).2⟩:=by unfold setB;rw [if_pos rfl]
theorem setB_3 (hT:T≠0) (h:(repG o T e).1=3) :setB e o T=⟨2,o,1,1,(repG o T e).1,(repG o T e).2⟩:=by unfold setB;rw [if_neg hT,if_pos h]
theorem zeL (hT:T≠0) (h:(repG o T e).1≠3) :setB e o T=⟨if 0 < e then 1 else 2,o,if 0 < T then e.natAbs else -e.natAbs,if 0 < T then T else -T,(repG o T e).1,(repG o T e).2⟩:=by unfold setB;rw [if_neg hT,if_neg h]
theorem rep_3:(repG o T e).1=3 ↔ o=0∧e < 0∧T < -e:=by
 unfold repG
 by_cases q:o=0
 · rw [if_pos q]
   by_cases q1:e < 0∧T < -e
   · rw [if_pos q1];exact ⟨fun _=>⟨q,q1⟩,fun _=>rfl⟩
   · simp only [if_neg q1]
     constructor
     · intro x;split at x <;> cases x
     · intro x;exact absurd x.2 q1
 · rw [if_neg q]
   constructor
   · intro x;cases x
   · intro x;exact absurd x.1 q
theorem rep_eq3 (h:(repG o T e).1=3) :repG o T e=(3,-e - T):=by
 have:=rep_3.mp h
 unfold repG
 rw [if_pos this.1,if_pos this.2]
theorem setB_sg (he:e≠0) (hT:T≠0) :(setB e o T).sg=sgB (decide (0 < e)):=by
 by_cases h:(repG o T e).1=3
 · rw [setB_3 hT h]
   have:=rep_3.mp h
   rw [df (Int.not_lt.mpr (Int.le_of_lt this.2.1))]
   rfl
 · rw [zeL hT h]
   by_cases q:0 < e
   · rw [dt q];exact if_pos q
   · rw [df q];exact if_neg q
theorem setB_od (hT:T≠0) :(setB e o T).od=o:=by
 by_cases h:(repG o T e).1=3
 · rw [setB_3 hT h]
 · rw [zeL hT h]
theorem setB_q:((setB e o T).q0,(setB e o T).q1)=repG o T e:=by
 unfold setB
 split
 · rfl
 · split <;> rfl
theorem setB_r1:0 < (setB e o T).r1:=by
 by_cases hT:T=0
 · subst hT;exact (by decide:(0:Int) < 1)
 · by_cases h:(repG o T e).1=3
   · rw [setB_3 hT h];exact (by decide:(0:Int) < 1)
   · rw [zeL hT h]
     show 0 < if 0 < T then T else -T
     split <;> first | assumption | lia
theorem setB_QOK (h1:e.natAbs < 18446744073709551616) (h2:T.natAbs < 4611686018427387904) :QOK (setB e o T):=by
 refine ⟨?_,setB_r1,?_⟩
 · by_cases hT:T=0
   · subst hT;exact (by decide:(0:Int).natAbs < 18446744073709551616)
   · by_cases h:(repG o T e).1=3
     · rw [setB_3 hT h];exact (by decide:(1:Int).natAbs < 18446744073709551616)
     · rw [zeL hT h]
       show (if 0 < T then (e.natAbs:Int) else -e.natAbs).natAbs < _
       split
       · rw [Int.natAbs_natCast];exact h1
       · rw [Int.natAbs_neg,Int.natAbs_natCast];exact h1
 · by_cases hT:T=0
   · subst hT;exact (by decide:(1:Int) < 4611686018427387904)
   · by_cases h:(repG o T e).1=3
     · rw [setB_3 hT h];exact (by decide:(1:Int) < 4611686018427387904)
     · rw [zeL hT h]
       show (if 0 < T then T else -T) < _
       split <;> lia
theorem setB_end (he:e≠0) (hT:T≠0) :rnd ((setB e o T).r0 * sn (decide (0 < e)) T) (setB e o T).r1=if (repG o T e).1=3 then -T else e:=by
 by_cases h:(repG o T e).1=3
 · rw [if_pos h,setB_3 hT h]
   have:=rep_3.mp h
   rw [df (Int.not_lt.mpr (Int.le_of_lt this.2.1))]
   show rnd (1 * -T) 1= -T
   simp only [Int.one_mul,rnd_one]
 · rw [if_neg h,zeL hT h]
   by_cases q:0 < e
   · rw [dt q]
     show rnd ((if 0 < T then (e.natAbs:Int) else -e.natAbs) * T) (if 0 < T then T else -T)=e
     by_cases q2:0 < T
     · rw [if_pos q2,if_pos q2,show (e.natAbs:Int)=e from Int.natAbs_of_nonneg (Int.le_of_lt q),rnd_mul q2]
     · rw [if_neg q2,if_neg q2,show (e.natAbs:Int)=e from Int.natAbs_of_nonneg (Int.le_of_lt q),Int.neg_mul,← Int.mul_neg,rnd_mul (Int.neg_pos_of_neg (Int.lt_iff_le_and_ne.mpr ⟨Int.not_lt.mp q2,hT⟩))]
   · rw [df q]
     show rnd ((if 0 < T then (e.natAbs:Int) else -e.natAbs) * -T) (if 0 < T then T else -T)=e
     by_cases q2:0 < T
     · rw [if_pos q2,if_pos q2,show (e.natAbs:Int)= -e from Int.ofNat_natAbs_of_nonpos (Int.not_lt.mp q),Int.neg_mul_neg,rnd_mul q2]
     · rw [if_neg q2,if_neg q2,show -(e.natAbs:Int)=e by rw [Int.ofNat_natAbs_of_nonpos (Int.not_lt.mp q),Int.neg_neg],rnd_mul (Int.neg_pos_of_neg (Int.lt_iff_le_and_ne.mpr ⟨Int.not_lt.mp q2,hT⟩))]
theorem setB_inj {o' T':Int} (he:e≠0) (h:setB e o T=setB e o' T') :(T=0∧T'=0)∨(T≠0∧T'≠0∧o=o'∧T=T'):=by
 have sg:=congrArg Setg.sg h
 have s0:∀ b,sgB b≠0:=fun b=>by cases b <;> decide
 by_cases hT:T=0
 · by_cases hT':T'=0
   · exact .inl ⟨hT,hT'⟩
   · simp only [setB_sg he hT',hT,setB_0] at sg
     exact absurd sg.symm (s0 _)
 · by_cases hT':T'=0
   · simp only [setB_sg he hT,hT',setB_0] at sg
     exact absurd sg (s0 _)
   · have od:=congrArg Setg.od h
     rw [setB_od hT,setB_od hT'] at od
     subst od
     refine .inr ⟨hT,hT',rfl,?_⟩
     have q:repG o T e=repG o T' e:=by simp only [← setB_q,← setB_q,h]
     by_cases k:(repG o T e).1=3
     · have k':(repG o T' e).1=3:=by rw [← q];exact k
       simp only [rep_eq3 k,rep_eq3 k'] at q
       have:=congrArg Prod.snd q
       dsimp only at this
       lia
     · have k':(repG o T' e).1≠3:=by rw [← q];exact k
       simp only [zeL hT k,zeL hT' k'] at h
       have a:=congrArg Setg.r0 h
       have b:=congrArg Setg.r1 h
       dsimp only at a b
       by_cases p:0 < T
       · by_cases p':0 < T'
         · rw [if_pos p,if_pos p'] at b;exact b
         · rw [if_pos p,if_neg p'] at a;exact absurd a (natAbs_nn he)
       · by_cases p':0 < T'
         · rw [if_neg p,if_pos p'] at a;exact absurd a.symm (natAbs_nn he)
         · rw [if_neg p,if_neg p'] at b;exact Int.neg_inj.mp b
theorem setB_fold {f:Int} (he:e≠0) (hT:T≠0) (hf:f≠0) (ho:o=0→0 < f) (hr:(repG o T e).1≠3) :
 (setB e o (f * T)).sg=(setB e o T).sg∧(setB e o (f * T)).od=(setB e o T).od∧(setB e o (f * T)).r0 * f * (setB e o T).r1=(setB e o T).r0 * (setB e o (f * T)).r1∧(repG o (f * T) e).1=(repG o T e).1∧0≤(repG o (f * T) e).2∧(repG o (f * T) e).2≤(repG o T e).2:=by
 have hT':f * T≠0:=Int.mul_ne_zero hf hT
 have hle:o=0→0 < T→T≤f * T:=fun q p=>by
  have:=Int.mul_le_mul_of_nonneg_right (show 1≤f from ho q) (Int.le_of_lt p)
  rwa [Int.one_mul] at this
 have hge:o=0→T≤0→f * T≤0:=fun q p=>Int.mul_nonpos_of_nonneg_of_nonpos (Int.le_of_lt (ho q)) p
 have hr':(repG o (f * T) e).1≠3:=fun q=>by
  refine x0_3 (rep_3.mp q) fun q1 q2 q3=>?_
  refine hr (rep_3.mpr ⟨q1,q2,?_⟩)
  rcases Int.lt_or_le 0 T with p | p
  · have:=hle q1 p;(with_reducible exact Int.lt_of_le_of_lt (by assumption) (by assumption))
  · lia
 refine ⟨by simp only [setB_sg he hT,setB_sg he hT'],by rw [setB_od hT,setB_od hT'],?_,?_⟩
 · simp only [zeL hT hr,zeL hT' hr']
   show (if 0 < f * T then (e.natAbs:Int) else -e.natAbs) * f * (if 0 < T then T else -T)=(if 0 < T then (e.natAbs:Int) else -e.natAbs) * (if 0 < f * T then f * T else -(f * T))
   generalize (e.natAbs:Int)=a
   rcases Int.lt_or_le 0 f with p | p
   · rcases Int.lt_or_le 0 T with p' | p'
     · have:=Int.mul_pos p p'
       rw [if_pos this,if_pos this,if_pos p',if_pos p',Int.mul_assoc]
     · have:=Int.mul_nonpos_of_nonneg_of_nonpos (Int.le_of_lt p) p'
       rw [if_neg (Int.not_lt.mpr this),if_neg (Int.not_lt.mpr this),if_neg (Int.not_lt.mpr p'),if_neg (Int.not_lt.mpr p'),Int.mul_assoc,Int.mul_neg]
   · rcases Int.lt_or_le 0 T with p' | p'
     · have:=Int.mul_nonpos_of_nonpos_of_nonneg p (Int.le_of_lt p')
       rw [if_neg (Int.not_lt.mpr this),if_neg (Int.not_lt.mpr this),if_pos p',if_pos p',Int.mul_assoc,Int.neg_mul,Int.mul_neg]
     · have:=Int.mul_pos_of_neg_of_neg (Int.lt_iff_le_and_ne.mpr ⟨p,hf⟩) (Int.lt_iff_le_and_ne.mpr ⟨p',hT⟩)
       rw [if_pos this,if_pos this,if_neg (Int.not_lt.mpr p'),if_neg (Int.not_lt.mpr p'),Int.mul_assoc,Int.mul_neg,Int.mul_neg,Int.neg_mul]
 · by_cases q:o=0
   · have n1:¬(e < 0∧T < -e):=fun x=>hr (rep_3.mpr ⟨q,x⟩)
     have n2:¬(e < 0∧f * T < -e):=fun x=>hr' (rep_3.mpr ⟨q,x⟩)
     unfold repG
     rw [if_pos q,if_pos q,if_neg n1,if_neg n2]
     refine ⟨rfl,(bad_rng (Int.natCast_pos.mpr (Int.natAbs_pos.mpr he))).1,bad_le (Int.natCast_pos.mpr (Int.natAbs_pos.mpr he)) ?_⟩
     rcases Int.lt_or_le 0 T with p | p
     · exact .inr (hle q p)
     · exact .inl p
   · unfold repG
     rw [if_neg q,if_neg q]
     exact ⟨rfl,by decide,by decide⟩
noncomputable def gG (ps:List Part) (e:Int) :Setg:=setG (sumS ps) (sumZ ps) e
noncomputable def xs (e:Int) (ps:List Part) :Int→Int:=sumB (decide (0 < e)) ps
theorem gG_0 (ps:List Part) :gG ps 0=⟨0,0,0,1,0,0⟩:=setG_0 _ _
theorem gG_eq {e:Int} (he:e≠0) (ps:List Part) :gG ps e=setB e (topO (xs e ps)) (xs e ps (topO (xs e ps))):=setG_B he ps
theorem topO_char {X:Int→Int} {o:Int} (h1:0≤o) (h2:o≤3) (h3:X o≠0∨o=0) (h4:∀ k,o < k→k≤3→X k=0) :topO X=o:=by
 have g:=zdJ X
 have a:¬ o < topO X:=fun q=>topO_ne (S:=X) (by lia) (h4 _ q g.2)
 have b:o≤topO X:=by
  rcases h3 with h3 | h3
  · exact topO_le h1 h2 h3
  · lia
 lia
theorem gG_of {e o:Int} {ps:List Part} (he:e≠0) (h1:0≤o) (h2:o≤3) (h3:xs e ps o≠0∨o=0) (h4:∀ k,o < k→k≤3→xs e ps k=0) :gG ps e=setB e o (xs e ps o):=by
 rw [gG_eq he,topO_char h1 h2 h3 h4]
noncomputable def OOK:Part→Prop
 | .glue _ _ so _ ho=>0≤so∧so≤3∧0≤ho∧ho≤3
 | _=>True
theorem OOK.b {p:Part} (h:OOK p) (b:Bool) :0≤orB b p∧orB b p≤3:=by
 cases p with
 | glue w s so sh ho=>cases b <;> exact ⟨by first | exact h.1 | exact h.2.2.1,by first | exact h.2.1 | exact h.2.2.2⟩
 | _=>exact ⟨(by decide:(0:Int)≤0),(by decide:(0:Int)≤3)⟩
noncomputable def plainP:Part→Part
 | .glue w ..=> .kern w 1
 | p=>p
noncomputable def skB (b:Bool) (p:Part) (am:Int) :Part:=
 match p with
 | .glue w _ so _ ho=>cond b (.glue w am so 0 0) (.glue w 0 0 am ho)
 | p=>p
noncomputable abbrev cnt (b:Bool) (o:Int) (p:Part) :Prop:=amB b p≠0∧orB b p=o
noncomputable def zcT (b:Bool) (o:Int) (p:Part) :Part:=if cnt b o p then skB b p (amB b p) else plainP p
noncomputable def zcW (b:Bool) (o f:Int) (p:Part) :Part:=if cnt b o p then skB b p (f * amB b p) else p
theorem zdR (p:Part) :shp (plainP p)=shp p:=by cases p <;> rfl
theorem skB_shp (b:Bool) (p:Part) (am:Int) :shp (skB b p am)=shp p:=by cases p <;> cases b <;> rfl
theorem twin_shp (b:Bool) (o:Int) (p:Part) :shp (zcT b o p)=shp p:=by
 unfold zcT;split
 · exact skB_shp _ _ _
 · exact zdR _
theorem found_shp (b:Bool) (o f:Int) (p:Part) :shp (zcW b o f p)=shp p:=by
 unfold zcW;split
 · exact skB_shp _ _ _
 · rfl
theorem plain_at (b:Bool) (k:Int) (p:Part) :atB b k (plainP p)=0:=by
 cases p <;> (unfold atB;split <;> rfl)
theorem zdF {b:Bool} {p:Part} (h:amB b p≠0) :∃ w s so sh ho,p= .glue w s so sh ho:=by
 cases p <;> first | exact ⟨_,_,_,_,_,rfl⟩ | exact absurd rfl h
theorem skB_at {b:Bool} {p:Part} (h:amB b p≠0) (k am:Int) :atB b k (skB b p am)=if k=orB b p then am else 0:=by
 refine x5_1 (zdF h) ?_;rintro w s so sh ho rfl
 cases b <;> rfl
theorem at_o {b:Bool} {o:Int} {p:Part} (h:cnt b o p) (k:Int) :atB b k p=if k=o then amB b p else 0:=by
 unfold atB;rw [h.2]
set_option tactic.hygienic true in
theorem at_no {b:Bool} {o:Int} {p:Part} (h:¬cnt b o p) :atB b o p=0:=by
 unfold atB;split
 · rename_i q
   exact Classical.byContradiction fun a=>h ⟨a,q.symm⟩
 · rfl
theorem twin_at (b:Bool) (o k:Int) (p:Part) :atB b k (zcT b o p)=if k=o then atB b o p else 0:=by
 unfold zcT
 by_cases h:cnt b o p
 · rw [if_pos h,skB_at h.1,h.2,at_o h,if_pos rfl]
 · rw [if_neg h,plain_at,at_no h];simp
theorem found_at (b:Bool) (o f k:Int) (p:Part) :atB b k (zcW b o f p)=if k=o then f * atB b o p else atB b k p:=by
 unfold zcW
 by_cases h:cnt b o p
 · rw [if_pos h,skB_at h.1,h.2]
   by_cases q:k=o
   · rw [if_pos q,if_pos q,at_o h,if_pos rfl]
   · rw [if_neg q,if_neg q,at_o h,if_neg q]
 · rw [if_neg h]
   by_cases q:k=o
   · rw [if_pos q,q,at_no h,Int.mul_zero]
   · rw [if_neg q]
theorem zeC {f:Part→Part} (hf:∀ p,shp (f p)=shp p) (ps:List Part) :zcK (ps.map f) ps:=by
 unfold zcK;rw [List.map_map];exact List.map_congr_left fun p _=>hf p
theorem same_mid (A B:List Part) {p q:Part} (h:shp q=shp p) :zcK (A ++ q :: B) (A ++ p :: B):=by
 unfold zcK;simp only [List.map_append,List.map_append,List.map_cons,List.map_cons,h]
theorem sum_mid (b:Bool) (A B:List Part) (p:Part) (k:Int) :sumB b (A ++ p :: B) k=sumB b A k + atB b k p + sumB b B k:=by
 unfold sumB;simp only [List.map_append,isum_app,List.map_cons];simp only [isum];lia
theorem sum_map (b:Bool) (f:Part→Part) (ps:List Part) (k:Int) :sumB b (ps.map f) k=isum (ps.map fun p=>atB b k (f p)):=by
 unfold sumB;rw [List.map_map];rfl
theorem twin_sum (b:Bool) (o:Int) (ps:List Part) (k:Int) :sumB b (ps.map (zcT b o)) k=if k=o then sumB b ps o else 0:=by
 rw [sum_map]
 by_cases q:k=o
 · rw [if_pos q];exact zeD fun p _=>by rw [twin_at,if_pos q]
 · rw [if_neg q];exact zfB fun p _=>by rw [twin_at,if_neg q]
theorem found_sum (b:Bool) (o f:Int) (ps:List Part) (k:Int) :sumB b (ps.map (zcW b o f)) k=if k=o then f * sumB b ps o else sumB b ps k:=by
 rw [sum_map]
 by_cases q:k=o
 · rw [if_pos q,sumB,← isum_mul];exact zeD fun p _=>by rw [found_at,if_pos q]
 · rw [if_neg q];exact zeD fun p _=>by rw [found_at,if_neg q]
theorem zfz (b:Bool) (ps:List Part) (k:Int) :sumB b (ps.map plainP) k=0:=by
 rw [sum_map];exact zfB fun p _=>plain_at _ _ _
section
variable {ps:List Part} {e:Int}
theorem zbD (ps:List Part) (e:Int) :((gG ps e).sg=0∧(gG ps e).od=0∧(e=0∨(topO (xs e ps)=0∧∀ k,0≤k→k≤3→xs e ps k=0)))∨
 (e≠0∧xs e ps (topO (xs e ps))≠0∧(gG ps e).sg=sgB (decide (0 < e))∧(gG ps e).od=topO (xs e ps)):=by
 by_cases he:e=0
 · refine .inl ?_
   rw [he,gG_0]
   exact ⟨rfl,rfl,.inl rfl⟩
 · rw [gG_eq he]
   by_cases hT:xs e ps (topO (xs e ps))=0
   · refine .inl ?_
     rw [hT,setB_0]
     have h0:topO (xs e ps)=0:=Classical.byContradiction fun q=>topO_ne q hT
     refine ⟨rfl,rfl,.inr ⟨h0,fun k h1 h2=>?_⟩⟩
     rcases Int.lt_or_le 0 k with q | q
     · exact topO_hi (by rw [h0];exact q) h2
     · rw [h0] at hT
       rw [show k=0 by lia];exact hT
   · exact .inr ⟨he,hT,setB_sg he hT,setB_od hT⟩
theorem sg_ne (b:Bool) :sgB b≠0:=by cases b <;> decide
theorem flx_sum (ps:List Part) (b:Bool) (o:Int) :isum (ps.map (flx (sgB b) o))=sn b (sumB b ps o):=by
 cases b
 · rw [List.map_congr_left (g:=fun p=>-atB false o p) fun p _=>flx_b false o p,isum_neg];rfl
 · rw [List.map_congr_left (g:=fun p=>atB true o p) fun p _=>flx_b true o p];rfl
theorem gG_r1:0 < (gG ps e).r1:=by
 by_cases he:e=0
 · rw [he,gG_0];exact (by decide:(0:Int) < 1)
 · rw [gG_eq he];exact setB_r1
theorem gG_end (ps:List Part) (e:Int) :rnd ((gG ps e).r0 * isum (ps.map (flx (gG ps e).sg (gG ps e).od))) (gG ps e).r1=if (gG ps e).sg=0 then 0 else if (gG ps e).q0=3 then e + (gG ps e).q1 else e:=by
 rcases zbD ps e with ⟨h1,_,_⟩ | ⟨h1,h2,h3,h4⟩
 · rw [if_pos h1,h1,zfB (fun p _=>flx_0 _ _),Int.mul_zero]
   unfold rnd
   have:=gG_r1 (ps:=ps) (e:=e)
   exact Int.ediv_eq_zero_of_lt (by lia) (by lia)
 · rw [if_neg (by rw [h3];exact sg_ne _),h3,h4,flx_sum,gG_eq h1,show sumB (decide (0 < e)) ps=xs e ps from rfl,setB_end h1 h2]
   have q:=setB_q (e:=e) (o:=topO (xs e ps)) (T:=xs e ps (topO (xs e ps)))
   have q0:=congrArg Prod.fst q
   have q1:=congrArg Prod.snd q
   dsimp only at q0 q1
   simp only [q0,q1]
   by_cases k:(repG (topO (xs e ps)) (xs e ps (topO (xs e ps))) e).1=3
   · rw [if_pos k,if_pos k,rep_eq3 k];dsimp only;lia
   · rw [if_neg k,if_neg k]
theorem twin_set (h:(gG ps e).sg≠0) :gG (ps.map (zcT (decide (0 < e)) (gG ps e).od)) e=gG ps e:=by
 rcases zbD ps e with ⟨h1,_,_⟩ | ⟨h1,h2,h3,h4⟩
 · exact absurd h1 h
 · have g:=zdJ (xs e ps)
   have t:∀ k,xs e (ps.map (zcT (decide (0 < e)) (gG ps e).od)) k=if k=(gG ps e).od then xs e ps (gG ps e).od else 0:=twin_sum (decide (0 < e)) (gG ps e).od ps
   rw [h4] at t ⊢
   rw [gG_of (o:=topO (xs e ps)) h1 g.1 g.2 (.inl (by rw [t,if_pos rfl];exact h2)) (fun k k1 _=>by rw [t,if_neg (by (with_reducible exact Int.ne_of_gt (by assumption)))]),t,if_pos rfl,gG_eq h1]
theorem plain_set (h:(gG ps e).sg=0) :gG (ps.map plainP) e=gG ps e:=by
 rcases zbD ps e with ⟨h1,_,h2⟩ | ⟨h1,h2,h3,h4⟩
 · by_cases he:e=0
   · simp only [he,gG_0,gG_0]
   · rcases h2 with h2 | ⟨h2,h3⟩
     · exact absurd h2 he
     · simp only [gG_of (o:=0) he (by decide) (by decide) (.inr rfl) (fun k _ _=>zfz _ _ _),show xs e (ps.map plainP) 0=0 from zfz _ _ _,gG_eq he,h2,h3 0 (by decide) (by decide)]
 · exact absurd (h3.symm.trans h) (sg_ne _)
theorem twin_flx (h:(gG ps e).sg≠0) :(ps.map (zcT (decide (0 < e)) (gG ps e).od)).map (flx (gG ps e).sg (gG ps e).od)=ps.map (flx (gG ps e).sg (gG ps e).od):=by
 rcases zbD ps e with ⟨h1,_,_⟩ | ⟨h1,h2,h3,h4⟩
 · exact absurd h1 h
 · rw [List.map_map,h3]
   exact List.map_congr_left fun p _=>by rw [Function.comp,flx_b,flx_b,twin_at,if_pos rfl]
theorem plain_flx (h:(gG ps e).sg=0) :(ps.map plainP).map (flx (gG ps e).sg (gG ps e).od)=ps.map (flx (gG ps e).sg (gG ps e).od):=by
 rw [List.map_map,h]
 exact List.map_congr_left fun p _=>by simp only [Function.comp,flx_0,flx_0]
theorem zdA (h:(gG ps e).sg≠0) :∃ p∈ ps,cnt (decide (0 < e)) (gG ps e).od p:=by
 rcases zbD ps e with ⟨h1,_,_⟩ | ⟨h1,h2,h3,h4⟩
 · exact absurd h1 h
 · refine Classical.byContradiction fun q=>h2 ?_
   rw [← h4]
   exact zfB fun p m=>at_no fun c=>q ⟨p,m,c⟩
end
section
variable {A B:List Part} {p:Part} {e:Int}
theorem kern_sum (b:Bool) (w:Int) (k:Int) :sumB b (A ++ .kern w 1 :: B) k=sumB b (A ++ p :: B) k - atB b k p:=by
 simp only [sum_mid,sum_mid,show atB b k (.kern w 1)=0 by unfold atB;split <;> rfl];lia
theorem kern_xs (w:Int) (k:Int) :xs e (A ++ .kern w 1 :: B) k=xs e (A ++ p :: B) k - atB (decide (0 < e)) k p:=kern_sum _ w k
theorem kern_same (ho:OOK p) (w:Int) (h:e=0∨amB (decide (0 < e)) p=0∨orB (decide (0 < e)) p < (gG (A ++ p :: B) e).od) :
 gG (A ++ .kern w 1 :: B) e=gG (A ++ p :: B) e∧(A ++ .kern w 1 :: B).map (flx (gG (A ++ p :: B) e).sg (gG (A ++ p :: B) e).od)=(A ++ p :: B).map (flx (gG (A ++ p :: B) e).sg (gG (A ++ p :: B) e).od):=by
 have fin:∀ sg od,flx sg od p=0→(A ++ .kern w 1 :: B).map (flx sg od)=(A ++ p :: B).map (flx sg od):=fun sg od q=>by
  simp only [List.map_append,List.map_append,List.map_cons,List.map_cons,q];rfl
 by_cases he:e=0
 · rw [he,gG_0,gG_0];exact ⟨rfl,fin _ _ (flx_0 _ _)⟩
 · by_cases ha:amB (decide (0 < e)) p=0
   · have z:∀ k,atB (decide (0 < e)) k p=0:=fun k=>by unfold atB;rw [ha];split <;> rfl
     have X:xs e (A ++ .kern w 1 :: B)=xs e (A ++ p :: B):=by funext k;rw [kern_xs (p:=p),z];lia
     refine ⟨by rw [gG_eq he,gG_eq he,X],fin _ _ ?_⟩
     rcases zbD (A ++ p :: B) e with ⟨h1,_,_⟩ | ⟨h1,h2,h3,h4⟩
     · rw [h1];exact flx_0 _ _
     · rw [h3,flx_b,z];cases decide (0 < e) <;> rfl
   · have hr:orB (decide (0 < e)) p < (gG (A ++ p :: B) e).od:=by
      rcases h with h | h | h
      · exact absurd h he
      · exact absurd h ha
      · exact h
     have h0:=(ho.b (decide (0 < e))).1
     rcases zbD (A ++ p :: B) e with ⟨_,h1,_⟩ | ⟨h1,h2,h3,h4⟩
     · lia
     · have g:=zdJ (xs e (A ++ p :: B))
       have z:∀ k,topO (xs e (A ++ p :: B))≤k→atB (decide (0 < e)) k p=0:=fun k q=>by unfold atB;rw [if_neg (by lia)]
       have X:∀ k,topO (xs e (A ++ p :: B))≤k→xs e (A ++ .kern w 1 :: B) k=xs e (A ++ p :: B) k:=fun k q=>by rw [kern_xs (p:=p),z k q];lia
       refine ⟨?_,fin _ _ (by simp only [h3,h4,flx_b,z _ (Int.le_refl _)];cases decide (0 < e) <;> rfl)⟩
       simp only [gG_of (o:=topO (xs e (A ++ p :: B))) he g.1 g.2 (.inl (by rw [X _ (Int.le_refl _)];exact h2)) (fun k k1 k2=>by rw [X _ (by (with_reducible exact Int.le_of_lt (by assumption)))];exact topO_hi k1 k2),X _ (Int.le_refl _),gG_eq he]
theorem kern_other (ho:OOK p) (w:Int) (h1:e≠0) (h2:amB (decide (0 < e)) p≠0) (h3:¬ orB (decide (0 < e)) p < (gG (A ++ p :: B) e).od) :gG (A ++ .kern w 1 :: B) e≠gG (A ++ p :: B) e:=by
 intro q
 have hb:=ho.b (decide (0 < e))
 have K:=fun k=>kern_xs (A:=A) (B:=B) (p:=p) (e:=e) w k
 have Kr:atB (decide (0 < e)) (orB (decide (0 < e)) p) p=amB (decide (0 < e)) p:=if_pos rfl
 have le:∀ X:Int→Int,X (orB (decide (0 < e)) p)≠0→orB (decide (0 < e)) p≤topO X:=fun X=>topO_le hb.1 hb.2
 rw [gG_eq h1,gG_eq h1] at q
 rcases zbD (A ++ p :: B) e with ⟨_,_,h | ⟨h4,h5⟩⟩ | ⟨_,h4,_,h5⟩
 · exact h1 h
 · have x0:xs e (A ++ .kern w 1 :: B) (orB (decide (0 < e)) p)≠0:=by simp only [K,Kr,h5 _ hb.1 hb.2];lia
   have l:=le _ x0
   rcases setB_inj h1 q with ⟨a,b⟩ | ⟨a,b,_⟩
   · by_cases z:topO (xs e (A ++ .kern w 1 :: B))=0
     · rw [z] at a l
       rw [show orB (decide (0 < e)) p=0 by lia] at x0
       exact x0 a
     · exact topO_ne z a
   · exact b (h5 _ (by rw [h4];decide) (by rw [h4];decide))
 · skip
   rcases setB_inj h1 q with ⟨a,b⟩ | ⟨a,b,c,d⟩
   · exact h4 b
   · rw [c] at d
     by_cases z:orB (decide (0 < e)) p=topO (xs e (A ++ p :: B))
     · have:=K (topO (xs e (A ++ p :: B)))
       rw [← z] at this d
       simp only [Kr] at this
       lia
     · have x0:xs e (A ++ .kern w 1 :: B) (orB (decide (0 < e)) p)≠0:=by
        simp only [K,Kr,topO_hi (X:=xs e (A ++ p :: B)) (k:=orB (decide (0 < e)) p) (by lia) hb.2];lia
       have l:=le _ x0
       lia
end
section
variable {A B ps:List Part} {p:Part} {e:Int}
theorem one_sum {b:Bool} (h:amB b p≠0) (am k:Int) :sumB b (A.map plainP ++ skB b p am :: B.map plainP) k=if k=orB b p then am else 0:=by
 simp only [sum_mid,zfz,zfz,skB_at h];lia
theorem one_set (h:(gG (A ++ p :: B) e).sg≠0) (hc:cnt (decide (0 < e)) (gG (A ++ p :: B) e).od p) :
 gG (A.map plainP ++ skB (decide (0 < e)) p (xs e (A ++ p :: B) (gG (A ++ p :: B) e).od) :: B.map plainP) e=gG (A ++ p :: B) e∧
  isum ((A.map plainP ++ skB (decide (0 < e)) p (xs e (A ++ p :: B) (gG (A ++ p :: B) e).od) :: B.map plainP).map (flx (gG (A ++ p :: B) e).sg (gG (A ++ p :: B) e).od))=isum ((A ++ p :: B).map (flx (gG (A ++ p :: B) e).sg (gG (A ++ p :: B) e).od)):=by
 rcases zbD (A ++ p :: B) e with ⟨h1,_,_⟩ | ⟨h1,h2,h3,h4⟩
 · exact absurd h1 h
 · have g:=zdJ (xs e (A ++ p :: B))
   have t:∀ am k,xs e (A.map plainP ++ skB (decide (0 < e)) p am :: B.map plainP) k=if k=orB (decide (0 < e)) p then am else 0:=fun am k=>one_sum hc.1 am k
   rw [hc.2] at t
   refine ⟨?_,?_⟩
   · rw [h4] at t ⊢
     rw [gG_of (o:=topO (xs e (A ++ p :: B))) h1 g.1 g.2 (.inl (by rw [t,if_pos rfl];exact h2)) (fun k k1 _=>by rw [t,if_neg (by (with_reducible exact Int.ne_of_gt (by assumption)))]),t,if_pos rfl,gG_eq h1]
   · simp only [h3,flx_sum,flx_sum]
     exact congrArg (sn _) ((t _ _).trans (if_pos rfl))
theorem found_set {f:Int} (h:(gG ps e).sg≠0) (hf:f≠0) :gG (ps.map (zcW (decide (0 < e)) (gG ps e).od f)) e=setB e (gG ps e).od (f * xs e ps (gG ps e).od):=by
 rcases zbD ps e with ⟨h1,_,_⟩ | ⟨h1,h2,h3,h4⟩
 · exact absurd h1 h
 · have g:=zdJ (xs e ps)
   have t:∀ k,xs e (ps.map (zcW (decide (0 < e)) (gG ps e).od f)) k=if k=(gG ps e).od then f * xs e ps (gG ps e).od else xs e ps k:=found_sum _ _ f ps
   rw [h4] at t ⊢
   rw [gG_of (o:=topO (xs e ps)) h1 g.1 g.2 (.inl (by rw [t,if_pos rfl];exact Int.mul_ne_zero hf h2)) (fun k k1 k2=>by rw [t,if_neg (by (with_reducible exact Int.ne_of_gt (by assumption)))];exact topO_hi k1 k2),t,if_pos rfl]
structure Fold (g g':Setg) (f:Int) :Prop where
 sg:g'.sg=g.sg
 od:g'.od=g.od
 r:g'.r0 * f * g.r1=g.r0 * g'.r1
 q0:g'.q0=g.q0
 q1:0≤g'.q1
 q2:g'.q1≤g.q1
theorem found_fold {f:Int} (h:(gG ps e).sg≠0) (hf:f≠0) (ho:(gG ps e).od=0→0 < f) (hr:(gG ps e).q0≠3) :Fold (gG ps e) (gG (ps.map (zcW (decide (0 < e)) (gG ps e).od f)) e) f:=by
 rw [found_set h hf]
 rcases zbD ps e with ⟨h1,_,_⟩ | ⟨h1,h2,h3,h4⟩
 · exact absurd h1 h
 · rw [h4] at ho ⊢
   rw [gG_eq h1] at hr ⊢
   have q:=setB_q (e:=e) (o:=topO (xs e ps)) (T:=xs e ps (topO (xs e ps)))
   have q':=setB_q (e:=e) (o:=topO (xs e ps)) (T:=f * xs e ps (topO (xs e ps)))
   have q0:=congrArg Prod.fst q
   have q1:=congrArg Prod.snd q
   have q0':=congrArg Prod.fst q'
   have q1':=congrArg Prod.snd q'
   dsimp only at q0 q1 q0' q1'
   refine x0_6 (setB_fold h1 h2 hf ho (by rw [← q0];exact hr)) fun a1 a2 a3 a4 a5 a6=>?_
   exact ⟨a1,a2,a3,by simp only [q0,q0'];exact a4,by rw [q1'];exact a5,by simp only [q1,q1'];exact a6⟩
theorem found_flx {f:Int} (h:(gG ps e).sg≠0) :(ps.map (zcW (decide (0 < e)) (gG ps e).od f)).map (flx (gG ps e).sg (gG ps e).od)=ps.map fun p=>f * flx (gG ps e).sg (gG ps e).od p:=by
 rcases zbD ps e with ⟨h1,_,_⟩ | ⟨h1,h2,h3,h4⟩
 · exact absurd h1 h
 · rw [List.map_map,h3]
   exact List.map_congr_left fun p _=>by
    rw [Function.comp,flx_b,flx_b,found_at,if_pos rfl]
    cases decide (0 < e)
    · exact (Int.mul_neg _ _).symm
    · rfl
theorem Fold.rnd {g g':Setg} {f:Int} (F:Fold g g' f) (h:0 < g.r1) (h':0 < g'.r1) (y:Int) :Mine.Pw.rnd (g'.r0 * (f * y)) g'.r1=Mine.Pw.rnd (g.r0 * y) g.r1:=by
 refine rnd_rat h' h ?_
 have:=F.r
 rw [← Int.mul_assoc,Int.mul_assoc (g'.r0 * f),Int.mul_comm y g.r1,← Int.mul_assoc,this,Int.mul_assoc,Int.mul_assoc,Int.mul_comm y g'.r1]
noncomputable def cntI (b:Bool) (o:Int) :Nat→List Part→List Nat
 | _,[]=>[]
 | k,p :: ps=>if cnt b o p then k :: cntI b o (k + 1) ps else cntI b o (k + 1) ps
theorem cntI_snoc (b:Bool) (o:Int) (p:Part) :∀ (k:Nat) (d:List Part),cntI b o k (d ++ [p])=cntI b o k d ++ if cnt b o p then [k + d.length] else []
 | k,[]=>by rfl
 | k,q :: d=>by
  have ih:=cntI_snoc b o p (k + 1) d
  rw [show k + 1 + d.length=k + (q :: d).length by rw [List.length_cons];lia] at ih
  simp only [List.cons_append,cntI,ih]
  split <;> rfl
theorem cntI_mem {b:Bool} {o:Int} {j:Nat} :∀ {k:Nat} {ps:List Part},j∈ cntI b o k ps→∃ p,k≤j∧ps[j - k]? =some p∧cnt b o p
 | k,[],h=>nomatch h
 | k,p :: ps,h=>by
  unfold cntI at h
  by_cases c:cnt b o p
  · rw [if_pos c] at h
    rcases List.mem_cons.mp h with rfl | h
    · exact ⟨p,Nat.le_refl _,by rw [Nat.sub_self];rfl,c⟩
    · refine x1_3 (cntI_mem h) fun q h1 h2 h3=>?_
      exact ⟨q,by (with_reducible exact Nat.le_of_succ_le (by assumption)),by rw [sub_succ h1];exact h2,h3⟩
  · rw [if_neg c] at h
    refine x1_3 (cntI_mem h) fun q h1 h2 h3=>?_
    exact ⟨q,by (with_reducible exact Nat.le_of_succ_le (by assumption)),by rw [sub_succ h1];exact h2,h3⟩
theorem cntI_nil {b:Bool} {o:Int} :∀ {k:Nat} {ps:List Part},cntI b o k ps= [] ↔ ∀ p∈ ps,¬cnt b o p
 | k,[]=>by simp [cntI]
 | k,p :: ps=>by
  unfold cntI
  by_cases c:cnt b o p
  · rw [if_pos c]
    exact ⟨fun q=>(nomatch q),fun q=>absurd c (q p (.head _))⟩
  · rw [if_neg c,cntI_nil]
    exact ⟨fun q r m=>by
     rcases List.mem_cons.mp m with rfl | m
     · exact c
     · exact q r m,fun q r m=>q r (.tail _ m)⟩
theorem cntI_len (b:Bool) (o:Int) :∀ (k:Nat) (ps:List Part),(cntI b o k ps).length≤ps.length
 | k,[]=>Nat.le_refl _
 | k,p :: ps=>by
  have:=cntI_len b o (k + 1) ps
  unfold cntI;split
  · simp only [List.length_cons,List.length_cons];lia
  · simp only [List.length_cons];lia
noncomputable def amI (b:Bool) (ps:List Part) (k:Nat) :Int:=match ps[k]? with | some p=>amB b p | none=>0
theorem cnt_total (b:Bool) (o:Int) :∀ (A ps:List Part),isum ((cntI b o A.length ps).map (amI b (A ++ ps)))=sumB b ps o
 | A,[]=>rfl
 | A,p :: ps=>by
  have ih:=cnt_total b o (A ++ [p]) ps
  simp only [List.length_append,List.length_singleton,List.append_assoc,List.singleton_append] at ih
  have e:amI b (A ++ p :: ps) A.length=amB b p:=by unfold amI;simp
  unfold sumB at *
  simp only [cntI]
  by_cases c:cnt b o p
  · rw [if_pos c,List.map_cons,List.map_cons]
    simp only [isum]
    rw [ih,at_o c,if_pos rfl,e]
  · rw [if_neg c,List.map_cons]
    simp only [isum]
    simp only [ih,at_no c,Int.zero_add]
theorem cnt_set (b:Bool) (o:Int) (F:Nat→Part) (g:Part→Part) :∀ (A ps:List Part),(∀ j p,ps[j]? =some p→F (A.length + j)=g p)→
 (cntI b o A.length ps).foldl (fun qs k=>qs.set k (F k)) (A ++ ps)=A ++ ps.map fun p=>if cnt b o p then g p else p
 | A,[],_=>by rfl
 | A,p :: ps,hF=>by
  have next:∀ q:Part,(cntI b o (A.length + 1) ps).foldl (fun qs k=>qs.set k (F k)) (A ++ q :: ps)=A ++ q :: ps.map fun p=>if cnt b o p then g p else p:=fun q=>by
   have ih:=cnt_set b o F g (A ++ [q]) ps (fun j p h=>by
    simp only [List.length_append,List.length_singleton,Nat.add_assoc]
    exact hF (1 + j) p (by rw [Nat.add_comm];exact h))
   simp only [List.length_append,List.length_singleton,List.append_assoc,List.singleton_append,List.append_assoc,List.singleton_append] at ih
   exact ih
  simp only [List.map_cons]
  simp only [cntI]
  by_cases c:cnt b o p
  · rw [if_pos c,if_pos c,List.foldl_cons,show (A ++ p :: ps).set A.length (F A.length)=A ++ g p :: ps by
     have:=hF 0 p rfl
     rw [Nat.add_zero] at this
     rw [this];simp]
    exact next _
  · rw [if_neg c,if_neg c]
    exact next _
end
structure AOK (c:Int) (p:Part) :Prop where
 s:-c≤amB true p∧amB true p≤c
 z:-c≤amB false p∧amB false p≤c
theorem AOK.b {c:Int} {p:Part} (h:AOK c p) (b:Bool) :-c≤amB b p∧amB b p≤c:=by cases b <;> first | exact h.s | exact h.z
theorem POK.aok {p:Part} (h:POK p) :AOK 4000000 p:=by
 cases p with
 | glue w s so sh ho=>exact ⟨h.2.1,h.2.2.1⟩
 | _=>exact ⟨(by decide:(-4000000:Int)≤0∧(0:Int)≤4000000),(by decide:(-4000000:Int)≤0∧(0:Int)≤4000000)⟩
theorem POK.ook {p:Part} (h:POK p) :OOK p:=by
 cases p with
 | glue w s so sh ho=>exact ⟨h.2.2.2.1,h.2.2.2.2.1,h.2.2.2.2.2.1,h.2.2.2.2.2.2⟩
 | _=>trivial
theorem AOK.mono {c d:Int} {p:Part} (h:AOK c p) (l:c≤d) :AOK d p:=⟨by have:=h.s;lia,by have:=h.z;lia⟩
theorem skB_aok {b:Bool} {p:Part} {am c:Int} (hg:∃ w s so sh ho,p= .glue w s so sh ho) (h:-c≤am∧am≤c) :AOK c (skB b p am):=by
 refine x5_1 hg ?_;(try clear hg);rintro w s so sh ho rfl
 cases b
 · exact ⟨by show -c≤(0:Int)∧(0:Int)≤c;lia,h⟩
 · exact ⟨h,by show -c≤(0:Int)∧(0:Int)≤c;lia⟩
theorem zdS {p:Part} {c:Int} (hc:0≤c) (h:AOK c p) :AOK c (plainP p):=by
 cases p with
 | glue w s so sh ho=>exact ⟨by show -c≤(0:Int)∧(0:Int)≤c;lia,by show -c≤(0:Int)∧(0:Int)≤c;lia⟩
 | _=>exact h
theorem zeX {c:Int} (hc:0≤c) {ps:List Part} (h:∀ p∈ ps,AOK c p) (b:Bool) (k:Int) :-(c * ps.length)≤sumB b ps k∧sumB b ps k≤c * ps.length:=
 isum_bnd fun p m=>by
  have:=(h p m).b b
  unfold atB;split <;> first | assumption | lia
theorem bnd_of {c:Int} (hc:0≤c) {ps:List Part} (h:∀ p∈ ps,AOK c p) (hl:c * ps.length < 18446744073709551616) :bnd (sumS ps)∧bnd (sumZ ps):=
 ⟨fun k=>by rw [sumS_eq];have:=(zeX hc h true k).2;(with_reducible exact Int.lt_of_le_of_lt (by assumption) (by assumption)),fun k=>by rw [sumZ_eq];have:=(zeX hc h false k).2;(with_reducible exact Int.lt_of_le_of_lt (by assumption) (by assumption))⟩
theorem mx_le {a b c:Int} (h1:a≤c) (h2:b≤c) :mx a b≤c:=by unfold mx;split <;> first | assumption | lia
theorem mx_ge {a b:Int} (h1:0≤a) :0≤mx a b:=by unfold mx;split <;> first | assumption | lia
theorem mx_fold {f:Part→Int} {c:Int} :∀ {ps:List Part} {a:Int},(∀ p∈ ps,f p≤c)→0≤a→a≤c→0≤ps.foldl (fun m p=>mx m (f p)) a∧ps.foldl (fun m p=>mx m (f p)) a≤c
 | [],a,_,h1,h2=>⟨h1,h2⟩
 | p :: ps,a,h,h1,h2=>mx_fold (ps:=ps) (fun q m=>h q (.tail _ m)) (mx_ge h1) (mx_le h2 (h p (.head _)))
theorem optB {o:Option Int} (h:smallO o) :small (o.getD 0):=by
 cases o with
 | none=>exact ⟨by decide,by decide⟩
 | some i=>exact h i rfl
structure PB (p:Part) :Prop where
 h:p.lnH≤8000000
 d:p.lnD≤8000000
 a:p.acr≤8000000
 e:small p.dep
 f:∀ u,-8000000≤p.fsz u∧p.fsz u≤8000000
theorem POK.pb {p:Part} (h:POK p) :PB p:=by
 have z:∀ x:Int,small x→x≤8000000:=fun x h=>by have:=h.2;lia
 have f:∀ x:Int,small x→-8000000≤x∧x≤8000000:=fun x h=>by have:=h.1;have:=h.2;lia
 cases p with
 | glue w s so sh ho=>exact ⟨z 0 (by decide),z 0 (by decide),z 0 (by decide),(by decide:small 0),fun u=>f _ h.1⟩
 | kern w k=>exact ⟨z 0 (by decide),z 0 (by decide),z 0 (by decide),(by decide:small 0),fun u=>f _ h.1⟩
 | pen v=>exact ⟨z 0 (by decide),z 0 (by decide),z 0 (by decide),(by decide:small 0),fun u=>by cases u <;> exact f 0 (by decide)⟩
 | rule w x d=>
  refine x0_3 h ?_;intro h1 h2 h3
  have h1:=optB h1
  have h2:=optB h2
  have h3:=optB h3
  exact ⟨z _ h2,z _ h3,z _ h1,h3,fun u=>by
   cases u
   · exact f _ h1
   · show -8000000≤x.getD 0 + d.getD 0∧x.getD 0 + d.getD 0≤8000000
     lia⟩
 | box k w x d sf=>
  refine x0_5 h ?_;intro _ h1 h2 h3 h4
  exact ⟨by show x - sf≤8000000;lia,by show d + sf≤8000000;lia,by show w + sf≤8000000;lia,h3,fun u=>by
   cases u
   · exact f _ h1
   · show -8000000≤x + d∧x + d≤8000000
     lia⟩
theorem colL_bnd:∀ {ps:List Part},(∀ p∈ ps,POK p)→∀ a:Int × Int × Int,0≤a.2.1→a.2.1≤8000000→small a.2.2→
 0≤(ps.foldl colF a).2.1∧(ps.foldl colF a).2.1≤8000000∧small (ps.foldl colF a).2.2
 | [],_,a,h1,h2,h3=>⟨h1,h2,h3⟩
 | p :: ps,h,(x,y,z),h1,h2,h3=>by
  have pb:=(h p (.head _)).pb
  have m1:=mx_ge (b:=p.acr) h1
  have m2:=mx_le h2 pb.a
  refine colL_bnd (fun q m=>h q (.tail _ m)) _ ?_ ?_ ?_ <;> cases p <;> first | exact m1 | exact m2 | exact h3 | exact pb.e
noncomputable def lastF (l:Int) :Part→Int
 | .pen _=>l
 | p=>p.dep
noncomputable def zbZ (ps:List Part) :Int:=ps.foldl lastF 0
theorem colL_last:∀ (ps:List Part) (a:Int × Int × Int),(ps.foldl colF a).2.2=ps.foldl lastF a.2.2
 | [],_=>rfl
 | p :: ps,(x,y,z)=>by
  simp only [List.foldl_cons,List.foldl_cons,colL_last ps]
  cases p <;> rfl
theorem colL_sum:∀ (ps:List Part) (a:Int × Int × Int),(ps.foldl colF a).1 + (ps.foldl colF a).2.2=a.1 + a.2.2 + isum (ps.map (fsz true))
 | [],a=>(Int.add_zero _).symm
 | p :: ps,(x,y,z)=>by
  simp only [List.foldl_cons,colL_sum ps,List.map_cons]
  simp only [isum]
  have pen0:∀ v,(Part.pen v).fsz true=0:=fun _=>rfl
  cases p with
  | glue w s so sh ho=>show x + z + w + 0 + _ =x + z + (w + _);lia
  | kern w k=>show x + (z + w) + 0 + _ =x + z + (w + _);lia
  | pen v=>show x + z + _ =x + z + (0 + _);lia
  | rule w a d=>show x + (z + a.getD 0) + d.getD 0 + _ =x + z + (a.getD 0 + d.getD 0 + _);lia
  | box k w a d sf=>show x + (z + a) + d + _ =x + z + (a + d + _);lia
noncomputable def lowU (u:Bool) (ps:List Part) (most:Int) :Int:=cond u (if most < zbZ ps then most else zbZ ps) 0
theorem natU_own (u:Bool) (ps:List Part) (most:Int) :natU u ps most=isum (ps.map (fsz u)) - lowU u ps most:=by
 cases u
 · show natL ps=isum (ps.map (fsz false)) - 0
   rw [Int.sub_zero]
   exact zeD fun p _=>by cases p <;> rfl
 · show natV ps most=isum (ps.map (fsz true)) - if most < zbZ ps then most else zbZ ps
   have h1:=colL_sum ps (0,0,0)
   have h2:(colL ps).2.2=zbZ ps:=colL_last ps (0,0,0)
   have h3:(colL ps).1 + (colL ps).2.2=isum (ps.map (fsz true)):=by unfold colL;rw [h1];show (0:Int) + 0 + _ = _;lia
   unfold natV
   rw [← h2,← h3]
   split <;> lia
theorem lastD_small {ps:List Part} (h:∀ p∈ ps,POK p) :small (zbZ ps):=by
 have h2:(colL ps).2.2=zbZ ps:=colL_last ps (0,0,0)
 simp only [← h2]
 exact (colL_bnd h (0,0,0) (by decide) (by decide) (by decide)).2.2
theorem fit_of {ps:List Part} {most:Int} (h:∀ p∈ ps,POK p) (hl:ps.length≤8) (hm:0≤most) (hm':most≤1073741823) :Fit ps most:=by
 have b:=bnd_of (c:=4000000) (by decide) (fun p m=>(h p m).aok) (by lia)
 have h1:=mx_fold (f:=lnH) (ps:=ps) (a:=0) (c:=8000000) (fun p m=>(h p m).pb.h) (by decide) (by decide)
 have h2:=mx_fold (f:=lnD) (ps:=ps) (a:=0) (c:=8000000) (fun p m=>(h p m).pb.d) (by decide) (by decide)
 have h3:=colL_bnd h (0,0,0) (by decide) (by decide) (by decide)
 have d:∀ x:Int,-8000000≤x→x≤8000000→dim x:=fun x a b=>⟨by show (-1073741823:Int)≤x;lia,by show x≤(1073741823:Int);lia⟩
 refine ⟨⟨by show (-1073741823:Int)≤most;lia,by assumption⟩,d _ (by have:=h1.1;unfold hgtL;lia) h1.2,d _ (by have:=h2.1;unfold depL;lia) h2.2,d _ (by have:=h3.1;unfold colL;lia) h3.2.1,?_,b.1,b.2⟩
 unfold depV
 have h4:small (colL ps).2.2:=h3.2.2
 split
 · exact d _ (by lia) (by lia)
 · exact h4.dim
theorem Fit.put {ps qs:List Part} {most:Int} (F:Fit ps most) (h:zcK ps qs) (hl:ps.length≤8) (ha:∀ q∈ qs,AOK 400000000 q) :Fit qs most:=by
 have b:=bnd_of (c:=400000000) (by decide) ha (by have:=same_len h;lia)
 exact F.same h b.1 b.2
theorem own_bnd {ps:List Part} (u:Bool) {most:Int} (h:∀ p∈ ps,POK p) (hl:ps.length≤8) (hm:0≤most) :-100000000≤natU u ps most∧natU u ps most≤100000000:=by
 have a:=isum_bnd (f:=fsz u) (c:=8000000) fun p m=>(h p m).pb.f u
 have l:=lastD_small h
 rw [natU_own]
 unfold lowU
 cases u
 · simp only [cond];lia
 · simp only [cond];split <;> lia
theorem gG_QOK {ps:List Part} {e:Int} (ha:∀ q∈ ps,AOK 400000000 q) (hl:ps.length≤8) (he:e.natAbs < 18446744073709551616) :QOK (gG ps e):=by
 by_cases q:e=0
 · simp only [q,gG_0]
   exact ⟨(by decide:(0:Int).natAbs < 18446744073709551616),(by decide:(0:Int) < 1),(by decide:(1:Int) < 4611686018427387904)⟩
 · rw [gG_eq q]
   refine setB_QOK he ?_
   have:-(400000000 * (ps.length:Int))≤xs e ps (topO (xs e ps))∧xs e ps (topO (xs e ps))≤400000000 * ps.length:=zeX (by decide) ha (decide (0 < e)) (topO (xs e ps))
   lia
theorem c41 (n:Nat) (h:zax) (cell more:Int) :∃ o,zaB (n + 1) 41 [.int cell,.int more] h= .ok (.ref h.length) (h ++ [o])∧Rng (h ++ [o]) h.length:=by
 have e:=run 41 f41 n [.int cell,.int more] h [] rfl rfl ⟨by decide,by decide,by decide,by decide⟩ (.inl (by decide)) (by decide)
 have z1:(0:Int)≤(2 * (cell.natAbs:Int) + (if decide (cell < 0)=true then 1 else 0) + (more.natAbs:Int)) % 2147483629:=Int.emod_nonneg _ (by decide)
 have z2:(2 * (cell.natAbs:Int) + (if decide (cell < 0)=true then 1 else 0) + (more.natAbs:Int)) % 2147483629 < 2147483629:=Int.emod_lt_of_pos _ (by decide)
 refine ⟨_,e,_,_,_,zaD _ _,?_,?_,?_⟩
 · split <;> lia
 · lia
 · lia
theorem slice_to {h:zax} {a m k:Nat} {vs:List MV} (e:h[a]? =some (.list vs m)) (hl:vs.length≤4000) :zbT true (.ref a) (.int k) h= .ok (.ref h.length) (h ++ [.list (vs.take k) 0]):=by
 have l:(vs.take k).length≤4096:=by rw [List.length_take];lia
 simp only [zbT,items?,e,Int.toNat_natCast]
 rw [if_pos (Int.natCast_nonneg k)]
 simp only [zaR,if_true,if_pos l]
theorem slice_from {h:zax} {a m:Nat} {k:Nat} {vs:List MV} (e:h[a]? =some (.list vs m)) (hl:vs.length≤4000) :zbT false (.ref a) (.int k) h= .ok (.ref h.length) (h ++ [.list (vs.drop k) 0]):=by
 have l:(vs.drop k).length≤4096:=by rw [List.length_drop];lia
 simp only [zbT,items?,e,Int.toNat_natCast]
 rw [if_pos (Int.natCast_nonneg k)]
 simp only [zaR,Bool.false_eq_true,if_false,if_pos l]
theorem zeY {α:Type} {ps:List α} {k:Nat} {p:α} (h:ps[k]? =some p) :ps=ps.take k ++ p :: ps.drop (k + 1):=by
 have h1:=(List.getElem?_eq_some_iff.mp h)
 refine x1_1 h1 ?_;(try clear h1);intro h1 h2
 subst h2
 exact ((congrArg (ps.take k ++ ·) (List.getElem_cons_drop h1)).trans (List.take_append_drop k ps)).symm
section
variable {P:Nat→Prop} {h H:zax} {a ver k:Nat} {vs:List MV} {ps:List Part} {v:MV} {q:Part}
structure Mid (P:Nat→Prop) (h:zax) (a:Nat) (vs:List MV) (ps:List Part) (k i1:Nat) (H2:zax) (v:MV) (q:Part) (i5:Nat) (H5:zax) :Prop where
 o1:(H2 ++ [MObj.list [v] 0])[i1]? =some (MObj.list (vs.take k) 0)
 o2:(H2 ++ [MObj.list [v] 0])[H2.length]? =some (MObj.list [v] 0)
 l1:(vs.take k ++ [v]).length≤4096
 s2:zbT false (.ref a) (.int (k + 1)) ((H2 ++ [MObj.list [v] 0]) ++ [MObj.list (vs.take k ++ [v]) 0])= .ok (.ref i5) H5
 o3:H5[(H2 ++ [MObj.list [v] 0]).length]? =some (MObj.list (vs.take k ++ [v]) 0)
 o4:H5[i5]? =some (MObj.list (vs.drop (k + 1)) 0)
 l2:(vs.take k ++ [v] ++ vs.drop (k + 1)).length≤4096
 e:(H5 ++ [MObj.list (vs.take k ++ [v] ++ vs.drop (k + 1)) 0])[H5.length]? =some (MObj.list (vs.take k ++ [v] ++ vs.drop (k + 1)) 0)
 g:Gr [] h (H5 ++ [MObj.list (vs.take k ++ [v] ++ vs.drop (k + 1)) 0])
 r:zaK P (H5 ++ [MObj.list (vs.take k ++ [v] ++ vs.drop (k + 1)) 0]) (vs.take k ++ [v] ++ vs.drop (k + 1)) (ps.take k ++ q :: ps.drop (k + 1))
theorem mid (ha:h[a]? =some (.list vs ver)) (r:zaK P h vs ps) (hk:k < vs.length) (hl:vs.length < 3900) :
 ∃ i1 H1,zbT true (.ref a) (.int k) h= .ok (.ref i1) H1∧Gr [] h H1∧∀ H2 v q,Gr [] H1 H2→RepP P H2 v q→∃ i5 H5,Mid P h a vs ps k i1 H2 v q i5 H5:=by
 have n:∀ j:Nat,j ∉ ([] :List Nat):=fun j m=>nomatch m
 refine ⟨_,_,slice_to ha (by lia),Gr.app _ _ _,fun H v q g rv=>?_⟩
 have g1:Gr [] h H:=(Gr.app _ _ _).trans g
 have l1:(vs.take k ++ [v]).length=k + 1:=by simp only [List.length_append,List.length_take,List.length_singleton];lia
 have l2:(vs.take k ++ [v] ++ vs.drop (k + 1)).length=vs.length:=by simp only [List.length_append,l1,List.length_drop];lia
 refine ⟨_,_,zaJ (g.lst (zaD _ _) (n _)),zaD _ _,by lia,slice_from (k:=k + 1) (zaJ (zaJ (g1.lst ha (n _)))) (by lia),zaJ (zaD _ _),zaD _ _,by lia,zaD _ _,(((g1.push _).push _).push _).push _,?_⟩
 simp only [show ps.take k ++ q :: ps.drop (k + 1)=ps.take k ++ [q] ++ ps.drop (k + 1) by simp]
 have r4:=r.imp fun _ _ x=>x.gr ((((g1.push [MObj.list [v] 0]).push [MObj.list (vs.take k ++ [v]) 0]).push [MObj.list (vs.drop (k + 1)) 0]).push [MObj.list (vs.take k ++ [v] ++ vs.drop (k + 1)) 0]) fun j _=>n j
 exact ((r4.take k).app (.cons (rv.gr (((((Gr.refl [] H).push _).push _).push _).push _) fun j _=>n j) .nil)).app (r4.drop (k + 1))
end
theorem set_ne {h:zax} {g g':Setg} (q:g≠g') :eqH h (.tup [.int g.sg,.int g.od,.tup [.int g.r0,.int g.r1],.tup [.int g.q0,.int g.q1]]) (.tup [.int g'.sg,.int g'.od,.tup [.int g'.r0,.int g'.r1],.tup [.int g'.q0,.int g'.q1]])=some false:=by
 obtain ⟨a,b,c,d,e,f⟩:=g
 obtain ⟨a',b',c',d',e',f'⟩:=g'
 simp only [eqH,eqV,eqV1,eqVs,Bool.and_true,Option.some.injEq,Bool.and_eq_false_iff,decide_eq_false_iff_not]
 refine Classical.byContradiction fun z=>q ?_
 simp only [not_or,Decidable.not_not] at z
 refine x0_5 z ?_;(try clear z);rintro rfl rfl ⟨rfl,rfl⟩ rfl rfl
 rfl
theorem rp0_ne {vs:List MV} {g:Setg} (h:vs≠[]) :rp0 vs g= .tup [.int g.q0,.int g.q1]:=if_neg h
structure Pk (ps:List Part) (u:Bool) (mode am most:Int) :Prop where
 ok:∀ p∈ ps,POK p
 hl:ps.length≤8
 hm:mode=0∨mode=1
 m0:0≤most
 m1:most≤1073741823
 d1:dim am
 d2:dim (zaL (natU u ps most) mode am)
noncomputable abbrev szU (u:Bool) (ps:List Part) (mode am most:Int) :Int:=zaL (natU u ps most) mode am
noncomputable abbrev exU (u:Bool) (ps:List Part) (mode am most:Int) :Int:=szU u ps mode am most - natU u ps most
noncomputable abbrev gP (u:Bool) (ps:List Part) (mode am most:Int) :Setg:=gG ps (exU u ps mode am most)
noncomputable abbrev zaT (u:Bool) (ps:List Part) (mode am most:Int) (rp:MV) :MV:= .tup (toldM (kd u) (wU u ps (szU u ps mode am most)) (hU u ps (szU u ps mode am most)) (dU u ps most) (gP u ps mode am most) rp)
noncomputable abbrev bgs (u:Bool) (ps:List Part) (mode am most:Int) :List MV:=(plL u (gP u ps mode am most) ps).2.2.map MV.int
theorem Pk.fit {ps:List Part} {u:Bool} {mode am most:Int} (K:Pk ps u mode am most) :Fit ps most:=fit_of K.ok K.hl K.m0 K.m1
theorem Pk.ex {ps:List Part} {u:Bool} {mode am most:Int} (K:Pk ps u mode am most) :(exU u ps mode am most).natAbs < 18446744073709551616:=by
 have h1:(-1073741823:Int)≤szU u ps mode am most:=K.d2.1
 have h2:szU u ps mode am most≤(1073741823:Int):=K.d2.2
 have h3:=own_bnd (ps:=ps) u (most:=most) K.ok K.hl K.m0
 unfold exU
 omega
theorem Pk.aok {ps:List Part} {u:Bool} {mode am most:Int} (K:Pk ps u mode am most) :∀ p∈ ps,AOK 400000000 p:=fun p m=>(K.ok p m).aok.mono (by decide)
structure Oth (ps:List Part) (u:Bool) (mode am most:Int) (qs:List Part) :Prop where
 s:zcK qs ps
 a:∀ q∈ qs,AOK 400000000 q
section
variable {ps qs:List Part} {u:Bool} {mode am most:Int}
theorem Oth.nat (O:Oth ps u mode am most qs) :natU u qs most=natU u ps most:=same_natU O.s
theorem Oth.sz (O:Oth ps u mode am most qs) :szU u qs mode am most=szU u ps mode am most:=by unfold szU;rw [O.nat]
theorem Oth.ex (O:Oth ps u mode am most qs) :exU u qs mode am most=exU u ps mode am most:=by unfold exU;rw [O.nat,O.sz]
theorem Oth.fit (O:Oth ps u mode am most qs) (K:Pk ps u mode am most) :Fit qs most:=K.fit.put O.s.symm K.hl O.a
theorem Oth.len (O:Oth ps u mode am most qs) (K:Pk ps u mode am most) :qs.length≤8:=by rw [same_len O.s];exact K.hl
theorem Oth.q (O:Oth ps u mode am most qs) (K:Pk ps u mode am most) :QOK (gP u qs mode am most):=gG_QOK O.a (O.len K) (by rw [O.ex];exact K.ex)
theorem Oth.told (O:Oth ps u mode am most qs) (rp:MV) :zaT u qs mode am most rp= .tup (toldM (kd u) (wU u ps (szU u ps mode am most)) (hU u ps (szU u ps mode am most)) (dU u ps most) (gP u qs mode am most) rp):=by
 unfold zaT
 rw [same_wU O.s,same_hU O.s,same_dU O.s,O.sz]
variable (n:Nat) {P:Nat→Prop} {h:zax} {a ver:Nat} {vs ws:List MV}
theorem Oth.packed (O:Oth ps u mode am most qs) (K:Pk ps u mode am most) (ha:h[a]? =some (.list vs ver)) (r:zaK P h vs qs) :
 ∃ b it h',zaB (n + 7) 47 [.ref a,.bool u,zaF mode am most] h= .ok (.tup [.ref b,rp0 vs (gP u qs mode am most)]) h'∧Gr [] h h'∧
  zaB (n + 7) 48 [.tup [.ref b,rp0 vs (gP u qs mode am most)]] h'= .ok (.tup (toldM (kd u) (wU u ps (szU u ps mode am most)) (hU u ps (szU u ps mode am most)) (dU u ps most) (gP u qs mode am most) (rp0 vs (gP u qs mode am most)))) h'∧
  h'[b]? =some (setO (.int (kd u)) (.int (wU u ps (szU u ps mode am most))) (.int (hU u ps (szU u ps mode am most))) (.int (dU u ps most)) it (.int 0) (gP u qs mode am most))∧h'[it]? =some (.list vs 0):=by
 have hl:=r.len
 have:=O.len K
 refine x3_4 (c47 n (u:=u) ha r (by omega) K.hm (O.fit K) K.d1 (by rw [O.nat];exact K.d2)) fun b it h' e g hb hi=>?_
 have hb':h'[b]? =some (setO (.int (kd u)) (.int (wU u ps (szU u ps mode am most))) (.int (hU u ps (szU u ps mode am most))) (.int (dU u ps most)) it (.int 0) (gP u qs mode am most)):=by
  rw [← same_wU O.s,← same_hU O.s,← same_dU O.s,← O.sz];exact hb
 exact ⟨b,it,h',e,g,c48 (n + 6) hb',hb',hi⟩
theorem Oth.places (O:Oth ps u mode am most qs) (K:Pk ps u mode am most) {b it m:Nat} {k w hh d:MV} (hb:h[b]? =some (setO (.int (kd u)) w hh d it k (gP u qs mode am most))) (ha:h[it]? =some (.list vs m)) (r:zaK P h vs qs) :
 ∃ h' m,zaB (n + 4) 36 [.ref b] h= .ok (.ref h.length) h'∧Gr [] h h'∧h'[h.length]? =some (.list (bgs u qs mode am most) m):=by
 have hl:=r.len
 have:=O.len K
 have q:=O.q K
 exact c36 n hb ha r (by omega) q.r0 q.p q.r1
theorem Oth.same (O:Oth ps u mode am most qs) (K:Pk ps u mode am most) (ha:h[a]? =some (.list vs ver)) (r:zaK P h vs qs) (hw:vs= [] ↔ ws= []) (hg:gG qs (exU u ps mode am most)=gP u ps mode am most)
 (hf:qs.map (flx (gP u ps mode am most).sg (gP u ps mode am most).od)=ps.map (flx (gP u ps mode am most).sg (gP u ps mode am most).od)) {bg m:Nat} (hb:h[bg]? =some (.list (bgs u ps mode am most) m)) :
 ∃ h',zaB (n + 8) 50 [.ref a,.bool u,zaF mode am most,zaT u ps mode am most (rp0 ws (gP u ps mode am most)),.ref bg] h= .ok (.bool true) h'∧Gr [] h h':=by
 have hl:=r.len
 have:=O.len K
 have hg':gP u qs mode am most=gP u ps mode am most:=by unfold gP;rw [O.ex,hg]
 have e1:rp0 ws (gP u ps mode am most)=rp0 vs (gP u qs mode am most):=by
  rw [hg'];unfold rp0
  by_cases q:vs= []
  · rw [if_pos q,if_pos (hw.mp q)]
  · rw [if_neg q,if_neg (fun z=>q (hw.mpr z))]
 refine c50 n (u:=u) ha r (by omega) K.hm (O.fit K) K.d1 (by rw [O.nat];exact K.d2) (O.q K) (told:=zaT u ps mode am most (rp0 ws (gP u ps mode am most))) ?_ (bg:=bg) (m:=m) ?_
 · have:=O.told (rp0 ws (gP u ps mode am most))
   rw [hg'] at this
   rw [e1] at this ⊢
   exact this.symm
 · have:(plL u (gP u qs mode am most) qs).2.2=(plL u (gP u ps mode am most) ps).2.2:=by
    rw [hg']
    exact pl_same u _ (same_fsz u O.s.symm) hf
   have e2:(plL u (gU u qs most (zaL (natU u qs most) mode am)) qs).2.2=(plL u (gP u ps mode am most) ps).2.2:=this
   rw [e2];exact hb
end
theorem mem_at {α:Type} {ps:List α} {k:Nat} {p:α} (h:ps[k]? =some p) :p∈ ps:=List.mem_of_getElem? h
theorem kern_oth {ps:List Part} {u:Bool} {mode am most:Int} (K:Pk ps u mode am most) {k:Nat} {w s so sh ho:Int} (hp:ps[k]? =some (.glue w s so sh ho)) :Oth ps u mode am most (ps.take k ++ .kern w 1 :: ps.drop (k + 1)):=by
 refine ⟨?_,fun q m=>?_⟩
 · have:=same_mid (ps.take k) (ps.drop (k + 1)) (p:= .glue w s so sh ho) (q:= .kern w 1) rfl
   rwa [← zeY hp] at this
 · rcases List.mem_append.mp m with m | m
   · exact K.aok q (List.mem_of_mem_take m)
   · rcases List.mem_cons.mp m with rfl | m
     · exact ⟨(by decide:(-400000000:Int)≤0∧(0:Int)≤400000000),(by decide:(-400000000:Int)≤0∧(0:Int)≤400000000)⟩
     · exact K.aok q (List.mem_of_mem_drop m)
section
variable (n:Nat) {P:Nat→Prop} {h:zax} {a ver fa fm bg bm:Nat} {vs:List MV} {ps:List Part} {u:Bool} {mode am most:Int}
noncomputable abbrev alL (a fa bg k:Nat) (u:Bool) (goal:MV) (e side:Int) (told fl:MV) (x10 x11:Option MV) :Locs:=[some (.ref a),some (.ref fa),some (.bool u),some goal,some (.int e),some told,some (.ref bg),some (.int side),some (.int k),some fl,x10,x11]
theorem alone_same (K:Pk ps u mode am most) (ha:h[a]? =some (.list vs ver)) (r:zaK P h vs ps) (hb:h[bg]? =some (.list (bgs u ps mode am most) bm)) {k:Nat} {w s so sh ho side:Int} (hp:ps[k]? =some (.glue w s so sh ho)) (x10 x11:Option MV)
 (i0:∀ H,zaG H (zaz (.glue w s so sh ho)) side=some (.int (amB (decide (0 < exU u ps mode am most)) (.glue w s so sh ho)))) (j0:∀ H,zaG H (zaz (.glue w s so sh ho)) (side + 1)=some (.int (orB (decide (0 < exU u ps mode am most)) (.glue w s so sh ho))))
 (c:(exU u ps mode am most=0∨amB (decide (0 < exU u ps mode am most)) (.glue w s so sh ho)=0∨orB (decide (0 < exU u ps mode am most)) (.glue w s so sh ho) < (gP u ps mode am most).od)) :
 ∃ y10 y11 h2,zaC tabs (zay tabs fnsT (n + 8)) b51l0 (alL a fa bg k u (zaF mode am most) (exU u ps mode am most) side (zaT u ps mode am most (rp0 vs (gP u ps mode am most))) (zaz (.glue w s so sh ho)) x10 x11) h =
  .nxt (alL a fa bg k u (zaF mode am most) (exU u ps mode am most) side (zaT u ps mode am most (rp0 vs (gP u ps mode am most))) (zaz (.glue w s so sh ho)) y10 y11) h2∧Gr [] h h2:=by
 have hl:=r.len
 have hk:=(List.getElem?_eq_some_iff.mp hp).1
 have len:=K.hl
 have ok:=K.ok _ (mem_at hp)
 have O:=kern_oth K hp
 refine x2_3 (mid (P:=P) (k:=k) ha r (by lia) (by lia)) fun i1 H1 s1 g1 mk=>?_
 have e2:=n16 (n + 5) H1 (w:=w) (srt:=1) ok.1.dim (by decide) (by decide)
 refine x2_1 (mk _ _ (.kern w 1) (Gr.app [] H1 [kernO (.int w) (.int 1)]) (.kern (zaD _ _))) fun i5 H5 M=>?_
 generalize H1 ++ [kernO (.int w) (.int 1)]=H2 at e2 M
 have nv:vs≠[]:=fun q=>by rw [q] at hl;simp only [List.length_nil] at hl;lia
 have nm:vs.take k ++ [.ref H1.length] ++ vs.drop (k + 1)≠[]:=by simp
 have sp:=zeY hp
 have hb':=M.g.lst hb (fun m=>nomatch m)
 have S:=O.same n K M.e M.r (ws:=vs) ⟨fun q=>absurd q nm,fun q=>absurd q nv⟩
 have KS:=kern_same (A:=ps.take k) (B:=ps.drop (k + 1)) (p:= .glue w s so sh ho) (e:=exU u ps mode am most) ok.ook w
 rw [← sp] at KS
 refine x0_2 (KS c) fun k1 k2=>?_
 refine x1_2 (S k1 k2 hb') fun h4 e4 g4=>?_
 refine ⟨some (.ref H5.length),x11,h4,?_,M.g.trans g4⟩
 by_cases q0:exU u ps mode am most=0
 · exact runB (n:=n + 8) (b:=b51l0) (l:=alL a fa bg k u (zaF mode am most) (exU u ps mode am most) side (zaT u ps mode am most (rp0 vs (gP u ps mode am most))) (zaz (.glue w s so sh ho)) x10 x11) (h:=h) [.r (.ok (.ref i1) H1),.r (.ok .none H2),.o (.list (vs.take k) 0),.o (.list [MV.ref H1.length] 0),.r (.ok (.ref i5) H5),.o (.list (vs.take k ++ [MV.ref H1.length]) 0),.o (.list (vs.drop (k + 1)) 0),.b true,.b true,.r (.ok (.bool true) h4)] s1 e2 M.o1 M.o2 M.l1 M.s2 M.o3 M.o4 M.l2 (dt q0) (dt q0) e4
 · by_cases q2:amB (decide (0 < exU u ps mode am most)) (.glue w s so sh ho)=0
   · exact runB (n:=n + 8) (b:=b51l0) (l:=alL a fa bg k u (zaF mode am most) (exU u ps mode am most) side (zaT u ps mode am most (rp0 vs (gP u ps mode am most))) (zaz (.glue w s so sh ho)) x10 x11) (h:=h) [.r (.ok (.ref i1) H1),.r (.ok .none H2),.o (.list (vs.take k) 0),.o (.list [MV.ref H1.length] 0),.r (.ok (.ref i5) H5),.o (.list (vs.take k ++ [MV.ref H1.length]) 0),.o (.list (vs.drop (k + 1)) 0),.b false,.i (.int (amB (decide (0 < exU u ps mode am most)) (.glue w s so sh ho))),.b true,.b true,.r (.ok (.bool true) h4)] s1 e2 M.o1 M.o2 M.l1 M.s2 M.o3 M.o4 M.l2 (df q0) (i0 _) (dt q2) (dt q2) e4
   · have q3:orB (decide (0 < exU u ps mode am most)) (.glue w s so sh ho) < (gP u ps mode am most).od:=by
      rcases c with c | c | c
      · exact absurd c q0
      · exact absurd c q2
      · exact c
     exact runB (n:=n + 8) (b:=b51l0) (l:=alL a fa bg k u (zaF mode am most) (exU u ps mode am most) side (zaT u ps mode am most (rp0 vs (gP u ps mode am most))) (zaz (.glue w s so sh ho)) x10 x11) (h:=h) [.r (.ok (.ref i1) H1),.r (.ok .none H2),.o (.list (vs.take k) 0),.o (.list [MV.ref H1.length] 0),.r (.ok (.ref i5) H5),.o (.list (vs.take k ++ [MV.ref H1.length]) 0),.o (.list (vs.drop (k + 1)) 0),.b false,.i (.int (amB (decide (0 < exU u ps mode am most)) (.glue w s so sh ho))),.b false,.i (.int (orB (decide (0 < exU u ps mode am most)) (.glue w s so sh ho))),.b true,.r (.ok (.bool true) h4)] s1 e2 M.o1 M.o2 M.l1 M.s2 M.o3 M.o4 M.l2 (df q0) (i0 _) (df q2) (j0 _) (dt q3) e4
theorem alone_other (K:Pk ps u mode am most) (ha:h[a]? =some (.list vs ver)) (r:zaK P h vs ps) {k:Nat} {w s so sh ho side:Int} (hp:ps[k]? =some (.glue w s so sh ho)) (x10 x11:Option MV)
 (i0:∀ H,zaG H (zaz (.glue w s so sh ho)) side=some (.int (amB (decide (0 < exU u ps mode am most)) (.glue w s so sh ho)))) (j0:∀ H,zaG H (zaz (.glue w s so sh ho)) (side + 1)=some (.int (orB (decide (0 < exU u ps mode am most)) (.glue w s so sh ho))))
 (c:¬ (exU u ps mode am most=0∨amB (decide (0 < exU u ps mode am most)) (.glue w s so sh ho)=0∨orB (decide (0 < exU u ps mode am most)) (.glue w s so sh ho) < (gP u ps mode am most).od)) :
 ∃ y10 y11 h2,zaC tabs (zay tabs fnsT (n + 8)) b51l0 (alL a fa bg k u (zaF mode am most) (exU u ps mode am most) side (zaT u ps mode am most (rp0 vs (gP u ps mode am most))) (zaz (.glue w s so sh ho)) x10 x11) h =
  .nxt (alL a fa bg k u (zaF mode am most) (exU u ps mode am most) side (zaT u ps mode am most (rp0 vs (gP u ps mode am most))) (zaz (.glue w s so sh ho)) y10 y11) h2∧Gr [] h h2:=by
 have hl:=r.len
 have hk:=(List.getElem?_eq_some_iff.mp hp).1
 have len:=K.hl
 have ok:=K.ok _ (mem_at hp)
 have O:=kern_oth K hp
 refine x2_3 (mid (P:=P) (k:=k) ha r (by lia) (by lia)) fun i1 H1 s1 g1 mk=>?_
 have e2:=n16 (n + 5) H1 (w:=w) (srt:=1) ok.1.dim (by decide) (by decide)
 refine x2_1 (mk _ _ (.kern w 1) (Gr.app [] H1 [kernO (.int w) (.int 1)]) (.kern (zaD _ _))) fun i5 H5 M=>?_
 generalize H1 ++ [kernO (.int w) (.int 1)]=H2 at e2 M
 have nv:vs≠[]:=fun q=>by rw [q] at hl;simp only [List.length_nil] at hl;lia
 have nm:vs.take k ++ [.ref H1.length] ++ vs.drop (k + 1)≠[]:=by simp
 have sp:=zeY hp
 have KO:=kern_other (A:=ps.take k) (B:=ps.drop (k + 1)) (p:= .glue w s so sh ho) (e:=exU u ps mode am most) ok.ook w
 rw [← sp] at KO
 refine x3_5 (O.packed (n + 1) K M.e M.r) fun b2 it2 h3 e3 g3 t3 _ _=>?_
 have E5:gP u (ps.take k ++ .kern w 1 :: ps.drop (k + 1)) mode am most=gG (ps.take k ++ .kern w 1 :: ps.drop (k + 1)) (exU u ps mode am most):=by unfold gP;simp only [O.ex]
 have c0:¬ exU u ps mode am most=0:=fun q=>c (.inl q)
 have c1:¬ amB (decide (0 < exU u ps mode am most)) (.glue w s so sh ho)=0:=fun q=>c (.inr (.inl q))
 have c2:¬ orB (decide (0 < exU u ps mode am most)) (.glue w s so sh ho) < (gP u ps mode am most).od:=fun q=>c (.inr (.inr q))
 have ne:=KO c0 c1 c2
 have five:eqH h3 (.tup [.int (kd u),.int (wU u ps (szU u ps mode am most)),.int (hU u ps (szU u ps mode am most)),.int (dU u ps most),.int 0]) (.tup [.int (kd u),.int (wU u ps (szU u ps mode am most)),.int (hU u ps (szU u ps mode am most)),.int (dU u ps most),.int 0])=some true:=
  eqH_tup (.tup (zbV (is:=[(kd u),(wU u ps (szU u ps mode am most)),(hU u ps (szU u ps mode am most)),(dU u ps most),0])))
 have rest:=set_ne (h:=h3) ne
 rw [← E5] at rest
 rw [← rp0_ne nm,← rp0_ne (g:=gG ps (exU u ps mode am most)) nv] at rest
 refine ⟨some (.ref H5.length),some (.tup [.ref b2,rp0 (vs.take k ++ [MV.ref H1.length] ++ vs.drop (k + 1)) (gP u (ps.take k ++ .kern w 1 :: ps.drop (k + 1)) mode am most)]),h3,?_,M.g.trans g3⟩
 exact runB (n:=n + 8) (b:=b51l0) (l:=alL a fa bg k u (zaF mode am most) (exU u ps mode am most) side (zaT u ps mode am most (rp0 vs (gP u ps mode am most))) (zaz (.glue w s so sh ho)) x10 x11) (h:=h) [.r (.ok (.ref i1) H1),.r (.ok .none H2),.o (.list (vs.take k) 0),.o (.list [MV.ref H1.length] 0),.r (.ok (.ref i5) H5),.o (.list (vs.take k ++ [MV.ref H1.length]) 0),.o (.list (vs.drop (k + 1)) 0),.b false,.i (.int (amB (decide (0 < exU u ps mode am most)) (.glue w s so sh ho))),.b false,.i (.int (orB (decide (0 < exU u ps mode am most)) (.glue w s so sh ho))),.b false,.r (.ok (.tup [.ref b2,rp0 (vs.take k ++ [MV.ref H1.length] ++ vs.drop (k + 1)) (gP u (ps.take k ++ .kern w 1 :: ps.drop (k + 1)) mode am most)]) h3),.r (.ok (.tup (toldM (kd u) (wU u ps (szU u ps mode am most)) (hU u ps (szU u ps mode am most)) (dU u ps most) (gP u (ps.take k ++ .kern w 1 :: ps.drop (k + 1)) mode am most) (rp0 (vs.take k ++ [MV.ref H1.length] ++ vs.drop (k + 1)) (gP u (ps.take k ++ .kern w 1 :: ps.drop (k + 1)) mode am most)))) h3),.b true,.r (.ok (.tup (toldM (kd u) (wU u ps (szU u ps mode am most)) (hU u ps (szU u ps mode am most)) (dU u ps most) (gP u (ps.take k ++ .kern w 1 :: ps.drop (k + 1)) mode am most) (rp0 (vs.take k ++ [MV.ref H1.length] ++ vs.drop (k + 1)) (gP u (ps.take k ++ .kern w 1 :: ps.drop (k + 1)) mode am most)))) h3),.b false] s1 e2 M.o1 M.o2 M.l1 M.s2 M.o3 M.o4 M.l2 (df c0) (i0 _) (df c1) (j0 _) (df c2) e3 t3 five t3 rest
end
theorem L2.ofMap {α β:Type} {R:α→β→Prop} {f:β→α} (hf:∀ b,R (f b) b) :∀ bs:List β,L2 R (bs.map f) bs
 | []=> .nil
 | b :: bs=> .cons (hf b) (L2.ofMap hf bs)
section
variable (n:Nat) {P:Nat→Prop} {h:zax} {a ver fa fm bg bm:Nat} {vs:List MV} {ps:List Part} {u:Bool} {mode am most:Int}
theorem c51 (K:Pk ps u mode am most) (ha:h[a]? =some (.list vs ver)) (r:zaK P h vs ps) (hf:h[fa]? =some (.list (ps.map zaz) fm)) (hb:h[bg]? =some (.list (bgs u ps mode am most) bm)) :
 ∃ h',zaB (n + 9) 51 [.ref a,.ref fa,.bool u,zaF mode am most,.int (exU u ps mode am most),zaT u ps mode am most (rp0 vs (gP u ps mode am most)),.ref bg] h= .ok (.bool true) h'∧Gr [] h h':=by
 have lp:∀ side,(∀ H w s so sh ho,zaG H (zaz (.glue w s so sh ho)) side=some (.int (amB (decide (0 < exU u ps mode am most)) (.glue w s so sh ho)))∧zaG H (zaz (.glue w s so sh ho)) (side + 1)=some (.int (orB (decide (0 < exU u ps mode am most)) (.glue w s so sh ho))))→
  ∃ l' h',zbQ (.list fa fm true) (fun v l=>match v with | .tup vs=>zcw [8,9] vs l | _=>none) (zaC tabs (zay tabs fnsT (n + 8)) b51l0) ((ps.map zaz).length + 1) 0
   [some (.ref a),some (.ref fa),some (.bool u),some (zaF mode am most),some (.int (exU u ps mode am most)),some (zaT u ps mode am most (rp0 vs (gP u ps mode am most))),some (.ref bg),some (.int side),none,none,none,none] h= .nxt l' h'∧Gr [] h h':=fun side hs=>by
  refine x2_3 (zbY (α:=Part) (R:=fun v p=>v=zaz p) (a:=fa) (ver:=fm) (num:=true) (tgt:=fun v l=>match v with | .tup vs=>zcw [8,9] vs l | _=>none) (body:=zaC tabs (zay tabs fnsT (n + 8)) b51l0) (vs:=ps.map zaz)
   (fun d l h'=>Gr [] h h'∧∃ x8 x9 x10 x11,l= [some (.ref a),some (.ref fa),some (.bool u),some (zaF mode am most),some (.int (exU u ps mode am most)),some (zaT u ps mode am most (rp0 vs (gP u ps mode am most))),some (.ref bg),some (.int side),x8,x9,x10,x11])
   (ps:=ps) (L2.ofMap (R:=fun v p=>v=zaz p) (f:=zaz) (fun _=>rfl) ps) (fun d l h' ⟨g,_⟩=>by simp only [itemsV?,g.lst hf (fun m=>nomatch m)]) (fun d p v l h' zz _ hv hp=>by
    obtain ⟨g,x8,x9,x10,x11,q⟩:=zz
    subst q hv
    have other:zaz p= .tup []→∃ l1 l2 h2,some (alL a fa bg d.length u (zaF mode am most) (exU u ps mode am most) side (zaT u ps mode am most (rp0 vs (gP u ps mode am most))) (zaz p) x10 x11)=some l1∧zaC tabs (zay tabs fnsT (n + 8)) b51l0 l1 h'= .nxt l2 h2∧Gr [] h h2∧
     ∃ x8 x9 x10 x11,l2= [some (.ref a),some (.ref fa),some (.bool u),some (zaF mode am most),some (.int (exU u ps mode am most)),some (zaT u ps mode am most (rp0 vs (gP u ps mode am most))),some (.ref bg),some (.int side),x8,x9,x10,x11]:=fun z=>by
     rw [z]
     exact ⟨_,_,h',rfl,runB (n:=n + 8) (b:=b51l0) (l:=alL a fa bg d.length u (zaF mode am most) (exU u ps mode am most) side (zaT u ps mode am most (rp0 vs (gP u ps mode am most))) (.tup []) x10 x11) (h:=h') [],g,_,_,_,_,rfl⟩
    cases p with
    | glue w s so sh ho=>
     have ha':=g.lst ha (fun m=>nomatch m)
     have hb':=g.lst hb (fun m=>nomatch m)
     have r':zaK P h' vs ps:=r.imp fun _ _ x=>x.gr g (fun _ _ m=>nomatch m)
     by_cases c:exU u ps mode am most=0∨amB (decide (0 < exU u ps mode am most)) (.glue w s so sh ho)=0∨orB (decide (0 < exU u ps mode am most)) (.glue w s so sh ho) < (gP u ps mode am most).od
     · refine x3_2 (alone_same n K ha' r' (fa:=fa) hb' hp x10 x11 (fun H=>(hs H w s so sh ho).1) (fun H=>(hs H w s so sh ho).2) c) fun y10 y11 h2 e2 g2=>?_
       exact ⟨_,_,h2,rfl,e2,g.trans g2,_,_,_,_,rfl⟩
     · refine x3_2 (alone_other n K ha' r' (fa:=fa) (bg:=bg) hp x10 x11 (fun H=>(hs H w s so sh ho).1) (fun H=>(hs H w s so sh ho).2) c) fun y10 y11 h2 e2 g2=>?_
       exact ⟨_,_,h2,rfl,e2,g.trans g2,_,_,_,_,rfl⟩
    | kern w k=>exact other rfl
    | pen v=>exact other rfl
    | rule w x y=>exact other rfl
    | box k w x y sf=>exact other rfl)
   (m:=(ps.map zaz).length + 1) (d:=[]) (l:=[some (.ref a),some (.ref fa),some (.bool u),some (zaF mode am most),some (.int (exU u ps mode am most)),some (zaT u ps mode am most (rp0 vs (gP u ps mode am most))),some (.ref bg),some (.int side),none,none,none,none]) (h:=h) ⟨Gr.refl _ _,_,_,_,_,rfl⟩ ⟨ps,rfl⟩ rfl) fun l' h' e g _=>?_
  exact ⟨l',h',e,g⟩
 by_cases q:0 < exU u ps mode am most
 · refine x2_2 (lp 1 (fun H w s so sh ho=>by rw [dt q];exact ⟨rfl,rfl⟩)) fun l' h' e g=>?_
   exact ⟨h',run 51 f51 (n + 8) [.ref a,.ref fa,.bool u,zaF mode am most,.int (exU u ps mode am most),zaT u ps mode am most (rp0 vs (gP u ps mode am most)),.ref bg] h [.b true,.o (.list (ps.map zaz) fm),.s (.nxt l' h')] rfl rfl (dt q) hf e,g⟩
 · refine x2_2 (lp 3 (fun H w s so sh ho=>by rw [df q];exact ⟨rfl,rfl⟩)) fun l' h' e g=>?_
   exact ⟨h',run 51 f51 (n + 8) [.ref a,.ref fa,.bool u,zaF mode am most,.int (exU u ps mode am most),zaT u ps mode am most (rp0 vs (gP u ps mode am most)),.ref bg] h [.b false,.o (.list (ps.map zaz) fm),.s (.nxt l' h')] rfl rfl (df q) hf e,g⟩
end
theorem zdY {h:zax} {a m k:Nat} {vs:List MV} {v:MV} (e:h[a]? =some (.list vs m)) (hv:vs[k]? =some v) :zaG h (.ref a) (k:Int)=some v:=by
 have hk:=(List.getElem?_eq_some_iff.mp hv).1
 simp only [zaG,items?,e,zeR,Option.bind_eq_bind,Option.bind_some,Int.toNat_natCast]
 rw [if_pos (Int.natCast_nonneg k),if_pos hk]
 exact hv
theorem sumInts_eq (is:List Int) :sumInts is=isum is:=by
 have key:∀ (is:List Int) (a:Int),is.foldl (· + ·) a=a + isum is:=by
  intro is
  induction is with
  | nil=>intro a;exact (Int.add_zero a).symm
  | cons x r ih=>intro a;simp only [List.foldl_cons,ih];simp only [isum];lia
 simp only [sumInts,key,Int.zero_add]
theorem sum_list {h:zax} {a m:Nat} {is:List Int} (e:h[a]? =some (.list (is.map MV.int) m)) :biV .sum [.ref a] h= .ok (.int (isum is)) h:=by
 simp only [biV,arg1,onItems,sumV,items?,e,zeV,sumInts_eq]
noncomputable abbrev cntM (b:Bool) (o:Int) (ps:List Part) :List MV:=(cntI b o 0 ps).map fun k:Nat=>MV.int (k:Int)
theorem am_item {b:Bool} {p:Part} (h:amB b p≠0) (H:zax) :zaG H (zaz p) (2 * sgB b - 1)=some (.int (amB b p)):=by
 refine x5_1 (zdF h) ?_;rintro w s so sh ho rfl
 cases b <;> rfl
theorem cnt_at {b:Bool} {o:Int} {ps:List Part} {i k:Nat} (h:(cntI b o 0 ps)[i]? =some k) :∃ p,ps[k]? =some p∧cnt b o p:=by
 refine x1_3 (cntI_mem (List.mem_of_getElem? h)) fun p _ h2 h3=>?_
 exact ⟨p,h2,h3⟩
section
variable (n:Nat) {P:Nat→Prop} {h:zax} {ca cm fa fm:Nat} {ps:List Part} {b:Bool} {o:Int}
theorem total_comp (hc:h[ca]? =some (.list (cntM b o ps) cm)) (hf:h[fa]? =some (.list (ps.map zaz) fm)) (l0 l1 l2 l4 l5 l6 l7 l8 l10 l11 l12 l13 l14 l15 l16 l17 l18:Option MV) :
 zaN (.list ca cm false) 0 yes (zaw tabs (zay tabs fnsT n) b52e0) [l0,l1,l2,some (.ref fa),l4,l5,l6,l7,l8,some (.int (sgB b)),l10,l11,l12,l13,l14,l15,l16,l17,l18] ((cntM b o ps).length + 1) 0 [] h= .ok (((cntI b o 0 ps).map (amI b ps)).map MV.int) h:=by
 refine x2_3 (zcN (src:= .list ca cm false) (vs:=cntM b o ps) (nt:=0) (cond:=yes) (elt:=zaw tabs (zay tabs fnsT n) b52e0) (l:=[l0,l1,l2,some (.ref fa),l4,l5,l6,l7,l8,some (.int (sgB b)),l10,l11,l12,l13,l14,l15,l16,l17,l18])
  (fun k acc h'=>h'=h∧acc=(((cntI b o 0 ps).take k).map (amI b ps)).map MV.int) (fun k acc h' ⟨q,_⟩=>by subst q;simp only [zaH,itemsV?,hc];cases (cntM b o ps)[k]? <;> rfl) (fun k acc h' v zz hv=>by
   refine x0_2 zz ?_;(try clear zz);intro q1 q2
   subst q1 q2
   rw [List.getElem?_map,Option.map_eq_some_iff] at hv
   refine x1_2 hv ?_;(try clear hv);rintro j hj rfl
   refine x1_2 (cnt_at hj) fun p hp c=>?_
   have ej:amI b ps j=amB b p:=by unfold amI;rw [hp]
   have tk:(cntI b o 0 ps).take (k + 1)=(cntI b o 0 ps).take k ++ [j]:=by rw [List.take_add_one,hj];rfl
   have i1:=zdY (k:=j) hf (v:=zaz p) (by simp only [List.getElem?_map,hp];rfl)
   refine ⟨[some (.int j)],_,_,true,rfl,rfl,rfl,(fun q=>nomatch q),fun _=>⟨.int (amB b p),h',?_,rfl,by simp only [tk,List.map_append,List.map_append,List.map_cons,ej];rfl⟩⟩
   exact runE (n:=n) (e:=b52e0) (l:=[l0,l1,l2,some (.ref fa),l4,l5,l6,l7,l8,some (.int (sgB b)),l10,l11,l12,l13,l14,l15,l16,l17,l18,some (.int j)]) (h:=h') [.i (zaz p),.i (.int (amB b p))] i1 (.inl (by decide)) (am_item c.1 h'))
  (m:=(cntM b o ps).length + 1) (k:=0) (acc:=[]) (h:=h) ⟨rfl,rfl⟩ (Nat.zero_le _) rfl) ?_;rintro acc h' e rfl rfl
 rw [List.length_map,List.take_length] at e
 rw [List.length_map];exact e
theorem found_loop {fo fm':Nat} {f:Int} {vs:List MV} (hf':f.natAbs < 18446744073709551616) (hdim:∀ p∈ ps,cnt b o p→dim p.wid∧dim (f * amB b p)) (hoo:∀ p∈ ps,OOK p)
 (hc:h[ca]? =some (.list (cntM b o ps) cm)) (hf:h[fa]? =some (.list (ps.map zaz) fm)) (ho:h[fo]? =some (.list vs fm')) (r:zaK P h vs ps) (hP:∀ j,P j→j≠fo) (n1:ca≠fo) (n2:fa≠fo)
 (l0 l1 l2 l4 l5 l6 l7 l8 l11 x12 l13 l14 l16 l17 l18:Option MV) :
 ∃ l' h' vs' m,zbQ (.list ca cm false) (fun v l=>some (l.set 12 (some v))) (zaC tabs (zay tabs fnsT (n + 4)) b52l0) ((cntM b o ps).length + 1) 0
  [l0,l1,l2,some (.ref fa),l4,l5,l6,l7,l8,some (.int (sgB b)),some (.ref fo),l11,x12,l13,l14,some (.int f),l16,l17,l18] h= .nxt l' h'∧
  (∃ y12,l'= [l0,l1,l2,some (.ref fa),l4,l5,l6,l7,l8,some (.int (sgB b)),some (.ref fo),l11,y12,l13,l14,some (.int f),l16,l17,l18])∧
  Gr [fo] h h'∧h'[fo]? =some (.list vs' m)∧zaK P h' vs' (ps.map (zcW b o f)):=by
 let F:Nat→Part:=fun k=>match ps[k]? with | some p=>skB b p (f * amB b p) | none=> .pen 0
 obtain ⟨l',h',e,g,y,rfl,vs',m,e1,r1⟩:=zbY (α:=Nat) (R:=fun v k=>v= .int (k:Int)) (a:=ca) (ver:=cm) (num:=false) (tgt:=fun v l=>some (l.set 12 (some v))) (body:=zaC tabs (zay tabs fnsT (n + 4)) b52l0) (vs:=cntM b o ps)
  (fun d l h'=>Gr [fo] h h'∧∃ y,l= [l0,l1,l2,some (.ref fa),l4,l5,l6,l7,l8,some (.int (sgB b)),some (.ref fo),l11,y,l13,l14,some (.int f),l16,l17,l18]∧∃ vs' m,h'[fo]? =some (.list vs' m)∧zaK P h' vs' (d.foldl (fun qs k=>qs.set k (F k)) ps))
  (ps:=cntI b o 0 ps) (L2.ofMap (R:=fun v k=>v= .int (k:Int)) (f:=fun k:Nat=>MV.int (k:Int)) (fun _=>rfl) _) (fun d l h' ⟨g,_⟩=>by simp only [itemsV?,g.lst hc (by simpa using n1)]) (fun d k v l h' zz _ hv hk=>by
   obtain ⟨g,y,q,vs',m,e1,r1⟩:=zz
   subst q hv
   refine x1_2 (cnt_at hk) fun p hp c=>?_
   have pm:=mem_at hp
   refine x5_1 (zdF c.1) ?_;rintro w s so sh ho' rfl
   refine x0_2 (hdim _ pm c) fun d1 d2=>?_
   refine x0_4 (hoo _ pm) fun o1 o2 o3 o4=>?_
   have i1:=zdY (k:=k) (g.lst hf (by simpa using n2)) (v:=zaz (.glue w s so sh ho')) (by simp only [List.getElem?_map,hp];rfl)
   refine x2_3 (c49 (P:=P) n h' (sense:=sgB b) (w:=w) (s:=s) (so:=so) (sh:=sh) (ho:=ho') (am:=f * amB b (.glue w s so sh ho')) d1 d2 o1 o2 o3 o4) fun v' h2 e2 g2 r2=>?_
   have sk:skipP (sgB b) w (f * amB b (.glue w s so sh ho')) (if sgB b=1 then so else ho')=skB b (.glue w s so sh ho') (f * amB b (.glue w s so sh ho')):=by cases b <;> rfl
   simp only [sk] at r2
   have e3:=g2.lst e1 (fun m=>nomatch m)
   have hkl:k < vs'.length:=by
    have:=r1.len
    have l3:∀ (d:List Nat) (qs:List Part),(d.foldl (fun qs k=>qs.set k (F k)) qs).length=qs.length:=by
     intro d
     induction d with
     | nil=>intro qs;rfl
     | cons x r ih=>intro qs;simp only [List.foldl_cons,ih,List.length_set]
    rw [l3] at this
    have:=(List.getElem?_eq_some_iff.mp hp).1
    lia
   have gs:Gr [fo] h2 (h2.set fo (.list (vs'.set k v') (m + 1))):=Gr.set _ e3 (.head _) _
   have nP:∀ j,P j→j ∉ [fo]:=fun j q=>by simpa using hP j q
   have Fk:F k=skB b (.glue w s so sh ho') (f * amB b (.glue w s so sh ho')):=by show (match ps[k]? with | some p=>skB b p (f * amB b p) | none=> .pen 0)= _;rw [hp]
   refine ⟨_,_,_,rfl,runB (n:=n + 4) (b:=b52l0) (l:=[l0,l1,l2,some (.ref fa),l4,l5,l6,l7,l8,some (.int (sgB b)),some (.ref fo),l11,some (.int (k:Int)),l13,l14,some (.int f),l16,l17,l18]) (h:=h')
    [.i (zaz (.glue w s so sh ho')),.i (zaz (.glue w s so sh ho')),.i (.int (amB b (.glue w s so sh ho'))),.r (.ok v' h2),.o (.list vs' m)] i1 i1 (.inl (by decide)) (am_item c.1 h') (.inl hf') e2 e3 ⟨Int.natCast_nonneg k,by exact hkl⟩,(g.trans g2.nil).trans gs,_,rfl,vs'.set k v',m + 1,?_,?_⟩
   · exact zaO e3 _
   · simp only [List.foldl_append,List.foldl_cons,List.foldl_nil,Fk,Int.toNat_natCast]
     have a1:=r1.imp fun _ _ x=>(x.gr g2 (fun _ _ m=>nomatch m)).gr gs nP
     exact a1.set (r2.gr gs nP) k)
  (m:=(cntM b o ps).length + 1) (d:=[]) (l:=[l0,l1,l2,some (.ref fa),l4,l5,l6,l7,l8,some (.int (sgB b)),some (.ref fo),l11,x12,l13,l14,some (.int f),l16,l17,l18]) (h:=h) ⟨Gr.refl _ _,_,rfl,vs,fm',ho,r⟩ ⟨_,rfl⟩ rfl
 have cs:=cnt_set b o F (fun p=>skB b p (f * amB b p)) [] ps (fun j p hj=>by
  show (match ps[0 + j]? with | some p=>skB b p (f * amB b p) | none=> .pen 0)= _
  simp only [Nat.zero_add,hj])
 have cs':(cntI b o 0 ps).foldl (fun qs k=>qs.set k (F k)) ps=ps.map (zcW b o f):=cs
 simp only [cs'] at r1
 exact ⟨_,h',vs',m,e,⟨y,rfl⟩,g,e1,r1⟩
end
noncomputable abbrev folds:List MV:=[.int 2,.int 3,.int 10,.int 100,.int (-1),.int (-2),.int (-7),.int (-100)]
theorem folds_at {h:zax} {a m:Nat} (e:h[a]? =some (.list folds m)) {d:Int} (h1:0≤d) (h2:d < 8) :∃ x,zaG h (.ref a) d=some (.int x)∧x≠0∧-100≤x∧x≤100:=by
 simp only [zaG,items?,e]
 have:d=0∨d=1∨d=2∨d=3∨d=4∨d=5∨d=6∨d=7:=int_fin 8 (P:=fun d=>d=0∨d=1∨d=2∨d=3∨d=4∨d=5∨d=6∨d=7) (by decide) (by assumption) (by assumption)
 rcases this with rfl | rfl | rfl | rfl | rfl | rfl | rfl | rfl <;> exact ⟨_,rfl,by decide⟩
theorem mul_bnd {f x:Int} (h1:-100≤f∧f≤100) (h2:-4000000≤x∧x≤4000000) :-400000000≤f * x∧f * x≤400000000:=by
 have e:=Int.natAbs_mul f x
 have:=Nat.mul_le_mul (show f.natAbs≤100 by omega) (show x.natAbs≤4000000 by omega)
 omega
section
variable {ps:List Part} {u:Bool} {mode am most:Int}
theorem gP_sg (h:(gP u ps mode am most).sg≠0) :(gP u ps mode am most).sg=sgB (decide (0 < exU u ps mode am most)):=by
 rcases zbD ps (exU u ps mode am most) with ⟨h1,_,_⟩ | ⟨_,_,h3,_⟩
 · exact absurd h1 h
 · exact h3
noncomputable abbrev bU (u:Bool) (ps:List Part) (mode am most:Int) :Bool:=decide (0 < exU u ps mode am most)
noncomputable abbrev totU (u:Bool) (ps:List Part) (mode am most:Int) :Int:=sumB (bU u ps mode am most) ps (gP u ps mode am most).od
noncomputable abbrev oneL (u:Bool) (ps:List Part) (mode am most:Int) (k:Nat) (p:Part) :List Part:=(ps.map plainP).take k ++ skB (bU u ps mode am most) p (totU u ps mode am most) :: (ps.map plainP).drop (k + 1)
theorem oneL_eq {k:Nat} {p:Part} :oneL u ps mode am most k p=(ps.take k).map plainP ++ skB (bU u ps mode am most) p (totU u ps mode am most) :: (ps.drop (k + 1)).map plainP:=by
 unfold oneL;simp only [List.map_take,List.map_drop]
theorem one_oth (K:Pk ps u mode am most) {k:Nat} {p:Part} (hp:ps[k]? =some p) (hg:∃ w s so sh ho,p= .glue w s so sh ho) :Oth ps u mode am most (oneL u ps mode am most k p):=by
 have T:=zeX (c:=4000000) (by decide) (fun p m=>(K.ok p m).aok) (bU u ps mode am most) (gP u ps mode am most).od
 have hl:=K.hl
 refine ⟨?_,fun q m=>?_⟩
 · rw [oneL_eq]
   have:zcK ((ps.take k).map plainP ++ skB (bU u ps mode am most) p (totU u ps mode am most) :: (ps.drop (k + 1)).map plainP) (ps.take k ++ p :: ps.drop (k + 1)):=by
    unfold zcK
    simp only [List.map_append,List.map_append,List.map_cons,List.map_cons,skB_shp,zeC zdR,zeC zdR]
   rwa [← zeY hp] at this
 · rw [oneL_eq] at m
   rcases List.mem_append.mp m with m | m
   · refine x1_2 (List.mem_map.mp m) ?_;rintro p hp rfl
     exact zdS (by decide) (K.aok p (List.mem_of_mem_take hp))
   · rcases List.mem_cons.mp m with rfl | m
     · exact skB_aok hg (by unfold totU;omega)
     · refine x1_2 (List.mem_map.mp m) ?_;rintro p hp rfl
       exact zdS (by decide) (K.aok p (List.mem_of_mem_drop hp))
theorem one_ok (K:Pk ps u mode am most) (h:(gP u ps mode am most).sg≠0) {k:Nat} {p:Part} (hp:ps[k]? =some p) (c:cnt (bU u ps mode am most) (gP u ps mode am most).od p) :
 gP u (oneL u ps mode am most k p) mode am most=gP u ps mode am most∧∃ x l l',bgs u ps mode am most=l ++ [.int x]∧bgs u (oneL u ps mode am most k p) mode am most=l' ++ [.int x]:=by
 have O:=one_oth K hp (zdF c.1)
 have sp:=zeY hp
 have S:=one_set (A:=ps.take k) (B:=ps.drop (k + 1)) (p:=p) (e:=exU u ps mode am most)
 rw [← sp] at S
 refine x0_2 (S h c) fun s1 s2=>?_
 have g1:gP u (oneL u ps mode am most k p) mode am most=gP u ps mode am most:=by
  unfold gP;rw [O.ex,oneL_eq];exact s1
 have r1:0 < (gP u ps mode am most).r1:=gG_r1
 refine x1_1 (pl_last u r1 ps) fun l e1=>?_
 refine x1_1 (pl_last u r1 (oneL u ps mode am most k p)) fun l' e2=>?_
 refine ⟨g1,_,l.map .int,l'.map .int,by unfold bgs;rw [e1,List.map_append];rfl,?_⟩
 unfold bgs
 rw [g1,e2,List.map_append]
 have f1:isum ((oneL u ps mode am most k p).map (fsz u))=isum (ps.map (fsz u)):=congrArg isum (same_fsz u O.s)
 have f2:isum ((oneL u ps mode am most k p).map (flx (gP u ps mode am most).sg (gP u ps mode am most).od))=isum (ps.map (flx (gP u ps mode am most).sg (gP u ps mode am most).od)):=by rw [oneL_eq];exact s2
 simp only [f1,f2]
 rfl
noncomputable abbrev fndL (u:Bool) (ps:List Part) (mode am most f:Int) :List Part:=ps.map (zcW (bU u ps mode am most) (gP u ps mode am most).od f)
set_option tactic.hygienic true in
theorem fnd_oth (K:Pk ps u mode am most) {f:Int} (h1:-100≤f∧f≤100) :Oth ps u mode am most (fndL u ps mode am most f):=by
 refine ⟨zeC (found_shp _ _ _) ps,fun q m=>?_⟩
 refine x1_2 (List.mem_map.mp m) ?_;rintro p hp rfl
 unfold zcW
 split
 · rename_i c
   exact skB_aok (zdF c.1) (mul_bnd h1 ((K.ok p hp).aok.b _))
 · exact K.aok p hp
theorem fnd_fold (K:Pk ps u mode am most) (h:(gP u ps mode am most).sg≠0) {f:Int} (h1:-100≤f∧f≤100) (hf:f≠0) (ho:(gP u ps mode am most).od=0→0 < f) (hr:(gP u ps mode am most).q0≠3) :
 Fold (gP u ps mode am most) (gP u (fndL u ps mode am most f) mode am most) f∧bgs u (fndL u ps mode am most f) mode am most=bgs u ps mode am most:=by
 have O:=fnd_oth K h1
 have F:Fold (gP u ps mode am most) (gP u (fndL u ps mode am most f) mode am most) f:=by
  unfold gP;rw [O.ex];exact found_fold h hf ho hr
 refine ⟨F,?_⟩
 unfold bgs
 have fx:(fndL u ps mode am most f).map (flx (gP u (fndL u ps mode am most f) mode am most).sg (gP u (fndL u ps mode am most f) mode am most).od)=ps.map fun p=>f * flx (gP u ps mode am most).sg (gP u ps mode am most).od p:=by
  rw [F.sg,F.od];exact found_flx h
 rw [pl_scale u f (F.rnd gG_r1 gG_r1) (same_fsz u O.s.symm) fx]
end
section
variable (n:Nat) {P:Nat→Prop} {h:zax} {bx a ver fa fm bg bm pa pm ca cm:Nat} {vs vp:List MV} {ps:List Part} {u:Bool} {mode am most:Int}
theorem gath_end (K:Pk ps u mode am most) (hsg:(gP u ps mode am most).sg≠0) (hP:∀ j,P j→j < h.length) {fo:Nat} {h6:zax} (g6:Gr [bx] h h6) (r:zaK P h vs ps) (hP':∀ j,P j→j≠bx) (lo:h.length≤fo)
 (ho:h6[fo]? =some (.list vs fm)) (hf:h6[fa]? =some (.list (ps.map zaz) pm)) (hb:h6[bg]? =some (.list (bgs u ps mode am most) bm)) (hc:h6[ca]? =some (.list (cntM (bU u ps mode am most) (gP u ps mode am most).od ps) cm)) (n1:ca≠fo) (n2:fa≠fo) (n3:bg≠fo)
 {f:Int} (h1:-100≤f∧f≤100) (hf0:f≠0) (hz:(gP u ps mode am most).od=0→0 < f) (hr:(gP u ps mode am most).q0≠3) (l0 l1 l2 l4 l5 l6 l7 l8 l11 x12 l13 l14 l16 l17 l18:Option MV) :
 ∃ y12 h7 b2 h8 h9 it2 j9,zbQ (.list ca cm false) (fun v l=>some (l.set 12 (some v))) (zaC tabs (zay tabs fnsT (n + 8)) b52l0) ((cntM (bU u ps mode am most) (gP u ps mode am most).od ps).length + 1) 0
  [l0,l1,l2,some (.ref fa),l4,l5,l6,l7,l8,some (.int (gP u ps mode am most).sg),some (.ref fo),l11,x12,l13,l14,some (.int f),l16,l17,l18] h6 =
   .nxt [l0,l1,l2,some (.ref fa),l4,l5,l6,l7,l8,some (.int (gP u ps mode am most).sg),some (.ref fo),l11,y12,l13,l14,some (.int f),l16,l17,l18] h7∧
  zaB (n + 8) 47 [.ref fo,.bool u,zaF mode am most] h7= .ok (.tup [.ref b2,.tup [.int (gP u (fndL u ps mode am most f) mode am most).q0,.int (gP u (fndL u ps mode am most f) mode am most).q1]]) h8∧
  zaB (n + 8) 48 [.tup [.ref b2,.tup [.int (gP u (fndL u ps mode am most f) mode am most).q0,.int (gP u (fndL u ps mode am most f) mode am most).q1]]] h8 =
   .ok (.tup (toldM (kd u) (wU u ps (szU u ps mode am most)) (hU u ps (szU u ps mode am most)) (dU u ps most) (gP u (fndL u ps mode am most f) mode am most) (.tup [.int (gP u (fndL u ps mode am most f) mode am most).q0,.int (gP u (fndL u ps mode am most f) mode am most).q1]))) h8∧
  zaB (n + 8) 36 [.ref b2] h8= .ok (.ref j9) h9∧eqH h9 (.ref j9) (.ref bg)=some true∧
  h9[b2]? =some (setO (.int (kd u)) (.int (wU u ps (szU u ps mode am most))) (.int (hU u ps (szU u ps mode am most))) (.int (dU u ps most)) it2 (.int 0) (gP u (fndL u ps mode am most f) mode am most))∧Gr [fo] h6 h9:=by
 have hl:=r.len
 have len:=K.hl
 refine x1_2 (zdA (ps:=ps) (e:=exU u ps mode am most) hsg) fun p0 pm0 c0=>?_
 have nv:vs≠[]:=fun q=>by rw [q] at hl;have:=List.length_pos_of_mem pm0;simp only [List.length_nil] at hl;lia
 have hs:=gP_sg hsg
 have r6:zaK (fun j=>j≠fo) h6 vs ps:=r.imp fun v p x=>(x.gr g6 (fun j q=>by simpa using hP' j q)).imp fun j q _=>by have:=hP j q;lia
 refine x4_5 (found_loop (P:=fun j=>j≠fo) (n + 4) (b:=bU u ps mode am most) (o:=(gP u ps mode am most).od) (f:=f) (h:=h6) (ps:=ps) (by lia)
  (fun p m c=>⟨by (refine x5_1 (zdF c.1) ?_;rintro w s so sh ho rfl);exact (K.ok _ m).1.dim,by have:=mul_bnd h1 ((K.ok p m).aok.b (bU u ps mode am most));exact ⟨by show (-1073741823:Int)≤_;lia,by show _≤(1073741823:Int);lia⟩⟩)
  (fun p m=>(K.ok p m).ook) hc hf ho r6 (fun j q=>q) n1 n2 l0 l1 l2 l4 l5 l6 l7 l8 l11 x12 l13 l14 l16 l17 l18) ?_;rintro l' h7 vs' m e ⟨y,rfl⟩ g7 e1 r1
 rw [← hs] at e
 have nv':vs'≠[]:=fun q=>by
  have h3:=r1.len
  simp only [q,List.length_map,List.length_nil] at h3
  have:=List.length_pos_of_mem pm0
  lia
 have O:=fnd_oth K h1
 refine x0_2 (fnd_fold K hsg h1 hf0 hz hr) fun F eb=>?_
 refine x3_5 (O.packed (n + 1) K e1 r1) fun b2 it2 h8 e8 g8 t8 b8 i8=>?_
 have r8:zaK (fun j=>j≠fo) h8 vs' (fndL u ps mode am most f):=r1.imp fun _ _ x=>x.gr g8 (fun _ _ m=>nomatch m)
 refine x2_3 (O.places (n + 4) K b8 i8 r8) fun h9 m9 e9 g9 p9=>?_
 rw [rp0_ne nv'] at e8 t8
 have b9:=(g8.trans g9).lst (g7.lst hb (by simpa using n3)) (fun m=>nomatch m)
 rw [eb] at p9
 refine ⟨y,h7,b2,h8,h9,it2,h8.length,e,e8,t8,e9,?_,g9.inst b8,?_⟩
 · exact (eqH_ints p9 b9 rfl).trans (congrArg some (dt rfl))
 · exact g7.trans (g8.trans g9).nil
theorem Gr.drop {W:List Nat} {fo:Nat} {h h':zax} (g:Gr (fo :: W) h h') (l:h.length≤fo) :Gr W h h':=⟨g.len,fun {i o} e k=>g.obj e fun vs n q m=>by
 rcases List.mem_cons.mp m with z | m
 · have:=zeH e;lia
 · exact k vs n q m⟩
theorem cnt_pos (hsg:(gP u ps mode am most).sg≠0) :0 < (cntI (bU u ps mode am most) (gP u ps mode am most).od 0 ps).length:=by
 refine x1_2 (zdA (ps:=ps) (e:=exU u ps mode am most) hsg) fun p0 pm0 c0=>?_
 refine Nat.pos_of_ne_zero fun z=>?_
 exact cntI_nil.mp (List.eq_nil_of_length_eq_zero z) p0 pm0 c0
end
noncomputable abbrev tol (k0 w0 e0 d0 sg od r0 r1 q0 q1:Int) :MV:= .tup [.int k0,.int w0,.int e0,.int d0,.int 0,.int sg,.int od,.tup [.int r0,.int r1],.tup [.int q0,.int q1]]
noncomputable abbrev loc52 (bx a pa fa bg ca:Nat) (u:Bool) (goal told sn fo pl k tot one f:Option MV) :Locs:=[some (.ref bx),some (.ref a),some (.ref pa),some (.ref fa),some (.bool u),goal,told,some (.ref bg),some (.ref ca),sn,fo,pl,k,tot,one,f,none,none,none]
structure Pre52 (n:Nat) (h:zax) (bx a pa fa bg ca:Nat) (u:Bool) (goal told:MV) (sg:Int) (rp:MV) (vs vp cs:List MV) (ver pm cm:Nat) (d:Int) (h1:zax) (k:Nat) (intz:List MV) (tot:Int) (h2:zax) (i1:Nat) (H1:zax) (fl v:MV) (H2:zax) (i5:Nat) (H5:zax) (p1:Nat) (h3:zax) (j4:Nat) (h4:zax) (x d2:Int) (h6:zax) (f:Int) :Prop where
 ha:h[a]? =some (.list vs ver)
 hv:vs.length≤4096
 hc0:(h ++ [MObj.list vs 0])[ca]? =some (.list cs cm)
 e1:zaB (n + 8) 42 [.ref bx,.int (cs.length:Int)] (h ++ [.list vs 0])= .ok (.int d) h1
 x1:zaG h1 (.ref ca) d=some (.int (k:Int))
 hc1:h1[ca]? =some (.list cs cm)
 tc:zaN (.list ca cm false) 0 yes (zaw tabs (zay tabs fnsT (n + 8)) b52e0) (loc52 bx a pa fa bg ca u (some goal) (some told) (some (.int sg)) (some (.ref h.length)) (some (.int (k:Int))) none none none none) (cs.length + 1) 0 [] h1= .ok intz h1
 il:intz.length≤4096
 sl:biV .sum [.ref h1.length] (h1 ++ [.list intz 0])= .ok (.int tot) h2
 s1:zbT true (.ref pa) (.int (k:Int)) h2= .ok (.ref i1) H1
 y1:zaG H1 (.ref fa) (k:Int)=some fl
 e2:zaB (n + 8) 49 [fl,.int sg,.int tot] H1= .ok v H2
 o1:(H2 ++ [MObj.list [v] 0])[i1]? =some (.list (vp.take k) 0)
 o2:(H2 ++ [MObj.list [v] 0])[H2.length]? =some (.list [v] 0)
 l1:(vp.take k ++ [v]).length≤4096
 s2:zbT false (.ref pa) (.int ((k:Int) + 1)) ((H2 ++ [MObj.list [v] 0]) ++ [MObj.list (vp.take k ++ [v]) 0])= .ok (.ref i5) H5
 o3:H5[(H2 ++ [MObj.list [v] 0]).length]? =some (.list (vp.take k ++ [v]) 0)
 o4:H5[i5]? =some (.list (vp.drop (k + 1)) 0)
 l2:(vp.take k ++ [v] ++ vp.drop (k + 1)).length≤4096
 e3:zaB (n + 8) 47 [.ref H5.length,.bool u,goal] (H5 ++ [.list (vp.take k ++ [v] ++ vp.drop (k + 1)) 0])= .ok (.tup [.ref p1,rp]) h3
 t3:zaB (n + 8) 48 [.tup [.ref p1,rp]] h3= .ok told h3
 tt:eqH h3 told told=some true
 e4:zaB (n + 8) 36 [.ref p1] h3= .ok (.ref j4) h4
 z4:zaG h4 (.ref j4) (-1)=some (.int x)
 z6:zaG h4 (.ref bg) (-1)=some (.int x)
 e6:zaB (n + 8) 42 [.ref bx,.int 8] (h4 ++ [.list folds 0])= .ok (.int d2) h6
 x6:zaG h6 (.ref h4.length) d2=some (.int f)
section
variable {n:Nat} {h:zax} {bx a pa fa bg ca:Nat} {u:Bool} {goal:MV} {k0 w0 e0 d0 sg od r0 r1 q0 q1:Int} {vs vp cs:List MV} {ver pm cm:Nat} {d:Int} {h1:zax} {k:Nat} {intz:List MV} {tot:Int} {h2:zax} {i1:Nat} {H1:zax} {fl v:MV} {H2:zax} {i5:Nat} {H5:zax} {p1:Nat} {h3:zax} {j4:Nat} {h4:zax} {x d2:Int} {h6:zax} {f:Int}
theorem r52a (P:Pre52 n h bx a pa fa bg ca u goal (tol k0 w0 e0 d0 sg od r0 r1 q0 q1) sg (.tup [.int q0,.int q1]) vs vp cs ver pm cm d h1 k intz tot h2 i1 H1 fl v H2 i5 H5 p1 h3 j4 h4 x d2 h6 f) (hq:q0=3) :zaB (n + 9) 52 [.ref bx,.ref a,.ref pa,.ref fa,.bool u,goal,tol k0 w0 e0 d0 sg od r0 r1 q0 q1,.ref bg,.ref ca] h= .ok (.bool true) h6:=by
 by_cases hz:od=0
 · exact run 52 f52 (n + 8) [.ref bx,.ref a,.ref pa,.ref fa,.bool u,goal,tol k0 w0 e0 d0 sg od r0 r1 q0 q1,.ref bg,.ref ca] h [.o (.list vs ver),.o (.list cs cm),.r (.ok (.int d) h1),.i (.int (k:Int)),.o (.list cs cm),.l (.ok intz h1),.r (.ok (.int tot) h2),.r (.ok (.ref i1) H1),.i fl,.r (.ok v H2),.o (.list (vp.take k) 0),.o (.list [v] 0),.r (.ok (.ref i5) H5),.o (.list (vp.take k ++ [v]) 0),.o (.list (vp.drop (k + 1)) 0),.r (.ok (.tup [.ref p1,.tup [.int q0,.int q1]]) h3),.r (.ok (tol k0 w0 e0 d0 sg od r0 r1 q0 q1) h3),.b true,.r (.ok (.ref j4) h4),.i (.int x),.i (.int x),.b false,.r (.ok (.int d2) h6),.i (.int f),.b true,.b true] rfl rfl P.ha P.hv P.hc0 P.e1 P.x1 P.hc1 P.tc P.il P.sl P.s1 P.y1 P.e2 P.o1 P.o2 P.l1 P.s2 P.o3 P.o4 P.l2 P.e3 P.t3 P.tt P.e4 P.z4 P.z6 (nf rfl) P.e6 P.x6 (dt hz) (dt hq)
 · exact run 52 f52 (n + 8) [.ref bx,.ref a,.ref pa,.ref fa,.bool u,goal,tol k0 w0 e0 d0 sg od r0 r1 q0 q1,.ref bg,.ref ca] h [.o (.list vs ver),.o (.list cs cm),.r (.ok (.int d) h1),.i (.int (k:Int)),.o (.list cs cm),.l (.ok intz h1),.r (.ok (.int tot) h2),.r (.ok (.ref i1) H1),.i fl,.r (.ok v H2),.o (.list (vp.take k) 0),.o (.list [v] 0),.r (.ok (.ref i5) H5),.o (.list (vp.take k ++ [v]) 0),.o (.list (vp.drop (k + 1)) 0),.r (.ok (.tup [.ref p1,.tup [.int q0,.int q1]]) h3),.r (.ok (tol k0 w0 e0 d0 sg od r0 r1 q0 q1) h3),.b true,.r (.ok (.ref j4) h4),.i (.int x),.i (.int x),.b false,.r (.ok (.int d2) h6),.i (.int f),.b false,.b true] rfl rfl P.ha P.hv P.hc0 P.e1 P.x1 P.hc1 P.tc P.il P.sl P.s1 P.y1 P.e2 P.o1 P.o2 P.l1 P.s2 P.o3 P.o4 P.l2 P.e3 P.t3 P.tt P.e4 P.z4 P.z6 (nf rfl) P.e6 P.x6 (df hz) (dt hq)
structure End52 (n:Nat) (bx a pa fa bg ca fo:Nat) (u:Bool) (goal told:MV) (k0 w0 e0 d0 sg od r0 r1 q0 q1:Int) (rp:MV) (cs:List MV) (cm:Nat) (k:Nat) (tot:Int) (p1:Nat) (h6:zax) (ff:Int) (y12:Option MV) (h7:zax) (b2 it2:Nat) (h8:zax) (j9:Nat) (h9:zax) (r0' r1' q0' q1':Int) :Prop where
 hc:h6[ca]? =some (.list cs cm)
 e7:zbQ (.list ca cm false) (fun v l=>some (l.set 12 (some v))) (zaC tabs (zay tabs fnsT (n + 8)) b52l0) (cs.length + 1) 0 (loc52 bx a pa fa bg ca u (some goal) (some told) (some (.int sg)) (some (.ref fo)) (some (.int (k:Int))) none (some (.int tot)) (some (.tup [.ref p1,rp])) (some (.int ff))) h6 =
  .nxt (loc52 bx a pa fa bg ca u (some goal) (some told) (some (.int sg)) (some (.ref fo)) (some (.int (k:Int))) y12 (some (.int tot)) (some (.tup [.ref p1,rp])) (some (.int ff))) h7
 e8:zaB (n + 8) 47 [.ref fo,.bool u,goal] h7= .ok (.tup [.ref b2,.tup [.int q0',.int q1']]) h8
 t8:zaB (n + 8) 48 [.tup [.ref b2,.tup [.int q0',.int q1']]] h8= .ok (tol k0 w0 e0 d0 sg od r0' r1' q0' q1') h8
 e9:zaB (n + 8) 36 [.ref b2] h8= .ok (.ref j9) h9
 q9:eqH h9 (.ref j9) (.ref bg)=some true
 b9:h9[b2]? =some (boxO (.int k0) (.int w0) (.int e0) (.int d0) (.ref it2) (.int 0) (.int sg) (.int od) (.tup [.int r0',.int r1']))
 fb:ff.natAbs < 18446744073709551616
 b1:r1.natAbs < 18446744073709551616
 b1':r1'.natAbs < 18446744073709551616
 fr:r0' * ff * r1=r0 * r1'
 f0:q0'=q0
 f1:0≤q1'
 f2:q1'≤q1
theorem r52b (P:Pre52 n h bx a pa fa bg ca u goal (tol k0 w0 e0 d0 sg od r0 r1 q0 q1) sg (.tup [.int q0,.int q1]) vs vp cs ver pm cm d h1 k intz tot h2 i1 H1 fl v H2 i5 H5 p1 h3 j4 h4 x d2 h6 f) (hz:od=0) (hq:¬ q0=3) {y12:Option MV} {h7:zax} {b2 it2:Nat} {h8:zax} {j9:Nat} {h9:zax} {r0' r1' q0' q1':Int} (E:End52 n bx a pa fa bg ca h.length u goal (tol k0 w0 e0 d0 sg od r0 r1 q0 q1) k0 w0 e0 d0 sg od r0 r1 q0 q1 (.tup [.int q0,.int q1]) cs cm k tot p1 h6 ((f.natAbs:Int)) y12 h7 b2 it2 h8 j9 h9 r0' r1' q0' q1') :zaB (n + 9) 52 [.ref bx,.ref a,.ref pa,.ref fa,.bool u,goal,tol k0 w0 e0 d0 sg od r0 r1 q0 q1,.ref bg,.ref ca] h= .ok (.bool true) h9:=by
 have s7:eqH h8 (.tup [.int k0,.int w0,.int e0,.int d0,.int 0,.int sg,.int od]) (.tup [.int k0,.int w0,.int e0,.int d0,.int 0,.int sg,.int od])=some true:=eqH_tup (.tup (zbV (is:=[k0,w0,e0,d0,0,sg,od])))
 have R:zaB (n + 9) 52 [.ref bx,.ref a,.ref pa,.ref fa,.bool u,goal,tol k0 w0 e0 d0 sg od r0 r1 q0 q1,.ref bg,.ref ca] h= .ok (.bool (decide (q1'≤q1))) h9:=run 52 f52 (n + 8) [.ref bx,.ref a,.ref pa,.ref fa,.bool u,goal,tol k0 w0 e0 d0 sg od r0 r1 q0 q1,.ref bg,.ref ca] h [.o (.list vs ver),.o (.list cs cm),.r (.ok (.int d) h1),.i (.int (k:Int)),.o (.list cs cm),.l (.ok intz h1),.r (.ok (.int tot) h2),.r (.ok (.ref i1) H1),.i fl,.r (.ok v H2),.o (.list (vp.take k) 0),.o (.list [v] 0),.r (.ok (.ref i5) H5),.o (.list (vp.take k ++ [v]) 0),.o (.list (vp.drop (k + 1)) 0),.r (.ok (.tup [.ref p1,.tup [.int q0,.int q1]]) h3),.r (.ok (tol k0 w0 e0 d0 sg od r0 r1 q0 q1) h3),.b true,.r (.ok (.ref j4) h4),.i (.int x),.i (.int x),.b false,.r (.ok (.int d2) h6),.i (.int f),.b true,.b false,.o (.list cs cm),.s (.nxt (loc52 bx a pa fa bg ca u (some goal) (some (tol k0 w0 e0 d0 sg od r0 r1 q0 q1)) (some (.int sg)) (some (.ref h.length)) (some (.int (k:Int))) y12 (some (.int tot)) (some (.tup [.ref p1,.tup [.int q0,.int q1]])) (some (.int ((f.natAbs:Int))))) h7),.r (.ok (.tup [.ref b2,.tup [.int q0',.int q1']]) h8),.r (.ok (tol k0 w0 e0 d0 sg od r0' r1' q0' q1') h8),.b true,.r (.ok (.ref j9) h9),.b true,.o (boxO (.int k0) (.int w0) (.int e0) (.int d0) (.ref it2) (.int 0) (.int sg) (.int od) (.tup [.int r0',.int r1'])),.b true,.b true,.b true] rfl rfl P.ha P.hv P.hc0 P.e1 P.x1 P.hc1 P.tc P.il P.sl P.s1 P.y1 P.e2 P.o1 P.o2 P.l1 P.s2 P.o3 P.o4 P.l2 P.e3 P.t3 P.tt P.e4 P.z4 P.z6 (nf rfl) P.e6 P.x6 (dt hz) (df hq) E.hc E.e7 E.e8 E.t8 s7 E.e9 E.q9 E.b9 (.inr E.fb) (.inr E.b1) (.inr E.b1') (dt E.fr) (dt E.f0) (dt E.f1)
 rw [dt E.f2] at R
 exact R
theorem r52c (P:Pre52 n h bx a pa fa bg ca u goal (tol k0 w0 e0 d0 sg od r0 r1 q0 q1) sg (.tup [.int q0,.int q1]) vs vp cs ver pm cm d h1 k intz tot h2 i1 H1 fl v H2 i5 H5 p1 h3 j4 h4 x d2 h6 f) (hz:¬ od=0) (hq:¬ q0=3) {y12:Option MV} {h7:zax} {b2 it2:Nat} {h8:zax} {j9:Nat} {h9:zax} {r0' r1' q0' q1':Int} (E:End52 n bx a pa fa bg ca h.length u goal (tol k0 w0 e0 d0 sg od r0 r1 q0 q1) k0 w0 e0 d0 sg od r0 r1 q0 q1 (.tup [.int q0,.int q1]) cs cm k tot p1 h6 (f) y12 h7 b2 it2 h8 j9 h9 r0' r1' q0' q1') :zaB (n + 9) 52 [.ref bx,.ref a,.ref pa,.ref fa,.bool u,goal,tol k0 w0 e0 d0 sg od r0 r1 q0 q1,.ref bg,.ref ca] h= .ok (.bool true) h9:=by
 have s7:eqH h8 (.tup [.int k0,.int w0,.int e0,.int d0,.int 0,.int sg,.int od]) (.tup [.int k0,.int w0,.int e0,.int d0,.int 0,.int sg,.int od])=some true:=eqH_tup (.tup (zbV (is:=[k0,w0,e0,d0,0,sg,od])))
 have R:zaB (n + 9) 52 [.ref bx,.ref a,.ref pa,.ref fa,.bool u,goal,tol k0 w0 e0 d0 sg od r0 r1 q0 q1,.ref bg,.ref ca] h= .ok (.bool (decide (q1'≤q1))) h9:=run 52 f52 (n + 8) [.ref bx,.ref a,.ref pa,.ref fa,.bool u,goal,tol k0 w0 e0 d0 sg od r0 r1 q0 q1,.ref bg,.ref ca] h [.o (.list vs ver),.o (.list cs cm),.r (.ok (.int d) h1),.i (.int (k:Int)),.o (.list cs cm),.l (.ok intz h1),.r (.ok (.int tot) h2),.r (.ok (.ref i1) H1),.i fl,.r (.ok v H2),.o (.list (vp.take k) 0),.o (.list [v] 0),.r (.ok (.ref i5) H5),.o (.list (vp.take k ++ [v]) 0),.o (.list (vp.drop (k + 1)) 0),.r (.ok (.tup [.ref p1,.tup [.int q0,.int q1]]) h3),.r (.ok (tol k0 w0 e0 d0 sg od r0 r1 q0 q1) h3),.b true,.r (.ok (.ref j4) h4),.i (.int x),.i (.int x),.b false,.r (.ok (.int d2) h6),.i (.int f),.b false,.b false,.o (.list cs cm),.s (.nxt (loc52 bx a pa fa bg ca u (some goal) (some (tol k0 w0 e0 d0 sg od r0 r1 q0 q1)) (some (.int sg)) (some (.ref h.length)) (some (.int (k:Int))) y12 (some (.int tot)) (some (.tup [.ref p1,.tup [.int q0,.int q1]])) (some (.int (f)))) h7),.r (.ok (.tup [.ref b2,.tup [.int q0',.int q1']]) h8),.r (.ok (tol k0 w0 e0 d0 sg od r0' r1' q0' q1') h8),.b true,.r (.ok (.ref j9) h9),.b true,.o (boxO (.int k0) (.int w0) (.int e0) (.int d0) (.ref it2) (.int 0) (.int sg) (.int od) (.tup [.int r0',.int r1'])),.b true,.b true,.b true] rfl rfl P.ha P.hv P.hc0 P.e1 P.x1 P.hc1 P.tc P.il P.sl P.s1 P.y1 P.e2 P.o1 P.o2 P.l1 P.s2 P.o3 P.o4 P.l2 P.e3 P.t3 P.tt P.e4 P.z4 P.z6 (nf rfl) P.e6 P.x6 (df hz) (df hq) E.hc E.e7 E.e8 E.t8 s7 E.e9 E.q9 E.b9 (.inr E.fb) (.inr E.b1) (.inr E.b1') (dt E.fr) (dt E.f0) (dt E.f1)
 rw [dt E.f2] at R
 exact R
end
section
variable (n:Nat) {P:Nat→Prop} {h:zax} {bx a ver fa fm bg bm pa pm ca cm:Nat} {vs vp:List MV} {ps:List Part} {u:Bool} {mode am most:Int}
theorem abs_bnd {f:Int} (f0:f≠0) (f1:-100≤f) (f2:f≤100) :(-100≤(f.natAbs:Int)∧(f.natAbs:Int)≤100)∧(f.natAbs:Int)≠0∧(f.natAbs:Int).natAbs < 18446744073709551616∧0 < (f.natAbs:Int)∧f.natAbs < 18446744073709551616:=by
 have h:f.natAbs≤100:=by lia
 have p:0 < f.natAbs:=Int.natAbs_pos.mpr f0
 have h':f.natAbs < 18446744073709551616:=Nat.lt_of_le_of_lt h (by decide)
 exact ⟨⟨Int.le_trans (by decide) (Int.natCast_nonneg _),Int.ofNat_le.mpr h⟩,Int.ne_of_gt (Int.natCast_pos.mpr p),by exact h',Int.natCast_pos.mpr p,h'⟩
theorem qok_r1 {g:Setg} (h:QOK g) :g.r1.natAbs < 18446744073709551616:=by
 have:=h.p
 have:=h.r1
 lia
theorem c52 (R:Rng h bx) (K:Pk ps u mode am most) (hsg:(gP u ps mode am most).sg≠0) (ha:h[a]? =some (.list vs ver)) (r:zaK P h vs ps) (hP:∀ j,P j→j≠bx) (hpa:h[pa]? =some (.list vp pm)) (rp:zaK P h vp (ps.map plainP))
 (hf:h[fa]? =some (.list (ps.map zaz) fm)) (hb:h[bg]? =some (.list (bgs u ps mode am most) bm)) (hc:h[ca]? =some (.list (cntM (bU u ps mode am most) (gP u ps mode am most).od ps) cm)) (na:a≠bx) (np:pa≠bx) (nf':fa≠bx) (nb:bg≠bx) (nc:ca≠bx) :
 ∃ h',zaB (n + 9) 52 [.ref bx,.ref a,.ref pa,.ref fa,.bool u,zaF mode am most,zaT u ps mode am most (.tup [.int (gP u ps mode am most).q0,.int (gP u ps mode am most).q1]),.ref bg,.ref ca] h= .ok (.bool true) h'∧RG bx h h':=by
 have hl:=r.len
 have hlp:=rp.len
 simp only [List.length_map] at hlp
 have len:=K.hl
 have hvl:vs.length≤4096:=by lia
 have hs:=gP_sg hsg
 have pos:=cnt_pos hsg
 have cl:=cntI_len (bU u ps mode am most) (gP u ps mode am most).od 0 ps
 have csl:(cntM (bU u ps mode am most) (gP u ps mode am most).od ps).length=(cntI (bU u ps mode am most) (gP u ps mode am most).od 0 ps).length:=List.length_map _
 have nP:∀ j,P j→j ∉ [bx]:=fun j q=>by simpa using hP j q
 have lt:∀ {i:Nat} {o:MObj},h[i]? =some o→i≠h.length:=fun e=>by have:=zeH e;(with_reducible exact Nat.ne_of_lt (by assumption))
 have R0:=R.refl.app [.list vs 0]
 refine x42 (c42 (n + 7) R0.rng (many:=((cntM (bU u ps mode am most) (gP u ps mode am most).od ps).length:Int)) (by lia) (by lia)) fun d0 h1 e1 a1 b1 g1=>?_
 have G1:=R0.trans g1
 refine x1_1 (Int.eq_ofNat_of_zero_le a1) ?_;rintro i rfl
 obtain ⟨k,hk⟩ :∃ k,(cntI (bU u ps mode am most) (gP u ps mode am most).od 0 ps)[i]? =some k:=⟨_,List.getElem?_eq_getElem (by lia)⟩
 refine x1_2 (cnt_at hk) fun p hp c=>?_
 have pg:=zdF c.1
 have hc1:=G1.lst hc nc
 have hf1:=G1.lst hf nf'
 have x1:=zdY (k:=i) hc1 (v:= .int (k:Int)) (by simp only [List.getElem?_map,hk];rfl)
 have tc:=total_comp (n + 8) (b:=bU u ps mode am most) hc1 hf1 (some (.ref bx)) (some (.ref a)) (some (.ref pa)) (some (.bool u)) (some (zaF mode am most)) (some (zaT u ps mode am most (.tup [.int (gP u ps mode am most).q0,.int (gP u ps mode am most).q1]))) (some (.ref bg)) (some (.ref ca)) (some (.ref h.length)) (some (.int (k:Int))) none none none none none none none
 rw [show sgB (bU u ps mode am most)=(gP u ps mode am most).sg from hs.symm] at tc
 have tot:=cnt_total (bU u ps mode am most) (gP u ps mode am most).od [] ps
 have sl:=sum_list (zaD h1 (.list (((cntI (bU u ps mode am most) (gP u ps mode am most).od 0 ps).map (amI (bU u ps mode am most) ps)).map MV.int) 0))
 have tot':isum ((cntI (bU u ps mode am most) (gP u ps mode am most).od 0 ps).map (amI (bU u ps mode am most) ps))=totU u ps mode am most:=tot
 rw [tot'] at sl
 have il:(((cntI (bU u ps mode am most) (gP u ps mode am most).od 0 ps).map (amI (bU u ps mode am most) ps)).map MV.int).length≤4096:=by simp only [List.length_map,List.length_map];lia
 obtain ⟨h2,h2e⟩ :∃ h2,h1 ++ [.list (((cntI (bU u ps mode am most) (gP u ps mode am most).od 0 ps).map (amI (bU u ps mode am most) ps)).map MV.int) 0]=h2:=⟨_,rfl⟩
 replace sl:=sl.trans (congrArg (Res.ok (MV.int (totU u ps mode am most))) h2e)
 have G2:RG bx h h2:=h2e ▸ G1.app _
 refine x2_3 (mid (P:=P) (k:=k) (G2.lst hpa np) (rp.imp fun _ _ x=>x.gr G2.gr nP) (by have:=(List.getElem?_eq_some_iff.mp hp).1;lia) (by lia)) fun i1 H1 s1 gm mk=>?_
 have y1:=zdY (k:=k) (gm.lst (G2.lst hf nf') (fun m=>nomatch m)) (v:=zaz p) (by simp only [List.getElem?_map,hp];rfl)
 have T:=zeX (c:=4000000) (by decide) (fun p m=>(K.ok p m).aok) (bU u ps mode am most) (gP u ps mode am most).od
 obtain ⟨v,H2,e2,gk,rk⟩ :∃ v H2,zaB (n + 8) 49 [zaz p,.int (gP u ps mode am most).sg,.int (totU u ps mode am most)] H1= .ok v H2∧Gr [] H1 H2∧RepP P H2 v (skB (bU u ps mode am most) p (totU u ps mode am most)):=by
  refine x5_1 pg ?_;(try clear pg);rintro w s so sh ho rfl
  have ok:=K.ok _ (mem_at hp)
  refine x2_3 (c49 (P:=P) (n + 4) H1 (sense:=(gP u ps mode am most).sg) (w:=w) (s:=s) (so:=so) (sh:=sh) (ho:=ho) (am:=totU u ps mode am most) ok.1.dim ⟨by show (-1073741823:Int)≤totU u ps mode am most;unfold totU;lia,by show totU u ps mode am most≤(1073741823:Int);unfold totU;lia⟩ ok.2.2.2.1 ok.2.2.2.2.1 ok.2.2.2.2.2.1 ok.2.2.2.2.2.2) fun v' h2 e2 g2 r2=>?_
  refine ⟨v',h2,e2,g2,?_⟩
  have sk:skipP (gP u ps mode am most).sg w (totU u ps mode am most) (if (gP u ps mode am most).sg=1 then so else ho)=skB (bU u ps mode am most) (.glue w s so sh ho) (totU u ps mode am most):=by rw [hs];unfold bU;cases decide (0 < exU u ps mode am most) <;> rfl
  simp only [sk] at r2;exact r2
 refine x2_1 (mk _ _ _ gk rk) fun i5 H5 M=>?_
 have O1:=one_oth K hp pg
 obtain ⟨g1e,x,l,l',b1e,b2e⟩:=one_ok K hsg hp c
 refine x3_5 (O1.packed (n + 1) K M.e M.r) fun p1 it1 h3 e3 g3 t3 q3 j3=>?_
 refine x2_3 (O1.places (n + 4) K q3 j3 (M.r.imp fun _ _ x=>x.gr g3 (fun _ _ m=>nomatch m))) fun h4 m4 e4 g4 q4=>?_
 rw [rp0_ne (by simp),g1e] at e3 t3
 rw [b2e] at q4
 have G4:RG bx h h4:=(G2.grow M.g).grow (g3.trans g4)
 have z4:=last_at q4
 have z5:=G4.lst hb nb
 rw [b1e] at z5
 have z6:=last_at z5
 have tt:eqH h3 (.tup (toldM (kd u) (wU u ps (szU u ps mode am most)) (hU u ps (szU u ps mode am most)) (dU u ps most) (gP u ps mode am most) (.tup [.int (gP u ps mode am most).q0,.int (gP u ps mode am most).q1]))) (zaT u ps mode am most (.tup [.int (gP u ps mode am most).q0,.int (gP u ps mode am most).q1]))=some true:=
  eqH_tup (told_plain (.tup (zbV (is:=[(gP u ps mode am most).q0,(gP u ps mode am most).q1]))))
 have G5:=G4.app [.list folds 0]
 refine x42 (c42 (n + 7) G5.rng (many:=8) (by decide) (by decide)) fun d2 h6 e6 a6 b6 g6=>?_
 have G6:=G5.trans g6
 refine x1_4 (folds_at (g6.lst (zaD h4 (.list folds 0)) (RG.ne R G4.gr.len)) a6 b6) fun f x6 f0 f1 f2=>?_
 refine x0_5 (abs_bnd f0 f1 f2) fun fa1 fa2 fa3 fa5 fb3=>?_
 have fa4:(gP u ps mode am most).od=0→0 < (f.natAbs:Int):=fun _=>fa5
 have hc0:=(R.refl.app [MObj.list vs 0]).lst hc nc
 have hc6:=G6.lst hc nc
 have hf6:=G6.lst hf nf'
 have hb6:=G6.lst hb nb
 have no:h.length≠bx:=by (refine x3_2 R ?_;intro _ _ _ e _);exact fun q=>lt e q.symm
 have ho6:h6[h.length]? =some (.list vs 0):=g6.lst (zaJ (g4.lst (g3.lst (M.g.lst (h2e ▸ zaJ (g1.lst (zaD h (.list vs 0)) no)) (fun m=>nomatch m)) (fun m=>nomatch m)) (fun m=>nomatch m))) no
 have r':zaK (fun j=>P j∧j < h.length) h vs ps:=r.imp fun _ _ x=>x.imp fun j q l=>⟨q,l⟩
 have rgE:∀ h9,Gr [h.length] h6 h9→RG bx h h9:=fun h9 g=>⟨Gr.drop ((G6.gr.mono (by simp)).trans (g.mono (by simp))) (Nat.le_refl _),by
  refine x3_2 G6.rng fun x y v q1 q2=>?_
  exact ⟨x,y,v,g.lst q1 (by simpa using no.symm),q2⟩⟩
 have PR:Pre52 n h bx a pa fa bg ca u (zaF mode am most) (zaT u ps mode am most (.tup [.int (gP u ps mode am most).q0,.int (gP u ps mode am most).q1])) (gP u ps mode am most).sg (.tup [.int (gP u ps mode am most).q0,.int (gP u ps mode am most).q1]) vs vp (cntM (bU u ps mode am most) (gP u ps mode am most).od ps) ver pm cm (Int.ofNat i) h1 k (((cntI (bU u ps mode am most) (gP u ps mode am most).od 0 ps).map (amI (bU u ps mode am most) ps)).map MV.int) (totU u ps mode am most) h2 i1 H1 (zaz p) v H2 i5 H5 p1 h3 h3.length h4 x d2 h6 f:=
  ⟨ha,hvl,hc0,e1,x1,hc1,tc,il,sl,s1,y1,e2,M.o1,M.o2,M.l1,M.s2,M.o3,M.o4,M.l2,e3,t3,tt,e4,z4,z6,e6,x6⟩
 by_cases hq:(gP u ps mode am most).q0=3
 · exact ⟨h6,r52a PR hq,G6⟩
 · by_cases hz:(gP u ps mode am most).od=0
   · refine x5_1 (gath_end (n:=n) (fo:=h.length) K hsg (fun j q=>q.2) G6.gr r' (fun j q=>hP j q.1) (Nat.le_refl _) ho6 hf6 hb6 hc6 (lt hc) (lt hf) (lt hb) (f:=(f.natAbs:Int)) fa1 fa2 (fun _=>fa5) hq (some (.ref bx)) (some (.ref a)) (some (.ref pa)) (some (.bool u)) (some (zaF mode am most)) (some (zaT u ps mode am most (.tup [.int (gP u ps mode am most).q0,.int (gP u ps mode am most).q1]))) (some (.ref bg)) (some (.ref ca)) (some (.int (k:Int))) none (some (.int (totU u ps mode am most))) (some (.tup [.ref p1,(.tup [.int (gP u ps mode am most).q0,.int (gP u ps mode am most).q1])])) none none none) ?_;rintro y12 h7 b2 h8 h9 zq;refine x2_7 zq ?_;clear zq;intro it2 j9 e7 e8 t8 e9 q9 b9 g9
     refine x0_2 (fnd_fold K hsg (f:=(f.natAbs:Int)) fa1 fa2 (fun _=>fa5) hq) fun Fd _=>?_
     have O2:=fnd_oth K (f:=(f.natAbs:Int)) fa1
     unfold toldM at t8
     unfold setO at b9
     rw [Fd.sg,Fd.od] at t8 b9
     exact ⟨h9,r52b PR hz hq ⟨hc6,e7,e8,t8,e9,q9,b9,fa3,qok_r1 (gG_QOK K.aok K.hl K.ex),qok_r1 (O2.q K),Fd.r,Fd.q0,Fd.q1,Fd.q2⟩,rgE h9 g9⟩
   · refine x5_1 (gath_end (n:=n) (fo:=h.length) K hsg (fun j q=>q.2) G6.gr r' (fun j q=>hP j q.1) (Nat.le_refl _) ho6 hf6 hb6 hc6 (lt hc) (lt hf) (lt hb) (f:=f) ⟨f1,f2⟩ f0 (fun q=>absurd q hz) hq (some (.ref bx)) (some (.ref a)) (some (.ref pa)) (some (.bool u)) (some (zaF mode am most)) (some (zaT u ps mode am most (.tup [.int (gP u ps mode am most).q0,.int (gP u ps mode am most).q1]))) (some (.ref bg)) (some (.ref ca)) (some (.int (k:Int))) none (some (.int (totU u ps mode am most))) (some (.tup [.ref p1,(.tup [.int (gP u ps mode am most).q0,.int (gP u ps mode am most).q1])])) none none none) ?_;rintro y12 h7 b2 h8 h9 zq;refine x2_7 zq ?_;clear zq;intro it2 j9 e7 e8 t8 e9 q9 b9 g9
     refine x0_2 (fnd_fold K hsg (f:=f) ⟨f1,f2⟩ f0 (fun q=>absurd q hz) hq) fun Fd _=>?_
     have O2:=fnd_oth K (f:=f) ⟨f1,f2⟩
     unfold toldM at t8
     unfold setO at b9
     rw [Fd.sg,Fd.od] at t8 b9
     exact ⟨h9,r52c PR hz hq ⟨hc6,e7,e8,t8,e9,q9,b9,fb3,qok_r1 (gG_QOK K.aok K.hl K.ex),qok_r1 (O2.q K),Fd.r,Fd.q0,Fd.q1,Fd.q2⟩,rgE h9 g9⟩
end
theorem seq {Φ:Nat→List MV→zax→Res MV} :∀ {A B:List MS} {l l':Locs} {h h':zax},zaC tabs Φ A l h= .nxt l' h'→zaC tabs Φ (A ++ B) l h=zaC tabs Φ B l' h'
 | [],B,l,l',h,h',e=>by cases e;rfl
 | s :: A,B,l,l',h,h',e=>by
  have e:(zcR tabs Φ s l h).bind (fun l h=>zaC tabs Φ A l h)= .nxt l' h':=e
  show (zcR tabs Φ s l h).bind (fun l h=>zaC tabs Φ (A ++ B) l h)= _
  cases hr:zcR tabs Φ s l h with
  | nxt l2 h2=>rw [hr] at e;exact seq e
  | _=>rw [hr] at e;exact noC SRes.ctorIdx e rfl
theorem seq_ret {Φ:Nat→List MV→zax→Res MV} :∀ {A B:List MS} {l:Locs} {h h':zax} {v:MV},zaC tabs Φ A l h= .ret v h'→zaC tabs Φ (A ++ B) l h= .ret v h'
 | [],B,l,h,h',v,e=>by exact noC SRes.ctorIdx e rfl
 | s :: A,B,l,h,h',v,e=>by
  have e:(zcR tabs Φ s l h).bind (fun l h=>zaC tabs Φ A l h)= .ret v h':=e
  show (zcR tabs Φ s l h).bind (fun l h=>zaC tabs Φ (A ++ B) l h)= _
  cases hr:zcR tabs Φ s l h with
  | nxt l2 h2=>rw [hr] at e;exact seq_ret e
  | ret v h2=>rw [hr] at e;exact e
  | _=>rw [hr] at e;exact noC SRes.ctorIdx e rfl
noncomputable abbrev seg (i m:Nat) :List MS:=(b53.drop i).take m
theorem zaX {Φ:Nat→List MV→zax→Res MV} (i m:Nat) {l l':Locs} {h h':zax} (e:zaC tabs Φ (seg i m) l h= .nxt l' h') :zaC tabs Φ (b53.drop i) l h=zaC tabs Φ (b53.drop (i + m)) l' h':=by
 have:=seq (B:=(b53.drop i).drop m) e
 rw [List.take_append_drop,List.drop_drop] at this
 exact this
theorem seg_ret {Φ:Nat→List MV→zax→Res MV} (i m:Nat) {l:Locs} {h h':zax} {v:MV} (e:zaC tabs Φ (seg i m) l h= .ret v h') :zaC tabs Φ (b53.drop i) l h= .ret v h':=by
 have:=seq_ret (B:=(b53.drop i).drop m) e
 rw [List.take_append_drop] at this
 exact this
section
variable (n:Nat) {h:zax} {bx:Nat}
theorem round_head (R:Rng h bx) (x:List (Option MV)) :∃ (many:Int) (u:Bool) (orders mode most:Int) (no fo:Nat) (h':zax),zaC tabs (zay tabs fnsT (n + 1)) (seg 0 3) (some (.ref bx) :: List.replicate 27 none) h =
 .nxt (some (.ref bx) :: some (.int many) :: some (.bool u) :: some (.int orders) :: some (.int mode) :: some (.int most) :: some (.ref no) :: some (.ref fo) :: some (.int 0) :: some (.int 0) :: List.replicate 18 none) h'∧
 (0≤many∧many≤8)∧(1≤orders∧orders≤4)∧(mode=0∨mode=1)∧(0≤most∧most≤1073741823)∧RG bx h h'∧h'[no]? =some (.list [] 0)∧h'[fo]? =some (.list [] 0)∧no≠fo∧h.length≤no∧h.length≤fo:=by
 refine x42 (c42 n R (many:=9) (by decide) (by decide)) fun many h1 e1 a1 b1 g1=>?_
 refine x42 (c42 n g1.rng (many:=2) (by decide) (by decide)) fun d2 h2 e2 a2 b2 g2=>?_
 have G2:=(g1.trans g2).app [.list [.int 1,.int 2,.int 4,.int 4] 0]
 refine x42 (c42 n G2.rng (many:=4) (by decide) (by decide)) fun d3 h3 e3 a3 b3 g3=>?_
 have x3:=g3.lst (zaD h2 (.list [.int 1,.int 2,.int 4,.int 4] 0)) (RG.ne R (g1.trans g2).gr.len)
 obtain ⟨ord,i3,o3⟩ :∃ ord,zaG h3 (.ref h2.length) d3=some (.int ord)∧1≤ord∧ord≤4:=by
  simp only [zaG,items?,x3]
  have:d3=0∨d3=1∨d3=2∨d3=3:=int_fin 4 (P:=fun o=>o=0∨o=1∨o=2∨o=3) (by decide) (by assumption) (by assumption)
  rcases this with rfl | rfl | rfl | rfl <;> exact ⟨_,rfl,by decide⟩
 have G3:=G2.trans g3
 refine x42 (c42 n G3.rng (many:=2) (by decide) (by decide)) fun mode h4 e4 a4 b4 g4=>?_
 have G4:=(G3.trans g4).app [.list [.int 1073741823,.int 0,.int 9] 0]
 refine x42 (c42 n G4.rng (many:=3) (by decide) (by decide)) fun d5 h5 e5 a5 b5 g5=>?_
 have x5:=g5.lst (zaD h4 (.list [.int 1073741823,.int 0,.int 9] 0)) (RG.ne R (G3.trans g4).gr.len)
 obtain ⟨most,i5,o5⟩ :∃ most,zaG h5 (.ref h4.length) d5=some (.int most)∧0≤most∧most≤1073741823:=by
  simp only [zaG,items?,x5]
  have:d5=0∨d5=1∨d5=2:=int_fin 3 (P:=fun o=>o=0∨o=1∨o=2) (by decide) (by assumption) (by assumption)
  rcases this with rfl | rfl | rfl <;> exact ⟨_,rfl,by decide⟩
 have G5:=G4.trans g5
 refine ⟨many,decide (d2=1),ord,mode,most,h5.length,(h5 ++ [MObj.list [] 0]).length,(h5 ++ [MObj.list [] 0]) ++ [MObj.list [] 0],?_,⟨a1,by lia⟩,o3,by lia,o5,(G5.app _).app _,zaJ (zaD _ _),zaD _ _,by simp,G5.gr.len,by simp only [List.length_append];exact Nat.le_trans G5.gr.len (Nat.le_add_right _ _)⟩
 exact runB (n:=n + 1) (b:=seg 0 3) (l:=some (.ref bx) :: List.replicate 27 none) (h:=h) [.r (.ok (.int many) h1),.r (.ok (.int d2) h2),.r (.ok (.int d3) h3),.i (.int ord),.r (.ok (.int mode) h4),.r (.ok (.int d5) h5),.i (.int most)]
  e1 e2 e3 i3 e4 ⟨by decide,by decide,by decide,by decide⟩ e5 i5
end
noncomputable abbrev rdL (bx no fo:Nat) (many:Int) (u:Bool) (orders mode most own last:Int) (x10 x11 x12 x13 x14:Option MV) :Locs:=
 some (.ref bx) :: some (.int many) :: some (.bool u) :: some (.int orders) :: some (.int mode) :: some (.int most) :: some (.ref no) :: some (.ref fo) :: some (.int own) :: some (.int last) :: x10 :: x11 :: x12 :: x13 :: x14 :: List.replicate 13 none
theorem deep_cases (p:Part) (l:Int) :(deepM p= .none∧lastF l p=l)∨deepM p= .int (lastF l p):=by cases p <;> first | exact .inl ⟨rfl,rfl⟩ | exact .inr rfl
structure Made (h₀ h:zax) (bx no fo:Nat) (vs:List MV) (ps:List Part) (m1 m2:Nat) :Prop where
 ok:∀ p∈ ps,POK p
 r:zaK (fun j=>h₀.length≤j) h vs ps
 a:h[no]? =some (.list vs m1)
 f:h[fo]? =some (.list (ps.map zaz) m2)
 rng:Rng h bx
 g:Gr [bx,no,fo] h₀ h
section
variable (n:Nat) {h₀:zax} {bx no fo:Nat}
theorem round_loop (R:Rng h₀ bx) (ha:h₀[no]? =some (.list [] 0)) (hf:h₀[fo]? =some (.list [] 0)) (d1:no≠fo) (d2:no≠bx) (d3:fo≠bx) {many orders:Int} (hm:0≤many∧many≤8) (ho:1≤orders∧orders≤4) (u:Bool) (mode most:Int) :
 ∃ ps vs m1 m2 h' x10 x11 x12 x13 x14,zaC tabs (zay tabs fnsT (n + 5)) (seg 3 1) (rdL bx no fo many u orders mode most 0 0 none none none none none) h₀ =
  .nxt (rdL bx no fo many u orders mode most (isum (ps.map (fsz u))) (zbZ ps) x10 x11 x12 x13 x14) h'∧Made h₀ h' bx no fo vs ps m1 m2∧ps.length≤8:=by
 have lb:bx < h₀.length:=by (refine x3_2 R ?_;intro _ _ _ e _);exact zeH e
 have ln:=zeH ha
 have lf:=zeH hf
 obtain ⟨l',h',e,ps,vs,hl,M,x10,x11,x12,x13,x14,rfl⟩:=for_src (src:= .fixed ((List.range many.toNat).map fun k=> .int (Int.ofNat k))) (vs:=(List.range many.toNat).map fun k=> .int (Int.ofNat k)) (tgt:=fun v l=>some (l.set 10 (some v))) (body:=zaC tabs (zay tabs fnsT (n + 5)) b53l0)
  (fun k l h'=>∃ ps vs,ps.length=k∧(∃ m1 m2,Made h₀ h' bx no fo vs ps m1 m2)∧∃ x10 x11 x12 x13 x14,l=rdL bx no fo many u orders mode most (isum (ps.map (fsz u))) (zbZ ps) x10 x11 x12 x13 x14) (fun k l h' _=>rfl)
  (fun k w l h' zz hw=>by
   obtain ⟨ps,vs,hl,⟨m1,m2,M⟩,x10,x11,x12,x13,x14,q⟩:=zz
   subst q
   have hk:=(List.getElem?_eq_some_iff.mp hw).1
   simp only [List.length_map,List.length_range] at hk
   refine x3_4 (c45 n M.rng u ho M.f d3 M.ok (by lia)) fun v p h2 e2 r2 ok2 g2=>?_
   have a2:=g2.lst M.a d2
   have f2:=g2.lst M.f d3
   have lvs:=M.r.len
   have z1:vs.length < 4096:=by lia
   have z2:(ps.map zaz).length < 4096:=by rw [List.length_map];lia
   have f3:=zcz (x:= .list (vs ++ [v]) (m1 + 1)) f2 d1
   have s1:Gr [no] h2 (h2.set no (.list (vs ++ [v]) (m1 + 1))):=Gr.set _ a2 (.head _) _
   have s2:Gr [fo] (h2.set no (.list (vs ++ [v]) (m1 + 1))) ((h2.set no (.list (vs ++ [v]) (m1 + 1))).set fo (.list (ps.map zaz ++ [zaz p]) (m2 + 1))):=Gr.set _ f3 (.head _) _
   have a4:=zcz (x:= .list (ps.map zaz ++ [zaz p]) (m2 + 1)) (zaO a2 (.list (vs ++ [v]) (m1 + 1))) d1.symm
   have nb:∀ j,h₀.length≤j→j ∉ [bx]:=fun j q=>by simp;lia
   have nn:∀ j,h₀.length≤j→j ∉ [no]:=fun j q=>by simp;lia
   have nf:∀ j,h₀.length≤j→j ∉ [fo]:=fun j q=>by simp;lia
   have gl:=M.g.len
   have M':Made h₀ ((h2.set no (.list (vs ++ [v]) (m1 + 1))).set fo (.list (ps.map zaz ++ [zaz p]) (m2 + 1))) bx no fo (vs ++ [v]) (ps ++ [p]) (m1 + 1) (m2 + 1):=by
    refine ⟨fun q m=>?_,?_,a4,?_,?_,?_⟩
    · rcases List.mem_append.mp m with m | m
      · exact M.ok q m
      · simp only [List.mem_singleton.mp m];exact ok2
    · have r1:zaK (fun j=>h₀.length≤j) h2 vs ps:=M.r.imp fun _ _ x=>x.gr g2.gr nb
      have r3:zaK (fun j=>h₀.length≤j) h2 (vs ++ [v]) (ps ++ [p]):=r1.app (.cons (r2.imp fun j q _=>Nat.le_trans gl q) .nil)
      exact r3.imp fun _ _ x=>(x.gr s1 nn).gr s2 nf
    · simp only [List.map_append];exact zaO f3 _
    · refine x3_2 g2.rng fun x y w q1 q2=>?_
      exact ⟨x,y,w,zcz (zcz q1 d2) d3,q2⟩
    · exact ((M.g.trans (g2.gr.mono (by simp))).trans (s1.mono (by simp))).trans (s2.mono (by simp))
   have ei:isum ((ps ++ [p]).map (fsz u))=isum (ps.map (fsz u)) + p.fsz u:=zcV _ _ _
   have el:zbZ (ps ++ [p])=lastF (zbZ ps) p:=by unfold zbZ;rw [List.foldl_append];rfl
   rcases deep_cases p (zbZ ps) with ⟨dn,dl⟩ | dn
   · rw [dn] at e2
     refine ⟨_,_,_,rfl,runB (n:=n + 5) (b:=b53l0) (l:=rdL bx no fo many u orders mode most (isum (ps.map (fsz u))) (zbZ ps) (some w) x11 x12 x13 x14) (h:=h') [.r (.ok (.tup [v,zaz p,.int (p.fsz u),.none]) h2),.o (.list vs m1),.o (.list vs m1),.o (.list (ps.map zaz) m2),.o (.list (ps.map zaz) m2)]
      e2 a2 a2 z1 f3 f3 z2,ps ++ [p],vs ++ [v],by simp only [List.length_append,List.length_singleton,hl],⟨_,_,M'⟩,some w,some v,some (zaz p),some (.int (p.fsz u)),some .none,?_⟩
     simp only [ei,el,dl]
     rfl
   · rw [dn] at e2
     refine ⟨_,_,_,rfl,runB (n:=n + 5) (b:=b53l0) (l:=rdL bx no fo many u orders mode most (isum (ps.map (fsz u))) (zbZ ps) (some w) x11 x12 x13 x14) (h:=h') [.r (.ok (.tup [v,zaz p,.int (p.fsz u),.int (lastF (zbZ ps) p)]) h2),.o (.list vs m1),.o (.list vs m1),.o (.list (ps.map zaz) m2),.o (.list (ps.map zaz) m2)]
      e2 a2 a2 z1 f3 f3 z2,ps ++ [p],vs ++ [v],by simp only [List.length_append,List.length_singleton,hl],⟨_,_,M'⟩,some w,some v,some (zaz p),some (.int (p.fsz u)),some (.int (lastF (zbZ ps) p)),?_⟩
     rw [ei,el]
     rfl)
  (m:=((List.range many.toNat).map fun k=>MV.int (Int.ofNat k)).length + 1) (k:=0) (l:=rdL bx no fo many u orders mode most 0 0 none none none none none) (h:=h₀)
  ⟨[],[],rfl,⟨0,0,⟨(fun _ m=>by cases m),.nil,ha,hf,R,Gr.refl _ _⟩⟩,none,none,none,none,none,rfl⟩ (Nat.zero_le _) rfl
 refine x2_1 M ?_;intro m1 m2 M
 simp only [List.length_map,List.length_range] at hl
 refine ⟨ps,vs,m1,m2,h',x10,x11,x12,x13,x14,?_,M,by lia⟩
 exact runB (n:=n + 5) (b:=seg 3 1) (l:=rdL bx no fo many u orders mode most 0 0 none none none none none) (h:=h₀) [.s (.nxt (rdL bx no fo many u orders mode most (isum (ps.map (fsz u))) (zbZ ps) x10 x11 x12 x13 x14) h')] ⟨hm.1,by lia⟩ e
end
noncomputable abbrev rdM (bx no fo:Nat) (many:Int) (u:Bool) (orders mode most own last:Int) (x10 x11 x12 x13 x14 low less goal due pk x20 plain told bg cnts twin sense ends:Option MV) :Locs:=
 [some (.ref bx),some (.int many),some (.bool u),some (.int orders),some (.int mode),some (.int most),some (.ref no),some (.ref fo),some (.int own),some (.int last),x10,x11,x12,x13,x14,low,less,goal,due,pk,x20,plain,told,bg,cnts,twin,sense,ends]
noncomputable def zbP:Part→Bool
 | .glue _ _ _ _ ho=>decide (ho=0)
 | _=>false
section
variable (n:Nat) {h:zax} {bx no fo m1 m2:Nat} {many orders mode most own last:Int} {u:Bool} {ps:List Part} {x10 x11 x12 x13 x14:Option MV}
theorem less_comp (hf:h[fo]? =some (.list (ps.map zaz) m2)) (l0 l1 l2 l3 l4 l5 l6 l7 l8 l9 l10 l11 l12 l13 l14 l15 l16 l17 l18 l19 l20 l21 l22 l23 l24 l25 l26 l27:Option MV) :
 zaN (.list fo m2 false) 0 (zaw tabs (zay tabs fnsT n) b53e1) (zaw tabs (zay tabs fnsT n) b53e0) [l0,l1,l2,l3,l4,l5,l6,l7,l8,l9,l10,l11,l12,l13,l14,l15,l16,l17,l18,l19,l20,l21,l22,l23,l24,l25,l26,l27] ((ps.map zaz).length + 1) 0 [] h= .ok (((ps.filter zbP).map (amB false)).map MV.int) h:=by
 refine x2_3 (zcN (src:= .list fo m2 false) (vs:=ps.map zaz) (nt:=0) (cond:=zaw tabs (zay tabs fnsT n) b53e1) (elt:=zaw tabs (zay tabs fnsT n) b53e0) (l:=[l0,l1,l2,l3,l4,l5,l6,l7,l8,l9,l10,l11,l12,l13,l14,l15,l16,l17,l18,l19,l20,l21,l22,l23,l24,l25,l26,l27])
  (fun k acc h'=>h'=h∧acc=(((ps.take k).filter zbP).map (amB false)).map MV.int) (fun k acc h' ⟨q,_⟩=>by subst q;simp only [zaH,itemsV?,hf];cases (ps.map zaz)[k]? <;> rfl) (fun k acc h' v zz hv=>by
   refine x0_2 zz ?_;(try clear zz);intro q1 q2
   subst q1 q2
   rw [List.getElem?_map,Option.map_eq_some_iff] at hv
   refine x1_2 hv ?_;(try clear hv);rintro p hp rfl
   have tk:ps.take (k + 1)=ps.take k ++ [p]:=by simp only [List.take_add_one,hp];rfl
   have c:zaw tabs (zay tabs fnsT n) b53e1 [l0,l1,l2,l3,l4,l5,l6,l7,l8,l9,l10,l11,l12,l13,l14,l15,l16,l17,l18,l19,l20,l21,l22,l23,l24,l25,l26,l27,some (zaz p)] h'= .ok (.bool (zbP p)) h':=by
    cases p with
    | glue w s so sh ho=>exact runE (n:=n) (e:=b53e1) (l:=[l0,l1,l2,l3,l4,l5,l6,l7,l8,l9,l10,l11,l12,l13,l14,l15,l16,l17,l18,l19,l20,l21,l22,l23,l24,l25,l26,l27,some (.tup [.int w,.int s,.int so,.int sh,.int ho])]) (h:=h') []
    | kern w k=>exact runE (n:=n) (e:=b53e1) (l:=[l0,l1,l2,l3,l4,l5,l6,l7,l8,l9,l10,l11,l12,l13,l14,l15,l16,l17,l18,l19,l20,l21,l22,l23,l24,l25,l26,l27,some (.tup [])]) (h:=h') []
    | pen v=>exact runE (n:=n) (e:=b53e1) (l:=[l0,l1,l2,l3,l4,l5,l6,l7,l8,l9,l10,l11,l12,l13,l14,l15,l16,l17,l18,l19,l20,l21,l22,l23,l24,l25,l26,l27,some (.tup [])]) (h:=h') []
    | rule w a d=>exact runE (n:=n) (e:=b53e1) (l:=[l0,l1,l2,l3,l4,l5,l6,l7,l8,l9,l10,l11,l12,l13,l14,l15,l16,l17,l18,l19,l20,l21,l22,l23,l24,l25,l26,l27,some (.tup [])]) (h:=h') []
    | box k w a d sf=>exact runE (n:=n) (e:=b53e1) (l:=[l0,l1,l2,l3,l4,l5,l6,l7,l8,l9,l10,l11,l12,l13,l14,l15,l16,l17,l18,l19,l20,l21,l22,l23,l24,l25,l26,l27,some (.tup [])]) (h:=h') []
   refine ⟨[some (zaz p)],.bool (zbP p),h',zbP p,rfl,c,rfl,fun q=>⟨rfl,?_⟩,fun q=>⟨.int (amB false p),h',?_,rfl,?_⟩⟩
   · rw [tk,List.filter_append,List.filter_cons_of_neg (by simp [q])];simp
   · cases p with
     | glue w s so sh ho=>exact runE (n:=n) (e:=b53e0) (l:=[l0,l1,l2,l3,l4,l5,l6,l7,l8,l9,l10,l11,l12,l13,l14,l15,l16,l17,l18,l19,l20,l21,l22,l23,l24,l25,l26,l27,some (zaz (.glue w s so sh ho))]) (h:=h') []
     | kern w k=>exact noC Bool.ctorIdx q rfl
     | pen v=>exact noC Bool.ctorIdx q rfl
     | rule w a d=>exact noC Bool.ctorIdx q rfl
     | box k w a d sf=>exact noC Bool.ctorIdx q rfl
   · rw [tk,List.filter_append,List.filter_cons_of_pos q];simp)
  (m:=(ps.map zaz).length + 1) (k:=0) (acc:=[]) (h:=h) ⟨rfl,rfl⟩ (Nat.zero_le _) rfl) ?_;rintro acc h' e rfl rfl
 rw [List.length_map,List.take_length] at e
 rw [List.length_map];exact e
theorem less_bnd (hp:∀ p∈ ps,POK p) (hl:ps.length≤8) :-100000000≤isum ((ps.filter zbP).map (amB false))∧isum ((ps.filter zbP).map (amB false))≤100000000:=by
 have b:=isum_bnd (f:=amB false) (l:=ps.filter zbP) (c:=4000000) fun p m=>(hp p (List.mem_filter.mp m).1).aok.z
 have:=List.length_filter_le zbP ps
 lia
theorem round_goal (R:Rng h bx) (hf:h[fo]? =some (.list (ps.map zaz) m2)) (hfb:fo≠bx) (hp:∀ p∈ ps,POK p) (hl:ps.length≤8) (hm:mode=0∨mode=1) (m0:0≤most) (hown:own=isum (ps.map (fsz u))) (hlast:last=zbZ ps) :
 ∃ am less h',zaC tabs (zay tabs fnsT (n + 2)) (b53.drop 4) (rdL bx no fo many u orders mode most own last x10 x11 x12 x13 x14) h =
  zaC tabs (zay tabs fnsT (n + 2)) (b53.drop 9) (rdM bx no fo many u orders mode most (natU u ps most) last x10 x11 x12 (some (.int (szU u ps mode am most))) x14 (some (.int (lowU u ps most))) less (some (zaF mode am most)) none none none none none none none none none none) h'∧RG bx h h':=by
 have ow:=own_bnd (ps:=ps) u (most:=most) hp hl m0
 have lb:=less_bnd hp hl
 have R1:=R.refl.app [.list (((ps.filter zbP).map (amB false)).map MV.int) 0]
 refine x2_3 (c46 n R1.rng (mode:=mode) (own:=natU u ps most) (less:=isum ((ps.filter zbP).map (amB false))) hm ow lb) fun am h2 e2 _ g2=>?_
 have sl:=sum_list (zaD h (.list (((ps.filter zbP).map (amB false)).map MV.int) 0))
 have ll:(((ps.filter zbP).map (amB false)).map MV.int).length≤4096:=by
  simp only [List.length_map,List.length_map]
  have:=List.length_filter_le zbP ps
  lia
 have lc:=less_comp (n + 2) hf (some (.ref bx)) (some (.int many)) (some (.bool u)) (some (.int orders)) (some (.int mode)) (some (.int most)) (some (.ref no)) (some (.ref fo)) (some (.int (natU u ps most))) (some (.int last)) x10 x11 x12 x13 x14 (some (.int (lowU u ps most))) none none none none none none none none none none none none
 refine ⟨am,some (.int (isum ((ps.filter zbP).map (amB false)))),h2,?_,R1.trans g2⟩
 have A:zaC tabs (zay tabs fnsT (n + 2)) (seg 4 1) (rdL bx no fo many u orders mode most own last x10 x11 x12 x13 x14) h= .nxt (rdM bx no fo many u orders mode most own last x10 x11 x12 x13 x14 (some (.int (lowU u ps most))) none none none none none none none none none none none none) h:=by
  subst hlast
  cases u
  · exact runB (n:=n + 2) (b:=seg 4 1) (l:=rdL bx no fo many false orders mode most own (zbZ ps) x10 x11 x12 x13 x14) (h:=h) []
  · exact runB (n:=n + 2) (b:=seg 4 1) (l:=rdL bx no fo many true orders mode most own (zbZ ps) x10 x11 x12 x13 x14) (h:=h) []
 have B:zaC tabs (zay tabs fnsT (n + 2)) (seg 5 1) (rdM bx no fo many u orders mode most own last x10 x11 x12 x13 x14 (some (.int (lowU u ps most))) none none none none none none none none none none none none) h= .nxt (rdM bx no fo many u orders mode most (natU u ps most) last x10 x11 x12 x13 x14 (some (.int (lowU u ps most))) none none none none none none none none none none none none) h:=by
  rw [natU_own,← hown]
  exact runB (n:=n + 2) (b:=seg 5 1) (l:=rdM bx no fo many u orders mode most own last x10 x11 x12 x13 x14 (some (.int (lowU u ps most))) none none none none none none none none none none none none) (h:=h) []
 have C:zaC tabs (zay tabs fnsT (n + 2)) (seg 6 1) (rdM bx no fo many u orders mode most (natU u ps most) last x10 x11 x12 x13 x14 (some (.int (lowU u ps most))) none none none none none none none none none none none none) h= .nxt (rdM bx no fo many u orders mode most (natU u ps most) last x10 x11 x12 x13 x14 (some (.int (lowU u ps most))) (some (.int (isum ((ps.filter zbP).map (amB false))))) none none none none none none none none none none none) (h ++ [MObj.list (((ps.filter zbP).map (amB false)).map MV.int) 0]):=
  runB (n:=n + 2) (b:=seg 6 1) (l:=(rdM bx no fo many u orders mode most (natU u ps most) last x10 x11 x12 x13 x14 (some (.int (lowU u ps most))) none none none none none none none none none none none none)) (h:=h) [.o (.list (ps.map zaz) m2),.l (.ok (((ps.filter zbP).map (amB false)).map MV.int) h),.r (.ok (.int (isum ((ps.filter zbP).map (amB false)))) (h ++ [MObj.list (((ps.filter zbP).map (amB false)).map MV.int) 0]))] hf lc ll sl
 have C':zaC tabs (zay tabs fnsT (n + 2)) (seg 7 1) (rdM bx no fo many u orders mode most (natU u ps most) last x10 x11 x12 x13 x14 (some (.int (lowU u ps most))) (some (.int (isum ((ps.filter zbP).map (amB false))))) none none none none none none none none none none none) (h ++ [MObj.list (((ps.filter zbP).map (amB false)).map MV.int) 0])= .nxt (rdM bx no fo many u orders mode most (natU u ps most) last x10 x11 x12 x13 x14 (some (.int (lowU u ps most))) (some (.int (isum ((ps.filter zbP).map (amB false))))) (some (zaF mode am most)) none none none none none none none none none none) h2:=
  runB (n:=n + 2) (b:=seg 7 1) (l:=(rdM bx no fo many u orders mode most (natU u ps most) last x10 x11 x12 x13 x14 (some (.int (lowU u ps most))) (some (.int (isum ((ps.filter zbP).map (amB false))))) none none none none none none none none none none none)) (h:=(h ++ [MObj.list (((ps.filter zbP).map (amB false)).map MV.int) 0])) [.r (.ok (.int am) h2)] e2
 have D:zaC tabs (zay tabs fnsT (n + 2)) (seg 8 1) (rdM bx no fo many u orders mode most (natU u ps most) last x10 x11 x12 x13 x14 (some (.int (lowU u ps most))) (some (.int (isum ((ps.filter zbP).map (amB false))))) (some (zaF mode am most)) none none none none none none none none none none) h2 =
  .nxt (rdM bx no fo many u orders mode most (natU u ps most) last x10 x11 x12 (some (.int (szU u ps mode am most))) x14 (some (.int (lowU u ps most))) (some (.int (isum ((ps.filter zbP).map (amB false))))) (some (zaF mode am most)) none none none none none none none none none none) h2:=by
  rcases hm with rfl | rfl
  · exact runB (n:=n + 2) (b:=seg 8 1) (l:=rdM bx no fo many u orders 0 most (natU u ps most) last x10 x11 x12 x13 x14 (some (.int (lowU u ps most))) (some (.int (isum ((ps.filter zbP).map (amB false))))) (some (zaF 0 am most)) none none none none none none none none none none) (h:=h2) []
  · exact runB (n:=n + 2) (b:=seg 8 1) (l:=rdM bx no fo many u orders 1 most (natU u ps most) last x10 x11 x12 x13 x14 (some (.int (lowU u ps most))) (some (.int (isum ((ps.filter zbP).map (amB false))))) (some (zaF 1 am most)) none none none none none none none none none none) (h:=h2) []
 exact (zaX 4 1 A).trans ((zaX 5 1 B).trans ((zaX 6 1 C).trans ((zaX 7 1 C').trans (zaX 8 1 D))))
end
section
variable (n:Nat) {Q:Nat→Prop} {h:zax} {bx no fo m1 m2:Nat} {vs:List MV} {ps:List Part}
theorem plain_comp (hf:h[fo]? =some (.list (ps.map zaz) m2)) (ha:h[no]? =some (.list vs m1)) (r:zaK Q h vs ps) (hp:∀ p∈ ps,POK p) (x0 x1 x2 x3 x4 x5 x7 x8 x9 x10 x11 x12 x13 x14 x15 x16 x17 x18 x19 x20 x21 x22 x23 x24 x25 x26 x27:Option MV) :
 ∃ vp h',zaN (.list fo m2 true) 2 yes (zaw tabs (zay tabs fnsT (n + 3)) b53e2) [x0,x1,x2,x3,x4,x5,some (.ref no),x7,x8,x9,x10,x11,x12,x13,x14,x15,x16,x17,x18,x19,x20,x21,x22,x23,x24,x25,x26,x27] ((ps.map zaz).length + 1) 0 [] h= .ok vp h'∧Gr [] h h'∧zaK Q h' vp (ps.map plainP):=by
 refine x2_3 (zcN (src:= .list fo m2 true) (vs:=(ps.map zaz).mapIdx fun k v=> .tup [.int (k:Int),v]) (nt:=2) (cond:=yes) (elt:=zaw tabs (zay tabs fnsT (n + 3)) b53e2) (l:=[x0,x1,x2,x3,x4,x5,some (.ref no),x7,x8,x9,x10,x11,x12,x13,x14,x15,x16,x17,x18,x19,x20,x21,x22,x23,x24,x25,x26,x27])
  (fun k acc h'=>Gr [] h h'∧zaK Q h' acc ((ps.take k).map plainP)) (fun k acc h' zz=>by
   refine x0_2 zz ?_;intro g _
   simp only [zaH,itemsV?,g.lst hf (fun m=>nomatch m),if_true,List.getElem?_mapIdx]) (fun k acc h' v zz hv=>by
   refine x0_2 zz ?_;intro g r1
   rw [List.getElem?_mapIdx,List.getElem?_map,Option.map_map,Option.map_eq_some_iff] at hv
   refine x1_2 hv ?_;(try clear hv);rintro p hp' rfl
   have tk:ps.take (k + 1)=ps.take k ++ [p]:=by simp only [List.take_add_one,hp'];rfl
   have fin:∀ x h2,Gr [] h' h2→RepP Q h2 x (plainP p)→Gr [] h h2∧zaK Q h2 (acc ++ [x]) ((ps.take (k + 1)).map plainP):=fun x h2 g2 rx=>by
    simp only [tk,List.map_append]
    exact ⟨g.trans g2,(r1.imp fun _ _ y=>y.gr g2 (fun _ _ m=>nomatch m)).app (.cons rx .nil)⟩
   refine ⟨[some (.int (k:Int)),some (zaz p)],_,_,true,rfl,rfl,rfl,(fun q=>nomatch q),fun _=>?_⟩
   refine x1_2 (r.get' hp') fun x hx rx=>?_
   have rx':=rx.gr g (fun _ _ m=>nomatch m)
   have it:=zdY (k:=k) (g.lst ha (fun m=>nomatch m)) hx
   have same:zaz p= .tup []→plainP p=p→∃ x h2,zaw tabs (zay tabs fnsT (n + 3)) b53e2 ([x0,x1,x2,x3,x4,x5,some (.ref no),x7,x8,x9,x10,x11,x12,x13,x14,x15,x16,x17,x18,x19,x20,x21,x22,x23,x24,x25,x26,x27] ++ [some (.int (k:Int)),some (zaz p)]) h'= .ok x h2∧Gr [] h h2∧zaK Q h2 (acc ++ [x]) ((ps.take (k + 1)).map plainP):=fun z1 z2=>by
    rw [z1]
    refine ⟨x,h',runE (n:=n + 3) (e:=b53e2) (l:=[x0,x1,x2,x3,x4,x5,some (.ref no),x7,x8,x9,x10,x11,x12,x13,x14,x15,x16,x17,x18,x19,x20,x21,x22,x23,x24,x25,x26,x27,some (.int (k:Int)),some (.tup [])]) (h:=h') [.i x] it,?_⟩
    exact fin x h' (Gr.refl _ _) (by simp only [z2];exact rx')
   cases p with
   | glue w s so sh ho=>
    have ok:=hp _ (mem_at hp')
    have e2:=n16 n h' (w:=w) (srt:=1) ok.1.dim (by decide) (by decide)
    exact ⟨.ref h'.length,h' ++ [kernO (.int w) (.int 1)],runE (n:=n + 3) (e:=b53e2) (l:=[x0,x1,x2,x3,x4,x5,some (.ref no),x7,x8,x9,x10,x11,x12,x13,x14,x15,x16,x17,x18,x19,x20,x21,x22,x23,x24,x25,x26,x27,some (.int (k:Int)),some (.tup [.int w,.int s,.int so,.int sh,.int ho])]) (h:=h') [.r (.ok .none (h' ++ [kernO (.int w) (.int 1)]))] e2,fin _ _ (Gr.app _ _ _) (.kern (zaD _ _))⟩
   | kern w k=>exact same rfl rfl
   | pen v=>exact same rfl rfl
   | rule w a d=>exact same rfl rfl
   | box k w a d sf=>exact same rfl rfl)
  (m:=(ps.map zaz).length + 1) (k:=0) (acc:=[]) (h:=h) ⟨Gr.refl _ _,.nil⟩ (Nat.zero_le _) (by rw [List.length_mapIdx])) fun acc h' e g r'=>?_
 rw [List.length_mapIdx,List.length_map,List.take_length] at r'
 exact ⟨acc,h',e,g,r'⟩
end
theorem big_ok {a s:Int} (h:dim a∧dim s) :¬ ((if (s.natAbs:Int) < (a.natAbs:Int) then (a.natAbs:Int) else (s.natAbs:Int))≥(2:Int) ^ (30:Int).toNat):=by
 have e:(2:Int) ^ (30:Int).toNat=1073741824:=by decide
 have h1:(-1073741823:Int)≤a:=h.1.1
 have h2:a≤(1073741823:Int):=h.1.2
 have h3:(-1073741823:Int)≤s:=h.2.1
 have h4:s≤(1073741823:Int):=h.2.2
 rw [e]
 split <;> omega
theorem big_no {a s:Int} (h:¬(dim a∧dim s)) :((if (s.natAbs:Int) < (a.natAbs:Int) then (a.natAbs:Int) else (s.natAbs:Int))≥(2:Int) ^ (30:Int).toNat):=by
 have e:(2:Int) ^ (30:Int).toNat=1073741824:=by decide
 have h':¬(((-1073741823:Int)≤a∧a≤(1073741823:Int))∧((-1073741823:Int)≤s∧s≤(1073741823:Int))):=h
 simp only [e]
 split <;> omega
theorem Pk.refl {ps:List Part} {u:Bool} {mode am most:Int} (K:Pk ps u mode am most) :Oth ps u mode am most ps:=⟨rfl,K.aok⟩
noncomputable abbrev dueM (ps:List Part) :MV:= .tup (ps.map fun p=> .tup (dsc p))
section
variable (n:Nat) {Q:Nat→Prop} {h:zax} {bx no fo m1 m2:Nat} {many orders mode most own last am:Int} {u:Bool} {vs:List MV} {ps:List Part} {x10 x11 x12 x14 less x20:Option MV}
theorem round_pack (K:Pk ps u mode am most) (ha:h[no]? =some (.list vs m1)) (hf:h[fo]? =some (.list (ps.map zaz) m2)) (r:zaK Q h vs ps) :
 ∃ b it pl vp h',zaC tabs (zay tabs fnsT (n + 9)) (b53.drop 9) (rdM bx no fo many u orders mode most (natU u ps most) last x10 x11 x12 (some (.int (szU u ps mode am most))) x14 (some (.int (lowU u ps most))) less (some (zaF mode am most)) none none x20 none none none none none none none) h =
  zaC tabs (zay tabs fnsT (n + 9)) (b53.drop 13) (rdM bx no fo many u orders mode most (natU u ps most) last x10 x11 x12 (some (.int (szU u ps mode am most))) x14 (some (.int (lowU u ps most))) less (some (zaF mode am most)) (some (dueM ps)) (some (.tup [.ref b,rp0 vs (gP u ps mode am most)])) x20 (some (.ref pl)) none none none none none none) h'∧Gr [] h h'∧
  h'[b]? =some (setO (.int (kd u)) (.int (wU u ps (szU u ps mode am most))) (.int (hU u ps (szU u ps mode am most))) (.int (dU u ps most)) it (.int 0) (gP u ps mode am most))∧h'[it]? =some (.list vs 0)∧h'[pl]? =some (.list vp 0)∧zaK Q h' vp (ps.map plainP)∧h.length≤pl:=by
 have hl:=r.len
 have hl8:=K.hl
 refine x1_2 (c21 (n + 5) ha r (by omega)) fun h1 e1 g1=>?_
 refine x3_5 (K.refl.packed (n + 2) K (g1.lst ha (fun m=>nomatch m)) (r.imp fun _ _ x=>x.gr g1 (fun _ _ m=>nomatch m))) fun b it h2 e2 g2 _ hb hi=>?_
 have g12:=g1.trans g2
 refine x2_3 (plain_comp (Q:=Q) (n + 6) (g12.lst hf (fun m=>nomatch m)) (g12.lst ha (fun m=>nomatch m)) (r.imp fun _ _ x=>x.gr g12 (fun _ _ m=>nomatch m)) K.ok
  (some (.ref bx)) (some (.int many)) (some (.bool u)) (some (.int orders)) (some (.int mode)) (some (.int most)) (some (.ref fo)) (some (.int (natU u ps most))) (some (.int last)) x10 x11 x12 (some (.int (szU u ps mode am most))) x14 (some (.int (lowU u ps most))) less (some (zaF mode am most)) (some (dueM ps)) (some (.tup [.ref b,rp0 vs (gP u ps mode am most)])) x20 none none none none none none none) fun vp h3 e3 g3 r3=>?_
 have lp:vp.length≤4096:=by
  have:=r3.len
  rw [List.length_map] at this
  omega
 have A:zaC tabs (zay tabs fnsT (n + 9)) (seg 9 1) (rdM bx no fo many u orders mode most (natU u ps most) last x10 x11 x12 (some (.int (szU u ps mode am most))) x14 (some (.int (lowU u ps most))) less (some (zaF mode am most)) none none x20 none none none none none none none) h =
  .nxt (rdM bx no fo many u orders mode most (natU u ps most) last x10 x11 x12 (some (.int (szU u ps mode am most))) x14 (some (.int (lowU u ps most))) less (some (zaF mode am most)) (some (dueM ps)) (some (.tup [.ref b,rp0 vs (gP u ps mode am most)])) x20 none none none none none none none) h2:=
  runB (n:=n + 9) (b:=seg 9 1) (l:=rdM bx no fo many u orders mode most (natU u ps most) last x10 x11 x12 (some (.int (szU u ps mode am most))) x14 (some (.int (lowU u ps most))) less (some (zaF mode am most)) none none x20 none none none none none none none) (h:=h) [.r (.ok (dueM ps) h1),.r (.ok (.tup [.ref b,rp0 vs (gP u ps mode am most)]) h2)] e1 e2
 have B:zaC tabs (zay tabs fnsT (n + 9)) (seg 10 1) (rdM bx no fo many u orders mode most (natU u ps most) last x10 x11 x12 (some (.int (szU u ps mode am most))) x14 (some (.int (lowU u ps most))) less (some (zaF mode am most)) (some (dueM ps)) (some (.tup [.ref b,rp0 vs (gP u ps mode am most)])) x20 none none none none none none none) h2 =
  .nxt (rdM bx no fo many u orders mode most (natU u ps most) last x10 x11 x12 (some (.int (szU u ps mode am most))) x14 (some (.int (lowU u ps most))) less (some (zaF mode am most)) (some (dueM ps)) (some (.tup [.ref b,rp0 vs (gP u ps mode am most)])) x20 (some (.ref h3.length)) none none none none none none) (h3 ++ [MObj.list vp 0]):=
  runB (n:=n + 9) (b:=seg 10 1) (l:=rdM bx no fo many u orders mode most (natU u ps most) last x10 x11 x12 (some (.int (szU u ps mode am most))) x14 (some (.int (lowU u ps most))) less (some (zaF mode am most)) (some (dueM ps)) (some (.tup [.ref b,rp0 vs (gP u ps mode am most)])) x20 none none none none none none none) (h:=h2) [.o (.list (ps.map zaz) m2),.l (.ok vp h3)] (g12.lst hf (fun m=>nomatch m)) e3 lp
 have C:zaC tabs (zay tabs fnsT (n + 9)) (seg 11 2) (rdM bx no fo many u orders mode most (natU u ps most) last x10 x11 x12 (some (.int (szU u ps mode am most))) x14 (some (.int (lowU u ps most))) less (some (zaF mode am most)) (some (dueM ps)) (some (.tup [.ref b,rp0 vs (gP u ps mode am most)])) x20 (some (.ref h3.length)) none none none none none none) (h3 ++ [MObj.list vp 0]) =
  .nxt (rdM bx no fo many u orders mode most (natU u ps most) last x10 x11 x12 (some (.int (szU u ps mode am most))) x14 (some (.int (lowU u ps most))) less (some (zaF mode am most)) (some (dueM ps)) (some (.tup [.ref b,rp0 vs (gP u ps mode am most)])) x20 (some (.ref h3.length)) none none none none none none) (h3 ++ [MObj.list vp 0]):=
  runB (n:=n + 9) (b:=seg 11 2) (l:=rdM bx no fo many u orders mode most (natU u ps most) last x10 x11 x12 (some (.int (szU u ps mode am most))) x14 (some (.int (lowU u ps most))) less (some (zaF mode am most)) (some (dueM ps)) (some (.tup [.ref b,rp0 vs (gP u ps mode am most)])) x20 (some (.ref h3.length)) none none none none none none) (h:=h3 ++ [MObj.list vp 0]) [.b false] ⟨by decide,by decide,by decide,by decide⟩ (df (big_ok ⟨K.d1,K.d2⟩))
 exact ⟨b,it,h3.length,vp,_,(zaX 9 1 A).trans ((zaX 10 1 B).trans (zaX 11 2 C)),(g12.trans g3).push _,zaJ (g3.inst hb),zaJ (g3.lst hi (fun m=>nomatch m)),zaD _ _,r3.imp fun _ _ x=>x.gr (Gr.app [] _ _) (fun _ _ m=>nomatch m),(g12.trans g3).len⟩
theorem round_big (hp:∀ p∈ ps,POK p) (hl8:ps.length≤8) (hm:mode=0∨mode=1) (m0:0≤most) (mx:most≤1073741823) (hx:¬(dim am∧dim (szU u ps mode am most))) (ha:h[no]? =some (.list vs m1)) (hf:h[fo]? =some (.list (ps.map zaz) m2)) (r:zaK Q h vs ps) :
 ∃ h',zaC tabs (zay tabs fnsT (n + 9)) (b53.drop 9) (rdM bx no fo many u orders mode most (natU u ps most) last x10 x11 x12 (some (.int (szU u ps mode am most))) x14 (some (.int (lowU u ps most))) less (some (zaF mode am most)) none none x20 none none none none none none none) h= .ret (.bool true) h'∧Gr [] h h':=by
 have hl:=r.len
 have F:Fit ps most:=fit_of hp hl8 m0 mx
 have S:zcK ps (ps.map plainP):=(zeC zdR ps).symm
 have F':Fit (ps.map plainP) most:=F.put S hl8 fun q m=>by
  refine x1_2 (List.mem_map.mp m) ?_;rintro p hp' rfl
  exact zdS (by decide) ((hp p hp').aok.mono (by decide))
 refine x1_2 (c21 (n + 5) ha r (by omega)) fun h1 e1 g1=>?_
 refine x1_2 (c47x (n + 2) (u:=u) (am:=am) (g1.lst ha (fun m=>nomatch m)) (r.imp fun _ _ x=>x.gr g1 (fun _ _ m=>nomatch m)) (by omega) hm F hx) fun h2 e2 g2=>?_
 have g12:=g1.trans g2
 refine x2_3 (plain_comp (Q:=Q) (n + 6) (g12.lst hf (fun m=>nomatch m)) (g12.lst ha (fun m=>nomatch m)) (r.imp fun _ _ x=>x.gr g12 (fun _ _ m=>nomatch m)) hp
  (some (.ref bx)) (some (.int many)) (some (.bool u)) (some (.int orders)) (some (.int mode)) (some (.int most)) (some (.ref fo)) (some (.int (natU u ps most))) (some (.int last)) x10 x11 x12 (some (.int (szU u ps mode am most))) x14 (some (.int (lowU u ps most))) less (some (zaF mode am most)) (some (dueM ps)) (some .none) x20 none none none none none none none) fun vp h3 e3 g3 r3=>?_
 have lp:vp.length≤4000:=by
  have:=r3.len
  rw [List.length_map] at this
  omega
 have lp':vp.length≤4096:=by (with_reducible exact Nat.le_trans (by assumption) (Nat.le_add_left _ _))
 refine x1_2 (c47x (n + 2) (u:=u) (am:=am) (zaD h3 (.list vp 0)) (r3.imp fun _ _ x=>x.gr (Gr.app [] _ _) (fun _ _ m=>nomatch m)) lp hm F' (by rw [← same_natU S];exact hx)) fun h5 e5 g5=>?_
 have A:zaC tabs (zay tabs fnsT (n + 9)) (seg 9 1) (rdM bx no fo many u orders mode most (natU u ps most) last x10 x11 x12 (some (.int (szU u ps mode am most))) x14 (some (.int (lowU u ps most))) less (some (zaF mode am most)) none none x20 none none none none none none none) h =
  .nxt (rdM bx no fo many u orders mode most (natU u ps most) last x10 x11 x12 (some (.int (szU u ps mode am most))) x14 (some (.int (lowU u ps most))) less (some (zaF mode am most)) (some (dueM ps)) (some .none) x20 none none none none none none none) h2:=
  runB (n:=n + 9) (b:=seg 9 1) (l:=rdM bx no fo many u orders mode most (natU u ps most) last x10 x11 x12 (some (.int (szU u ps mode am most))) x14 (some (.int (lowU u ps most))) less (some (zaF mode am most)) none none x20 none none none none none none none) (h:=h) [.r (.ok (dueM ps) h1),.r (.ok .none h2)] e1 e2
 have B:zaC tabs (zay tabs fnsT (n + 9)) (seg 10 1) (rdM bx no fo many u orders mode most (natU u ps most) last x10 x11 x12 (some (.int (szU u ps mode am most))) x14 (some (.int (lowU u ps most))) less (some (zaF mode am most)) (some (dueM ps)) (some .none) x20 none none none none none none none) h2 =
  .nxt (rdM bx no fo many u orders mode most (natU u ps most) last x10 x11 x12 (some (.int (szU u ps mode am most))) x14 (some (.int (lowU u ps most))) less (some (zaF mode am most)) (some (dueM ps)) (some .none) x20 (some (.ref h3.length)) none none none none none none) (h3 ++ [MObj.list vp 0]):=
  runB (n:=n + 9) (b:=seg 10 1) (l:=rdM bx no fo many u orders mode most (natU u ps most) last x10 x11 x12 (some (.int (szU u ps mode am most))) x14 (some (.int (lowU u ps most))) less (some (zaF mode am most)) (some (dueM ps)) (some .none) x20 none none none none none none none) (h:=h2) [.o (.list (ps.map zaz) m2),.l (.ok vp h3)] (g12.lst hf (fun m=>nomatch m)) e3 lp'
 have C:zaC tabs (zay tabs fnsT (n + 9)) (seg 11 1) (rdM bx no fo many u orders mode most (natU u ps most) last x10 x11 x12 (some (.int (szU u ps mode am most))) x14 (some (.int (lowU u ps most))) less (some (zaF mode am most)) (some (dueM ps)) (some .none) x20 (some (.ref h3.length)) none none none none none none) (h3 ++ [MObj.list vp 0])= .ret (.bool true) h5:=
  runB (n:=n + 9) (b:=seg 11 1) (l:=rdM bx no fo many u orders mode most (natU u ps most) last x10 x11 x12 (some (.int (szU u ps mode am most))) x14 (some (.int (lowU u ps most))) less (some (zaF mode am most)) (some (dueM ps)) (some .none) x20 (some (.ref h3.length)) none none none none none none) (h:=h3 ++ [MObj.list vp 0]) [.b true,.r (.ok .none h5)] ⟨by decide,by decide,by decide,by decide⟩ (dt (big_no hx)) e5
 exact ⟨h5,(zaX 9 1 A).trans ((zaX 10 1 B).trans (seg_ret 11 1 C)),((g12.trans g3).push _).trans g5⟩
end
theorem rp0_tup (vs:List MV) (g:Setg) :∃ a0 a1,rp0 vs g= .tup [.int a0,.int a1]∧(vs≠[]→a0=g.q0∧a1=g.q1):=by
 by_cases q:vs= []
 · exact ⟨0,0,if_pos q,fun z=>absurd q z⟩
 · exact ⟨g.q0,g.q1,if_neg q,fun _=>⟨rfl,rfl⟩⟩
noncomputable abbrev endI (a0 a1 sz:Int) :Int:=if a0=3 then sz + a1 else sz
section
variable {n:Nat} {h:zax} {bx no fo:Nat} {many orders mode most own last:Int} {u:Bool} {ps:List Part} {x10 x11 x12 x14 less goal due pk x20 plain:Option MV}
theorem bgs_last (u:Bool) (ps:List Part) (mode am most:Int) :∃ l x,bgs u ps mode am most=l ++ [.int x]∧
 x - lowU u ps most=natU u ps most + if (gP u ps mode am most).sg=0 then 0 else if (gP u ps mode am most).q0=3 then exU u ps mode am most + (gP u ps mode am most).q1 else exU u ps mode am most:=by
 have r1:0 < (gP u ps mode am most).r1:=gG_r1
 refine x1_1 (pl_last u r1 ps) fun l e1=>?_
 refine ⟨l.map .int,_,by unfold bgs;simp only [e1,List.map_append];rfl,?_⟩
 have e2:=gG_end ps (exU u ps mode am most)
 have e3:=natU_own u ps most
 unfold gP at *
 simp only [e2,e3]
 lia
theorem round_chk (u:Bool) {size x low own ends a0 a1 w hh d k sg od r0 r1:Int} (bg:Nat) (h1:(if u then hh else w)=size) (h2:zaG h (.ref bg) (-1)=some (.int x)) (h3:x - low=if sg=0 then own else ends) (cnts twin:Option MV) :
 zaC tabs (zay tabs fnsT n) (seg 15 1) (rdM bx no fo many u orders mode most own last x10 x11 x12 (some (.int size)) x14 (some (.int low)) less goal due pk x20 plain (some (.tup [.int k,.int w,.int hh,.int d,.int 0,.int sg,.int od,.tup [.int r0,.int r1],.tup [.int a0,.int a1]])) (some (.ref bg)) cnts twin (some (.int sg)) (some (.int ends))) h =
  .nxt (rdM bx no fo many u orders mode most own last x10 x11 x12 (some (.int size)) x14 (some (.int low)) less goal due pk x20 plain (some (.tup [.int k,.int w,.int hh,.int d,.int 0,.int sg,.int od,.tup [.int r0,.int r1],.tup [.int a0,.int a1]])) (some (.ref bg)) cnts twin (some (.int sg)) (some (.int ends))) h:=by
 by_cases q:sg=0
 · rw [if_pos q] at h3
   cases u
   · exact runB (n:=n) (b:=seg 15 1) (l:=rdM bx no fo many false orders mode most own last x10 x11 x12 (some (.int size)) x14 (some (.int low)) less goal due pk x20 plain (some (.tup [.int k,.int w,.int hh,.int d,.int 0,.int sg,.int od,.tup [.int r0,.int r1],.tup [.int a0,.int a1]])) (some (.ref bg)) cnts twin (some (.int sg)) (some (.int ends))) (h:=h) [.b false,.b false,.i (.int x),.b true,.b false] rfl (nf h1) h2 (dt q) (nf h3)
   · exact runB (n:=n) (b:=seg 15 1) (l:=rdM bx no fo many true orders mode most own last x10 x11 x12 (some (.int size)) x14 (some (.int low)) less goal due pk x20 plain (some (.tup [.int k,.int w,.int hh,.int d,.int 0,.int sg,.int od,.tup [.int r0,.int r1],.tup [.int a0,.int a1]])) (some (.ref bg)) cnts twin (some (.int sg)) (some (.int ends))) (h:=h) [.b true,.b false,.i (.int x),.b true,.b false] rfl (nf h1) h2 (dt q) (nf h3)
 · rw [if_neg q] at h3
   cases u
   · exact runB (n:=n) (b:=seg 15 1) (l:=rdM bx no fo many false orders mode most own last x10 x11 x12 (some (.int size)) x14 (some (.int low)) less goal due pk x20 plain (some (.tup [.int k,.int w,.int hh,.int d,.int 0,.int sg,.int od,.tup [.int r0,.int r1],.tup [.int a0,.int a1]])) (some (.ref bg)) cnts twin (some (.int sg)) (some (.int ends))) (h:=h) [.b false,.b false,.i (.int x),.b false,.b false] rfl (nf h1) h2 (df q) (nf h3)
   · exact runB (n:=n) (b:=seg 15 1) (l:=rdM bx no fo many true orders mode most own last x10 x11 x12 (some (.int size)) x14 (some (.int low)) less goal due pk x20 plain (some (.tup [.int k,.int w,.int hh,.int d,.int 0,.int sg,.int od,.tup [.int r0,.int r1],.tup [.int a0,.int a1]])) (some (.ref bg)) cnts twin (some (.int sg)) (some (.int ends))) (h:=h) [.b true,.b false,.i (.int x),.b false,.b false] rfl (nf h1) h2 (df q) (nf h3)
theorem round_end (sg od k w hh d r0 r1 a0 a1 size:Int) (low bg cnts twin y26 y27:Option MV) :
 zaC tabs (zay tabs fnsT n) (seg 14 1) (rdM bx no fo many u orders mode most own last x10 x11 x12 (some (.int size)) x14 low less goal due pk x20 plain (some (.tup [.int k,.int w,.int hh,.int d,.int 0,.int sg,.int od,.tup [.int r0,.int r1],.tup [.int a0,.int a1]])) bg cnts twin y26 y27) h =
  .nxt (rdM bx no fo many u orders mode most own last x10 x11 x12 (some (.int size)) x14 low less goal due pk x20 plain (some (.tup [.int k,.int w,.int hh,.int d,.int 0,.int sg,.int od,.tup [.int r0,.int r1],.tup [.int a0,.int a1]])) bg cnts twin (some (.int sg)) (some (.int (endI a0 a1 size)))) h:=by
 unfold endI
 by_cases q:a0=3
 · rw [if_pos q]
   exact runB (n:=n) (b:=seg 14 1) (l:=rdM bx no fo many u orders mode most own last x10 x11 x12 (some (.int size)) x14 low less goal due pk x20 plain (some (.tup [.int k,.int w,.int hh,.int d,.int 0,.int sg,.int od,.tup [.int r0,.int r1],.tup [.int a0,.int a1]])) bg cnts twin y26 y27) (h:=h) [.b true] (dt q)
 · rw [if_neg q]
   exact runB (n:=n) (b:=seg 14 1) (l:=rdM bx no fo many u orders mode most own last x10 x11 x12 (some (.int size)) x14 low less goal due pk x20 plain (some (.tup [.int k,.int w,.int hh,.int d,.int 0,.int sg,.int od,.tup [.int r0,.int r1],.tup [.int a0,.int a1]])) bg cnts twin y26 y27) (h:=h) [.b false] (df q)
end
theorem or_item {b:Bool} {p:Part} (hg:∃ w s so sh ho,p= .glue w s so sh ho) (H:zax) :zaG H (zaz p) (2 * sgB b - 1)=some (.int (amB b p))∧zaG H (zaz p) (2 * sgB b)=some (.int (orB b p)):=by
 refine x5_1 hg ?_;(try clear hg);rintro w s so sh ho rfl
 cases b <;> exact ⟨rfl,rfl⟩
section
variable (n:Nat) {Q:Nat→Prop} {h:zax} {bx no fo m1 m2 ca tw:Nat} {many orders mode most own last:Int} {u:Bool} {vt:List MV} {ps:List Part} {x10 x11 x12 x13 x14 low less goal due pk x20 plain bg ends:Option MV} {k0 w0 e0 d0 sg od r0 r1 a0 a1:Int}
theorem cnt_loop0 (hf:h[fo]? =some (.list (ps.map zaz) m2)) (h0:sg=0) (cnts twin:Option MV) :
 ∃ y12 y20,zaC tabs (zay tabs fnsT n) (seg 16 1) (rdM bx no fo many u orders mode most own last x10 x11 x12 x13 x14 low less goal due pk x20 plain (some (tol k0 w0 e0 d0 sg od r0 r1 a0 a1)) bg cnts twin (some (.int sg)) ends) h =
  .nxt (rdM bx no fo many u orders mode most own last x10 x11 y12 x13 x14 low less goal due pk y20 plain (some (tol k0 w0 e0 d0 sg od r0 r1 a0 a1)) bg cnts twin (some (.int sg)) ends) h:=by
 have ng:¬ sg > 0:=by lia
 obtain ⟨l',h',e,rfl,y12,y20,rfl⟩:=zbY (α:=Part) (R:=fun v p=>v=zaz p) (a:=fo) (ver:=m2) (num:=true) (tgt:=fun v l=>match v with | .tup vs=>zcw [20,12] vs l | _=>none) (body:=zaC tabs (zay tabs fnsT n) b53l1) (vs:=ps.map zaz)
  (fun d l h'=>h'=h∧∃ y12 y20,l=rdM bx no fo many u orders mode most own last x10 x11 y12 x13 x14 low less goal due pk y20 plain (some (tol k0 w0 e0 d0 sg od r0 r1 a0 a1)) bg cnts twin (some (.int sg)) ends)
  (ps:=ps) (L2.ofMap (R:=fun v p=>v=zaz p) (f:=zaz) (fun _=>rfl) ps) (fun d l h' ⟨g,_⟩=>by subst g;simp only [itemsV?,hf]) (fun d p v l h' zz _ hv hp=>by
   obtain ⟨g,y12,y20,q⟩:=zz
   subst g q hv
   exact ⟨_,_,h',rfl,runB (n:=n) (b:=b53l1) (l:=rdM bx no fo many u orders mode most own last x10 x11 (some (zaz p)) x13 x14 low less goal due pk (some (.int (d.length:Int))) plain (some (tol k0 w0 e0 d0 sg od r0 r1 a0 a1)) bg cnts twin (some (.int sg)) ends) (h:=h') [.b false,.b false] (df ng) (df ng),rfl,_,_,rfl⟩)
  (m:=(ps.map zaz).length + 1) (d:=[]) (l:=rdM bx no fo many u orders mode most own last x10 x11 x12 x13 x14 low less goal due pk x20 plain (some (tol k0 w0 e0 d0 sg od r0 r1 a0 a1)) bg cnts twin (some (.int sg)) ends) (h:=h) ⟨rfl,_,_,rfl⟩ ⟨ps,rfl⟩ rfl
 exact ⟨y12,y20,runB (n:=n) (b:=seg 16 1) (l:=rdM bx no fo many u orders mode most own last x10 x11 x12 x13 x14 low less goal due pk x20 plain (some (tol k0 w0 e0 d0 sg od r0 r1 a0 a1)) bg cnts twin (some (.int sg)) ends) (h:=h') [.o (.list (ps.map zaz) m2),.s (.nxt (rdM bx no fo many u orders mode most own last x10 x11 y12 x13 x14 low less goal due pk y20 plain (some (tol k0 w0 e0 d0 sg od r0 r1 a0 a1)) bg cnts twin (some (.int sg)) ends) h')] hf e⟩
theorem cnt_loop1 {b:Bool} (hs:sg=sgB b) (hp:∀ p∈ ps,POK p) (hl:ps.length≤8) (hf:h[fo]? =some (.list (ps.map zaz) m2)) (hc:h[ca]? =some (.list [] 0)) (ht:h[tw]? =some (.list vt 0)) (r:zaK Q h vt (ps.map plainP)) (hQ:∀ j,Q j→j≠ca∧j≠tw) (n1:fo≠ca) (n2:fo≠tw) (n3:ca≠tw) :
 ∃ y12 y20 vt' h' m3 m4,zaC tabs (zay tabs fnsT (n + 4)) (seg 16 1) (rdM bx no fo many u orders mode most own last x10 x11 x12 x13 x14 low less goal due pk x20 plain (some (tol k0 w0 e0 d0 sg od r0 r1 a0 a1)) bg (some (.ref ca)) (some (.ref tw)) (some (.int sg)) ends) h =
  .nxt (rdM bx no fo many u orders mode most own last x10 x11 y12 x13 x14 low less goal due pk y20 plain (some (tol k0 w0 e0 d0 sg od r0 r1 a0 a1)) bg (some (.ref ca)) (some (.ref tw)) (some (.int sg)) ends) h'∧
  Gr [ca,tw] h h'∧h'[ca]? =some (.list (cntM b od ps) m3)∧h'[tw]? =some (.list vt' m4)∧zaK Q h' vt' (ps.map (zcT b od)):=by
 have pg:sg > 0:=by subst hs;cases b <;> decide
 have nQc:∀ j,Q j→j ∉ [ca]:=fun j q=>by simpa using (hQ j q).1
 have nQt:∀ j,Q j→j ∉ [tw]:=fun j q=>by simpa using (hQ j q).2
 have nQ:∀ j,Q j→j ∉ [ca,tw]:=fun j q=>by simpa using hQ j q
 obtain ⟨l',h',e,g,⟨m3,e3⟩,⟨vt',m4,e4,r4⟩,y12,y20,rfl⟩:=zbY (α:=Part) (R:=fun v p=>v=zaz p) (a:=fo) (ver:=m2) (num:=true) (tgt:=fun v l=>match v with | .tup vs=>zcw [20,12] vs l | _=>none) (body:=zaC tabs (zay tabs fnsT (n + 4)) b53l1) (vs:=ps.map zaz)
  (fun d l h'=>Gr [ca,tw] h h'∧(∃ m3,h'[ca]? =some (.list (cntM b od d) m3))∧(∃ vt' m4,h'[tw]? =some (.list vt' m4)∧zaK Q h' vt' (d.map (zcT b od) ++ (ps.drop d.length).map plainP))∧
   ∃ y12 y20,l=rdM bx no fo many u orders mode most own last x10 x11 y12 x13 x14 low less goal due pk y20 plain (some (tol k0 w0 e0 d0 sg od r0 r1 a0 a1)) bg (some (.ref ca)) (some (.ref tw)) (some (.int sg)) ends)
  (ps:=ps) (L2.ofMap (R:=fun v p=>v=zaz p) (f:=zaz) (fun _=>rfl) ps) (fun d l h' ⟨g,_⟩=>by simp only [itemsV?,g.lst hf (by simp [n1,n2])]) (fun d p v l h' zz _ hv hpp=>by
   obtain ⟨g,⟨m3,e3⟩,⟨vt',m4,e4,r4⟩,y12,y20,q⟩:=zz
   subst q hv
   have hd:=(List.getElem?_eq_some_iff.mp hpp).1
   have dr:ps.drop d.length=p :: ps.drop (d.length + 1):=by
    refine x1_1 (List.getElem?_eq_some_iff.mp hpp) fun h1 h2=>?_
    rw [← h2];exact (List.getElem_cons_drop h1).symm
   have dl:(d ++ [p]).length=d.length + 1:=by simp only [List.length_append,List.length_singleton]
   have skip:¬ cnt b od p→(∃ m3,h'[ca]? =some (.list (cntM b od (d ++ [p])) m3))∧(∃ vt' m4,h'[tw]? =some (.list vt' m4)∧zaK Q h' vt' ((d ++ [p]).map (zcT b od) ++ (ps.drop (d ++ [p]).length).map plainP)):=fun c=>by
    refine ⟨⟨m3,?_⟩,vt',m4,e4,?_⟩
    · rw [e3];unfold cntM;rw [cntI_snoc,if_neg c,List.append_nil]
    · rw [dl,List.map_append,List.append_assoc]
      have:zcT b od p=plainP p:=if_neg c
      rw [dr] at r4
      simp only [List.map_cons,List.map_nil,this]
      exact r4
   by_cases gl:∃ w s so sh ho,p= .glue w s so sh ho
   · refine x0_2 (or_item (b:=b) gl h') fun i1 i2=>?_
     have i1':∀ H,zaG H (zaz p) (2 * sg - 1)=some (.int (amB b p)):=fun H=>by rw [hs];exact (or_item (b:=b) gl H).1
     simp only [← hs] at i1 i2
     refine x5_1 gl ?_;(try clear gl);rintro w s so sh ho rfl
     by_cases ha:amB b (.glue w s so sh ho)=0
     · refine x0_2 (skip (fun c=>c.1 ha)) fun k1 k2=>?_
       exact ⟨_,_,h',rfl,runB (n:=n + 4) (b:=b53l1) (l:=rdM bx no fo many u orders mode most own last x10 x11 (some (zaz (.glue w s so sh ho))) x13 x14 low less goal due pk (some (.int (d.length:Int))) plain (some (tol k0 w0 e0 d0 sg od r0 r1 a0 a1)) bg (some (.ref ca)) (some (.ref tw)) (some (.int sg)) ends) (h:=h')
        [.b true,.i (.int (amB b (.glue w s so sh ho))),.b false,.b false] (dt pg) (.inl (by decide)) i1 (nf ha) (nf ha),g,k1,k2,_,_,rfl⟩
     · by_cases hor:orB b (.glue w s so sh ho)=od
       · have hpm:=hp _ (mem_at hpp)
         refine x2_3 (c49 (P:=Q) n (h'.set ca (MObj.list (cntM b od d ++ [.int (d.length:Int)]) (m3 + 1))) (sense:=sg) (w:=w) (s:=s) (so:=so) (sh:=sh) (ho:=ho) (am:=amB b (.glue w s so sh ho)) hpm.1.dim
          (by cases b <;> first | exact hpm.2.1.dim | exact hpm.2.2.1.dim) hpm.2.2.2.1 hpm.2.2.2.2.1 hpm.2.2.2.2.2.1 hpm.2.2.2.2.2.2) fun v' h2 e2 g2 r2=>?_
         have sk:skipP sg w (amB b (.glue w s so sh ho)) (if sg=1 then so else ho)=zcT b od (.glue w s so sh ho):=by
          have:zcT b od (.glue w s so sh ho)=skB b (.glue w s so sh ho) (amB b (.glue w s so sh ho)):=if_pos ⟨ha,hor⟩
          rw [this,hs];cases b <;> rfl
         simp only [sk] at r2
         have lc:(cntM b od d).length < 4096:=by
          have:=cntI_len b od 0 d
          rw [List.length_map];lia
         have s1:Gr [ca] h' (h'.set ca (MObj.list (cntM b od d ++ [.int (d.length:Int)]) (m3 + 1))):=Gr.set _ e3 (.head _) _
         have e5:=g2.lst (zaO e3 (MObj.list (cntM b od d ++ [.int (d.length:Int)]) (m3 + 1))) (fun m=>nomatch m)
         have e6:=g2.lst (zcz (x:=MObj.list (cntM b od d ++ [.int (d.length:Int)]) (m3 + 1)) e4 n3) (fun m=>nomatch m)
         have s2:Gr [tw] h2 (h2.set tw (MObj.list (vt'.set d.length v') (m4 + 1))):=Gr.set _ e6 (.head _) _
         have lt:d.length < vt'.length:=by
          have:=r4.len
          simp only [List.length_append,List.length_map,List.length_map,List.length_drop] at this
          lia
         refine ⟨_,_,_,rfl,runB (n:=n + 4) (b:=b53l1) (l:=rdM bx no fo many u orders mode most own last x10 x11 (some (zaz (.glue w s so sh ho))) x13 x14 low less goal due pk (some (.int (d.length:Int))) plain (some (tol k0 w0 e0 d0 sg od r0 r1 a0 a1)) bg (some (.ref ca)) (some (.ref tw)) (some (.int sg)) ends) (h:=h')
          [.b true,.i (.int (amB b (.glue w s so sh ho))),.b true,.i (.int (orB b (.glue w s so sh ho))),.b true,.o (.list (cntM b od d) m3),.o (.list (cntM b od d) m3),.i (.int (amB b (.glue w s so sh ho))),.r (.ok v' h2),.o (.list vt' m4)]
          (dt pg) (.inl (by decide)) i1 (nt ha) (.inl (by decide)) i2 (dt hor) e3 e3 lc (.inl (by decide)) (i1' _) e2 e6 ⟨Int.natCast_nonneg _,by exact lt⟩,?_,⟨m3 + 1,?_⟩,⟨vt'.set d.length v',m4 + 1,?_,?_⟩,_,_,rfl⟩
         · exact ((g.trans (s1.mono (by simp))).trans g2.nil).trans (s2.mono (by simp))
         · have:cntM b od (d ++ [.glue w s so sh ho])=cntM b od d ++ [.int (d.length:Int)]:=by
            unfold cntM;rw [cntI_snoc,if_pos ⟨ha,hor⟩,List.map_append,Nat.zero_add];rfl
           simp only [this,Int.toNat_natCast]
           exact zcz e5 n3.symm
         · exact zaO e6 _
         · simp only [Int.toNat_natCast,dl,List.map_append,List.append_assoc]
           rw [dr] at r4
           have r5:=(((r4.imp fun _ _ x=>(x.gr s1 nQc).gr g2 (fun _ _ m=>nomatch m)).set r2 d.length).imp fun _ _ x=>x.gr s2 nQt)
           have:(d.map (zcT b od) ++ (Part.glue w s so sh ho :: ps.drop (d.length + 1)).map plainP).set d.length (zcT b od (.glue w s so sh ho))=d.map (zcT b od) ++ ([Part.glue w s so sh ho].map (zcT b od) ++ (ps.drop (d.length + 1)).map plainP):=by
            rw [List.set_append_right _ _ (by rw [List.length_map];exact Nat.le_refl _),List.length_map,Nat.sub_self]
            rfl
           simp only [this] at r5
           exact r5
       · refine x0_2 (skip (fun c=>hor c.2)) fun k1 k2=>?_
         exact ⟨_,_,h',rfl,runB (n:=n + 4) (b:=b53l1) (l:=rdM bx no fo many u orders mode most own last x10 x11 (some (zaz (.glue w s so sh ho))) x13 x14 low less goal due pk (some (.int (d.length:Int))) plain (some (tol k0 w0 e0 d0 sg od r0 r1 a0 a1)) bg (some (.ref ca)) (some (.ref tw)) (some (.int sg)) ends) (h:=h')
          [.b true,.i (.int (amB b (.glue w s so sh ho))),.b true,.i (.int (orB b (.glue w s so sh ho))),.b false] (dt pg) (.inl (by decide)) i1 (nt ha) (.inl (by decide)) i2 (df hor),g,k1,k2,_,_,rfl⟩
   · have z:zaz p= .tup []:=by cases p <;> first | rfl | exact absurd ⟨_,_,_,_,_,rfl⟩ gl
     refine x0_2 (skip (fun c=>gl (zdF c.1))) fun k1 k2=>?_
     rw [z]
     exact ⟨_,_,h',rfl,runB (n:=n + 4) (b:=b53l1) (l:=rdM bx no fo many u orders mode most own last x10 x11 (some (.tup [])) x13 x14 low less goal due pk (some (.int (d.length:Int))) plain (some (tol k0 w0 e0 d0 sg od r0 r1 a0 a1)) bg (some (.ref ca)) (some (.ref tw)) (some (.int sg)) ends) (h:=h')
      [.b true] (dt pg),g,k1,k2,_,_,rfl⟩)
  (m:=(ps.map zaz).length + 1) (d:=[]) (l:=rdM bx no fo many u orders mode most own last x10 x11 x12 x13 x14 low less goal due pk x20 plain (some (tol k0 w0 e0 d0 sg od r0 r1 a0 a1)) bg (some (.ref ca)) (some (.ref tw)) (some (.int sg)) ends) (h:=h) ⟨Gr.refl _ _,⟨0,hc⟩,⟨vt,0,ht,r⟩,_,_,rfl⟩ ⟨ps,rfl⟩ rfl
 refine ⟨y12,y20,vt',h',m3,m4,?_,g,e3,e4,?_⟩
 · exact runB (n:=n + 4) (b:=seg 16 1) (l:=rdM bx no fo many u orders mode most own last x10 x11 x12 x13 x14 low less goal due pk x20 plain (some (tol k0 w0 e0 d0 sg od r0 r1 a0 a1)) bg (some (.ref ca)) (some (.ref tw)) (some (.int sg)) ends) (h:=h) [.o (.list (ps.map zaz) m2),.s (.nxt (rdM bx no fo many u orders mode most own last x10 x11 y12 x13 x14 low less goal due pk y20 plain (some (tol k0 w0 e0 d0 sg od r0 r1 a0 a1)) bg (some (.ref ca)) (some (.ref tw)) (some (.int sg)) ends) h')] hf e
 · simp only [List.drop_length,List.map_nil,List.append_nil] at r4
   exact r4
end
theorem due_plain (ps:List Part) :Plain 8 (dueM ps):= .tup fun v m=>by
 refine x1_2 (List.mem_map.mp m) ?_;rintro p _ rfl
 exact dsc_plain p
section
variable (n:Nat) {Q:Nat→Prop} {h:zax} {bx no fo m1 m2 mb m3 m4 ca tw b it pl bg:Nat} {many orders mode most last am:Int} {u:Bool} {vs vp vt cs:List MV} {ps qs:List Part} {x10 x11 x12 x14 low less x20 ends:Option MV} {a0 a1:Int}
theorem round_tail (K:Pk ps u mode am most) (R:Rng h bx) (hQ:∀ j,Q j→j≠bx) (er:rp0 vs (gP u ps mode am most)= .tup [.int a0,.int a1]) (ha:h[no]? =some (.list vs m1)) (hf:h[fo]? =some (.list (ps.map zaz) m2)) (r:zaK Q h vs ps)
 (hb:h[b]? =some (setO (.int (kd u)) (.int (wU u ps (szU u ps mode am most))) (.int (hU u ps (szU u ps mode am most))) (.int (dU u ps most)) it (.int 0) (gP u ps mode am most))) (hi:h[it]? =some (.list vs 0)) (hbg:h[bg]? =some (.list (bgs u ps mode am most) mb)) (hpl:h[pl]? =some (.list vp 0)) (rpl:zaK Q h vp (ps.map plainP)) (hca:h[ca]? =some (.list cs m3)) (htw:h[tw]? =some (.list vt m4)) (rt:zaK Q h vt qs)
 (O:Oth ps u mode am most qs) (hg:gG qs (exU u ps mode am most)=gP u ps mode am most) (hfx:qs.map (flx (gP u ps mode am most).sg (gP u ps mode am most).od)=ps.map (flx (gP u ps mode am most).sg (gP u ps mode am most).od))
 (hc0:cs= [] ↔ (gP u ps mode am most).sg=0) (hc1:(gP u ps mode am most).sg≠0→cs=cntM (bU u ps mode am most) (gP u ps mode am most).od ps∧a0=(gP u ps mode am most).q0∧a1=(gP u ps mode am most).q1)
 (hsg:0≤(gP u ps mode am most).sg) (d1:no≠bx) (d2:fo≠bx) (d3:pl≠bx) (d4:bg≠bx) (d5:ca≠bx) (d6:it≠bx) :
 ∃ h',zaC tabs (zay tabs fnsT (n + 9)) (b53.drop 17) (rdM bx no fo many u orders mode most (natU u ps most) last x10 x11 x12 (some (.int (szU u ps mode am most))) x14 low less (some (zaF mode am most)) (some (dueM ps)) (some (.tup [.ref b,.tup [.int a0,.int a1]])) x20 (some (.ref pl)) (some (zaT u ps mode am most (.tup [.int a0,.int a1]))) (some (.ref bg)) (some (.ref ca)) (some (.ref tw)) (some (.int (gP u ps mode am most).sg)) ends) h= .ret (.bool true) h'∧Gr [bx] h h':=by
 have hl:=r.len
 have hlt:=rt.len
 have hls:=same_len O.s
 have nQ:∀ j,Q j→j ∉ [bx]:=fun j q=>by simpa using hQ j q
 have no':∀ j:Nat,j ∉ ([] :List Nat):=fun j m=>nomatch m
 refine x1_2 (O.same (n + 1) K htw rt (ws:=vs) (by
  constructor
  · intro z;rw [z] at hlt;exact List.eq_nil_of_length_eq_zero (by simp only [List.length_nil] at hlt;lia)
  · intro z;rw [z] at hl;exact List.eq_nil_of_length_eq_zero (by simp only [List.length_nil] at hl;lia)) hg hfx hbg) fun h1 e1 g1=>?_
 rw [er] at e1
 have A:zaC tabs (zay tabs fnsT (n + 9)) (seg 17 1) (rdM bx no fo many u orders mode most (natU u ps most) last x10 x11 x12 (some (.int (szU u ps mode am most))) x14 low less (some (zaF mode am most)) (some (dueM ps)) (some (.tup [.ref b,.tup [.int a0,.int a1]])) x20 (some (.ref pl)) (some (zaT u ps mode am most (.tup [.int a0,.int a1]))) (some (.ref bg)) (some (.ref ca)) (some (.ref tw)) (some (.int (gP u ps mode am most).sg)) ends) h= .nxt (rdM bx no fo many u orders mode most (natU u ps most) last x10 x11 x12 (some (.int (szU u ps mode am most))) x14 low less (some (zaF mode am most)) (some (dueM ps)) (some (.tup [.ref b,.tup [.int a0,.int a1]])) x20 (some (.ref pl)) (some (zaT u ps mode am most (.tup [.int a0,.int a1]))) (some (.ref bg)) (some (.ref ca)) (some (.ref tw)) (some (.int (gP u ps mode am most).sg)) ends) (h1 ++ [MObj.list [] 0]):=by
  have q1:eqH (h1 ++ [MObj.list [] 0]) (.ref ca) (.ref h1.length)=some (decide (cs= [])):=eq_nil (zaJ (g1.lst hca (no' _))) (zaD h1 _)
  have q2:eqH (h1 ++ [MObj.list [] 0]) (.bool (decide (cs= []))) (.bool (decide ((gP u ps mode am most).sg=0)))=some true:=by
   have:decide (cs= [])=decide ((gP u ps mode am most).sg=0):=decide_eq_decide.mpr hc0
   rw [this]
   simp [eqH,eqV,eqV1]
  exact runB (n:=n + 9) (b:=seg 17 1) (l:=(rdM bx no fo many u orders mode most (natU u ps most) last x10 x11 x12 (some (.int (szU u ps mode am most))) x14 low less (some (zaF mode am most)) (some (dueM ps)) (some (.tup [.ref b,.tup [.int a0,.int a1]])) x20 (some (.ref pl)) (some (zaT u ps mode am most (.tup [.int a0,.int a1]))) (some (.ref bg)) (some (.ref ca)) (some (.ref tw)) (some (.int (gP u ps mode am most).sg)) ends)) (h:=h) [.r (.ok (.bool true) h1),.b true,.b false,.b (decide (cs= [])),.b true] e1 rfl rfl q1 q2
 have g2:Gr [] h (h1 ++ [MObj.list [] 0]):=g1.push _
 generalize h1 ++ [MObj.list [] 0]=h2 at A g2
 refine x1_2 (c51 n K (g2.lst ha (no' _)) (r.imp fun _ _ x=>x.gr g2 (fun _ _=>no' _)) (g2.lst hf (no' _)) (g2.lst hbg (no' _))) fun h3 e3 g3=>?_
 rw [er] at e3
 have B:zaC tabs (zay tabs fnsT (n + 9)) (seg 18 1) (rdM bx no fo many u orders mode most (natU u ps most) last x10 x11 x12 (some (.int (szU u ps mode am most))) x14 low less (some (zaF mode am most)) (some (dueM ps)) (some (.tup [.ref b,.tup [.int a0,.int a1]])) x20 (some (.ref pl)) (some (zaT u ps mode am most (.tup [.int a0,.int a1]))) (some (.ref bg)) (some (.ref ca)) (some (.ref tw)) (some (.int (gP u ps mode am most).sg)) ends) h2= .nxt (rdM bx no fo many u orders mode most (natU u ps most) last x10 x11 x12 (some (.int (szU u ps mode am most))) x14 low less (some (zaF mode am most)) (some (dueM ps)) (some (.tup [.ref b,.tup [.int a0,.int a1]])) x20 (some (.ref pl)) (some (zaT u ps mode am most (.tup [.int a0,.int a1]))) (some (.ref bg)) (some (.ref ca)) (some (.ref tw)) (some (.int (gP u ps mode am most).sg)) ends) h3:=
  runB (n:=n + 9) (b:=seg 18 1) (l:=(rdM bx no fo many u orders mode most (natU u ps most) last x10 x11 x12 (some (.int (szU u ps mode am most))) x14 low less (some (zaF mode am most)) (some (dueM ps)) (some (.tup [.ref b,.tup [.int a0,.int a1]])) x20 (some (.ref pl)) (some (zaT u ps mode am most (.tup [.int a0,.int a1]))) (some (.ref bg)) (some (.ref ca)) (some (.ref tw)) (some (.int (gP u ps mode am most).sg)) ends)) (h:=h2) [.r (.ok (.bool true) h3)] e3
 have g23:=g2.trans g3
 obtain ⟨h4,C,g4⟩ :∃ h4,zaC tabs (zay tabs fnsT (n + 9)) (seg 19 1) (rdM bx no fo many u orders mode most (natU u ps most) last x10 x11 x12 (some (.int (szU u ps mode am most))) x14 low less (some (zaF mode am most)) (some (dueM ps)) (some (.tup [.ref b,.tup [.int a0,.int a1]])) x20 (some (.ref pl)) (some (zaT u ps mode am most (.tup [.int a0,.int a1]))) (some (.ref bg)) (some (.ref ca)) (some (.ref tw)) (some (.int (gP u ps mode am most).sg)) ends) h3= .nxt (rdM bx no fo many u orders mode most (natU u ps most) last x10 x11 x12 (some (.int (szU u ps mode am most))) x14 low less (some (zaF mode am most)) (some (dueM ps)) (some (.tup [.ref b,.tup [.int a0,.int a1]])) x20 (some (.ref pl)) (some (zaT u ps mode am most (.tup [.int a0,.int a1]))) (some (.ref bg)) (some (.ref ca)) (some (.ref tw)) (some (.int (gP u ps mode am most).sg)) ends) h4∧RG bx h3 h4:=by
  have R3:RG bx h h3:=R.refl.grow g23
  by_cases q:(gP u ps mode am most).sg=0
  · have ng:¬ (gP u ps mode am most).sg > 0:=by lia
    exact ⟨h3,runB (n:=n + 9) (b:=seg 19 1) (l:=(rdM bx no fo many u orders mode most (natU u ps most) last x10 x11 x12 (some (.int (szU u ps mode am most))) x14 low less (some (zaF mode am most)) (some (dueM ps)) (some (.tup [.ref b,.tup [.int a0,.int a1]])) x20 (some (.ref pl)) (some (zaT u ps mode am most (.tup [.int a0,.int a1]))) (some (.ref bg)) (some (.ref ca)) (some (.ref tw)) (some (.int (gP u ps mode am most).sg)) ends)) (h:=h3) [.b false,.b false] (df ng) (df ng),R3.rng.refl⟩
  · have pg:(gP u ps mode am most).sg > 0:=by lia
    refine x0_3 (hc1 q) fun c1 c2 c3=>?_
    rw [c1] at hca
    refine x1_2 (c52 n R3.rng K q (g23.lst ha (no' _)) (r.imp fun _ _ x=>x.gr g23 (fun _ _=>no' _)) hQ (g23.lst hpl (no' _)) (rpl.imp fun _ _ x=>x.gr g23 (fun _ _=>no' _)) (g23.lst hf (no' _)) (g23.lst hbg (no' _)) (g23.lst hca (no' _)) d1 d3 d2 d4 d5) fun h4 e4 g4=>?_
    rw [← c2,← c3] at e4
    exact ⟨h4,runB (n:=n + 9) (b:=seg 19 1) (l:=(rdM bx no fo many u orders mode most (natU u ps most) last x10 x11 x12 (some (.int (szU u ps mode am most))) x14 low less (some (zaF mode am most)) (some (dueM ps)) (some (.tup [.ref b,.tup [.int a0,.int a1]])) x20 (some (.ref pl)) (some (zaT u ps mode am most (.tup [.int a0,.int a1]))) (some (.ref bg)) (some (.ref ca)) (some (.ref tw)) (some (.int (gP u ps mode am most).sg)) ends)) (h:=h3) [.b true,.r (.ok (.bool true) h4)] (dt pg) e4,g4⟩
 have g5:Gr [bx] h h4:=g23.nil.trans g4.gr
 refine x1_2 (c21 (n + 5) (g5.lst hi (by simpa using d6)) (r.imp fun _ _ x=>x.gr g5 nQ) (by have:=K.hl;lia)) fun h5 e5 g6=>?_
 have D:zaC tabs (zay tabs fnsT (n + 9)) (seg 20 1) (rdM bx no fo many u orders mode most (natU u ps most) last x10 x11 x12 (some (.int (szU u ps mode am most))) x14 low less (some (zaF mode am most)) (some (dueM ps)) (some (.tup [.ref b,.tup [.int a0,.int a1]])) x20 (some (.ref pl)) (some (zaT u ps mode am most (.tup [.int a0,.int a1]))) (some (.ref bg)) (some (.ref ca)) (some (.ref tw)) (some (.int (gP u ps mode am most).sg)) ends) h4= .ret (.bool true) h5:=
  runB (n:=n + 9) (b:=seg 20 1) (l:=(rdM bx no fo many u orders mode most (natU u ps most) last x10 x11 x12 (some (.int (szU u ps mode am most))) x14 low less (some (zaF mode am most)) (some (dueM ps)) (some (.tup [.ref b,.tup [.int a0,.int a1]])) x20 (some (.ref pl)) (some (zaT u ps mode am most (.tup [.int a0,.int a1]))) (some (.ref bg)) (some (.ref ca)) (some (.ref tw)) (some (.int (gP u ps mode am most).sg)) ends)) (h:=h4) [.o (setO (.int (kd u)) (.int (wU u ps (szU u ps mode am most))) (.int (hU u ps (szU u ps mode am most))) (.int (dU u ps most)) it (.int 0) (gP u ps mode am most)),.r (.ok (dueM ps) h5),.b true] (g5.inst hb) e5 (eqH_tup (due_plain ps))
 exact ⟨h5,(zaX 17 1 A).trans ((zaX 18 1 B).trans ((zaX 19 1 C).trans (seg_ret 20 1 D))),g5.trans g6.nil⟩
end
set_option tactic.hygienic true in
theorem twin_oth {ps:List Part} {u:Bool} {mode am most:Int} (K:Pk ps u mode am most) (b:Bool) (o:Int) :Oth ps u mode am most (ps.map (zcT b o)):=by
 refine ⟨zeC (twin_shp _ _) ps,fun q m=>?_⟩
 refine x1_2 (List.mem_map.mp m) ?_;rintro p hp rfl
 have a:=(K.ok p hp).aok
 unfold zcT
 split
 · rename_i c
   exact skB_aok (zdF c.1) (by have:=a.b b;lia)
 · exact zdS (by decide) (a.mono (by decide))
theorem plain_oth {ps:List Part} {u:Bool} {mode am most:Int} (K:Pk ps u mode am most) :Oth ps u mode am most (ps.map plainP):=by
 refine ⟨zeC zdR ps,fun q m=>?_⟩
 refine x1_2 (List.mem_map.mp m) ?_;rintro p hp rfl
 exact zdS (by decide) ((K.ok p hp).aok.mono (by decide))
section
variable (n:Nat) {Q:Nat→Prop} {h:zax} {bx no fo m1 m2 b it pl:Nat} {many orders mode most last am:Int} {u:Bool} {vs vp:List MV} {ps:List Part} {x10 x11 x12 x14 less x20:Option MV}
theorem round_mid (K:Pk ps u mode am most) (R:Rng h bx) (hQ:∀ j,Q j→j < h.length∧j≠bx) (ha:h[no]? =some (.list vs m1)) (hf:h[fo]? =some (.list (ps.map zaz) m2)) (r:zaK Q h vs ps)
 (hb:h[b]? =some (setO (.int (kd u)) (.int (wU u ps (szU u ps mode am most))) (.int (hU u ps (szU u ps mode am most))) (.int (dU u ps most)) it (.int 0) (gP u ps mode am most))) (hi:h[it]? =some (.list vs 0)) (hpl:h[pl]? =some (.list vp 0)) (rpl:zaK Q h vp (ps.map plainP)) (d1:no≠bx) (d2:fo≠bx) (d3:pl≠bx) (d6:it≠bx) :
 ∃ h',zaC tabs (zay tabs fnsT (n + 9)) (b53.drop 13) (rdM bx no fo many u orders mode most (natU u ps most) last x10 x11 x12 (some (.int (szU u ps mode am most))) x14 (some (.int (lowU u ps most))) less (some (zaF mode am most)) (some (dueM ps)) (some (.tup [.ref b,rp0 vs (gP u ps mode am most)])) x20 (some (.ref pl)) none none none none none none) h= .ret (.bool true) h'∧Gr [bx] h h':=by
 refine x2_2 (rp0_tup vs (gP u ps mode am most)) fun a0 a1 er ea=>?_
 rw [er]
 have no':∀ j:Nat,j ∉ ([] :List Nat):=fun j m=>nomatch m
 have lh:∀ {i:Nat} {o:MObj},h[i]? =some o→i < h.length:=fun e=>zeH e
 have lbx:bx < h.length:=by (refine x3_2 R ?_;intro _ _ _ e _);exact zeH e
 have lp:=rpl.len
 simp only [List.length_map] at lp
 have lp':vp.length≤4096:=by have:=K.hl;lia
 have t0:=c48 (n + 8) (rp:= .tup [.int a0,.int a1]) hb
 refine x2_3 (K.refl.places (n + 5) K hb hi r) fun h1 mb e1 g1 hbg=>?_
 have gl:=g1.len
 have A:zaC tabs (zay tabs fnsT (n + 9)) (seg 13 1) (rdM bx no fo many u orders mode most (natU u ps most) last x10 x11 x12 (some (.int (szU u ps mode am most))) x14 (some (.int (lowU u ps most))) less (some (zaF mode am most)) (some (dueM ps)) (some (.tup [.ref b,.tup [.int a0,.int a1]])) x20 (some (.ref pl)) none none none none none none) h= .nxt (rdM bx no fo many u orders mode most (natU u ps most) last x10 x11 x12 (some (.int (szU u ps mode am most))) x14 (some (.int (lowU u ps most))) less (some (zaF mode am most)) (some (dueM ps)) (some (.tup [.ref b,.tup [.int a0,.int a1]])) x20 (some (.ref pl)) (some (zaT u ps mode am most (.tup [.int a0,.int a1]))) (some (.ref h.length)) (some (.ref h1.length)) (some (.ref (h1 ++ [MObj.list [] 0]).length)) none none) ((h1 ++ [MObj.list [] 0]) ++ [MObj.list vp 0]):=
  runB (n:=n + 9) (b:=seg 13 1) (l:=(rdM bx no fo many u orders mode most (natU u ps most) last x10 x11 x12 (some (.int (szU u ps mode am most))) x14 (some (.int (lowU u ps most))) less (some (zaF mode am most)) (some (dueM ps)) (some (.tup [.ref b,.tup [.int a0,.int a1]])) x20 (some (.ref pl)) none none none none none none)) (h:=h) [.r (.ok (zaT u ps mode am most (.tup [.int a0,.int a1])) h),.r (.ok (.ref h.length) h1),.o (.list vp 0)] t0 e1 (zaJ (g1.lst hpl (no' _))) lp'
 have B:zaC tabs (zay tabs fnsT (n + 9)) (seg 14 1) (rdM bx no fo many u orders mode most (natU u ps most) last x10 x11 x12 (some (.int (szU u ps mode am most))) x14 (some (.int (lowU u ps most))) less (some (zaF mode am most)) (some (dueM ps)) (some (.tup [.ref b,.tup [.int a0,.int a1]])) x20 (some (.ref pl)) (some (zaT u ps mode am most (.tup [.int a0,.int a1]))) (some (.ref h.length)) (some (.ref h1.length)) (some (.ref (h1 ++ [MObj.list [] 0]).length)) none none) ((h1 ++ [MObj.list [] 0]) ++ [MObj.list vp 0])= .nxt (rdM bx no fo many u orders mode most (natU u ps most) last x10 x11 x12 (some (.int (szU u ps mode am most))) x14 (some (.int (lowU u ps most))) less (some (zaF mode am most)) (some (dueM ps)) (some (.tup [.ref b,.tup [.int a0,.int a1]])) x20 (some (.ref pl)) (some (zaT u ps mode am most (.tup [.int a0,.int a1]))) (some (.ref h.length)) (some (.ref h1.length)) (some (.ref (h1 ++ [MObj.list [] 0]).length)) (some (.int (gP u ps mode am most).sg)) (some (.int (endI a0 a1 (szU u ps mode am most))))) ((h1 ++ [MObj.list [] 0]) ++ [MObj.list vp 0]):=round_end (n:=n + 9) (gP u ps mode am most).sg (gP u ps mode am most).od (kd u) (wU u ps (szU u ps mode am most)) (hU u ps (szU u ps mode am most)) (dU u ps most) (gP u ps mode am most).r0 (gP u ps mode am most).r1 a0 a1 (szU u ps mode am most) (some (.int (lowU u ps most))) (some (.ref h.length)) (some (.ref h1.length)) (some (.ref (h1 ++ [MObj.list [] 0]).length)) none none
 have hbg3:((h1 ++ [MObj.list [] 0]) ++ [MObj.list vp 0])[h.length]? =some (.list (bgs u ps mode am most) mb):=zaJ (zaJ hbg)
 refine x2_2 (bgs_last u ps mode am most) fun l x eb ex=>?_
 have ix:zaG ((h1 ++ [MObj.list [] 0]) ++ [MObj.list vp 0]) (.ref h.length) (-1)=some (.int x):=by rw [eb] at hbg3;exact last_at hbg3
 have chk:x - lowU u ps most=if (gP u ps mode am most).sg=0 then natU u ps most else endI a0 a1 (szU u ps mode am most):=by
  rw [ex]
  by_cases q:(gP u ps mode am most).sg=0
  · rw [if_pos q,if_pos q,Int.add_zero]
  · rw [if_neg q,if_neg q]
    refine x1_2 (zdA (ps:=ps) (e:=exU u ps mode am most) q) fun p0 pm0 _=>?_
    have nv:vs≠[]:=fun z=>by have:=r.len;have:=List.length_pos_of_mem pm0;rw [z,List.length_nil] at *;lia
    refine x0_2 (ea nv) fun c1 c2=>?_
    unfold endI exU
    simp only [c1,c2]
    split <;> lia
 have C:zaC tabs (zay tabs fnsT (n + 9)) (seg 15 1) (rdM bx no fo many u orders mode most (natU u ps most) last x10 x11 x12 (some (.int (szU u ps mode am most))) x14 (some (.int (lowU u ps most))) less (some (zaF mode am most)) (some (dueM ps)) (some (.tup [.ref b,.tup [.int a0,.int a1]])) x20 (some (.ref pl)) (some (zaT u ps mode am most (.tup [.int a0,.int a1]))) (some (.ref h.length)) (some (.ref h1.length)) (some (.ref (h1 ++ [MObj.list [] 0]).length)) (some (.int (gP u ps mode am most).sg)) (some (.int (endI a0 a1 (szU u ps mode am most))))) ((h1 ++ [MObj.list [] 0]) ++ [MObj.list vp 0])= .nxt (rdM bx no fo many u orders mode most (natU u ps most) last x10 x11 x12 (some (.int (szU u ps mode am most))) x14 (some (.int (lowU u ps most))) less (some (zaF mode am most)) (some (dueM ps)) (some (.tup [.ref b,.tup [.int a0,.int a1]])) x20 (some (.ref pl)) (some (zaT u ps mode am most (.tup [.int a0,.int a1]))) (some (.ref h.length)) (some (.ref h1.length)) (some (.ref (h1 ++ [MObj.list [] 0]).length)) (some (.int (gP u ps mode am most).sg)) (some (.int (endI a0 a1 (szU u ps mode am most))))) ((h1 ++ [MObj.list [] 0]) ++ [MObj.list vp 0]):=round_chk (n:=n + 9) u (k:=kd u) (w:=wU u ps (szU u ps mode am most)) (hh:=hU u ps (szU u ps mode am most)) (d:=dU u ps most) (sg:=(gP u ps mode am most).sg) (od:=(gP u ps mode am most).od) (r0:=(gP u ps mode am most).r0) (r1:=(gP u ps mode am most).r1) (a0:=a0) (a1:=a1) h.length (by cases u <;> rfl) ix chk (some (.ref h1.length)) (some (.ref (h1 ++ [MObj.list [] 0]).length))
 have g3:Gr [] h ((h1 ++ [MObj.list [] 0]) ++ [MObj.list vp 0]):=(g1.push _).push _
 have hc3:((h1 ++ [MObj.list [] 0]) ++ [MObj.list vp 0])[h1.length]? =some (.list [] 0):=zaJ (zaD _ _)
 have ht3:((h1 ++ [MObj.list [] 0]) ++ [MObj.list vp 0])[(h1 ++ [MObj.list [] 0]).length]? =some (.list vp 0):=zaD _ _
 have lt3:(h1 ++ [MObj.list [] 0]).length=h1.length + 1:=by simp
 simp only [(zaX 13 1 A).trans ((zaX 14 1 B).trans (zaX 15 1 C))]
 have r3:zaK Q ((h1 ++ [MObj.list [] 0]) ++ [MObj.list vp 0]) vs ps:=r.imp fun _ _ x=>x.gr g3 (fun _ _=>no' _)
 have rp3:zaK Q ((h1 ++ [MObj.list [] 0]) ++ [MObj.list vp 0]) vp (ps.map plainP):=rpl.imp fun _ _ x=>x.gr g3 (fun _ _=>no' _)
 have lfo:=lh hf
 have lno:=lh ha
 have lpl:=lh hpl
 have lit:=lh hi
 by_cases q:(gP u ps mode am most).sg=0
 · refine x2_1 (cnt_loop0 (n + 9) (bx:=bx) (no:=no) (many:=many) (u:=u) (orders:=orders) (mode:=mode) (most:=most) (own:=natU u ps most) (last:=last) (x10:=x10) (x11:=x11) (x12:=x12) (x13:=some (.int (szU u ps mode am most))) (x14:=x14) (low:=(some (.int (lowU u ps most)))) (less:=less) (goal:=some (zaF mode am most)) (due:=some (dueM ps)) (pk:=some (.tup [.ref b,.tup [.int a0,.int a1]])) (x20:=x20) (plain:=some (.ref pl)) (bg:=(some (.ref h.length))) (ends:=(some (.int (endI a0 a1 (szU u ps mode am most))))) (k0:=kd u) (w0:=wU u ps (szU u ps mode am most)) (e0:=hU u ps (szU u ps mode am most)) (d0:=dU u ps most) (sg:=(gP u ps mode am most).sg) (od:=(gP u ps mode am most).od) (r0:=(gP u ps mode am most).r0) (r1:=(gP u ps mode am most).r1) (a0:=a0) (a1:=a1) (g3.lst hf (no' _)) q (some (.ref h1.length)) (some (.ref (h1 ++ [MObj.list [] 0]).length))) fun y12 y20 D=>?_
   refine x1_2 (round_tail n (m3:=0) (m4:=0) (cs:=[]) K (R.refl.grow g3).rng (fun j z=>(hQ j z).2) er (g3.lst ha (no' _)) (g3.lst hf (no' _)) r3 (g3.inst hb) (g3.lst hi (no' _)) hbg3 (g3.lst hpl (no' _)) rp3 hc3 ht3 rp3 (plain_oth K) (plain_set q) (plain_flx q) ⟨fun _=>q,fun _=>rfl⟩ (fun z=>absurd q z) (by (with_reducible exact Int.le_of_eq (Eq.symm (by assumption)))) d1 d2 d3 (by (with_reducible exact Nat.ne_of_gt (by assumption))) (by (with_reducible exact Nat.ne_of_gt (Nat.lt_of_lt_of_le (by assumption) (by assumption)))) d6
    (many:=many) (orders:=orders) (last:=last) (x10:=x10) (x11:=x11) (x12:=y12) (x14:=x14) (low:=(some (.int (lowU u ps most)))) (less:=less) (x20:=y20) (ends:=(some (.int (endI a0 a1 (szU u ps mode am most)))))) fun h' e g=>?_
   exact ⟨h',(zaX 16 1 D).trans e,g3.nil.trans g⟩
 · have hs:=gP_sg q
   have pg:0≤(gP u ps mode am most).sg:=by simp only [hs];cases decide (0 < exU u ps mode am most) <;> decide
   refine x6_5 (cnt_loop1 (n + 5) (Q:=Q) (h:=((h1 ++ [MObj.list [] 0]) ++ [MObj.list vp 0])) (bx:=bx) (no:=no) (fo:=fo) (ca:=h1.length) (tw:=(h1 ++ [MObj.list [] 0]).length) (many:=many) (u:=u) (orders:=orders) (mode:=mode) (most:=most) (own:=natU u ps most) (last:=last) (x10:=x10) (x11:=x11) (x12:=x12) (x13:=some (.int (szU u ps mode am most))) (x14:=x14) (low:=(some (.int (lowU u ps most)))) (less:=less) (goal:=some (zaF mode am most)) (due:=some (dueM ps)) (pk:=some (.tup [.ref b,.tup [.int a0,.int a1]])) (x20:=x20) (plain:=some (.ref pl)) (bg:=(some (.ref h.length))) (ends:=(some (.int (endI a0 a1 (szU u ps mode am most))))) (k0:=kd u) (w0:=wU u ps (szU u ps mode am most)) (e0:=hU u ps (szU u ps mode am most)) (d0:=dU u ps most) (sg:=(gP u ps mode am most).sg) (od:=(gP u ps mode am most).od) (r0:=(gP u ps mode am most).r0) (r1:=(gP u ps mode am most).r1) (a0:=a0) (a1:=a1) (b:=bU u ps mode am most) hs K.ok K.hl (g3.lst hf (no' _)) hc3 ht3 rp3 (fun j z=>by have:=(hQ j z).1;lia) (by (with_reducible exact Nat.ne_of_lt (Nat.lt_of_lt_of_le (by assumption) (by assumption)))) (by lia) (by lia)) fun y12 y20 vt' h4 m3 m4 D g4 hc4 ht4 rt4=>?_
   have nc:∀ i:Nat,i < h.length→i ∉ [h1.length,(h1 ++ [MObj.list [] 0]).length]:=fun i z=>by simp;lia
   have nbg:h.length ∉ [h1.length,(h1 ++ [MObj.list [] 0]).length]:=by
    have:=zeH hbg
    simp;lia
   refine x3_2 ((R.refl.grow g3).rng) fun rx ry rv q1 q2=>?_
   refine x1_2 (zdA (ps:=ps) (e:=exU u ps mode am most) q) fun p0 pm0 c0=>?_
   have nv:vs≠[]:=fun z=>by have:=r.len;have:=List.length_pos_of_mem pm0;rw [z,List.length_nil] at *;lia
   have ncs:cntM (bU u ps mode am most) (gP u ps mode am most).od ps≠[]:=fun z=>by
    have:=cnt_pos q
    have l2:=congrArg List.length z
    simp only [List.length_map,List.length_nil] at l2
    lia
   refine x1_2 (round_tail n (m3:=m3) (m4:=m4) (cs:=cntM (bU u ps mode am most) (gP u ps mode am most).od ps) K ⟨rx,ry,rv,g4.lst q1 (nc _ lbx),q2⟩ (fun j z=>(hQ j z).2) er (g4.lst (g3.lst ha (no' _)) (nc _ lno)) (g4.lst (g3.lst hf (no' _)) (nc _ lfo)) (r3.imp fun _ _ x=>x.gr g4 (fun j z=>nc j (hQ j z).1)) (g4.inst (g3.inst hb)) (g4.lst (g3.lst hi (no' _)) (nc _ lit)) (g4.lst hbg3 nbg) (g4.lst (g3.lst hpl (no' _)) (nc _ lpl)) (rp3.imp fun _ _ x=>x.gr g4 (fun j z=>nc j (hQ j z).1)) hc4 ht4 rt4 (twin_oth K _ _) (twin_set q) (twin_flx q) ⟨fun z=>absurd z ncs,fun z=>absurd z q⟩ (fun _=>⟨rfl,(ea nv).1,(ea nv).2⟩) pg d1 d2 d3 (by (with_reducible exact Nat.ne_of_gt (by assumption))) (by (with_reducible exact Nat.ne_of_gt (Nat.lt_of_lt_of_le (by assumption) (by assumption)))) d6
    (many:=many) (orders:=orders) (last:=last) (x10:=x10) (x11:=x11) (x12:=y12) (x14:=x14) (low:=(some (.int (lowU u ps most)))) (less:=less) (x20:=y20) (ends:=(some (.int (endI a0 a1 (szU u ps mode am most)))))) fun h' e g=>?_
   refine ⟨h',(zaX 16 1 D).trans e,?_⟩
   have G:Gr [h1.length,(h1 ++ [MObj.list [] 0]).length,bx] h h':=(g3.nil.trans (g4.mono (by simp))).trans (g.mono (by simp))
   exact Gr.drop (Gr.drop G (by assumption)) (by lia)
end
theorem call_body {f:Nat} {d:MFn} {n:Nat} {vs ws:List MV} {h h':zax} {v:MV} (hd:fnsT f=some d) (hb:zdD d.np d.defs vs=some ws) (he:zaC tabs (zay tabs fnsT n) d.body (ws.map some ++ List.replicate (d.slots - d.np) none) h= .ret v h') :
 zay tabs fnsT (n + 1) f vs h= .ok v h':=by
 unfold zay
 rw [hd]
 simp only [hb]
 rw [he]
theorem rep_ref {Q:Nat→Prop} {h:zax} {v:MV} {p:Part} (r:RepP Q h v p) :∃ i,v= .ref i:=by cases r <;> exact ⟨_,rfl⟩
section
variable (n:Nat) {h:zax} {bx:Nat}
theorem c53 (R:Rng h bx) :∃ h',zaB (n + 10) 53 [.ref bx] h= .ok (.bool true) h'∧Gr [bx] h h':=by
 have lb:bx < h.length:=by (refine x3_2 R ?_;intro _ _ _ e _);exact zeH e
 obtain ⟨many,u,orders,mode,most,no,fo,h1,e1,hm,ho,hmode,hmost,g1,hno,hfo,nf,ln,lf⟩:=round_head (n + 8) R []
 have nb:no≠bx:=by (with_reducible exact Nat.ne_of_gt (Nat.lt_of_lt_of_le (by assumption) (by assumption)))
 have fb:fo≠bx:=by (with_reducible exact Nat.ne_of_gt (Nat.lt_of_lt_of_le (by assumption) (by assumption)))
 have lb1:bx < h1.length:=by have:=g1.gr.len;(with_reducible exact Nat.lt_of_lt_of_le (by assumption) (by assumption))
 refine x5_1 (round_loop (n + 4) g1.rng hno hfo nf nb fb hm ho u mode most) ?_;rintro ps vs m1 m2 h2 zq;refine x5_3 zq ?_;clear zq;intro x10 x11 x12 x13 x14 e2 M hl
 refine x3_2 (round_goal (n + 7) M.rng M.f fb M.ok hl hmode hmost.1 (many:=many) (orders:=orders) (no:=no) (own:=isum (ps.map (fsz u))) (last:=zbZ ps) (x10:=x10) (x11:=x11) (x12:=x12) (x13:=x13) (x14:=x14) rfl rfl) fun am less h3 e3 g3=>?_
 have a3:=g3.lst M.a nb
 have f3:=g3.lst M.f fb
 have r3:zaK (fun j=>h1.length≤j∧j < h3.length) h3 vs ps:=M.r.imp fun _ _ x=>(x.gr g3.gr (fun j z=>by simp;lia)).imp fun j z l=>⟨z,l⟩
 have E:∀ h',zaC tabs (zay tabs fnsT (n + 9)) (b53.drop 9) (rdM bx no fo many u orders mode most (natU u ps most) (zbZ ps) x10 x11 x12 (some (.int (szU u ps mode am most))) x14 (some (.int (lowU u ps most))) less (some (zaF mode am most)) none none none none none none none none none none) h3= .ret (.bool true) h'→zaB (n + 10) 53 [.ref bx] h= .ok (.bool true) h':=fun h' e=>
  call_body (f:=53) (d:=f53) (ws:=[.ref bx]) rfl rfl ((zaX 0 3 e1).trans ((zaX 3 1 e2).trans (e3.trans e)))
 have G3:Gr [no,fo,bx] h h3:=((g1.gr.mono (by simp)).trans (M.g.mono (by simp))).trans (g3.gr.mono (by simp))
 have G3':Gr [bx] h h3:=Gr.drop (Gr.drop G3 ln) lf
 by_cases hx:dim am∧dim (szU u ps mode am most)
 · have K:Pk ps u mode am most:=⟨M.ok,hl,hmode,hmost.1,hmost.2,hx.1,hx.2⟩
   refine x5_7 (round_pack n (bx:=bx) (many:=many) (orders:=orders) (last:=zbZ ps) (x10:=x10) (x11:=x11) (x12:=x12) (x14:=x14) (less:=less) (x20:=none) K a3 f3 r3) fun b it pl vp h4 e4 g4 hb hi hpl rpl lpl=>?_
   have R4:=(g3.rng.refl.grow g4).rng
   have r4:zaK (fun j=>h1.length≤j∧j < h3.length) h4 vs ps:=r3.imp fun _ _ x=>x.gr g4 (fun j _ m=>nomatch m)
   have nit:it≠bx:=fun q=>by
    refine x3_2 R4 ?_;intro x y v q1 _
    simp only [q,q1] at hi
    cases hi
    cases r4 with
    | cons r _=>(refine x1_1 (rep_ref r) fun i z=>?_);exact noC MV.ctorIdx z rfl
   have l34:=g4.len
   refine x1_2 (round_mid n K R4 (fun j z=>by lia) (g4.lst a3 (fun m=>nomatch m)) (g4.lst f3 (fun m=>nomatch m)) r4 hb hi hpl rpl nb fb (by have:=g3.gr.len;have:=M.g.len;lia) nit
    (many:=many) (orders:=orders) (last:=zbZ ps) (x10:=x10) (x11:=x11) (x12:=x12) (x14:=x14) (less:=less) (x20:=none)) fun h5 e5 g5=>?_
   exact ⟨h5,E h5 (e4.trans e5),(G3'.trans g4.nil).trans g5⟩
 · refine x1_2 (round_big n (bx:=bx) (many:=many) (orders:=orders) (last:=zbZ ps) (x10:=x10) (x11:=x11) (x12:=x12) (x14:=x14) (less:=less) (x20:=none) M.ok hl hmode hmost.1 hmost.2 hx a3 f3 r3) fun h4 e4 g4=>?_
   exact ⟨h4,E h4 e4,G3'.trans g4.nil⟩
end
theorem slice_gen {h:zax} {a:Nat} {k:Nat} {vs:List MV} (to:Bool) (e:items? h a=some vs) (hl:vs.length≤4000) :zbT to (.ref a) (.int k) h= .ok (.ref h.length) (h ++ [.list (if to then vs.take k else vs.drop k) 0]):=by
 have l:(if to then vs.take k else vs.drop k).length≤4096:=by split <;> (first | rw [List.length_take] | rw [List.length_drop]) <;> lia
 simp only [zbT,e,Int.toNat_natCast]
 rw [if_pos (Int.natCast_nonneg k)]
 simp only [zaR,if_pos l]
theorem items_ro {h:zax} {a:Nat} {vs:List MV} (e:h[a]? =some (.ro vs)) :items? h a=some vs:=by simp only [items?,e]
section
variable {is:List Int}
theorem law_loop (n:Nat) {h:zax} (h0:h[0]? =some (.ro (is.map MV.int))) (hl:is.length≤63) {cs:List Int} {ca:Nat} (hc:h[ca]? =some (.list (cs.map MV.int) 0)) :
 ∃ l' h',zbQ (.list ca 0 false) (fun v l=>some (l.set 2 (some v))) (zaC tabs (zay tabs fnsT (n + 10)) b54l0) ((cs.map MV.int).length + 1) 0 [some (.ref 0),some (.ref ca),none] h= .nxt l' h'∧∃ y,l'= [some (.ref 0),some (.ref ca),y]:=by
 obtain ⟨l',h',e,g,y,q⟩:=zbY (α:=Int) (R:=fun v i=>v= .int i) (a:=ca) (ver:=0) (num:=false) (tgt:=fun v l=>some (l.set 2 (some v))) (body:=zaC tabs (zay tabs fnsT (n + 10)) b54l0) (vs:=cs.map MV.int)
  (fun d l h'=>Gr [] h h'∧∃ y,l= [some (.ref 0),some (.ref ca),y]) (ps:=cs) (L2.ofMap (R:=fun v i=>v= .int i) (f:=MV.int) (fun _=>rfl) cs)
  (fun d l h' ⟨g,_⟩=>by simp only [itemsV?,g.lst hc (fun m=>nomatch m)]) (fun d c v l h' zz _ hv _=>by
   obtain ⟨g,y,q⟩:=zz
   subst q hv
   have s1:=slice_gen (k:=2) false (items_ro (g.ro h0)) (by rw [List.length_map];lia)
   rw [if_neg (by decide),← List.map_drop] at s1
   have s2:=sum_list (zaD h' (.list ((is.drop 2).map MV.int) 0))
   refine x1_2 (c41 (n + 9) (h' ++ [.list ((is.drop 2).map MV.int) 0]) c (isum (is.drop 2))) fun o e1 R=>?_
   refine x1_2 (c53 n R) fun h3 e2 g2=>?_
   have g3:Gr [] h h3:=Gr.drop ((((g.push _).push [o]).nil).trans g2) (by simp only [List.length_append];exact Nat.le_trans g.len (Nat.le_add_right _ _))
   exact ⟨_,_,h3,rfl,runB (n:=n + 10) (b:=b54l0) (l:=[some (.ref 0),some (.ref ca),some (.int c)]) (h:=h') [.r (.ok (.ref h'.length) (h' ++ [MObj.list ((is.drop 2).map MV.int) 0])),.r (.ok (.int (isum (is.drop 2))) (h' ++ [MObj.list ((is.drop 2).map MV.int) 0])),.r (.ok (.ref (h' ++ [MObj.list ((is.drop 2).map MV.int) 0]).length) ((h' ++ [MObj.list ((is.drop 2).map MV.int) 0]) ++ [o])),.r (.ok (.bool true) h3)] s1 s2 e1 e2,g3,_,rfl⟩)
  (m:=(cs.map MV.int).length + 1) (d:=[]) (l:=[some (.ref 0),some (.ref ca),none]) (h:=h) ⟨Gr.refl _ _,_,rfl⟩ ⟨cs,rfl⟩ rfl
 exact ⟨l',h',e,y,q⟩
theorem plain_law (is:List Int) (hl:is.length≤63) :∃ mh',zay tabs fnsT 41 54 [.ref 0] [.ro (is.map MV.int)]= .ok (.bool true) mh':=by
 have h0:([MObj.ro (is.map MV.int)] :zax)[0]? =some (.ro (is.map MV.int)):=rfl
 have i1:items? ([MObj.ro (is.map MV.int)] ++ [MObj.list [] 0]) 0=some (is.map MV.int):=rfl
 have eqn:eqH ([MObj.ro (is.map MV.int)] ++ [MObj.list [] 0]) (.ref 0) (.ref 1)=some (decide (is= [])):=by
  cases is with
  | nil=>rfl
  | cons i r=>rfl
 by_cases q:is= []
 · have c3:(([MObj.ro (is.map MV.int)] ++ [MObj.list [] 0]) ++ [MObj.list ([3041467672532173834696482752849169419505].map MV.int) 0])[2]? =some (.list ([3041467672532173834696482752849169419505].map MV.int) 0):=rfl
   obtain ⟨l',h',e,y,rfl⟩:=law_loop 30 (h:=([MObj.ro (is.map MV.int)] ++ [MObj.list [] 0]) ++ [MObj.list ([3041467672532173834696482752849169419505].map MV.int) 0]) rfl hl c3
   refine ⟨h',run 54 f54 40 [.ref 0] [MObj.ro (is.map MV.int)] [.b (decide (is= [])),.b false,.o (.list ([3041467672532173834696482752849169419505].map MV.int) 0),.s (.nxt [some (.ref 0),some (.ref 2),y] h')] rfl rfl eqn (nf q) ⟨by decide,by decide,by decide,by decide⟩ c3 e⟩
 · have s1:=slice_gen (k:=2) true i1 (by rw [List.length_map];lia)
   rw [if_pos rfl,← List.map_take] at s1
   have c3:(([MObj.ro (is.map MV.int)] ++ [MObj.list [] 0]) ++ [MObj.list ((is.take 2).map MV.int) 0])[2]? =some (.list ((is.take 2).map MV.int) 0):=rfl
   obtain ⟨l',h',e,y,rfl⟩:=law_loop 30 (h:=([MObj.ro (is.map MV.int)] ++ [MObj.list [] 0]) ++ [MObj.list ((is.take 2).map MV.int) 0]) rfl hl c3
   exact ⟨h',run 54 f54 40 [.ref 0] [MObj.ro (is.map MV.int)] [.b (decide (is= [])),.b true,.r (.ok (.ref 2) (([MObj.ro (is.map MV.int)] ++ [MObj.list [] 0]) ++ [MObj.list ((is.take 2).map MV.int) 0])),.o (.list ((is.take 2).map MV.int) 0),.s (.nxt [some (.ref 0),some (.ref 2),y] h')] rfl rfl eqn (nt q) s1 c3 e⟩
end
end Mine.Pw
open PySem PySem.W PyProof.Rows Mine
set_option tactic.hygienic true in
theorem PySem.Challenge.cw_xm0375_01_holds : PySem.Challenge.rw_xm0375_01.Holds := by
 w_on
 refine holds_law said0 fun said=>?_
 refine holds_open (q:=qv) (loose:=loose0) (Xt:=Xt0) (XP:=XL qv []) (Yf:=fun s=>KSays s.heap) (Ya:=fun _=>True) (YP:=fun _ h=>KSays h) (N:=20000) left0
  (fun _ s e=>e ▸ trivial) (fun _ _ _ ⟨K,k1,k2⟩ k=>⟨K,k1.keeps k,k2⟩) (fun s e=>xl_of s (Bool.and_eq_true_iff.mp e).1) XL.keeps (by rfl) (by rfl) (by rfl) (fun s e=>recFacts_of (Bool.and_eq_true_iff.mp e).2) (by rfl) (by assumption) (by decide +kernel) ⟨rfl,rfl,rfl,rfl,rfl,by decide +kernel⟩ ?hw ?hc
 case hw=>w_witness2
 intro w s₀ s₁ mg mb G Y fa o pm cd doc dV kV ho hd hcd hD hmg hg args vals as hpre hlay hrd hwl hlo
 have X:=(Ground.X G).1
 have V:=(Ground.X G).2
 refine Ground.open G ?_
 intro T B D TE TW
 try (refine guard_noD D (by decide +kernel) ?_;clear D)
 obtain ⟨_,_,M⟩:=bmod_of_top T
 have TA:=at_of_top T
 obtain ⟨K,k1,k2,k3⟩:=Y
 have all:=all_of (S:=⟨PySem.Challenge.rw_xm0375_01.row.prog,w,K,qv,looseW qv loose0,ExcName.means s₀.heap,mg,mb⟩) k2 k3
 have hmg':mg (Str.ofString "law")=some (.ref 698):=mg_of k1 T.g (all.1.glob (Str.ofString "law") (.fn 54) rfl).1
 have hfa:fa=698:=by
  have:=hmg'.symm.trans hmg
  cases this;rfl
 subst hfa
 clear ho hd hcd hD
 wrow_args hpre hlay hrd hwl hlo
 rename_i is _ _ _ _ _ _ _ L xs _ hL _ _ _ hI _ hc _
 obtain ⟨mh',hres⟩:=Mine.Pw.plain_law is (by omega)
 refine enter_call (top_call (C:=cfgT) (S:=⟨PySem.Challenge.rw_xm0375_01.row.prog,w,K,qv,looseW qv loose0,ExcName.means s₀.heap,mg,mb⟩) all.1 all.2.1 all.2.2 (f:=54) (n:=40) rfl rfl rfl rfl (by decide) (by decide) k1 T hL hI (by have:=hI.length;omega) hres fun h' tk k=>?_)
 refine GoodW.toG ⟨.inl ⟨.bool true,ofPy (.bool true),[],rfl,fun cls=>rfl,?_,?_,?_⟩,k,rfl,hg⟩
 · exact .bool true
 · kernel_rfl
 · exact fun _=>⟨List.nodup_nil,fun a h=>nomatch h⟩
