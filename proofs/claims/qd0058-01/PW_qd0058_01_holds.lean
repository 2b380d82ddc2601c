import PyProof.Rows.All
import Wide.All
import OpenK.AllK
import KE.KDictList
import KE.KDictOf
import PyProof.AttrMissHeap
import KE.KLam
import KE.KSortTup
import KE.KNestM
import Wide.FinOn
import PyProof.Rows.Walk
import PyProof.TableCode
import Lean
import PySem.Challenge.RW_qd0058_01
set_option autoImplicit false
set_option genSizeOf false
set_option genSizeOfSpec false
set_option compiler.extract_closed false
set_option tactic.hygienic false
set_option maxRecDepth 100000
set_option maxHeartbeats 8000000
set_option Elab.async false
set_option linter.all false
set_option genInjectivity false
section
namespace Mine.Internal
open PySem PySem.Calls PyProof.Rows PySem.W
theorem nI:typeLookup (.type "list") "keys" = pure none:=am_miss_of_fast (by decide +kernel)
section
variable {prog:Program} {w:World} {A:Around} {E:Value->Shared->Prop} {s:Shared}
theorem askKeys {a:Addr} {xs:Array Value} {k:Nat} {Q:Option Value->Shared->Prop} (hx:s.heap.get? a = some { cls:=.type "list", dict:=none,data:=.seq xs k,slots:=#[] }) (hA:A.handled = none)
  (h:∀ h' tk,(∀ b o,s.heap.get? b = some o->h'.get? b = some o)->Q none { s with heap:=h',toks:=tk }):wpAny (model prog w) A (getAttr? (.ref a) "keys") Q E s:=by
 obtain ⟨hp,g,d,tk,os⟩:=s
 have hT:∀ tk',(⟨hp,g,d,tk',os⟩ : Shared).TypeIs (.ref a) "list" := fun z0=>⟨_,hx,rfl⟩
 have f1:=sub_AttributeError
 have f3:=F.slot_list_getattribute.lookup
 have f4:=F.slot_list_getattribute.bind (.ref a)
 have f5:=am_list_getattr_none
 unfold getAttr? getAttrBy? getAttrBy
 repeat (any_goals (first | assumption | exact hT _ | ((with_reducible show wpAny _ _ (call (Value.builtin "list.__getattribute__") _ _) _ _ _); refine call_meets F.slot_list_getattribute (hT _) am_entry_list_getattribute (F.args_list_getattribute_2 _ _) (meets_getattribute_miss_list a xs k #[] "keys" _ nI (by decide +kernel) (by size_fits)) ⟨hx,hA,fun h' tk' e hx'=>?_⟩) | wp_step))
 obtain ⟨t',u',he⟩:=hx'.there
 show wpAny _ _ (getattributeRaised _ _ _ _ _ _ _) _ _ _
 unfold getattributeRaised
 repeat (any_goals (first | assumption | wp_step))
 exact h _ _ hx'.keeps
end
end Mine.Internal
end
section
namespace Mine.Internal
structure A3 (p1 p2 p3:Prop):Prop where
 h1:p1
 h2:p2
 h3:p3
structure A4 (p1 p2 p3 p4:Prop):Prop where
 h1:p1
 h2:p2
 h3:p3
 h4:p4
structure A5 (p1 p2 p3 p4 p5:Prop):Prop where
 h1:p1
 h2:p2
 h3:p3
 h4:p4
 h5:p5
structure A6 (p1 p2 p3 p4 p5 p6:Prop):Prop where
 h1:p1
 h2:p2
 h3:p3
 h4:p4
 h5:p5
 h6:p6
inductive X1b {α1:Type} (p1 p2:α1->Prop):Prop
 | mk (w1:α1) (h1:p1 w1) (h2:p2 w1)
inductive X1c {α1:Type} (p1 p2 p3:α1->Prop):Prop
 | mk (w1:α1) (h1:p1 w1) (h2:p2 w1) (h3:p3 w1)
inductive X1d {α1:Type} (p1 p2 p3 p4:α1->Prop):Prop
 | mk (w1:α1) (h1:p1 w1) (h2:p2 w1) (h3:p3 w1) (h4:p4 w1)
inductive X1e {α1:Type} (p1 p2 p3 p4 p5:α1->Prop):Prop
 | mk (w1:α1) (h1:p1 w1) (h2:p2 w1) (h3:p3 w1) (h4:p4 w1) (h5:p5 w1)
inductive X1f {α1:Type} (p1 p2 p3 p4 p5 p6:α1->Prop):Prop
 | mk (w1:α1) (h1:p1 w1) (h2:p2 w1) (h3:p3 w1) (h4:p4 w1) (h5:p5 w1) (h6:p6 w1)
inductive X1g {α1:Type} (p1 p2 p3 p4 p5 p6 p7:α1->Prop):Prop
 | mk (w1:α1) (h1:p1 w1) (h2:p2 w1) (h3:p3 w1) (h4:p4 w1) (h5:p5 w1) (h6:p6 w1) (h7:p7 w1)
inductive X2b {α1 α2:Type} (p1 p2:α1->α2->Prop):Prop
 | mk (w1:α1) (w2:α2) (h1:p1 w1 w2) (h2:p2 w1 w2)
inductive X3f {α1 α2 α3:Type} (p1 p2 p3 p4 p5 p6:α1->α2->α3->Prop):Prop
 | mk (w1:α1) (w2:α2) (w3:α3) (h1:p1 w1 w2 w3) (h2:p2 w1 w2 w3) (h3:p3 w1 w2 w3) (h4:p4 w1 w2 w3) (h5:p5 w1 w2 w3) (h6:p6 w1 w2 w3)
inductive X3g {α1 α2 α3:Type} (p1 p2 p3 p4 p5 p6 p7:α1->α2->α3->Prop):Prop
 | mk (w1:α1) (w2:α2) (w3:α3) (h1:p1 w1 w2 w3) (h2:p2 w1 w2 w3) (h3:p3 w1 w2 w3) (h4:p4 w1 w2 w3) (h5:p5 w1 w2 w3) (h6:p6 w1 w2 w3) (h7:p7 w1 w2 w3)
inductive X3h {α1 α2 α3:Type} (p1 p2 p3 p4 p5 p6 p7 p8:α1->α2->α3->Prop):Prop
 | mk (w1:α1) (w2:α2) (w3:α3) (h1:p1 w1 w2 w3) (h2:p2 w1 w2 w3) (h3:p3 w1 w2 w3) (h4:p4 w1 w2 w3) (h5:p5 w1 w2 w3) (h6:p6 w1 w2 w3) (h7:p7 w1 w2 w3) (h8:p8 w1 w2 w3)
inductive X3i {α1 α2 α3:Type} (p1 p2 p3 p4 p5 p6 p7 p8 p9:α1->α2->α3->Prop):Prop
 | mk (w1:α1) (w2:α2) (w3:α3) (h1:p1 w1 w2 w3) (h2:p2 w1 w2 w3) (h3:p3 w1 w2 w3) (h4:p4 w1 w2 w3) (h5:p5 w1 w2 w3) (h6:p6 w1 w2 w3) (h7:p7 w1 w2 w3) (h8:p8 w1 w2 w3) (h9:p9 w1 w2 w3)
inductive X4j {α1 α2 α3 α4:Type} (p1 p2 p3 p4 p5 p6 p7 p8 p9 p10:α1->α2->α3->α4->Prop):Prop
 | mk (w1:α1) (w2:α2) (w3:α3) (w4:α4) (h1:p1 w1 w2 w3 w4) (h2:p2 w1 w2 w3 w4) (h3:p3 w1 w2 w3 w4) (h4:p4 w1 w2 w3 w4) (h5:p5 w1 w2 w3 w4) (h6:p6 w1 w2 w3 w4) (h7:p7 w1 w2 w3 w4) (h8:p8 w1 w2 w3 w4) (h9:p9 w1 w2 w3 w4) (h10:p10 w1 w2 w3 w4)
@[elab_as_elim] theorem rwG {α:Sort _} {a b:α} {P:α->Prop} (e:a = b) (h:P b):P a:=e ▸ h
@[elab_as_elim] theorem rwB {α:Sort _} {a b:α} {P:α->Prop} (e:b = a) (h:P b):P a:=e ▸ h
@[elab_as_elim] theorem rwI {a b:Prop} {P:Prop->Prop} (e:a ↔ b) (h:P b):P a:=propext e ▸ h
@[elab_as_elim] theorem exEq {α β:Sort _} {v:β} {f:α->β} {P:β->Prop} (h:∃ x,v = f x) (k:∀ x,P (f x)):P v:=Exists.elim h fun x e=>e ▸ k x
theorem oE0A2 {p1 p2:Prop} {G:Prop} (h:p1/\p2) (k:p1->p2->G):G:=k h.1 h.2
theorem oE0A3 {p1 p2 p3:Prop} {G:Prop} (h:p1/\p2/\p3) (k:p1->p2->p3->G):G:=k h.1 h.2.1 h.2.2
theorem oE1A2 {α1:Sort _} {p1 p2:α1->Prop} {G:Prop} (h:∃ x1,p1 x1/\p2 x1) (k:∀ x1,p1 x1->p2 x1->G):G:=Exists.elim h fun x1 h=>k x1 h.1 h.2
theorem oE0A4 {p1 p2 p3 p4:Prop} {G:Prop} (h:p1/\p2/\p3/\p4) (k:p1->p2->p3->p4->G):G:=k h.1 h.2.1 h.2.2.1 h.2.2.2
theorem oE1A3 {α1:Sort _} {p1 p2 p3:α1->Prop} {G:Prop} (h:∃ x1,p1 x1/\p2 x1/\p3 x1) (k:∀ x1,p1 x1->p2 x1->p3 x1->G):G:=Exists.elim h fun x1 h=>k x1 h.1 h.2.1 h.2.2
theorem oE2A2 {α1 α2:Sort _} {p1 p2:α1->α2->Prop} {G:Prop} (h:∃ x1,∃ x2,p1 x1 x2/\p2 x1 x2) (k:∀ x1 x2,p1 x1 x2->p2 x1 x2->G):G:=Exists.elim h fun x1 h=>Exists.elim h fun x2 h=>k x1 x2 h.1 h.2
theorem oE0A5 {p1 p2 p3 p4 p5:Prop} {G:Prop} (h:p1/\p2/\p3/\p4/\p5) (k:p1->p2->p3->p4->p5->G):G:=k h.1 h.2.1 h.2.2.1 h.2.2.2.1 h.2.2.2.2
theorem oE1A4 {α1:Sort _} {p1 p2 p3 p4:α1->Prop} {G:Prop} (h:∃ x1,p1 x1/\p2 x1/\p3 x1/\p4 x1) (k:∀ x1,p1 x1->p2 x1->p3 x1->p4 x1->G):G:=Exists.elim h fun x1 h=>k x1 h.1 h.2.1 h.2.2.1 h.2.2.2
theorem oE2A3 {α1 α2:Sort _} {p1 p2 p3:α1->α2->Prop} {G:Prop} (h:∃ x1,∃ x2,p1 x1 x2/\p2 x1 x2/\p3 x1 x2) (k:∀ x1 x2,p1 x1 x2->p2 x1 x2->p3 x1 x2->G):G:=Exists.elim h fun x1 h=>Exists.elim h fun x2 h=>k x1 x2 h.1 h.2.1 h.2.2
theorem oE3A2 {α1 α2 α3:Sort _} {p1 p2:α1->α2->α3->Prop} {G:Prop} (h:∃ x1,∃ x2,∃ x3,p1 x1 x2 x3/\p2 x1 x2 x3) (k:∀ x1 x2 x3,p1 x1 x2 x3->p2 x1 x2 x3->G):G:=Exists.elim h fun x1 h=>Exists.elim h fun x2 h=>Exists.elim h fun x3 h=>k x1 x2 x3 h.1 h.2
theorem oE1A5 {α1:Sort _} {p1 p2 p3 p4 p5:α1->Prop} {G:Prop} (h:∃ x1,p1 x1/\p2 x1/\p3 x1/\p4 x1/\p5 x1) (k:∀ x1,p1 x1->p2 x1->p3 x1->p4 x1->p5 x1->G):G:=Exists.elim h fun x1 h=>k x1 h.1 h.2.1 h.2.2.1 h.2.2.2.1 h.2.2.2.2
theorem oE2A4 {α1 α2:Sort _} {p1 p2 p3 p4:α1->α2->Prop} {G:Prop} (h:∃ x1,∃ x2,p1 x1 x2/\p2 x1 x2/\p3 x1 x2/\p4 x1 x2) (k:∀ x1 x2,p1 x1 x2->p2 x1 x2->p3 x1 x2->p4 x1 x2->G):G:=Exists.elim h fun x1 h=>Exists.elim h fun x2 h=>k x1 x2 h.1 h.2.1 h.2.2.1 h.2.2.2
theorem oE3A3 {α1 α2 α3:Sort _} {p1 p2 p3:α1->α2->α3->Prop} {G:Prop} (h:∃ x1,∃ x2,∃ x3,p1 x1 x2 x3/\p2 x1 x2 x3/\p3 x1 x2 x3) (k:∀ x1 x2 x3,p1 x1 x2 x3->p2 x1 x2 x3->p3 x1 x2 x3->G):G:=Exists.elim h fun x1 h=>Exists.elim h fun x2 h=>Exists.elim h fun x3 h=>k x1 x2 x3 h.1 h.2.1 h.2.2
theorem oE4A2 {α1 α2 α3 α4:Sort _} {p1 p2:α1->α2->α3->α4->Prop} {G:Prop} (h:∃ x1,∃ x2,∃ x3,∃ x4,p1 x1 x2 x3 x4/\p2 x1 x2 x3 x4) (k:∀ x1 x2 x3 x4,p1 x1 x2 x3 x4->p2 x1 x2 x3 x4->G):G:=Exists.elim h fun x1 h=>Exists.elim h fun x2 h=>Exists.elim h fun x3 h=>Exists.elim h fun x4 h=>k x1 x2 x3 x4 h.1 h.2
theorem oE2A5 {α1 α2:Sort _} {p1 p2 p3 p4 p5:α1->α2->Prop} {G:Prop} (h:∃ x1,∃ x2,p1 x1 x2/\p2 x1 x2/\p3 x1 x2/\p4 x1 x2/\p5 x1 x2) (k:∀ x1 x2,p1 x1 x2->p2 x1 x2->p3 x1 x2->p4 x1 x2->p5 x1 x2->G):G:=Exists.elim h fun x1 h=>Exists.elim h fun x2 h=>k x1 x2 h.1 h.2.1 h.2.2.1 h.2.2.2.1 h.2.2.2.2
theorem oE3A4 {α1 α2 α3:Sort _} {p1 p2 p3 p4:α1->α2->α3->Prop} {G:Prop} (h:∃ x1,∃ x2,∃ x3,p1 x1 x2 x3/\p2 x1 x2 x3/\p3 x1 x2 x3/\p4 x1 x2 x3) (k:∀ x1 x2 x3,p1 x1 x2 x3->p2 x1 x2 x3->p3 x1 x2 x3->p4 x1 x2 x3->G):G:=Exists.elim h fun x1 h=>Exists.elim h fun x2 h=>Exists.elim h fun x3 h=>k x1 x2 x3 h.1 h.2.1 h.2.2.1 h.2.2.2
theorem oE4A3 {α1 α2 α3 α4:Sort _} {p1 p2 p3:α1->α2->α3->α4->Prop} {G:Prop} (h:∃ x1,∃ x2,∃ x3,∃ x4,p1 x1 x2 x3 x4/\p2 x1 x2 x3 x4/\p3 x1 x2 x3 x4) (k:∀ x1 x2 x3 x4,p1 x1 x2 x3 x4->p2 x1 x2 x3 x4->p3 x1 x2 x3 x4->G):G:=Exists.elim h fun x1 h=>Exists.elim h fun x2 h=>Exists.elim h fun x3 h=>Exists.elim h fun x4 h=>k x1 x2 x3 x4 h.1 h.2.1 h.2.2
theorem oE2A6 {α1 α2:Sort _} {p1 p2 p3 p4 p5 p6:α1->α2->Prop} {G:Prop} (h:∃ x1,∃ x2,p1 x1 x2/\p2 x1 x2/\p3 x1 x2/\p4 x1 x2/\p5 x1 x2/\p6 x1 x2) (k:∀ x1 x2,p1 x1 x2->p2 x1 x2->p3 x1 x2->p4 x1 x2->p5 x1 x2->p6 x1 x2->G):G:=Exists.elim h fun x1 h=>Exists.elim h fun x2 h=>k x1 x2 h.1 h.2.1 h.2.2.1 h.2.2.2.1 h.2.2.2.2.1 h.2.2.2.2.2
theorem oE4A4 {α1 α2 α3 α4:Sort _} {p1 p2 p3 p4:α1->α2->α3->α4->Prop} {G:Prop} (h:∃ x1,∃ x2,∃ x3,∃ x4,p1 x1 x2 x3 x4/\p2 x1 x2 x3 x4/\p3 x1 x2 x3 x4/\p4 x1 x2 x3 x4) (k:∀ x1 x2 x3 x4,p1 x1 x2 x3 x4->p2 x1 x2 x3 x4->p3 x1 x2 x3 x4->p4 x1 x2 x3 x4->G):G:=Exists.elim h fun x1 h=>Exists.elim h fun x2 h=>Exists.elim h fun x3 h=>Exists.elim h fun x4 h=>k x1 x2 x3 x4 h.1 h.2.1 h.2.2.1 h.2.2.2
theorem oE3A6 {α1 α2 α3:Sort _} {p1 p2 p3 p4 p5 p6:α1->α2->α3->Prop} {G:Prop} (h:∃ x1,∃ x2,∃ x3,p1 x1 x2 x3/\p2 x1 x2 x3/\p3 x1 x2 x3/\p4 x1 x2 x3/\p5 x1 x2 x3/\p6 x1 x2 x3) (k:∀ x1 x2 x3,p1 x1 x2 x3->p2 x1 x2 x3->p3 x1 x2 x3->p4 x1 x2 x3->p5 x1 x2 x3->p6 x1 x2 x3->G):G:=Exists.elim h fun x1 h=>Exists.elim h fun x2 h=>Exists.elim h fun x3 h=>k x1 x2 x3 h.1 h.2.1 h.2.2.1 h.2.2.2.1 h.2.2.2.2.1 h.2.2.2.2.2
theorem oE4A5 {α1 α2 α3 α4:Sort _} {p1 p2 p3 p4 p5:α1->α2->α3->α4->Prop} {G:Prop} (h:∃ x1,∃ x2,∃ x3,∃ x4,p1 x1 x2 x3 x4/\p2 x1 x2 x3 x4/\p3 x1 x2 x3 x4/\p4 x1 x2 x3 x4/\p5 x1 x2 x3 x4) (k:∀ x1 x2 x3 x4,p1 x1 x2 x3 x4->p2 x1 x2 x3 x4->p3 x1 x2 x3 x4->p4 x1 x2 x3 x4->p5 x1 x2 x3 x4->G):G:=Exists.elim h fun x1 h=>Exists.elim h fun x2 h=>Exists.elim h fun x3 h=>Exists.elim h fun x4 h=>k x1 x2 x3 x4 h.1 h.2.1 h.2.2.1 h.2.2.2.1 h.2.2.2.2
theorem oE2A8 {α1 α2:Sort _} {p1 p2 p3 p4 p5 p6 p7 p8:α1->α2->Prop} {G:Prop} (h:∃ x1,∃ x2,p1 x1 x2/\p2 x1 x2/\p3 x1 x2/\p4 x1 x2/\p5 x1 x2/\p6 x1 x2/\p7 x1 x2/\p8 x1 x2) (k:∀ x1 x2,p1 x1 x2->p2 x1 x2->p3 x1 x2->p4 x1 x2->p5 x1 x2->p6 x1 x2->p7 x1 x2->p8 x1 x2->G):G:=Exists.elim h fun x1 h=>Exists.elim h fun x2 h=>k x1 x2 h.1 h.2.1 h.2.2.1 h.2.2.2.1 h.2.2.2.2.1 h.2.2.2.2.2.1 h.2.2.2.2.2.2.1 h.2.2.2.2.2.2.2
theorem oE3A7 {α1 α2 α3:Sort _} {p1 p2 p3 p4 p5 p6 p7:α1->α2->α3->Prop} {G:Prop} (h:∃ x1,∃ x2,∃ x3,p1 x1 x2 x3/\p2 x1 x2 x3/\p3 x1 x2 x3/\p4 x1 x2 x3/\p5 x1 x2 x3/\p6 x1 x2 x3/\p7 x1 x2 x3) (k:∀ x1 x2 x3,p1 x1 x2 x3->p2 x1 x2 x3->p3 x1 x2 x3->p4 x1 x2 x3->p5 x1 x2 x3->p6 x1 x2 x3->p7 x1 x2 x3->G):G:=Exists.elim h fun x1 h=>Exists.elim h fun x2 h=>Exists.elim h fun x3 h=>k x1 x2 x3 h.1 h.2.1 h.2.2.1 h.2.2.2.1 h.2.2.2.2.1 h.2.2.2.2.2.1 h.2.2.2.2.2.2
theorem oE5A5 {α1 α2 α3 α4 α5:Sort _} {p1 p2 p3 p4 p5:α1->α2->α3->α4->α5->Prop} {G:Prop} (h:∃ x1,∃ x2,∃ x3,∃ x4,∃ x5,p1 x1 x2 x3 x4 x5/\p2 x1 x2 x3 x4 x5/\p3 x1 x2 x3 x4 x5/\p4 x1 x2 x3 x4 x5/\p5 x1 x2 x3 x4 x5) (k:∀ x1 x2 x3 x4 x5,p1 x1 x2 x3 x4 x5->p2 x1 x2 x3 x4 x5->p3 x1 x2 x3 x4 x5->p4 x1 x2 x3 x4 x5->p5 x1 x2 x3 x4 x5->G):G:=Exists.elim h fun x1 h=>Exists.elim h fun x2 h=>Exists.elim h fun x3 h=>Exists.elim h fun x4 h=>Exists.elim h fun x5 h=>k x1 x2 x3 x4 x5 h.1 h.2.1 h.2.2.1 h.2.2.2.1 h.2.2.2.2
theorem ar_al {a x k:Nat} (_:k ≤ 1000000) (h:a ≤ x):a + k ≤ x + k:=Nat.add_le_add_right h k
theorem ar_leaf {a:Nat} (_:a ≤ 1000000000):a ≤ a:=Nat.le_refl a
theorem ar_h {a n:Nat} (h:a ≤ n) (_:n ≤ 1000000000):a ≤ n:=h
theorem ar_mul {a x k:Nat} (h:a ≤ x):k * a ≤ k * x:=Nat.mul_le_mul_left k h
theorem ar_t {r c:Int} (h2:r < c):r.toNat ≤ c.toNat:=Int.toNat_le_toNat (Int.le_of_lt h2)
theorem ar_j {j:Nat} {r c:Int} (h1:j < r.toNat) (h2:r < c):j ≤ c.toNat:=Nat.le_trans (Nat.le_of_lt h1) (ar_t h2)
theorem na_add {a b:Int} {x y:Nat} (h1:a.natAbs ≤ x) (h2:b.natAbs ≤ y):(a + b).natAbs ≤ x + y:=Nat.le_trans (Int.natAbs_add_le a b) (Nat.add_le_add h1 h2)
theorem na_sub {a b:Int} {x y:Nat} (h1:a.natAbs ≤ x) (h2:b.natAbs ≤ y):(a - b).natAbs ≤ x + y:=na_add h1 (Nat.le_trans (Nat.le_of_eq (Int.natAbs_neg b)) h2)
theorem na_cast {n x:Nat} (h:n ≤ x):(n:Int).natAbs ≤ x:=h
theorem pG {r:Int} {x:Nat} (h1:0 ≤ r) (h2:r.toNat ≤ x):r.natAbs ≤ x:=by
 obtain ⟨n,rfl⟩:=Int.eq_ofNat_of_zero_le h1
 exact h2
theorem na_var {r c:Int} (h1:0 ≤ r) (h2:r < c):r.natAbs ≤ c.toNat:=pG h1 (ar_t h2)
theorem na_rng' {r c:Int} (h:0 ≤ r/\r < c):r.natAbs ≤ c.toNat:=na_var h.1 h.2
theorem rT {c:Int}:c.toNat ≤ c.natAbs:=by
 cases c with
 | ofNat n=>exact Nat.le_refl _
 | negSucc n=>exact Nat.zero_le _
theorem na_rng {r b c:Int} (h:b ≤ r/\r ≤ c):r.natAbs ≤ b.natAbs + c.natAbs:=by
 rcases Int.le_total 0 r with h0 | h0
 .exact Nat.le_trans (Nat.le_trans (pG h0 (Int.toNat_le_toNat h.2)) rT) (Nat.le_add_left _ _)
 .have h1:=pG (Int.neg_nonneg_of_nonpos h0) (Nat.le_trans (Int.toNat_le_toNat (Int.neg_le_neg h.1)) rT)
  rw [Int.natAbs_neg,Int.natAbs_neg] at h1
  exact Nat.le_trans h1 (Nat.le_add_right _ _)
theorem ar_chain {a n c k:Nat} (h1:a ≤ k * n) (h2:n ≤ c):a ≤ k * c:=Nat.le_trans h1 (Nat.mul_le_mul_left k h2)
theorem ar_minR {a b x:Nat} (h:b ≤ x):min a b ≤ x:=Nat.le_trans (Nat.min_le_right a b) h
theorem ar_eq {a b x:Nat} (h1:a = b) (h:b ≤ x):a ≤ x:=h1 ▸ h
theorem ar_s1 {k m:Nat} (h:k + 1 ≤ m):m - (k + 1) + 1 = m - k:=Nat.sub_add_cancel (Nat.sub_pos_of_lt h)
theorem ar_s2 {k m:Nat} (h:k + 1 ≤ m):m - k = m - (k + 1) + 1:=(ar_s1 h).symm
theorem ar_s3 {k m:Nat} (h:k + 1 ≤ m):m - (k + 1) < m:=Nat.sub_lt (Nat.lt_of_lt_of_le (Nat.succ_pos k) h) (Nat.succ_pos k)
theorem ar_i {i n:Nat} (h1:¬ i < n) (h2:i - n = 0):i = n:=Nat.le_antisymm (Nat.le_of_sub_eq_zero h2) (Nat.le_of_not_lt h1)
theorem ar_i2 {i n:Nat} (h1:¬ i < n) (h2:i < n + 1):i = n:=Nat.le_antisymm (Nat.le_of_lt_succ h2) (Nat.le_of_not_lt h1)
theorem ar_n1 {s:Int} {n:Nat} (h1:0 ≤ s) (h2:s < n):s.toNat < n:=(Int.toNat_lt h1).mpr h2
theorem ar_n2 {s:Int} {n m:Nat} (e:m = n) (h1:0 ≤ s) (h2:s < n):s.toNat < m:=e ▸ ar_n1 h1 h2
theorem ar_n3 {s:Int} {n:Nat} (h:0 ≤ s/\s < n):s.toNat < n:=ar_n1 h.1 h.2
theorem ar_n4 {s:Int} {n m:Nat} (e:m = n) (h:0 ≤ s/\s < n):s.toNat < m:=e ▸ ar_n1 h.1 h.2
theorem ar_b2 {s:Int} {n:Nat} (l:n ≤ 100) (h:0 ≤ s/\s < n):0 ≤ s/\s < 2 ^ 60:=⟨h.1,Int.lt_of_lt_of_le h.2 (Int.le_trans (Int.ofNat_le.mpr l) (by decide))⟩
theorem ar_b1 {s:Int} {n:Nat} (l:n ≤ 100) (h1:0 ≤ s) (h2:s < n):0 ≤ s/\s < 2 ^ 60:=ar_b2 l ⟨h1,h2⟩
theorem ar_cL {n:Nat} {L a c:Int} (h1:(n:Int) ≤ L) (h2:a ≤ L/\L ≤ c):n ≤ c.toNat:=Int.toNat_le_toNat (Int.le_trans h1 h2.2)
theorem um {a n:Nat} (h:a < n) (_:n ≤ 1000000000):a ≤ n:=Nat.le_of_lt h
theorem ul {p:Prop} {a n:Nat} (h:p/\a ≤ n) (_:n ≤ 1000000000):a ≤ n:=h.2
theorem uq {a b n:Nat} (h1:a < b) (h2:b ≤ n) (_:n ≤ 1000000000):a ≤ n:=Nat.le_trans (Nat.le_of_lt h1) h2
theorem uo {p:Prop} {a b n:Nat} (h1:a < b) (h2:p/\b ≤ n):a ≤ n:=Nat.le_trans (Nat.le_of_lt h1) h2.2
theorem no1 {α:Type _} {a:α} {P:Prop} (h:(none:Option α) = some a):P:=nomatch h
theorem no2 {α:Type _} {a:α} {P:Prop} (h:some a = (none:Option α)):P:=nomatch h
theorem no7 {P:Prop} (h:false = true):P:=nomatch h
theorem no8 {α:Type _} {a:α} {P:Prop} (h:a ∈ ([]:List α)):P:=nomatch h
theorem no9 {P:Prop} (h:true = false):P:=nomatch h
section
open Lean (Syntax)
def nd (k:Lean.Name) (as:Array Syntax):Syntax:=.node .none k as
def tk (n:String) (as:Array Syntax):Syntax:=.node .none (.str (.str (.str (.str .anonymous "Lean") "Parser") "Tactic") n) as
def tm (n:String) (as:Array Syntax):Syntax:=.node .none (.str (.str (.str (.str .anonymous "Lean") "Parser") "Term") n) as
def aa (s:String):Syntax:=.atom .none s
def nl (as:Array Syntax):Syntax:=.node .none (.str .anonymous "null") as
def sqL (ts:Array Syntax):Array Syntax:=ts.foldl (fun r t=>(if r.isEmpty then r else r.push (aa ";")).push t) #[]
def sq (ts:Array Syntax):Syntax:=tk "tacticSeq" #[tk "tacticSeq1Indented" #[nl (sqL ts)]]
def alt (ts:Array Syntax):Syntax:=nd (.str .anonymous "group") #[aa "|", sq ts]
def oc:Syntax:=tk "optConfig" #[nl #[]]
def onX (n:String) (t:Syntax):Syntax:=tk n #[aa n,t]
def byT (t:Syntax):Syntax:=tm "byTactic" #[aa "by", sq #[t]]
def wr (t:Syntax):Syntax:=tk "withReducible" #[aa "with_reducible", sq #[t]]
def rwT (x t:Syntax):Syntax:=tk "rewriteSeq" #[aa "rewrite", oc,tk "rwRuleSeq" #[aa "[", nl #[tk "rwRule" #[x,t]],aa "]"],nl #[]]
def wkX (s:String):Syntax:=nd (.str (.str (.str .anonymous "PyProof") "Rows") "tacticWalk_at_") #[aa "walk_at", nd (.str .anonymous "str") #[aa s]]
def hole:Syntax:=tm "syntheticHole" #[aa "?", aa "_"]
def tryT (t:Syntax):Syntax:=tk "tacticTry_" #[aa "try", sq #[t]]
def bldT (w:String) (p:Syntax) (st:Array Syntax):Option (Array Syntax) :=
 if w = "a" then some (st.push (byT (tk "assumption" #[aa "assumption"])))
 else if w = "d" then some (st.push (byT (tk "decide" #[aa "decide", oc])))
 else if w = "?" then some (st.push hole)
 else if w = "_" then some (st.push (tm "hole" #[aa "_"]))
 else if w = "$" then some (st.push p)
 else if w = "N" then some (st.pop.push (tm "nomatch" #[aa "nomatch", nl #[p]]))
 else if w = "T" then some #[tm "typeAscription" #[tm "hygienicLParen" #[aa "(", nd (.str .anonymous "hygieneInfo") #[Lean.mkIdent .anonymous]],hole,aa ":", nl #[p],aa ")"]]
 else match w.splitOn "/" with
  | [h,m] =>
   let m:=m.toNat?.getD 0
   let z:=st.size - m
   let as:=st.extract z st.size
   some (if h = "@" then (st.extract 0 (z - 1)).push (tm "app" #[st.getD (z - 1) .missing,nl as])
    else (st.extract 0 z).push (if m = 0 then Lean.mkIdent h.toName else tm "app" #[Lean.mkIdent h.toName,nl as]))
  | _=>none
def bldX (w:String) (p q t:Syntax):Syntax :=
 if w = "x" then onX "exact" t
 else if w = "y" then wr (onX "exact" t)
 else if w = "f" then onX "refine" t
 else if w = "q" then onX "refine'" t
 else if w = "p" then onX "apply" t
 else if w = "P" then wr (onX "apply" t)
 else if w = "Q" then tk "tactic_<;>_" #[wr (onX "apply" t),aa "<;>", wkX "\"b\""]
 else if w = "R" then rwT (nl #[]) p
 else if w = "S" then rwT (nl #[aa "←"]) p
 else if w = "R@" || w = "S@" then (rwT (nl (if w = "R@" then #[] else #[aa "←"])) p).setArg 3 (nl #[tk "location" #[aa "at", tk "locationHyp" #[nl #[q]]]])
 else if w = "V" then tk "replace" #[aa "replace", tm "letDecl" #[tm "letIdDecl" #[tm "letId" #[q],nl #[],nl #[],aa ":=", tm "subst" #[p,aa "▸", nl #[q]]]]]
 else if w = "A" then tk "assumption" #[aa "assumption"]
 else if w = "L" then tk "lia" #[aa "lia", oc]
 else if w = "O" then tk "omega" #[aa "omega", tk "optConfig" #[nl #[tk "configItem" #[tk "posConfigItem" #[aa "+", Lean.mkIdent (.str .anonymous "splitDisjunctions")]]]]]
 else wkX w
def bldS (p q:Syntax) (x:Array Syntax × Array Syntax × Array Syntax) (w:String):Array Syntax × Array Syntax × Array Syntax :=
 if w = "|" then (#[],#[],x.2.2.push (alt x.2.1))
 else match bldT w p x.1 with
  | some st=>(st,x.2.1,x.2.2)
  | none=>(x.1,x.2.1.push (bldX w p q (x.1.back?.getD .missing)),x.2.2)
def bld (s:String) (p q:Syntax):Syntax:=tk "first" #[aa "first", nl ((s.splitOn " ").foldl (bldS p q) (#[],#[],#[])).2.2]
def rwS (h:Option Syntax) (r:Syntax):Syntax :=
 match h with
 | some h=>bld (if r[0].getArgs.isEmpty then "V | R@ |" else "S@ |") r[1] h
 | none=>bld (if r[0].getArgs.isEmpty then "$ ? rwG/2 f | $ _ @/1 ? rwG/2 f | $ _ _ @/2 ? rwG/2 f | $ ? rwI/2 f | R |" else "$ ? rwB/2 f | $ _ @/1 ? rwB/2 f | $ _ _ @/2 ? rwB/2 f | S |") r[1] r
def rws (h:Option Syntax) (rs:List Syntax) (ts:Array Syntax):Syntax :=
 tk "paren" #[aa "(", sq ((rs.foldl (fun ts r=>if r.isAtom then ts else ts.push (rwS h r)) ts).push (tryT (wr (tk "tacticRfl" #[aa "rfl"])))),aa ")"]
def rip (p:Syntax):Syntax:=nd `Lean.Parser.Tactic.rintroPat.one #[p]
def tup (p:Array Syntax):Syntax:=nd `Lean.Parser.Tactic.rcasesPat.tuple #[aa "⟨", nl p,aa "⟩"]
def pats (ps:Array Syntax):Array Syntax :=
 ps.foldl (fun r p=>if p.isAtom then r else r.push (if p[1].getNumArgs = 0 && p[0][0].getNumArgs = 1 then rip p[0][0][0] else rip (tup #[p]))) #[]
def obtL (t:Syntax) (qs:Array Syntax) (e:Nat):Syntax :=
 let ts:=#[onX "refine" (tm "app" #[Lean.mkIdent (.str .anonymous ("oE" ++ toString e ++ "A" ++ toString (qs.size - e))),nl #[t,hole]])]
 let ts:=if t.isIdent then ts.push (tryT (onX "clear" (nl #[t]))) else ts
 alt (ts.push (tk "rintro" #[aa "rintro", nl qs,nl #[]]))
def obt (ps:Array Syntax) (t:Syntax):Syntax :=
 let qs:=pats ps
 let lo:=tk "rcasesPatLo" #[tk "rcasesPatMed" #[nl #[tup ps]],nl #[]]
 tk "first" #[aa "first", nl (((Array.range (qs.size - 1)).map (obtL t qs)).push (alt #[tk "rcases" #[aa "rcases", nl #[tk "elimTarget" #[nl #[],t]],nl #[aa "with", lo]]]))]
end
end Mine.Internal
end
local macro_rules
  | `(tactic| omega) => return Mine.Internal.bld "A | a Nat.le_of_lt/1 x | a Nat.ne_of_gt/1 x | a Nat.ne_of_lt/1 x | a d Nat.le_trans/2 x | a d Nat.lt_of_le_of_lt/2 x | a a Nat.lt_of_lt_of_le/2 x | a a Nat.lt_of_le_of_lt/2 x | a a Nat.le_trans/2 x | a ar_s1/1 y | a ar_s2/1 y | a ar_s3/1 y | a a ar_i/2 y | a a ar_i2/2 y | \"b0\" | L | O |" .missing .missing
  | `(tactic| show $t) => return Mine.Internal.bld "T f |" t .missing
  | `(tactic| exact nomatch $e:term) => return Mine.Internal.bld "$ no1/1 x | $ no2/1 x | $ no3/1 x | $ no4/1 x | $ no5/1 x | $ no6/1 x | $ no7/1 x | $ no8/1 x | $ no9/1 x | $ N f |" e .missing
  | `(tactic| rw [$rs,*]) => return Mine.Internal.rws none rs.elemsAndSeps.toList #[]
  | `(tactic| rw [$rs,*] at $h:ident) => return Mine.Internal.rws (some h) rs.elemsAndSeps.toList #[]
  | `(tactic| obtain ⟨$ps,*⟩ := $t:term) => do
    if ps.getElems.size < 2 then Lean.Macro.throwUnsupported
    return Mine.Internal.obt ps.elemsAndSeps t
section
set_option backward.match.sparseCases false
namespace Mine.Internal
open PySem (Str Expr Stmt Const Operator CmpOp BoolOp UnaryOp Scope NameKind Comprehension Arguments)
inductive AV where
 | none
 | bool (b:Bool)
 | int (i:Int)
 | str (s:Str)
 | tup (xs:List AV)
 | obj (i:Nat)
 | rng (n:Nat)
 | frz (xs:List Int)
inductive AO where
 | list (xs:List AV)
 | wset (ws:List (List Int))
 | sdict (es:List (Str × AV))
 | inst (c:Str) (at':List (Str × AV))
noncomputable abbrev ac:=List AO
inductive Out (α:Type) where
 | ok (a:α) (σ:ac)
 | exc
 | stuck
noncomputable def MM (α:Type):=ac->Out α
namespace MM
noncomputable def pure {α:Type} (a:α):MM α:=fun σ=>.ok a σ
noncomputable def bind {α β:Type} (m:MM α) (f:α->MM β):MM β:=fun σ =>
 match m σ with
 | .ok a σ'=>f a σ'
 | .exc=>.exc
 | .stuck=>.stuck
noncomputable def stuck {α:Type}:MM α:=fun z0=>.stuck
noncomputable def raise {α:Type}:MM α:=fun z0=>.exc
noncomputable def guard (p:Bool):MM Unit:=fun σ=>if p then .ok () σ else .stuck
noncomputable def opt {α:Type}:Option α->MM α
 | some a=>fun σ=>.ok a σ
 | Option.none=>fun z0=>.stuck
noncomputable def heap:MM ac:=fun σ=>.ok σ σ
end MM
noncomputable instance:Monad MM where
 pure:=MM.pure
 bind:=MM.bind
noncomputable def alloc (o:AO):MM AV:=fun σ=>.ok (.obj σ.length) (σ ++ [o])
noncomputable def setO (fz i:Nat) (o:AO):MM Unit:=fun σ=>if fz ≤ i/\i < σ.length then .ok () (σ.set i o) else .stuck
noncomputable def fits (n:Nat):Bool:=decide (n ≤ 1000000)
noncomputable def small (i:Int):Bool:=decide (i.natAbs.log2 < 8000000)
noncomputable def mapO {α β:Type} (f:α->Option β):List α->Option (List β)
 | []=>some []
 | x :: xs=>(f x).bind fun y=>(mapO f xs).map (y :: ·)
noncomputable def intV:AV->Option Int
 | .int i=>some i
 | _=>Option.none
noncomputable def strV:AV->Option Str
 | .str s=>some s
 | _=>Option.none
noncomputable def tupV:AV->Option (List AV)
 | .tup xs=>some xs
 | _=>Option.none
noncomputable def isTr:AV->Bool
 | .bool b=>b
 | _=>false
noncomputable def one {α:Type}:List α->Option α
 | a :: r=>cond r.isEmpty (some a) Option.none
 | []=>Option.none
noncomputable def two' {α:Type}:List α->Option (α × α)
 | a :: r=>(one r).map fun b=>(a,b)
 | []=>Option.none
noncomputable def strsOf (xs:List AV):Option (List Str):=mapO strV xs
noncomputable def intsOf (xs:List AV):Option (List Int):=mapO intV xs
noncomputable def wordOf (a:AV):Option (List Int):=(tupV a).bind intsOf
noncomputable def rowOf (a:AV):Option (List Str):=(tupV a).bind strsOf
noncomputable def wordsOf (xs:List AV):Option (List (List Int)):=mapO wordOf xs
noncomputable def rowsOf (xs:List AV):Option (List (List Str)):=mapO rowOf xs
noncomputable def wordV (w:List Int):AV:=.tup (w.map AV.int)
noncomputable def winsert (w:List Int) (ws:List (List Int)):List (List Int):=if w ∈ ws then ws else ws ++ [w]
set_option genCtorIdx false in
structure Ctx where
 sc:Scope
 loc:Str->Option AV
 cel:Str->Option AV
 fz:Nat
 tab:Bool:=false
noncomputable def Ctx.kind (c:Ctx) (x:Str):Option NameKind:=c.sc.names.lookup x
noncomputable def upd (m:Str->Option AV) (x:Str) (v:AV):Str->Option AV:=fun y=>if y = x then some v else m y
set_option genCtorIdx false in
inductive Fl where
 | next (c:Ctx)
 | ret (v:AV)
set_option genCtorIdx false in
structure Rc where
 E:Expr->Ctx->MM AV
 T:Expr->Ctx->MM Bool
 S:Stmt->Ctx->MM Fl
 F:Str->Nat->List AV->MM AV
 W:Nat
set_option genCtorIdx false in
structure jo where
 params:List Str
 defaults:List AV
 body:List Stmt
 scope:Scope
noncomputable def bindAll (sc:Scope) (fz:Nat):List (Str × AV)->Ctx->Ctx
 | [],c=>c
 | (x,v) :: r,c=>bindAll sc fz r (if sc.names.lookup x = some .cell then { c with cel:=upd c.cel x v } else { c with loc:=upd c.loc x v })
noncomputable def fnNames:List Str:=["last_terminal", "plain_grammar", "shortest_size", "rows_joined", "all_words", "words_up_to", "_law_tape", "_law_draw", "_law_set", "_law_rows_right", "_law_words", "_law_grammar_right"]
noncomputable def clsNames:List Str:=["Rule", "Grammar"]
noncomputable def grammarMs:List Str:=["symbol_count", "is_terminal", "number"]
noncomputable def fnAll:List Str:=fnNames ++ ((["Rule.__init__", "Grammar.__init__", "Grammar.symbol_count", "Grammar.is_terminal", "Grammar.number"]:List Str))
noncomputable def consts:List (Str × AV):=[("END", .int 0),("ERROR", .int 1),("OWN_TERMINALS", .tup [.str "$end", .str "error", .str "$undefined"]),("MOST_WORDS", .int 20000)]
noncomputable def ofConst:Const->Option AV
 | .none=>some .none
 | .bool b=>some (.bool b)
 | .int i=>some (.int i)
 | .str s=>some (.str s)
 | _=>Option.none
noncomputable def truth:AV->MM Bool
 | .none=>MM.pure false
 | .bool b=>MM.pure b
 | _=>MM.stuck
noncomputable def items:AV->MM (List AV)
 | .rng n=>MM.pure ((List.range n).map fun (k:Nat)=>AV.int (Int.ofNat k))
 | .tup xs=>MM.pure xs
 | .obj i=>fun σ=>match σ[i]? with
  | some (.list xs)=>.ok xs σ
  | some (.wset ws)=>.ok (ws.map wordV) σ
  | _=>.stuck
 | _=>MM.stuck
noncomputable def isL:AV->MM Bool
 | .obj i=>fun σ=>match σ[i]? with
  | some (.list _)=>.ok true σ
  | _=>.ok false σ
 | _=>MM.pure false
noncomputable def walk {α β:Type} (src:AV) (b:Bool) (n:Nat) (turn:AV->α->MM (α ⊕ β)):Nat->α->MM (α ⊕ β)
 | 0,a=>do
  let xs <- items src
  let b' <- isL src
  MM.guard (decide (xs.length = n) && (b == b'))
  MM.pure (.inl a)
 | j + 1,a=>do
  let xs <- items src
  let b' <- isL src
  MM.guard (decide (xs.length = n) && (b == b'))
  let v <- MM.opt xs[n - (j + 1)]?
  match <- turn v a with
  | .inl a'=>walk src b n turn j a'
  | .inr x=>MM.pure (.inr x)
noncomputable def walkAll {α β:Type} (src:AV) (turn:AV->α->MM (α ⊕ β)) (a:α):MM (α ⊕ β):=do
 let xs <- items src
 let b <- isL src
 MM.guard (fits xs.length)
 walk src b xs.length turn xs.length a
noncomputable def setName (x:Str) (v:AV) (c:Ctx):MM Ctx :=
 match c.kind x with
 | some .local=>MM.pure { c with loc:=upd c.loc x v }
 | some .cell=>MM.pure { c with cel:=upd c.cel x v }
 | _=>MM.stuck
noncomputable def getName (x:Str) (c:Ctx):MM AV :=
 if x = "__debug__" \/ x = "__classdict__" then MM.stuck else
 match c.kind x with
 | some .local=>MM.opt (c.loc x)
 | some .cell=>MM.opt (c.cel x)
 | some .free=>MM.opt (c.cel x)
 | some .globalImplicit=>MM.opt (consts.lookup x)
 | _=>MM.stuck
noncomputable def isGlobal (x:Str) (c:Ctx):Bool:=match c.kind x with | some .globalImplicit=>true | _=>false
noncomputable def two {α β:Type} (xs:List α) (f:α->α->MM β):MM β:=match xs with
 | []=>MM.stuck
 | a :: r=>match r with
  | []=>MM.stuck
  | b :: r=>match r with
   | []=>f a b
   | _ :: _=>MM.stuck
noncomputable def onName {α:Type} (e:Expr) (f:Str->MM α):MM α:=match e with
 | .Name x _=>f x
 | _=>MM.stuck
noncomputable def onTup {α:Type} (a:AV) (f:List AV->MM α):MM α:=match a with
 | .tup x=>f x
 | _=>MM.stuck
noncomputable def bindTo (t:Expr) (v:AV) (c:Ctx):MM Ctx:=match t with
 | .Name x _=>setName x v c
 | .Tuple es _ _=>two es fun e1 e2=>onName e1 fun x=>onName e2 fun y=>onTup v fun vs=>two vs fun a b=>do
  let c <- setName x a c
  setName y b c
 | _=>MM.stuck
noncomputable def asInt:AV->MM Int
 | .int i=>MM.pure i
 | _=>MM.stuck
noncomputable def getList:AV->MM (List AV)
 | .obj i=>fun σ=>match σ[i]? with | some (.list xs)=>.ok xs σ | _=>.stuck
 | _=>MM.stuck
noncomputable def mkI (i:Int):MM AV:=do MM.guard (small i); MM.pure (.int i)
noncomputable def mkL (xs:List AV):MM AV:=do MM.guard (fits xs.length); alloc (.list xs)
noncomputable def mkT (xs:List AV):MM AV:=do MM.guard (fits xs.length); MM.pure (.tup xs)
noncomputable def onInt {α:Type} (a:AV) (f:Int->MM α):MM α:=match a with
 | .int x=>f x
 | _=>MM.stuck
noncomputable def onStr {α:Type} (a:AV) (f:Str->MM α):MM α:=match a with
 | .str x=>f x
 | _=>MM.stuck
noncomputable def on1 {α:Type} (xs:List AV) (f:AV->MM α):MM α:=match xs with
 | []=>MM.stuck
 | a :: r=>match r with
  | []=>f a
  | _ :: _=>MM.stuck
noncomputable def binop (op:Operator) (a b:AV):MM AV :=
 match op with
 | .Add=>match a with
  | .int x=>onInt b fun y=>mkI (x + y)
  | .tup xs=>onTup b fun ys=>mkT (xs ++ ys)
  | .obj i=>do
   let xs <- getList (.obj i)
   let ys <- getList b
   mkL (xs ++ ys)
  | _=>MM.stuck
 | .Sub=>onInt a fun x=>onInt b fun y=>mkI (x - y)
 | .Mult=>match a with
  | .int x=>onInt b fun y=>do MM.guard (decide (y.natAbs < 2 ^ 60) || decide (x.natAbs < 2 ^ 60)); mkI (x * y)
  | .obj i=>onInt b fun n=>do
   let xs <- getList (.obj i)
   match xs with
   | [x]=>do MM.guard (decide (0 ≤ n/\n ≤ 100)); mkL (List.replicate n.toNat x)
   | _=>MM.stuck
  | _=>MM.stuck
 | .Mod=>onInt a fun x=>onInt b fun y=>do MM.guard (decide (0 < y)); mkI (x % y)
 | .FloorDiv=>onInt a fun x=>onInt b fun y=>do MM.guard (decide (0 < y/\y < 2 ^ 30)); mkI (x / y)
 | .Pow=>onInt a fun x=>onInt b fun y=>do MM.guard (decide (y = 3) && decide (x.natAbs < 2 ^ 60)); mkI (x ^ 3)
 | _=>MM.stuck
noncomputable def listAt (σ:ac):AV->Option (List AV)
 | .obj i=>match σ[i]? with
  | some (.list xs)=>some xs
  | _=>Option.none
 | _=>Option.none
noncomputable def wordssOf (σ:ac) (xs:List AV):Option (List (List (List Int))):=mapO (fun a=>(listAt σ a).bind wordsOf) xs
noncomputable def eqL (σ:ac) (xs ys:List AV):Option Bool :=
 if xs.length ≠ ys.length then some false
 else match wordsOf xs,wordsOf ys with
   | some a,some b=>some (decide (a = b))
   | _,_=>match wordssOf σ xs,wordssOf σ ys with
    | some a,some b=>some (decide (a = b))
    | _,_=>Option.none
noncomputable def eqV (σ:ac) (a b:AV):Option Bool :=
 match a with
 | .none=>match b with
  | .none=>some true
  | _=>Option.none
 | .int x=>match b with
  | .int y=>some (x == y)
  | _=>Option.none
 | .str x=>match b with
  | .str y=>some (x == y)
  | _=>Option.none
 | .obj i=>match b with
  | .obj j=>match σ[i]? with
   | some o=>match σ[j]? with
    | some o'=>match o with
     | .list xs=>match o' with
      | .list ys=>eqL σ xs ys
      | _=>Option.none
     | .wset ws=>match o' with
      | .wset vs=>some (decide (ws.length = vs.length) && ws.all fun w=>decide (w ∈ vs))
      | _=>Option.none
     | _=>Option.none
    | _=>Option.none
   | _=>Option.none
  | _=>Option.none
 | _=>Option.none
noncomputable def notNone:AV->Bool
 | .none=>false
 | _=>true
noncomputable def noneIs:AV->Option Bool
 | .none=>some true
 | .obj _=>some false
 | .str _=>some false
 | _=>Option.none
noncomputable def cmpV (op:CmpOp) (a b:AV):MM Bool :=
 match op with
 | .Eq=>do let σ <- MM.heap; MM.opt (eqV σ a b)
 | .NotEq=>do MM.guard (notNone a && notNone b); let σ <- MM.heap; let r <- MM.opt (eqV σ a b); MM.pure (!r)
 | .Lt=>onInt a fun x=>onInt b fun y=>MM.pure (decide (x < y))
 | .LtE=>onInt a fun x=>onInt b fun y=>MM.pure (decide (x ≤ y))
 | .Gt=>onInt a fun x=>onInt b fun y=>MM.pure (decide (x > y))
 | .GtE=>onInt a fun x=>onInt b fun y=>MM.pure (decide (x ≥ y))
 | .Is=>do MM.guard (!notNone b); MM.opt (noneIs a)
 | .IsNot=>do MM.guard (!notNone b); let r <- MM.opt (noneIs a); MM.pure (!r)
 | .In=>isIn a b
 | .NotIn=>do let r <- isIn a b; MM.pure (!r)
where
 isIn (a b:AV):MM Bool :=
  match b with
  | .tup xs=>match a with
   | .str x=>do let ys <- MM.opt (strsOf xs); MM.pure (ys.contains x)
   | _=>MM.stuck
  | .obj i=>fun σ=>match σ[i]? with
   | some (.list xs)=>match a with
    | .str x=>match strsOf xs with | some ys=>.ok (ys.contains x) σ | _=>.stuck
    | .tup bs=>match strsOf bs,rowsOf xs with | some r,some rs=>.ok (rs.contains r) σ | _,_=>.stuck
    | _=>.stuck
   | some (.wset ws)=>match wordOf a with | some w=>.ok (ws.contains w) σ | _=>.stuck
   | _=>.stuck
  | _=>MM.stuck
noncomputable def subscr (a k:AV):MM AV:=do
 match a with
 | .obj i=>fun σ=>match σ[i]? with
  | some (.list xs)=>match k with
   | .int j=>if 0 ≤ j/\j < 2 ^ 60 then (match xs[j.toNat]? with | some v=>.ok v σ | _=>.stuck) else .stuck
   | _=>.stuck
  | some (.sdict es)=>match k with
   | .str x=>(match es.lookup x with | some v=>.ok v σ | _=>.stuck)
   | _=>.stuck
  | _=>.stuck
 | _=>MM.stuck
noncomputable def sliceTo (a:AV) (n:Int):MM AV:=do
 MM.guard (decide (0 ≤ n))
 match a with
 | .frz xs=>do MM.guard (fits xs.length); mkL ((xs.take n.toNat).map AV.int)
 | .obj _=>do let xs <- getList a; MM.guard (fits xs.length); mkL (xs.take n.toNat)
 | .str s=>do MM.guard (fits s.length); MM.pure (.str ⟨(s.cps.toList.take n.toNat).toArray⟩)
 | _=>MM.stuck
noncomputable def setSub (fz:Nat) (a k v:AV):MM Unit :=
 match a with
 | .obj i=>fun σ=>match σ[i]? with
  | some (.list xs)=>match k with
   | .int j=>if 0 ≤ j/\j < 2 ^ 60/\j.toNat < xs.length then setO fz i (.list (xs.set j.toNat v)) σ else .stuck
   | _=>.stuck
  | some (.wset ws)=>match wordOf k,v with
   | some w,.bool true=>if fits ws.length then setO fz i (.wset (winsert w ws)) σ else .stuck
   | _,_=>.stuck
  | _=>.stuck
 | _=>MM.stuck
noncomputable def setW (fz:Nat) (a k v:AV):MM Unit :=
 match a with
 | .obj i=>fun σ=>match σ[i]? with
  | some (.wset _)=>setSub fz (.obj i) k v σ
  | _=>.stuck
 | _=>MM.stuck
noncomputable def attrsOf (c:Str):List Str :=
 if c = "Rule" then ["number", "left", "right", "level_of", "action", "line", "before"]
 else if c = "Grammar" then ["names", "terminal_count", "rules", "levels", "expect", "start", "by_left", "offsets", "owners", "item_count"]
 else []
noncomputable def getAt (a:AV) (x:Str):MM AV :=
 match a with
 | .obj i=>fun σ=>match σ[i]? with
  | some (.inst c at')=>if (attrsOf c).contains x then (match at'.lookup x with | some v=>.ok v σ | _=>.stuck) else .stuck
  | _=>.stuck
 | _=>MM.stuck
noncomputable def aset (x:Str) (v:AV):List (Str × AV)->List (Str × AV)
 | []=>[(x,v)]
 | (y,u) :: r=>if y = x then (y,v) :: r else (y,u) :: aset x v r
noncomputable def setAt (fz:Nat) (a:AV) (x:Str) (v:AV):MM Unit :=
 match a with
 | .obj i=>fun σ=>match σ[i]? with
  | some (.inst c at')=>if (attrsOf c).contains x && decide (at'.length < 100) then setO fz i (.inst c (aset x v at')) σ else .stuck
  | _=>.stuck
 | _=>MM.stuck
noncomputable def intsLe:List Int->List Int->Bool
 | [],_=>true
 | _ :: _,[]=>false
 | a :: xs,b :: ys=>if a = b then intsLe xs ys else decide (a < b)
noncomputable def insW (w:List Int):List (List Int)->List (List Int)
 | []=>[w]
 | x :: xs=>if intsLe w x then w :: x :: xs else x :: insW w xs
noncomputable def sortW:List (List Int)->List (List Int)
 | []=>[]
 | x :: xs=>insW x (sortW xs)
noncomputable def wordPair (a:AV):Option (List Int):=(tupV a).bind fun xs=>(two' xs).bind fun p=>cond (isTr p.2) (wordOf p.1) Option.none
noncomputable def strPair (a:AV):Option (Str × AV):=(tupV a).bind fun xs=>(two' xs).bind fun p=>(strV p.1).map fun x=>(x,p.2)
noncomputable def wordPairs (xs:List AV):Option (List (List Int)):=mapO wordPair xs
noncomputable def strPairs (xs:List AV):Option (List (Str × AV)):=mapO strPair xs
noncomputable def sset (x:Str) (v:AV):List (Str × AV)->List (Str × AV)
 | []=>[(x,v)]
 | (y,u) :: r=>if y = x then (y,v) :: r else (y,u) :: sset x v r
noncomputable def lenV:AV->MM Nat
 | .tup xs=>MM.pure xs.length
 | .obj i=>fun σ=>match σ[i]? with
  | some (.list xs)=>.ok xs.length σ
  | some (.wset ws)=>.ok ws.length σ
  | _=>.stuck
 | _=>MM.stuck
noncomputable def notRng:AV->Bool
 | .rng _=>false
 | _=>true
noncomputable def notTup:AV->Bool
 | .tup _=>false
 | _=>true
noncomputable def bltNames:List Str:=["len", "range", "min", "sum", "sorted", "tuple", "list", "dict", "abs", "int", "max"]
noncomputable def builtin (f:Str) (args:List AV):MM AV :=
 if f = "len" then on1 args fun a=>do let n <- lenV a; MM.guard (fits n); MM.pure (.int n)
 else if f = "range" then on1 args fun a=>onInt a fun n=>do MM.guard (decide (0 ≤ n/\n ≤ 1000)); MM.pure (.rng n.toNat)
 else if f = "min" then on1 args fun a=>do
   let xs <- getList a
   match intsOf xs with
   | some (i :: is)=>MM.pure (.int (is.foldl min i))
   | _=>MM.stuck
 else if f = "max" then match args with
  | []=>MM.stuck
  | x :: r=>onInt x fun a=>on1 r fun y=>onInt y fun b=>MM.pure (.int (max a b))
 else if f = "sum" then on1 args fun a=>do
   let xs <- getList a
   let is <- MM.opt (intsOf xs)
   MM.guard (is.all fun i=>decide (0 ≤ i/\i ≤ 1000000))
   MM.guard (fits is.length)
   mkI is.sum
 else if f = "abs" then on1 args fun x=>onInt x fun a=>mkI a.natAbs
 else if f = "int" then on1 args fun x=>onInt x fun a=>MM.pure (.int a)
 else if f = "tuple" then on1 args fun a=>do let xs <- getList a; mkT xs
 else if f = "list" then on1 args fun a=>do MM.guard (notRng a); let xs <- items a; mkL xs
 else if f = "dict" then on1 args fun a=>do
   let xs <- getList a
   MM.guard (fits xs.length)
   match wordPairs xs with
   | some ws=>alloc (.wset (ws.foldl (fun d w=>winsert w d) []))
   | Option.none=>do
    let es <- MM.opt (strPairs xs)
    alloc (.sdict (es.foldl (fun d e=>sset e.1 e.2 d) []))
 else if f = "sorted" then on1 args fun a=>do
   MM.guard (notRng a && notTup a)
   let xs <- items a
   MM.guard (decide (xs.length < 64))
   let ws <- MM.opt (wordsOf xs)
   MM.guard (decide ws.Nodup)
   mkL ((sortW ws).map wordV)
 else MM.stuck
noncomputable def notStar:Expr->Bool
 | .Starred _ _=>false
 | _=>true
noncomputable def notSD:Expr->Bool
 | .SetComp _ _ _ _=>false
 | .DictComp _ _ _ _ _=>false
 | _=>true
noncomputable def notSet:Expr->Bool
 | .Set _ _ _=>false
 | _=>true
noncomputable def evL (r:Rc):List Expr->Ctx->MM (List AV)
 | [],_=>MM.pure []
 | e :: es,c=>do
  MM.guard (notStar e)
  let v <- r.E e c
  let vs <- evL r es c
  MM.pure (v :: vs)
noncomputable def evAnd (r:Rc):List Expr->Ctx->MM AV
 | [],_=>MM.stuck
 | [e],c=>r.E e c
 | e :: es,c=>do
  let v <- r.E e c
  let t <- truth v
  if t then evAnd r es c else MM.pure v
noncomputable def allT (r:Rc):List Expr->Ctx->MM Bool
 | [],_=>MM.pure true
 | e :: es,c=>do
  let t <- r.T e c
  if t then allT r es c else MM.pure false
noncomputable def anyT (r:Rc):List Expr->Ctx->MM Bool
 | [],_=>MM.pure false
 | e :: es,c=>do
  let t <- r.T e c
  if t then MM.pure true else anyT r es c
noncomputable def clause (r:Rc) (elt:Expr):List Comprehension->AV->Ctx->List AV->MM (Ctx × List AV)
 | [],_,_,_=>MM.stuck
 | g :: gs,src,c,acc=>do
  let out <- walkAll (β:=Empty) src (fun v (a:Ctx × List AV)=>do
   let c' <- bindTo g.target v a.1
   if <- allT r g.ifs c' then
    match gs with
    | []=>do
     let x <- r.E elt c'
     MM.guard (fits a.2.length)
     MM.pure (.inl (c',a.2 ++ [x]))
    | g' :: _=>do
     let src' <- r.E g'.iter c'
     let a' <- clause r elt gs src' c' a.2
     MM.pure (.inl a')
   else MM.pure (.inl (c',a.2))) (c,acc)
  match out with
  | .inl a=>MM.pure a
  | .inr x=>nomatch x
noncomputable def inner (sc:Scope) (c:Ctx):Ctx:={ sc:=sc,loc:=fun z0=>Option.none,cel:=c.cel,fz:=c.fz }
noncomputable def compOk (sc:Scope) (c:Ctx):Bool :=
 sc.kind == .function && sc.names.all fun p=>p.2 != .cell && (p.2 != .local || sc.names.lookup p.1 == some .local) && (p.2 != .free || (c.kind p.1 == some .cell || c.kind p.1 == some .free))
noncomputable def noExc {α:Type} (m:MM α):MM α:=fun σ=>match m σ with | .exc=>.stuck | o=>o
noncomputable def noParams (a:Arguments):Bool:=a.posonlyargs.isEmpty && a.args.isEmpty && a.vararg.isNone && a.kwonlyargs.isEmpty && a.kw_defaults.isEmpty && a.kwarg.isNone && a.defaults.isEmpty
noncomputable def vLam (e:Expr):Option (Arguments × Expr × Scope):=match e with
 | .Lambda a b sc _=>some (a,b,sc)
 | _=>Option.none
noncomputable def told (r:Rc) (c:Ctx) (a:Arguments) (body:Expr) (sc:Scope):MM AV:=fun σ =>
 if !(decide (σ.length ≠ 0/\c.fz = 0) && c.tab && noParams a && compOk sc c && !sc.isCoroutine && !sc.isGenerator) then .stuck else
 match r.E body { sc:=sc,loc:=fun z0=>Option.none,cel:=c.cel,fz:=σ.length } σ with
 | .exc=>.ok .none σ
 | o=>o
noncomputable def told1 (r:Rc) (c:Ctx):Option (Arguments × Expr × Scope)->MM AV
 | some q=>told r c q.1 q.2.1 q.2.2
 | Option.none=>MM.stuck
noncomputable def tolds (r:Rc) (c:Ctx):List Expr->MM AV
 | [e]=>told1 r c (vLam e)
 | _=>MM.stuck
noncomputable def callFn (r:Rc) (f:Str) (c:Ctx) (args:List AV):MM AV :=
 if f = "need_few" then match args with
  | [.int n,.int m]=>if n > m then MM.raise else MM.pure .none
  | _=>MM.stuck
 else if fnNames.contains f then r.F f c.fz args
 else if clsNames.contains f then do
  let o <- alloc (.inst f [])
  let x <- r.F (f ++ ".__init__") c.fz (o :: args)
  match x with
  | .none=>MM.pure o
  | _=>MM.stuck
 else builtin f args
noncomputable def tagOf (v:AV) (m:Str):MM Bool :=
 match v with
 | .obj i=>fun σ=>match σ[i]? with
  | some (.list _)=>if m = "append" \/ m = "extend" \/ m = "index" then .ok true σ else .stuck
  | some (.inst cl at')=>if cl = "Grammar" /\ grammarMs.contains m = true/\(at'.lookup m).isNone = true then .ok false σ else .stuck
  | _=>.stuck
 | _=>MM.stuck
noncomputable def listM (fz:Nat) (o:AV) (m:Str) (args:List AV):MM AV :=
 match o with
 | .obj i=>fun σ=>match σ[i]? with
  | some (.list xs)=>(
   if m = "append" then on1 args fun v=>do MM.guard (fits xs.length); setO fz i (.list (xs ++ [v])); MM.pure .none
   else if m = "extend" then on1 args fun v=>do let ys <- getList v; MM.guard (fits (xs.length + ys.length)); setO fz i (.list (xs ++ ys)); MM.pure .none
   else if m = "index" then on1 args fun b=>onStr b fun x=>do let ys <- MM.opt (strsOf xs); MM.guard (ys.contains x && fits ys.length); MM.pure (.int (ys.idxOf x))
   else MM.stuck:MM AV) σ
  | _=>.stuck
 | _=>MM.stuck
noncomputable def method (r:Rc) (o:AV) (t:Bool) (m:Str) (c:Ctx) (args:List AV):MM AV :=
 if t then listM c.fz o m args else r.F ("Grammar." ++ m) c.fz (o :: args)
noncomputable def known (f:Str):Bool:=decide (f = "need_few") || fnNames.contains f || clsNames.contains f || bltNames.contains f
noncomputable def plainBase:Expr->Bool
 | .Call _ _ _ _=>false
 | _=>true
noncomputable def evE (r:Rc) (e:Expr) (c:Ctx):MM AV :=
 match e with
 | .Constant k _ _=>MM.opt (ofConst k)
 | .Name x _=>getName x c
 | .BinOp a op b _=>do
  let x <- r.E a c
  let y <- r.E b c
  binop op x y
 | .UnaryOp .USub (.Constant (.int i) _ _) _=>mkI (-i)
 | .BoolOp .And es _=>evAnd r es c
 | .IfExp t a b _=>do
  let v <- r.T t c
  if v then r.E a c else r.E b c
 | .Compare a [op] [b] _=>do
  MM.guard (!PySem.behindInMarks op b)
  let x <- r.E a c
  let y <- r.E b c
  let t <- cmpV op x y
  MM.pure (.bool t)
 | .List es _=>do let vs <- evL r es c; mkL vs
 | .Tuple es _ _=>do let vs <- evL r es c; mkT vs
 | .Dict [] [] _=>alloc (.wset [])
 | .Dict [some k] [v] _=>do
  let d <- alloc (.wset [])
  let x <- r.E k c
  let y <- r.E v c
  setW c.fz d x y
  MM.pure d
 | .ListComp elt gens sc _=>match gens with
  | g :: _=>do
   MM.guard ((gens.all fun g=>notSet g.iter && g.is_async == 0) && compOk sc c)
   let src <- r.E g.iter c
   let xs <- noExc (clause r elt gens src (inner sc c) [])
   mkL xs.2
  | []=>MM.stuck
 | .Subscript a (.Slice Option.none (some b) Option.none _) _=>do
  let x <- r.E a c
  let y <- r.E b c
  let n <- asInt y
  sliceTo x n
 | .Subscript _ (.Slice _ _ _ _) _=>MM.stuck
 | .Subscript a k _=>do
  let x <- r.E a c
  let y <- r.E k c
  subscr x y
 | .Attribute o x _=>do
  MM.guard (plainBase o)
  let v <- r.E o c
  getAt v x
 | .Call (.Attribute o m apos) args [] pos=>do
  MM.guard (plainBase o && args.all notStar && decide (args.length < 30) && apos.endLine == pos.line)
  let v <- r.E o c
  let t <- tagOf v m
  let vs <- evL r args c
  method r v t m c vs
 | .Call (.Name f _) args [] _ =>
  if isGlobal f c then
   (if f = "_law_told" then tolds r c args
   else do
    MM.guard (args.all notStar && known f)
    let vs <- evL r args c
    callFn r f c vs)
  else MM.stuck
 | _=>MM.stuck
noncomputable def evT (r:Rc) (e:Expr) (c:Ctx):MM Bool :=
 match e with
 | .UnaryOp .Not a _=>do let b <- r.T a c; MM.pure !b
 | .BoolOp .And es _=>allT r es c
 | .BoolOp .Or es _=>anyT r es c
 | .IfExp _ _ _ _=>MM.stuck
 | .Compare a [op] [b] _=>do
  MM.guard (!PySem.behindInMarks op b)
  let x <- r.E a c
  let y <- r.E b c
  cmpV op x y
 | .Compare _ _ _ _=>MM.stuck
 | e=>do let v <- r.E e c; truth v
noncomputable def evSs (r:Rc):List Stmt->Ctx->MM Fl
 | [],c=>MM.pure (.next c)
 | s :: ss,c=>do
  match <- r.S s c with
  | .next c'=>evSs r ss c'
  | .ret v=>MM.pure (.ret v)
noncomputable def whileL (r:Rc) (test:Expr) (body:List Stmt):Nat->Ctx->MM Fl
 | 0,_=>MM.stuck
 | n + 1,c=>do
  if <- r.T test c then
   match <- evSs r body c with
   | .next c'=>whileL r test body n c'
   | .ret v=>MM.pure (.ret v)
  else MM.pure (.next c)
noncomputable def evS (r:Rc) (s:Stmt) (c:Ctx):MM Fl :=
 match s with
 | .Expr (.Call f as ks p) _=>do let _ <- r.E (.Call f as ks p) c; MM.pure (.next c)
 | .Return (some e) _=>do let v <- r.E e c; MM.pure (.ret v)
 | .Assign [.Name x _] e _=>do MM.guard (notSD e); let v <- r.E e c; let c' <- setName x v c; MM.pure (.next c')
 | .Assign [.Tuple [.Name x _,.Name y _] _ _] (.Tuple [a,b] _ _) _=>do
  MM.guard (decide (x ≠ y) && notStar a && notStar b && (!([a,b].all (PySem.constantsAlone 8)) || [a,b].all (PySem.foldedForSure 8)))
  let v <- r.E a c
  let w <- r.E b c
  let c' <- setName x v c
  let c'' <- setName y w c'
  MM.pure (.next c'')
 | .Assign [.Subscript a k _] e _=>do
  let v <- r.E e c
  let x <- r.E a c
  let y <- r.E k c
  setSub c.fz x y v
  MM.pure (.next c)
 | .Assign [.Attribute o x _] e _=>do
  let v <- r.E e c
  let y <- r.E o c
  setAt c.fz y x v
  MM.pure (.next c)
 | .If t a b _=>do
  let v <- r.T t c
  if v then evSs r a c else evSs r b c
 | .While t b [] _=>whileL r t b r.W c
 | .For t it b [] _=>do
  MM.guard (notSet it)
  let src <- r.E it c
  let out <- walkAll src (fun v (c:Ctx)=>do
   let c' <- bindTo t v c
   match <- evSs r b c' with
   | .next c''=>MM.pure (.inl c'')
   | .ret v=>MM.pure (.inr v)) c
  match out with
  | .inl c'=>MM.pure (.next c')
  | .inr v=>MM.pure (.ret v)
 | _=>MM.stuck
noncomputable def defsIn:List Stmt->Str->Option jo
 | [],_=>Option.none
 | .FunctionDef n a b _ _ _ sc _ _ _ :: r,x=>if n = x then some ⟨a.args.map (·.arg),[],b,sc⟩ else defsIn r x
 | _ :: r,x=>defsIn r x
noncomputable def classIn:List Stmt->Str->List Stmt
 | [],_=>[]
 | .ClassDef n _ _ b _ _ _ _ _ _ _ :: r,x=>if n = x then b else classIn r x
 | _ :: r,x=>classIn r x
noncomputable def progBody:List Stmt:=PySem.Challenge.pw_qd0058_01.main.body
noncomputable def dflts (x:Str):List AV :=
 if x = "rows_joined" \/ x = "all_words" \/ x = "words_up_to" then [.int 20000]
 else if x = "plain_grammar" then [.none]
 else if x = "Rule.__init__" then [.int (-1),.none,.int 0,.int 0]
 else []
noncomputable def fnTab (x:Str):Option jo :=
 let d:=if x = "Rule.__init__" then defsIn (classIn progBody "Rule") "__init__"
  else if x = "Grammar.__init__" then defsIn (classIn progBody "Grammar") "__init__"
  else if x = "Grammar.symbol_count" then defsIn (classIn progBody "Grammar") "symbol_count"
  else if x = "Grammar.is_terminal" then defsIn (classIn progBody "Grammar") "is_terminal"
  else if x = "Grammar.number" then defsIn (classIn progBody "Grammar") "number"
  else defsIn progBody x
 d.map fun d=>{ d with defaults:=dflts x }
noncomputable def withDefaults (d:jo) (args:List AV):Option (List AV) :=
 if args.length ≤ d.params.length then
  (let need:=d.params.length - args.length
   if need ≤ d.defaults.length then some (args ++ d.defaults.drop (d.defaults.length - need)) else Option.none)
 else Option.none
noncomputable def tabFn (f:Str):Bool:=decide (f = "_law_rows_right") || decide (f = "_law_grammar_right")
noncomputable def callDef (r:Rc) (f:Str) (fz:Nat) (args:List AV):MM AV :=
 match fnTab f with
 | some d =>
  match withDefaults d args with
  | some vs=>do
   match <- evSs r d.body (bindAll d.scope fz (d.params.zip vs) { sc:=d.scope,loc:=fun z0=>Option.none,cel:=fun z0=>Option.none,fz:=fz,tab:=tabFn f }) with
   | .ret v=>MM.pure v
   | .next _=>MM.pure .none
  | Option.none=>MM.stuck
 | Option.none=>MM.stuck
noncomputable def mach (W:Nat):Nat->Rc
 | 0=>{ E:=fun z0 z0=>MM.stuck,T:=fun z0 z0=>MM.stuck,S:=fun z0 z0=>MM.stuck,F:=fun z0 z0 z0=>MM.stuck,W:=W }
 | n + 1=>{ E:=evE (mach W n),T:=evT (mach W n),S:=evS (mach W n),F:=callDef (mach W n),W:=W }
theorem no3 {α:Type} {a:α} {σ:ac} {P:Prop} (h:Out.stuck = Out.ok a σ):P:=nomatch h
theorem no4 {α:Type} {a:α} {σ:ac} {P:Prop} (h:Out.ok a σ = Out.exc):P:=nomatch h
theorem no5 {α:Type} {P:Prop} (h:(Out.stuck:Out α) = Out.exc):P:=nomatch h
theorem no6 {α:Type} {a:α} {σ:ac} {P:Prop} (h:Out.exc = Out.ok a σ):P:=nomatch h
theorem cz {α:Type} {l:List α} {a:α} (h:one l = some a):l = [a]:=by
 induction l using List.casesOn with
 | nil=>exact nomatch h
 | cons b r=>induction r using List.casesOn with
  | nil=>injection h with h; rw [h]
  | cons _ _=>exact nomatch h
theorem dG {α:Type} {l:List α} {p:α × α} (h:two' l = some p):l = [p.1,p.2]:=by
 induction l using List.casesOn with
 | nil=>exact nomatch h
 | cons b r =>
  change (one r).map (fun c=>(b,c)) = some p at h
  induction hr:one r using Option.casesOn with
  | none=>rw [hr] at h; exact nomatch h
  | some c=>rw [hr] at h; injection h with h; rw [cz hr,<- h]
theorem iX {x:AV} {i:Int} (h:intV x = some i):x = .int i:=by
 induction x using AV.casesOn with
 | int j=>injection h with h; rw [h]
 | _=>exact nomatch h
theorem ml {x:AV} {i:Str} (h:strV x = some i):x = .str i:=by
 induction x using AV.casesOn with
 | str j=>injection h with h; rw [h]
 | _=>exact nomatch h
theorem dZ {x:AV} {i:List AV} (h:tupV x = some i):x = .tup i:=by
 induction x using AV.casesOn with
 | tup j=>injection h with h; rw [h]
 | _=>exact nomatch h
theorem rn {x:AV} (h:isTr x = true):x = .bool true:=by
 induction x using AV.casesOn with
 | bool j=>rw [show j = true from h]
 | _=>exact nomatch h
theorem pN {e:Expr} {q:Arguments × Expr × Scope} (h:vLam e = some q):∃ p,e = .Lambda q.1 q.2.1 q.2.2 p:=by
 induction e using Expr.casesOn with
 | Lambda a b sc p=>injection h with h; exact ⟨p,by rw [<- h]⟩
 | _=>exact nomatch h
end Mine.Internal
end
section
namespace Mine.Internal
open PySem PySem.Calls PyProof.Rows PySem.W
noncomputable abbrev Mu:=List (Addr × Addr)
set_option genCtorIdx false in
structure Cf where
 w:World
 prog:Program
 ghost:Heap
 base:Heap
 fz:Nat
 fs:List Env
 tb:List Addr
 cls:Str->Addr
 K:Frag
 os:OsState
 mg:Str->Option Value
 mb:Str->Option Value
 h0:Heap
 h0fl:List Addr
 fn:Str->Addr
 tq:Addr->Str
noncomputable def Cf.fl (C:Cf):List Addr:=C.fs.filterMap (·.frame)
noncomputable def Dm (C:Cf) (μ:Mu) (b:Addr):Prop:=(C.fz = 0/\b ∈ C.tb)\/∃ i p,C.fz ≤ i/\μ[i]? = some p/\(b = p.1\/b = p.2)
noncomputable abbrev tupObj (vs:List Value) (n:Nat):Obj:={ cls:=.type "tuple", data:=.seq vs.toArray n }
mutual
inductive VR (g:Heap) (μ:Mu) (h:Heap):Value->AV->Prop
 | none:VR g μ h .none .none
 | bool (b:Bool):VR g μ h (.bool b) (.bool b)
 | int (i:Int) (t:Tok):VR g μ h (.int i t) (.int i)
 | str (x:Str) (t:Tok):VR g μ h (.str x t) (.str x)
 | tup {a:Addr} {vs:List Value} {n:Nat} {xs:List AV}:h.get? a = some (tupObj vs n)->VRs g μ h vs xs->VR g μ h (.ref a) (.tup xs)
 | obj {i:Nat} {p:Addr × Addr}:μ[i]? = some p->VR g μ h (.ref p.1) (.obj i)
 | rng {r:Addr} {n:Nat} {t u v:Tok}:IsRange h r 0 (Int.ofNat n) 1 t u v->VR g μ h (.ref r) (.rng n)
 | frz {a:Addr} {vs:List Value} {xs:List Int}:g.IsList a vs.toArray->IntsAre vs xs->VR g μ h (.ref a) (.frz xs)
inductive VRs (g:Heap) (μ:Mu) (h:Heap):List Value->List AV->Prop
 | nil:VRs g μ h [] []
 | cons {v:Value} {a:AV} {vs:List Value} {xs:List AV}:VR g μ h v a->VRs g μ h vs xs->VRs g μ h (v :: vs) (a :: xs)
end
inductive AtR (g:Heap) (μ:Mu) (h:Heap):List DictEntry->List (Str × AV)->Prop
 | nil:AtR g μ h [] []
 | cons {e:DictEntry} {x:Str} {t:Tok} {a:AV} {es:List DictEntry} {r:List (Str × AV)}:e.key = .str x t->VR g μ h e.val a->AtR g μ h es r->AtR g μ h (e :: es) ((x,a) :: r)
noncomputable abbrev wk (C:Cf):=tupleKind (intKind C.prog C.w)
noncomputable def oh (h:Heap) (d:Addr) (n:Nat):Prop:=∃ o es,h.get? d = some o/\o.data = .dict es n
noncomputable def OR (C:Cf) (μ:Mu) (h:Heap) (p:Addr × Addr):AO->Prop
 | .list xs=>p.2 = p.1/\∃ vs n,h.get? p.1 = some (listOf (List.toArray vs) n)/\VRs C.ghost μ h vs xs
 | .wset ws=>p.2 = p.1/\oh h p.1 ws.length/\∃ xs,h.DictOfH (wk C) p.1 xs/\xs.map (·.1) = ws/\∀ x ∈ xs,x.2.2 = .bool true/\VR C.ghost μ h (.ref x.2.1) (wordV x.1)
 | .sdict es=>p.2 = p.1/\∃ o kvs,h.get? p.1 = some o/\o.IsDictOf (strKind C.prog C.w) kvs/\kvs.map (·.1) = es.map (·.1)/\VRs C.ghost μ h (kvs.map (·.2)) (es.map (·.2))
 | .inst c at'=>h.get? p.1 = some ⟨.ref (C.cls c),some p.2,.plain,#[]⟩/\∃ es n,h.get? p.2 = some (dictOf es n)/\AtR C.ghost μ h es at'
noncomputable def dj (h:Heap) (cv:Value) (q:Str):Prop:=∃ c oc vs t,cv = .ref c/\h.get? c = some oc/\oc.cls = .type "code" /\ oc.data = .fields vs/\vs[1]? = some (.str q t)
noncomputable def gG (C:Cf) (h:Heap):Prop:=∀ P ∈ C.tb,∃ ps,h.get? P = some (tabObj ps)/\TriplesOk ps.toList/\∀ pos cv,codeAmong pos ps.toList = some cv->dj h cv (C.tq P)
inductive tR (base h:Heap) (env:Env):Prop
 | mk (k:env.scope.kind = .function) (L:Addr) (m:Str->Option Value) (h1:env.frame = some L) (h2:h.Ns L m) (h3:base.get? L = none):tR base h env
structure HR (C:Cf) (μ:Mu) (σ:ac) (s:Shared):Prop where
 gens:s.gens = #[]
 os:s.os = C.os
 stay:C.base.StaysIn s.heap
 gstay:C.ghost.StaysIn C.base
 len:μ.length = σ.length
 obj:∀ (i:Nat) (p:Addr × Addr) (o:AO),μ[i]? = some p->σ[i]? = some o->OR C μ s.heap p o
 sep:∀ (i j:Nat) (p q:Addr × Addr),μ[i]? = some p->μ[j]? = some q->i ≠ j->p.1 ≠ q.1/\p.1 ≠ q.2/\p.2 ≠ q.1/\p.2 ≠ q.2
 new:∀ (i:Nat) (p:Addr × Addr),μ[i]? = some p->C.fz ≤ i->C.base.get? p.1 = none/\C.base.get? p.2 = none
 own:∀ (i:Nat) (p:Addr × Addr),μ[i]? = some p->C.ghost.get? p.1 = none/\C.ghost.get? p.2 = none
 frames:∀ env ∈ C.fs,tR C.base s.heap env
 frm:∀ (i:Nat) (p:Addr × Addr),μ[i]? = some p->p.1 ∉ C.fl/\p.2 ∉ C.fl
 tabs:gG C s.heap
 tabs0:C.fz = 0->∀ P ∈ C.tb,C.base.get? P = none
 h0f:∀ L ∈ C.h0fl,L ∈ C.fl
 h0k:∀ L ∈ C.h0fl,∀ o,C.h0.get? L = some o->∃ sl,s.heap.get? L = some { o with slots:=sl }
structure Ext (C:Cf) (W:Addr->Prop) (μ:Mu) (h:Heap) (μ':Mu) (h':Heap):Prop where
 pre:∃ ν,μ' = μ ++ ν
 size:h.objs.size ≤ h'.objs.size
 new:∀ (i:Nat) (p:Addr × Addr),μ.length ≤ i->μ'[i]? = some p->h.objs.size ≤ p.1/\h.objs.size ≤ p.2
 keep:∀ b o,h.get? b = some o->¬ Dm C μ b->¬ W b->(b ∉ C.fl->h'.get? b = some o)/\(b ∈ C.fl->∃ sl,h'.get? b = some { o with slots:=sl })
noncomputable abbrev aW (C:Cf):=Ext C (fun z0=>False)
theorem Ext.refl {C:Cf} {W:Addr->Prop} {μ:Mu} {h:Heap}:Ext C W μ h μ h :=
 ⟨⟨[],by simp⟩,Nat.le_refl _,fun i p hi e=>(by rw [List.getElem?_eq_none hi] at e; cases e),fun b o e z0 z0=>⟨fun z0=>e,fun z0=>⟨o.slots,e⟩⟩⟩
theorem Ext.mono {C:Cf} {W W':Addr->Prop} {μ μ':Mu} {h h':Heap} (x:Ext C W μ h μ' h') (hw:∀ b,W b->W' b):Ext C W' μ h μ' h' :=
 ⟨x.pre,x.size,x.new,fun b o e hd hn=>x.keep b o e hd fun q=>hn (hw b q)⟩
theorem Ext.any {C:Cf} {W:Addr->Prop} {μ μ':Mu} {h h':Heap} (x:aW C μ h μ' h'):Ext C W μ h μ' h':=x.mono fun z0 q=>q.elim
theorem Ext.idx {C:Cf} {W:Addr->Prop} {μ μ':Mu} {h h':Heap} (x:Ext C W μ h μ' h') {i:Nat} {p:Addr × Addr} (e:μ[i]? = some p):μ'[i]? = some p:=by
 obtain ⟨ν,rfl⟩:=x.pre
 rw [List.getElem?_append_left (List.getElem?_eq_some_iff.mp e).1]; exact e
theorem Ext.dm {C:Cf} {W:Addr->Prop} {μ μ':Mu} {h h':Heap} (x:Ext C W μ h μ' h') {b:Addr} {o:Obj} (e:h.get? b = some o) (hd:¬ Dm C μ b):¬ Dm C μ' b:=by
 rintro (hq | ⟨i,p,hi,hp,hb⟩)
 .exact hd (.inl hq)
 .by_cases hl:i < μ.length
  .obtain ⟨ν,rfl⟩:=x.pre
   rw [List.getElem?_append_left hl] at hp
   exact hd (.inr ⟨i,p,hi,hp,hb⟩)
  .obtain ⟨n1,n2⟩:=x.new i p (Nat.le_of_not_lt hl) hp
   have:=Heap.lt_size e
   rcases hb with rfl | rfl
   .exact Nat.lt_irrefl _ (Nat.lt_of_lt_of_le this n1)
   .exact Nat.lt_irrefl _ (Nat.lt_of_lt_of_le this n2)
theorem Ext.trans {C:Cf} {W:Addr->Prop} {μ₁ μ₂ μ₃:Mu} {h₁ h₂ h₃:Heap} (x:Ext C W μ₁ h₁ μ₂ h₂) (y:Ext C W μ₂ h₂ μ₃ h₃):Ext C W μ₁ h₁ μ₃ h₃:=by
 refine ⟨?_,Nat.le_trans x.size y.size,fun i p hi e=>?_,fun b o e hd hw=>?_⟩
 .obtain ⟨ν,rfl⟩:=x.pre
  obtain ⟨ν',rfl⟩:=y.pre
  exact ⟨ν ++ ν',by simp⟩
 .by_cases hl:i < μ₂.length
  .obtain ⟨ν',rfl⟩:=y.pre
   rw [List.getElem?_append_left hl] at e
   exact x.new i p hi e
  .obtain ⟨n1,n2⟩:=y.new i p (Nat.le_of_not_lt hl) e
   exact ⟨Nat.le_trans x.size n1,Nat.le_trans x.size n2⟩
 .have hk:=x.keep b o e hd hw
  by_cases hf:b ∈ C.fl
  .refine ⟨fun q=>absurd hf q,fun z0=>?_⟩
   obtain ⟨sl,h2⟩:=hk.2 hf
   obtain ⟨sl',h3⟩:=(y.keep b _ h2 (x.dm e hd) hw).2 hf
   exact ⟨sl',h3⟩
  .refine ⟨fun z0=>?_,fun q=>absurd q hf⟩
   have h2:=hk.1 hf
   exact (y.keep b _ h2 (x.dm e hd) hw).1 hf
theorem Ext.setW {C:Cf} {W:Addr->Prop} {μ:Mu} {h h':Heap} {a:Addr} (hs:Heap.SameBut a h h') (hw:W a):Ext C W μ h μ h' :=
 ⟨⟨[],by simp⟩,Nat.le_of_eq hs.1.symm,fun i p hi e=>(by rw [List.getElem?_eq_none hi] at e; cases e),
  fun b o e z0 hn=>(by
   have hb:b ≠ a:=fun q=>hn (q ▸ hw)
   have:=(hs.2 b hb).trans e
   exact ⟨fun z0=>this,fun z0=>⟨o.slots,this⟩⟩)⟩
noncomputable def mE (o:Obj):Prop:=(∀ es n,o.data ≠ .dict es n)/\o.cls ≠ .type "list" /\ o.data ≠ .plain/\∀ ps,o ≠ tabObj ps
noncomputable def ff (o:Obj):Prop:=mE o/\(∀ v,o.data ≠ .cell v)/\(o.cls = .type "tuple" \/ o.cls = .type "range" \/ o.cls = .type "code")
section
variable {C:Cf} {μ:Mu} {σ:ac} {s:Shared}
theorem HR.objAt (H:HR C μ σ s) {i:Nat} {p:Addr × Addr} (e:μ[i]? = some p):∃ o,σ[i]? = some o/\OR C μ s.heap p o:=by
 have hl:i < σ.length:=H.len ▸ (List.getElem?_eq_some_iff.mp e).1
 exact ⟨σ[i],List.getElem?_eq_getElem hl,H.obj i p _ e (List.getElem?_eq_getElem hl)⟩
theorem OR.kinds {h:Heap} {p:Addr × Addr} {o:AO} (x:OR C μ h p o) :
  (∃ ob,h.get? p.1 = some ob/\¬ mE ob)/\∃ ob,h.get? p.2 = some ob/\¬ mE ob:=by
 induction o using AO.casesOn with
 | list xs =>
  obtain ⟨h1,vs,n,h2,_⟩:=x
  rw [h1]
  exact ⟨⟨_,h2,fun q=>q.2.1 rfl⟩,⟨_,h2,fun q=>q.2.1 rfl⟩⟩
 | wset ws =>
  obtain ⟨h1,_,xs,⟨o,es,ep,h2,_,h3,_⟩,_⟩:=x
  rw [h1]
  exact ⟨⟨_,h2,fun q=>q.1 _ _ h3⟩,⟨_,h2,fun q=>q.1 _ _ h3⟩⟩
 | sdict es =>
  obtain ⟨h1,o,kvs,h2,⟨es',ep,_,h3,_⟩,_⟩:=x
  rw [h1]
  exact ⟨⟨_,h2,fun q=>q.1 _ _ h3⟩,⟨_,h2,fun q=>q.1 _ _ h3⟩⟩
 | inst c at' =>
  obtain ⟨h1,es,n,h2,_⟩:=x
  exact ⟨⟨_,h1,fun q=>q.2.2.1 rfl⟩,⟨_,h2,fun q=>q.1 _ _ rfl⟩⟩
theorem OR.notTab {h:Heap} {p:Addr × Addr} {o:AO} (x:OR C μ h p o) (ps:Array Value):h.get? p.1 ≠ some (tabObj ps)/\h.get? p.2 ≠ some (tabObj ps):=by
 induction o using AO.casesOn with
 | list xs =>
  obtain ⟨h1,vs,n,h2,_⟩:=x
  rw [h1,h2]
  exact ⟨fun q=>by injection q with q; injection q with q; exact (nomatch q),fun q=>by injection q with q; injection q with q; exact (nomatch q)⟩
 | wset ws =>
  obtain ⟨h1,_,xs,⟨o,es,ep,h2,_,h3,_⟩,_⟩:=x
  rw [h1,h2]
  exact ⟨fun q=>by injection q with q; rw [q] at h3; exact (nomatch h3),fun q=>by injection q with q; rw [q] at h3; exact (nomatch h3)⟩
 | sdict es =>
  obtain ⟨h1,o,kvs,h2,⟨es',ep,_,h3,_⟩,_⟩:=x
  rw [h1,h2]
  exact ⟨fun q=>by injection q with q; rw [q] at h3; exact (nomatch h3),fun q=>by injection q with q; rw [q] at h3; exact (nomatch h3)⟩
 | inst c at' =>
  obtain ⟨h1,es,n,h2,_⟩:=x
  rw [h1,h2]
  exact ⟨fun q=>by injection q with q; injection q with q; exact (nomatch q),fun q=>by injection q with q; injection q with q; exact (nomatch q)⟩
theorem HR.notTb (H:HR C μ σ s) {i:Nat} {p:Addr × Addr} (e:μ[i]? = some p):p.1 ∉ C.tb/\p.2 ∉ C.tb:=by
 obtain ⟨o,_,hor⟩:=H.objAt e
 refine ⟨fun q=>?_,fun q=>?_⟩
 .obtain ⟨ps,h1,_⟩:=H.tabs _ q
  exact (hor.notTab ps).1 h1
 .obtain ⟨ps,h1,_⟩:=H.tabs _ q
  exact (hor.notTab ps).2 h1
theorem HR.calm_off (H:HR C μ σ s) {b:Addr} {o:Obj} (e:s.heap.get? b = some o) (hc:mE o):¬ Dm C μ b/\b ∉ C.fl:=by
 constructor
 .rintro (⟨_,hq⟩ | ⟨i,p,_,hp,hb⟩)
  .obtain ⟨ps,h1,_⟩:=H.tabs b hq
   rw [h1] at e; injection e with e; exact hc.2.2.2 ps e.symm
  .obtain ⟨o',_,hor⟩:=H.objAt hp
   obtain ⟨⟨o1,e1,n1⟩,⟨o2,e2,n2⟩⟩:=hor.kinds
   rcases hb with rfl | rfl
   .rw [e1] at e; injection e with e; exact n1 (e ▸ hc)
   .rw [e2] at e; injection e with e; exact n2 (e ▸ hc)
 .intro hf
  obtain ⟨env,he,hfr⟩:=List.mem_filterMap.mp hf
  obtain ⟨_,L,m,h1,⟨o',es,ep,h2,h3,_⟩,_⟩:=H.frames env he
  rw [h1] at hfr; injection hfr with hfr; subst hfr
  rw [h2] at e; injection e with e; subst e
  exact hc.1 _ _ h3
theorem HR.keepCalm (H:HR C μ σ s) {W:Addr->Prop} {μ':Mu} {h':Heap} (x:Ext C W μ s.heap μ' h') {b:Addr} {o:Obj} (e:s.heap.get? b = some o) (hc:ff o) (hw:¬ W b):h'.get? b = some o:=by
 obtain ⟨h1,h2⟩:=H.calm_off e hc.1
 exact (x.keep b o e h1 hw).1 h2
theorem bM (vs:List Value) (n:Nat):ff (tupObj vs n):=⟨⟨fun z0 z0 q=>(nomatch q),fun q=>by injection q with q; exact absurd q (by decide),fun q=>(nomatch q),fun ps q=>by injection q with q _ _ _; exact nomatch q⟩,(fun z0 q=>nomatch q),.inl rfl⟩
theorem gA {a b c:Int} {t u v:Tok}:ff { cls:=.type "range", dict:=none,data:=.fields #[.int a t,.int b u,.int c v],slots:=#[] } :=
 ⟨⟨fun z0 z0 q=>(nomatch q),fun q=>by injection q with q; exact absurd q (by decide),fun q=>(nomatch q),fun ps q=>by injection q with q _ _ _; exact nomatch q⟩,(fun z0 q=>nomatch q),.inr (.inl rfl)⟩
theorem nY {oc:Obj} {vs:Array Value} (h1:oc.cls = .type "code") (h2:oc.data = .fields vs):ff oc :=
 ⟨⟨fun z0 z0 q=>(by rw [h2] at q; exact nomatch q),fun q=>(by rw [h1] at q; injection q with q; exact absurd q (by decide)),fun q=>(by rw [h2] at q; exact nomatch q),fun ps q=>(by rw [q] at h1; exact nomatch h1)⟩,fun z0 q=>(by rw [h2] at q; exact nomatch q),.inr (.inr h1)⟩
theorem gG.move {C:Cf} {h h':Heap} (T:gG C h) (h1:∀ P ∈ C.tb,∀ ps,h.get? P = some (tabObj ps)->h'.get? P = some (tabObj ps)) (h2:∀ b o,h.get? b = some o->ff o->h'.get? b = some o):gG C h':=fun P hP =>
 let ⟨ps,a,b,c⟩:=T P hP
 ⟨ps,h1 P hP ps a,b,fun pos cv e=>let ⟨c',oc,vs,t,e1,e2,e3,e4,e5⟩:=c pos cv e; ⟨c',oc,vs,t,e1,h2 c' oc e2 (nY e3 e4),e3,e4,e5⟩⟩
noncomputable def bX (W:Addr->Prop) (h:Heap):Prop:=∀ b o,W b->h.get? b = some o->¬ ff o
theorem VR.map {g h h':Heap} {μ μ':Mu} (ht:∀ a vs n,h.get? a = some (tupObj vs n)->h'.get? a = some (tupObj vs n)) (ho:∀ (i:Nat) (p:Addr × Addr),μ[i]? = some p->μ'[i]? = some p) (hr:∀ r n t u v,IsRange h r 0 n 1 t u v->IsRange h' r 0 n 1 t u v)
  {v:Value} {a:AV} (x:VR g μ h v a):VR g μ' h' v a :=
 VR.rec (motive_1:=fun v a z0=>VR g μ' h' v a) (motive_2:=fun vs xs z0=>VRs g μ' h' vs xs) .none .bool .int .str (fun e z0 r=>.tup (ht _ _ _ e) r) (fun e=>.obj (ho _ _ e)) (fun e=>.rng (hr _ _ _ _ _ e)) .frz .nil (fun z0 z0 h r=>.cons h r) x
theorem VRs.map {g h h':Heap} {μ μ':Mu} (m:∀ v a,VR g μ h v a->VR g μ' h' v a) {vs:List Value} {xs:List AV} (x:VRs g μ h vs xs):VRs g μ' h' vs xs :=
 VRs.rec (motive_1:=fun z0 z0 z0=>True) (motive_2:=fun vs xs z0=>VRs g μ' h' vs xs) trivial (fun z0=>trivial) (fun z0 z0=>trivial) (fun z0 z0=>trivial) (fun z0 z0 z0=>trivial) (fun z0=>trivial) (fun z0=>trivial) (fun z0 z0=>trivial) .nil (fun h z0 z0 r=>.cons (m _ _ h) r) x
theorem AtR.map {g h h':Heap} {μ μ':Mu} (m:∀ v a,VR g μ h v a->VR g μ' h' v a) {es:List DictEntry} {r:List (Str × AV)} (x:AtR g μ h es r):AtR g μ' h' es r :=
 AtR.rec (motive:=fun es r z0=>AtR g μ' h' es r) .nil (fun e h z0 r=>.cons e (m _ _ h) r) x
theorem VR.ext (H:HR C μ σ s) {W:Addr->Prop} (hW:bX W s.heap) {μ':Mu} {h':Heap} (x:Ext C W μ s.heap μ' h') {v:Value} {a:AV} (y:VR C.ghost μ s.heap v a):VR C.ghost μ' h' v a :=
 y.map (fun z0 z0 z0 e=>H.keepCalm x e (bM _ _) fun q=>hW _ _ q e (bM _ _)) (fun z0 z0 e=>x.idx e) fun z0 z0 z0 z0 z0 e=>H.keepCalm x e gA fun q=>hW _ _ q e gA
theorem VRs.ext (H:HR C μ σ s) {W:Addr->Prop} (hW:bX W s.heap) {μ':Mu} {h':Heap} (x:Ext C W μ s.heap μ' h') {vs:List Value} {xs:List AV} (y:VRs C.ghost μ s.heap vs xs):VRs C.ghost μ' h' vs xs:=y.map fun z0 z0=>VR.ext H hW x
theorem AtR.ext (H:HR C μ σ s) {W:Addr->Prop} (hW:bX W s.heap) {μ':Mu} {h':Heap} (x:Ext C W μ s.heap μ' h') {es:List DictEntry} {r:List (Str × AV)} (y:AtR C.ghost μ s.heap es r):AtR C.ghost μ' h' es r:=y.map fun z0 z0=>VR.ext H hW x
end
section
variable {g h:Heap} {μ:Mu} {v:Value}
theorem VR.inv_tup {xs:List AV} (x:VR g μ h v (.tup xs)):∃ a vs n,v = .ref a/\h.get? a = some (tupObj vs n)/\VRs g μ h vs xs:=by
 cases x with
 | tup e r=>exact ⟨_,_,_,rfl,e,r⟩
theorem VR.inv_obj {i:Nat} (x:VR g μ h v (.obj i)):∃ p:Addr × Addr,v = .ref p.1/\μ[i]? = some p:=by
 cases x with
 | obj e=>exact ⟨_,rfl,e⟩
theorem VR.inv_int {i:Int} (x:VR g μ h v (.int i)):∃ t,v = .int i t:=by
 cases x with
 | int _ t=>exact ⟨t,rfl⟩
theorem VR.inv_str {y:Str} (x:VR g μ h v (.str y)):∃ t,v = .str y t:=by
 cases x with
 | str _ t=>exact ⟨t,rfl⟩
theorem VR.inv_bool {b:Bool} (x:VR g μ h v (.bool b)):v = .bool b:=by cases x; rfl
theorem VR.inv_none (x:VR g μ h v .none):v = .none:=by cases x; rfl
theorem VR.inv_rng {n:Nat} (x:VR g μ h v (.rng n)):∃ r t u w,v = .ref r/\IsRange h r 0 (Int.ofNat n) 1 t u w:=by
 cases x with
 | rng e=>exact ⟨_,_,_,_,rfl,e⟩
theorem VR.inv_frz {xs:List Int} (x:VR g μ h v (.frz xs)):∃ a vs,v = .ref a/\g.IsList a (List.toArray vs)/\IntsAre vs xs:=by
 cases x with
 | frz e r=>exact ⟨_,_,rfl,e,r⟩
theorem VRs.len {vs:List Value} {xs:List AV} (x:VRs g μ h vs xs):vs.length = xs.length:=by
 induction xs generalizing vs with
 | nil=>cases x; rfl
 | cons a xs ih=>cases x with | cons _ r=>simp [ih r]
theorem VRs.get {vs:List Value} {xs:List AV} (x:VRs g μ h vs xs) {k:Nat} {a:AV} (e:xs[k]? = some a):∃ v,vs[k]? = some v/\VR g μ h v a:=by
 induction xs generalizing vs k with
 | nil=>simp at e
 | cons b xs ih =>
  cases x with
  | cons h1 r =>
   induction k using Nat.casesAuxOn with
   | zero=>simp at e; subst e; exact ⟨_,rfl,h1⟩
   | succ k=>simp at e; simpa using ih r e
theorem VRs.append {vs ws:List Value} {xs ys:List AV} (x:VRs g μ h vs xs) (y:VRs g μ h ws ys):VRs g μ h (vs ++ ws) (xs ++ ys):=by
 induction xs generalizing vs with
 | nil=>cases x; exact y
 | cons b xs ih=>cases x with | cons h1 r=>exact .cons h1 (ih r)
end
section
variable {C:Cf} {μ:Mu} {σ:ac} {s:Shared}
theorem OR.move (H:HR C μ σ s) {W:Addr->Prop} (hW:bX W s.heap) {μ':Mu} {h':Heap} (x:Ext C W μ s.heap μ' h') {p:Addr × Addr} {o:AO} (h:OR C μ s.heap p o)
  (e1:h'.get? p.1 = s.heap.get? p.1) (e2:h'.get? p.2 = s.heap.get? p.2):OR C μ' h' p o:=by
 induction o using AO.casesOn with
 | list xs =>
  obtain ⟨h1,vs,n,h2,h3⟩:=h
  exact ⟨h1,vs,n,e1.trans h2,VRs.ext H hW x h3⟩
 | wset ws =>
  obtain ⟨h1,⟨o8,es8,e8,f8⟩,xs,⟨o,es,ep,h2,h3,h4,h5,h6,h7⟩,h8,h9⟩:=h
  refine ⟨h1,⟨o8,es8,e1.trans e8,f8⟩,xs,⟨o,es,ep,e1.trans h2,h3,h4,h5,fun y hy=>?_,h7⟩,h8,fun y hy=>⟨(h9 y hy).1,VR.ext H hW x (h9 y hy).2⟩⟩
  obtain ⟨o',its,n,q1,q2,q3,q4⟩:=h6 y hy
  obtain ⟨a,vs,n',ha,e,r⟩:=(h9 y hy).2.inv_tup
  injection ha with ha
  subst ha
  rw [q1] at e; injection e with e
  subst e
  exact ⟨_,its,n,H.keepCalm x q1 (bM _ _) (fun q=>hW _ _ q q1 (bM _ _)),q2,q3,q4⟩
 | sdict es =>
  obtain ⟨h1,o,kvs,h2,h3,h4,h5⟩:=h
  exact ⟨h1,o,kvs,e1.trans h2,h3,h4,VRs.ext H hW x h5⟩
 | inst c at' =>
  obtain ⟨h1,es,n,h2,h3⟩:=h
  exact ⟨e1.trans h1,es,n,e2.trans h2,AtR.ext H hW x h3⟩
theorem VR.more {g h:Heap} {μ:Mu} (ν:Mu) {v:Value} {a:AV} (x:VR g μ h v a):VR g (μ ++ ν) h v a :=
 x.map (fun z0 z0 z0 e=>e) (fun z0 z0 e=>(List.getElem?_append_left (List.getElem?_eq_some_iff.mp e).1).trans e) fun z0 z0 z0 z0 z0 e=>e
theorem VRs.more {g h:Heap} {μ:Mu} (ν:Mu) {vs:List Value} {xs:List AV} (x:VRs g μ h vs xs):VRs g (μ ++ ν) h vs xs:=x.map fun z0 z0=>VR.more ν
theorem AtR.more {g h:Heap} {μ:Mu} (ν:Mu) {es:List DictEntry} {r:List (Str × AV)} (x:AtR g μ h es r):AtR g (μ ++ ν) h es r:=x.map fun z0 z0=>VR.more ν
theorem OR.more {h:Heap} (ν:Mu) {p:Addr × Addr} {o:AO} (x:OR C μ h p o):OR C (μ ++ ν) h p o:=by
 induction o using AO.casesOn with
 | list xs=>exact ⟨x.1,let ⟨vs,n,h1,h2⟩:=x.2; ⟨vs,n,h1,h2.more ν⟩⟩
 | wset ws=>exact ⟨x.1,x.2.1,let ⟨xs,h1,h2,h3⟩:=x.2.2; ⟨xs,h1,h2,fun y hy=>⟨(h3 y hy).1,(h3 y hy).2.more ν⟩⟩⟩
 | sdict es=>exact ⟨x.1,let ⟨o,kvs,h1,h2,h3,h4⟩:=x.2; ⟨o,kvs,h1,h2,h3,h4.more ν⟩⟩
 | inst c at'=>exact ⟨x.1,let ⟨es,n,h1,h2⟩:=x.2; ⟨es,n,h1,h2.more ν⟩⟩
theorem HR.some1 (H:HR C μ σ s) {i:Nat} {p:Addr × Addr} (e:μ[i]? = some p):(∃ o,s.heap.get? p.1 = some o)/\∃ o,s.heap.get? p.2 = some o:=by
 obtain ⟨o,_,ho⟩:=H.objAt e
 obtain ⟨⟨a,ha,_⟩,⟨b,hb,_⟩⟩:=ho.kinds
 exact ⟨⟨a,ha⟩,⟨b,hb⟩⟩
theorem HR.lt (H:HR C μ σ s) {i:Nat} {p:Addr × Addr} (e:μ[i]? = some p):p.1 < s.heap.objs.size/\p.2 < s.heap.objs.size:=by
 obtain ⟨⟨_,a⟩,⟨_,b⟩⟩:=H.some1 e
 exact ⟨Heap.lt_size a,Heap.lt_size b⟩
theorem Ns.slots {h h':Heap} {L:Addr} {m:Str->Option Value} (hn:h.Ns L m) (k:∀ o,h.get? L = some o->∃ sl,h'.get? L = some { o with slots:=sl }):h'.Ns L m:=by
 obtain ⟨o,es,ep,h1,h2,h3,h4⟩:=hn
 obtain ⟨sl,h5⟩:=k o h1
 exact ⟨_,es,ep,h5,h2,h3,h4⟩
theorem HR.keeps (H:HR C μ σ s) {s':Shared} (k:∀ b o,s.heap.get? b = some o->s'.heap.get? b = some o) (hz:s.heap.objs.size ≤ s'.heap.objs.size) (hg:s'.gens = s.gens) (ho:s'.os = s.os) :
  aW C μ s.heap μ s'.heap/\HR C μ σ s':=by
 have x:aW C μ s.heap μ s'.heap:=⟨⟨[],by simp⟩,hz,fun i p hi e=>(by rw [List.getElem?_eq_none hi] at e; cases e),fun b o e z0 z0=>⟨fun z0=>k b o e,fun z0=>⟨o.slots,k b o e⟩⟩⟩
 refine ⟨x,⟨hg.trans H.gens,ho.trans H.os,fun b o e=>k b o (H.stay b o e),H.gstay,H.len,fun i p o e1 e2=>?_,H.sep,H.new,H.own,fun env he=>?_,H.frm,?_,H.tabs0,H.h0f,fun L hL o e=>let ⟨sl,q⟩:=H.h0k L hL o e; ⟨sl,k _ _ q⟩⟩⟩
 .have hor:=H.obj i p o e1 e2
  obtain ⟨⟨_,a⟩,⟨_,b⟩⟩:=H.some1 e1
  exact OR.move H (fun z0 z0 q=>q.elim) x hor ((k _ _ a).trans a.symm) ((k _ _ b).trans b.symm)
 .obtain ⟨h1,L,m,h2,h3,h4⟩:=H.frames env he
  exact ⟨h1,L,m,h2,h3.keeps k,h4⟩
 .exact H.tabs.move (fun P z0 ps e=>k _ _ e) fun b o e z0=>k b o e
theorem HR.toks (H:HR C μ σ s) (t:Nat):HR C μ σ { s with toks:=t }:=(H.keeps (s':={ s with toks:=t }) (fun z0 z0 e=>e) (Nat.le_refl _) rfl rfl).2
theorem HR.push (H:HR C μ σ s) (o:Obj) (t:Nat):aW C μ s.heap μ (s.heap.push o)/\HR C μ σ { s with heap:=s.heap.push o,toks:=t } :=
 H.keeps (s':={ s with heap:=s.heap.push o,toks:=t }) (fun z0 z0 e=>Heap.get?_push_of_some _ e) (by show s.heap.objs.size ≤ (s.heap.push o).objs.size; rw [Heap.size_push]; omega) rfl rfl
theorem HR.other (H:HR C μ σ s) {W:Addr->Prop} {a:Addr} {h':Heap} (t:Nat) (hs:Heap.SameBut a s.heap h') (hw:W a) (hwild:∀ o,s.heap.get? a = some o->¬ ff o) (hb:C.base.get? a = none)
  (ho:∀ (i:Nat) (p:Addr × Addr),μ[i]? = some p->p.1 ≠ a/\p.2 ≠ a) (hfr:a ∈ C.fl->∃ m,h'.Ns a m) (htb:a ∉ C.tb) (h0:a ∉ C.h0fl) :
  Ext C W μ s.heap μ h'/\HR C μ σ { s with heap:=h',toks:=t }:=by
 have x:Ext C W μ s.heap μ h':=Ext.setW hs hw
 have x1:Ext C (fun b=>b = a) μ s.heap μ h':=Ext.setW hs rfl
 have hW:bX (fun b=>b = a) s.heap:=fun b o q e=>by subst q; exact hwild o e
 refine ⟨x,⟨H.gens,H.os,fun b o e=>?_,H.gstay,H.len,fun i p o e1 e2=>?_,H.sep,H.new,H.own,fun env he=>?_,H.frm,?_,H.tabs0,H.h0f,fun L hL o e=>let ⟨sl,q⟩:=H.h0k L hL o e; ⟨sl,(hs.2 L (fun q=>h0 (q ▸ hL))).trans q⟩⟩⟩
 .exact (hs.2 b (fun q=>by rw [q,hb] at e; cases e)).trans (H.stay b o e)
 .obtain ⟨n1,n2⟩:=ho i p e1
  exact OR.move H hW x1 (H.obj i p o e1 e2) (hs.2 _ n1) (hs.2 _ n2)
 .obtain ⟨h1,L,m,h2,h3,h4⟩:=H.frames env he
  by_cases q:L = a
  .obtain ⟨m',hm'⟩:=hfr (q ▸ List.mem_filterMap.mpr ⟨env,he,h2⟩)
   exact ⟨h1,L,m',h2,q ▸ hm',h4⟩
  .exact ⟨h1,L,m,h2,h3.sameBut hs q,h4⟩
 .exact H.tabs.move (fun P hP ps e=>(hs.2 P (fun q=>htb (q ▸ hP))).trans e) fun b o e hc=>(hs.2 b (fun q=>hwild o (q ▸ e) hc)).trans e
theorem HR.fresh (H:HR C μ σ s) {ob:Obj} {o:AO} (t:Nat)
  (ho:aW C μ s.heap (μ ++ [(s.heap.objs.size,s.heap.objs.size)]) (s.heap.push ob)->OR C (μ ++ [(s.heap.objs.size,s.heap.objs.size)]) (s.heap.push ob) (s.heap.objs.size,s.heap.objs.size) o) :
  aW C μ s.heap (μ ++ [(s.heap.objs.size,s.heap.objs.size)]) (s.heap.push ob)/\HR C (μ ++ [(s.heap.objs.size,s.heap.objs.size)]) (σ ++ [o]) { s with heap:=s.heap.push ob,toks:=t }:=by
 have hlen:∀ (i:Nat) (p:Addr × Addr),(μ ++ [(s.heap.objs.size,s.heap.objs.size)])[i]? = some p->(i < μ.length/\μ[i]? = some p)\/(i = μ.length/\p = (s.heap.objs.size,s.heap.objs.size)):=by
  intro i p e
  by_cases hl:i < μ.length
  .rw [List.getElem?_append_left hl] at e; exact .inl ⟨hl,e⟩
  .rw [List.getElem?_append_right (Nat.le_of_not_lt hl)] at e
   have hi:i - μ.length = 0:=by
    have:=(List.getElem?_eq_some_iff.mp e).1
    simp at this; omega
   rw [hi] at e
   exact .inr ⟨by omega,by simpa using e.symm⟩
 have x:aW C μ s.heap (μ ++ [(s.heap.objs.size,s.heap.objs.size)]) (s.heap.push ob):=by
  refine ⟨⟨_,rfl⟩,by rw [Heap.size_push]; omega,fun i p hi e=>?_,fun b o' e z0 z0=>⟨fun z0=>Heap.get?_push_of_some _ e,fun z0=>⟨o'.slots,Heap.get?_push_of_some _ e⟩⟩⟩
  rcases hlen i p e with ⟨q,_⟩ | ⟨_,rfl⟩
  .omega
  .exact ⟨Nat.le_refl _,Nat.le_refl _⟩
 refine ⟨x,⟨H.gens,H.os,fun b o' e=>Heap.get?_push_of_some _ (H.stay b o' e),H.gstay,by simp [H.len],fun i p o' e1 e2=>?_,fun i j p q e1 e2 hne=>?_,fun i p e hi=>?_,fun i p e=>?_,fun env he=>?_,fun i p e=>?_,?_,H.tabs0,H.h0f,fun L hL o e=>let ⟨sl,q⟩:=H.h0k L hL o e; ⟨sl,Heap.get?_push_of_some _ q⟩⟩⟩
 .rcases hlen i p e1 with ⟨hl,e1'⟩ | ⟨hl,rfl⟩
  .rw [List.getElem?_append_left (H.len ▸ hl)] at e2
   obtain ⟨⟨_,a⟩,⟨_,b⟩⟩:=H.some1 e1'
   exact OR.move H (fun z0 z0 q=>q.elim) x (H.obj i p o' e1' e2) ((Heap.get?_push_of_some _ a).trans a.symm) ((Heap.get?_push_of_some _ b).trans b.symm)
  .rw [hl,H.len,List.getElem?_append_right (Nat.le_refl _)] at e2
   simp at e2
   subst e2
   exact ho x
 .have lt:∀ (i:Nat) (p:Addr × Addr),μ[i]? = some p->p.1 < s.heap.objs.size/\p.2 < s.heap.objs.size:=fun i p e=>H.lt e
  rcases hlen i p e1 with ⟨hl,e1'⟩ | ⟨hl,rfl⟩
  .rcases hlen j q e2 with ⟨hl2,e2'⟩ | ⟨hl2,rfl⟩
   .exact H.sep i j p q e1' e2' hne
   .have:=lt i p e1'
    exact ⟨Nat.ne_of_lt this.1,Nat.ne_of_lt this.1,Nat.ne_of_lt this.2,Nat.ne_of_lt this.2⟩
  .rcases hlen j q e2 with ⟨hl2,e2'⟩ | ⟨hl2,rfl⟩
   .have:=lt j q e2'
    exact ⟨Nat.ne_of_gt this.1,Nat.ne_of_gt this.2,Nat.ne_of_gt this.1,Nat.ne_of_gt this.2⟩
   .omega
 .rcases hlen i p e with ⟨hl,e'⟩ | ⟨hl,rfl⟩
  .exact H.new i p e' hi
  .exact ⟨Heap.StaysIn.fresh H.stay,Heap.StaysIn.fresh H.stay⟩
 .rcases hlen i p e with ⟨hl,e'⟩ | ⟨hl,rfl⟩
  .exact H.own i p e'
  .have:C.ghost.StaysIn s.heap:=fun b o e=>H.stay b o (H.gstay b o e)
   exact ⟨Heap.StaysIn.fresh this,Heap.StaysIn.fresh this⟩
 .obtain ⟨h1,L,m,h2,h3,h4⟩:=H.frames env he
  exact ⟨h1,L,m,h2,h3.push _,h4⟩
 .rcases hlen i p e with ⟨hl,e'⟩ | ⟨hl,rfl⟩
  .exact H.frm i p e'
  .have:s.heap.objs.size ∉ C.fl:=by
    intro hf
    obtain ⟨env,he,hfr⟩:=List.mem_filterMap.mp hf
    obtain ⟨_,L,m,h1,h2,_⟩:=H.frames env he
    rw [h1] at hfr; injection hfr with hfr
    exact Nat.lt_irrefl _ (hfr ▸ h2.lt)
   exact ⟨this,this⟩
 .exact H.tabs.move (fun P z0 ps e=>Heap.get?_push_of_some _ e) fun b o e z0=>Heap.get?_push_of_some _ e
theorem HR.turn (H:HR C μ σ s) {k:Nat} {p:Addr × Addr} {o o':AO} {a:Addr} {h':Heap} (t:Nat) (hk:μ[k]? = some p) (hko:σ[k]? = some o) (hfz:C.fz ≤ k) (ha:a = p.1\/a = p.2)
  (hs:Heap.SameBut a s.heap h')
  (ho:aW C μ s.heap μ h'->OR C μ h' p o'):aW C μ s.heap μ h'/\HR C μ (σ.set k o') { s with heap:=h',toks:=t }:=by
 have hdm:Dm C μ a:=.inr ⟨k,p,hfz,hk,ha⟩
 have x:aW C μ s.heap μ h':=⟨⟨[],by simp⟩,Nat.le_of_eq hs.1.symm,fun i p hi e=>(by rw [List.getElem?_eq_none hi] at e; cases e),
  fun b ob e hn z0=>(by
   have hb:b ≠ a:=fun q=>hn (q ▸ hdm)
   have:=(hs.2 b hb).trans e
   exact ⟨fun z0=>this,fun z0=>⟨ob.slots,this⟩⟩)⟩
 have htb:a ∉ C.tb:=by
  obtain ⟨n1,n2⟩:=H.notTb hk
  rcases ha with rfl | rfl
  .exact n1
  .exact n2
 have hba:C.base.get? a = none:=by
  obtain ⟨n1,n2⟩:=H.new k p hk hfz
  rcases ha with rfl | rfl
  .exact n1
  .exact n2
 have hnf:a ∉ C.fl:=by
  obtain ⟨f1,f2⟩:=H.frm k p hk
  rcases ha with rfl | rfl
  .exact f1
  .exact f2
 refine ⟨x,⟨H.gens,H.os,fun b ob e=>?_,H.gstay,by simp [H.len],fun i q oi e1 e2=>?_,H.sep,H.new,H.own,fun env he=>?_,H.frm,?_,H.tabs0,H.h0f,fun L hL o e=>let ⟨sl,q⟩:=H.h0k L hL o e; ⟨sl,(hs.2 L (fun q=>hnf (q ▸ H.h0f L hL))).trans q⟩⟩⟩
 .exact (hs.2 b (fun q=>by rw [q,hba] at e; cases e)).trans (H.stay b ob e)
 .by_cases hik:i = k
  .subst hik
   rw [hk] at e1; injection e1 with e1; subst e1
   rw [List.getElem?_set_self ((List.getElem?_eq_some_iff.mp hko).1)] at e2
   injection e2 with e2; subst e2
   exact ho x
  .rw [List.getElem?_set_ne (Ne.symm hik)] at e2
   obtain ⟨s1,s2,s3,s4⟩:=H.sep i k q p e1 hk hik
   have n1:q.1 ≠ a:=by rcases ha with rfl | rfl; exact s1; exact s2
   have n2:q.2 ≠ a:=by rcases ha with rfl | rfl; exact s3; exact s4
   exact OR.move H (fun z0 z0 q=>q.elim) x (H.obj i q oi e1 e2) (hs.2 _ n1) (hs.2 _ n2)
 .obtain ⟨h1,L,m,h2,h3,h4⟩:=H.frames env he
  have hLa:L ≠ a:=by
   have hL:L ∈ C.fl:=List.mem_filterMap.mpr ⟨env,he,h2⟩
   obtain ⟨f1,f2⟩:=H.frm k p hk
   rcases ha with rfl | rfl
   .exact fun q=>f1 (q ▸ hL)
   .exact fun q=>f2 (q ▸ hL)
  exact ⟨h1,L,m,h2,h3.sameBut hs hLa,h4⟩
 .refine H.tabs.move (fun P hP ps e=>(hs.2 P (fun q=>htb (q ▸ hP))).trans e) fun b o' e hc=>(hs.2 b (fun q=>?_)).trans e
  obtain ⟨⟨o1,a1,n1⟩,⟨o2,a2,n2⟩⟩:=(H.obj k p o hk hko).kinds
  rcases ha with rfl | rfl
  .rw [q,a1] at e; injection e with e; exact n1 (e ▸ hc.1)
  .rw [q,a2] at e; injection e with e; exact n2 (e ▸ hc.1)
end
theorem HR.adopt {C:Cf} {μ:Mu} {σ:ac} {s:Shared} (H:HR C μ σ s) {W:Addr->Prop} {p:Addr × Addr} {o:AO} {h0:Heap} (hp:h0.objs.size ≤ p.1/\h0.objs.size ≤ p.2) (hst:h0.objs.size ≤ s.heap.objs.size)
  (hb:C.base.get? p.1 = none/\C.base.get? p.2 = none) (hmu:∀ (i:Nat) (q:Addr × Addr),μ[i]? = some q->q.1 ≠ p.1/\q.1 ≠ p.2/\q.2 ≠ p.1/\q.2 ≠ p.2) (hfl:p.1 ∉ C.fl/\p.2 ∉ C.fl)
  (ho:aW C μ s.heap (μ ++ [p]) s.heap\/True->(∀ v a,VR C.ghost μ s.heap v a->VR C.ghost (μ ++ [p]) s.heap v a)->(∀ vs xs,VRs C.ghost μ s.heap vs xs->VRs C.ghost (μ ++ [p]) s.heap vs xs)->OR C (μ ++ [p]) s.heap p o) :
  (∀ {μ0:Mu},Ext C W μ0 h0 μ s.heap->Ext C W μ0 h0 (μ ++ [p]) s.heap)/\HR C (μ ++ [p]) (σ ++ [o]) s:=by
 have hlen:∀ (i:Nat) (q:Addr × Addr),(μ ++ [p])[i]? = some q->(i < μ.length/\μ[i]? = some q)\/(i = μ.length/\q = p):=by
  intro i q e
  by_cases hl:i < μ.length
  .rw [List.getElem?_append_left hl] at e; exact .inl ⟨hl,e⟩
  .rw [List.getElem?_append_right (Nat.le_of_not_lt hl)] at e
   have hi:i - μ.length = 0:=by
    have:=(List.getElem?_eq_some_iff.mp e).1
    simp at this; omega
   rw [hi] at e
   exact .inr ⟨by omega,by simpa using e.symm⟩
 have mono:(∀ v a,VR C.ghost μ s.heap v a->VR C.ghost (μ ++ [p]) s.heap v a)/\(∀ vs xs,VRs C.ghost μ s.heap vs xs->VRs C.ghost (μ ++ [p]) s.heap vs xs):=by
  have hk:∀ b o,s.heap.get? b = some o->s.heap.get? b = some o:=fun z0 z0 e=>e
  exact ⟨fun v a=>VR.more [p] , fun vs xs=>VRs.more [p]⟩
 refine ⟨fun {μ0} x=>⟨?_,x.size,fun i q hi e=>?_,x.keep⟩,⟨H.gens,H.os,H.stay,H.gstay,by simp [H.len],fun i q o' e1 e2=>?_,fun i j q r e1 e2 hne=>?_,fun i q e hi=>?_,fun i q e=>?_,H.frames,fun i q e=>?_,H.tabs,H.tabs0,H.h0f,H.h0k⟩⟩
 .obtain ⟨ν,rfl⟩:=x.pre
  exact ⟨ν ++ [p],by simp⟩
 .rcases hlen i q e with ⟨_,e'⟩ | ⟨_,rfl⟩
  .exact x.new i q hi e'
  .exact hp
 .rcases hlen i q e1 with ⟨hl,e1'⟩ | ⟨hl,rfl⟩
  .rw [List.getElem?_append_left (H.len ▸ hl)] at e2
   exact OR.more [p] (H.obj i q o' e1' e2)
  .rw [hl,H.len,List.getElem?_append_right (Nat.le_refl _)] at e2
   simp at e2
   subst e2
   exact ho (.inr trivial) mono.1 mono.2
 .rcases hlen i q e1 with ⟨hl,e1'⟩ | ⟨hl,rfl⟩
  .rcases hlen j r e2 with ⟨hl2,e2'⟩ | ⟨hl2,rfl⟩
   .exact H.sep i j q r e1' e2' hne
   .exact hmu i q e1'
  .rcases hlen j r e2 with ⟨hl2,e2'⟩ | ⟨hl2,rfl⟩
   .obtain ⟨a,b,c,d⟩:=hmu j r e2'
    exact ⟨Ne.symm a,Ne.symm c,Ne.symm b,Ne.symm d⟩
   .omega
 .rcases hlen i q e with ⟨hl,e'⟩ | ⟨hl,rfl⟩
  .exact H.new i q e' hi
  .exact hb
 .rcases hlen i q e with ⟨hl,e'⟩ | ⟨hl,rfl⟩
  .exact H.own i q e'
  .refine ⟨?_,?_⟩
   .induction hq:C.ghost.get? q.1 using Option.casesOn with
    | none=>rfl
    | some o'=>have:=H.gstay _ _ hq; rw [hb.1] at this; cases this
   .induction hq:C.ghost.get? q.2 using Option.casesOn with
    | none=>rfl
    | some o'=>have:=H.gstay _ _ hq; rw [hb.2] at this; cases this
 .rcases hlen i q e with ⟨hl,e'⟩ | ⟨hl,rfl⟩
  .exact H.frm i q e'
  .exact hfl
noncomputable def af {α β:Type} (C:Cf) (A:Around) (W:Addr->Prop) (X:Value->Shared->Prop) (μ:Mu) (σ:ac) (s:Shared) (R:Mu->Shared->β->α->Prop) (t:Sem β) (m:MM α):Prop :=
 match m σ with
 | .ok a σ'=>∀ (Q:β->Shared->Prop) (E:Value->Shared->Prop),(∀ μ' b s',Ext C W μ s.heap μ' s'.heap->HR C μ' σ' s'->R μ' s' b a->Q b s')->wpAny (model C.prog C.w) A t Q E s
 | .exc=>∀ (Q:β->Shared->Prop) (E:Value->Shared->Prop),(∀ e s',X e s'->E e s')->wpAny (model C.prog C.w) A t Q E s
 | .stuck=>True
section
variable {α β α' β':Type} {C:Cf} {A:Around} {W:Addr->Prop} {X:Value->Shared->Prop} {μ:Mu} {σ:ac} {s:Shared} {R:Mu->Shared->β->α->Prop} {R':Mu->Shared->β'->α'->Prop}
 {t:Sem β} {m:MM α} {f:β->Sem β'} {g:α->MM α'}
theorem aM {W₁:Addr->Prop} (hw:∀ b,W₁ b->W b) (h:af C A W₁ X μ σ s R t m) (k:∀ μ' σ' s' b a,Ext C W₁ μ s.heap μ' s'.heap->HR C μ' σ' s'->R μ' s' b a->af C A W X μ' σ' s' R' (f b) (g a)) :
  af C A W X μ σ s R' (t >>= f) (m >>= g):=by
 unfold af at h ⊢
 show match (MM.bind m g) σ with | .ok a σ'=>_ | .exc=>_ | .stuck=>_
 unfold MM.bind
 induction hm:m σ using Out.casesOn with
 | stuck=>trivial
 | exc =>
  rw [hm] at h
  intro Q E hE
  exact wpAny_bind (h _ _ hE)
 | ok a σ' =>
  rw [hm] at h
  dsimp only at h ⊢
  induction hg:g a σ' using Out.casesOn with
  | stuck=>trivial
  | exc =>
   intro Q E hE
   refine wpAny_bind (h _ _ fun μ' b s' x H r=>?_)
   have:=k μ' σ' s' b a x H r
   unfold af at this
   rw [hg] at this
   exact this _ _ hE
  | ok a' σ'' =>
   intro Q E hQ
   refine wpAny_bind (h _ _ fun μ' b s' x H r=>?_)
   have:=k μ' σ' s' b a x H r
   unfold af at this
   rw [hg] at this
   exact this _ _ fun μ'' b' s'' x' H' r'=>hQ μ'' b' s'' ((x.mono hw).trans x') H' r'
theorem aq (h:af C A W X μ σ s R t m) (k:∀ μ' σ' s' b a,Ext C W μ s.heap μ' s'.heap->HR C μ' σ' s'->R μ' s' b a->af C A W X μ' σ' s' R' (f b) (g a)) :
  af C A W X μ σ s R' (t >>= f) (m >>= g):=aM (fun z0 q=>q) h k
theorem bq {t':Sem β} (e:∀ Q E,wpAny (model C.prog C.w) A t' Q E s->wpAny (model C.prog C.w) A t Q E s) (h:af C A W X μ σ s R t' m):af C A W X μ σ s R t m:=by
 unfold af at h ⊢
 induction hm:m σ using Out.casesOn with
 | stuck=>trivial
 | exc=>rw [hm] at h; exact fun Q E hE=>e _ _ (h Q E hE)
 | ok a σ'=>rw [hm] at h; exact fun Q E hQ=>e _ _ (h Q E hQ)
theorem ak (h:m σ = .stuck):af C A W X μ σ s R t m:=by unfold af; rw [h]; trivial
theorem ae:af C A W X μ σ s R t (MM.stuck:MM α):=trivial
theorem aA {a:α} {σ':ac} (e:m σ = .ok a σ') (h:∀ (Q:β->Shared->Prop) (E:Value->Shared->Prop),(∀ μ' b s',Ext C W μ s.heap μ' s'.heap->HR C μ' σ' s'->R μ' s' b a->Q b s')->wpAny (model C.prog C.w) A t Q E s):af C A W X μ σ s R t m:=by
 unfold af; rw [e]; exact h
theorem aI {a:α} {b:β} (H:HR C μ σ s) (h:R μ s b a):af C A W X μ σ s R (pure b) (MM.pure a) :=
 aA rfl fun z0 z0 hQ=>wpAny_pure (hQ μ b s Ext.refl H h)
theorem aj {p:Bool} {n:Unit->MM α} (h:p = true->af C A W X μ σ s R t (n ())):af C A W X μ σ s R t (MM.guard p >>= n):=by
 show af _ _ _ _ _ _ _ _ _ (MM.bind (MM.guard p) n)
 induction hp:p using Bool.casesOn with
 | true =>
  have:=h hp
  unfold af at this ⊢
  exact this
 | false=>unfold af MM.bind MM.guard; simp
theorem iK {o:Option α'} {n:α'->MM α} (h:∀ a,o = some a->af C A W X μ σ s R t (n a)):af C A W X μ σ s R t (MM.opt o >>= n):=by
 show af _ _ _ _ _ _ _ _ _ (MM.bind (MM.opt o) n)
 induction ho:o using Option.casesOn with
 | some a=>have:=h a ho; unfold af at this ⊢; exact this
 | none=>exact ak rfl
theorem oZ {o:MM α'} {n:α'->MM α} (h:∀ a,o σ = .ok a σ->af C A W X μ σ s R t (n a)) (hne:(∃ a,o σ = .ok a σ)\/o σ = .stuck):af C A W X μ σ s R t (o >>= n):=by
 show af _ _ _ _ _ _ _ _ _ (MM.bind o n)
 rcases hne with ⟨a,e⟩ | e
 .have:=h a e
  unfold af at this ⊢
  unfold MM.bind
  rw [e]
  exact this
 .unfold af MM.bind; rw [e]; trivial
theorem oX {R₂:Mu->Shared->β->α->Prop} (h:af C A W X μ σ s R t m) (hR:∀ μ' s' b a,R μ' s' b a->R₂ μ' s' b a):af C A W X μ σ s R₂ t m:=by
 unfold af at h ⊢
 induction hm:m σ using Out.casesOn with
 | stuck=>trivial
 | exc=>rw [hm] at h; exact h
 | ok a σ'=>rw [hm] at h; exact fun Q E hQ=>h Q E fun μ' b s' x H r=>hQ μ' b s' x H (hR _ _ _ _ r)
theorem jH {W':Addr->Prop} (hw:∀ b,W b->W' b) (h:af C A W X μ σ s R t m):af C A W' X μ σ s R t m:=by
 unfold af at h ⊢
 induction hm:m σ using Out.casesOn with
 | stuck=>trivial
 | exc=>rw [hm] at h; exact h
 | ok a σ'=>rw [hm] at h; exact fun Q E hQ=>h Q E fun μ' b s' x H r=>hQ μ' b s' (x.mono hw) H r
theorem aG {vs:List Value} (h:af C A W X μ σ s R t m):af C A W X μ σ s R (holding vs t) m:=bq (fun z0 z0=>wpAny_holding) h
theorem av {pos:Pos} {k:Unit->Sem β} (h:af C A W X μ σ s R (k ()) m):af C A W X μ σ s R (standAt pos >>= k) m:=bq (fun z0 z0 q=>wpAny_bind (wpAny_standAt q)) h
end
structure ax (C:Cf) (c:Ctx) (env:Env) (μ:Mu) (h:Heap):Prop where
 kind:env.scope.kind = .function
 glob:env.globals = mainGlobals
 blt:env.builtins = builtinsNs
 kLoc:∀ x,c.kind x = some .local->env.kindOf x = some .local
 kCell:∀ x,c.kind x = some .cell->env.kindOf x = some .cell
 kFree:∀ x,c.kind x = some .free->env.kindOf x = some .free\/env.kindOf x = some .cell
 kGlob:∀ x,c.kind x = some .globalImplicit->env.kindOf x = some .globalImplicit
 locs:∃ m,h.Ns env.locals m/\∀ x a,c.loc x = some a->∃ v,m x = some v/\VR C.ghost μ h v a
 off:(∀ (i:Nat) (p:Addr × Addr),μ[i]? = some p->p.1 ≠ env.locals/\p.2 ≠ env.locals)/\C.base.get? env.locals = none/\env.locals ∉ C.tb/\env.locals ∉ C.h0fl
 cells:∀ x,c.kind x = some .cell\/c.kind x = some .free->∃ ad,env.cells.lookup x = some ad/\(∃ cv,h.IsCell ad cv/\∀ a,c.cel x = some a->∃ v,cv = some v/\VR C.ghost μ h v a)/\(c.kind x = some .cell->C.base.get? ad = none)
 apart:∀ x y ad,env.cells.lookup x = some ad->env.cells.lookup y = some ad->x = y
 allc:∀ x ad,env.cells.lookup x = some ad->∃ cv,h.IsCell ad cv
 frame:∃ e0 outer L,C.fs = e0 :: outer/\e0.frame = some L/\env.frame = some L
 fz:c.fz = C.fz
 code:c.tab = true->∃ cc P,env.code = .ref cc/\CodeHd C.ghost cc P/\P ∈ C.tb/\C.tq P = env.qual ++ "<lambda>"
section
variable {C:Cf} {μ:Mu} {σ:ac} {s:Shared} {c:Ctx} {env:Env}
theorem ax.ns (V:ax C c env μ s.heap):∃ m,s.heap.Ns env.locals m:=let ⟨m,h,_⟩:=V.locs; ⟨m,h⟩
theorem ax.notDm (V:ax C c env μ s.heap):¬ Dm C μ env.locals:=by
 rintro (⟨_,q⟩ | ⟨i,p,_,hp,q | q⟩)
 .exact V.off.2.2.1 q
 .exact (V.off.1 i p hp).1 q.symm
 .exact (V.off.1 i p hp).2 q.symm
theorem HR.cell_off (H:HR C μ σ s) {ad:Addr} {cv:Option Value} (x:s.heap.IsCell ad cv):¬ Dm C μ ad/\ad ∉ C.fl:=by
 obtain ⟨o,h1,h2⟩:=x
 constructor
 .rintro (⟨_,hq⟩ | ⟨i,p,_,hp,hb⟩)
  .obtain ⟨ps,h3,_⟩:=H.tabs ad hq
   rw [h3] at h1; injection h1 with h1; rw [<- h1] at h2; exact nomatch h2
  .obtain ⟨o',_,hor⟩:=H.objAt hp
   induction o' using AO.casesOn with
   | list xs =>
    obtain ⟨q,vs,n,e,_⟩:=hor
    rw [q] at hb
    obtain rfl:ad = p.1:=by rcases hb with h | h <;> exact h
    rw [e] at h1; injection h1 with h1; rw [<- h1] at h2; exact nomatch h2
   | wset ws =>
    obtain ⟨q,_,xs,⟨o3,es,ep,e,_,e3,_⟩,_⟩:=hor
    rw [q] at hb
    obtain rfl:ad = p.1:=by rcases hb with h | h <;> exact h
    rw [e] at h1; injection h1 with h1; rw [h1,h2] at e3; exact nomatch e3
   | sdict es =>
    obtain ⟨q,o3,kvs,e,⟨es',ep,_,e3,_⟩,_⟩:=hor
    rw [q] at hb
    obtain rfl:ad = p.1:=by rcases hb with h | h <;> exact h
    rw [e] at h1; injection h1 with h1; rw [h1,h2] at e3; exact nomatch e3
   | inst cn at' =>
    obtain ⟨e,es,n,e2,_⟩:=hor
    rcases hb with rfl | rfl
    .rw [e] at h1; injection h1 with h1; rw [<- h1] at h2; exact nomatch h2
    .rw [e2] at h1; injection h1 with h1; rw [<- h1] at h2; exact nomatch h2
 .intro hf
  obtain ⟨env,he,hfr⟩:=List.mem_filterMap.mp hf
  obtain ⟨_,L,m,h3,⟨o',es,ep,h4,h5,_⟩,_⟩:=H.frames env he
  rw [h3] at hfr; injection hfr with hfr; subst hfr
  rw [h4] at h1; injection h1 with h1; rw [h1,h2] at h5; exact nomatch h5
theorem Ns.ext {W:Addr->Prop} {μ':Mu} {h h':Heap} {L:Addr} {m:Str->Option Value} (x:Ext C W μ h μ' h') (hn:h.Ns L m) (hd:¬ Dm C μ L) (hw:¬ W L):h'.Ns L m:=by
 refine Ns.slots hn fun o e=>?_
 have k:=x.keep L o e hd hw
 by_cases hf:L ∈ C.fl
 .exact k.2 hf
 .exact ⟨o.slots,k.1 hf⟩
theorem ax.ext (H:HR C μ σ s) {W:Addr->Prop} (hW:bX W s.heap) {μ':Mu} {h':Heap} (x:Ext C W μ s.heap μ' h') (V:ax C c env μ s.heap) (hl:¬ W env.locals) (hcl:∀ y ad,env.cells.lookup y = some ad->¬ W ad):ax C c env μ' h':=by
 refine ⟨V.kind,V.glob,V.blt,V.kLoc,V.kCell,V.kFree,V.kGlob,?_,⟨fun i p e=>?_,V.off.2.1,V.off.2.2.1,V.off.2.2.2⟩,fun y hy=>?_,V.apart,fun y ad e=>?_,V.frame,V.fz,V.code⟩
 .obtain ⟨m,hn,hv⟩:=V.locs
  exact ⟨m,Ns.ext x hn V.notDm hl,fun y a ha=>let ⟨v,h1,h2⟩:=hv y a ha; ⟨v,h1,VR.ext H hW x h2⟩⟩
 .by_cases hi:i < μ.length
  .obtain ⟨ν,rfl⟩:=x.pre
   rw [List.getElem?_append_left hi] at e
   exact V.off.1 i p e
  .obtain ⟨n1,n2⟩:=x.new i p (Nat.le_of_not_lt hi) e
   obtain ⟨m,hn⟩:=V.ns
   have:=hn.lt
   exact ⟨Nat.ne_of_gt (Nat.lt_of_lt_of_le this n1),Nat.ne_of_gt (Nat.lt_of_lt_of_le this n2)⟩
 .obtain ⟨ad,h1,⟨cv,h2,h3⟩,h4⟩:=V.cells y hy
  obtain ⟨d1,d2⟩:=H.cell_off h2
  refine ⟨ad,h1,⟨cv,?_,fun a ha=>let ⟨v,q1,q2⟩:=h3 a ha; ⟨v,q1,VR.ext H hW x q2⟩⟩,h4⟩
  obtain ⟨o,e1,e2⟩:=h2
  exact ⟨o,(x.keep ad o e1 d1 (hcl y ad h1)).1 d2,e2⟩
 .obtain ⟨cv,h2⟩:=V.allc y ad e
  obtain ⟨d1,d2⟩:=H.cell_off h2
  obtain ⟨o,e1,e2⟩:=h2
  exact ⟨cv,o,(x.keep ad o e1 d1 (hcl y ad e)).1 d2,e2⟩
theorem ax.ext0 (H:HR C μ σ s) {μ':Mu} {h':Heap} (x:aW C μ s.heap μ' h') (V:ax C c env μ s.heap):ax C c env μ' h' :=
 V.ext H (fun z0 z0 q=>q.elim) x (fun q=>q) fun z0 z0 z0 q=>q
noncomputable def aO (env:Env) (b:Addr):Prop:=b = env.locals\/∃ y,env.cells.lookup y = some b
noncomputable def eB (c:Ctx) (env:Env) (b:Addr):Prop:=b = env.locals\/∃ y,c.kind y = some .cell/\env.cells.lookup y = some b
theorem eB.wenv {c:Ctx} {env:Env} {b:Addr} (h:eB c env b):aO env b:=h.elim .inl fun ⟨y,_,q⟩=>.inr ⟨y,q⟩
theorem eB.sc {c c':Ctx} {env:Env} {b:Addr} (e:c'.sc = c.sc) (h:eB c' env b):eB c env b:=h.elim .inl fun ⟨y,q,q'⟩=>.inr ⟨y,by unfold Ctx.kind at q ⊢; rw [<- e]; exact q,q'⟩
structure Glo (g:Heap) (mg mb:Str->Option Value):Prop where
 gl:g.Ns mainGlobals mg
 bl:g.Ns builtinsNs mb
 mods:g.get? sysModules ≠ none
 con:∀ x a,consts.lookup x = some a->∃ v,mg x = some v/\VR g [] g v a
 bmain:∃ bm ob,mg "__builtins__" = some (.ref bm)/\bm ≠ builtinsNs/\g.get? bm = some ob/\ob.cls = .type "module" /\ ob.dict = some builtinsNs/\ob.data = .plain
end
section
variable {C:Cf} {A:Around} {W:Addr->Prop} {X:Value->Shared->Prop} {μ:Mu} {σ:ac} {s:Shared} {c:Ctx} {env:Env}
noncomputable abbrev RV (C:Cf):Mu->Shared->Value->AV->Prop:=fun μ s v a=>VR C.ghost μ s.heap v a
theorem VR.ofGhost {g h:Heap} {μ:Mu} (k:g.StaysIn h) {v:Value} {a:AV} (x:VR g [] g v a):VR g μ h v a:=x.map (fun z0 z0 z0 e=>k _ _ e) (fun z0 z0 e=>absurd e (by simp)) fun z0 z0 z0 z0 z0 e=>k _ _ e
theorem VRs.ofGhost {g h:Heap} {μ:Mu} (k:g.StaysIn h) {vs:List Value} {xs:List AV} (x:VRs g [] g vs xs):VRs g μ h vs xs:=x.map fun z0 z0=>VR.ofGhost k
theorem HR.ghost (H:HR C μ σ s):C.ghost.StaysIn s.heap:=fun b o e=>H.stay b o (H.gstay b o e)
theorem oW {mg mb:Str->Option Value} (G:Glo C.ghost mg mb) (H:HR C μ σ s) (V:ax C c env μ s.heap) (x:Str) (pos:Pos) :
  af C A W X μ σ s (RV C) (eval (.Name x pos) env) (getName x c):=by
 unfold getName
 by_cases hd:x = "__debug__" \/ x = "__classdict__"
 .rw [if_pos hd]; exact ae
 rw [if_neg hd]
 have hd1:(x == ("__debug__" : Str)) = false:=beq_eq_false_iff_ne.mpr fun q=>hd (.inl q)
 have hd2:(x == ("__classdict__" : Str)) = false:=beq_eq_false_iff_ne.mpr fun q=>hd (.inr q)
 have fin:∀ (o:Option AV) (P:∀ a,o = some a->∃ v,VR C.ghost μ s.heap v a/\∀ (Q:Value->Shared->Prop) (E:Value->Shared->Prop),Q v s->wpAny (model C.prog C.w) A (loadName env x) Q E s),
   af C A W X μ σ s (RV C) (eval (.Name x pos) env) (MM.opt o):=by
  intro o P
  induction o using Option.casesOn with
  | none=>exact ak rfl
  | some a =>
   refine aA rfl fun Q E hQ=>?_
   obtain ⟨v,hv,hw⟩:=P a rfl
   exact wpAny_Name (hw Q E (hQ μ v s Ext.refl H hv)) hd1
 induction hk:c.kind x using Option.casesOn with
 | none=>exact ae
 | some k =>
  cases k with
  | «local» =>
   refine fin _ fun a ha=>?_
   obtain ⟨m,hn,hv⟩:=V.locs
   obtain ⟨v,h1,h2⟩:=hv x a ha
   exact ⟨v,h2,fun Q E q=>wpAny_loadName_local V.kind (V.kLoc x hk) hn h1 q⟩
  | cell =>
   refine fin _ fun a ha=>?_
   obtain ⟨ad,h1,⟨cv,h2,h3⟩,_⟩:=V.cells x (.inl hk)
   obtain ⟨v,rfl,h4⟩:=h3 a ha
   exact ⟨v,h4,fun Q E q=>wpAny_loadName_cell V.kind (V.kCell x hk) h1 h2 q⟩
  | free =>
   refine fin _ fun a ha=>?_
   obtain ⟨ad,h1,⟨cv,h2,h3⟩,_⟩:=V.cells x (.inr hk)
   obtain ⟨v,rfl,h4⟩:=h3 a ha
   refine ⟨v,h4,fun Q E q=>?_⟩
   rcases V.kFree x hk with h5 | h5
   .exact wpAny_loadName_free V.kind h5 h1 h2 q hd2
   .exact wpAny_loadName_cell V.kind h5 h1 h2 q
  | globalExplicit=>exact ae
  | globalImplicit =>
   refine fin _ fun a ha=>?_
   obtain ⟨v,h1,h2⟩:=G.con x a ha
   refine ⟨v,h2.ofGhost H.ghost,fun Q E q=>?_⟩
   unfold loadName
   simp only [Env.blockKind,V.kind,V.kGlob x hk,ScopeKind.isAnnotationScope,Bool.false_and,Bool.false_eq_true,if_false]
   exact loadGlobal_global (V.glob ▸ G.gl.keeps H.ghost) h1 q
theorem jK (H:HR C μ σ s) (V:ax C c env μ s.heap) (x:Str) {v:Value} {a:AV} (hv:VR C.ghost μ s.heap v a) :
  af C A (eB c env) X μ σ s (fun μ' s' z0 c'=>ax C c' env μ' s'.heap/\c'.sc = c.sc/\c'.fz = c.fz) (storeName env x v) (setName x a c):=by
 unfold setName
 induction hk:c.kind x using Option.casesOn with
 | none=>exact ae
 | some k =>
  cases k with
  | «local» =>
   refine aA rfl fun Q E hQ=>?_
   obtain ⟨m,hn,hv'⟩:=V.locs
   refine wpAny_storeName_local (V.kLoc x hk) hn (fun h' hn' hs=>?_) (by rw [V.kind]; rfl)
   obtain ⟨xx,H'⟩:=H.other (W:=eB c env) (s.toks + 1) hs (.inl rfl) (fun o e q=>by
    obtain ⟨o',es,ep,e1,e2,_⟩:=hn
    rw [e1] at e; injection e with e; subst e; exact q.1.1 _ _ e2) V.off.2.1 V.off.1 (fun z0=>⟨_,hn'⟩) V.off.2.2.1 V.off.2.2.2
   have hW:bX (fun b=>b = env.locals) s.heap:=fun b o q e q'=>by
    subst q
    obtain ⟨o',es,ep,e1,e2,_⟩:=hn
    rw [e1] at e; injection e with e; subst e; exact q'.1.1 _ _ e2
   have x1:Ext C (fun b=>b = env.locals) μ s.heap μ h':=Ext.setW hs rfl
   refine hQ μ () _ xx H' ⟨⟨V.kind,V.glob,V.blt,V.kLoc,V.kCell,V.kFree,V.kGlob,⟨_,hn',fun y b hb=>?_⟩,V.off,fun y hy=>?_,V.apart,fun y ad e=>?_,V.frame,V.fz,V.code⟩,rfl,rfl⟩
   .simp only [upd] at hb
    by_cases hyx:y = x
    .rw [if_pos hyx] at hb ⊢
     injection hb with hb; subst hb
     exact ⟨v,rfl,VR.ext H hW x1 hv⟩
    .rw [if_neg hyx] at hb ⊢
     obtain ⟨v',h1,h2⟩:=hv' y b hb
     exact ⟨v',h1,VR.ext H hW x1 h2⟩
   .obtain ⟨ad,h1,⟨cv,h2,h3⟩,h4⟩:=V.cells y hy
    have hne:ad ≠ env.locals:=fun q=>by
     obtain ⟨o',es,ep,e1,e2,_⟩:=hn
     obtain ⟨o2,e3,e4⟩:=h2
     rw [q,e1] at e3; injection e3 with e3; rw [<- e3,e2] at e4; exact nomatch e4
    exact ⟨ad,h1,⟨cv,h2.sameBut hs hne,fun b hb=>let ⟨v',q1,q2⟩:=h3 b hb; ⟨v',q1,VR.ext H hW x1 q2⟩⟩,h4⟩
   .obtain ⟨cv,h2⟩:=V.allc y ad e
    have hne:ad ≠ env.locals:=fun q=>by
     obtain ⟨o',es,ep,e1,e2,_⟩:=hn
     obtain ⟨o2,e3,e4⟩:=h2
     rw [q,e1] at e3; injection e3 with e3; rw [<- e3,e2] at e4; exact nomatch e4
    exact ⟨cv,h2.sameBut hs hne⟩
  | cell =>
   refine aA rfl fun Q E hQ=>?_
   obtain ⟨ad,h1,⟨cv,h2,h3⟩,h4⟩:=V.cells x (.inl hk)
   refine wpAny_storeName_cell V.kind (V.kCell x hk) h1 h2 fun h' hc' hs=>?_
   obtain ⟨d1,d2⟩:=H.cell_off h2
   have hown:∀ (i:Nat) (p:Addr × Addr),μ[i]? = some p->p.1 ≠ ad/\p.2 ≠ ad:=by
    intro i p e
    obtain ⟨o2,e3,e4⟩:=h2
    obtain ⟨o',_,hor⟩:=H.objAt e
    induction o' using AO.casesOn with
    | list xs =>
     obtain ⟨q,vs,n,e5,_⟩:=hor
     have:p.1 ≠ ad:=fun q'=>by rw [q',e3] at e5; injection e5 with e5; rw [e5] at e4; exact nomatch e4
     exact ⟨this,q ▸ this⟩
    | wset ws =>
     obtain ⟨q,_,xs,⟨o3,es,ep,e5,_,e6,_⟩,_⟩:=hor
     have:p.1 ≠ ad:=fun q'=>by rw [q',e3] at e5; injection e5 with e5; rw [<- e5,e4] at e6; exact nomatch e6
     exact ⟨this,q ▸ this⟩
    | sdict es =>
     obtain ⟨q,o3,kvs,e5,⟨es',ep,_,e6,_⟩,_⟩:=hor
     have:p.1 ≠ ad:=fun q'=>by rw [q',e3] at e5; injection e5 with e5; rw [<- e5,e4] at e6; exact nomatch e6
     exact ⟨this,q ▸ this⟩
    | inst cn at' =>
     obtain ⟨e5,es,n,e6,_⟩:=hor
     exact ⟨fun q'=>(by rw [q',e3] at e5; injection e5 with e5; rw [e5] at e4; exact (nomatch e4)),fun q'=>(by rw [q',e3] at e6; injection e6 with e6; rw [e6] at e4; exact (nomatch e4))⟩
   have hwild:∀ o,s.heap.get? ad = some o->¬ ff o:=fun o e q=>by
    obtain ⟨o2,e3,e4⟩:=h2
    rw [e3] at e; injection e with e; subst e; exact q.2.1 _ e4
   have htb:ad ∉ C.tb:=fun q=>by
    obtain ⟨ps,e5,_⟩:=H.tabs ad q
    obtain ⟨o2,e3,e4⟩:=h2
    rw [e3] at e5; injection e5 with e5; rw [e5] at e4; exact nomatch e4
   obtain ⟨xx,H'⟩:=H.other (W:=eB c env) s.toks hs (.inr ⟨x,hk,h1⟩) hwild (h4 hk) hown (fun q=>absurd q d2) htb (fun q=>d2 (H.h0f _ q))
   have hW:bX (fun b=>b = ad) s.heap:=fun b o q e=>by subst q; exact hwild o e
   have x1:Ext C (fun b=>b = ad) μ s.heap μ h':=Ext.setW hs rfl
   have hne:env.locals ≠ ad:=fun q=>by
    obtain ⟨m,o',es,ep,e1,e2,_⟩:=V.ns
    obtain ⟨o2,e3,e4⟩:=h2
    rw [<- q,e1] at e3; injection e3 with e3; rw [<- e3,e2] at e4; exact nomatch e4
   refine hQ μ () _ xx H' ⟨⟨V.kind,V.glob,V.blt,V.kLoc,V.kCell,V.kFree,V.kGlob,?_,V.off,fun y hy=>?_,V.apart,fun y ad' e=>?_,V.frame,V.fz,V.code⟩,rfl,rfl⟩
   .obtain ⟨m,hn,hv'⟩:=V.locs
    exact ⟨m,hn.sameBut hs hne,fun y b hb=>let ⟨v',q1,q2⟩:=hv' y b hb; ⟨v',q1,VR.ext H hW x1 q2⟩⟩
   .obtain ⟨ad',g1,⟨cv',g2,g3⟩,g4⟩:=V.cells y hy
    by_cases hyx:y = x
    .subst hyx
     rw [h1] at g1; injection g1 with g1; subst g1
     refine ⟨ad,h1,⟨some v,hc',fun b hb=>?_⟩,g4⟩
     simp only [upd,if_true] at hb
     injection hb with hb; subst hb
     exact ⟨v,rfl,VR.ext H hW x1 hv⟩
    .have hne':ad' ≠ ad:=fun q=>hyx (V.apart y x ad (q ▸ g1) h1)
     refine ⟨ad',g1,⟨cv',g2.sameBut hs hne',fun b hb=>?_⟩,g4⟩
     simp only [upd,if_neg hyx] at hb
     obtain ⟨v',q1,q2⟩:=g3 b hb
     exact ⟨v',q1,VR.ext H hW x1 q2⟩
   .by_cases had:ad' = ad
    .exact ⟨_,had ▸ hc'⟩
    .obtain ⟨cv',g2⟩:=V.allc y ad' e
     exact ⟨cv',g2.sameBut hs had⟩
  | free=>exact ae
  | globalExplicit=>exact ae
  | globalImplicit=>exact ae
end
noncomputable def XP (C:Cf) (e:Value) (s:Shared):Prop :=
 ∃ ea a0,e = .ref ea/\(Heap.FlyingW C.base C.fs ea (.ref (C.cls "GrammarError")) a0 s.heap\/∃ e0 outer L,C.fs = e0 :: outer/\e0.frame = some L/\Heap.HeldW C.base C.fs ea (.ref (C.cls "GrammarError")) a0 L s.heap)/\s.gens = #[]/\s.os = C.os /\
  ∀ L ∈ C.h0fl,∀ o,C.h0.get? L = some o->∃ sl,s.heap.get? L = some { o with slots:=sl }
structure Rm (C:Cf) (A:Around) (n:Nat):Prop where
 handled:A.handled = none
 frames:A.frames = some C.fs
 depth:A.depth + 4 * n + 10 < recursionLimit
 units:A.units + 60 * n + 60 < cLine
theorem Rm.le {C:Cf} {A:Around} {n m:Nat} (R:Rm C A n) (h:m ≤ n):Rm C A m:=⟨R.handled,R.frames,Nat.lt_of_le_of_lt (Nat.add_le_add_right (Nat.add_le_add_left (Nat.mul_le_mul_left 4 h) _) 10) R.depth,Nat.lt_of_le_of_lt (Nat.add_le_add_right (Nat.add_le_add_left (Nat.mul_le_mul_left 60 h) _) 60) R.units⟩
theorem Rm.un {C:Cf} {A:Around} {n k:Nat} (R:Rm C A (n + 1)) (hk:k ≤ 60):A.units + k + 60 * n + 60 < cLine:=by have:=R.units; omega
theorem Rm.u0 {C:Cf} {A:Around} {n k:Nat} (R:Rm C A (n + 1)) (hk:k ≤ 60):A.units + 60 + k < cLine:=Nat.lt_of_le_of_lt (Nat.le_add_right _ (60 * n)) (by have:=R.un hk; rwa [Nat.add_right_comm _ (60 * n),Nat.add_right_comm _ k 60] at this)
theorem Rm.de {C:Cf} {A:Around} {n k:Nat} (R:Rm C A (n + 1)) (hk:k ≤ 4):A.depth + k + 4 * n + 10 < recursionLimit:=by have:=R.depth; omega
theorem Rm.d0 {C:Cf} {A:Around} {n k:Nat} (R:Rm C A (n + 1)) (hk:k ≤ 4):A.depth + k < recursionLimit:=Nat.lt_of_le_of_lt (Nat.le_trans (Nat.le_add_right _ (4 * n)) (Nat.le_add_right _ 10)) (R.de hk)
noncomputable abbrev W0:Addr->Prop:=fun z0=>False
noncomputable def RF (C:Cf) (c:Ctx) (env:Env):Mu->Shared->Flow->Fl->Prop:=fun μ s f a =>
 match f,a with
 | .next,.next c'=>ax C c' env μ s.heap/\c'.sc = c.sc/\c'.fz = c.fz
 | .ret v,.ret a=>VR C.ghost μ s.heap v a
 | _,_=>False
structure dk (K:Frag) (D:Addr) (x:Str):Prop where
 get:plainGet K D x = true
 dict:hasDictIn K D = true
 find:∃ a,findIn K (.ref D) x = some a/\noGet K a = true
 set:findIn K (.ref D) "__setattr__" = some (some (.builtin "object.__setattr__"))
 over:plainOver K D = true
 taker:takerIn K D x = some none
structure tS (g:Heap) (d:jo) (o:Obj) (fd:FuncData):Prop where
 dat:o.data = .func fd
 scope:fd.scope = d.scope
 body:fd.body = .stmts d.body
 clo:fd.closure = []
 glob:fd.globals = mainGlobals
 blt:fd.builtins = builtinsNs
 code:g.CodeRec fd.code fd.qualname
 co:d.scope.isCoroutine = false
 gen:d.scope.isGenerator = false
 kind:d.scope.kind = .function
 nofree:∀ x,d.scope.names.lookup x ≠ some .free
 pars:∀ x ∈ d.params,d.scope.names.lookup x = some .local\/d.scope.names.lookup x = some .cell
 binds:∀ (s:Shared) (μ:Mu) (vs:List Value) (xs ys:List AV),g.StaysIn s.heap->VRs g μ s.heap vs xs->withDefaults d xs = some ys->∃ ws,VRs g μ s.heap ws ys/\BindsTo s fd ⟨vs,[]⟩ (d.params.zip ws)
noncomputable def bY (g:Heap) (fa:Addr) (f:Str):Prop:=∃ d o fd,fnTab f = some d/\g.get? fa = some o/\tS g d o fd
noncomputable def bval (f:Str):Value :=
 if f = "len" then .builtin "len" else if f = "min" then .builtin "min" else if f = "sum" then .builtin "sum" else if f = "sorted" then .builtin "sorted"
 else if f = "abs" then .builtin "abs" else if f = "max" then .builtin "max" else if f = "range" then .type "range" else if f = "tuple" then .type "tuple"
 else if f = "list" then .type "list" else if f = "dict" then .type "dict" else .type "int"
structure qv (K:Frag) (mg mb:Str->Option Value) (cls fn:Str->Addr):Prop where
 fns:∀ f,fnNames.contains f = true->mg f = some (.ref (fn f))
 clss:∀ f,clsNames.contains f = true->mg f = some (.ref (cls f))/\makesIn K (cls f) = true/\findIn K (.ref (cls f)) "__init__" = some (some (.ref (fn (f ++ ".__init__"))))/\typeIn K (.ref (fn (f ++ ".__init__"))) = some (.type "function")
 blts:∀ f,bltNames.contains f = true->mg f = none/\mb f = some (bval f)
 few:mg "need_few" = some (.ref (fn "need_few"))
 told:mg "_law_told" = some (.ref (fn "_law_told"))
 meth:∀ m,grammarMs.contains m = true->plainGet K (cls "Grammar") m = true/\findIn K (.ref (cls "Grammar")) m = some (some (.ref (fn ("Grammar." ++ m))))/\isFn K (.ref (fn ("Grammar." ++ m))) = true
inductive mc (g:Heap) (fa:Addr):Prop
 | mk (o:Obj) (fd:FuncData) (p1:_) (p2:_) (p3:_) (p4:_) (p5:_) (p6:_) (p7:_) (p8:_) (kd:_)
  (h1:g.get? fa = some o)
  (h2:o.data = .func fd)
  (h3:fd.body = .stmts [.Try [.Return (some (.Call (.Name "ask" p1) [] [] p2)) p3] [.ExceptHandler (some (.Name "GrammarError" p4)) none [.Return (some (.Constant .none kd p5)) p6] p7] [] [] p8])
  (h4:fd.closure = [])
  (h5:fd.globals = mainGlobals)
  (h6:fd.builtins = builtinsNs)
  (h7:g.CodeRec fd.code fd.qualname)
  (h8:fd.scope.isCoroutine = false)
  (h9:fd.scope.isGenerator = false)
  (h10:fd.scope.kind = .function)
  (h11:fd.scope.names.lookup ("ask" : Str) = some NameKind.local)
  (h12:fd.scope.names.lookup ("GrammarError" : Str) = some NameKind.globalImplicit)
  (h13:(∀ x ∈ fd.scope.names,x.2 ≠ NameKind.cell))
  (h14:∀ s v,BindsTo s fd ⟨[v],[]⟩ [(("ask" : Str),v)]):mc g fa
inductive jn (g:Heap) (fa:Addr):Prop
 | mk (o:Obj) (fd:FuncData) (p1:_) (p2:_) (p3:_) (p4:_) (p5:_) (p6:_) (p7:_) (p8:_) (p9:_) (p10:_) (p11:_) (p12:_) (p13:_) (p14:_)
  (h1:g.get? fa = some o)
  (h2:o.data = .func fd)
  (h3:fd.body = .stmts [.Expr (.Call (.Attribute (.Name "Exception" p1) "__init__" p2) [.Name "self" p3,.Name "what" p4] [] p5) p6,.Assign [.Attribute (.Name "self" p7) "what" p8] (.Name "what" p9) p10,.Assign [.Attribute (.Name "self" p11) "at" p12] (.Name "at" p13) p14])
  (h4:(p2.endLine == p5.line) = true)
  (h5:fd.closure = [])
  (h6:fd.globals = mainGlobals)
  (h7:fd.builtins = builtinsNs)
  (h8:g.CodeRec fd.code fd.qualname)
  (h9:fd.scope.isCoroutine = false)
  (h10:fd.scope.isGenerator = false)
  (h11:fd.scope.kind = .function)
  (h12:fd.scope.names.lookup ("self" : Str) = some NameKind.local)
  (h13:fd.scope.names.lookup ("what" : Str) = some NameKind.local)
  (h14:fd.scope.names.lookup ("at" : Str) = some NameKind.local)
  (h15:fd.scope.names.lookup ("Exception" : Str) = some NameKind.globalImplicit)
  (h16:(∀ x ∈ fd.scope.names,x.2 ≠ NameKind.cell))
  (h17:∀ s v w,g.StaysIn s.heap->BindsTo s fd ⟨[v,w],[]⟩ [(("self" : Str),v),(("what" : Str),w),(("at" : Str),.none)]):jn g fa
inductive qr (g:Heap) (G:Addr):Prop
 | mk (nm:_) (q:_) (N:_) (bs:_) (T:_) (hdct:_) (sn:_) (sub:_) (ab:_) (col:_) (dd:_) (k0:_) (k1:_) (k2:_) (k3:_) (k5:_) (h:g.get? G = some (excClassObj nm q G N bs [.ref T,.type "Exception", .type "BaseException", .type "object"] hdct sn sub ab col dd k0 k1 k2 k3 k5 "Exception.__new__")):qr g G
structure qt (K:Frag) (mg mb:Str->Option Value) (g:Heap) (G:Addr):Prop where
 obj:qr g G
 dict:hasDictIn K G = true
 set:findIn K (.ref G) "__setattr__" = some (some (.builtin "object.__setattr__"))
 what:takerIn K G "what" = some none
 at_:takerIn K G "at" = some none
 init:∃ fI,findIn K (.ref G) "__init__" = some (some (.ref fI))/\typeIn K (.ref fI) = some (.type "function")/\jn g fI
 exn:mg "Exception" = none/\mb "Exception" = some (.type "Exception")
inductive qq (g:Heap) (fa:Addr):Prop
 | mk (o:Obj) (fd:FuncData) (p1:_) (p2:_) (p3:_) (p4:_) (p5:_) (p6:_) (p7:_) (p8:_) (kd:_)
  (h1:g.get? fa = some o)
  (h2:o.data = .func fd)
  (h3:fd.body = .stmts [.If (.Compare (.Name "count" p1) [.Gt] [.Name "most" p2] p3) [.Raise (some (.Call (.Name "GrammarError" p4) [.Constant (.str "too many words") kd p5] [] p6)) none p7] [] p8])
  (h4:fd.closure = [])
  (h5:fd.globals = mainGlobals)
  (h6:fd.builtins = builtinsNs)
  (h7:g.CodeRec fd.code fd.qualname)
  (h8:fd.scope.isCoroutine = false)
  (h9:fd.scope.isGenerator = false)
  (h10:fd.scope.kind = .function)
  (h11:fd.scope.names.lookup ("count" : Str) = some NameKind.local)
  (h12:fd.scope.names.lookup ("most" : Str) = some NameKind.local)
  (h13:fd.scope.names.lookup ("GrammarError" : Str) = some NameKind.globalImplicit)
  (h14:(∀ x ∈ fd.scope.names,x.2 ≠ NameKind.cell))
  (h15:∀ s v w,BindsTo s fd ⟨[v,w],[]⟩ [(("count" : Str),v),(("most" : Str),w)]):qq g fa
structure Ok (C:Cf):Prop where
 fewfn:qq C.ghost (C.fn "need_few")
 toldfn:mc C.ghost (C.fn "_law_told")
 errg:C.mg "GrammarError" = some (.ref (C.cls "GrammarError"))
 errc:qt C.K C.mg C.mb C.ghost (C.cls "GrammarError")
 codes:∀ f o fd,tabFn f = true->C.ghost.get? (C.fn f) = some o->o.data = .func fd->∃ cc P,fd.code = .ref cc/\CodeHd C.ghost cc P/\P ∈ C.tb/\C.tq P = (fd.qualname ++ ".<locals>.") ++ "<lambda>"
 callee:qv C.K C.mg C.mb C.cls C.fn
 fns:∀ f,fnAll.contains f = true->bY C.ghost (C.fn f) f
 nolim:C.ghost.NoLimit
 glo:Glo C.ghost C.mg C.mb
 kin:C.K.In C.ghost
 cls:∀ c x,(attrsOf c).contains x = true->dk C.K (C.cls c) x
 h0d:∀ L ∈ C.h0fl,∀ o,C.h0.get? L = some o->∀ vs,o.data ≠ .fields vs
noncomputable def fe (C:Cf) (A:Around) (X:Value->Shared->Prop) (μ:Mu) (σ:ac) (s:Shared) (c:Code) (m:MM AV):Prop :=
 match m σ with
 | .ok a σ'=>∀ (RR:Result->Shared->Prop),(∀ μ' v s',aW C μ s.heap μ' s'.heap->HR C μ' σ' s'->VR C.ghost μ' s'.heap v a->RR (.ok (.ret v)) s')->codeAny (model C.prog C.w) A c RR s
 | .exc=>∀ (RR:Result->Shared->Prop),(∀ e s',X e s'->RR (.error e) s')->codeAny (model C.prog C.w) A c RR s
 | .stuck=>True
structure Snd (P:Cf->Prop) (r:Rc) (n:Nat):Prop where
 E:∀ (C:Cf) (A:Around) (μ:Mu) (σ:ac) (s:Shared) (c:Ctx) (env:Env) (e:Expr),P C->Rm C A n->HR C μ σ s->ax C c env μ s.heap ->
  af C A W0 (XP C) μ σ s (RV C) (eval e env) (r.E e c)
 T:∀ (C:Cf) (A:Around) (μ:Mu) (σ:ac) (s:Shared) (c:Ctx) (env:Env) (e:Expr),P C->Rm C A n->HR C μ σ s->ax C c env μ s.heap ->
  af C A W0 (XP C) μ σ s (fun z0 z0 b a=>b = a) (isTrue e env (eval e env)) (r.T e c)
 S:∀ (C:Cf) (A:Around) (μ:Mu) (σ:ac) (s:Shared) (c:Ctx) (env:Env) (st:Stmt),P C->Rm C A n->(∃ outer,C.fs = env :: outer)->HR C μ σ s->ax C c env μ s.heap ->
  af C A (aO env) (XP C) μ σ s (RF C c env) (exec st env) (r.S st c)
 U:∀ (C:Cf) (A:Around) (μ:Mu) (σ:ac) (s:Shared) (c:Ctx) (env:Env) (elt:Expr) (gens:List Comprehension) (sc:Scope) (pos px:Pos) (x:Str),P C->Rm C A n->HR C μ σ s->ax C c env μ s.heap ->
  af C A (aO env) (XP C) μ σ s (fun μ' s' z0 c'=>ax C c' env μ' s'.heap/\c'.sc = c.sc/\c'.fz = c.fz) (evalThenUse (.ListComp elt gens sc pos) env (assign (.Name x px) env)) (do let v <- r.E (.ListComp elt gens sc pos) c; setName x v c)
 F:∀ (C:Cf) (A:Around) (μ:Mu) (σ:ac) (s:Shared) (f:Str) (vs:List Value) (xs:List AV),P C->Rm C A n->HR C μ σ s->fnAll.contains f = true->VRs C.ghost μ s.heap vs xs ->
  fe C A (XP C) μ σ s (.call (.ref (C.fn f)) ⟨vs,[]⟩) (r.F f C.fz xs)
section
variable {α β:Type} {C:Cf} {A:Around} {W:Addr->Prop} {X:Value->Shared->Prop} {μ:Mu} {σ:ac} {s:Shared} {R:Mu->Shared->β->α->Prop} {c:Ctx} {env:Env}
theorem cT {vs:List Value} {t:Sem Value} {R:Mu->Shared->Value->α->Prop} {m:MM α} (h:af C A W X μ σ s R t m):af C A W X μ σ s R (operate vs t) m :=
 bq (fun z0 z0=>wpAny_operateT) h
theorem wild0 {h:Heap}:bX W0 h:=fun z0 z0 q=>q.elim
theorem qP {β':Type} {R':Mu->Shared->β'->α->Prop} {t:Sem β} {m:MM α} {f:β->Sem β'} (h:af C A W X μ σ s R t m)
  (k:∀ μ' σ' s' b a,Ext C W μ s.heap μ' s'.heap->HR C μ' σ' s'->R μ' s' b a->af C A W X μ' σ' s' R' (f b) (MM.pure a)):af C A W X μ σ s R' (t >>= f) m:=by
 have e:m = (m >>= fun a=>MM.pure a):=by
  funext σ
  show m σ = MM.bind m (fun a=>MM.pure a) σ
  unfold MM.bind MM.pure
  cases m σ <;> rfl
 rw [e]
 exact aq h k
theorem ai {α':Type} (m:MM α') (f:α'->MM α) (σ:ac):(m >>= f) σ = (match m σ with | .ok a σ'=>f a σ' | .exc=>.exc | .stuck=>.stuck):=rfl
theorem oV {α':Type} {R':Mu->Shared->β->α'->Prop} {t:Sem β} {m:MM α} {f:α->α'} (h:af C A W X μ σ s R t m) (k:∀ μ' s' b a,R μ' s' b a->R' μ' s' b (f a)) :
  af C A W X μ σ s R' t (m >>= fun a=>MM.pure (f a)):=by
 unfold af at h ⊢
 rw [ai]
 induction hc:m σ using Out.casesOn with
 | stuck=>trivial
 | exc=>rw [hc] at h; exact h
 | ok t σ3 =>
  rw [hc] at h
  exact fun Q E hQ=>h Q E fun μ' b s' x' H' r'=>hQ μ' b s' x' H' (k μ' s' b t r')
theorem hY {v:Value} {a:AV} (H:HR C μ σ s) (hv:VR C.ghost μ s.heap v a):af C A W X μ σ s (fun z0 z0 b x=>b = x) (truthy v) (truth a):=by
 induction a using AV.casesOn with
 | none=>obtain rfl:=hv.inv_none; exact aA rfl fun Q E hQ=>(fun z0 z0 z0=>hQ μ false s Ext.refl H rfl)
 | bool b=>obtain rfl:=hv.inv_bool; exact aA rfl fun Q E hQ=>wpAny_truthy_bool (hQ μ b s Ext.refl H rfl)
 | _=>exact ae
end
section
variable {P:Cf->Prop} {r:Rc} {n:Nat} {C:Cf} {A:Around} {μ:Mu} {σ:ac} {s:Shared} {c:Ctx} {env:Env}
theorem ng (H:HR C μ σ s) {k:Const} {kd:Nat} {pos:Pos}:af C A W0 (XP C) μ σ s (RV C) (eval (.Constant k kd pos) env) (MM.opt (ofConst k)):=by
 cases k with
 | none=>exact aA rfl fun Q E hQ=>(fun z0 z0 z0=>hQ μ _ s Ext.refl H .none)
 | bool b=>exact aA rfl fun Q E hQ=>(fun z0 z0 z0=>hQ μ _ s Ext.refl H (.bool b))
 | int i=>exact aA rfl fun Q E hQ=>wpAny_Constant_int (hQ μ _ _ Ext.refl (H.toks _) (.int i _))
 | str x=>exact aA rfl fun Q E hQ=>Constant_str (hQ μ _ _ Ext.refl (H.toks _) (.str x _))
 | _=>exact ak rfl
theorem nB (S:Snd P r n) (hP:P C) (hR:Rm C A n) (H:HR C μ σ s) (V:ax C c env μ s.heap) {a b:Expr} {op:Operator} {pos:Pos}
  (op_:∀ (μ:Mu) (σ:ac) (s:Shared) (v w:Value) (x y:AV),HR C μ σ s->VR C.ghost μ s.heap v x->VR C.ghost μ s.heap w y->af C A W0 (XP C) μ σ s (RV C) (binaryOp op v w) (binop op x y)) :
  af C A W0 (XP C) μ σ s (RV C) (eval (.BinOp a op b pos) env) (do let x <- r.E a c; let y <- r.E b c; binop op x y):=by
 rw [eval_BinOp]
 refine aq (S.E C A μ σ s c env a hP hR H V) fun μ1 σ1 s1 v x x1 H1 r1=>?_
 refine aq (aG (S.E C A μ1 σ1 s1 c env b hP hR H1 (V.ext0 H x1))) fun μ2 σ2 s2 w y x2 H2 r2=>?_
 exact av (cT (op_ μ2 σ2 s2 v w x y H2 (VR.ext H1 wild0 x2 r1) r2))
theorem nu (S:Snd P r n) (hP:P C) (hR:Rm C A n) (H:HR C μ σ s) (V:ax C c env μ s.heap) {t a b:Expr} {pos:Pos} :
  af C A W0 (XP C) μ σ s (RV C) (eval (.IfExp t a b pos) env) (do let v <- r.T t c; if v then r.E a c else r.E b c):=by
 show af C A W0 (XP C) μ σ s (RV C) (do if <- isTrue t env (eval t env) then eval a env else eval b env) _
 refine aq (S.T C A μ σ s c env t hP hR H V) fun μ1 σ1 s1 v x x1 H1 r1=>?_
 subst r1
 induction v using Bool.casesOn with
 | true=>exact S.E C A μ1 σ1 s1 c env a hP hR H1 (V.ext0 H x1)
 | false=>exact S.E C A μ1 σ1 s1 c env b hP hR H1 (V.ext0 H x1)
theorem ie (S:Snd P r n) (hP:P C) (hR:Rm C A n) {pos:Pos}:∀ (es:List Expr) (μ:Mu) (σ:ac) (s:Shared),HR C μ σ s->ax C c env μ s.heap ->
  af C A W0 (XP C) μ σ s (RV C) (boolOp pos .And (evalEach es env)) (evAnd r es c)
 | [],_,_,_,_,_=>ae
 | [e],μ,σ,s,H,V=>S.E C A μ σ s c env e hP hR H V
 | e :: e' :: es,μ,σ,s,H,V=>by
  show af C A W0 (XP C) μ σ s (RV C) (do
   let v <- eval e env
   standAt pos
   let t <- holding [v] (truthy v)
   match BoolOp.And,t with
   | .And,false | .Or,true=>pure v
   | _,_=>boolOp pos .And (evalEach (e' :: es) env)) (do
   let v <- r.E e c
   let t <- truth v
   if t then evAnd r (e' :: es) c else MM.pure v)
  refine aq (S.E C A μ σ s c env e hP hR H V) fun μ1 σ1 s1 v x x1 H1 r1=>av ?_
  refine aq (aG (hY H1 r1)) fun μ2 σ2 s2 t y x2 H2 r2=>?_
  subst r2
  induction t using Bool.casesOn with
  | true=>exact ie S hP hR (e' :: es) μ2 σ2 s2 H2 ((V.ext0 H x1).ext0 H1 x2)
  | false=>exact aI H2 (VR.ext H1 wild0 x2 r1)
theorem jS (S:Snd P r n) (hP:P C) (hR:Rm C A n):∀ (es:List Expr) (μ:Mu) (σ:ac) (s:Shared),HR C μ σ s->ax C c env μ s.heap ->
  af C A W0 (XP C) μ σ s (fun z0 z0 b a=>b = a) (allTrue .And es env) (allT r es c)
 | [],μ,σ,s,H,V=>aI H rfl
 | e :: es,μ,σ,s,H,V=>by
  show af C A W0 (XP C) μ σ s _ (do match BoolOp.And,<- isTrue e env (eval e env) with | .And,false=>pure false | .Or,true=>pure true | _,_=>allTrue .And es env) (do
   let t <- r.T e c
   if t then allT r es c else MM.pure false)
  refine aq (S.T C A μ σ s c env e hP hR H V) fun μ1 σ1 s1 v x x1 H1 r1=>?_
  subst r1
  induction v using Bool.casesOn with
  | true=>exact jS S hP hR es μ1 σ1 s1 H1 (V.ext0 H x1)
  | false=>exact aI H1 rfl
theorem jR (S:Snd P r n) (hP:P C) (hR:Rm C A n):∀ (es:List Expr) (μ:Mu) (σ:ac) (s:Shared),HR C μ σ s->ax C c env μ s.heap ->
  af C A W0 (XP C) μ σ s (fun z0 z0 b a=>b = a) (allTrue .Or es env) (anyT r es c)
 | [],μ,σ,s,H,V=>aI H rfl
 | e :: es,μ,σ,s,H,V=>by
  show af C A W0 (XP C) μ σ s _ (do match BoolOp.Or,<- isTrue e env (eval e env) with | .And,false=>pure false | .Or,true=>pure true | _,_=>allTrue .Or es env) (do
   let t <- r.T e c
   if t then MM.pure true else anyT r es c)
  refine aq (S.T C A μ σ s c env e hP hR H V) fun μ1 σ1 s1 v x x1 H1 r1=>?_
  subst r1
  induction v using Bool.casesOn with
  | true=>exact aI H1 rfl
  | false=>exact jR S hP hR es μ1 σ1 s1 H1 (V.ext0 H x1)
theorem jT (S:Snd P r n) (hP:P C) (hR:Rm C A n) (H:HR C μ σ s) (V:ax C c env μ s.heap) {a b:Expr} {op:CmpOp} {pos:Pos}
  (op_:∀ (μ:Mu) (σ:ac) (s:Shared) (v w:Value) (x y:AV),HR C μ σ s->VR C.ghost μ s.heap v x->VR C.ghost μ s.heap w y->af C A W0 (XP C) μ σ s (fun z0 z0 b a=>b = Value.bool a) (compareOp op v w) (cmpV op x y)) :
  af C A W0 (XP C) μ σ s (RV C) (eval (.Compare a [op] [b] pos) env) (do MM.guard (!behindInMarks op b); let x <- r.E a c; let y <- r.E b c; let t <- cmpV op x y; MM.pure (.bool t)):=by
 refine aj fun hm=>?_
 rw [eval_Compare1,markedBehindIn_of_false (by simpa using hm)]
 refine aq (S.E C A μ σ s c env a hP hR H V) fun μ1 σ1 s1 v x x1 H1 r1=>?_
 refine aq (aG (S.E C A μ1 σ1 s1 c env b hP hR H1 (V.ext0 H x1))) fun μ2 σ2 s2 w y x2 H2 r2=>?_
 refine av (cT ?_)
 exact oV (op_ μ2 σ2 s2 v w x y H2 (VR.ext H1 wild0 x2 r1) r2) fun μ' s' b t r'=>(by subst r'; exact VR.bool t)
theorem gN (S:Snd P r n) (hP:P C) (hR:Rm C A n) (H:HR C μ σ s) (V:ax C c env μ s.heap) {a b:Expr} {op:CmpOp} {pos:Pos} {whole:Sem Value}
  (op_:∀ (μ:Mu) (σ:ac) (s:Shared) (v w:Value) (x y:AV),HR C μ σ s->VR C.ghost μ s.heap v x->VR C.ghost μ s.heap w y->af C A W0 (XP C) μ σ s (fun z0 z0 b a=>b = Value.bool a) (compareOp op v w) (cmpV op x y)) :
  af C A W0 (XP C) μ σ s (fun z0 z0 b a=>b = a) (isTrue (.Compare a [op] [b] pos) env whole) (do MM.guard (!behindInMarks op b); let x <- r.E a c; let y <- r.E b c; cmpV op x y):=by
 refine aj fun hm=>?_
 rw [isTrue_Compare1,markedBehindIn_of_false (by simpa using hm)]
 refine aq (S.E C A μ σ s c env a hP hR H V) fun μ1 σ1 s1 v x x1 H1 r1=>?_
 refine aq (aG (S.E C A μ1 σ1 s1 c env b hP hR H1 (V.ext0 H x1))) fun μ2 σ2 s2 w y x2 H2 r2=>?_
 refine av ?_
 refine qP (cT (op_ μ2 σ2 s2 v w x y H2 (VR.ext H1 wild0 x2 r1) r2)) fun μ3 σ3 s3 b' t x3 H3 r3=>?_
 subst r3
 exact aA rfl fun Q E hQ=>(by first | exact wpAny_truthy_bool (hQ _ _ _ Ext.refl H3 rfl) | exact wpAny_holding (wpAny_truthy_bool (hQ _ _ _ Ext.refl H3 rfl)))
theorem nq (S:Snd P r n) (hP:P C) (hR:Rm C A n) (H:HR C μ σ s) (V:ax C c env μ s.heap) {a:Expr} {pos:Pos} {whole:Sem Value} :
  af C A W0 (XP C) μ σ s (fun z0 z0 b a=>b = a) (isTrue (.UnaryOp .Not a pos) env whole) (do let b <- r.T a c; MM.pure !b):=by
 rw [arm_isTrue_UnaryOp]
 refine aq (S.T C A μ σ s c env a hP hR H V) fun μ1 σ1 s1 v x x1 H1 r1=>?_
 subst r1
 exact aI H1 rfl
theorem fj (S:Snd P r n) (hP:P C) (hR:Rm C A n) (H:HR C μ σ s) (V:ax C c env μ s.heap) {e:Expr} (he:∀ whole,isTrue e env whole = (do let v <- whole; standAt e.pos; holding [v] (truthy v))) :
  af C A W0 (XP C) μ σ s (fun z0 z0 b a=>b = a) (isTrue e env (eval e env)) (do let v <- r.E e c; truth v):=by
 rw [he]
 refine aq (S.E C A μ σ s c env e hP hR H V) fun μ1 σ1 s1 v x x1 H1 r1=>?_
 exact av (aG (hY H1 r1))
theorem fG (S:Snd P r n) (hP:P C) (hR:Rm C A n) {pos:Pos}:∀ (es:List Expr) (μ:Mu) (σ:ac) (s:Shared),HR C μ σ s->ax C c env μ s.heap ->
  af C A W0 (XP C) μ σ s (fun μ' s' vs xs=>VRs C.ghost μ' s'.heap vs xs) (spliced (backTo pos (starEach es env))) (evL r es c)
 | [],μ,σ,s,H,V=>aA rfl fun Q E hQ=>spliced_nil (hQ μ [] s Ext.refl H .nil)
 | e :: es,μ,σ,s,H,V=>by
  unfold evL
  refine aj fun hs=>?_
  have he:starEach (e :: es) env = (false,eval e env) :: starEach es env:=by
   cases e <;> first | rfl | exact absurd hs Bool.false_ne_true
  rw [he,show backTo pos ((false,eval e env) :: starEach es env) = (false,eval e env) :: backTo pos (starEach es env) from rfl,spliced]
  refine aq (S.E C A μ σ s c env e hP hR H V) fun μ1 σ1 s1 v x x1 H1 r1=>?_
  simp only [Bool.false_eq_true,if_false]
  show af C A W0 (XP C) μ1 σ1 s1 _ (do let vs <- holding [v] (spliced (backTo pos (starEach es env))); pure ([v] ++ vs)) _
  refine aq (aG (fG S hP hR es μ1 σ1 s1 H1 (V.ext0 H x1))) fun μ2 σ2 s2 vs xs x2 H2 r2=>?_
  exact aI H2 (.cons (VR.ext H1 wild0 x2 r1) r2)
end
end Mine.Internal
end
section
set_option backward.match.sparseCases false
namespace Mine.Internal
open PySem PySem.Calls PyProof.Rows PySem.W
section
variable {C:Cf} {A:Around} {W:Addr->Prop} {X:Value->Shared->Prop} {μ:Mu} {σ:ac} {s:Shared} {c:Ctx} {env:Env}
theorem bZ (H:HR C μ σ s) {i:Int} {t:Sem Value} (h:∀ (Q:Value->Shared->Prop) (E:Value->Shared->Prop),(∀ tk tk',Q (.int i tk) { s with toks:=tk' })->wpAny (model C.prog C.w) A t Q E s) :
  af C A W X μ σ s (RV C) t (mkI i):=by
 unfold mkI
 exact aj fun z0=>aA rfl fun Q E hQ=>h Q E fun tk tk'=>hQ μ _ _ Ext.refl (H.toks _) (.int i tk)
theorem bT {μ:Mu} {n:Nat} (hl:μ.length = n) (p:Addr × Addr):(μ ++ [p])[n]? = some p:=by
 subst hl; simp
theorem ig (H:HR C μ σ s) {ob:Obj} {o:AO} {t:Sem Value}
  (ho:aW C μ s.heap (μ ++ [(s.heap.objs.size,s.heap.objs.size)]) (s.heap.push ob)->OR C (μ ++ [(s.heap.objs.size,s.heap.objs.size)]) (s.heap.push ob) (s.heap.objs.size,s.heap.objs.size) o)
  (h:∀ (Q:Value->Shared->Prop) (E:Value->Shared->Prop),(∀ tk,Q (.ref s.heap.objs.size) { s with heap:=s.heap.push ob,toks:=tk })->wpAny (model C.prog C.w) A t Q E s) :
  af C A W X μ σ s (RV C) t (alloc o) :=
 aA (a:=.obj σ.length) (σ':=σ ++ [o]) rfl fun Q E hQ=>h Q E fun tk=>by
  obtain ⟨x,H'⟩:=H.fresh tk ho
  exact hQ _ _ _ x.any H' (.obj (p:=(s.heap.objs.size,s.heap.objs.size)) (bT H.len _))
theorem lH (H:HR C μ σ s) {vs:List Value} {xs:List AV} (hv:VRs C.ghost μ s.heap vs xs) {t:Sem Value}
  (h:∀ (Q:Value->Shared->Prop) (E:Value->Shared->Prop),(∀ tk,Q (.ref s.heap.objs.size) { s with heap:=s.heap.push (listOf (List.toArray vs) 0),toks:=tk })->wpAny (model C.prog C.w) A t Q E s) :
  af C A W X μ σ s (RV C) t (alloc (.list xs)) :=
 ig H (fun x=>⟨rfl,vs,0,Heap.get?_push_size _ rfl,VRs.ext H wild0 x hv⟩) h
theorem bv {n:Nat} (h:fits n = true):n ≤ sizeLine:=by
 have:n ≤ 1000000:=by simpa [fits] using h
 rw [sizeLine_eq]; omega
theorem ee (H:HR C μ σ s) {vs:List Value} {xs:List AV} (hv:VRs C.ghost μ s.heap vs xs) {t:Sem Value}
  (h:vs.length ≤ 1000000->∀ (Q:Value->Shared->Prop) (E:Value->Shared->Prop),(∀ tk,Q (.ref s.heap.objs.size) { s with heap:=s.heap.push (listOf (List.toArray vs) 0),toks:=tk })->wpAny (model C.prog C.w) A t Q E s) :
  af C A W X μ σ s (RV C) t (mkL xs):=by
 unfold mkL
 refine aj fun hf=>lH H hv (h ?_)
 rw [hv.len]; simpa [fits] using hf
theorem jL (H:HR C μ σ s) {vs:List Value} {xs:List AV} (hv:VRs C.ghost μ s.heap vs xs):af C A W X μ σ s (RV C) (newList vs) (mkL xs) :=
 ee H hv fun hl Q E h=>wpAny_newObj_type (h s.toks) (by show vs.toArray.size ≤ sizeLine; rw [List.size_toArray,sizeLine_eq]; omega)
theorem qM (H:HR C μ σ s) {vs:List Value} {xs:List AV} (hv:VRs C.ghost μ s.heap vs xs) {t:Sem Value}
  (h:vs.length ≤ 1000000->∀ (Q:Value->Shared->Prop) (E:Value->Shared->Prop),(∀ tk,Q (.ref s.heap.objs.size) { s with heap:=s.heap.push (tupObj vs 0),toks:=tk })->wpAny (model C.prog C.w) A t Q E s) :
  af C A W X μ σ s (RV C) t (mkT xs):=by
 unfold mkT
 refine aj fun hf=>aA rfl fun Q E hQ=>h (by rw [hv.len]; simpa [fits] using hf) Q E fun tk=>?_
 obtain ⟨x,H'⟩:=H.push (tupObj vs 0) tk
 exact hQ _ _ _ x.any H' (.tup (Heap.get?_push_size _ rfl) (VRs.ext H wild0 x hv))
theorem iL (H:HR C μ σ s) {vs:List Value} {xs:List AV} (hv:VRs C.ghost μ s.heap vs xs):af C A W X μ σ s (RV C) (newTuple vs) (mkT xs) :=
 qM H hv fun hl Q E h=>wpAny_newObj_type (h s.toks) (by show vs.toArray.size ≤ sizeLine; rw [List.size_toArray,sizeLine_eq]; omega)
theorem aQ {β α:Type} {R:Mu->Shared->β->α->Prop} {t:Sem β} {n:List AV->MM α} (H:HR C μ σ s) {v:Value} {a:AV} (hv:VR C.ghost μ s.heap v a)
  (h:∀ l i vs xs nn,v = .ref l->a = .obj i->σ[i]? = some (.list xs)->μ[i]? = some (l,l)->s.heap.get? l = some (listOf (List.toArray vs) nn)->VRs C.ghost μ s.heap vs xs->af C A W X μ σ s R t (n xs)) :
  af C A W X μ σ s R t (getList a >>= n):=by
 induction a using AV.casesOn with
 | obj i =>
  obtain ⟨p,rfl,hp⟩:=hv.inv_obj
  obtain ⟨o,ho,hor⟩:=H.objAt hp
  induction o using AO.casesOn with
  | list xs =>
   obtain ⟨h1,vs,nn,h2,h3⟩:=hor
   have hp':μ[i]? = some (p.1,p.1):=by rw [hp]; congr 1; exact Prod.ext rfl h1
   have:=h p.1 i vs xs nn rfl rfl ho hp' h2 h3
   unfold af at this ⊢
   rw [ai]
   have e:getList (.obj i) σ = .ok xs σ:=by unfold getList; dsimp only; rw [ho]
   rw [e]; exact this
  | _ =>
   refine ak ?_
   rw [ai]
   have e:getList (.obj i) σ = .stuck:=by unfold getList; dsimp only; rw [ho]
   rw [e]
 | _=>exact ak rfl
theorem aP {β α:Type} {R:Mu->Shared->β->α->Prop} {v:Value} {a:AV} (T:Value->Sem β) {f:Int->MM α} (hv:VR C.ghost μ s.heap v a) (h:∀ i t,af C A W X μ σ s R (T (.int i t)) (f i)):af C A W X μ σ s R (T v) (onInt a f):=by
 induction a using AV.casesOn with
 | int i=>obtain ⟨t,rfl⟩:=hv.inv_int; exact h i t
 | _=>exact ae
theorem mX {β α:Type} {R:Mu->Shared->β->α->Prop} {v:Value} {a:AV} {t:Sem β} {f:List AV->MM α} (hv:VR C.ghost μ s.heap v a) (h:∀ xs,VR C.ghost μ s.heap v (.tup xs)->af C A W X μ σ s R t (f xs)):af C A W X μ σ s R t (onTup a f):=by
 induction a using AV.casesOn with
 | tup xs=>exact h xs hv
 | _=>exact ae
theorem mY {β α:Type} {R:Mu->Shared->β->α->Prop} {v:Value} {a:AV} (T:Value->Sem β) {f:Str->MM α} (hv:VR C.ghost μ s.heap v a) (h:∀ i t,af C A W X μ σ s R (T (.str i t)) (f i)):af C A W X μ σ s R (T v) (onStr a f):=by
 induction a using AV.casesOn with
 | str i=>obtain ⟨t,rfl⟩:=hv.inv_str; exact h i t
 | _=>exact ae
theorem aY {β α:Type} {R:Mu->Shared->β->α->Prop} {vs:List Value} {xs:List AV} (T:List Value->Sem β) {f:AV->MM α} (hv:VRs C.ghost μ s.heap vs xs) (h:∀ v a,VR C.ghost μ s.heap v a->af C A W X μ σ s R (T [v]) (f a)):af C A W X μ σ s R (T vs) (on1 xs f):=by
 cases hv with
 | nil=>exact ae
 | cons h1 h2 =>
  cases h2 with
  | nil=>exact h _ _ h1
  | cons _ _=>exact ae
theorem bits60 {a:Int} (h:a.natAbs < 2 ^ 60):Builtin.Int.intBits a ≤ 64:=Nat.le_trans (intBits_le h) (by omega)
theorem nZ (H:HR C μ σ s) {v w:Value} {xs ys:List AV} (hv:VR C.ghost μ s.heap v (.tup xs)) (hw:VR C.ghost μ s.heap w (.tup ys)):af C A W X μ σ s (RV C) (binaryOp .Add v w) (mkT (xs ++ ys)):=by
 obtain ⟨a,vs,n,rfl,h1,h2⟩:=hv.inv_tup
 obtain ⟨b,ws,m,rfl,h3,h4⟩:=hw.inv_tup
 have e:vs.toArray ++ ws.toArray = (vs ++ ws).toArray:=by simp
 unfold mkT
 refine aj fun hf=>aA rfl fun Q E hQ=>?_
 have hl:vs.length + ws.length ≤ 1000000:=by rw [h2.len,h4.len]; simpa [fits] using hf
 by_cases hv0:vs = []
 .have hx0:xs = []:=by have:=h2.len; rw [hv0] at this; exact List.length_eq_zero_iff.mp this.symm
  subst hv0 hx0
  exact concat_meets ⟨_,h1,rfl⟩ ⟨_,h3,rfl⟩ noFill_tuple_add seq_tuple_add PySem.F.slot_tuple_add PySem.F.entry_tuple_add (PySem.F.args_tuple_add_2 _ _)
   (tuple_addW0 a b [].toArray ws.toArray n m none none #[] #[] (by simp)) ⟨h1,h3,hQ μ _ _ Ext.refl H (.tup h3 h4)⟩
 .by_cases hw0:ws = []
  .have hy0:ys = []:=by have:=h4.len; rw [hw0] at this; exact List.length_eq_zero_iff.mp this.symm
   subst hw0 hy0
   exact concat_meets ⟨_,h1,rfl⟩ ⟨_,h3,rfl⟩ noFill_tuple_add seq_tuple_add PySem.F.slot_tuple_add PySem.F.entry_tuple_add (PySem.F.args_tuple_add_2 _ _)
    (tuple_addW1 a b vs.toArray [].toArray n m none none #[] #[] (by simpa using hv0) (by simp)) ⟨h1,h3,hQ μ _ _ Ext.refl H (by rw [List.append_nil]; exact .tup h1 h2)⟩
  .obtain ⟨x,H'⟩:=H.push (tupObj (vs ++ ws) 0) s.toks
   refine concat_meets ⟨_,h1,rfl⟩ ⟨_,h3,rfl⟩ noFill_tuple_add seq_tuple_add PySem.F.slot_tuple_add PySem.F.entry_tuple_add (PySem.F.args_tuple_add_2 _ _)
    (tuple_addW2 a b vs.toArray ws.toArray n m none none #[] #[] (by simpa using hv0) (by simpa using hw0) (by rw [List.size_toArray,List.size_toArray,sizeLine_eq]; omega)) ⟨h1,h3,?_⟩
   rw [e]
   exact hQ μ _ _ x.any H' (.tup (Heap.get?_push_size _ rfl) ((VRs.ext H wild0 x h2).append (VRs.ext H wild0 x h4)))
theorem lW (H:HR C μ σ s) {v w:Value} {x y:AV} (hv:VR C.ghost μ s.heap v x) (hw:VR C.ghost μ s.heap w y):af C A W X μ σ s (RV C) (binaryOp .Add v w) (do let xs <- getList x; let ys <- getList y; mkL (xs ++ ys)):=by
 refine aQ H hv fun l i' vs xs nn ev z0 z0 z0 h1 h2=>?_
 refine aQ H hw fun l' j' ws ys mm ew z0 z0 z0 h3 h4=>?_
 subst ev ew
 have e:vs.toArray ++ ws.toArray = (vs ++ ws).toArray:=by simp
 refine ee H (h2.append h4) fun hl Q E h=>?_
 rw [List.length_append] at hl
 refine concat_meets ⟨_,h1,rfl⟩ ⟨_,h3,rfl⟩ noFill_list_add seq_list_add PySem.F.slot_list_add PySem.F.entry_list_add (PySem.F.args_list_add_2 _ _) (list_addW l l' vs.toArray ws.toArray nn mm none none #[] #[] (by rw [List.size_toArray,List.size_toArray,sizeLine_eq]; omega)) ⟨h1,h3,?_⟩
 rw [e]
 exact h _
set_option tactic.hygienic true in
theorem og (H:HR C μ σ s) {v:Value} {x:AV} {k:Int} {u:Tok} (hv:VR C.ghost μ s.heap v x):af C A W X μ σ s (RV C) (binaryOp .Mult v (.int k u)) (do
   let xs <- getList x
   match xs with
   | [x]=>do MM.guard (decide (0 ≤ k/\k ≤ 100)); mkL (List.replicate k.toNat x)
   | _=>MM.stuck):=by
 refine aQ H hv fun l i' vs xs nn ev z0 z0 z0 h1 h2=>?_
 subst ev
 induction xs using List.casesOn with
 | nil=>exact ae
 | cons x0 xs =>
  induction xs using List.casesOn with
  | cons _ _=>exact ae
  | nil =>
   refine aj fun hk=>?_
   rw [decide_eq_true_eq] at hk
   cases h2 with
   | cons hv0 hr =>
    cases hr
    rename_i v0
    have hrep:VRs C.ghost μ s.heap (List.replicate k.toNat v0) (List.replicate k.toNat x0):=by
     induction k.toNat with
     | zero=>exact .nil
     | succ k ih=>exact .cons hv0 ih
    refine ee H hrep fun hl Q E h=>?_
    refine wpAny_binaryOp_repeat_ref (T := "list") (U := "int") (by decide) ⟨_,h1,rfl⟩ (fun s'=>typeIs_int s' k u) noFill_list_mul F.fills_int_mul F.slot_int_rmul repeat_list F.slot_int_index.lookup
     (call_meets F.slot_int_rmul (typeIs_int s k u) F.entry_int_rmul (F.args_int_rmul_2 _ _) (int___rmul___int_list k u l [v0].toArray nn)
      ⟨h1,rfl,⟨_,h1,rfl⟩,call_meets F.slot_list_mul ⟨_,h1,rfl⟩ F.entry_list_mul (F.args_list_mul_2 _ _)
       (AutoListH.list___mul___list_int_3 l [v0].toArray nn k u (by simp [Builtin.List.listFitsIndex]; omega) (by rw [show [v0].toArray.size = 1 from rfl]; omega) (by rw [show [v0].toArray.size = 1 from rfl]; simp [Builtin.List.listTooLong,sizeLine]; omega))
       ⟨h1,?_⟩⟩)
    have e:List.foldl (fun x1 x2=>x1 ++ x2) #[] (List.replicate (if [v0].toArray.isEmpty = true then 0 else k.toNat) [v0].toArray) = (List.replicate k.toNat v0).toArray:=by
     have hE:[v0].toArray.isEmpty = false:=rfl
     rw [hE]
     simp only [Bool.false_eq_true,if_false]
     have:∀ (n:Nat) (acc:List Value),List.foldl (fun x1 x2=>x1 ++ x2) acc.toArray (List.replicate n [v0].toArray) = (acc ++ List.replicate n v0).toArray:=by
      intro n
      induction n with
      | zero=>intro acc; simp
      | succ n ih =>
       intro acc
       rw [List.replicate_succ,List.foldl_cons]
       have h9:acc.toArray ++ [v0].toArray = (acc ++ [v0]).toArray:=by simp
       rw [h9,ih]
       simp [List.replicate_succ]
     simpa using this k.toNat []
    rw [e]
    exact h _
theorem ni (H:HR C μ σ s) {op:Operator} {v w:Value} {x y:AV} (hv:VR C.ghost μ s.heap v x) (hw:VR C.ghost μ s.heap w y) :
  af C A W X μ σ s (RV C) (binaryOp op v w) (binop op x y):=by
 have both:∀ {op:Operator} {f:Int->Int->MM AV},(∀ i t j u,af C A W X μ σ s (RV C) (binaryOp op (.int i t) (.int j u)) (f i j))->af C A W X μ σ s (RV C) (binaryOp op v w) (onInt x fun i=>onInt y fun j=>f i j) :=
  fun {op f} h=>aP (fun v=>binaryOp op v w) hv fun i t=>aP (fun w=>binaryOp op (.int i t) w) hw fun j u=>h i t j u
 induction op using Operator.casesOn with
 | Add =>
  induction x using AV.casesOn with
  | int i=>obtain ⟨t,rfl⟩:=hv.inv_int; exact aP (fun w=>binaryOp .Add (.int i t) w) hw fun j u=>bZ H fun Q E h=>P.add_int (h _ _)
  | tup xs=>exact mX hw fun ys hw=>nZ H hv hw
  | obj i=>exact lW H hv hw
  | _=>exact ae
 | Sub=>exact both fun i t j u=>bZ H fun Q E h=>P.sub_int (h _ _)
 | Mult =>
  induction x using AV.casesOn with
  | int i =>
   obtain ⟨t,rfl⟩:=hv.inv_int
   refine aP (fun w=>binaryOp .Mult (.int i t) w) hw fun j u=>aj fun hg=>bZ H fun Q E h=>P.mul_int (h _ _) ?_
   rw [Bool.or_eq_true,decide_eq_true_eq,decide_eq_true_eq] at hg
   exact hg.elim (fun hg=>IntMulOk.of_right (bits60 hg)) fun hg=>IntMulOk.of_left (bits60 hg)
  | obj i=>exact aP (fun w=>binaryOp .Mult v w) hw fun k u=>og H hv
  | _=>exact ae
 | Mod =>
  refine both fun i t j u=>aj fun hg=>?_
  have hj:0 < j:=of_decide_eq_true hg
  refine bZ H fun Q E h=>mod_int' (Int.ne_of_gt hj) ?_
  rw [Int.fmod_eq_emod_of_nonneg _ (Int.le_of_lt hj)]
  exact h _ _
 | FloorDiv =>
  refine both fun i t j u=>aj fun hg=>?_
  have hj:0 < j/\j < 2 ^ 30:=of_decide_eq_true hg
  clear hg
  refine bZ H fun Q E h=>floordiv_int (Int.ne_of_gt hj.1) ?_ (.inl (PyProof.noPylong_small (by omega)))
  rw [Int.fdiv_eq_ediv_of_nonneg _ (Int.le_of_lt hj.1)]
  exact h _ _
 | Pow =>
  refine both fun i t j u=>aj fun hg=>?_
  rw [Bool.and_eq_true,decide_eq_true_eq,decide_eq_true_eq] at hg
  obtain ⟨rfl,hi⟩:=hg
  exact bZ H fun Q E h=>pow_int_small (by omega) (by omega) (by omega) (h _ _)
 | _=>exact ae
end
end Mine.Internal
end
section
namespace Mine.Internal
open PySem PySem.Calls PyProof.Rows PySem.W
theorem cD {α β:Type} {f:α->Option β} {g:β->α} (hf:∀ {x b},f x = some b->x = g b):∀ {xs:List α} {w:List β},mapO f xs = some w->xs = w.map g
 | [],w,h=>by injection h with h; subst h; rfl
 | x :: xs,w,h=>by
  have h:(f x).bind (fun y=>(mapO f xs).map (y :: ·)) = some w:=h
  obtain ⟨y,h1,h2⟩:=Option.bind_eq_some_iff.mp h
  obtain ⟨l,h3,h4⟩:=Option.map_eq_some_iff.mp h2
  rw [<- h4,hf h1,cD hf h3]; rfl
theorem eW {xs:List AV} {w:List Int} (h:intsOf xs = some w):xs = w.map AV.int:=cD iX h
theorem ci {xs:List AV} {w:List Str} (h:strsOf xs = some w):xs = w.map AV.str:=cD ml h
theorem ch {x:AV} {w:List Int} (h:wordOf x = some w):x = wordV w:=by
 obtain ⟨ys,h1,h2⟩:=Option.bind_eq_some_iff.mp h
 rw [dZ h1,eW h2]; rfl
theorem pk {x:AV} {w:List Str} (h:rowOf x = some w):x = .tup (w.map AV.str):=by
 obtain ⟨ys,h1,h2⟩:=Option.bind_eq_some_iff.mp h
 rw [dZ h1,ci h2]
theorem bP {xs:List AV} {w:List (List Int)} (h:wordsOf xs = some w):xs = w.map wordV:=cD ch h
theorem nE {xs:List AV} {w:List (List Str)} (h:rowsOf xs = some w):xs = w.map fun r=>AV.tup (r.map AV.str):=cD pk h
theorem nL {σ:ac} {x:AV} {ys:List AV} (h:listAt σ x = some ys):∃ i:Nat,x = .obj i/\σ[i]? = some (.list ys):=by
 induction x using AV.casesOn with
 | obj i =>
  unfold listAt at h
  dsimp only at h
  induction ho:σ[i]? using Option.casesOn with
  | none=>rw [ho] at h; exact nomatch h
  | some o =>
   rw [ho] at h
   induction o using AO.casesOn with
   | list zs=>injection h with h; exact ⟨i,rfl,by rw [ho,h]⟩
   | _=>exact nomatch h
 | _=>exact nomatch h
theorem eh {α β:Type} {f:α->β} (hf:∀ x y,f x = f y->x = y):∀ {a b:List α},a.map f = b.map f->a = b
 | [],[],_=>rfl
 | [],_ :: _,h=>by simp -iota at h
 | _ :: _,[],h=>by simp -iota at h
 | x :: a,y :: b,h=>by
  simp -iota only [List.map_cons,List.cons.injEq] at h
  rw [hf x y h.1,eh hf h.2]
section
variable {g h:Heap} {μ:Mu}
theorem VRs.ints {vs:List Value} {w:List Int} (x:VRs g μ h vs (w.map AV.int)):IntsAre vs w:=by
 induction w generalizing vs with
 | nil=>cases x; exact .nil
 | cons i w ih =>
  cases x with
  | cons h1 r =>
   obtain ⟨t,rfl⟩:=h1.inv_int
   exact .cons i t (ih r)
theorem itemsInt {prog:Program} {w:World} {vs:List Value} {ns:List Int} (x:IntsAre vs ns):ItemsAre (intKind prog w) ns vs:=by
 induction x with
 | nil=>exact .nil
 | cons n t _ ih=>exact .cons (by simp [intKind,Value.isInt]) ih
theorem itemsStr {prog:Program} {w:World} {vs:List Value} {r:List Str} (x:VRs g μ h vs (r.map AV.str)):ItemsAre (PySem.strKind prog w) r vs:=by
 induction r generalizing vs with
 | nil=>cases x; exact .nil
 | cons i w ih =>
  cases x with
  | cons h1 r =>
   obtain ⟨t,rfl⟩:=h1.inv_str
   exact .cons (by simp [PySem.strKind,Value.isStrOf]) (ih r)
theorem VR.wkey {prog:Program} {wd:World} {v:Value} {w:List Int} (x:VR g μ h v (wordV w)):∃ a,v = .ref a/\IsTupleKey (intKind prog wd) h w a:=by
 obtain ⟨a,vs,n,rfl,e,r⟩:=x.inv_tup
 exact ⟨a,rfl,_,vs.toArray,n,e,rfl,rfl,itemsInt r.ints⟩
theorem VR.rkey {prog:Program} {wd:World} {v:Value} {r:List Str} (x:VR g μ h v (.tup (r.map AV.str))):∃ a,v = .ref a/\IsTupleKey (PySem.strKind prog wd) h r a:=by
 obtain ⟨a,vs,n,rfl,e,r⟩:=x.inv_tup
 exact ⟨a,rfl,_,vs.toArray,n,e,rfl,rfl,itemsStr r⟩
noncomputable def wordD (w:List Int):Dat:=.tuple (w.map Dat.int)
theorem pY {nw:List (Addr × Obj)} {vs:List Value} {w:List Int} (x:IntsAre vs w):DatAll nw vs (w.map Dat.int):=by
 induction x with
 | nil=>exact .nil
 | cons n t _ ih=>exact .cons (.int n t) ih
theorem eZ {vs:List Value} {ws:List (List Int)} (x:VRs g μ h vs (ws.map wordV)):∃ nw:List (Addr × Obj),(∀ p ∈ nw,h.get? p.1 = some p.2)/\DatAll nw vs (ws.map wordD):=by
 induction ws generalizing vs with
 | nil=>cases x; exact ⟨[],fun p hp=>(nomatch hp),.nil⟩
 | cons w ws ih =>
  cases x with
  | cons h1 r =>
   obtain ⟨nw,q1,q2⟩:=ih r
   obtain ⟨a,us,n,rfl,e,r'⟩:=h1.inv_tup
   refine ⟨(a,tupObj us n) :: nw,fun p hp=>?_,.cons (.tuple (.head _) (pY r'.ints)) (q2.mono fun p hp=>.tail _ hp)⟩
   rcases List.mem_cons.mp hp with rfl | hp
   .exact e
   .exact q1 p hp
theorem gp (n:Nat) (w:List Int):kqdOk (n + 1) (wordD w) = true:=by
 simp -iota only [wordD,kqdOk,List.all_eq_true]
 intro d hd
 obtain ⟨i,_,rfl⟩:=List.mem_map.mp hd
 cases n <;> rfl
theorem mF {a b:List Int} (e:wordD a = wordD b):a = b:=by
 unfold wordD at e
 injection e with e
 exact eh (fun x y q=>by injection q) e
theorem fN {a b:List (List Int)} (e:a.map wordD = b.map wordD):a = b:=eh (fun z0 z0=>mF) e
theorem newsOf {h:Heap} {nw:List (Addr × Obj)} (k:∀ p ∈ nw,h.get? p.1 = some p.2):News ({}:Heap) h.objs.size h nw :=
 fun p hp=>⟨k p hp,Nat.ne_of_lt (Heap.lt_size (k p hp)),Heap.get?_none_of_le (Nat.zero_le _)⟩
end
section
variable {C:Cf} {μ:Mu} {σ:ac} {s:Shared}
theorem gx (H:HR C μ σ s):∀ {vs:List Value} {xs:List AV} {wss:List (List (List Int))},VRs C.ghost μ s.heap vs xs->wordssOf σ xs = some wss ->
  ∃ nw:List (Addr × Obj),(∀ p ∈ nw,s.heap.get? p.1 = some p.2)/\DatAll nw vs (wss.map fun ws=>Dat.list (ws.map wordD)):=by
 intro vs xs
 induction xs generalizing vs with
 | nil =>
  intro wss x e
  injection e with e; subst e; cases x
  exact ⟨[],fun p hp=>(nomatch hp),.nil⟩
 | cons a xs ih =>
  intro wss x e
  cases x with
  | cons h1 r =>
   have e:((listAt σ a).bind wordsOf).bind (fun y=>(wordssOf σ xs).map (y :: ·)) = some wss:=e
   obtain ⟨ws,e1,e⟩:=Option.bind_eq_some_iff.mp e
   obtain ⟨wss',e2,e⟩:=Option.map_eq_some_iff.mp e
   subst e
   obtain ⟨ys,e0,e5⟩:=Option.bind_eq_some_iff.mp e1
   obtain ⟨i,rfl,hi⟩:=nL e0
   obtain ⟨p,rfl,hp⟩:=h1.inv_obj
   obtain ⟨o,ho,hor⟩:=H.objAt hp
   rw [hi] at ho
   injection ho with ho
   subst ho
   obtain ⟨nw,q1,q2⟩:=ih r e2
   obtain ⟨_,us,n,e3,r3⟩:=hor
   rw [bP e5] at r3
   obtain ⟨nw',q3,q4⟩:=eZ r3
   refine ⟨(p.1,listOf (List.toArray us) n) :: (nw' ++ nw),fun q hq=>?_,.cons (.list (.head _) (q4.mono fun q hq=>.tail _ (List.mem_append.mpr (.inl hq)))) (q2.mono fun q hq=>.tail _ (List.mem_append.mpr (.inr hq)))⟩
   rcases List.mem_cons.mp hq with rfl | hq
   .exact e3
   .rcases List.mem_append.mp hq with hq | hq
    .exact q3 q hq
    .exact q1 q hq
theorem jt {a b:List (List (List Int))} (e:(a.map fun ws=>Dat.list (ws.map wordD)) = b.map fun ws=>Dat.list (ws.map wordD)):a = b :=
 eh (fun z0 z0 q=>fN (by injection q)) e
end
section
variable {C:Cf} {A:Around} {W:Addr->Prop} {X:Value->Shared->Prop} {μ:Mu} {σ:ac} {s:Shared} {c:Ctx} {env:Env}
open Classical in
theorem kA {l b:Addr} {vs ws:List Value} {n m:Nat} {nw1 nw2:List (Addr × Obj)} {ds es:List Dat} {r:Bool} (hu:A.units + 64 < cLine)
  (h1:s.heap.get? l = some (listOf (List.toArray vs) n)) (h2:s.heap.get? b = some (listOf (List.toArray ws) m))
  (k1:∀ p ∈ nw1,s.heap.get? p.1 = some p.2) (k2:∀ p ∈ nw2,s.heap.get? p.1 = some p.2) (d1:DatAll nw1 vs ds) (d2:DatAll nw2 ws es)
  (o1:∀ d ∈ ds,kqdOk 8 d = true) (o2:∀ d ∈ es,kqdOk 8 d = true) (hr:r = true ↔ ds = es) {Q:Value->Shared->Prop} {E:Value->Shared->Prop} :
  (Q (.bool r) s->wpAny (model C.prog C.w) A (compareOp .Eq (.ref l) (.ref b)) Q E s)/\(Q (.bool (!r)) s->wpAny (model C.prog C.w) A (compareOp .NotEq (.ref l) (.ref b)) Q E s):=by
 have N:News ({}:Heap) s.heap.objs.size s.heap ((l,listOf (List.toArray vs) n) :: (b,listOf (List.toArray ws) m) :: (nw1 ++ nw2)):=newsOf fun p hp=>by
  rcases List.mem_cons.mp hp with rfl | hp
  .exact h1
  .rcases List.mem_cons.mp hp with rfl | hp
   .exact h2
   .rcases List.mem_append.mp hp with hp | hp
    .exact k1 p hp
    .exact k2 p hp
 have sa:∀ p ∈ nw1,p ∈ ((l,listOf (List.toArray vs) n) :: (b,listOf (List.toArray ws) m) :: (nw1 ++ nw2)):=fun p hp=>.tail _ (.tail _ (List.mem_append.mpr (.inl hp)))
 have sb:∀ p ∈ nw2,p ∈ ((l,listOf (List.toArray vs) n) :: (b,listOf (List.toArray ws) m) :: (nw1 ++ nw2)):=fun p hp=>.tail _ (.tail _ (List.mem_append.mpr (.inr hp)))
 constructor
 .intro hq
  refine kqd_eq N (.head _) rfl rfl d1 sa (.tail _ (.head _)) rfl rfl d2 sb o1 o2 hu ?_
  induction r using Bool.casesOn with
  | true=>rw [decide_eq_true (hr.mp rfl)]; exact hq
  | false=>rw [decide_eq_false fun q=>by simpa using hr.mpr q]; exact hq
 .intro hq
  refine kqd_ne N (.head _) rfl rfl d1 sa (.tail _ (.head _)) rfl rfl d2 sb o1 o2 hu ?_
  induction r using Bool.casesOn with
  | true=>rw [decide_eq_true (hr.mp rfl)]; exact hq
  | false=>rw [decide_eq_false fun q=>by simpa using hr.mpr q]; exact hq
set_option tactic.hygienic true in
theorem nT (H:HR C μ σ s) (hu:A.units + 64 < cLine) {l b:Addr} {vs ws:List Value} {n m:Nat} {xs ys:List AV} {r:Bool}
  (h1:s.heap.get? l = some (listOf (List.toArray vs) n)) (h2:s.heap.get? b = some (listOf (List.toArray ws) m)) (v1:VRs C.ghost μ s.heap vs xs) (v2:VRs C.ghost μ s.heap ws ys)
  (e:eqL σ xs ys = some r) {Q:Value->Shared->Prop} {E:Value->Shared->Prop} :
  (Q (.bool r) s->wpAny (model C.prog C.w) A (compareOp .Eq (.ref l) (.ref b)) Q E s)/\(Q (.bool (!r)) s->wpAny (model C.prog C.w) A (compareOp .NotEq (.ref l) (.ref b)) Q E s):=by
 unfold eqL at e
 by_cases hl:xs.length ≠ ys.length
 .rw [if_pos hl] at e
  injection e with e; subst e
  have hsz:((List.toArray vs).size != (List.toArray ws).size) = true:=by
   rw [List.size_toArray,List.size_toArray,v1.len,v2.len]; simpa using hl
  refine ⟨fun q=>SeqAt.eq_list_lengthsAt ⟨_,h1,rfl,n,rfl⟩ ⟨_,h2,rfl,m,rfl⟩ hsz (by omega) q,fun q=>?_⟩
  exact SeqAt.RcNeAt.lists_lengths ⟨_,h1,rfl,n,rfl⟩ ⟨_,h2,rfl,m,rfl⟩ hsz (by omega) C.prog C.w E Q q
 .rw [if_neg hl] at e
  split at e
  .rename_i a b' ha hb
   injection e with e; subst e
   rw [bP ha] at v1
   rw [bP hb] at v2
   obtain ⟨nw1,k1,d1⟩:=eZ v1
   obtain ⟨nw2,k2,d2⟩:=eZ v2
   refine kA hu h1 h2 k1 k2 d1 d2 ?_ ?_ ?_
   .intro d hd; obtain ⟨w,_,rfl⟩:=List.mem_map.mp hd; exact gp 7 w
   .intro d hd; obtain ⟨w,_,rfl⟩:=List.mem_map.mp hd; exact gp 7 w
   .rw [decide_eq_true_eq]; exact ⟨fun q=>by rw [q],fN⟩
  .split at e
   .rename_i a b' ha hb
    injection e with e; subst e
    obtain ⟨nw1,k1,d1⟩:=gx H v1 ha
    obtain ⟨nw2,k2,d2⟩:=gx H v2 hb
    have ok:∀ (wss:List (List (List Int))),∀ d ∈ wss.map (fun ws=>Dat.list (ws.map wordD)),kqdOk 8 d = true:=by
     intro wss d hd
     obtain ⟨ws,_,rfl⟩:=List.mem_map.mp hd
     simp -iota only [kqdOk,List.all_eq_true]
     intro d hd
     obtain ⟨w,_,rfl⟩:=List.mem_map.mp hd
     exact gp 6 w
    refine kA hu h1 h2 k1 k2 d1 d2 (ok _) (ok _) ?_
    rw [decide_eq_true_eq]; exact ⟨fun q=>by rw [q],jt⟩
   .exact nomatch e
theorem wsame {nm:String} {a b:Addr} {xa xb:List (List Int × Addr × Value)} {Q:Bool->Shared->Prop} {E:Value->Shared->Prop} (hu:A.units < cLine) (ha:(a == sysModules) = false) (hb:(b == sysModules) = false)
  (da:s.heap.DictOfH (wk C) a xa) (db:s.heap.DictOfH (wk C) b xb) (ta:∀ x ∈ xa,x.2.2 = .bool true) (tb:∀ x ∈ xb,x.2.2 = .bool true)
  (h:Q (decide ((xa.map (·.1)).length = (xb.map (·.1)).length) && (xa.map (·.1)).all fun w=>decide (w ∈ xb.map (·.1))) s) :
  wpAny (model C.prog C.w) A (Builtin.Dict.samePairs nm a b) Q E s:=by
 obtain ⟨oa,es,ep,hoa,_,hda,hea,hia,hna⟩:=id da
 obtain ⟨ob,es',ep',hob,_,hdb,heb,hib,hnb⟩:=id db
 have hla:es.size = xa.length:=size_of_entries hea
 have hlb:es'.size = xb.length:=size_of_entries heb
 rw [List.length_map,List.length_map] at h
 unfold Builtin.Dict.samePairs Builtin.Dict.showsAll
 rw [if_neg (show ¬ (a == sysModules) = true by rw [ha]; exact Bool.false_ne_true),if_neg (show ¬ (b == sysModules) = true by rw [hb]; exact Bool.false_ne_true)]
 refine wpAny_bind (wpAny_pure (wpAny_bind (wpAny_pure ?_)))
 refine wpAny_bind (wpAny_dictEntries hoa hda ?_)
 refine wpAny_bind (wpAny_dictEntries hob hdb ?_)
 by_cases hsz:es.size = es'.size
 case neg =>
  rw [if_pos (by simpa using hsz)]
  have hbf:decide (xa.length = xb.length) = false:=by rw [decide_eq_false_iff_not,<- hla,<- hlb]; exact hsz
  rw [hbf,Bool.false_and] at h
  exact wpAny_bind (wpAny_rule (wpAny_pure h))
 case pos =>
  have hbt:decide (xa.length = xb.length) = true:=by rw [decide_eq_true_eq,<- hla,<- hlb]; exact hsz
  rw [hbt,Bool.true_and] at h
  rw [if_neg (by rw [hsz]; simp -iota)]
  refine wpAny_bind (wpAny_dictEpoch hoa hda ?_)
  refine wpAny_bind ?_
  rw [Std.Legacy.Range.forIn_eq_forIn_range']
  simp -iota only [Std.Legacy.Range.size,Nat.sub_zero,Nat.add_sub_cancel,Nat.div_one]
  refine wpAny_forIn_list _
   (fun rest q s'=>s' = s/\q = (none,())/\∃ i,rest = List.range' i (es.size - i)/\i ≤ es.size/\((xa.map (·.1)).all fun w=>decide (w ∈ xb.map (·.1))) = (((xa.drop i).map (·.1)).all fun w=>decide (w ∈ xb.map (·.1))))
   _ ?_ ?_ _ _ ⟨rfl,rfl,0,by simp,Nat.zero_le _,by simp⟩
  .rintro x rest q s' ⟨rfl,rfl,i,hr,hi,hpre⟩
   have hlt:i < es.size:=by
    rcases Nat.lt_or_ge i es.size with h | h
    .exact h
    .rw [Nat.sub_eq_zero_of_le h] at hr; simp -iota at hr
   obtain ⟨rfl,hrest⟩ : x = i/\rest = List.range' (i + 1) (es.size - (i + 1)):=by
    have e:es.size - i = (es.size - (i + 1)) + 1:=(ar_s2 hlt)
    rw [e,List.range'_succ] at hr
    injection hr with h1 h2
    exact ⟨h1,h2⟩
   refine wpAny_bind (wpAny_dictEntries hoa hda ?_)
   have hlt':x < xa.length:=by rw [<- hla]; exact hlt
   obtain ⟨k,ad,v,hkv⟩ : ∃ k ad v,xa[x] = (k,ad,v):=⟨_,_,_,rfl⟩
   have hxs:xa[x]? = some (k,ad,v):=by rw [List.getElem?_eq_getElem hlt',hkv]
   have hdrop:xa.drop x = (k,ad,v) :: xa.drop (x + 1):=by rw [<- hkv]; exact List.drop_eq_getElem_cons hlt'
   have hent:es[x]? = some ⟨(wk C).hash k,.ref ad,v⟩:=by rw [entry_at hea x,hxs]; rfl
   have hv:v = .bool true:=ta (k,ad,v) (List.mem_of_getElem? hxs)
   subst hv
   rw [hent]
   rw [hdrop,List.map_cons,List.all_cons] at hpre
   refine wpAny_bind (wpAny_holding (wpAny_bind (wpAny_dictFind_heap (knd:=wk C) (k:=k) hu (hia _ (List.mem_of_getElem? hxs)) hob hdb heb hib hnb (fun hno=>?_) fun j p hj=>?_)))
   .have hf:decide (k ∈ xb.map (·.1)) = false:=by
     rw [decide_eq_false_iff_not]
     intro hm
     obtain ⟨y,hy,e⟩:=List.mem_map.mp hm
     obtain ⟨j,hj,e2⟩:=List.mem_iff_getElem.mp hy
     refine hno j y.2 ?_
     rw [List.getElem?_eq_getElem hj,e2,<- e]
    rw [hf,Bool.false_and] at hpre
    rw [hpre] at h
    refine wpAny_pure ?_
    rw [if_pos (by decide)]
    exact wpAny_pure (wpAny_pure h)
   .have hf:decide (k ∈ xb.map (·.1)) = true:=by
     rw [decide_eq_true_eq]
     exact List.mem_map.mpr ⟨(k,p),List.mem_of_getElem? hj,rfl⟩
    rw [hf,Bool.true_and] at hpre
    have hvb:p.2 = .bool true:=tb (k,p) (List.mem_of_getElem? hj)
    refine wpAny_bind (wpAny_dictEntries hob hdb ?_)
    rw [entry_at heb j,hj]
    show wpAny _ _ (holding [p.2] (eqBool (.bool true) p.2)) _ _ _
    rw [hvb]
    refine wpAny_holding (SeqAt.EqAt.same (A:=A) (s:=s') (.bool true) _ _ _ _ ?_)
    rw [if_neg (by decide)]
    refine wpAny_bind (wpAny_dictEpoch hoa hda ?_)
    rw [if_neg (by simp -iota)]
    exact wpAny_pure ⟨rfl,rfl,x + 1,hrest,hlt,hpre⟩
  .rintro q s' ⟨rfl,rfl,i,hr,hi,hpre⟩
   have hin:i = es.size:=by
    rcases Nat.lt_or_ge i es.size with h | h
    .have e:es.size - i = (es.size - (i + 1)) + 1:=by omega
     rw [e,List.range'_succ] at hr; exact nomatch hr
    .exact Nat.le_antisymm hi h
   refine wpAny_pure ?_
   rw [hin,hla,List.drop_length] at hpre
   rw [hpre] at h
   exact h
theorem ol (hu:A.units + 2 < cLine) {a b:Addr} {xa xb:List (List Int × Addr × Value)} (ha:(a == sysModules) = false) (hb:(b == sysModules) = false)
  (da:s.heap.DictOfH (wk C) a xa) (db:s.heap.DictOfH (wk C) b xb) (ta:∀ x ∈ xa,x.2.2 = .bool true) (tb:∀ x ∈ xb,x.2.2 = .bool true) {r:Bool}
  (hr:(decide ((xa.map (·.1)).length = (xb.map (·.1)).length) && (xa.map (·.1)).all fun w=>decide (w ∈ xb.map (·.1))) = r) {Q:Value->Shared->Prop} {E:Value->Shared->Prop} :
  (Q (.bool r) s->wpAny (model C.prog C.w) A (compareOp .Eq (.ref a) (.ref b)) Q E s)/\(Q (.bool (!r)) s->wpAny (model C.prog C.w) A (compareOp .NotEq (.ref a) (.ref b)) Q E s):=by
 constructor
 .intro h
  refine wpAny_richCompare_same_room (op:=.Eq) da.typeIs db.typeIs PySem.F.slot_dict_eq (wpAny_call_entry PySem.F.slot_dict_eq da.typeIs PySem.F.entry_dict_eq ?_ (PySem.F.args_dict_eq_2 _ _)) (by omega)
  refine wpAny_bind ?_
  unfold Builtin.Dict.dictSlotArgs
  refine wpAny_bind (wpAny_notOrdered_dict da.typeIs ?_)
  refine wpAny_pure ?_
  refine wpAny_bind (wpAny_isInstance (T := "dict") db.typeIs PySem.F.sub_dict_dict ?_)
  simp -iota only [Bool.not_true,Bool.false_eq_true,if_false]
  refine wpAny_bind (wpAny_pure (wpAny_bind (wpAny_pure ?_)))
  refine wpAny_bind (wsame (by show A.units + 1 < cLine; omega) ha hb da db ta tb ?_)
  rw [hr]
  refine wpAny_pure ⟨_,rfl,fun x=>(nomatch x),?_⟩
  simpa using h
 .intro h
  refine wpAny_richCompare_same_room (op:=.NotEq) da.typeIs db.typeIs PySem.F.slot_dict_ne (wpAny_call_entry PySem.F.slot_dict_ne da.typeIs PySem.F.entry_dict_ne ?_ (PySem.F.args_dict_ne_2 _ _)) (by omega)
  refine wpAny_bind ?_
  unfold Builtin.Dict.dictSlotArgs
  refine wpAny_bind (wpAny_notOrdered_dict da.typeIs ?_)
  refine wpAny_pure ?_
  refine wpAny_bind (wpAny_isInstance (T := "dict") db.typeIs PySem.F.sub_dict_dict ?_)
  simp -iota only [Bool.not_true,Bool.false_eq_true,if_false]
  refine wpAny_bind (wpAny_pure (wpAny_bind (wpAny_pure ?_)))
  refine wpAny_bind (wsame (by show A.units + 1 < cLine; omega) ha hb da db ta tb ?_)
  rw [hr]
  refine wpAny_pure ⟨_,rfl,fun x=>(nomatch x),?_⟩
  simpa using h
end
end Mine.Internal
end
section
set_option backward.match.sparseCases false
namespace Mine.Internal
open PySem PySem.Calls PyProof.Rows PySem.W
section
variable {C:Cf} {A:Around} {W:Addr->Prop} {X:Value->Shared->Prop} {μ:Mu} {σ:ac} {s:Shared} {c:Ctx} {env:Env}
theorem OR.wset {h:Heap} {p:Addr × Addr} {ws:List (List Int)} (x:OR C μ h p (.wset ws)):∃ xs,h.DictOfH (wk C) p.1 xs/\xs.map (·.1) = ws/\∀ x ∈ xs,x.2.2 = .bool true/\VR C.ghost μ h (.ref x.2.1) (wordV x.1):=x.2.2
theorem HR.mods (G:Glo C.ghost C.mg C.mb) (H:HR C μ σ s) {i:Nat} {p:Addr × Addr} (e:μ[i]? = some p):(p.1 == sysModules) = false :=
 beq_eq_false_iff_ne.mpr fun q=>G.mods (q ▸ (H.own i p e).1)
theorem iw (G:Glo C.ghost C.mg C.mb) (H:HR C μ σ s) (hu:A.units + 64 < cLine) {v w:Value} {x y:AV} (hv:VR C.ghost μ s.heap v x) (hw:VR C.ghost μ s.heap w y) {r:Bool} (e:eqV σ x y = some r) {Q:Value->Shared->Prop} {E:Value->Shared->Prop} :
  (Q (.bool r) s->wpAny (model C.prog C.w) A (compareOp .Eq v w) Q E s)/\(x ≠ .none->Q (.bool (!r)) s->wpAny (model C.prog C.w) A (compareOp .NotEq v w) Q E s):=by
 unfold eqV at e
 induction x using AV.casesOn with
 | none =>
  induction y using AV.casesOn with
  | none =>
   rw [hv.inv_none]
   rw [hw.inv_none]
   obtain rfl:=Option.some.inj e
   exact ⟨EqNone.eq_none_none,fun n=>absurd rfl n⟩
  | _=>exact nomatch e
 | int i =>
  induction y using AV.casesOn with
  | int j =>
   obtain ⟨t,rfl⟩:=hv.inv_int
   obtain ⟨u,rfl⟩:=hw.inv_int
   obtain rfl:=Option.some.inj e
   exact ⟨P.eq_int,fun z0=>P.ne_int⟩
  | _=>exact nomatch e
 | str i =>
  induction y using AV.casesOn with
  | str j =>
   obtain ⟨t,rfl⟩:=hv.inv_str
   obtain ⟨u,rfl⟩:=hw.inv_str
   obtain rfl:=Option.some.inj e
   exact ⟨PyProof.Rows.eq_str,fun z0=>PyProof.Rows.ne_str⟩
  | _=>exact nomatch e
 | obj i =>
  induction y using AV.casesOn with
  | obj j =>
   obtain ⟨p,rfl,hp⟩:=hv.inv_obj
   obtain ⟨o,ho,hor⟩:=H.objAt hp
   obtain ⟨p',rfl,hp'⟩:=hw.inv_obj
   obtain ⟨o',ho',hor'⟩:=H.objAt hp'
   dsimp only at e
   rw [ho,ho'] at e
   clear ho ho' hv hw
   induction o using AO.casesOn with
   | list xs =>
    induction o' using AO.casesOn with
    | list ys =>
     obtain ⟨_,vs,n,h1,h2⟩:=hor
     obtain ⟨_,ws,m,h3,h4⟩:=hor'
     have:=nT H hu h1 h3 h2 h4 e (Q:=Q) (E:=E)
     exact ⟨this.1,fun z0=>this.2⟩
    | _=>exact nomatch e
   | wset ws =>
    induction o' using AO.casesOn with
    | wset vs =>
     obtain ⟨xa,h1,h2,h3⟩:=hor.wset
     obtain ⟨xb,h4,h5,h6⟩:=hor'.wset
     have:=ol (A:=A) (by omega) (H.mods G hp) (H.mods G hp') h1 h4 (fun x hx=>(h3 x hx).1) (fun x hx=>(h6 x hx).1) (r:=r) (by rw [h2,h5]; exact Option.some.inj e) (Q:=Q) (E:=E)
     exact ⟨this.1,fun z0=>this.2⟩
    | _=>exact nomatch e
   | _=>exact nomatch e
  | _=>exact nomatch e
 | _=>exact nomatch e
theorem kQ {x y:Str} {t u:Tok}:SeqAt.EqAt A s (.str x t) (.str y u) (x == y):=(eqGives_str x y t u).at A s
theorem pX {C:Cf} (hu:A.units < cLine) {a b:Addr} {x y:List Str} (hx:IsTupleKey (PySem.strKind C.prog C.w) s.heap x a) (hy:IsTupleKey (PySem.strKind C.prog C.w) s.heap y b):SeqAt.EqAt A s (.ref a) (.ref b) (x == y):=by
 intro prog w E Q hq
 have conv:∀ {z:List Str} {c:Addr},IsTupleKey (PySem.strKind C.prog C.w) s.heap z c->IsTupleKey (PySem.strKind prog w) s.heap z c:=by
  rintro z c ⟨o,items,n,h1,h2,h3,h4⟩
  refine ⟨o,items,n,h1,h2,h3,?_⟩
  clear h3
  generalize items.toList = l at h4
  induction h4 with
  | nil=>exact .nil
  | cons q _ ih=>exact .cons q ih
 refine wpAny_eqBool_tuple hu (conv hx) (conv hy) ?_
 have:decide (x = y) = (x == y):=by
  rw [Bool.eq_iff_iff]; simp
 rw [this]; exact hq
theorem qi {α:Type} [DecidableEq α] (a b:α):(a == b) = (b == a):=by rw [Bool.eq_iff_iff,beq_iff_eq,beq_iff_eq]; exact eq_comm
theorem my {vs:List Value} {ys:List Str} {x:Str} {t:Tok} (hv:VRs C.ghost μ s.heap vs (ys.map AV.str)) :
  ∃ e:Value->Bool,(∀ y,y ∈ vs.toArray->SeqAt.EqAt A s y (.str x t) (e y))/\vs.toArray.any e = ys.contains x:=by
 refine ⟨fun v=>match v with | .str y _=>y == x | _=>false,fun y hy=>?_,?_⟩
 .have hy':y ∈ vs:=by simpa using hy
  obtain ⟨k,hk,rfl⟩:=List.mem_iff_getElem.mp hy'
  have hk':k < (ys.map AV.str).length:=by rw [<- hv.len]; exact hk
  obtain ⟨v,h1,h2⟩:=hv.get (List.getElem?_eq_getElem hk')
  rw [List.getElem?_eq_getElem hk] at h1; injection h1 with h1
  rw [List.getElem_map] at h2
  obtain ⟨u,h3⟩:=h2.inv_str
  rw [h1,h3]
  exact kQ
 .rw [List.any_toArray]
  induction ys generalizing vs with
  | nil=>cases hv; rfl
  | cons y ys ih =>
   cases hv with
   | cons h1 r =>
    obtain ⟨u,rfl⟩:=h1.inv_str
    rw [List.any_cons,ih r,List.contains_cons]
    exact congrArg (· || _) (qi _ _)
theorem rp (hu:A.units < cLine) {vs:List Value} {ys:List (List Str)} {x:List Str} {a:Addr} (hx:IsTupleKey (PySem.strKind C.prog C.w) s.heap x a) (hv:VRs C.ghost μ s.heap vs (ys.map fun r=>AV.tup (r.map AV.str))) :
  ∃ e:Value->Bool,(∀ y,y ∈ vs.toArray->SeqAt.EqAt A s y (.ref a) (e y))/\vs.toArray.any e = ys.contains x:=by
 classical
 have key:∀ v y,VR C.ghost μ s.heap v (.tup (y.map AV.str))->∃ b,v = .ref b/\IsTupleKey (PySem.strKind C.prog C.w) s.heap y b:=fun v y h=>h.rkey
 refine ⟨fun v=>decide (∃ b,v = .ref b/\IsTupleKey (PySem.strKind C.prog C.w) s.heap x b),fun y hy=>?_,?_⟩
 .have hy':y ∈ vs:=by simpa using hy
  obtain ⟨k,hk,rfl⟩:=List.mem_iff_getElem.mp hy'
  have hk':k < (ys.map fun r=>AV.tup (r.map AV.str)).length:=by rw [<- hv.len]; exact hk
  obtain ⟨v,h1,h2⟩:=hv.get (List.getElem?_eq_getElem hk')
  rw [List.getElem?_eq_getElem hk] at h1; injection h1 with h1
  rw [List.getElem_map] at h2
  obtain ⟨b,h3,h4⟩:=key _ _ h2
  rw [h1,h3]
  have hk2:k < ys.length:=by simpa using hk'
  have:decide (∃ b',Value.ref b = .ref b'/\IsTupleKey (PySem.strKind C.prog C.w) s.heap x b') = (ys[k] == x):=by
   rw [Bool.eq_iff_iff,decide_eq_true_eq,beq_iff_eq]
   constructor
   .rintro ⟨b',e,h5⟩
    injection e with e; subst e
    exact h4.inj h5
   .intro e; exact ⟨b,rfl,e ▸ h4⟩
  show SeqAt.EqAt A s (Value.ref b) (Value.ref a) (decide (∃ b',Value.ref b = Value.ref b'/\IsTupleKey (PySem.strKind C.prog C.w) s.heap x b'))
  rw [this]
  exact pX hu h4 hx
 .rw [List.any_toArray]
  induction ys generalizing vs with
  | nil=>cases hv; rfl
  | cons y ys ih =>
   cases hv with
   | cons h1 r =>
    obtain ⟨b,rfl,h4⟩:=key _ _ h1
    rw [List.any_cons,ih r,List.contains_cons]
    refine congrArg (· || _) ?_
    rw [Bool.eq_iff_iff,decide_eq_true_eq,beq_iff_eq]
    constructor
    .rintro ⟨b',e,h5⟩
     injection e with e; subst e
     exact (h4.inj h5).symm
    .intro e; exact ⟨b,rfl,e ▸ h4⟩
theorem ji {xs:List (List Int × Addr × Value)} {k:List Int}:(atKey xs k).isSome = (xs.map (·.1)).contains k:=by
 unfold atKey
 rw [Option.isSome_map,List.isSome_find?]
 induction xs with
 | nil=>rfl
 | cons x xs ih =>
  rw [List.any_cons,ih,List.map_cons,List.contains_cons]
  exact congrArg (· || _) (by rw [Bool.eq_iff_iff,decide_eq_true_eq,beq_iff_eq]; exact eq_comm)
theorem gq (x y:AV) (σ:ac):cmpV.isIn x y σ ≠ .exc:=by
 induction y using AV.casesOn with
 | tup xs =>
  induction x using AV.casesOn with
  | str k =>
   show (MM.opt (strsOf xs) >>= fun ys=>MM.pure (ys.contains k):MM Bool) σ ≠ .exc
   rw [ai]
   cases strsOf xs <;> (intro q; exact nomatch q)
  | _=>intro q; exact nomatch q
 | obj i =>
  show (match σ[i]? with
   | some (.list xs)=>(match x with
    | .str x=>(match strsOf xs with | some ys=>.ok (ys.contains x) σ | _=>.stuck)
    | .tup bs=>(match strsOf bs,rowsOf xs with | some r,some rs=>.ok (rs.contains r) σ | _,_=>.stuck)
    | _=>.stuck)
   | some (.wset ws)=>(match wordOf x with | some w=>.ok (ws.contains w) σ | _=>.stuck)
   | _=>.stuck:Out Bool) ≠ .exc
  induction σ[i]? using Option.casesOn with
  | none=>intro q; exact nomatch q
  | some o =>
   induction o using AO.casesOn with
   | list xs =>
    induction x using AV.casesOn with
    | str k=>dsimp only; cases strsOf xs <;> (intro q; exact nomatch q)
    | tup bs=>dsimp only; cases strsOf bs <;> cases rowsOf xs <;> (intro q; exact nomatch q)
    | _=>intro q; exact nomatch q
   | wset ws=>dsimp only; cases wordOf x <;> (intro q; exact nomatch q)
   | _=>intro q; exact nomatch q
 | _=>intro q; exact nomatch q
set_option maxHeartbeats 2000000 in
theorem cE (G:Glo C.ghost C.mg C.mb) (H:HR C μ σ s) (hu:A.units + 64 < cLine) {v w:Value} {x y:AV} (hv:VR C.ghost μ s.heap v x) (hw:VR C.ghost μ s.heap w y) {r:Bool} {σ':ac} (e:cmpV.isIn x y σ = .ok r σ') {Q:Value->Shared->Prop} {E:Value->Shared->Prop} :
  σ' = σ/\((∀ t,Q (.bool r) { s with toks:=t })->wpAny (model C.prog C.w) A (compareOp .In v w) Q E s)/\((∀ t,Q (.bool (!r)) { s with toks:=t })->wpAny (model C.prog C.w) A (compareOp .NotIn v w) Q E s):=by
 have u1:A.in1.units < cLine:=by show A.units + 1 < cLine; omega
 unfold cmpV.isIn at e
 induction y using AV.casesOn with
 | tup ys =>
  obtain ⟨l,vs,n,rfl,h1,h2⟩:=hw.inv_tup
  induction x using AV.casesOn with
  | str k =>
   obtain ⟨t,rfl⟩:=hv.inv_str
   dsimp only at e
   rw [ai] at e
   induction hs:strsOf ys using Option.casesOn with
   | none=>rw [hs] at e; exact nomatch e
   | some zs =>
    rw [hs] at e
    injection e with e1 e2
    subst e1 e2
    rw [ci hs] at h2
    obtain ⟨f,hf,hany⟩:=my (A:=A.in1) (x:=k) (t:=t) h2
    have hl:s.heap.IsTuple l vs.toArray:=⟨_,h1,rfl,n,rfl⟩
    exact ⟨rfl,fun q=>SeqAt.in_tupleAt f hl hf (by rw [hany]; exact q s.toks),fun q=>SeqAt.notIn_tupleAt f hl hf (by rw [hany]; exact q s.toks)⟩
  | _=>exact nomatch e
 | obj j =>
  obtain ⟨p,rfl,hp⟩:=hw.inv_obj
  obtain ⟨o,ho,hor⟩:=H.objAt hp
  simp only [ho] at e
  induction o using AO.casesOn with
  | list ys =>
   obtain ⟨_,vs,n,h1,h2⟩:=hor
   have hl:s.heap.IsList p.1 vs.toArray:=⟨_,h1,rfl,n,rfl⟩
   induction x using AV.casesOn with
   | str k =>
    obtain ⟨t,rfl⟩:=hv.inv_str
    dsimp only at e
    induction hs:strsOf ys using Option.casesOn with
    | none=>rw [hs] at e; exact nomatch e
    | some zs =>
     rw [hs] at e
     injection e with e1 e2
     subst e1 e2
     rw [ci hs] at h2
     obtain ⟨f,hf,hany⟩:=my (A:=A.in1) (x:=k) (t:=t) h2
     exact ⟨rfl,fun q=>SeqAt.in_listAt f hl hf (by rw [hany]; exact q s.toks),fun q=>SeqAt.notIn_listAt f hl hf (by rw [hany]; exact q s.toks)⟩
   | tup bs =>
    dsimp only at e
    induction hs:strsOf bs using Option.casesOn with
    | none=>rw [hs] at e; exact nomatch e
    | some k =>
     induction hr:rowsOf ys using Option.casesOn with
     | none=>rw [hs,hr] at e; exact nomatch e
     | some zs =>
      rw [hs,hr] at e
      injection e with e1 e2
      subst e1 e2
      rw [ci hs] at hv
      rw [nE hr] at h2
      obtain ⟨a,rfl,hk⟩:=hv.rkey (prog:=C.prog) (wd:=C.w)
      obtain ⟨f,hf,hany⟩:=rp (A:=A.in1) u1 hk h2
      exact ⟨rfl,fun q=>SeqAt.in_listAt f hl hf (by rw [hany]; exact q s.toks),fun q=>SeqAt.notIn_listAt f hl hf (by rw [hany]; exact q s.toks)⟩
   | _=>exact nomatch e
  | wset ws =>
   obtain ⟨xs,h1,h2,h3⟩:=hor.wset
   dsimp only at e
   induction hs:wordOf x using Option.casesOn with
   | none=>rw [hs] at e; exact nomatch e
   | some k =>
    rw [hs] at e
    injection e with e1 e2
    subst e1 e2
    rw [ch hs] at hv
    obtain ⟨a,rfl,hk⟩:=hv.wkey (prog:=C.prog) (wd:=C.w)
    have hkk:(atKey xs k).isSome = ws.contains k:=by rw [ji,h2]
    exact ⟨rfl,fun q=>wpAny_in_heap (knd:=wk C) u1 hk (H.mods G hp) h1 (by rw [hkk]; exact q _),fun q=>wpAny_notIn_heap (knd:=wk C) u1 hk (H.mods G hp) h1 (by rw [hkk]; exact q _)⟩
  | _=>exact nomatch e
 | _=>exact nomatch e
theorem jN (G:Glo C.ghost C.mg C.mb) (H:HR C μ σ s) (hu:A.units + 64 < cLine) {op:CmpOp} {v w:Value} {x y:AV} (hv:VR C.ghost μ s.heap v x) (hw:VR C.ghost μ s.heap w y) :
  af C A W X μ σ s (fun z0 z0 b a=>b = Value.bool a) (compareOp op v w) (cmpV op x y):=by
 have fin:∀ {op:CmpOp} {v w:Value} {r:Bool} {m:MM Bool},m σ = .ok r σ->(∀ (Q:Value->Shared->Prop) (E:Value->Shared->Prop),(∀ t,Q (.bool r) { s with toks:=t })->wpAny (model C.prog C.w) A (compareOp op v w) Q E s) ->
   af C A W X μ σ s (fun z0 z0 b a=>b = Value.bool a) (compareOp op v w) m:=fun e h=>aA e fun Q E hQ=>h Q E fun t=>hQ μ _ _ Ext.refl (H.toks t) rfl
 have twoI:∀ {op:CmpOp} {f:Int->Int->Bool},(∀ i t j u (Q:Value->Shared->Prop) (E:Value->Shared->Prop),Q (.bool (f i j)) s->wpAny (model C.prog C.w) A (compareOp op (.int i t) (.int j u)) Q E s) ->
   af C A W X μ σ s (fun z0 z0 b a=>b = Value.bool a) (compareOp op v w) (onInt x fun i=>onInt y fun j=>MM.pure (f i j)):=fun {op f} h =>
  aP (fun v=>compareOp op v w) hv fun i t=>aP (fun w=>compareOp op (.int i t) w) hw fun j u=>fin rfl fun Q E q=>h i t j u Q E (q s.toks)
 have fin2:∀ {op:CmpOp} {o:Option Bool} {g:Bool->Bool} {m:MM Bool},(∀ r,o = some r->m σ = .ok (g r) σ)->(o = none->m σ = .stuck)->(∀ r,o = some r->∀ (Q:Value->Shared->Prop) (E:Value->Shared->Prop),Q (.bool (g r)) s->wpAny (model C.prog C.w) A (compareOp op v w) Q E s) ->
   af C A W X μ σ s (fun z0 z0 b a=>b = Value.bool a) (compareOp op v w) m:=by
  intro op o g m h1 h2 h
  induction e:o using Option.casesOn with
  | none=>exact ak (h2 e)
  | some r=>exact fin (h1 r e) fun Q E q=>h r e Q E (q s.toks)
 have isN:notNone y = false->∀ r,noneIs x = some r->∀ (Q:Value->Shared->Prop) (E:Value->Shared->Prop),(Q (.bool r) s->wpAny (model C.prog C.w) A (compareOp .Is v w) Q E s)/\(Q (.bool (!r)) s->wpAny (model C.prog C.w) A (compareOp .IsNot v w) Q E s):=by
  intro hy r e Q E
  have hw:w = .none:=by
   induction y using AV.casesOn with
   | none=>exact hw.inv_none
   | _=>exact absurd hy (by decide:¬ true = false)
  rw [hw]
  induction x using AV.casesOn with
  | none=>obtain rfl:=hv.inv_none; injection e with e; subst e; exact ⟨is_none_none,isnot_none_none⟩
  | obj i=>obtain ⟨p,rfl,hp⟩:=hv.inv_obj; injection e with e; subst e; exact ⟨is_ref_none,isnot_ref_none⟩
  | str i=>obtain ⟨t,rfl⟩:=hv.inv_str; injection e with e; subst e; exact ⟨is_str_none,isnot_str_none⟩
  | _=>exact nomatch e
 induction op using CmpOp.casesOn with
 | Eq=>exact fin2 (o:=eqV σ x y) (g:=id) (fun r e=>by show (MM.opt (eqV σ x y):MM Bool) σ = _; rw [e]; rfl) (fun e=>by show (MM.opt (eqV σ x y):MM Bool) σ = _; rw [e]; rfl) fun r e Q E q=>(iw G H hu hv hw e).1 q
 | NotEq =>
  refine aj fun hg=>?_
  rw [Bool.and_eq_true] at hg
  exact fin2 (o:=eqV σ x y) (g:=not) (fun r e=>by show (MM.opt (eqV σ x y) >>= fun r=>MM.pure (!r):MM Bool) σ = _; rw [e]; rfl) (fun e=>by show (MM.opt (eqV σ x y) >>= fun r=>MM.pure (!r):MM Bool) σ = _; rw [e]; rfl)
   fun r e Q E q=>(iw G H hu hv hw e).2 (fun q=>by rw [q] at hg; exact absurd hg.1 Bool.false_ne_true) q
 | Lt=>exact twoI fun i t j u Q E q=>P.lt_int q
 | LtE=>exact twoI fun i t j u Q E q=>P.le_int q
 | Gt=>exact twoI fun i t j u Q E q=>P.gt_int q
 | GtE=>exact twoI fun i t j u Q E q=>P.ge_int q
 | Is=>exact aj fun hy=>fin2 (g:=id) (fun r e=>by rw [e]; rfl) (fun e=>by rw [e]; rfl) fun r e Q E=>(isN (by rw [Bool.not_eq_true'] at hy; exact hy) r e Q E).1
 | IsNot=>exact aj fun hy=>fin2 (o:=noneIs x) (g:=not) (fun r e=>by rw [e]; rfl) (fun e=>by rw [e]; rfl) fun r e Q E=>(isN (by rw [Bool.not_eq_true'] at hy; exact hy) r e Q E).2
 | In =>
  unfold cmpV
  induction e:cmpV.isIn x y σ using Out.casesOn with
  | stuck=>exact ak e
  | exc=>exact absurd e (gq x y σ)
  | ok r σ' =>
   obtain ⟨rfl,_,_⟩:=cE (A:=A) G H hu hv hw e (Q:=fun z0 z0=>True) (E:=fun z0 z0=>True)
   exact fin e fun Q E q=>(cE G H hu hv hw e).2.1 q
 | NotIn =>
  unfold cmpV
  induction e:cmpV.isIn x y σ using Out.casesOn with
  | stuck=>exact ak (by show (cmpV.isIn x y >>= fun r=>MM.pure (!r):MM Bool) σ = _; rw [ai,e])
  | exc=>exact absurd e (gq x y σ)
  | ok r σ' =>
   obtain ⟨rfl,_,_⟩:=cE (A:=A) G H hu hv hw e (Q:=fun z0 z0=>True) (E:=fun z0 z0=>True)
   exact fin (r:=!r) (by show (cmpV.isIn x y >>= fun r=>MM.pure (!r):MM Bool) σ' = _; rw [ai,e]; rfl) fun Q E q=>(cE G H hu hv hw e).2.2 q
end
end Mine.Internal
end
section
namespace Mine.Internal
open PySem PySem.Calls PyProof.Rows PySem.W
section
variable {g h:Heap} {μ:Mu}
theorem AtR.get {es:List DictEntry} {r:List (Str × AV)} (x:AtR g μ h es r) {n:Str} {a:AV} (e:r.lookup n = some a):∃ v,getL n es = some (some v)/\VR g μ h v a:=by
 induction x with
 | nil=>simp at e
 | @cons d y t b es r hk hv _ ih =>
  rw [List.lookup_cons] at e
  unfold getL
  rw [List.find?_cons,hk]
  by_cases hn:n = y
  .subst hn
   simp only [beq_self_eq_true] at e
   injection e with e; subst e
   simp only [Value.isStr,beq_self_eq_true]
   exact ⟨_,rfl,hv⟩
  .have h1:(n == y) = false:=beq_eq_false_iff_ne.mpr hn
   have h2:(y == n) = false:=beq_eq_false_iff_ne.mpr (Ne.symm hn)
   rw [h1] at e
   obtain ⟨v,q1,q2⟩:=ih e
   refine ⟨v,?_,q2⟩
   have h3:(Value.str y t).isStr n = false:=h2
   rw [h3]
   dsimp only
   unfold getL at q1
   induction hf:es.find? (fun e=>e.key.isStr n) using Option.casesOn with
   | some d'=>rw [hf] at q1; exact q1
   | none =>
    rw [hf] at q1
    simp only at q1
    split at q1 <;> simp at q1
theorem AtR.put {es:List DictEntry} {r:List (Str × AV)} (x:AtR g μ h es r) (n:Str) (hsh:Int) (t:Tok) {v:Value} {a:AV} (hv:VR g μ h v a):AtR g μ h (putL n hsh (.str n t) v es) (aset n a r):=by
 induction x with
 | nil=>exact .cons rfl hv .nil
 | @cons d y u b es r hk hv' hr ih =>
  unfold putL aset
  rw [hk]
  by_cases hn:y = n
  .have h1:(Value.str y u).isStr n = true:=by simp [Value.isStr,hn]
   rw [if_pos h1,if_pos hn]
   exact .cons rfl hv hr
  .have h1:¬ (Value.str y u).isStr n = true:=by simp [Value.isStr,hn]
   rw [if_neg h1,if_neg hn]
   exact .cons hk hv' ih
theorem AtR.len {es:List DictEntry} {r:List (Str × AV)} (x:AtR g μ h es r):es.length = r.length:=by
 induction x with
 | nil=>rfl
 | cons _ _ _ ih=>simp [ih]
theorem ef (n:Str) (hsh:Int) (k v:Value) (es:List DictEntry):(putL n hsh k v es).length ≤ es.length + 1:=by
 induction es with
 | nil=>simp [putL]
 | cons e es ih=>unfold putL; split <;> simp <;> omega
theorem AtR.noRef {es:List DictEntry} {r:List (Str × AV)} (x:AtR g μ h es r):es.any (·.refKey) = false:=by
 induction x with
 | nil=>rfl
 | cons hk _ _ ih=>rw [List.any_cons,ih]; simp [DictEntry.refKey,hk]
theorem VR.handed {v:Value} {a:AV} (x:VR g μ h v a):handedIn v = true:=by cases x <;> rfl
end
section
variable {C:Cf} {A:Around} {W:Addr->Prop} {X:Value->Shared->Prop} {μ:Mu} {σ:ac} {s:Shared} {c:Ctx} {env:Env}
theorem instAt {p:Addr × Addr} {D:Addr} {es:List DictEntry} {n:Nat} {h:Heap} (h1:h.get? p.1 = some ⟨.ref D,some p.2,.plain,#[]⟩) (h2:h.get? p.2 = some (dictOf es n)) :
  InstAt h p.1 ⟨.ref D,some p.2,.plain,#[]⟩ D (some (dictOf es n)):=⟨h1,rfl,rfl,h2⟩
theorem HR.kin (O:Ok C) (H:HR C μ σ s):C.K.In s.heap:=O.kin.keeps H.ghost
theorem nf (O:Ok C) (H:HR C μ σ s) {v:Value} {a:AV} (hv:VR C.ghost μ s.heap v a) (x:Str):af C A W X μ σ s (RV C) (getAttr v x true) (getAt a x):=by
 unfold getAt
 induction a using AV.casesOn with
 | obj i =>
  obtain ⟨p,rfl,hp⟩:=hv.inv_obj
  obtain ⟨o,ho,hor⟩:=H.objAt hp
  induction o using AO.casesOn with
  | inst cn at' =>
   by_cases hc:(attrsOf cn).contains x = true
   .induction hl:at'.lookup x using Option.casesOn with
    | none=>exact ak (by dsimp only; rw [ho]; dsimp only; rw [if_pos hc,hl])
    | some b =>
     refine aA (a:=b) (σ':=σ) (by dsimp only; rw [ho]; dsimp only; rw [if_pos hc,hl]) fun Q E hQ=>?_
     obtain ⟨h1,es,n,h2,h3⟩:=hor
     obtain ⟨w,h4,h5⟩:=h3.get hl
     have F:=O.cls cn x hc
     obtain ⟨at2,f1,f2⟩:=F.find
     exact get_value (H.kin O) (instAt h1 h2) (plainGet_of F.get).1 (findObj_own F.dict f1 f2 (by rw [lookIn_dict]; exact h4)) h5.handed (hQ μ _ _ Ext.refl (H.toks _) h5)
   .exact ak (by dsimp only; rw [ho]; dsimp only; rw [if_neg hc])
  | _=>exact ak (by dsimp only; rw [ho])
 | _=>exact ae
set_option tactic.hygienic true in
theorem mq {fz i:Nat} {o:AO} {σ':ac} (e:setO fz i o σ = .ok () σ'):fz ≤ i/\i < σ.length/\σ' = σ.set i o:=by
 unfold setO at e
 split at e
 .rename_i h; injection e with _ e; exact ⟨h.1,h.2,e.symm⟩
 .exact nomatch e
theorem jU {fz i:Nat} {o:AO}:(∃ σ',setO fz i o σ = .ok () σ')\/setO fz i o σ = .stuck:=by
 unfold setO
 split
 .exact .inl ⟨_,rfl⟩
 .exact .inr rfl
theorem ed {R:Mu->Shared->Unit->Unit->Prop} {fz i:Nat} {o:AO} {t:Sem Unit} (h:fz ≤ i->∀ (Q:Unit->Shared->Prop) (E:Value->Shared->Prop),
   (∀ μ' s',Ext C W μ s.heap μ' s'.heap->HR C μ' (σ.set i o) s'->R μ' s' () ()->Q () s')->wpAny (model C.prog C.w) A t Q E s):af C A W X μ σ s R t (setO fz i o):=by
 rcases jU (fz:=fz) (i:=i) (o:=o) (σ:=σ) with ⟨σ',e⟩ | e
 .obtain ⟨h1,h2,rfl⟩:=mq e
  exact aA e fun Q E hQ=>h h1 Q E fun μ' s' x H' r=>hQ μ' () s' x H' r
 .exact ak e
theorem bB {α β:Type} {R:Mu->Shared->β->α->Prop} {t:Sem β} {m m':MM α} (e:m σ = m' σ) (h:af C A W X μ σ s R t m'):af C A W X μ σ s R t m:=by
 unfold af at h ⊢; rw [e]; exact h
theorem nsPut {h:Heap} {dx:Addr} {es:List DictEntry} {n:Nat} (D:h.get? dx = some (dictOf es n)) (x:Str) (hsh:Int) (k v:Value) :
  (h.update dx (Obj.putName x hsh k v)).get? dx = some (dictOf (putL x hsh k v es) (putN x es n)):=by
 have q:=Heap.get?_update_self (Obj.putName x hsh k v) D (by rw [putName_dict]; rfl)
 rw [q,putName_dict]
theorem pB {K:Frag} {prog:Program} {w:World} {R:Result->Shared->Prop} {D:Addr} {p:Addr × Addr} {name:Str} {tk:Tok} {v:Value} {es:List DictEntry} {n:Nat} (X:K.In s.heap) (F:dk K D name)
  (h1:s.heap.get? p.1 = some ⟨.ref D,some p.2,.plain,#[]⟩) (h2:s.heap.get? p.2 = some (dictOf es n)) (hr:es.any (·.refKey) = false) (hz:es.length ≤ 1000)
  (h:R (.ok (.ret .none)) { s with heap:=s.heap.update p.2 (Obj.putName name (PyData.keyHash w.params name) (.str name s.toks) v),toks:=s.toks + 1 }) :
  codeAny (model prog w) A (.call (.builtin "object.__setattr__") ⟨[.ref p.1,.str name tk,v],[]⟩) R s:=by
 have I:=instAt h1 h2
 refine osa_open X I F.over F.taker fun b=>?_
 obtain ⟨cd,hc,hd'⟩:=any_some F.dict
 have D':=nsPut h2 name (PyData.keyHash w.params name) (.str name s.toks) v
 refine wpAny_bind (wpAny_pure (wpAny_bind (wpAny_bind (wpAny_loadPart h1 (wpAny_bind ((looks_clsIn X hc).here ?_))))))
 rw [hd']
 refine wpAny_pure (a:=some p.2) (wpAny_bind (wpAny_pure (wpAny_bind ?_)))
 unfold nsSet
 refine wpAny_bind (wpAny_bind (wpAny_askSetting (wpAny_pure (wpAny_bind (wpAny_mkText (wpAny_bind (wpAny_loadPart h2 ?_)))))))
 dsimp only
 have c:(!es.toArray.any (·.key.isStr name) && es.toArray.any (·.refKey)) = false:=by
  rw [List.any_toArray,List.any_toArray,hr,Bool.and_false]
 rw [aRefKeyMayBeTheName_at,c]
 refine wpAny_updatePart h2 ?_
 refine wpAny_bind (wpAny_lookBehind D' (pastItsLine_dict (by rw [List.size_toArray,sizeLine_eq]; have:=ef name (PyData.keyHash w.params name) (.str name s.toks) v es; omega)) ?_)
 exact wpAny_pure h
theorem mV (O:Ok C) (H:HR C μ σ s) {fz:Nat} (hf:fz = C.fz) {v w:Value} {a b:AV} (hv:VR C.ghost μ s.heap v a) (hw:VR C.ghost μ s.heap w b) (x:Str) :
  af C A W X μ σ s (fun z0 z0 z0 z0=>True) (setAttr v x w) (setAt fz a x b):=by
 induction a using AV.casesOn with
 | obj i =>
  obtain ⟨p,rfl,hp⟩:=hv.inv_obj
  obtain ⟨o,ho,hor⟩:=H.objAt hp
  induction o using AO.casesOn with
  | inst cn at' =>
   by_cases hc:((attrsOf cn).contains x && decide (at'.length < 100)) = true
   .refine bB (m':=setO fz i (.inst cn (aset x b at'))) (by unfold setAt; dsimp only; rw [ho]; dsimp only; rw [if_pos hc]) (ed fun hle Q E hQ=>?_)
    rw [Bool.and_eq_true,decide_eq_true_eq] at hc
    obtain ⟨h1,es,n,h2,h3⟩:=hor
    have F:=O.cls cn x hc.1
    have I:=instAt h1 h2
    refine set_plain (H.kin O) I F.set (pB (A:=A) (s:={ s with toks:=s.toks + 1 }) (w:=C.w) ((H.toks _).kin O) F h1 h2 h3.noRef (by rw [h3.len]; omega) ?_)
    have D':=nsPut h2 x (PyData.keyHash C.w.params x) (.str x (s.toks + 1)) w
    obtain ⟨xx,H'⟩:=H.turn (s.toks + 1 + 1) hp ho (hf ▸ hle) (.inr rfl) (Heap.SameBut.update s.heap p.2 _) (o':=.inst cn (aset x b at')) (fun xx=>by
     refine ⟨?_,_,_,D',(AtR.ext H wild0 xx h3).put x _ _ (VR.ext H wild0 xx hw)⟩
     have hne:p.2 ≠ p.1:=fun q=>by rw [q,h1] at h2; injection h2 with h2; injection h2 with h2; exact nomatch h2
     rw [Heap.get?_update_other _ _ hne]; exact h1)
    exact hQ μ _ xx.any H' trivial
   .exact ak (by unfold setAt; dsimp only; rw [ho]; dsimp only; rw [if_neg hc])
  | _=>exact ak (by unfold setAt; dsimp only; rw [ho])
 | _=>exact ae
theorem pO {g h:Heap} {μ:Mu}:∀ {kvs:List (Str × Value)} {es:List (Str × AV)} {y:Str} {b:AV},kvs.map (·.1) = es.map (·.1)->VRs g μ h (kvs.map (·.2)) (es.map (·.2))->es.lookup y = some b->∃ v,valueAt kvs y = some v/\VR g μ h v b
 | [],[],_,_,_,_,e=>by simp at e
 | [],_ :: _,_,_,h,_,_=>by simp at h
 | _ :: _,[],_,_,h,_,_=>by simp at h
 | (k,v) :: kvs,(k',a) :: es,y,b,h,r,e=>by
  simp only [List.map_cons,List.cons.injEq] at h
  obtain ⟨rfl,h⟩:=h
  cases r with
  | cons r1 r2 =>
   rw [List.lookup_cons] at e
   unfold valueAt
   rw [List.find?_cons]
   by_cases hy:k = y
   .subst hy
    simp only [beq_self_eq_true] at e
    injection e with e; subst e
    simp only [decide_true]
    exact ⟨v,rfl,r1⟩
   .have h1:(y == k) = false:=beq_eq_false_iff_ne.mpr (Ne.symm hy)
    rw [h1] at e
    obtain ⟨u,q1,q2⟩:=pO h r2 e
    refine ⟨u,?_,q2⟩
    simp only [hy,decide_false]
    exact q1
theorem jy {vs:List Value} {k:Nat}:(List.toArray vs)[k]? = vs[k]?:=by simp
theorem fU (H:HR C μ σ s) {v w:Value} {a k:AV} (hv:VR C.ghost μ s.heap v a) (hw:VR C.ghost μ s.heap w k) :
  af C A W X μ σ s (RV C) (getItem v w) (subscr a k):=by
 induction a using AV.casesOn with
 | obj i =>
  obtain ⟨p,rfl,hp⟩:=hv.inv_obj
  obtain ⟨o,ho,hor⟩:=H.objAt hp
  induction o using AO.casesOn with
  | list xs =>
   induction k using AV.casesOn with
   | int j =>
    obtain ⟨t,rfl⟩:=hw.inv_int
    by_cases hj:0 ≤ j/\j < 2 ^ 60
    .induction hx:xs[j.toNat]? using Option.casesOn with
     | none=>exact ak (by unfold subscr; dsimp only; rw [ho]; dsimp only; rw [if_pos hj,hx])
     | some b =>
      refine aA (a:=b) (σ':=σ) (by unfold subscr; dsimp only; rw [ho]; dsimp only; rw [if_pos hj,hx]) fun Q E hQ=>?_
      obtain ⟨_,vs,n,h1,h2⟩:=hor
      obtain ⟨u,h3,h4⟩:=h2.get hx
      exact wpAny_getItem_list (items:=List.toArray vs) ⟨_,h1,rfl,n,rfl⟩ hj.1 (by omega) (by rw [jy]; exact h3) (hQ μ _ _ Ext.refl H h4)
    .exact ak (by unfold subscr; dsimp only; rw [ho]; dsimp only; rw [if_neg hj])
   | _=>exact ak (by unfold subscr; dsimp only; rw [ho])
  | sdict es =>
   induction k using AV.casesOn with
   | str y =>
    obtain ⟨t,rfl⟩:=hw.inv_str
    induction hx:es.lookup y using Option.casesOn with
    | none=>exact ak (by unfold subscr; dsimp only; rw [ho]; dsimp only; rw [hx])
    | some b =>
     refine aA (a:=b) (σ':=σ) (by unfold subscr; dsimp only; rw [ho]; dsimp only; rw [hx]) fun Q E hQ=>?_
     obtain ⟨_,o,kvs,h1,h2,h3,h4⟩:=hor
     obtain ⟨u,q1,q2⟩:=pO h3 h4 hx
     have hD:s.heap.DictOf (PySem.strKind C.prog C.w) p.1 kvs:=Heap.dictOf_iff.mpr ⟨o,h1,h2⟩
     exact wpAny_getItem_of (knd:=PySem.strKind C.prog C.w) (k:=y) (by simp [PySem.strKind,Value.isStrOf]) hD.mapOf q1 (hQ μ _ _ Ext.refl (H.toks _) q2)
   | _=>exact ak (by unfold subscr; dsimp only; rw [ho])
  | _=>exact ak (by unfold subscr; dsimp only; rw [ho])
 | _=>exact ae
end
section
variable {C:Cf} {A:Around} {W:Addr->Prop} {X:Value->Shared->Prop} {μ:Mu} {σ:ac} {s:Shared} {c:Ctx} {env:Env}
theorem lP {prog:Program} {w:World} {l:Addr} {vs:List Value} {n:Nat} {k:Int} {t:Tok} {v:Value} {Q:Unit->Shared->Prop} {E:Value->Shared->Prop} (ho:s.heap.get? l = some (listOf (List.toArray vs) n))
  (h0:0 ≤ k) (hfit:k < 2 ^ 63) (hn:k.toNat < vs.length)
  (hQ:∀ h' n',h'.get? l = some (listOf (List.toArray (vs.set k.toNat v)) n')->Heap.SameBut l s.heap h'->Q () { s with heap:=h' }) :
  wpAny (model prog w) A (setItem (.ref l) (.int k t) v) Q E s:=by
 have hl:s.heap.IsList l (List.toArray vs):=⟨_,ho,rfl,n,rfl⟩
 unfold setItem
 try with_reducible refine wpAny_holding ?_
 refine wpAny_bind (wpAny_sequenceKey hl.typeIs (by decide) ?_)
 refine wpAny_bind (wpAny_callSpecial?_slot (name:=Str.ofString "__setitem__") hl.typeIs slot_list_setitem
  (wpAny_call_entry slot_list_setitem hl.typeIs entry_list_setitem ?_ (args_list_setitem _ _ _)))
 show wpAny _ _ (Builtin.List.listSubscript? (.int k t) >>= _) _ _ s
 refine wpAny_bind (wpAny_listSubscript_int (fitsIndex_of h0 hfit) ?_)
 clear hfit
 obtain ⟨j,rfl⟩:=Int.eq_ofNat_of_zero_le h0
 have hj:j < vs.length:=by simpa using hn
 refine wpAny_bind (wpAny_bind (wpAny_seqItemAt ho rfl (wpAny_pure ?_)))
 have hx':(List.toArray vs)[j]? = some vs[j]:=by simp [hj]
 rw [hx']
 have hfin:(s.heap.update l (Obj.mapSeq (·.setIfInBounds j v))).get? l = some (listOf (List.toArray (vs.set j v)) n):=by
  have:=get?_update_seq ho (·.setIfInBounds j v)
  rw [this]
  simp
 refine wpAny_bind (wpAny_setSeqItemAt ho rfl ?_)
 first
  | exact wpAny_bind (wpAny_pure (wpAny_pure ⟨.none,rfl,wpAny_pure (hQ _ n hfin (Heap.SameBut.update ..))⟩))
  | exact wpAny_pure ⟨.none,rfl,wpAny_pure (hQ _ n hfin (Heap.SameBut.update ..))⟩
theorem VRs.set {g h:Heap} {μ:Mu} {vs:List Value} {xs:List AV} (x:VRs g μ h vs xs) {v:Value} {a:AV} (hv:VR g μ h v a) (k:Nat):VRs g μ h (vs.set k v) (xs.set k a):=by
 induction xs generalizing vs k with
 | nil=>cases x; exact .nil
 | cons b xs ih =>
  cases x with
  | cons h1 r =>
   induction k using Nat.casesAuxOn with
   | zero=>exact .cons hv r
   | succ k=>exact .cons h1 (ih r k)
theorem bw {xs:List (List Int × Addr × Value)} {w:List Int} {a:Addr} {v:Value}:(storedH xs w a v).map (·.1) = winsert w (xs.map (·.1)):=by
 unfold winsert
 induction h:atKey xs w using Option.casesOn with
 | none =>
  have hn:w ∉ xs.map (·.1):=by
   intro hm
   obtain ⟨x,hx,rfl⟩:=List.mem_map.mp hm
   unfold atKey at h
   rw [Option.map_eq_none_iff,List.find?_eq_none] at h
   exact h x hx (by simp)
  rw [storedH_new h,if_neg hn]; simp
 | some p =>
  have hn:w ∈ xs.map (·.1):=by
   unfold atKey at h
   rw [Option.map_eq_some_iff] at h
   obtain ⟨x,hx,_⟩:=h
   have h1:=List.mem_of_find?_eq_some hx
   have h2:=List.find?_some hx
   exact List.mem_map.mpr ⟨x,h1,by simpa using h2⟩
  rw [storedH_old h,if_pos hn,keys_map_putAt]
theorem cP {P:List Int->Addr->Prop} {xs:List (List Int × Addr × Value)} {w:List Int} {a:Addr} (hx:∀ x ∈ xs,x.2.2 = .bool true/\P x.1 x.2.1) (hw:P w a):∀ x ∈ storedH xs w a (.bool true),x.2.2 = .bool true/\P x.1 x.2.1:=by
 intro x hm
 induction h:atKey xs w using Option.casesOn with
 | none =>
  rw [storedH_new h] at hm
  rcases List.mem_append.mp hm with hm | hm
  .exact hx x hm
  .rw [List.mem_singleton] at hm; subst hm; exact ⟨rfl,hw⟩
 | some p =>
  rw [storedH_old h] at hm
  obtain ⟨y,hy,rfl⟩:=List.mem_map.mp hm
  unfold putAt
  split
  .exact ⟨rfl,(hx y hy).2⟩
  .exact hx y hy
theorem dictSetE {prog:Program} {w:World} {K:Type} [DecidableEq K] {knd:HeapKind prog w K} {d a:Addr} {xs:List (K × Addr × Value)} {k:K} {v:Value} {Q:Unit->Shared->Prop} {E:Value->Shared->Prop}
  (hu:knd.room A) (hkey:knd.is s.heap k a) (hm:s.heap.DictOfH knd d xs) (hE:oh s.heap d xs.length)
  (hQ:∀ h',h'.DictOfH knd d (storedH xs k a v)->oh h' d (storedH xs k a v).length->Heap.SameBut d s.heap h'->Q () { s with heap:=h',toks:=s.toks + knd.draws k }) (hsz:xs.length ≤ sizeLine) :
  wpAny (model prog w) A (dictSet d (.ref a) v) Q E s:=by
 obtain ⟨o,es,ep,ho,hc,hd,he,his,hn⟩:=hm
 obtain ⟨o',es',ho',hd'⟩:=hE
 obtain rfl:ep = xs.length:=by
  rw [ho] at ho'; injection ho' with ho'; subst ho'; rw [hd] at hd'; injection hd'
 clear ho' hd'
 have hsize:=size_of_entries he
 unfold dictSet
 try with_reducible refine wpAny_holding ?_
 refine wpAny_bind (knd.pyHash hu hkey ?_)
 unfold dictSetHashed
 try with_reducible refine wpAny_holding ?_
 refine wpAny_bind (wpAny_dictFind_heap (s:={ s with toks:=s.toks + knd.draws k }) hu hkey ho hd he his hn (fun hno=>?_) fun j p hj=>?_)
 .have hat:=atKey_none_of_get hno
  have hs:=storedH_new hat a v
  have hget:=Heap.get?_update_self (Obj.mapDictKeys (·.push ⟨knd.hash k,.ref a,v⟩)) ho (Obj.isFreed_of_dict (Obj.data_mapDictKeys hd _))
  have hdat:=Obj.data_mapDictKeys hd (·.push ⟨knd.hash k,.ref a,v⟩)
  refine wpAny_bind (wpAny_rule (wpAny_updateDictKeys (s:={ s with toks:=s.toks + knd.draws k }) ho hd (hQ _ ⟨_,_,_,hget,hc.mapDictKeys _,hdat,?_,fun x hx=>?_,?_⟩ ⟨_,es.push ⟨knd.hash k,.ref a,v⟩,hget,?_⟩ (Heap.SameBut.update ..)) (by omega)))
  .rw [hs]; simp [he,entryOfKey]
  .rw [hs] at hx
   refine knd.keeps ?_ ho hd (Heap.SameBut.update ..)
   rcases List.mem_append.mp hx with hx | hx
   .exact his x hx
   .rw [List.mem_singleton.mp hx]; exact hkey
  .rw [hs,List.map_append]
   refine List.nodup_append.mpr ⟨hn,by simp,fun x hx y hy e=>not_mem_keys_of_get hno ?_⟩
   rw [List.map_cons,List.map_nil,List.mem_singleton] at hy
   subst hy; subst e; exact hx
  .rw [hs,List.length_append]; exact hdat
 .have hs:=storedH_old (atKey_of_get hn hj) a v
  have hget:=Heap.get?_update_self (Obj.mapDict (·.modify j fun e=>{ e with val:=v })) ho (Obj.isFreed_of_dict (Obj.data_mapDict hd _))
  have hdat:=Obj.data_mapDict hd (·.modify j fun e=>{ e with val:=v })
  refine wpAny_bind (wpAny_rule (wpAny_bind (wpAny_updateDict (s:={ s with toks:=s.toks + knd.draws k }) ho hd (wpAny_point (hQ _ ⟨_,_,_,hget,hc.mapDict _,hdat,?_,fun x hx=>?_,?_⟩ ⟨_,es.modify j fun e=>{ e with val:=v },hget,?_⟩ (Heap.SameBut.update ..))))))
  .rw [hs]
   have:=modify_map_putAt (entryOfKey knd) (fun e:DictEntry=>{ e with val:=v }) k v (fun z0 z0=>rfl) hn hj
   rw [<- this,<- he]
   obtain ⟨l⟩:=es
   simp
  .rw [hs] at hx
   obtain ⟨y,hy,rfl⟩:=List.mem_map.mp hx
   unfold putAt
   split <;> exact knd.keeps (his y hy) ho hd (Heap.SameBut.update ..)
  .rw [hs,keys_map_putAt]; exact hn
  .rw [hs,List.length_map]; exact hdat
theorem setItemE {prog:Program} {w:World} {K:Type} [DecidableEq K] {knd:HeapKind prog w K} {d a:Addr} {xs:List (K × Addr × Value)} {k:K} {v:Value} {Q:Unit->Shared->Prop} {E:Value->Shared->Prop}
  (hu:knd.room A.in1) (hkey:knd.is s.heap k a) (hm:s.heap.DictOfH knd d xs) (hE:oh s.heap d xs.length)
  (hQ:∀ h',h'.DictOfH knd d (storedH xs k a v)->oh h' d (storedH xs k a v).length->Heap.SameBut d s.heap h'->Q () { s with heap:=h',toks:=s.toks + knd.draws k }) (hsz:xs.length ≤ sizeLine) :
  wpAny (model prog w) A (setItem (.ref d) (.ref a) v) Q E s:=by
 unfold setItem
 try with_reducible refine wpAny_holding ?_
 refine wpAny_bind (wpAny_sequenceKey hm.typeIs (by decide) ?_)
 refine wpAny_bind (wpAny_callSpecial?_slot (name:=Str.ofString "__setitem__") hm.typeIs slot_dict_setitem
  (wpAny_call_entry slot_dict_setitem hm.typeIs entry_dict_setitem ?_ (args_dict_setitem _ _ _)))
 refine wpAny_bind (wpAny_notOrdered_dict hm.typeIs ?_)
 show wpAny _ _ (dictSet d (.ref a) v >>= _) _ _ s
 exact wpAny_bind (dictSetE hu hkey hm hE (fun h' hm' hE' hs'=>wpAny_pure ⟨.none,rfl,wpAny_pure (hQ h' hm' hE' hs')⟩) hsz)
theorem lD (H:HR C μ σ s) (hu:A.units + 8 < cLine) {fz:Nat} (hf:fz = C.fz) {v w u:Value} {a k b:AV} (hv:VR C.ghost μ s.heap v a) (hw:VR C.ghost μ s.heap w k) (hb:VR C.ghost μ s.heap u b) :
  af C A W X μ σ s (fun z0 z0 z0 z0=>True) (setItem v w u) (setSub fz a k b):=by
 induction a using AV.casesOn with
 | obj i =>
  obtain ⟨p,rfl,hp⟩:=hv.inv_obj
  obtain ⟨o,ho,hor⟩:=H.objAt hp
  induction o using AO.casesOn with
  | list xs =>
   induction k using AV.casesOn with
   | int j =>
    obtain ⟨t,rfl⟩:=hw.inv_int
    by_cases hj:0 ≤ j/\j < 2 ^ 60/\j.toNat < xs.length
    .refine bB (m':=setO fz i (.list (xs.set j.toNat b))) (by unfold setSub; dsimp only; rw [ho]; dsimp only; rw [if_pos hj]) (ed fun hle Q E hQ=>?_)
     obtain ⟨e1,vs,n,h1,h2⟩:=hor
     refine lP h1 hj.1 (by omega) (by rw [h2.len]; exact hj.2.2) fun h' n' g1 g2=>?_
     obtain ⟨xx,H'⟩:=H.turn s.toks hp ho (hf ▸ hle) (.inl rfl) g2 (o':=.list (xs.set j.toNat b)) (fun xx=>⟨e1,_,n',g1,(VRs.ext H wild0 xx h2).set (VR.ext H wild0 xx hb) _⟩)
     exact hQ μ _ xx.any H' trivial
    .exact ak (by unfold setSub; dsimp only; rw [ho]; dsimp only; rw [if_neg hj])
   | _=>exact ak (by unfold setSub; dsimp only; rw [ho])
  | wset ws =>
   induction hk:wordOf k using Option.casesOn with
   | none=>exact ak (by unfold setSub; dsimp only; rw [ho]; dsimp only; rw [hk])
   | some wd =>
    induction b using AV.casesOn with
    | bool bb =>
     induction bb using Bool.casesOn with
     | true =>
      by_cases hft:fits ws.length = true
      .refine bB (m':=setO fz i (.wset (winsert wd ws))) (by unfold setSub; dsimp only; rw [ho]; dsimp only; rw [hk]; dsimp only; rw [if_pos hft]) (ed fun hle Q E hQ=>?_)
       rw [hb.inv_bool]
       obtain ⟨e1,hE,xs,h1,h2,h3⟩:=hor
       rw [ch hk] at hw
       obtain ⟨ad,rfl,hkey⟩:=VR.wkey (prog:=C.prog) (wd:=C.w) hw
       refine setItemE (knd:=wk C) (k:=wd) (tupleKind_room_in1 (by omega)) hkey h1 (by rw [<- h2,List.length_map] at hE; exact hE) (fun h' g1 gE g2=>?_) (by
        have:=bv hft; rw [<- h2,List.length_map] at this; exact this)
       obtain ⟨xx,H'⟩:=H.turn (s.toks + (wk C).draws wd) hp ho (hf ▸ hle) (.inl rfl) g2 (o':=.wset (winsert wd ws)) (fun xx=>by
        refine ⟨e1,?_,_,g1,by rw [bw,h2],?_⟩
        .rw [<- h2,<- bw,List.length_map]; exact gE
        .exact cP (P:=fun w a=>VR C.ghost μ h' (.ref a) (wordV w)) (fun x hx=>⟨(h3 x hx).1,VR.ext H wild0 xx (h3 x hx).2⟩) (VR.ext H wild0 xx hw))
       exact hQ μ _ xx.any H' trivial
      .exact ak (by unfold setSub; dsimp only; rw [ho]; dsimp only; rw [hk]; dsimp only; rw [if_neg hft])
     | false=>exact ak (by unfold setSub; dsimp only; rw [ho]; dsimp only; rw [hk])
    | _=>exact ak (by unfold setSub; dsimp only; rw [ho]; dsimp only; rw [hk])
  | _=>exact ak (by unfold setSub; dsimp only; rw [ho])
 | _=>exact ae
theorem oJ {α:Type} (vs:List α):∀ (n:Nat),(List.range n).filterMap (vs[·]?) = vs.take n:=by
 induction vs with
 | nil=>intro n; simp
 | cons v vs ih =>
  intro n
  induction n using Nat.casesAuxOn with
  | zero=>rfl
  | succ n =>
   rw [List.range_succ_eq_map,List.filterMap_cons,List.filterMap_map]
   simp only [List.getElem?_cons_zero,List.take_succ_cons]
   congr 1
   have:=ih n
   simpa [Function.comp_def] using this
theorem cO {v w:Value} {T id:String} {k:Expr} {base:Expr} {α:Type} {R:Mu->Shared->Value->α->Prop} {m:MM α} (hT:s.TypeIs v T) (hl:typeLookup (.type T) "__getitem__" = pure (some (.builtin id)))
  (hs:∃ ops,subscripted k false v w = operate ops (getItem v w)) (h:af C A W X μ σ s R (getItem v w) m) :
  af C A W X μ σ s R (do let r <- subscripted k (<- getitemInPython v) v w; letTemporaryGo base v r; pure r) m:=by
 obtain ⟨ops,hs⟩:=hs
 refine bq (t':=getItem v w) (fun Q E q=>?_) h
 refine wpAny_bind ?_
 rw [getitemInPython_of_ne hT.not_modules]
 refine wpAny_bind (wpAny_specialOf hT hl ?_)
 have fin:wpAny (model C.prog C.w) A (subscripted k false v w) (fun r s₃=>wpAny (model C.prog C.w) A (letTemporaryGo base v r >>= fun z0=>pure r) Q E s₃) E s:=by
  rw [hs]
  exact wpAny_operating (wpAny_mono q (fun z0 z0 z=>wpAny_bind (wpAny_letTemporaryGo (wpAny_pure z))) fun z0 z0 z=>z)
 first
  | exact wpAny_pure (wpAny_bind fin)
  | exact wpAny_bind (wpAny_pure (wpAny_bind fin))
  | exact wpAny_bind fin
noncomputable def notSlice:Expr->Bool
 | .Slice _ _ _ _=>false
 | _=>true
theorem hV {k:Expr} (h:notSlice k = true) (v w:Value):∃ ops,subscripted k false v w = operate ops (getItem v w):=by
 cases k <;> first | exact ⟨_,rfl⟩ | exact absurd h Bool.false_ne_true
theorem jI (H:HR C μ σ s) {v w:Value} {a b:AV} (hv:VR C.ghost μ s.heap v a) (hw:VR C.ghost μ s.heap w b) {k base:Expr} (hk:notSlice k = true) :
  af C A W X μ σ s (RV C) (do let r <- subscripted k (<- getitemInPython v) v w; letTemporaryGo base v r; pure r) (subscr a b):=by
 induction a using AV.casesOn with
 | obj i =>
  obtain ⟨p,rfl,hp⟩:=hv.inv_obj
  obtain ⟨o,ho,hor⟩:=H.objAt hp
  induction o using AO.casesOn with
  | list xs =>
   obtain ⟨_,vs,n,h1,h2⟩:=id hor
   exact cO ⟨_,h1,rfl⟩ list_getitem_lookup (hV hk _ _) (fU H hv hw)
  | sdict es =>
   obtain ⟨_,o,kvs,h1,h2,h3,h4⟩:=id hor
   have hD:s.heap.DictOf (PySem.strKind C.prog C.w) p.1 kvs:=Heap.dictOf_iff.mpr ⟨o,h1,h2⟩
   exact cO hD.typeIs slot_dict_getitem.lookup (hV hk _ _) (fU H hv hw)
  | _=>exact ak (by unfold subscr; dsimp only; rw [ho])
 | _=>exact ae
theorem jb {b:Expr} {p:Pos}:eval (.Slice none (some b) none p) env = (do
  let u <- holding [.none] (eval b env)
  let s <- holding [.none,u] (pure .none)
  newFields "slice" [.none,u,s]):=rfl
theorem fx {u:Value} {Q:Value->Shared->Prop} {E:Value->Shared->Prop} (h:Q (.ref s.heap.objs.size) { s with heap:=s.heap.push { cls:=.type "slice", data:=.fields #[.none,u,.none] } }) :
  wpAny (model C.prog C.w) A (newFields "slice" [.none,u,.none]) Q E s:=by
 unfold newFields
 exact wpAny_newObj_type h (by size_fits)
theorem mj {n:Int} (h0:0 ≤ n) (len:Nat):Builtin.Str.strSliceIndices none (some n) 1 len = List.range (min n.toNat len):=by
 obtain ⟨k,rfl⟩:=Int.eq_ofNat_of_zero_le h0
 unfold Builtin.Str.strSliceIndices
 simp only [Int.reduceGT,if_true]
 have h1:¬ ((k:Int) < 0):=Int.not_lt.mpr (Int.natCast_nonneg k)
 rw [if_neg h1]
 have h2:max 0 (min (k:Int) (len:Int)) = ((min k len:Nat):Int):=by rw [<- Lean.Omega.Int.ofNat_min]; exact Int.max_eq_right (Int.natCast_nonneg _)
 rw [h2]
 unfold sliceRange
 simp only [Int.reduceGT,if_true,Int.toNat_natCast]
 by_cases hz:(0:Int) < ((min k len:Nat):Int)
 .rw [if_pos hz]
  have h3:((((min k len:Nat):Int) - 0 + 1 - 1) / 1).toNat = min k len:=by omega
  rw [h3]
  conv=>rhs; rw [<- List.map_id (List.range (min k len))]
  exact List.map_congr_left fun j z0=>by simp
 .rw [if_neg hz]
  have:min k len = 0:=by omega
  rw [this]; rfl
theorem mN (x:Str) {n:Int} (h0:0 ≤ n):(Builtin.Str.strSliceIndices none (some n) 1 x.length).filterMap (x.cps[·]?) = x.cps.toList.take n.toNat:=by
 rw [mj h0]
 have:=oJ x.cps.toList (min n.toNat x.length)
 rw [show (fun i=>x.cps[i]?) = (fun i=>x.cps.toList[i]?) from by funext i; simp,this]
 have h5:x.length = x.cps.toList.length:=by simp [Str.length]
 rw [h5,List.take_eq_take_iff,Nat.min_assoc,Nat.min_self]
set_option tactic.hygienic true in
theorem jJ (H1:HR C μ σ s) {v:Value} {a:AV} (hv:VR C.ghost μ s.heap v a) {ad:Addr} {n:Int} {t:Tok} (S:s.heap.IsSliceOf ad .none (.int n t) .none) {base:Expr} {e:Expr} {p:Pos} :
  af C A W X μ σ s (RV C) (do let r <- subscripted (.Slice none (some e) none p) (<- getitemInPython v) v (.ref ad); letTemporaryGo base v r; pure r) (sliceTo a n):=by
  unfold sliceTo
  refine aj fun hn=>?_
  rw [decide_eq_true_eq] at hn
  have hsl:∀ vs:List Value,(slicePick (List.toArray vs) none (some n) none) = (vs.take n.toNat).toArray:=fun vs=>by
   have en:n = ((n.toNat:Nat):Int):=by omega
   rw [en,slicePick_upto']
   rfl
  have take:∀ {g h:Heap} {μ:Mu} {vs:List Value} {xs:List AV},VRs g μ h vs xs->∀ k:Nat,VRs g μ h (vs.take k) (xs.take k):=by
   intro g h μ vs xs x
   induction xs generalizing vs with
   | nil=>intro k; cases x; simp only [List.take_nil]; exact .nil
   | cons b xs ih =>
    intro k
    cases x with
    | cons h1 r =>
     induction k using Nat.casesAuxOn with
     | zero=>exact .nil
     | succ k=>exact .cons h1 (ih r k)
  induction a using AV.casesOn with
  | frz xs =>
   obtain ⟨l,vs,rfl,h1,h2⟩:=hv.inv_frz
   refine aj fun hf=>?_
   have hl:s.heap.IsList l (List.toArray vs):=h1.at fun o e=>H1.ghost _ _ e
   refine cO hl.typeIs list_getitem_lookup ⟨_,rfl⟩ ?_
   have hv':VRs C.ghost μ s.heap vs (xs.map AV.int):=by
    clear h1 hl hf hv
    induction h2 with
    | nil=>exact .nil
    | cons i tk _ ih=>exact .cons (.int i tk) ih
   rw [List.map_take]
   refine ee H1 (take hv' n.toNat) fun hlen Q E h=>?_
   refine wpAny_getItem_list_slice hl S (by first | exact .none | exact IsPart.none | rfl) (.int _ _) (by first | exact .none | rfl) (by decide) ?_ (by
    have:=bv hf; rw [List.size_toArray,h2.length]; exact this)
   rw [hsl]
   exact h _
  | obj i =>
   refine aQ H1 hv fun l i' vs xs nn ev ea z0 z0 h1 h2=>?_
   rw [ev]
   refine aj fun hf=>?_
   have h1':s.heap.get? l = some (PySem.W.listOf (List.toArray vs) nn):=h1
   refine cO ⟨_,h1',rfl⟩ list_getitem_lookup ⟨_,rfl⟩ ?_
   refine ee H1 (take h2 n.toNat) fun hlen Q E h=>?_
   refine wpAny_getItem_list_slice ⟨_,h1',rfl,nn,rfl⟩ S (by first | exact .none | rfl) (.int _ _) (by first | exact .none | rfl) (by decide) ?_ (by
    have:=bv hf; rw [List.size_toArray,h2.len]; exact this)
   rw [hsl]
   exact h _
  | str y =>
   obtain ⟨tk,rfl⟩:=hv.inv_str
   refine aj fun hf=>?_
   refine cO (typeIs_str _ _ _) F.slot_str_getitem.lookup ⟨_,rfl⟩ ?_
   refine aA rfl fun Q E hQ=>?_
   refine wpAny_getItem_str_slice (l:=none) (u:=some (n,t)) (st:=none) S rfl ?_
   have hp:=mN y hn
   have hlen:(⟨(y.cps.toList.take n.toNat).toArray⟩ : Str).length ≤ sizeLine:=by
    have:=bv hf
    have e1:(⟨(y.cps.toList.take n.toNat).toArray⟩ : Str).length = (y.cps.toList.take n.toNat).length:=by simp [Str.length]
    have e2:y.length = y.cps.toList.length:=by simp [Str.length]
    rw [e1,List.length_take]; exact Nat.le_trans (Nat.min_le_right _ _) (Nat.le_trans (Nat.le_of_eq e2.symm) this)
   unfold sliceMade slicePicked
   dsimp only [Option.map,Option.getD]
   rw [hp]
   have e:(if ((1:Int) == 1 && (Builtin.Str.strSliceIndices none (some n) 1 y.length).length == y.length) = true then y else (⟨(y.cps.toList.take n.toNat).toArray⟩ : Str)) = ⟨(y.cps.toList.take n.toNat).toArray⟩:=by
    split
    .rename_i hwhole
     simp only [beq_self_eq_true,Bool.true_and,beq_iff_eq,mj hn,List.length_range] at hwhole
     have e2:y.length = y.cps.toList.length:=by simp [Str.length]
     rw [List.take_of_length_le (Nat.le_trans (Nat.le_of_eq (e2.symm.trans hwhole.symm)) (Nat.min_le_left _ _))]
    .rfl
   refine post_val_or_str ⟨?_,fun t' k=>?_⟩
   .rw [e]; exact hlen
   .rw [e]; exact hQ μ _ _ Ext.refl (H1.toks k) (.str _ t')
  | _=>exact ae
end
/-! the heap never shrinks -/
theorem eK {M:Model} {Γ:PySem.Ctx} {p:Pos} {t:Sem PySem.Fin} {fs:List Frame} {s s':Shared} {e:End} (h:Runs M Γ p t fs s e s'):s.heap.objs.size ≤ s'.heap.objs.size:=by
 induction h <;> (try simp only [Shared.setGen,Heap.size_update,Heap.size_push] at *) <;> (try omega)
theorem iP {M:Model} {Γ:PySem.Ctx} {p:Pos} {s s':Shared} {r:Result} (h:Returns M Γ p s r s'):s.heap.objs.size ≤ s'.heap.objs.size:=eK h
theorem ls {M:Model} {Γ:PySem.Ctx} {p:Pos} {g:Nat} {r:Resume} {s s':Shared} {res:GenResult} (h:Wakes M Γ p g r s res s'):s.heap.objs.size ≤ s'.heap.objs.size:=by
 unfold Wakes at h
 split at h
 .exact h.elim
 .split at h
  .obtain ⟨e₁,s₁,hr,_,_,rfl⟩:=h; exact (eK hr:(s.setGen g .running).heap.objs.size ≤ s₁.heap.objs.size)
  .rw [h.2]; exact Nat.le_refl _
  .rw [h.2]; exact Nat.le_refl _
 .obtain ⟨e₁,s₁,hr,_,_,rfl⟩:=h; exact (eK hr:(s.setGen g .running).heap.objs.size ≤ s₁.heap.objs.size)
 .rw [h.2]; exact Nat.le_refl _
 .rw [h.2]; exact Nat.le_refl _
theorem qy {α:Type} (M:Model) (Γ:PySem.Ctx) (n:Nat) (t:Sem α):∀ (Q:α->Pos->Shared->Prop) (E:Value->Pos->Shared->Prop) (p:Pos) (s:Shared),n ≤ s.heap.objs.size->Sem.wp M Γ t Q E p s ->
  Sem.wp M Γ t (fun a p' s'=>n ≤ s'.heap.objs.size/\Q a p' s') (fun e p' s'=>n ≤ s'.heap.objs.size/\E e p' s') p s:=by
 induction t with
 | pure a=>intro Q E p s hn h; exact ⟨hn,h⟩
 | raise e=>intro Q E p s hn h; exact ⟨hn,h⟩
 | unsupported _=>intro Q E p s _ h; exact h
 | finish _=>intro Q E p s _ h; exact h
 | rule _ k ih=>intro Q E p s hn h; exact ih () Q E p s hn h
 | «at» p' k ih=>intro Q E p s hn h; exact ih () Q E p' s hn h
 | load a _ k ih=>intro Q E p s hn h; obtain ⟨o,ho,h⟩:=h; exact ⟨o,ho,ih o Q E p s hn h⟩
 | update a _ f k ih=>intro Q E p s hn h; exact ⟨h.1,ih () Q E p _ (by show n ≤ (s.heap.update a f).objs.size; rw [Heap.size_update]; exact hn) h.2⟩
 | loadIfAlive a k ih=>intro Q E p s hn h; exact ih _ Q E p s hn h
 | point _ k ih=>intro Q E p s hn h; exact ih () Q E p s hn h
 | register _ _=>intro Q E p s _ h; exact h
 | alloc o k ih=>intro Q E p s hn h; exact ih _ Q E p _ (by show n ≤ (s.heap.push o).objs.size; rw [Heap.size_push]; omega) h
 | fresh k ih=>intro Q E p s hn h; exact ih _ Q E p _ hn h
 | ask k ih=>intro Q E p s hn h; exact ih _ Q E p s hn h
 | choose src m k ih=>intro Q E p s hn h; exact ⟨h.1,ih _ Q E p _ hn h.2⟩
 | os q _ k ih=>intro Q E p s hn h; exact ih _ Q E p _ hn h
 | call c hd _ _ k ih=>intro Q E p s hn h; obtain ⟨r,s',hr,h⟩:=h; exact ⟨r,s',hr,ih r Q E p s' (Nat.le_trans hn (iP hr)) h⟩
 | handled own k ih=>intro Q E p s hn h; exact ih _ Q E p s hn h
 | genState g k ih=>intro Q E p s hn h; obtain ⟨st,hs,h⟩:=h; exact ⟨st,hs,ih _ Q E p s hn h⟩
 | newGen c k ih=>intro Q E p s hn h; exact ih _ Q E p _ hn h
 | resume g r _ k ih=>intro Q E p s hn h; obtain ⟨res,s',hw,h⟩:=h; exact ⟨res,s',hw,ih res Q E p s' (Nat.le_trans hn (ls hw)) h⟩
 | yield _ _ _ _=>intro Q E p s _ h; exact h
 | stack k ih=>intro Q E p s hn h; exact ih _ Q E p s hn h
 | fork _ _=>intro Q E p s _ h; exact h
 | thread k ih=>intro Q E p s hn h; exact ih _ Q E p s hn h
 | await _ _ _ _ _=>intro Q E p s _ h; exact h
theorem lr {α:Type} {M:Model} {A:Around} {s:Shared} {t:Sem α} {Q:α->Shared->Prop} {E:Value->Shared->Prop} {n:Nat} (hn:n ≤ s.heap.objs.size) (h:wpAny M A t Q E s) :
  wpAny M A t (fun a s'=>n ≤ s'.heap.objs.size/\Q a s') (fun e s'=>n ≤ s'.heap.objs.size/\E e s') s :=
 fun Γ p hΓ=>qy M Γ n t _ _ p s hn (h Γ p hΓ)
theorem aZ {α:Type} {M:Model} {A:Around} {s:Shared} {t:Sem α} {Q:α->Shared->Prop} {E:Value->Shared->Prop} (h:wpAny M A t (fun a s'=>s.heap.objs.size ≤ s'.heap.objs.size->Q a s') E s):wpAny M A t Q E s :=
 wpAny_mono (lr (Nat.le_refl _) h) (fun z0 z0 q=>q.2 q.1) fun z0 z0 q=>q.2
section
variable {C:Cf} {A:Around} {W:Addr->Prop} {X:Value->Shared->Prop} {μ:Mu} {σ:ac} {s:Shared} {c:Ctx} {env:Env}
theorem HR.otherG (H:HR C μ σ s) {W:Addr->Prop} {a:Addr} {h':Heap} (t:Nat) (hs:Heap.ExtBut a s.heap h') (hz:s.heap.objs.size ≤ h'.objs.size) (hw:W a) (hwild:∀ o,s.heap.get? a = some o->¬ ff o) (hb:C.base.get? a = none)
  (ho:∀ (i:Nat) (p:Addr × Addr),μ[i]? = some p->p.1 ≠ a/\p.2 ≠ a) (hfr:a ∉ C.fl) (htb:a ∉ C.tb) :
  Ext C W μ s.heap μ h'/\HR C μ σ { s with heap:=h',toks:=t }:=by
 have x0:∀ {W':Addr->Prop},W' a->Ext C W' μ s.heap μ h':=fun hw'=>⟨⟨[],by simp⟩,hz,fun i p hi e=>(by rw [List.getElem?_eq_none hi] at e; cases e),
  fun b o e z0 hn=>(by
   have hb:b ≠ a:=fun q=>hn (q ▸ hw')
   exact ⟨fun z0=>hs b o hb e,fun z0=>⟨o.slots,hs b o hb e⟩⟩)⟩
 have x1:Ext C (fun b=>b = a) μ s.heap μ h':=x0 rfl
 have hW:bX (fun b=>b = a) s.heap:=fun b o q e=>by subst q; exact hwild o e
 refine ⟨x0 hw,⟨H.gens,H.os,fun b o e=>?_,H.gstay,H.len,fun i p o e1 e2=>?_,H.sep,H.new,H.own,fun env he=>?_,H.frm,?_,H.tabs0,H.h0f,fun L hL o e=>let ⟨sl,q⟩:=H.h0k L hL o e; ⟨sl,hs L _ (fun q=>hfr (q ▸ H.h0f L hL)) q⟩⟩⟩
 .exact hs b o (fun q=>by rw [q,hb] at e; cases e) (H.stay b o e)
 .obtain ⟨n1,n2⟩:=ho i p e1
  obtain ⟨⟨_,a1⟩,⟨_,a2⟩⟩:=H.some1 e1
  exact OR.move H hW x1 (H.obj i p o e1 e2) ((hs _ _ n1 a1).trans a1.symm) ((hs _ _ n2 a2).trans a2.symm)
 .obtain ⟨h1,L,m,h2,h3,h4⟩:=H.frames env he
  have hL:L ≠ a:=fun q=>hfr (q ▸ List.mem_filterMap.mpr ⟨env,he,h2⟩)
  exact ⟨h1,L,m,h2,h3.at' fun o e=>hs L o hL e,h4⟩
 .exact H.tabs.move (fun P hP ps e=>hs P _ (fun q=>htb (q ▸ hP)) e) fun b o e hc=>hs b o (fun q=>hwild o (q ▸ e) hc) e
structure ItR (C:Cf) (μ:Mu) (I:Addr):Prop where
 off:∀ (i:Nat) (p:Addr × Addr),μ[i]? = some p->p.1 ≠ I/\p.2 ≠ I
 new:C.base.get? I = none
 tb:I ∉ C.tb
 fl:I ∉ C.fl
noncomputable def bt (C:Cf) (μ:Mu) (h:Heap) (I:Addr) (lst:Bool) (n k:Nat):AV->Prop
 | .tup xs=>∃ a vs m,h.get? a = some (tupObj vs m)/\VRs C.ghost μ h vs xs/\h.IsTupleIter I a k
 | .rng m=>m = n/\IsRangeIter h I (k:Int) ((n:Int) - k) 1
 | .obj i=>∃ p,μ[i]? = some p/\(if lst = true then h.IsListIter I p.1 k else h.IsKeyIter I p.1 k n n)
 | _=>False
theorem bt.rec {h:Heap} {I:Addr} {lst:Bool} {n k:Nat} {src:AV} (x:bt C μ h I lst n k src):∃ o vs nm,h.get? I = some o/\o.data = .fields vs/\o.cls = .type nm/\nm ≠ "tuple" /\ nm ≠ "range" /\ nm ≠ "list" /\ nm ≠ "code" := by
 induction src using AV.casesOn with
 | tup xs=>obtain ⟨_,_,_,_,_,o,h1,h2,h3⟩:=x; exact ⟨o,_,_,h1,h3,h2,by decide,by decide,by decide,by decide⟩
 | rng m=>exact ⟨_,_,_,x.2,rfl,rfl,by decide,by decide,by decide,by decide⟩
 | obj i =>
  obtain ⟨p,_,h1⟩:=x
  split at h1
  .obtain ⟨o,h1,h2,h3⟩:=h1; exact ⟨o,_,_,h1,h3,h2,by decide,by decide,by decide,by decide⟩
  .obtain ⟨o,h1,h2,h3⟩:=h1; exact ⟨o,_,_,h1,h3,h2,by decide,by decide,by decide,by decide⟩
 | _=>exact x.elim
theorem bt.wild {h:Heap} {I:Addr} {lst:Bool} {n k:Nat} {src:AV} (x:bt C μ h I lst n k src):∀ o,h.get? I = some o->¬ ff o:=by
 obtain ⟨o,vs,nm,h1,h2,h3,h4,h5,_,h6⟩:=x.rec
 intro o' e q
 rw [h1] at e; injection e with e; subst e
 rcases q.2.2 with q | q | q
 .rw [h3] at q; injection q with q; exact h4 q
 .rw [h3] at q; injection q with q; exact h5 q
 .rw [h3] at q; injection q with q; exact h6 q
theorem bt.notDm (H:HR C μ σ s) {I:Addr} (R:ItR C μ I):¬ Dm C μ I:=by
 rintro (⟨_,q⟩ | ⟨i,p,_,hp,q | q⟩)
 .exact R.tb q
 .exact (R.off i p hp).1 q.symm
 .exact (R.off i p hp).2 q.symm
set_option tactic.hygienic true in
theorem bt.ext (H:HR C μ σ s) {W:Addr->Prop} (hW:bX W s.heap) {μ':Mu} {h':Heap} (x:Ext C W μ s.heap μ' h') {I:Addr} (R:ItR C μ I) (hI:¬ W I) {lst:Bool} {n k:Nat} {src:AV} (y:bt C μ s.heap I lst n k src):bt C μ' h' I lst n k src:=by
 have kp:∀ o,s.heap.get? I = some o->h'.get? I = some o:=fun o e=>(x.keep I o e (bt.notDm H R) hI).1 R.fl
 induction src using AV.casesOn with
 | tup xs =>
  obtain ⟨a,vs,m,h1,h2,h3⟩:=y
  obtain ⟨o,e1,e2⟩:=h3
  exact ⟨a,vs,m,H.keepCalm x h1 (bM _ _) (fun q=>hW _ _ q h1 (bM _ _)),VRs.ext H hW x h2,o,kp o e1,e2⟩
 | rng m=>exact ⟨y.1,kp _ y.2⟩
 | obj i =>
  obtain ⟨p,hp,h1⟩:=y
  refine ⟨p,x.idx hp,?_⟩
  split at h1
  .rename_i hl; rw [if_pos hl]; obtain ⟨o,e1,e2⟩:=h1; exact ⟨o,kp o e1,e2⟩
  .rename_i hl; rw [if_neg hl]; obtain ⟨o,e1,e2⟩:=h1; exact ⟨o,kp o e1,e2⟩
 | _=>exact y.elim
theorem ItR.ext {W:Addr->Prop} {h h':Heap} {μ':Mu} (x:Ext C W μ h μ' h') {I:Addr} (R:ItR C μ I) (hI:I < h.objs.size):ItR C μ' I:=by
 refine ⟨fun i p e=>?_,R.new,R.tb,R.fl⟩
 by_cases hi:i < μ.length
 .obtain ⟨ν,rfl⟩:=x.pre
  rw [List.getElem?_append_left hi] at e
  exact R.off i p e
 .obtain ⟨n1,n2⟩:=x.new i p (Nat.le_of_not_lt hi) e
  exact ⟨Nat.ne_of_gt (Nat.lt_of_lt_of_le hI n1),Nat.ne_of_gt (Nat.lt_of_lt_of_le hI n2)⟩
end
section
variable {prog:Program} {w:World} {A:Around} {E:Value->Shared->Prop} {s:Shared}
theorem cW {d:Addr} {o:Obj} {es:Array DictEntry} {ep:Nat} {Q:Value->Shared->Prop} (hd:(d == sysModules) = false) (ho:s.heap.get? d = some o) (hT:o.cls = .type "dict") (hdat:o.data = .dict es ep)
  (hQ:Q (.ref s.heap.objs.size) { s with heap:=s.heap.push { cls:=.type "dict_keyiterator", data:=.fields #[.ref d,.int 0 0,.int es.size 0,.int ep 0] } }) :
  wpAny (model prog w) A (pyIter (.ref d)) Q E s:=by
 have hT:s.TypeIs (.ref d) "dict" := ⟨o,ho,hT⟩
 refine wpAny_pyIter_slot hT F.slot_dict_iter (wpAny_call_entry F.slot_dict_iter hT F.entry_dict_iter ?_ (F.args_dict_iter_1 _))
 unfold Builtin.«dict.__iter__»
 refine wpAny_bind ?_
 unfold Builtin.Dict.dictSlotNone
 refine wpAny_bind (wpAny_notOrdered_dict hT ?_)
 show wpAny _ _ (pure (Value.ref d)) _ _ s
 refine wpAny_pure ?_
 show wpAny _ _ (Builtin.Dict.showsAll d >>= _) _ _ s
 unfold Builtin.Dict.showsAll
 rw [hd,if_neg Bool.false_ne_true]
 refine wpAny_bind (wpAny_pure (wpAny_bind (wpAny_dictEntries ho hdat (wpAny_bind (wpAny_dictEpoch ho hdat (wpAny_bind (wpAny_newObj_type (wpAny_pure ⟨_,rfl, "dict_keyiterator", _,⟨_,Heap.get?_push_size _ rfl,rfl⟩,F.slot_dict_keyiterator_next.lookup,?_⟩))))))))
 simpa [rawInt] using hQ
theorem cJ {it d:Addr} {i ep:Nat} {o:Obj} {es:Array DictEntry} {en:DictEntry} {Q:Option Value->Shared->Prop} (hit:s.heap.IsKeyIter it d i es.size ep)
  (hod:s.heap.get? d = some o) (hdd:o.data = .dict es ep) (hx:es[i]? = some en)
  (hQ:∀ h',h'.IsKeyIter it d (i + 1) es.size ep->Heap.SameBut it s.heap h'->Q (some en.key) { s with heap:=h' }) :
  wpAny (model prog w) A (pyNext (.ref it)) Q E s:=by
 obtain ⟨oi,hoi,hc,hf⟩:=id hit
 have hown:Builtin.Dict_items.ownsTuple "dict_keyiterator" = false:=by decide
 unfold pyNext
 refine wpAny_bind (wpAny_attempt (wpAny_callSpecial?_slot (name:=Str.ofString "__next__") hit.typeIs F.slot_dict_keyiterator_next
  (wpAny_call_entry F.slot_dict_keyiterator_next hit.typeIs F.entry_dict_keyiterator_next ?_ (F.args_dict_keyiterator_next_1 _))))
 refine wpAny_bind (wpAny_pure (wpAny_bind (wpAny_bind ?_)))
 first | refine wpAny_bind (wpAny_typeNameOfWhole_keyiter hit.typeIs (wpAny_pure ?_)) | refine wpAny_bind (wpAny_typeNameOf_keyiter hit.typeIs (wpAny_pure ?_))
 refine wpAny_bind (wpAny_fieldsOf hoi hf ?_)
 simp -iota only [hown,Bool.false_eq_true,if_false]
 show wpAny _ _ (if (Value.ref d == Value.none) = true then _ else _) _ _ s
 rw [if_neg (show ¬ ((Value.ref d == Value.none) = true) from Bool.false_ne_true)]
 refine wpAny_bind (wpAny_pure (wpAny_bind (wpAny_dictEntries hod hdd ?_)))
 rw [if_neg (by simp -iota)]
 refine wpAny_bind (wpAny_pure (wpAny_bind (wpAny_dictEpoch hod hdd ?_)))
 rw [if_neg (by simp -iota)]
 refine wpAny_pure ?_
 simp only [show ¬ ((i:Int) < 0) from by omega,if_false,Int.toNat_natCast,hx]
 refine wpAny_bind ?_
 first | refine wpAny_bind (wpAny_typeNameOfWhole_keyiter hit.typeIs (wpAny_pure ?_)) | refine wpAny_bind (wpAny_typeNameOf_keyiter hit.typeIs (wpAny_pure ?_))
 refine wpAny_bind (wpAny_isOneOf_keyiter hit.typeIs ?_)
 show wpAny _ _ (setField (.ref it) 1 (rawInt ((i:Int) + 1)) >>= _) _ _ s
 refine wpAny_bind (wpAny_setField hoi hf (by simp -iota) ?_)
 have hit':(s.heap.update it (Obj.mapFields (·.setIfInBounds 1 (rawInt ((i:Int) + 1))))).IsKeyIter it d (i + 1) es.size ep :=
  ⟨_,Heap.get?_update_self _ hoi (Obj.isFreed_of_fields (Obj.data_mapFields hf _)),(Obj.cls_mapFields ..).trans hc,by rw [Obj.data_mapFields hf]; simp -iota [rawInt]⟩
 refine wpAny_bind (wpAny_holding (wpAny_bind (wpAny_isOneOf_keyiter (s:={ s with heap:=s.heap.update it (Obj.mapFields (·.setIfInBounds 1 (rawInt ((i:Int) + 1)))) }) hit'.typeIs ?_)))
 show wpAny _ _ (pure en.key) _ _ _
 exact wpAny_pure (wpAny_pure ⟨_,rfl,wpAny_pure (hQ _ hit' (Heap.SameBut.update ..))⟩)
theorem cU {it d:Addr} {i ep:Nat} {o:Obj} {es:Array DictEntry} {Q:Option Value->Shared->Prop} (hh:A.handled = none) (hit:s.heap.IsKeyIter it d i es.size ep)
  (hod:s.heap.get? d = some o) (hdd:o.data = .dict es ep) (hx:es.size ≤ i)
  (hQ:∀ h',Heap.ExtBut it s.heap h'->Q none { s with heap:=h' }):wpAny (model prog w) A (pyNext (.ref it)) Q E s:=by
 obtain ⟨oi,hoi,hc,hf⟩:=id hit
 have hown:Builtin.Dict_items.ownsTuple "dict_keyiterator" = false:=by decide
 unfold pyNext
 refine wpAny_bind (wpAny_attempt (wpAny_callSpecial?_slot (name:=Str.ofString "__next__") hit.typeIs F.slot_dict_keyiterator_next
  (wpAny_call_entry F.slot_dict_keyiterator_next hit.typeIs F.entry_dict_keyiterator_next ?_ (F.args_dict_keyiterator_next_1 _))))
 refine wpAny_bind (wpAny_pure (wpAny_bind (wpAny_bind ?_)))
 first | refine wpAny_bind (wpAny_typeNameOfWhole_keyiter hit.typeIs (wpAny_pure ?_)) | refine wpAny_bind (wpAny_typeNameOf_keyiter hit.typeIs (wpAny_pure ?_))
 refine wpAny_bind (wpAny_fieldsOf hoi hf ?_)
 simp -iota only [hown,Bool.false_eq_true,if_false]
 show wpAny _ _ (if (Value.ref d == Value.none) = true then _ else _) _ _ s
 rw [if_neg (show ¬ ((Value.ref d == Value.none) = true) from Bool.false_ne_true)]
 refine wpAny_bind (wpAny_pure (wpAny_bind (wpAny_dictEntries hod hdd ?_)))
 rw [if_neg (by simp -iota)]
 refine wpAny_bind (wpAny_pure (wpAny_bind (wpAny_dictEpoch hod hdd ?_)))
 rw [if_neg (by simp -iota)]
 refine wpAny_pure ?_
 simp only [show ¬ ((i:Int) < 0) from by omega,if_false,Int.toNat_natCast,Array.getElem?_eq_none hx]
 refine wpAny_bind ?_
 first | refine wpAny_bind (wpAny_typeNameOfWhole_keyiter hit.typeIs (wpAny_pure ?_)) | refine wpAny_bind (wpAny_typeNameOf_keyiter hit.typeIs (wpAny_pure ?_))
 show wpAny _ _ (setField (.ref it) 0 .none >>= _) _ _ s
 refine wpAny_bind (wpAny_setField hoi hf (by simp -iota) ?_)
 show wpAny _ _ (newExc (.type "StopIteration") [] >>= _) _ _ _
 refine wpAny_bind ?_
 simp -iota only [newExc,newTuple]
 refine wpAny_bind (wpAny_newObj_type ?_ (by size_fits))
 refine wpAny_bind (m:=firstArgMember _ _) (wpAny_of_eq (a:=Value.none) (by first | rfl | (simp -iota only [firstArgMember]; rfl)) ?_)
 refine wpAny_newObj_type ?_ (by size_fits)
 simp -iota only [raiseNew]
 refine wpAny_bind (wpAny_handled ?_)
 rw [show A.in1.handled = none from hh]
 refine wpAny_bind (wpAny_pure (wpAny_throw ?_))
 refine wpAny_bind (wpAny_isInstance (T := "StopIteration") (b:=true) ⟨_,Heap.get?_push_size _ rfl,rfl⟩ isSubtype_stop ?_)
 exact wpAny_pure (hQ _ (((Heap.SameBut.update ..).extBut.push _).push _))
end
theorem iQ (n:Nat):Builtin.Range.rangeSize 0 (Int.ofNat n) 1 = n:=by
 show Builtin.Range.rangeSize 0 ((n:Nat):Int) 1 = n
 rw [rangeSize_one]; split <;> omega
section
variable {C:Cf} {A:Around} {W:Addr->Prop} {X:Value->Shared->Prop} {μ:Mu} {σ:ac} {s:Shared} {c:Ctx} {env:Env}
set_option tactic.hygienic true in
theorem itemsObj {i:Nat} {xs:List AV} {σ':ac} (h:items (.obj i) σ = .ok xs σ'):σ' = σ/\(σ[i]? = some (.list xs)\/∃ ws,σ[i]? = some (.wset ws)/\xs = ws.map wordV):=by
 unfold items at h
 dsimp only at h
 split at h
 .rename_i ys e; injection h with h1 h2; subst h1 h2; exact ⟨rfl,.inl e⟩
 .rename_i ws e; injection h with h1 h2; subst h1 h2; exact ⟨rfl,.inr ⟨ws,e,rfl⟩⟩
 .exact nomatch h
set_option tactic.hygienic true in
theorem isLObj {i:Nat} {b:Bool} {σ':ac} (h:isL (.obj i) σ = .ok b σ'):σ' = σ/\((∃ xs,σ[i]? = some (.list xs)) ↔ b = true):=by
 unfold isL at h
 dsimp only at h
 split at h
 .rename_i ys e; injection h with h1 h2; subst h1 h2; exact ⟨rfl,⟨fun z0=>rfl,fun z0=>⟨ys,e⟩⟩⟩
 .rename_i hne; injection h with h1 h2; subst h1 h2
  exact ⟨rfl,⟨fun ⟨xs,e⟩=>absurd e (hne xs),fun q=>by simp -iota at q⟩⟩
theorem iW (src:AV):∃ b,isL src σ = .ok b σ:=by
 induction src using AV.casesOn with
 | obj i=>unfold isL; dsimp only; split <;> exact ⟨_,rfl⟩
 | _=>exact ⟨_,rfl⟩
theorem eU (src:AV):(∃ xs,items src σ = .ok xs σ)\/items src σ = .stuck:=by
 induction src using AV.casesOn with
 | obj i=>unfold items; dsimp only; split <;> first | exact .inl ⟨_,rfl⟩ | exact .inr rfl
 | rng n=>exact .inl ⟨_,rfl⟩
 | tup xs=>exact .inl ⟨_,rfl⟩
 | _=>exact .inr rfl
theorem bG (H:HR C μ σ s):ItR C μ s.heap.objs.size:=by
 refine ⟨fun i p e=>?_,Heap.StaysIn.fresh H.stay,fun q=>?_,fun q=>?_⟩
 .obtain ⟨h1,h2⟩:=H.lt e
  exact ⟨Nat.ne_of_lt h1,Nat.ne_of_lt h2⟩
 .obtain ⟨ps,h1,_⟩:=H.tabs _ q
  exact Nat.lt_irrefl _ (Heap.lt_size h1)
 .obtain ⟨env,he,hfr⟩:=List.mem_filterMap.mp q
  obtain ⟨_,L,m,h1,h2,_⟩:=H.frames env he
  rw [h1] at hfr; injection hfr with hfr
  exact Nat.lt_irrefl _ (hfr ▸ h2.lt)
theorem eS (G:Glo C.ghost C.mg C.mb) (H:HR C μ σ s) {v:Value} {src:AV} (hv:VR C.ghost μ s.heap v src) {xs:List AV} {b:Bool} (h1:items src σ = .ok xs σ) (h2:isL src σ = .ok b σ) (hf:fits xs.length = true) :
  ∃ oI,bt C μ (s.heap.push oI) s.heap.objs.size b xs.length 0 src/\∀ (Q:Value->Shared->Prop) (E:Value->Shared->Prop),Q (.ref s.heap.objs.size) { s with heap:=s.heap.push oI }->wpAny (model C.prog C.w) A (pyIter v) Q E s:=by
 induction src using AV.casesOn with
 | obj i =>
  obtain ⟨p,rfl,hp⟩:=hv.inv_obj
  obtain ⟨o,ho,hor⟩:=H.objAt hp
  obtain ⟨_,h2⟩:=isLObj h2
  rcases (itemsObj h1).2 with e | ⟨ws,e,rfl⟩
  .rw [ho] at e; injection e with e; subst e
   obtain ⟨_,vs,n,g1,g2⟩:=hor
   have hb:b = true:=h2.mp ⟨_,ho⟩
   rw [hb]
   exact ⟨_,⟨p,hp,by rw [if_pos rfl]; exact ⟨_,Heap.get?_push_size _ rfl,rfl,rfl⟩⟩,fun Q E q=>wpAny_pyIter_list ⟨_,g1,rfl,n,rfl⟩ q⟩
  .rw [ho] at e; injection e with e; subst e
   obtain ⟨_,⟨o',es',e1,e2⟩,ys,⟨o,es,ep,g1,g2,g3,g4,g5,g6⟩,g7,g8⟩:=hor
   have hb:b = false:=by
    induction b using Bool.casesOn with
    | false=>rfl
    | true=>obtain ⟨zs,ez⟩:=h2.mpr rfl; rw [ho] at ez; injection ez with ez; exact nomatch ez
   rw [hb]
   rw [g1] at e1; injection e1 with e1; subst e1
   rw [g3] at e2; injection e2 with e2 e3; subst e2 e3
   have hsz:es.size = ws.length:=by rw [size_of_entries g4,<- g7,List.length_map]
   refine ⟨_,⟨p,hp,?_⟩,fun Q E q=>cW (H.mods G hp) g1 g2.1 g3 q⟩
   rw [if_neg Bool.false_ne_true]
   exact ⟨_,Heap.get?_push_size _ rfl,rfl,by rw [hsz,List.length_map]; rfl⟩
 | tup ys =>
  unfold items at h1
  injection h1 with h1; subst h1
  obtain ⟨a,vs,n,rfl,g1,g2⟩:=hv.inv_tup
  have:=H.push { cls:=.type "tuple_iterator", data:=.fields #[.ref a,.int 0 0] } s.toks
  exact ⟨_,⟨a,vs,n,Heap.get?_push_of_some _ g1,VRs.ext H wild0 this.1 g2,⟨_,Heap.get?_push_size _ rfl,rfl,rfl⟩⟩,fun Q E q=>wpAny_pyIter_tuple ⟨_,g1,rfl,n,rfl⟩ q⟩
 | rng m =>
  unfold items at h1
  injection h1 with h1; subst h1
  obtain ⟨r,t,u,w,rfl,g1⟩:=hv.inv_rng
  rw [List.length_map,List.length_range] at hf ⊢
  have hm:m ≤ 1000000:=by simpa [fits] using hf
  refine ⟨_,⟨rfl,?_⟩,fun Q E q=>wpAny_pyIter_range g1 (small_one (by decide) (by decide) (by have e:Int.ofNat m = (m:Int):=rfl; omega) (by have e:Int.ofNat m = (m:Int):=rfl; omega)) q⟩
  rw [iQ]
  have:=Heap.get?_push_size s.heap (o:={ cls:=.type "range_iterator", data:=.fields #[rawInt 0,rawInt (m:Int),rawInt 1] }) rfl
  unfold IsRangeIter
  simpa using this
 | _=>exact nomatch h1
theorem nO {I:Addr} {b:Bool} {n k:Nat} {src:AV} (x:bt C μ s.heap I b n k src) {Q:Value->Shared->Prop} {E:Value->Shared->Prop} (h:Q (.ref I) s):wpAny (model C.prog C.w) A (pyIter (.ref I)) Q E s:=by
 induction src using AV.casesOn with
 | tup xs=>obtain ⟨_,_,_,_,_,h1⟩:=x; exact wpAny_pyIter_tupleiter h1 h
 | rng m=>exact wpAny_pyIter_rangeiter x.2 h
 | obj i =>
  obtain ⟨p,_,h1⟩:=x
  split at h1
  .exact wpAny_pyIter_listiter h1 h
  .exact wpAny_pyIter_keyiter h1 h
 | _=>exact x.elim
theorem ip (H:HR C μ σ s) {I:Addr} (R:ItR C μ I) {src:AV} {b:Bool} {n k:Nat} (x:bt C μ s.heap I b n k src) {xs:List AV} (h1:items src σ = .ok xs σ) (h2:isL src σ = .ok b σ) (hn:xs.length = n) {a:AV} (ha:xs[k]? = some a)
  {Q:Option Value->Shared->Prop} {E:Value->Shared->Prop}
  (h:∀ h' tk v,Ext C (fun y=>y = I) μ s.heap μ h'->HR C μ σ { s with heap:=h',toks:=tk }->bt C μ h' I b n (k + 1) src->VR C.ghost μ h' v a->Q (some v) { s with heap:=h',toks:=tk }) :
  wpAny (model C.prog C.w) A (pyNext (.ref I)) Q E s:=by
 have wild:=x.wild
 have W1:bX (fun y=>y = I) s.heap:=fun y o q e=>by subst q; exact wild o e
 have go:∀ h' tk,Heap.SameBut I s.heap h'->Ext C (fun y=>y = I) μ s.heap μ h'/\HR C μ σ { s with heap:=h',toks:=tk }:=fun h' tk hs =>
  H.other tk hs rfl wild R.new R.off (fun q=>absurd q R.fl) R.tb (fun q=>R.fl (H.h0f _ q))
 have hk:k < n:=by rw [<- hn]; exact (List.getElem?_eq_some_iff.mp ha).1
 induction src using AV.casesOn with
 | tup ys =>
  unfold items at h1; injection h1 with h1; subst h1
  obtain ⟨t,vs,m,g1,g2,g3⟩:=x
  obtain ⟨v,g4,g5⟩:=g2.get ha
  refine wpAny_pyNext_tuple_item g3 (items:=List.toArray vs) ⟨_,g1,rfl,m,rfl⟩ (x:=v) (by simpa using g4) fun h' g6 hs=>?_
  obtain ⟨e1,e2⟩:=go h' s.toks hs
  exact h h' s.toks v e1 e2 ⟨t,vs,m,H.keepCalm e1 g1 (bM _ _) (fun q=>W1 _ _ q g1 (bM _ _)),VRs.ext H W1 e1 g2,g6⟩ (VR.ext H W1 e1 g5)
 | rng m =>
  unfold items at h1; injection h1 with h1; subst h1
  obtain ⟨rfl,g1⟩:=x
  refine wpAny_pyNext_range_item g1 (by omega) fun h' g2 hs=>?_
  obtain ⟨e1,e2⟩:=go h' (s.toks + 1) hs
  have hav:a = AV.int (k:Int):=by
   rw [List.getElem?_map,List.getElem?_range hk] at ha
   simpa using ha.symm
  subst hav
  refine h h' _ _ e1 e2 ⟨rfl,?_⟩ (.int _ _)
  have q1:((k + 1:Nat):Int) = (k:Int) + 1:=by push_cast; rfl
  rw [q1,show ((m:Int) - ((k:Int) + 1)) = (m:Int) - k - 1 from by omega]
  exact g2
 | obj i =>
  obtain ⟨p,hp,g1⟩:=x
  obtain ⟨o,ho,hor⟩:=H.objAt hp
  obtain ⟨_,h2⟩:=isLObj h2
  rcases (itemsObj h1).2 with e | ⟨ws,e,rfl⟩
  .rw [ho] at e; injection e with e; subst e
   have hb:b = true:=h2.mp ⟨_,ho⟩
   subst hb
   rw [if_pos rfl] at g1
   obtain ⟨_,vs,m,g2,g3⟩:=hor
   obtain ⟨v,g4,g5⟩:=g3.get ha
   refine wpAny_pyNext_list_item g1 (items:=List.toArray vs) ⟨_,g2,rfl,m,rfl⟩ (x:=v) (by simpa using g4) fun h' g6 hs=>?_
   obtain ⟨e1,e2⟩:=go h' s.toks hs
   exact h h' s.toks v e1 e2 ⟨p,hp,by rw [if_pos rfl]; exact g6⟩ (VR.ext H W1 e1 g5)
  .rw [ho] at e; injection e with e; subst e
   have hb:b = false:=by
    induction b using Bool.casesOn with
    | false=>rfl
    | true=>obtain ⟨zs,ez⟩:=h2.mpr rfl; rw [ho] at ez; injection ez with ez; exact nomatch ez
   subst hb
   rw [if_neg Bool.false_ne_true] at g1
   obtain ⟨_,⟨o',es',q1,q2⟩,ys,⟨o,es,ep,g2,g3,g4,g5,g6,g7⟩,g8,g9⟩:=hor
   rw [g2] at q1; injection q1 with q1; subst q1
   rw [g4] at q2; injection q2 with q2 q3; subst q2 q3
   have hsz:es.size = n:=by rw [size_of_entries g5,<- hn,<- g8,List.length_map,List.length_map]
   have hwn:ws.length = n:=by rw [<- hn,List.length_map]
   rw [hwn] at g4
   have g1':s.heap.IsKeyIter I p.1 k es.size n:=by rw [hsz]; exact g1
   have hkx:k < ys.length:=by rw [<- size_of_entries g5,hsz]; exact hk
   have hen:es[k]? = some (entryOfKey (wk C) ys[k]):=by rw [entry_at g5,List.getElem?_eq_getElem hkx]; rfl
   refine cJ g1' g2 g4 hen fun h' g10 hs=>?_
   obtain ⟨e1,e2⟩:=go h' s.toks hs
   refine h h' s.toks _ e1 e2 ⟨p,hp,?_⟩ ?_
   .rw [if_neg Bool.false_ne_true,<- hsz]; rw [hsz] at g10 ⊢; exact g10
   .have hv:=(g9 ys[k] (List.getElem_mem hkx)).2
    have hav:a = wordV ys[k].1:=by
     rw [<- g8,List.map_map,List.getElem?_map,List.getElem?_eq_getElem hkx] at ha
     simpa using ha.symm
    rw [hav]
    exact VR.ext H W1 e1 hv
 | _=>exact nomatch h1
theorem kJ (hh:A.handled = none) (H:HR C μ σ s) {I:Addr} (R:ItR C μ I) {src:AV} {b:Bool} {n:Nat} (x:bt C μ s.heap I b n n src) {xs:List AV} (h1:items src σ = .ok xs σ) (h2:isL src σ = .ok b σ) (hn:xs.length = n)
  {Q:Option Value->Shared->Prop} {E:Value->Shared->Prop}
  (h:∀ h' tk,Ext C (fun y=>y = I) μ s.heap μ h'->HR C μ σ { s with heap:=h',toks:=tk }->Q none { s with heap:=h',toks:=tk }) :
  wpAny (model C.prog C.w) A (pyNext (.ref I)) Q E s:=by
 have wild:=x.wild
 refine aZ ?_
 have go:∀ h' tk,Heap.ExtBut I s.heap h'->s.heap.objs.size ≤ h'.objs.size->Q none { s with heap:=h',toks:=tk }:=fun h' tk hs hz=>by
  obtain ⟨e1,e2⟩:=H.otherG (W:=fun y=>y = I) tk hs hz rfl wild R.new R.off R.fl R.tb
  exact h h' tk e1 e2
 induction src using AV.casesOn with
 | tup ys =>
  unfold items at h1; injection h1 with h1; subst h1
  obtain ⟨t,vs,m,g1,g2,g3⟩:=x
  exact wpAny_pyNext_tuple_end hh g3 (items:=List.toArray vs) ⟨_,g1,rfl,m,rfl⟩ (by simp -iota [g2.len,hn]) fun h' hs=>go h' s.toks hs
 | rng m =>
  unfold items at h1; injection h1 with h1; subst h1
  obtain ⟨rfl,g1⟩:=x
  exact wpAny_pyNext_range_end hh g1 (by omega) fun h' hs=>go h' s.toks hs
 | obj i =>
  obtain ⟨p,hp,g1⟩:=x
  obtain ⟨o,ho,hor⟩:=H.objAt hp
  obtain ⟨_,h2⟩:=isLObj h2
  rcases (itemsObj h1).2 with e | ⟨ws,e,rfl⟩
  .rw [ho] at e; injection e with e; subst e
   have hb:b = true:=h2.mp ⟨_,ho⟩
   subst hb
   rw [if_pos rfl] at g1
   obtain ⟨_,vs,m,g2,g3⟩:=hor
   exact wpAny_pyNext_list_end hh g1 (items:=List.toArray vs) ⟨_,g2,rfl,m,rfl⟩ (by simp -iota [g3.len,hn]) fun h' hs=>go h' s.toks hs
  .rw [ho] at e; injection e with e; subst e
   have hb:b = false:=by
    induction b using Bool.casesOn with
    | false=>rfl
    | true=>obtain ⟨zs,ez⟩:=h2.mpr rfl; rw [ho] at ez; injection ez with ez; exact nomatch ez
   subst hb
   rw [if_neg Bool.false_ne_true] at g1
   obtain ⟨_,⟨o',es',q1,q2⟩,ys,⟨o,es,ep,g2,g3,g4,g5,g6,g7⟩,g8,g9⟩:=hor
   rw [g2] at q1; injection q1 with q1; subst q1
   rw [g4] at q2; injection q2 with q2 q3; subst q2 q3
   have hsz:es.size = n:=by rw [size_of_entries g5,<- hn,<- g8,List.length_map,List.length_map]
   have hwn:ws.length = n:=by rw [<- hn,List.length_map]
   rw [hwn] at g4
   have g1':s.heap.IsKeyIter I p.1 n es.size n:=by rw [hsz]; exact g1
   exact cU hh g1' g2 g4 (by omega) fun h' hs=>go h' s.toks hs
 | _=>exact nomatch h1
end
section
variable {M:Model} {A:Around} {E:Value->Shared->Prop} {s:Shared}
theorem lT {base:Heap} {l:List Env} {e L:Addr} {cls a0:Value} {Q:Unit->Shared->Prop} (hh:Heap.HeldW base l e cls a0 L s.heap)
  (hQ:∀ h',Heap.HeldW base l e cls a0 L h'->s.heap.UpToSlots h'->Q () { s with heap:=h' }):wpAny M A (setFlight (.ref e) (some L)) Q E s:=by
 obtain ⟨hkb,f2,hl,oe,vs,T,oT,ts,he,hcls,hd,h1,hnT,hTe,hT,hdT,h3⟩:=hh
 have hsz3:3 < ts.size:=(Array.getElem?_eq_some_iff.mp h3).1
 have other:∀ b,b ≠ T->(s.heap.update T (Obj.mapFields (·.setIfInBounds 3 ((some L:Option Addr).elim Value.none fun f=>rawInt f)))).get? b = s.heap.get? b :=
  fun b hb=>Heap.get?_update_other _ _ (Ne.symm hb)
 have noRecord:∀ b o,s.heap.get? b = some o->(∀ vs,o.data ≠ .fields vs)->b ≠ T:=fun b o hb hnf q=>by
  rw [q,hT] at hb; injection hb with hb; subst hb; exact hnf ts hdT
 unfold setFlight
 refine wpAny_bind (wpAny_field he hd h1 ?_)
 rw [if_pos (show (Value.ref T != Value.none) = true from by simp)]
 refine wpAny_setField hT hdT hsz3 (hQ _ ⟨fun b o hbo=>(other b fun q=>by rw [q,hnT] at hbo; cases hbo).trans (hkb b o hbo),f2,
  hl.of_keeps fun b o hb hnf=>⟨o,(other b (noRecord b o hb hnf)).trans hb,rfl⟩,?_⟩ fun b o hb hnf=>⟨o.slots,(other b (noRecord b o hb hnf)).trans hb⟩)
 exact ⟨oe,vs,T,_,_,(other e (Ne.symm hTe)).trans he,hcls,hd,h1,hnT,hTe,Heap.get?_update_self _ hT (Obj.isFreed_of_fields (Obj.data_mapFields hdT _)),Obj.data_mapFields hdT _,by simp [hsz3,rawInt]⟩
theorem ir {base:Heap} {l:List Env} {e L:Addr} {cls a0:Value} {env:Env} {E':Value->Shared->Prop} (hf:env.frame = some L) (hh:Heap.HeldW base l e cls a0 L s.heap)
  (hQ:∀ h',Heap.HeldW base l e cls a0 L h'->s.heap.UpToSlots h'->E' (.ref e) { s with heap:=h' }):cameBackBy M A env E' (.ref e) s:=by
 unfold cameBackBy
 obtain ⟨oe,vs,T,oT,ts,he,hcls,hd,h1,r⟩:=hh.2.2.2
 refine wpAny_bind (wpAny_field he hd h1 ?_)
 rw [if_neg (show ¬ (Value.ref T == Value.none) = true from Bool.false_ne_true),hf]
 exact lT hh hQ
end
section
variable {C:Cf} {A:Around} {W:Addr->Prop} {X:Value->Shared->Prop} {μ:Mu} {σ:ac} {s:Shared} {c:Ctx} {env:Env}
theorem XP.own {M:Model} (O:Ok C) {outer:List Env} {L:Addr} (hfr:A.frames = some C.fs) (hfs:C.fs = env :: outer) (hf:env.frame = some L) {e:Value} {s:Shared} (x:XP C e s) {E:Value->Shared->Prop} (hE:∀ e s',XP C e s'->E e s') :
  notedBy M A env (cameBackBy M A env E) e s:=by
 obtain ⟨ea,a0,rfl,h1,h2,h3,h4⟩:=x
 have keep:∀ {h':Heap},s.heap.UpToSlots h'->∀ L ∈ C.h0fl,∀ o,C.h0.get? L = some o->∃ sl,h'.get? L = some { o with slots:=sl }:=fun {h'} u L hL o e=>by
  obtain ⟨sl,q⟩:=h4 L hL o e
  obtain ⟨sl',q'⟩:=u _ _ q (O.h0d L hL o e)
  exact ⟨sl',q'⟩
 unfold notedBy
 rcases h1 with h1 | ⟨e0,outer',L',g1,g2,g3⟩
 .rw [hfs] at h1
  refine wpAny_looks_onW (by rw [hfr,hfs]) hf h1 fun h' hh hu=>?_
  refine ir hf hh fun h'' hh' hu'=>hE _ _ ⟨ea,a0,rfl,.inr ⟨env,outer,L,hfs,hf,hfs ▸ hh'⟩,h2,h3,keep (hu.trans hu')⟩
 .rw [hfs] at g1; injection g1 with g1 g1'; subst g1 g1'
  rw [hf] at g2; injection g2 with g2; subst g2
  refine wpAny_noteFrame_againW hf g3.2.2.2 ?_
  exact ir hf g3 fun h'' hh' hu'=>hE _ _ ⟨ea,a0,rfl,.inr ⟨env,outer,L,hfs,hf,hh'⟩,h2,h3,keep hu'⟩
theorem XP.leaves {M:Model} (O:Ok C) {fs':List Env} {L:Addr} (hC:C.fs = env :: fs') (hfr:A.frames = some C.fs) (hf:env.frame = some L) {e:Value} {s:Shared} (x:XP C e s) {Q:Unit->Shared->Prop} {E:Value->Shared->Prop}
  (hQ:∀ s',XP { C with fs:=fs' } e s'->Q () s'):wpAny M A (leaving env e) Q E s:=by
 obtain ⟨ea,a0,rfl,h1,h2,h3,h4⟩:=x
 have keep:∀ {h':Heap},s.heap.UpToSlots h'->∀ L ∈ C.h0fl,∀ o,C.h0.get? L = some o->∃ sl,h'.get? L = some { o with slots:=sl }:=fun {h'} u L hL o e=>by
  obtain ⟨sl,q⟩:=h4 L hL o e
  obtain ⟨sl',q'⟩:=u _ _ q (O.h0d L hL o e)
  exact ⟨sl',q'⟩
 have fin:∀ {s':Shared},s'.gens = s.gens->s'.os = s.os->(∃ h,Heap.FlyingW C.base (env :: fs') ea (.ref (C.cls "GrammarError")) a0 h/\s.heap.UpToSlots h/\s'.heap = h)->wpAny M A (leaving env (.ref ea)) Q E s':=by
  rintro s' e1 e2 ⟨h,hfl,hu,rfl⟩
  refine wpAny_leaves_onW (by rw [hfr,hC]) hf hfl fun h' hfl' hu'=>hQ _ ⟨ea,a0,rfl,.inl hfl',e1.trans h2,e2.trans h3,keep (hu.trans hu')⟩
 rcases h1 with h1 | ⟨e0,outer',L',g1,g2,g3⟩
 .exact fin rfl rfl ⟨_,hC ▸ h1,Heap.UpToSlots.refl _,rfl⟩
 .rw [hC] at g1; injection g1 with g1 g1'; subst g1 g1'
  rw [hf] at g2; injection g2 with g2; subst g2
  rw [hC] at g3
  unfold leaving
  refine wpAny_bind (wpAny_noteFrame_againW hf g3.2.2.2 ?_)
  refine wpAny_landsW g3 fun h' hfl hu=>?_
  obtain ⟨k1,k2,⟨_,_,k3⟩,k4⟩:=hfl
  exact hQ _ ⟨ea,a0,rfl,.inl ⟨k1,k2,k3,k4⟩,h2,h3,keep hu⟩
theorem bA (H:HR C μ σ s) (V:ax C c env μ s.heap) (x:Str) {v:Value} {a:AV} (hv:VR C.ghost μ s.heap v a) :
  af C A (eB c env) X μ σ s (fun μ' s' z0 c'=>ax C c' env μ' s'.heap/\c'.sc = c.sc/\c'.fz = c.fz) (bindName env x v) (setName x a c) :=
 bq (fun z0 z0 q=>wpAny_bindName q) (jK H V x hv)
theorem bQ (V:ax C c env μ s.heap):bX (aO env) s.heap:=by
 intro b o q e q'
 rcases q with rfl | ⟨y,hb⟩
 .obtain ⟨m,o',es,ep,e1,e2,_⟩:=V.ns
  rw [e1] at e; injection e with e; subst e
  exact q'.1.1 _ _ e2
 .obtain ⟨cv,o2,e3,e4⟩:=V.allc y b hb
  rw [e3] at e; injection e with e; subst e
  exact q'.2.1 _ e4
theorem letGoTuple {target:Expr} {I:Addr} {v:Value} {lst:Bool} {n k:Nat} {src:AV} (x:bt C μ s.heap I lst n k src) {a:AV} (hv:VR C.ghost μ s.heap v a) {Q:Unit->Shared->Prop} {E:Value->Shared->Prop} (h:Q () s) :
  wpAny (model C.prog C.w) A (letOwnedTupleGo target (.ref I) v) Q E s:=by
 obtain ⟨o,vs,nm,h1,h2,h3,_,_,_⟩:=x.rec
 have hno:(["enumerate", "zip", "dict_itemiterator", "dict_reverseitemiterator", "odict_iterator", "itertools.zip_longest", "itertools.pairwise"].contains nm) = false:=by
  induction src using AV.casesOn with
  | tup xs=>obtain ⟨_,_,_,_,_,o',g1,g2,_⟩:=x; rw [g1] at h1; injection h1 with h1; subst h1; rw [g2] at h3; injection h3 with h3; subst h3; decide
  | rng m=>have g1:=x.2; unfold IsRangeIter at g1; rw [g1] at h1; injection h1 with h1; subst h1; injection h3 with h3; subst h3; decide
  | obj i =>
   obtain ⟨p,_,g⟩:=x
   split at g
   .obtain ⟨o',g1,g2,_⟩:=g; rw [g1] at h1; injection h1 with h1; subst h1; rw [g2] at h3; injection h3 with h3; subst h3; decide
   .obtain ⟨o',g1,g2,_⟩:=g; rw [g1] at h1; injection h1 with h1; subst h1; rw [g2] at h3; injection h3 with h3; subst h3; decide
  | _=>exact x.elim
 unfold letOwnedTupleGo
 split
 .cases v with
  | ref a' =>
   refine wpAny_bind (wpAny_load h1 ?_)
   rw [h3,h2]
   dsimp only
   rw [hno]
   exact wpAny_pure h
  | _=>exact wpAny_pure h
 .cases v with
  | ref a' =>
   refine wpAny_bind (wpAny_load h1 ?_)
   rw [h3,h2]
   dsimp only
   rw [hno]
   exact wpAny_pure h
  | _=>exact wpAny_pure h
 .exact wpAny_pure h
theorem aK (x:Str) (a:AV) (c:Ctx) (σ:ac):setName x a c σ ≠ .exc:=by
 unfold setName
 induction c.kind x using Option.casesOn with
 | none=>intro q; exact nomatch q
 | some k=>cases k <;> (intro q; exact nomatch q)
theorem hU {α β:Type} (xs:List α):(∃ a b,xs = [a,b])\/∀ f:α->α->MM β,two xs f = MM.stuck:=by
 induction xs using List.casesOn with
 | nil=>exact .inr fun z0=>rfl
 | cons a r =>
  induction r using List.casesOn with
  | nil=>exact .inr fun z0=>rfl
  | cons b r =>
   induction r using List.casesOn with
   | nil=>exact .inl ⟨a,b,rfl⟩
   | cons _ _=>exact .inr fun z0=>rfl
theorem gc {α:Type} (e:Expr):(∃ x p,e = .Name x p)\/∀ f:Str->MM α,onName e f = MM.stuck:=by
 induction e using Expr.casesOn with
 | Name x p=>exact .inl ⟨x,p,rfl⟩
 | _=>exact .inr fun z0=>rfl
theorem eA (t:Expr) (a:AV) (c:Ctx):(∃ x p,t = .Name x p)\/(∃ x px y py k pos a1 b1,t = .Tuple [.Name x px,.Name y py] k pos/\a = .tup [a1,b1])\/bindTo t a c = MM.stuck:=by
 induction t using Expr.casesOn with
 | Name x p=>exact .inl ⟨x,p,rfl⟩
 | Tuple es k pos =>
  rcases hU es with ⟨e1,e2,rfl⟩ | h
  .rcases gc e1 with ⟨x,px,rfl⟩ | h
   .rcases gc e2 with ⟨y,py,rfl⟩ | h
    .induction a using AV.casesOn with
     | tup xs =>
      rcases hU xs with ⟨a1,b1,rfl⟩ | h
      .exact .inr (.inl ⟨x,px,y,py,k,pos,a1,b1,rfl,rfl⟩)
      .exact .inr (.inr (h _))
     | _=>exact .inr (.inr rfl)
    .exact .inr (.inr (h _))
   .exact .inr (.inr (h _))
  .exact .inr (.inr (h _))
 | _=>exact .inr (.inr rfl)
set_option tactic.hygienic true in
theorem dK (hh:A.handled = none) (H:HR C μ σ s) (V:ax C c env μ s.heap) {t:Expr} {v:Value} {a:AV} (hv:VR C.ghost μ s.heap v a) :
  af C A (eB c env) X μ σ s (fun μ' s' z0 c'=>ax C c' env μ' s'.heap/\c'.sc = c.sc/\c'.fz = c.fz) (assign t env v) (bindTo t a c):=by
 have name:∀ (x:Str) (pos:Pos) (a:AV) (v:Value) {μ:Mu} {σ:ac} {s:Shared} {c:Ctx},HR C μ σ s->ax C c env μ s.heap->VR C.ghost μ s.heap v a ->
   af C A (eB c env) X μ σ s (fun μ' s' z0 c'=>ax C c' env μ' s'.heap/\c'.sc = c.sc/\c'.fz = c.fz) (assign (.Name x pos) env v) (setName x a c):=fun x pos a v {μ σ s c} H V hv=>by
  rw [PySem.assign_Name]; exact av (bA H V x hv)
 rcases eA t a c with ⟨x,p,rfl⟩ | ⟨x,px,y,py,k,pos,a,b,rfl,rfl⟩ | hst
 .exact name _ _ _ _ H V hv
 .skip
  obtain ⟨t,vs,n,rfl,h1,h2⟩:=hv.inv_tup
  cases h2 with
  | cons hva h2 =>
   cases h2 with
   | cons hvb h2 =>
    cases h2
    rename_i va vb
    have I:=bG H
    have W1:bX W0 s.heap:=wild0
    have key:∀ h',Heap.ExtBut s.heap.objs.size s.heap h'->s.heap.objs.size ≤ h'.objs.size->aW C μ s.heap μ h'/\HR C μ σ { s with heap:=h' }:=fun h' hs hz =>
     H.keeps (s':={ s with heap:=h' }) (fun b o e=>hs b o (Nat.ne_of_lt (Heap.lt_size e)) e) hz rfl rfl
    have pre:∀ (Q:Unit->Shared->Prop) (E:Value->Shared->Prop),(∀ h',aW C μ s.heap μ h'->HR C μ σ { s with heap:=h' }->wpAny (model C.prog C.w) A (assignInOrder [assign (.Name x px) env,assign (.Name y py) env] [va,vb]) Q E { s with heap:=h' }) ->
      wpAny (model C.prog C.w) A (assign (.Tuple [.Name x px,.Name y py] k pos) env (.ref t)) Q E s:=fun Q E h=>by
     rw [arm_assign_Tuple]
     refine wpAny_bind (wpAny_standAt ?_)
     unfold unpack
     refine wpAny_bind (wpAny_holding (aZ ?_))
     show wpAny _ _ (unpackItems (.ref t) (List.toArray [va,vb]).size none) _ _ s
     exact wpAny_unpackItems_tuple hh ⟨_,h1,rfl,n,rfl⟩ fun h' hs hz=>by
      obtain ⟨e1,e2⟩:=key h' hs hz
      exact h h' e1 e2
    have two:∀ (Q:Unit->Shared->Prop) (E:Value->Shared->Prop) (s':Shared),wpAny (model C.prog C.w) A (assign (.Name x px) env va) (fun z0 s''=>wpAny (model C.prog C.w) A (assign (.Name y py) env vb) Q E s'') E s' ->
      wpAny (model C.prog C.w) A (assignInOrder [assign (.Name x px) env,assign (.Name y py) env] [va,vb]) Q E s':=fun Q E s' h=>by
     refine wpAny_bind (wpAny_holding (wpAny_mono h (fun z0 s'' q=>?_) fun z0 z0 e=>e))
     exact wpAny_bind (wpAny_holding (wpAny_mono q (fun z0 z0 z=>wpAny_pure z) fun z0 z0 e=>e))
    show af C A (eB c env) X μ σ s _ _ (setName x a c >>= fun c=>setName y b c)
    unfold af
    rw [ai]
    induction hs1:setName x a c σ using Out.casesOn with
    | stuck=>trivial
    | exc=>exact absurd hs1 (aK _ _ _ _)
    | ok c1 σ1 =>
     dsimp only
     induction hs2:setName y b c1 σ1 using Out.casesOn with
     | stuck=>trivial
     | exc=>exact absurd hs2 (aK _ _ _ _)
     | ok c2 σ2 =>
      intro Q E hQ
      refine pre Q E fun h' e1 H1=>two Q E _ ?_
      have V1:=V.ext0 H e1
      have s1:=name x px a va H1 V1 (VR.ext H wild0 e1 hva)
      unfold af at s1
      rw [hs1] at s1
      refine s1 _ _ fun μ1 _ s2 e2 H2 ⟨V2,q1,q2⟩=>?_
      have s3:=name y py b vb H2 V2 (VR.ext H1 (fun b o q e=>bQ V1 b o q.wenv e) e2 (VR.ext H wild0 e1 hvb))
      unfold af at s3
      rw [hs2] at s3
      refine s3 _ _ fun μ3 _ s4 e3 H3 ⟨V3,q3,q4⟩=>?_
      exact hQ μ3 () s4 ((e1.any.trans e2).trans (e3.mono fun z0 q=>q.sc q1)) H3 ⟨V3,q3.trans q1,q4.trans q2⟩
 .rw [hst]; exact ae
end
section
variable {r:Rc} {n:Nat} {C:Cf} {A:Around} {μ:Mu} {σ:ac} {s:Shared} {c:Ctx} {env:Env}
theorem RF.sc {c₀ c:Ctx} {μ:Mu} {s:Shared} {f:Flow} {a:Fl} (x:RF C c env μ s f a) (h1:c.sc = c₀.sc) (h2:c.fz = c₀.fz):RF C c₀ env μ s f a:=by
 cases f <;> cases a <;> first | exact x.elim | skip
 .exact ⟨x.1,x.2.1.trans h1,x.2.2.trans h2⟩
 .exact x
theorem bS (S:Snd Ok r n) (hP:Ok C) (hR:Rm C A n) (hfs:∃ outer,C.fs = env :: outer):∀ (ss:List Stmt) (μ:Mu) (σ:ac) (s:Shared) (c:Ctx),HR C μ σ s->ax C c env μ s.heap ->
  af C A (aO env) (XP C) μ σ s (RF C c env) (execs ss env) (evSs r ss c)
 | [],μ,σ,s,c,H,V=>aI H ⟨V,rfl,rfl⟩
 | st :: ss,μ,σ,s,c,H,V=>by
  show af C A (aO env) (XP C) μ σ s (RF C c env) (do
   match <- exec st env with
   | .next=>execs ss env
   | f=>pure f) (do
   match <- r.S st c with
   | .next c'=>evSs r ss c'
   | .ret v=>MM.pure (.ret v))
  refine aq (S.S C A μ σ s c env st hP hR hfs H V) fun μ1 σ1 s1 f a x1 H1 r1=>?_
  cases f <;> cases a <;> first | exact r1.elim | skip
  .obtain ⟨V1,q1,q2⟩:=r1
   exact oX (bS S hP hR hfs ss μ1 σ1 s1 _ H1 V1) fun μ' s' b a' q=>q.sc q1 q2
  .exact aI H1 r1
noncomputable def RFw (C:Cf) (c:Ctx) (env:Env) (μ:Mu) (s:Shared):Flow->Ctx ⊕ AV->Prop
 | .next,.inl c'=>ax C c' env μ s.heap/\c'.sc = c.sc/\c'.fz = c.fz
 | .ret v,.inr a=>VR C.ghost μ s.heap v a
 | _,_=>False
noncomputable def turnF (r:Rc) (t:Expr) (b:List Stmt):AV->Ctx->MM (Ctx ⊕ AV):=fun v c=>do
 let c' <- bindTo t v c
 match <- evSs r b c' with
 | .next c''=>MM.pure (.inl c'')
 | .ret v=>MM.pure (.inr v)
set_option tactic.hygienic true in
theorem jg (t:Expr) (a:AV) (c:Ctx) (σ:ac):bindTo t a c σ ≠ .exc:=by
 rcases eA t a c with ⟨x,p,rfl⟩ | ⟨x,px,y,py,k,pos,a,b,rfl,rfl⟩ | hst
 .exact aK _ _ _ _
 .show (setName x a c >>= fun c=>setName y b c) σ ≠ .exc
  rw [ai]
  split
  .exact aK _ _ _ _
  .rename_i q; exact absurd q (aK _ _ _ _)
  .intro q; exact nomatch q
 .rw [hst]; intro q; exact nomatch q
theorem jW {β:Type} {src:AV} {b:Bool} {m:Nat} {k:List AV->MM β} {σ:ac} {O:Out β} (hw:(do let xs <- items src; let b' <- isL src; MM.guard (decide (xs.length = m) && (b == b')); k xs:MM β) σ = O) (hO:O ≠ .stuck):∃ xs,items src σ = .ok xs σ/\isL src σ = .ok b σ/\xs.length = m/\k xs σ = O:=by
 obtain ⟨b',hb⟩:=iW (σ:=σ) src
 rcases eU (σ:=σ) src with ⟨xs,hx⟩ | hx
 .rw [ai,hx] at hw
  dsimp only at hw
  rw [ai,hb] at hw
  dsimp only at hw
  rw [ai] at hw
  unfold MM.guard at hw
  by_cases hg:(decide (xs.length = m) && (b == b')) = true
  .rw [if_pos hg] at hw
   rw [Bool.and_eq_true,decide_eq_true_eq,beq_iff_eq] at hg
   exact ⟨xs,hx,hg.2 ▸ hb,hg.1,hw⟩
  .rw [if_neg hg] at hw; exact absurd hw.symm hO
 .rw [ai,hx] at hw; exact absurd hw.symm hO
theorem hM {α β:Type} {src:AV} {b:Bool} {m:Nat} {turn:AV->α->MM (α ⊕ β)} {j:Nat} {a:α} {σ:ac} {O:Out (α ⊕ β)} (hw:walk src b m turn j a σ = O) (hO:O ≠ .stuck) :
  ∃ xs,items src σ = .ok xs σ/\isL src σ = .ok b σ/\xs.length = m /\
   match j with
   | 0=>O = .ok (.inl a) σ
   | j + 1=>∃ v,xs[m - (j + 1)]? = some v/\(match turn v a σ with | .ok (.inl a') σ'=>walk src b m turn j a' σ' = O | .ok (.inr x) σ'=>O = .ok (.inr x) σ' | .exc=>O = .exc | .stuck=>False):=by
 induction j using Nat.casesAuxOn with
 | zero =>
  unfold walk at hw
  obtain ⟨xs,h1,h2,h3,h4⟩:=jW (k:=fun z0=>MM.pure (.inl a)) hw hO
  exact ⟨xs,h1,h2,h3,h4.symm⟩
 | succ j =>
  unfold walk at hw
  obtain ⟨xs,h1,h2,h3,h4⟩:=jW (k:=fun xs=>do
   let v <- MM.opt xs[m - (j + 1)]?
   match <- turn v a with
   | .inl a'=>walk src b m turn j a'
   | .inr x=>MM.pure (.inr x)) hw hO
  refine ⟨xs,h1,h2,h3,?_⟩
  rw [ai] at h4
  induction hv:xs[m - (j + 1)]? using Option.casesOn with
  | none=>rw [hv] at h4; exact absurd h4.symm hO
  | some v =>
   refine ⟨v,hv,?_⟩
   rw [hv] at h4
   unfold MM.opt at h4
   dsimp only at h4
   rw [ai] at h4
   clear hv
   induction ht:turn v a σ using Out.casesOn with
   | stuck=>rw [ht] at h4; exact hO h4.symm
   | exc=>rw [ht] at h4; exact h4.symm
   | ok y σ' =>
    rw [ht] at h4
    clear ht
    induction y using Sum.casesOn with
    | inl a'=>exact h4
    | inr x=>exact h4.symm
set_option tactic.hygienic true in
theorem lQ (S:Snd Ok r n) (hP:Ok C) (hR:Rm C A n) {outer:List Env} (hfs:C.fs = env :: outer) {t:Expr} {b:List Stmt} {src:AV} {lst:Bool} {m:Nat} {I:Addr} (H:HR C μ σ s) (V:ax C c env μ s.heap) (R:ItR C μ I) (hI:bt C μ s.heap I lst m 0 src)
  (hIe:¬ aO env I) {O:Out (Ctx ⊕ AV)} (hw:walk src lst m (turnF r t b) m c σ = O) (hO:O ≠ .stuck) {RR:Result->Shared->Prop}
  (hok:∀ out σ' μ' s' f,O = .ok out σ'->Ext C (fun y=>aO env y\/y = I) μ s.heap μ' s'.heap->HR C μ' σ' s'->RFw C c env μ' s' f out->RR (.ok f) s')
  (hexc:O = .exc->∀ e s',XP C e s'->notedBy (model C.prog C.w) A env (fun e s'=>RR (.error e) s') e s') :
  codeAny (model C.prog C.w) A (.forLoop t (.ref I) b [] env) RR s:=by
 let W':Addr->Prop:=fun y=>aO env y\/y = I
 have hIs:I < s.heap.objs.size:=by obtain ⟨_,_,_,h1,_⟩:=hI.rec; exact Heap.lt_size h1
 refine codeAny_forLoop_any (I:=fun k s'=>X3i (fun μ' σ' c'=>k ≤ m) (fun μ' σ' c'=>Ext C W' μ s.heap μ' s'.heap) (fun μ' σ' c'=>HR C μ' σ' s') (fun μ' σ' c'=>ax C c' env μ' s'.heap) (fun μ' σ' c'=>c'.sc = c.sc) (fun μ' σ' c'=>c'.fz = c.fz) (fun μ' σ' c'=>ItR C μ' I) (fun μ' σ' c'=>bt C μ' s'.heap I lst m (m - k) src) (fun μ' σ' c'=>walk src lst m (turnF r t b) k c' σ' = O)) ?_ m ⟨μ,σ,c,Nat.le_refl _,Ext.refl,H,V,rfl,rfl,R,by rw [Nat.sub_self]; exact hI,hw⟩
 rintro k s1 ⟨μ1,σ1,c1,hk,x1,H1,V1,e1,e2,R1,hI1,hw1⟩
 obtain ⟨xs,i1,i2,i3,i4⟩:=hM hw1 hO
 induction k using Nat.casesAuxOn with
 | zero =>
  dsimp only at i4
  rw [Nat.sub_zero] at hI1
  refine kJ hR.handled H1 R1 hI1 i1 i2 i3 fun h' tk x2 H2=>?_
  refine wpAny_execs_nil ?_
  refine hok _ _ μ1 _ .next i4 (x1.trans (x2.mono fun y q=>.inr q)) H2 ⟨?_,e1,e2⟩
  have hw':bX (fun y=>y = I) s1.heap:=fun y o q e=>by subst q; exact hI1.wild o e
  exact V1.ext H1 hw' x2 (fun q=>hIe (.inl q.symm)) fun y ad hy q=>hIe (.inr ⟨y,by rw [hy,q]⟩)
 | succ k =>
  dsimp only at i4
  obtain ⟨v,i5,i6⟩:=i4
  refine ip H1 R1 hI1 i1 i2 i3 i5 fun h' tk u x2 H2 hI2 hu=>?_
  have hw':bX (fun y=>y = I) s1.heap:=fun y o q e=>by subst q; exact hI1.wild o e
  have V2:ax C c1 env μ1 h':=V1.ext H1 hw' x2 (fun q=>hIe (.inl q.symm)) fun y ad hy q=>hIe (.inr ⟨y,by rw [hy,q]⟩)
  have R2:ItR C μ1 I:=R1
  refine letGoTuple (s:={ s1 with heap:=h',toks:=tk }) hI2 hu ?_
  have hb:=jH (fun z0 q=>eB.wenv q) (dK (X:=XP C) (t:=t) (s:={ s1 with heap:=h',toks:=tk }) hR.handled H2 V2 hu)
  unfold turnF at i6
  rw [ai] at i6
  unfold af at hb
  induction hbt:bindTo t v c1 σ1 using Out.casesOn with
  | stuck=>rw [hbt] at i6; exact i6.elim
  | exc=>exact absurd hbt (jg _ _ _ _)
  | ok c2 σ2 =>
   rw [hbt] at i6 hb
   dsimp only at i6 hb
   refine hb _ _ fun μ3 _ s3 x3 H3 ⟨V3,e3,e4⟩=>?_
   have hbody:=bS S hP hR ⟨outer,hfs⟩ b μ3 σ2 s3 c2 H3 V3
   have hIe':¬ aO env I:=hIe
   have hI3:bt C μ3 s3.heap I lst m (m - (k + 1) + 1) src:=bt.ext H2 (bQ V2) x3 R2 hIe hI2
   have hIs1:I < s1.heap.objs.size:=Nat.lt_of_lt_of_le hIs x1.size
   have R3:ItR C μ3 I:=R2.ext x3 (Nat.lt_of_lt_of_le hIs1 x2.size)
   rw [ai] at i6
   unfold af at hbody
   have x13:Ext C W' μ s.heap μ3 s3.heap:=(x1.trans (x2.mono fun y q=>.inr q)).trans (x3.mono fun y q=>.inl q)
   induction hbd:evSs r b c2 σ2 using Out.casesOn with
   | stuck=>rw [hbd] at i6; exact i6.elim
   | exc =>
    rw [hbd] at i6 hbody
    exact hbody _ _ (hexc i6)
   | ok fl σ3 =>
    rw [hbd] at i6 hbody
    dsimp only at hbody
    refine hbody _ _ fun μ4 f s4 x4 H4 r4=>?_
    cases f <;> cases fl <;> first | exact r4.elim | skip
    .rename_i c3
     obtain ⟨V4,e5,e6⟩:=r4
     refine ⟨k,Nat.lt_succ_self k,μ4,σ3,c3,Nat.le_of_succ_le hk,x13.trans (x4.mono fun y q=>.inl q),H4,V4,(e5.trans e3).trans e1,(e6.trans e4).trans e2,R3.ext x4 (Nat.lt_of_lt_of_le (Nat.lt_of_lt_of_le hIs1 x2.size) x3.size),?_,i6⟩
     have:=bt.ext H3 (bQ V3) x4 R3 hIe hI3
     rw [show m - (k + 1) + 1 = m - k from by omega] at this
     exact this
    .exact hok _ _ μ4 s4 (.ret _) i6 (x13.trans (x4.mono fun y q=>.inl q)) H4 r4
end
theorem Ext.drop {C:Cf} {W:Addr->Prop} {μ μ':Mu} {h h':Heap} (x:Ext C (fun b=>W b\/h.objs.size ≤ b) μ h μ' h'):Ext C W μ h μ' h' :=
 ⟨x.pre,x.size,x.new,fun b' o e hd hn=>x.keep b' o e hd fun q=>q.elim hn fun q=>Nat.lt_irrefl _ (Nat.lt_of_lt_of_le (Heap.lt_size e) q)⟩
theorem kT {M:Model} {A:Around} {E:Value->Shared->Prop} {s:Shared} {elt:Expr} {gens:List Comprehension} {sc:Scope} {pos:Pos} {d:Nat} {it acc:Value} {env:Env} {g:Comprehension} (hg:gens[d]? = some g) (ha:g.is_async = 0)
  (hg':∀ g',gens[d + 1]? = some g'->g'.is_async = 0) {Q:PySem.Fin->Shared->Prop}
  (h:wpAny M A (pyNext it) (fun r s₁=>match r with
   | none=>Q (.done .next) s₁
   | some v=>wpAny M A (letOwnedTupleGo g.target it v) (fun z0 s₂=>wpAny M A (assign g.target env v) (fun z0 s₃ =>
     wpAny M A (forIn g.ifs true fun c r=>if r = true then do let ok <- isTrue c env (eval c env); pure (ForInStep.yield ok) else pure (ForInStep.yield r)) (fun ok s₄ =>
      if ok = true then (match gens[d + 1]? with
       | some g'=>wpAny M A (eval g'.iter env) (fun x s₅=>wpAny M A (foldedSetIterable g'.iter env x) (fun x s₆ =>
         wpAny M A (pyIter x) (fun it' s₇=>wpAny M A (runOwn (.compStart (.ListComp elt gens sc pos) (d + 1) it' acc env) env) (fun z0 s₈=>Q (.again (.compLoop (.ListComp elt gens sc pos) d it acc env)) s₈) E s₇) E s₆) E s₅) E s₄
       | none=>wpAny M A (eval elt env) (fun x s₅=>wpAny M A (call (.builtin "list.append") [acc,x]) (fun z0 s₆=>Q (.again (.compLoop (.ListComp elt gens sc pos) d it acc env)) s₆) E s₅) E s₄)
      else Q (.again (.compLoop (.ListComp elt gens sc pos) d it acc env)) s₄) E s₃) E s₂) E s₁) E s) :
  wpAny M A (compTurn (.ListComp elt gens sc pos) d it acc env) Q E s:=by
 unfold compTurn
 dsimp only
 rw [hg]
 dsimp only
 rw [ha]
 refine wpAny_bind (wpAny_standAt ?_)
 rw [if_neg (by decide)]
 refine wpAny_bind (wpAny_mono h (fun r s₁ h₁=>?_) fun z0 z0 e=>e)
 induction r using Option.casesOn with
 | none=>exact wpAny_pure h₁
 | some v =>
  refine wpAny_bind (wpAny_mono h₁ (fun z0 s₂ h₂=>?_) fun z0 z0 e=>e)
  refine wpAny_bind (wpAny_mono h₂ (fun z0 s₃ h₃=>?_) fun z0 z0 e=>e)
  refine wpAny_bind (wpAny_mono h₃ (fun ok s₄ h₄=>?_) fun z0 z0 e=>e)
  induction ok using Bool.casesOn with
  | false =>
   rw [if_neg Bool.false_ne_true] at h₄ ⊢
   exact wpAny_pure h₄
  | true =>
   rw [if_pos rfl] at h₄ ⊢
   induction hq:gens[d + 1]? using Option.casesOn with
   | none =>
    rw [hq] at h₄
    dsimp only at h₄
    exact wpAny_bind (wpAny_bind (wpAny_mono h₄ (fun x s₅ h₅=>wpAny_bind (wpAny_mono h₅ (fun z0 s₆ h₆=>wpAny_pure (wpAny_pure h₆)) fun z0 z0 e=>e)) fun z0 z0 e=>e))
   | some g' =>
    rw [hq] at h₄
    dsimp only at h₄
    refine wpAny_bind (wpAny_mono h₄ (fun x s₅ h₅=>wpAny_bind (wpAny_standAt ?_)) fun z0 z0 e=>e)
    rw [hg' g' hq]
    rw [if_neg (by decide)]
    refine wpAny_bind (wpAny_mono h₅ (fun x s₆ h₆=>?_) fun z0 z0 e=>e)
    rw [if_neg (by decide)]
    refine wpAny_bind (wpAny_holding (wpAny_mono h₆ (fun it' s₇ h₇=>?_) fun z0 z0 e=>e))
    exact wpAny_bind (wpAny_mono h₇ (fun z0 s₈ h₈=>wpAny_pure h₈) fun z0 z0 e=>e)
theorem jc {C:Cf} {A:Around} {s:Shared} {elt:Expr} {gens:List Comprehension} {sc:Scope} {pos:Pos} {d:Nat} {it acc:Value} {env:Env} {g:Comprehension} (hg:gens[d]? = some g) (ha:g.is_async = 0) {R:Result->Shared->Prop}
  (hself:∀ (Q:Value->Shared->Prop) (E:Value->Shared->Prop),Q it s->wpAny (model C.prog C.w) A (pyIter it) Q E s)
  (h:codeAny (model C.prog C.w) A (.compLoop (.ListComp elt gens sc pos) d it acc env) R s):codeAny (model C.prog C.w) A (.compStart (.ListComp elt gens sc pos) d it acc env) R s:=by
 refine codeAny_of_tree ?_
 refine wpAny_notedAt ?_
 unfold compStart
 have e1:(clausesOf (.ListComp elt gens sc pos))[d]? = some g:=hg
 rw [e1]
 rw [if_neg (by show ¬ (g.is_async != 0) = true; rw [ha]; decide)]
 refine wpAny_bind (wpAny_askSetting (wpAny_ite ?_))
 split
 .first
   | exact wpAny_bind (wpAny_pure (wpAny_pure (And.intro rfl h)))
   | exact wpAny_pure (And.intro rfl h)
 .refine wpAny_bind (wpAny_rule (wpAny_bind (wpAny_standAt (wpAny_bind (hself _ _ (wpAny_pure (And.intro rfl h)))))))
section
variable {r:Rc} {n:Nat} {C:Cf} {A:Around} {X:Value->Shared->Prop} {μ:Mu} {σ:ac} {s:Shared} {c:Ctx} {env:Env}
structure dF (C:Cf) (μ:Mu) (h:Heap) (D:Addr) (xs:List AV):Prop where
 loc:ItR C μ D
 obj:∃ vs m,h.get? D = some (PySem.W.listOf (List.toArray vs) m)/\VRs C.ghost μ h vs xs
theorem dF.wild {h:Heap} {D:Addr} {xs:List AV} (x:dF C μ h D xs):∀ o,h.get? D = some o->¬ ff o:=by
 obtain ⟨vs,m,h1,_⟩:=x.obj
 intro o e q
 rw [h1] at e; injection e with e; subst e
 exact q.1.2.1 rfl
theorem dF.ext (H:HR C μ σ s) {W:Addr->Prop} (hW:bX W s.heap) {μ':Mu} {h':Heap} (x:Ext C W μ s.heap μ' h') {D:Addr} (hD:¬ W D) {xs:List AV} (y:dF C μ s.heap D xs):dF C μ' h' D xs:=by
 obtain ⟨vs,m,h1,h2⟩:=y.obj
 refine ⟨y.loc.ext x (Heap.lt_size h1),vs,m,(x.keep D _ h1 (bt.notDm H y.loc) hD).1 y.loc.fl,VRs.ext H hW x h2⟩
theorem eH (S:Snd Ok r n) (hP:Ok C) (hR:Rm C A n):∀ (es:List Expr) (μ:Mu) (σ:ac) (s:Shared),HR C μ σ s->ax C c env μ s.heap ->
  af C A W0 (XP C) μ σ s (fun z0 z0 b a=>b = a) (forIn es true fun c r=>if r = true then do let ok <- isTrue c env (eval c env); pure (ForInStep.yield ok) else pure (ForInStep.yield r)) (allT r es c)
 | [],μ,σ,s,H,V=>aA rfl fun Q E hQ=>wpAny_pure (hQ μ true s Ext.refl H rfl)
 | e :: es,μ,σ,s,H,V=>by
  have hfalse:∀ (es:List Expr) (Q:Bool->Shared->Prop) (E:Value->Shared->Prop) (s:Shared),Q false s ->
    wpAny (model C.prog C.w) A (forIn es false fun c r=>if r = true then do let ok <- isTrue c env (eval c env); pure (ForInStep.yield ok) else pure (ForInStep.yield r)) Q E s:=by
   intro es
   induction es with
   | nil=>intro Q E s q; rw [List.forIn_nil]; exact wpAny_pure q
   | cons e es ih =>
    intro Q E s q
    rw [List.forIn_cons]
    refine wpAny_bind ?_
    rw [if_neg Bool.false_ne_true]
    exact wpAny_pure (ih Q E s q)
  have hstep:∀ (Q:Bool->Shared->Prop) (E:Value->Shared->Prop),wpAny (model C.prog C.w) A (isTrue e env (eval e env)) (fun b s'=>if b = true then wpAny (model C.prog C.w) A (forIn es true fun c r=>if r = true then do let ok <- isTrue c env (eval c env); pure (ForInStep.yield ok) else pure (ForInStep.yield r)) Q E s' else Q false s') E s ->
    wpAny (model C.prog C.w) A (forIn (e :: es) true fun c r=>if r = true then do let ok <- isTrue c env (eval c env); pure (ForInStep.yield ok) else pure (ForInStep.yield r)) Q E s:=by
   intro Q E h
   rw [List.forIn_cons]
   refine wpAny_bind ?_
   rw [if_pos rfl]
   refine wpAny_bind (wpAny_mono h (fun b s' hb=>?_) fun z0 z0 z=>z)
   induction b using Bool.casesOn with
   | true=>rw [if_pos rfl] at hb; exact wpAny_pure hb
   | false=>rw [if_neg Bool.false_ne_true] at hb; exact wpAny_pure (hfalse es Q E s' hb)
  have hT:=S.T C A μ σ s c env e hP hR H V
  show af C A W0 (XP C) μ σ s _ _ (do
   let t <- r.T e c
   if t then allT r es c else MM.pure false)
  unfold af at hT ⊢
  rw [ai]
  induction ht:r.T e c σ using Out.casesOn with
  | stuck=>trivial
  | exc =>
   rw [ht] at hT
   exact fun Q E hE=>hstep Q E (hT _ _ hE)
  | ok b σ1 =>
   rw [ht] at hT
   dsimp only at hT ⊢
   induction b using Bool.casesOn with
   | false =>
    exact fun Q E hQ=>hstep Q E (hT _ _ fun μ' b s' x' H' rb=>by
     rw [rb]
     rw [if_neg Bool.false_ne_true]
     exact hQ μ' false s' x' H' rfl)
   | true =>
    rw [if_pos rfl]
    induction hl:allT r es c σ1 using Out.casesOn with
    | stuck=>trivial
    | exc =>
     intro Q E hE
     refine hstep Q E (hT _ _ fun μ' b s' x' H' rb=>?_)
     rw [rb]
     rw [if_pos rfl]
     have h2:=eH S hP hR es μ' σ1 s' H' (V.ext0 H x')
     unfold af at h2
     rw [hl] at h2
     exact h2 _ _ hE
    | ok b2 σ2 =>
     intro Q E hQ
     refine hstep Q E (hT _ _ fun μ' b s' x' H' rb=>?_)
     rw [rb]
     rw [if_pos rfl]
     have h2:=eH S hP hR es μ' σ1 s' H' (V.ext0 H x')
     unfold af at h2
     rw [hl] at h2
     exact h2 _ _ fun μ'' b'' s'' x'' H'' r''=>hQ μ'' b'' s'' (x'.trans x'') H'' r''
noncomputable def turnC (r:Rc) (elt:Expr) (g:Comprehension) (gs:List Comprehension):AV->Ctx × List AV->MM ((Ctx × List AV) ⊕ Empty):=fun v a=>do
 let c' <- bindTo g.target v a.1
 if <- allT r g.ifs c' then
  match gs with
  | []=>do
   let x <- r.E elt c'
   MM.guard (fits a.2.length)
   MM.pure (.inl (c',a.2 ++ [x]))
  | g' :: _=>do
   let src' <- r.E g'.iter c'
   let a' <- clause r elt gs src' c' a.2
   MM.pure (.inl a')
 else MM.pure (.inl (c',a.2))
theorem fb {elt:Expr} {g:Comprehension} {gs:List Comprehension} {src:AV} {acc:List AV} {a':Ctx × List AV} {σ':ac} (h:clause r elt (g :: gs) src c acc σ = .ok a' σ') :
  ∃ xs b,items src σ = .ok xs σ/\isL src σ = .ok b σ/\fits xs.length = true/\walk src b xs.length (turnC r elt g gs) xs.length (c,acc) σ = .ok (.inl a') σ':=by
 have e:clause r elt (g :: gs) src c acc = (do
   let out <- walkAll (β:=Empty) src (turnC r elt g gs) (c,acc)
   match out with
   | .inl a=>MM.pure a
   | .inr x=>nomatch x):=by
  conv=>lhs; unfold clause
  rfl
 rw [e,ai] at h
 unfold walkAll at h
 rcases eU (σ:=σ) src with ⟨xs,hx⟩ | hx
 .rw [ai,hx] at h
  dsimp only at h
  obtain ⟨b,hb⟩:=iW (σ:=σ) src
  rw [ai,hb] at h
  dsimp only at h
  rw [ai] at h
  unfold MM.guard at h
  by_cases hf:fits xs.length = true
  .rw [if_pos hf] at h
   dsimp only at h
   refine ⟨xs,b,hx,hb,hf,?_⟩
   induction hw:walk src b xs.length (turnC r elt g gs) xs.length (c,acc) σ using Out.casesOn with
   | stuck=>rw [hw] at h; exact nomatch h
   | exc=>rw [hw] at h; exact nomatch h
   | ok y σ1 =>
    rw [hw] at h
    cases y with
    | inl a=>injection h with h1 h2; subst h1 h2; rfl
    | inr z=>exact nomatch z
  .rw [if_neg hf] at h; exact nomatch h
 .rw [ai,hx] at h; exact nomatch h
end
section
variable {r:Rc} {n:Nat} {C:Cf} {A:Around} {X:Value->Shared->Prop} {env:Env}
noncomputable def Wcl (env:Env) (D I:Addr) (y:Addr):Prop:=y = env.locals\/y = D\/y = I
theorem ey {α β:Type} {m:MM α} {f:α->MM β} {σ τ:ac} {b:β} (h:(m >>= f) σ = .ok b τ):∃ a σ1,m σ = .ok a σ1/\f a σ1 = .ok b τ:=by
 rw [ai] at h
 induction e:m σ using Out.casesOn with
 | ok a σ1=>rw [e] at h; exact ⟨a,σ1,rfl,h⟩
 | _=>rw [e] at h; exact nomatch h
theorem af.run {α β:Type} {W:Addr->Prop} {μ:Mu} {σ:ac} {s:Shared} {R:Mu->Shared->β->α->Prop} {t:Sem β} {m:MM α} {a:α} {σ':ac} {Q:β->Shared->Prop} {E:Value->Shared->Prop} (h:af C A W X μ σ s R t m) (e:m σ = .ok a σ')
  (k:∀ μ' b s',Ext C W μ s.heap μ' s'.heap->HR C μ' σ' s'->R μ' s' b a->Q b s'):wpAny (model C.prog C.w) A t Q E s:=by
 unfold af at h
 rw [e] at h
 exact h Q E k
theorem ow {α:Type} {src:AV} {b:Bool} {m:Nat} {turn:AV->α->MM (α ⊕ Empty)} {j:Nat} {a a':α} {σ σ':ac} (hw:walk src b m turn j a σ = .ok (.inl a') σ') :
  ∃ xs,items src σ = .ok xs σ/\isL src σ = .ok b σ/\xs.length = m/\(∀ P:α->ac->Prop,j = 0->P a' σ'->P a σ) /\
   ∀ i,j = i + 1->∃ v a1 σ1,xs[m - (i + 1)]? = some v/\turn v a σ = .ok (.inl a1) σ1/\walk src b m turn i a1 σ1 = .ok (.inl a') σ':=by
 obtain ⟨xs,k1,k2,k3,k4⟩:=hM hw (fun q=>nomatch q)
 refine ⟨xs,k1,k2,k3,fun P e q=>?_,fun i e=>?_⟩
 .subst e
  dsimp only at k4
  injection k4 with k4 k5
  injection k4 with k4
  subst k4 k5
  exact q
 .subst e
  dsimp only at k4
  obtain ⟨v,k5,k6⟩:=k4
  induction e:turn v a σ using Out.casesOn with
  | ok x σ1 =>
   rw [e] at k6
   induction x using Sum.casesOn with
   | inl a1=>exact ⟨v,a1,σ1,k5,e,k6⟩
   | inr x=>exact nomatch x
  | _=>rw [e] at k6; exact nomatch k6
inductive gF (r:Rc) (elt:Expr) (g:Comprehension) (v:AV) (c:Ctx) (acc:List AV) (σ:ac) (a1:Ctx × List AV) (τ:ac):List Comprehension->Prop
 | skip {gs:List Comprehension} (c2:Ctx) (σ2:ac) (h1:bindTo g.target v c σ = .ok c2 σ2) (h2:allT r g.ifs c2 σ2 = .ok false τ) (h3:a1 = (c2,acc)):gF r elt g v c acc σ a1 τ gs
 | last (c2:Ctx) (σ2 σ3:ac) (x:AV) (h1:bindTo g.target v c σ = .ok c2 σ2) (h2:allT r g.ifs c2 σ2 = .ok true σ3) (h4:r.E elt c2 σ3 = .ok x τ) (h5:fits acc.length = true) (h3:a1 = (c2,acc ++ [x])):gF r elt g v c acc σ a1 τ []
 | deep {g1:Comprehension} {gs:List Comprehension} (c2:Ctx) (σ2 σ3 σ4:ac) (x:AV) (h1:bindTo g.target v c σ = .ok c2 σ2) (h2:allT r g.ifs c2 σ2 = .ok true σ3) (h4:r.E g1.iter c2 σ3 = .ok x σ4) (h5:clause r elt (g1 :: gs) x c2 acc σ4 = .ok a1 τ):gF r elt g v c acc σ a1 τ (g1 :: gs)
theorem qF {elt:Expr} {g:Comprehension} {gs:List Comprehension} {v:AV} {c:Ctx} {acc:List AV} {σ τ:ac} {a1:Ctx × List AV} (h:turnC r elt g gs v (c,acc) σ = .ok (.inl a1) τ):gF r elt g v c acc σ a1 τ gs:=by
 obtain ⟨c2,σ2,h1,h⟩:=ey h
 obtain ⟨tb,σ3,h2,h⟩:=ey h
 induction tb using Bool.casesOn with
 | false=>injection h with e1 e2; injection e1 with e1; subst e2; exact .skip c2 σ2 h1 h2 e1.symm
 | true =>
  induction gs using List.casesOn with
  | nil =>
   obtain ⟨x,σ4,h4,h⟩:=ey h
   by_cases hf:fits acc.length = true
   .have h':(if fits acc.length then Out.ok () σ4 else .stuck:Out Unit) = .ok () σ4:=if_pos hf
    rw [ai] at h
    unfold MM.guard at h
    rw [h'] at h
    injection h with e1 e2; injection e1 with e1; subst e2
    exact .last c2 σ2 σ3 x h1 h2 h4 hf e1.symm
   .rw [ai] at h
    unfold MM.guard at h
    rw [if_neg hf] at h
    exact nomatch h
  | cons g1 gs1 =>
   obtain ⟨x,σ4,h4,h⟩:=ey h
   obtain ⟨a2,σ5,h5,h⟩:=ey h
   injection h with e1 e2; injection e1 with e1; subst e1 e2
   exact .deep c2 σ2 σ3 σ4 x h1 h2 h4 h5
structure bH (C:Cf) (c:Ctx) (env:Env) (D I:Addr) (lst:Bool) (m k:Nat) (src:AV) (acc:List AV) (μ:Mu) (σ:ac) (s:Shared):Prop where
 H:HR C μ σ s
 V:ax C c env μ s.heap
 R:ItR C μ I
 hI:bt C μ s.heap I lst m k src
 hacc:dF C μ s.heap D acc
 hIs:I < s.heap.objs.size
theorem bH.ext0 {c:Ctx} {D I:Addr} {lst:Bool} {m k:Nat} {src:AV} {acc:List AV} {μ μ':Mu} {σ σ':ac} {s s':Shared} (x:bH C c env D I lst m k src acc μ σ s) (e:aW C μ s.heap μ' s'.heap) (H':HR C μ' σ' s'):bH C c env D I lst m k src acc μ' σ' s' :=
 ⟨H',x.V.ext0 x.H e,x.R.ext e x.hIs,bt.ext x.H wild0 e x.R (fun q=>q) x.hI,x.hacc.ext x.H wild0 e (fun q=>q),Nat.lt_of_lt_of_le x.hIs e.size⟩
noncomputable def gJ (r:Rc) (C:Cf) (A:Around) (env:Env) (elt:Expr) (G:List Comprehension) (sc:Scope) (pos:Pos) (D:Addr) (nm:Scope) (gs:List Comprehension) (d:Nat):Prop :=
 ∀ (μ:Mu) (σ:ac) (s:Shared) (c:Ctx) (acc:List AV) (src:AV) (I:Addr) (lst:Bool) (m:Nat) (xs:List AV),
   c.sc = nm->HR C μ σ s->ax C c env μ s.heap->ItR C μ I->bt C μ s.heap I lst m 0 src->dF C μ s.heap D acc->D ≠ I->¬ aO env I->items src σ = .ok xs σ->isL src σ = .ok lst σ->xs.length = m ->
   ∀ (a':Ctx × List AV) (σ':ac),clause r elt gs src c acc σ = .ok a' σ' ->
   ∀ (R:Result->Shared->Prop),(∀ μ' s',Ext C (Wcl env D I) μ s.heap μ' s'.heap->HR C μ' σ' s'->ax C a'.1 env μ' s'.heap->a'.1.sc = c.sc->a'.1.fz = c.fz->dF C μ' s'.heap D a'.2->R (.ok .next) s') ->
   codeAny (model C.prog C.w) A (.compStart (.ListComp elt G sc pos) d (.ref I) (.ref D) env) R s
section
variable {D I:Addr} {lst:Bool} {m k:Nat} {src v x:AV} {acc:List AV} {μ:Mu} {σ τ:ac} {s:Shared} {c c2:Ctx} {σ2 σ3:ac} {E:Value->Shared->Prop}
theorem fQ (S:Snd Ok r n) (hP:Ok C) (hR:Rm C A n) {g:Comprehension} {nm:Scope} (hnm:∀ y,nm.names.lookup y ≠ some .cell) (hD:¬ aO env D) (hIe:¬ aO env I) (hsc:c.sc = nm) (Z:bH C c env D I lst m k src acc μ σ s) {u:Value} (hu:VR C.ghost μ s.heap u v)
  {tb:Bool} (h1:bindTo g.target v c σ = .ok c2 σ2) (h2:allT r g.ifs c2 σ2 = .ok tb σ3) {P:Bool->Shared->Prop}
  (hP':∀ μ4 s4,Ext C (fun y=>y = env.locals) μ s.heap μ4 s4.heap->c2.sc = c.sc->c2.fz = c.fz->bH C c2 env D I lst m k src acc μ4 σ3 s4->P tb s4) :
  wpAny (model C.prog C.w) A (assign g.target env u) (fun z0 s₃=>wpAny (model C.prog C.w) A (forIn g.ifs true fun c r=>if r = true then do let ok <- isTrue c env (eval c env); pure (ForInStep.yield ok) else pure (ForInStep.yield r)) P E s₃) E s:=by
 refine af.run (jH (W':=fun y=>y = env.locals) (fun y q=>q.elim id fun ⟨z,hz,_⟩=>absurd hz (by unfold Ctx.kind; rw [hsc]; exact hnm z)) (dK (X:=XP C) (t:=g.target) hR.handled Z.H Z.V hu)) h1 fun μ3 z0 s3 x3 H3 V3=>?_
 have Z3:bH C c2 env D I lst m k src acc μ3 σ2 s3:=⟨H3,V3.1,Z.R.ext x3 Z.hIs,bt.ext Z.H (fun b o q e=>bQ Z.V b o (.inl q) e) x3 Z.R (fun q=>hIe (.inl q)) Z.hI,Z.hacc.ext Z.H (fun b o q e=>bQ Z.V b o (.inl q) e) x3 (fun q=>hD (.inl q)),Nat.lt_of_lt_of_le Z.hIs x3.size⟩
 refine af.run (eH S hP hR g.ifs μ3 σ2 s3 H3 V3.1) h2 fun μ4 b s4 x4 H4 rb=>?_
 rw [rb]
 exact hP' μ4 s4 (x3.trans x4.any) V3.2.1 V3.2.2 (Z3.ext0 x4 H4)
theorem mH (S:Snd Ok r n) (hP:Ok C) (hR:Rm C A n) (hD:¬ aO env D) (hDI:D ≠ I) (Z:bH C c env D I lst m k src acc μ σ s) {elt:Expr} (h4:r.E elt c σ = .ok x τ) (h5:fits acc.length = true) {Q:Shared->Prop}
  (hQ:∀ μ7 s7,Ext C (fun y=>y = D) μ s.heap μ7 s7.heap->bH C c env D I lst m k src (acc ++ [x]) μ7 τ s7->Q s7) :
  wpAny (model C.prog C.w) A (eval elt env) (fun x s₅=>wpAny (model C.prog C.w) A (call (.builtin "list.append") [.ref D,x]) (fun z0 s₆=>Q s₆) E s₅) E s:=by
 refine af.run (S.E C A μ σ s c env elt hP hR Z.H Z.V) h4 fun μ5 w s5 x5 H5 rw5=>?_
 have Z5:=Z.ext0 x5 H5
 obtain ⟨vs,mm,g1,g2⟩:=Z5.hacc.obj
 refine wpAny_list_append_plain (items:=List.toArray vs) ⟨mm,g1⟩ (fun h6 hpl hs=>?_) (by rw [List.size_toArray,g2.len]; exact bv h5)
 obtain ⟨x6,H6⟩:=H5.other (W:=fun y=>y = D) s5.toks hs rfl Z5.hacc.wild Z5.hacc.loc.new Z5.hacc.loc.off (fun q=>absurd q Z5.hacc.loc.fl) Z5.hacc.loc.tb (fun q=>Z5.hacc.loc.fl (H5.h0f _ q))
 have hwD:bX (fun y=>y = D) s5.heap:=fun y o q e=>by subst q; exact Z5.hacc.wild o e
 refine hQ μ5 _ (x5.any.trans x6) ⟨H6,Z5.V.ext H5 hwD x6 (fun q=>hD (.inl q.symm)) fun y ad hy q=>hD (.inr ⟨y,by rw [hy,q]⟩),Z5.R.ext x6 Z5.hIs,bt.ext H5 hwD x6 Z5.R (fun q=>hDI q.symm) Z5.hI,?_,Nat.lt_of_lt_of_le Z5.hIs x6.size⟩
 obtain ⟨m2,g3⟩:=hpl
 refine ⟨Z5.hacc.loc,vs ++ [w],m2,?_,(VRs.ext H5 hwD x6 g2).append (.cons (VR.ext H5 hwD x6 rw5) .nil)⟩
 have:(List.toArray vs).push w = (vs ++ [w]).toArray:=by simp
 rw [<- this]; exact g3
theorem mI (S:Snd Ok r n) (hP:Ok C) (hR:Rm C A n) {elt:Expr} {G:List Comprehension} {sc:Scope} {pos:Pos} {nm:Scope} {gs:List Comprehension} {d:Nat} {g1:Comprehension} (hns:notSet g1.iter = true) (hD:¬ aO env D) (hIe:¬ aO env I) (hDI:D ≠ I) (ih:gJ r C A env elt G sc pos D nm (g1 :: gs) d) (hsc:c.sc = nm) (Z:bH C c env D I lst m k src acc μ σ s)
  {a2:Ctx × List AV} (h4:r.E g1.iter c σ = .ok x σ2) (h5:clause r elt (g1 :: gs) x c acc σ2 = .ok a2 τ) {Q:Shared->Prop}
  (hQ:∀ μ7 s7,Ext C (fun y=>y = env.locals\/y = D) μ s.heap μ7 s7.heap->a2.1.sc = c.sc->a2.1.fz = c.fz->bH C a2.1 env D I lst m k src a2.2 μ7 τ s7->Q s7) :
  wpAny (model C.prog C.w) A (eval g1.iter env) (fun x s₅=>wpAny (model C.prog C.w) A (foldedSetIterable g1.iter env x) (fun x s₆ =>
   wpAny (model C.prog C.w) A (pyIter x) (fun it' s₇=>wpAny (model C.prog C.w) A (runOwn (.compStart (.ListComp elt G sc pos) d it' (.ref D) env) env) (fun z0 s₈=>Q s₈) E s₇) E s₆) E s₅) E s:=by
 refine af.run (S.E C A μ σ s c env g1.iter hP hR Z.H Z.V) h4 fun μ5 w s5 x5 H5 rw5=>?_
 have hns:∀ x,foldedSetIterable g1.iter env x = pure x:=by
  intro x
  cases hit:g1.iter <;> first | rfl | (rw [hit] at hns; exact absurd hns Bool.false_ne_true)
 rw [hns]
 refine wpAny_pure ?_
 obtain ⟨zs,b2,l1,l2,l3,_⟩:=fb h5
 obtain ⟨oI,hI',hpi⟩:=eS (A:=A) hP.glo H5 rw5 l1 l2 l3
 refine hpi _ _ ?_
 obtain ⟨x6,H6⟩:=H5.push oI s5.toks
 have Z5:=Z.ext0 x5 H5
 have hDs5:D < s5.heap.objs.size:=by obtain ⟨_,_,g1,_⟩:=Z5.hacc.obj; exact Heap.lt_size g1
 have hIe':¬ aO env s5.heap.objs.size:=by
  rintro (q | ⟨y,hy⟩)
  .obtain ⟨_,hn⟩:=Z5.V.ns
   exact Nat.lt_irrefl _ (q ▸ hn.lt)
  .obtain ⟨_,o,e,_⟩:=Z5.V.allc y _ hy
   exact Nat.lt_irrefl _ (Heap.lt_size e)
 refine wpAny_runOwn ?_
 refine ih μ5 σ2 _ c acc x _ b2 zs.length zs hsc H6 (Z5.V.ext0 H5 x6) (bG H5) hI' (Z5.hacc.ext H5 wild0 x6 (fun q=>q)) (Nat.ne_of_lt hDs5) hIe' l1 l2 rfl a2 τ h5 _ fun μ7 s7 x7 H7 V7 e5 e6 hacc7=>?_
 have x57:Ext C (fun y=>y = env.locals\/y = D) μ5 s5.heap μ7 s7.heap:=Ext.drop (x6.any.trans (x7.mono fun y q=>by
  rcases q with q | q | q
  .exact .inl (.inl q)
  .exact .inl (.inr q)
  .exact .inr (q ▸ Nat.le_refl _)))
 have hwD:bX (fun y=>y = env.locals\/y = D) s5.heap:=fun y o q e=>by
  rcases q with q | q
  .exact bQ Z5.V y o (.inl q) e
  .subst q; exact Z5.hacc.wild o e
 exact hQ μ7 _ (x5.any.trans x57) e5 e6 ⟨H7,V7,Z5.R.ext x57 Z5.hIs,bt.ext H5 hwD x57 Z5.R (fun q=>q.elim (fun q=>hIe (.inl q)) fun q=>hDI q.symm) Z5.hI,hacc7,Nat.lt_of_lt_of_le Z5.hIs x57.size⟩
theorem oF (S:Snd Ok r n) (hP:Ok C) (hR:Rm C A n) {elt:Expr} {G:List Comprehension} {sc:Scope} {pos:Pos} {nm:Scope} {gs:List Comprehension} {d:Nat} {g:Comprehension} (hA:∀ g ∈ G,notSet g.iter = true/\g.is_async = 0) (hnm:∀ y,nm.names.lookup y ≠ some .cell) (hD:¬ aO env D) (hIe:¬ aO env I) (hDI:D ≠ I)
  (hG1:G.drop d = gs) (ih:gJ r C A env elt G sc pos D nm gs d) (hsc:c.sc = nm) (Z:bH C c env D I lst m k src acc μ σ s) {u:Value} (hu:VR C.ghost μ s.heap u v) {a1:Ctx × List AV} (T:gF r elt g v c acc σ a1 τ gs) {Q:Shared->Prop}
  (hQ:∀ μ7 s7,Ext C (fun y=>y = env.locals\/y = D) μ s.heap μ7 s7.heap->a1.1.sc = c.sc->a1.1.fz = c.fz->bH C a1.1 env D I lst m k src a1.2 μ7 τ s7->Q s7) :
  wpAny (model C.prog C.w) A (assign g.target env u) (fun z0 s₃=>wpAny (model C.prog C.w) A (forIn g.ifs true fun c r=>if r = true then do let ok <- isTrue c env (eval c env); pure (ForInStep.yield ok) else pure (ForInStep.yield r)) (fun ok s₄ =>
      if ok = true then (match G[d]? with
       | some g'=>wpAny (model C.prog C.w) A (eval g'.iter env) (fun x s₅=>wpAny (model C.prog C.w) A (foldedSetIterable g'.iter env x) (fun x s₆ =>
         wpAny (model C.prog C.w) A (pyIter x) (fun it' s₇=>wpAny (model C.prog C.w) A (runOwn (.compStart (.ListComp elt G sc pos) d it' (.ref D) env) env) (fun z0 s₈=>Q s₈) E s₇) E s₆) E s₅) E s₄
       | none=>wpAny (model C.prog C.w) A (eval elt env) (fun x s₅=>wpAny (model C.prog C.w) A (call (.builtin "list.append") [.ref D,x]) (fun z0 s₆=>Q s₆) E s₅) E s₄)
      else Q s₄) E s₃) E s:=by
 have hd:G[d]? = gs.head?:=by rw [<- hG1,List.head?_drop]
 rw [hd]
 clear hd
 cases T with
 | skip c2 σ2 h1 h2 h3 =>
  subst h3
  exact fQ S hP hR hnm hD hIe hsc Z hu h1 h2 fun μ4 s4 x4 e3 e4 Z4=>hQ μ4 s4 (x4.mono fun y q=>.inl q) e3 e4 Z4
 | last c2 σ2 σ3 x h1 h2 h4 h5 h3 =>
  subst h3
  exact fQ S hP hR hnm hD hIe hsc Z hu h1 h2 fun μ4 s4 x4 e3 e4 Z4=>mH S hP hR hD hDI Z4 h4 h5 fun μ7 s7 x7 Z7=>hQ μ7 s7 ((x4.mono fun y q=>.inl q).trans (x7.mono fun y q=>.inr q)) e3 e4 Z7
 | deep c2 σ2 σ3 σ4 x h1 h2 h4 h5 =>
  exact fQ S hP hR hnm hD hIe hsc Z hu h1 h2 fun μ4 s4 x4 e3 e4 Z4=>mI S hP hR (hA _ (List.mem_of_mem_drop (hG1 ▸ List.mem_cons_self))).1 hD hIe hDI ih (e3.trans hsc) Z4 h4 h5 fun μ7 s7 x7 e5 e6 Z7=>hQ μ7 s7 ((x4.mono fun y q=>.inl q).trans x7) (e5.trans e3) (e6.trans e4) Z7
end
theorem je (S:Snd Ok r n) (hP:Ok C) (hR:Rm C A n) {elt:Expr} {G:List Comprehension} {sc:Scope} {pos:Pos} {D:Addr} (hA:∀ g ∈ G,notSet g.iter = true/\g.is_async = 0) (hD:¬ aO env D) {nm:Scope} (hnm:∀ y,nm.names.lookup y ≠ some .cell)
  (gs:List Comprehension):∀ d,G.drop d = gs->gJ r C A env elt G sc pos D nm gs d:=by
 induction gs with
 | nil=>intro d hG μ σ s c acc src I lst m xs _ _ _ _ _ _ _ _ _ _ _ a' σ' h; exact nomatch h
 | cons g gs ih =>
  intro d hG μ σ s c acc src I lst m xs hsc H V R hI hacc hDI hIe i1 i2 i3 a' σ' hcl RR hok
  have hg:G[d]? = some g:=by
   have:=congrArg List.head? hG
   rw [List.head?_drop] at this; exact this
  have hG1:G.drop (d + 1) = gs:=by
   have:=congrArg List.tail hG
   rw [List.tail_drop] at this; exact this
  refine jc hg (hA g (List.mem_of_getElem? hg)).2 (fun Q E q=>nO hI q) ?_
  obtain ⟨xs',b',j1,j2,j3,hw⟩:=fb hcl
  rw [i1] at j1; injection j1 with j1; subst j1
  rw [i2] at j2; injection j2 with j2; subst j2
  rw [i3] at hw
  have hIs:I < s.heap.objs.size:=by obtain ⟨_,_,_,h1,_⟩:=hI.rec; exact Heap.lt_size h1
  refine codeAny_loop rfl (fun k s'=>∃ μ' σ1 c1 acc1,k ≤ m/\Ext C (Wcl env D I) μ s.heap μ' s'.heap/\bH C c1 env D I lst m (m - k) src acc1 μ' σ1 s'/\c1.sc = c.sc/\c1.fz = c.fz/\walk src lst m (turnC r elt g gs) k (c1,acc1) σ1 = .ok (.inl a') σ') ?_ m
   ⟨μ,σ,c,acc,Nat.le_refl _,Ext.refl,⟨H,V,R,by rw [Nat.sub_self]; exact hI,hacc,hIs⟩,rfl,rfl,hw⟩
  clear hcl hw H V R hI hacc hIs i1 i2 i3 j3
  rintro k s1 ⟨μ1,σ1,c1,acc1,hk,x1,Z,e1,e2,hw⟩
  refine wpAny_noted (kT hg (hA g (List.mem_of_getElem? hg)).2 (fun g' e=>(hA g' (List.mem_of_getElem? e)).2) ?_)
  obtain ⟨ys,k1,k2,k3,k0,k4⟩:=ow hw
  have hwI:bX (fun y=>y = I) s1.heap:=fun y o q e=>by subst q; exact Z.hI.wild o e
  have nI1:¬ (env.locals = I):=fun q=>hIe (.inl q.symm)
  have nI2:∀ y ad,env.cells.lookup y = some ad->¬ (ad = I):=fun y ad hy q=>hIe (.inr ⟨y,by rw [hy,q]⟩)
  induction k using Nat.casesAuxOn with
  | zero =>
   refine kJ hR.handled Z.H Z.R (by have:=Z.hI; rw [Nat.sub_zero] at this; exact this) k1 k2 k3 fun h' tk x2 H2=>?_
   exact k0 (fun a σ=>HR C μ1 σ { s1 with heap:=h',toks:=tk }->ax C a.1 env μ1 h'->a.1.sc = c.sc->a.1.fz = c.fz->dF C μ1 h' D a.2->RR (.ok .next) { s1 with heap:=h',toks:=tk }) rfl (hok μ1 _ (x1.trans (x2.mono fun y q=>.inr (.inr q)))) H2 (Z.V.ext Z.H hwI x2 nI1 nI2) e1 e2 (Z.hacc.ext Z.H hwI x2 (fun q=>hDI q))
  | succ k =>
   obtain ⟨v,a1,σ9,k5,k6,kw⟩:=k4 k rfl
   refine ip Z.H Z.R Z.hI k1 k2 k3 k5 fun h' tk u x2 H2 hI2 hu=>?_
   rw [show m - (k + 1) + 1 = m - k from by omega] at hI2
   refine letGoTuple (s:={ s1 with heap:=h',toks:=tk }) hI2 hu ?_
   refine oF S hP hR hA hnm hD hIe hDI hG1 (ih _ hG1) (e1.trans hsc) (s:={ s1 with heap:=h',toks:=tk }) ⟨H2,Z.V.ext Z.H hwI x2 nI1 nI2,Z.R,hI2,Z.hacc.ext Z.H hwI x2 (fun q=>hDI q),Nat.lt_of_lt_of_le Z.hIs x2.size⟩ hu (qF k6) fun μ7 s7 x7 q1 q2 Z7=>?_
   exact ⟨rfl,k,Nat.lt_succ_self k,μ7,σ9,a1.1,a1.2,Nat.le_of_succ_le hk,(x1.trans (x2.mono fun y q=>.inr (.inr q))).trans (x7.mono fun y q=>q.elim .inl fun q=>.inr (.inl q)),Z7,q1.trans e1,q2.trans e2,kw⟩
end
theorem dR {env:Env}:∀ (names:List (Str × NameKind)) (acc:List (Str × Addr)),(∀ p ∈ names,p.2 = .free->∃ ad,env.cells.lookup p.1 = some ad)->(∀ x ad,acc.lookup x = some ad->env.cells.lookup x = some ad) ->
  ∃ cl,(forIn names acc fun x cs=>match x with | (name,kind)=>if (kind == NameKind.free) = true then do let a <- cellOf env name; pure (ForInStep.yield ((name,a) :: cs)) else pure (ForInStep.yield cs):Sem (List (Str × Addr))) = pure cl /\
   (∀ x ad,cl.lookup x = some ad->env.cells.lookup x = some ad)/\(∀ x ad,acc.lookup x = some ad->∃ ad',cl.lookup x = some ad')/\∀ p ∈ names,p.2 = .free->∃ ad,cl.lookup p.1 = some ad
 | [],acc,_,h=>⟨acc,rfl,h,fun x ad e=>⟨ad,e⟩,fun p hp=>(nomatch hp)⟩
 | (n,k) :: r,acc,hf,h=>by
  rw [List.forIn_cons]
  by_cases hk:k = .free
  .subst hk
   obtain ⟨ad,had⟩:=hf (n,.free) (.head _) rfl
   have hc:cellOf env n = pure ad:=by unfold cellOf; rw [had]
   simp only [beq_self_eq_true,if_true,hc,pure_bind]
   have hacc:∀ x a,((n,ad) :: acc).lookup x = some a->env.cells.lookup x = some a:=fun x a e=>by
    rw [List.lookup_cons] at e
    by_cases hx:x = n
    .subst hx; simp only [beq_self_eq_true] at e; injection e with e; subst e; exact had
    .rw [beq_eq_false_iff_ne.mpr hx] at e; exact h x a e
   obtain ⟨cl,h1,h2,h3,h4⟩:=dR r ((n,ad) :: acc) (fun p hp=>hf p (.tail _ hp)) hacc
   refine ⟨cl,h1,h2,fun x a e=>?_,fun p hp hpf=>?_⟩
   .by_cases hx:x = n
    .subst hx; exact h3 x ad (by simp)
    .exact h3 x a (by rw [List.lookup_cons,beq_eq_false_iff_ne.mpr hx]; exact e)
   .rcases List.mem_cons.mp hp with rfl | hp
    .exact h3 n ad (by simp)
    .exact h4 p hp hpf
  .have hb:(k == NameKind.free) = false:=beq_eq_false_iff_ne.mpr hk
   simp only [hb,Bool.false_eq_true,if_false,pure_bind]
   obtain ⟨cl,h1,h2,h3,h4⟩:=dR r acc (fun p hp=>hf p (.tail _ hp)) h
   refine ⟨cl,h1,h2,h3,fun p hp hpf=>?_⟩
   rcases List.mem_cons.mp hp with rfl | hp
   .exact absurd hpf hk
   .exact h4 p hp hpf
theorem dQ {env:Env} {scope:Scope} (hf:∀ p ∈ scope.names,p.2 = .free->∃ ad,env.cells.lookup p.1 = some ad) :
  ∃ cl,closureFor scope env = pure cl/\(∀ x ad,cl.lookup x = some ad->env.cells.lookup x = some ad)/\∀ p ∈ scope.names,p.2 = .free->∃ ad,cl.lookup p.1 = some ad:=by
 obtain ⟨cl,h1,h2,_,h4⟩:=dR (env:=env) scope.names [] hf (fun x ad e=>by simp at e)
 refine ⟨cl,?_,h2,h4⟩
 unfold closureFor
 have e:(forIn scope.names [] fun x cs=>match x with | (name,kind)=>if (kind == NameKind.free) = true then do let a <- cellOf env name; pure (ForInStep.yield ((name,a) :: cs)) else pure (ForInStep.yield cs):Sem (List (Str × Addr))) = pure cl:=h1
 exact (congrArg (fun t:Sem (List (Str × Addr))=>t >>= fun cs=>pure cs) e)
theorem cY {env:Env} {x:Str}:∀ {names:List (Str × NameKind)},
  (names.map fun (n,k)=>if (k == NameKind.free && env.scope.kind == .function && env.kindOf n == some .cell) then (n,NameKind.cell) else (n,k)).lookup x =
   (names.lookup x).map fun k=>if (k == NameKind.free && env.scope.kind == .function && env.kindOf x == some .cell) then NameKind.cell else k
 | []=>rfl
 | (n,k) :: r=>by
  have ih:=@cY env x r
  rewrite [List.map_cons,List.lookup_cons]
  induction hx:x == n using Bool.casesOn with
  | true =>
   have:x = n:=eq_of_beq hx
   subst this
   by_cases hc:(k == NameKind.free && env.scope.kind == .function && env.kindOf x == some .cell) = true
   .simp only [if_pos hc,List.lookup_cons,beq_self_eq_true,Option.map_some]
   .simp only [if_neg hc,List.lookup_cons,beq_self_eq_true,Option.map_some]
  | false =>
   rewrite [List.lookup_cons,hx]
   rw [<- ih]
   by_cases hc:(k == NameKind.free && env.scope.kind == .function && env.kindOf n == some .cell) = true
   .simp only [if_pos hc,hx]
   .simp only [if_neg hc,hx]
section
variable {r:Rc} {n:Nat} {C:Cf} {A:Around} {X:Value->Shared->Prop} {μ:Mu} {σ:ac} {s:Shared} {c:Ctx} {env:Env}
theorem bF {sc:Scope} (h:compOk sc c = true):sc.kind = .function/\(∀ p ∈ sc.names,p.2 ≠ .cell)/\(∀ p ∈ sc.names,p.2 = .local->sc.names.lookup p.1 = some .local)/\∀ p ∈ sc.names,p.2 = .free->c.kind p.1 = some .cell\/c.kind p.1 = some .free:=by
 unfold compOk at h
 rw [Bool.and_eq_true,List.all_eq_true] at h
 refine ⟨by simpa using h.1,fun p hp=>?_,fun p hp hl=>?_,fun p hp hl=>?_⟩
 .have:=h.2 p hp
  simp only [Bool.and_eq_true,bne_iff_ne] at this
  exact this.1.1
 .have:=h.2 p hp
  simp only [Bool.and_eq_true,bne_iff_ne,Bool.or_eq_true,beq_iff_eq] at this
  exact this.1.2.resolve_left (fun q=>q hl)
 .have:=h.2 p hp
  simp only [Bool.and_eq_true,bne_iff_ne,Bool.or_eq_true,beq_iff_eq] at this
  exact this.2.resolve_left (fun q=>q hl)
theorem aR {α β:Type} [BEq α] [LawfulBEq α] {x:α} {k:β}:∀ {l:List (α × β)},l.lookup x = some k->(x,k) ∈ l
 | [],h=>by simp at h
 | (a,b) :: r,h=>by
  rw [List.lookup_cons] at h
  induction hx:x == a using Bool.casesOn with
  | true=>rw [hx] at h; injection h with h; subst h; rw [eq_of_beq hx]; exact .head _
  | false=>rw [hx] at h; exact .tail _ (aR h)
theorem qd (V:ax C c env μ s.heap) {sc:Scope} (hok:compOk sc c = true) {cl:List (Str × Addr)} (h1:∀ x ad,cl.lookup x = some ad->env.cells.lookup x = some ad) (h2:∀ p ∈ sc.names,p.2 = .free->∃ ad,cl.lookup p.1 = some ad)
  {L:Addr} {m:Str->Option Value} (hn:s.heap.Ns L m) (hoff:∀ (i:Nat) (p:Addr × Addr),μ[i]? = some p->p.1 ≠ L/\p.2 ≠ L) (hb:C.base.get? L = none) (htb:L ∉ C.tb) (hfl:L ∉ C.h0fl) :
  ax C (inner sc c) (compEnvC sc cl L env) μ s.heap:=by
 obtain ⟨k1,k2,k3,k4⟩:=bF hok
 have hk:∀ x,(compEnvC sc cl L env).kindOf x = (sc.names.lookup x).map fun k=>if (k == NameKind.free && env.scope.kind == .function && env.kindOf x == some .cell) then NameKind.cell else k:=fun x=>cY
 refine ⟨k1,V.glob,V.blt,fun x hx=>?_,fun x hx=>?_,fun x hx=>?_,fun x hx=>?_,⟨m,hn,fun x a e=>(nomatch e)⟩,⟨hoff,hb,htb,hfl⟩,fun x hx=>?_,fun x y ad e1 e2=>V.apart x y ad (h1 _ _ e1) (h1 _ _ e2),
  fun x ad e=>V.allc x ad (h1 _ _ e),V.frame,V.fz,fun q=>nomatch q⟩
 .rw [hk,show sc.names.lookup x = some .local from hx]; rfl
 .exact absurd rfl (k2 _ (aR (show sc.names.lookup x = some .cell from hx)))
 .rw [hk,show sc.names.lookup x = some .free from hx]
  simp only [Option.map_some]
  split
  .exact .inr rfl
  .exact .inl rfl
 .rw [hk,show sc.names.lookup x = some .globalImplicit from hx]; rfl
 .have hmem:(inner sc c).kind x = some .free:=hx.resolve_left fun q=>absurd rfl (k2 _ (aR (show sc.names.lookup x = some .cell from q)))
  have hm:=aR (show sc.names.lookup x = some .free from hmem)
  obtain ⟨ad,had⟩:=h2 _ hm rfl
  obtain ⟨ad',g1,g2,g3⟩:=V.cells x (k4 _ hm rfl)
  have:=h1 _ _ had
  rw [g1] at this; injection this with this; subst this
  exact ⟨ad',had,g2,fun q=>by
   have:sc.names.lookup x = some .cell:=q
   rw [show sc.names.lookup x = some .free from hmem] at this; exact nomatch this⟩
theorem iz (S:Snd Ok r n) (hP:Ok C) (hR:Rm C A n) (H:HR C μ σ s) (V:ax C c env μ s.heap) {elt:Expr} {g:Comprehension} {gs:List Comprehension} {sc:Scope} {pos:Pos}
  (hA:∀ g' ∈ g :: gs,notSet g'.iter = true/\g'.is_async = 0) (hok:compOk sc c = true) {cl:List (Str × Addr)} (h1:∀ x ad,cl.lookup x = some ad->env.cells.lookup x = some ad) (h2:∀ p ∈ sc.names,p.2 = .free->∃ ad,cl.lookup p.1 = some ad)
  {src:AV} {σ1 σ2:ac} {a':Ctx × List AV} (hsrc:r.E g.iter c σ = .ok src σ1) (hcl:clause r elt (g :: gs) src (inner sc c) [] σ1 = .ok a' σ2)
  {E:Value->Shared->Prop} {RR:Value->Addr->Result->Shared->Prop}
  (hRR:∀ D L μ' s',aW C μ s.heap μ' s'.heap->HR C μ' (σ2 ++ [.list a'.2]) s'->VR C.ghost μ' s'.heap (.ref D) (.obj σ2.length)->ItR C μ' L->s.heap.objs.size ≤ L->(∃ m,s'.heap.Ns L m)->RR (.ref D) L (.ok .next) s') :
  wpAny (model C.prog C.w) A (eval g.iter env) (fun x s₁=>wpAny (model C.prog C.w) A (pyIter x) (fun it s₂=>wpAny (model C.prog C.w) A (newList []) (fun acc s₃ =>
   wpAny (model C.prog C.w) A (newFunctionEnv sc env.globals cl [] env.qual none .none (some env)) (fun cenv s₄ =>
    codeAny (model C.prog C.w) A (.compStart (.ListComp elt (g :: gs) sc pos) 0 it acc { cenv with scope:=relabel sc env }) (RR acc cenv.locals) s₄) E s₃) E s₂) E s₁) E s:=by
 obtain ⟨k1,k2,k3,k4⟩:=bF hok
 have he:=S.E C A μ σ s c env g.iter hP hR H V
 unfold af at he
 rw [hsrc] at he
 refine he _ _ fun μ1 v s1 x1 H1 hv=>?_
 obtain ⟨xs,b,j1,j2,j3,_⟩:=fb hcl
 obtain ⟨oI,hI,hpi⟩:=eS (A:=A) hP.glo H1 hv j1 j2 j3
 refine hpi _ _ ?_
 have V1:=V.ext0 H x1
 obtain ⟨x2,H2⟩:=H1.push oI s1.toks
 have hRI:=bG H1
 have V2:=V1.ext0 H1 x2
 refine wpAny_newList ?_ (Nat.zero_le _)
 obtain ⟨x3,H3⟩:=H2.push { cls:=.type "list", data:=.seq #[] } s1.toks
 have hRD:=bG H2
 have hI3:=bt.ext H2 wild0 x3 hRI (fun q=>q) hI
 have V3:=V2.ext0 H2 x3
 refine wpAny_newFunctionEnv (fun p hp=>k2 p hp) (by intro y hy; simp at hy) (fun h4 hns hsb=>?_) k1
 have hRL:=bG H3
 obtain ⟨x4,H4⟩:=H3.push { cls:=.type "dict", data:=.dict #[] } s1.toks
 have hsz2:(s1.heap.push oI).objs.size = s1.heap.objs.size + 1:=Heap.size_push ..
 have hsz3:((s1.heap.push oI).push { cls:=.type "list", data:=.seq #[] }).objs.size = s1.heap.objs.size + 2:=by rw [Heap.size_push,hsz2]
 have hwL:∀ o,(((s1.heap.push oI).push { cls:=.type "list", data:=.seq #[] }).push { cls:=.type "dict", data:=.dict #[] }).get? ((s1.heap.push oI).push { cls:=.type "list", data:=.seq #[] }).objs.size = some o->¬ ff o:=by
  intro o e q
  rw [Heap.get?_push_size _ rfl] at e; injection e with e; subst e
  exact q.1.1 _ _ rfl
 obtain ⟨x5,H5⟩:=H4.other (W:=fun y=>y = ((s1.heap.push oI).push { cls:=.type "list", data:=.seq #[] }).objs.size) (s1.toks + ([]:List (Str × Value)).length) hsb rfl hwL hRL.new hRL.off (fun q=>absurd q hRL.fl) hRL.tb (fun q=>hRL.fl (H4.h0f _ q))
 have hwL':bX (fun y=>y = ((s1.heap.push oI).push { cls:=.type "list", data:=.seq #[] }).objs.size) (((s1.heap.push oI).push { cls:=.type "list", data:=.seq #[] }).push { cls:=.type "dict", data:=.dict #[] }):=fun y o q e=>by subst q; exact hwL o e
 have hlocne:env.locals ≠ ((s1.heap.push oI).push { cls:=.type "list", data:=.seq #[] }).objs.size:=by
  obtain ⟨_,hn,_⟩:=V3.locs
  exact Nat.ne_of_lt hn.lt
 have hcelne:∀ y ad,env.cells.lookup y = some ad->¬ (ad = ((s1.heap.push oI).push { cls:=.type "list", data:=.seq #[] }).objs.size):=fun y ad hy q=>by
  obtain ⟨_,o,e,_⟩:=V3.allc y ad hy
  exact Nat.lt_irrefl _ (q ▸ Heap.lt_size e)
 have V4:=V3.ext0 H3 x4
 have V5:ax C c env μ1 h4:=V4.ext H4 hwL' x5 hlocne hcelne
 have hIe:s1.heap.objs.size ≠ ((s1.heap.push oI).push { cls:=.type "list", data:=.seq #[] }).objs.size:=by rw [hsz3]; exact Nat.ne_of_lt (by omega)
 have hDe:(s1.heap.push oI).objs.size ≠ ((s1.heap.push oI).push { cls:=.type "list", data:=.seq #[] }).objs.size:=by rw [hsz3,hsz2]; exact Nat.ne_of_lt (by omega)
 have hI4:=bt.ext H3 wild0 x4 hRI (fun q=>q) hI3
 have hI5:=bt.ext H4 hwL' x5 hRI hIe hI4
 have hD3:dF C μ1 ((s1.heap.push oI).push { cls:=.type "list", data:=.seq #[] }) (s1.heap.push oI).objs.size []:=⟨hRD,[],0,Heap.get?_push_size _ rfl,.nil⟩
 have hD4:=hD3.ext H3 wild0 x4 (fun q=>q)
 have hD5:=hD4.ext H4 hwL' x5 hDe
 have Vc:ax C (inner sc c) (compEnvC sc cl ((s1.heap.push oI).push { cls:=.type "list", data:=.seq #[] }).objs.size env) μ1 h4 :=
  qd (s:={ s1 with heap:=h4,toks:=s1.toks + ([]:List (Str × Value)).length }) V5 hok h1 h2 hns hRL.off hRL.new hRL.tb (fun q=>hRL.fl (H4.h0f _ q))
 have hDw:¬ aO (compEnvC sc cl ((s1.heap.push oI).push { cls:=.type "list", data:=.seq #[] }).objs.size env) (s1.heap.push oI).objs.size:=by
  rintro (q | ⟨y,hy⟩)
  .exact hDe q
  .obtain ⟨_,o,e,e'⟩:=V3.allc y _ (h1 _ _ hy)
   rw [Heap.get?_push_size _ rfl] at e; injection e with e; subst e; exact nomatch e'
 have hIw:¬ aO (compEnvC sc cl ((s1.heap.push oI).push { cls:=.type "list", data:=.seq #[] }).objs.size env) s1.heap.objs.size:=by
  rintro (q | ⟨y,hy⟩)
  .exact hIe q
  .obtain ⟨_,o,e,_⟩:=V1.allc y _ (h1 _ _ hy)
   exact Nat.lt_irrefl _ (Heap.lt_size e)
 have hDI:(s1.heap.push oI).objs.size ≠ s1.heap.objs.size:=by rw [hsz2]; exact Nat.succ_ne_self _
 have xs5:Ext C (fun b=>False\/s.heap.objs.size ≤ b) μ s.heap μ1 h4:=((x1.any.trans x2.any).trans (x3.any.trans x4.any)).trans (x5.mono fun y q=>.inr (by subst q; rw [hsz3]; have:=x1.size; omega))
 refine je S hP hR hA hDw (nm:=sc) (fun y q=>k2 _ (aR q) rfl) (g :: gs) 0 rfl μ1 σ1 { s1 with heap:=h4,toks:=s1.toks + ([]:List (Str × Value)).length } (inner sc c) [] src _ b xs.length xs rfl H5 Vc hRI hI5 hD5 hDI hIw j1 j2 rfl a' σ2 hcl _ fun μ6 s6 x6 H6 V6 z0 z0 hD6=>?_
 have hs5:s1.heap.objs.size + 3 ≤ h4.objs.size:=by
  have:=hsb.1
  rw [Heap.size_push,hsz3] at this
  omega
 have xs6:aW C μ s.heap μ6 s6.heap:=Ext.drop (xs5.trans (x6.mono fun y q=>by
  rcases q with q | q | q
  .exact .inr (by subst q; show s.heap.objs.size ≤ ((s1.heap.push oI).push _).objs.size; rw [hsz3]; have:=x1.size; omega)
  .exact .inr (by subst q; rw [hsz2]; have:=x1.size; omega)
  .exact .inr (by subst q; exact x1.size)))
 obtain ⟨vs,m,g1,g2⟩:=hD6.obj
 have hDs:s.heap.objs.size ≤ (s1.heap.push oI).objs.size:=by rw [hsz2]; have:=x1.size; omega
 have hLoff:∀ (i:Nat) (q:Addr × Addr),μ6[i]? = some q->q.1 ≠ ((s1.heap.push oI).push { cls:=.type "list", data:=.seq #[] }).objs.size/\q.2 ≠ ((s1.heap.push oI).push { cls:=.type "list", data:=.seq #[] }).objs.size:=V6.off.1
 obtain ⟨a1,a2⟩:=HR.adopt H6 (W:=W0) (p:=((s1.heap.push oI).objs.size,(s1.heap.push oI).objs.size)) (o:=.list a'.2) (h0:=s.heap) ⟨hDs,hDs⟩ xs6.size ⟨hD6.loc.new,hD6.loc.new⟩
  (fun i q e=>⟨(hD6.loc.off i q e).1,(hD6.loc.off i q e).1,(hD6.loc.off i q e).2,(hD6.loc.off i q e).2⟩) ⟨hD6.loc.fl,hD6.loc.fl⟩ (fun z0 z0 mono=>⟨rfl,vs,m,g1,mono _ _ g2⟩)
 obtain ⟨mL,hnL,_⟩:=V6.locs
 refine hRR _ _ _ s6 (a1 xs6) a2 (.obj (p:=((s1.heap.push oI).objs.size,(s1.heap.push oI).objs.size)) (bT H6.len _)) ⟨fun i q e=>?_,hRL.new,hRL.tb,hRL.fl⟩ (by show s.heap.objs.size ≤ ((s1.heap.push oI).push _).objs.size; rw [hsz3]; have:=x1.size; omega) ⟨mL,hnL⟩
 by_cases hi:i < μ6.length
 .rw [List.getElem?_append_left hi] at e
  exact hLoff i q e
 .have hi2:i < μ6.length + 1:=by
   have:=(List.getElem?_eq_some_iff.mp e).1
   simpa using this
  obtain rfl:i = μ6.length:=by omega
  simp at e
  subst e
  have hDe':s1.heap.objs.size + 1 ≠ ((s1.heap.push oI).push { cls:=.type "list", data:=.seq #[] }).objs.size:=by rw [<- hsz2]; exact hDe
  exact ⟨hDe',hDe'⟩
theorem dB {g:Comprehension} {gs:List Comprehension} (h:g.is_async = 0):firstAsync (g :: gs) = false:=by
 obtain ⟨t,i,fs,a⟩:=g
 have h:a = 0:=h
 subst h; rfl
theorem bN {g:Comprehension} {gs:List Comprehension}:firstIter (g :: gs) env = eval g.iter env:=by
 obtain ⟨t,i,fs,a⟩:=g; rfl
theorem iy (H:HR C μ σ s) {L:Addr} (R:ItR C μ L) (hn:∃ m,s.heap.Ns L m) {h0:Heap} {μ0:Mu} {W:Addr->Prop} (hL:h0.objs.size ≤ L) (x:Ext C W μ0 h0 μ s.heap) {h':Heap} (hs:Heap.SameBut L s.heap h') :
  Ext C W μ0 h0 μ h'/\Ext C (fun y=>y = L) μ s.heap μ h'/\HR C μ σ { s with heap:=h' }/\bX (fun y=>y = L) s.heap:=by
 obtain ⟨m,o',es,ep,e1,e2,_⟩:=hn
 have hw:∀ o,s.heap.get? L = some o->¬ ff o:=fun o e q=>by
  rw [e1] at e; injection e with e; subst e; exact q.1.1 _ _ e2
 obtain ⟨x1,H1⟩:=H.other (W:=fun y=>y = L) s.toks hs rfl hw R.new R.off (fun q=>absurd q R.fl) R.tb (fun q=>R.fl (H.h0f _ q))
 exact ⟨Ext.drop ((x.mono fun z0 q=>.inl q).trans (x1.mono fun y q=>.inr (by rw [q]; exact hL))),x1,H1,fun y o q e=>by subst q; exact hw o e⟩
theorem jf {elt:Expr} {gens:List Comprehension} {src:AV} {c:Ctx} {acc:List AV} {σ:ac}:noExc (clause r elt gens src c acc) σ = (match clause r elt gens src c acc σ with | .ok a σ'=>.ok a σ' | _=>.stuck):=by
 unfold noExc
 cases clause r elt gens src c acc σ <;> rfl
theorem eo {elt:Expr} {gens:List Comprehension} {sc:Scope} {pos:Pos} {O:Out AV} (h:evE r (.ListComp elt gens sc pos) c σ = O) (hO:O ≠ .stuck) :
  ∃ g gs,gens = g :: gs/\(∀ g' ∈ g :: gs,notSet g'.iter = true/\g'.is_async = 0)/\compOk sc c = true /\
   ((r.E g.iter c σ = .exc/\O = .exc)\/∃ src σ1 a' σ2,r.E g.iter c σ = .ok src σ1/\clause r elt (g :: gs) src (inner sc c) [] σ1 = .ok a' σ2/\fits a'.2.length = true/\O = .ok (.obj σ2.length) (σ2 ++ [.list a'.2])):=by
 induction gens using List.casesOn with
 | nil=>exact absurd h.symm hO
 | cons g gs =>
  refine ⟨g,gs,rfl,?_⟩
  have e:evE r (.ListComp elt (g :: gs) sc pos) c = (do
   MM.guard (((g :: gs).all fun g=>notSet g.iter && g.is_async == 0) && compOk sc c)
   let src <- r.E g.iter c
   let xs <- noExc (clause r elt (g :: gs) src (inner sc c) [])
   mkL xs.2):=rfl
  rw [e,ai] at h
  unfold MM.guard at h
  by_cases hg:(((g :: gs).all fun g=>notSet g.iter && g.is_async == 0) && compOk sc c) = true
  .rw [if_pos hg] at h
   dsimp only at h
   rw [Bool.and_eq_true,List.all_eq_true] at hg
   refine ⟨fun g' hg'=>by have:=hg.1 g' hg'; simpa using this,hg.2,?_⟩
   rw [ai] at h
   induction hs:r.E g.iter c σ using Out.casesOn with
   | stuck=>rw [hs] at h; exact absurd h.symm hO
   | exc=>rw [hs] at h; exact .inl ⟨rfl,h.symm⟩
   | ok src σ1 =>
    rw [hs] at h
    dsimp only at h
    rw [ai,jf] at h
    induction hc:clause r elt (g :: gs) src (inner sc c) [] σ1 using Out.casesOn with
    | stuck=>rw [hc] at h; exact absurd h.symm hO
    | exc=>rw [hc] at h; exact absurd h.symm hO
    | ok a' σ2 =>
     rw [hc] at h
     dsimp only at h
     unfold mkL at h
     rw [ai] at h
     unfold MM.guard at h
     by_cases hf:fits a'.2.length = true
     .rw [if_pos hf] at h
      exact .inr ⟨src,σ1,a',σ2,rfl,hc,hf,h.symm⟩
     .rw [if_neg hf] at h; exact absurd h.symm hO
  .rw [if_neg hg] at h; exact absurd h.symm hO
theorem ce {e:Expr} (h:notSet e = true) (env:Env) (x:Value):foldedSetIterable e env x = pure x:=by
 cases e <;> first | rfl | exact absurd h Bool.false_ne_true
theorem iM (S:Snd Ok r n) (hP:Ok C) (hR:Rm C A n) (H:HR C μ σ s) (V:ax C c env μ s.heap) {elt:Expr} {gens:List Comprehension} {sc:Scope} {pos:Pos} :
  af C A W0 (XP C) μ σ s (RV C) (eval (.ListComp elt gens sc pos) env) (evE r (.ListComp elt gens sc pos) c):=by
 unfold af
 induction hO:evE r (.ListComp elt gens sc pos) c σ using Out.casesOn with
 | stuck=>trivial
 | exc =>
  obtain ⟨g,gs,rfl,hA,hok,h⟩:=eo hO (fun q=>nomatch q)
  rcases h with ⟨h1,_⟩ | ⟨_,_,_,_,_,_,_,h⟩
  .have he:=S.E C A μ σ s c env g.iter hP hR H V
   unfold af at he
   rw [h1] at he
   intro Q E hE
   rw [PySem.eval_ListComp]
   unfold comprehension
   rw [bN]
   exact wpAny_bind (he _ _ hE)
  .exact nomatch h
 | ok v σ' =>
  obtain ⟨g,gs,rfl,hA,hok,h⟩:=eo hO (fun q=>nomatch q)
  rcases h with ⟨_,h⟩ | ⟨src,σ1,a',σ2,h1,h2,h3,h⟩
  .exact nomatch h
  .injection h with h4 h5
   subst h4 h5
   intro Q E hQ
   rw [PySem.eval_ListComp,dB (hA g (.head _)).2,bN]
   obtain ⟨k1,k2,k3,k4⟩:=bF hok
   obtain ⟨cl,c1,c2,c3⟩:=dQ (env:=env) (scope:=sc) fun p hp hf=>by
    obtain ⟨ad,had,_⟩:=V.cells p.1 (k4 p hp hf)
    exact ⟨ad,had⟩
   refine wpAny_comprehension_free (use:=none) rfl (ce (hA g (.head _)).1 env) c1 k1 k3 ?_
   refine iz S hP hR H V hA hok c2 c3 h1 h2 (RR:=fun acc L=>compPost (model C.prog C.w) A E none Q acc L) fun D L μ' s' x H' hv hL hsz hn=>?_
   obtain ⟨m,hm⟩:=hn
   refine ⟨m,hm,fun h' hs=>?_⟩
   obtain ⟨y1,y2,y3,y4⟩:=iy H' hL ⟨m,hm⟩ hsz x hs
   exact hQ μ' _ _ y1 y3 (VR.ext H' y4 y2 hv)
end
theorem bc {α β γ:Type} (m:MM α) (f:α->MM β) (g:β->MM γ):((m >>= f) >>= g) = (m >>= fun a=>f a >>= g):=by
 funext σ
 show MM.bind (MM.bind m f) g σ = MM.bind m (fun a=>MM.bind (f a) g) σ
 unfold MM.bind
 cases m σ <;> rfl
section
variable {r:Rc} {n:Nat} {C:Cf} {A:Around} {X:Value->Shared->Prop} {μ:Mu} {σ:ac} {s:Shared} {c:Ctx} {env:Env}
theorem eJ (S:Snd Ok r n) (hP:Ok C) (hR:Rm C A n) (H:HR C μ σ s) (V:ax C c env μ s.heap) {elt:Expr} {gens:List Comprehension} {sc:Scope} {pos px:Pos} {x:Str} :
  af C A (aO env) (XP C) μ σ s (fun μ' s' z0 c'=>ax C c' env μ' s'.heap/\c'.sc = c.sc/\c'.fz = c.fz) (evalThenUse (.ListComp elt gens sc pos) env (assign (.Name x px) env)) (do let v <- evE r (.ListComp elt gens sc pos) c; setName x v c):=by
 unfold af
 rw [ai]
 induction hO:evE r (.ListComp elt gens sc pos) c σ using Out.casesOn with
 | stuck=>trivial
 | exc =>
  obtain ⟨g,gs,rfl,hA,hok,h⟩:=eo hO (fun q=>nomatch q)
  rcases h with ⟨h1,_⟩ | ⟨_,_,_,_,_,_,_,h⟩
  .have he:=S.E C A μ σ s c env g.iter hP hR H V
   unfold af at he
   rw [h1] at he
   intro Q E hE
   refine wpAny_bind ?_
   unfold comprehension
   rw [bN]
   exact wpAny_bind (he _ _ hE)
  .exact nomatch h
 | ok v σ' =>
  dsimp only
  obtain ⟨g,gs,rfl,hA,hok,h⟩:=eo hO (fun q=>nomatch q)
  rcases h with ⟨_,h⟩ | ⟨src,σ1,a',σ2,h1,h2,h3,h⟩
  .exact nomatch h
  .injection h with h4 h5
   subst h4 h5
   induction hs:setName x (.obj σ2.length) c (σ2 ++ [.list a'.2]) using Out.casesOn with
   | stuck=>trivial
   | exc=>exact absurd hs (aK _ _ _ _)
   | ok c' σ3 =>
    intro Q E hQ
    show wpAny _ _ (do let _ <- comprehension _ _ _ _ _ (firstAsync (g :: gs)) (firstIter (g :: gs) env) (some (assign (.Name x px) env)); pure ()) _ _ _
    rw [dB (hA g (.head _)).2,bN]
    obtain ⟨k1,k2,k3,k4⟩:=bF hok
    obtain ⟨cl,c1,c2,c3⟩:=dQ (env:=env) (scope:=sc) fun p hp hf=>by
     obtain ⟨ad,had,_⟩:=V.cells p.1 (k4 p hp hf)
     exact ⟨ad,had⟩
    refine wpAny_bind (wpAny_comprehension_free (use:=some (assign (.Name x px) env)) (Q:=fun z0 s'=>wpAny (model C.prog C.w) A (pure ()) Q E s') rfl (ce (hA g (.head _)).1 env) c1 k1 k3 ?_)
    refine iz S hP hR H V hA hok c2 c3 h1 h2 (RR:=fun acc L=>compPost (model C.prog C.w) A E (some (assign (.Name x px) env)) _ acc L) fun D L μ' s' y H' hv hL hsz hn=>?_
    obtain ⟨m,hm⟩:=hn
    have V':=V.ext0 H y
    have hb:=bA (A:=A) (X:=XP C) H' V' x hv
    unfold af at hb
    rw [hs] at hb
    show wpAny _ _ (assign (.Name x px) env (.ref D)) _ _ _
    rw [PySem.assign_Name]
    refine wpAny_bind (wpAny_standAt ?_)
    refine hb _ _ fun μ2 _ s2 z H2 ⟨V2,q1,q2⟩=>?_
    have hLl:L ≠ env.locals:=by
     obtain ⟨_,hn'⟩:=V.ns
     exact fun q=>Nat.lt_irrefl _ (Nat.lt_of_lt_of_le hn'.lt (q ▸ hsz))
    have hLw:¬ eB c env L:=by
     rintro (q | ⟨w,_,hw⟩)
     .exact hLl q
     .obtain ⟨_,o,e,_⟩:=V.allc w _ hw
      exact Nat.lt_irrefl _ (Nat.lt_of_lt_of_le (Heap.lt_size e) hsz)
    have hm2:s2.heap.Ns L m:=Ns.ext z hm (bt.notDm H' hL) hLw
    have hL2:=hL.ext z hm.lt
    refine ⟨m,hm2,fun h' hs'=>?_⟩
    obtain ⟨y1,y2,y3,y4⟩:=iy H2 hL2 ⟨m,hm2⟩ hsz ((y.any).trans z) hs'
    refine wpAny_pure (hQ μ2 () _ (y1.mono fun z0 q=>q.wenv) y3 ⟨V2.ext H2 y4 y2 hLl.symm (fun w ad hw q=>?_),q1,q2⟩)
    obtain ⟨_,o,e,_⟩:=V.allc w _ hw
    exact Nat.lt_irrefl _ (Nat.lt_of_lt_of_le (Heap.lt_size e) (q ▸ hsz))
theorem nv (S:Snd Ok r n) (hP:Ok C) (hR:Rm C A n) (H:HR C μ σ s) (V:ax C c env μ s.heap) {f:Expr} {as:List Expr} {ks:List Keyword} {p pos:Pos} :
  af C A (aO env) (XP C) μ σ s (RF C c env) (exec (.Expr (.Call f as ks p) pos) env) (do let _ <- r.E (.Call f as ks p) c; MM.pure (.next c)):=by
 have hi:interactive env = false:=by unfold interactive; rw [V.kind]; rfl
 rw [PySem.exec_Expr env _ pos hi rfl]
 refine av ?_
 refine aM (fun z0 q=>q.elim) (S.E C A μ σ s c env _ hP hR H V) fun μ1 σ1 s1 v a x1 H1 r1=>?_
 exact aA rfl fun Q E hQ=>wpAny_dropValue (hQ μ1 _ s1 Ext.refl H1 ⟨V.ext0 H x1,rfl,rfl⟩)
theorem lI (S:Snd Ok r n) (hP:Ok C) (hR:Rm C A n) (H:HR C μ σ s) (V:ax C c env μ s.heap) {e:Expr} {pos:Pos} :
  af C A (aO env) (XP C) μ σ s (RF C c env) (exec (.Return (some e) pos) env) (do let v <- r.E e c; MM.pure (.ret v)):=by
 rw [PySem.exec_Return_some]
 refine av (aM (fun z0 q=>q.elim) (S.E C A μ σ s c env _ hP hR H V) fun μ1 σ1 s1 v a x1 H1 r1=>aI H1 r1)
theorem sr (S:Snd Ok r n) (hP:Ok C) (hR:Rm C A n) (hfs:∃ outer,C.fs = env :: outer) (H:HR C μ σ s) (V:ax C c env μ s.heap) {t:Expr} {a b:List Stmt} {pos:Pos} :
  af C A (aO env) (XP C) μ σ s (RF C c env) (exec (.If t a b pos) env) (do let v <- r.T t c; if v then evSs r a c else evSs r b c):=by
 rw [PySem.exec_If]
 refine av (aM (fun z0 q=>q.elim) (S.T C A μ σ s c env t hP hR H V) fun μ1 σ1 s1 v x x1 H1 r1=>?_)
 subst r1
 have V1:=V.ext0 H x1
 induction v using Bool.casesOn with
 | true=>exact bS S hP hR hfs a μ1 σ1 s1 c H1 V1
 | false=>exact bS S hP hR hfs b μ1 σ1 s1 c H1 V1
theorem oK {e:Expr} (h:notSD e = true) (t:Option Expr) (line:Nat) (env:Env):(∃ elt gens sc pos,e = .ListComp elt gens sc pos)\/swapsWith e t line env = pure false:=by
 cases e <;> first | exact .inr rfl | exact absurd h Bool.false_ne_true | exact .inl ⟨_,_,_,_,rfl⟩
theorem fW (S:Snd Ok r n) (hP:Ok C) (hR:Rm C A n) (H:HR C μ σ s) (V:ax C c env μ s.heap) {x:Str} {px pos:Pos} {e:Expr} :
  af C A (aO env) (XP C) μ σ s (RF C c env) (exec (.Assign [.Name x px] e pos) env) (do MM.guard (notSD e); let v <- r.E e c; let c' <- setName x v c; MM.pure (.next c')):=by
 refine aj fun hg=>?_
 have plain:swapsWith e (some (.Name x px)) pos.line env = pure false ->
   af C A (aO env) (XP C) μ σ s (RF C c env) (exec (.Assign [.Name x px] e pos) env) (do let v <- r.E e c; let c' <- setName x v c; MM.pure (.next c')):=fun hs=>by
  rw [PySem.exec_Assign_Name env x px e pos hs]
  refine av (aM (fun z0 q=>q.elim) (S.E C A μ σ s c env e hP hR H V) fun μ1 σ1 s1 v a x1 H1 r1=>av ?_)
  refine aM (fun z0 q=>q.wenv) (bA H1 (V.ext0 H x1) x r1) fun μ2 σ2 s2 z0 c' x2 H2 r2=>aI H2 r2
 rcases oK hg (some (.Name x px)) pos.line env with ⟨elt,gens,sc,p,rfl⟩ | hs
 .have hsw:∃ b,swapsWith (.ListComp elt gens sc p) (some (.Name x px)) pos.line env = pure b:=⟨_,rfl⟩
  obtain ⟨b,hb⟩:=hsw
  induction b using Bool.casesOn with
  | false=>exact plain hb
  | true =>
   rw [PySem.exec_Assign_Name_used x px _ pos hb]
   refine av ?_
   have e1:(do let v <- r.E (.ListComp elt gens sc p) c; let c' <- setName x v c; MM.pure (.next c'):MM Fl) = (do let c' <- (do let v <- r.E (.ListComp elt gens sc p) c; setName x v c); MM.pure (.next c')):=by
    funext σ
    show MM.bind _ _ σ = MM.bind (MM.bind _ _) _ σ
    unfold MM.bind
    cases r.E (.ListComp elt gens sc p) c σ <;> rfl
   rw [e1]
   exact aq (S.U C A μ σ s c env elt gens sc p px x hP hR H V) fun μ1 σ1 s1 z0 c' x1 H1 r1=>aI H1 r1
 .exact plain hs
theorem fX (S:Snd Ok r n) (hP:Ok C) (hR:Rm C A n) (H:HR C μ σ s) (V:ax C c env μ s.heap) {o e:Expr} {x:Str} {px pos:Pos} :
  af C A (aO env) (XP C) μ σ s (RF C c env) (exec (.Assign [.Attribute o x px] e pos) env) (do let v <- r.E e c; let y <- r.E o c; setAt c.fz y x v; MM.pure (.next c)):=by
 rw [PyProof.Rows.exec_Assign]
 have e1:swapsWithSole [.Attribute o x px] e pos.line env = pure false:=by
  cases e <;> rfl
 have e2:swappedStores [.Attribute o x px] e env = pure none:=by cases e <;> rfl
 rw [e1,e2]
 refine av ?_
 show af C A (aO env) (XP C) μ σ s (RF C c env) (do let v <- eval e env; assignStores env v none [assign (.Attribute o x px) env]) _
 refine aM (fun z0 q=>q.elim) (S.E C A μ σ s c env e hP hR H V) fun μ1 σ1 s1 v a x1 H1 r1=>?_
 show af C A (aO env) (XP C) μ1 σ1 s1 (RF C c env) (do
  (do
   let ov <- holding [v] (eval o env)
   standAt px.atName
   holding [v,ov] (setAttr ov x v)
   release [v,ov] [])
  pure .next) _
 have V1:=V.ext0 H x1
 have e3:(do let y <- r.E o c; setAt c.fz y x a; MM.pure (.next c):MM Fl) = (do (do let y <- r.E o c; setAt c.fz y x a); MM.pure (.next c)):=by
  funext σ
  show MM.bind _ _ σ = MM.bind (MM.bind _ _) _ σ
  unfold MM.bind
  cases r.E o c σ <;> rfl
 rw [e3]
 refine aM (W₁:=W0) (R:=fun μ' s' z0 z0=>ax C c env μ' s'.heap) (fun z0 q=>q.elim) ?_ fun μ2 σ2 s2 z0 z0 x2 H2 V2=>aI H2 ⟨V2,rfl,rfl⟩
 refine aq (aG (S.E C A μ1 σ1 s1 c env o hP hR H1 V1)) fun μ2 σ2 s2 ov y x2 H2 r2=>av ?_
 have V2:=V1.ext0 H1 x2
 have hset:=mV (A:=A) (W:=W0) (X:=XP C) hP H2 V2.fz r2 (VR.ext H1 wild0 x2 r1) x
 refine bq (t':=setAttr ov x v) (fun Q E q=>wpAny_bind (wpAny_holding (wpAny_mono q (fun z0 z0 z=>wpAny_release z) fun z0 z0 z=>z))) ?_
 unfold af at hset ⊢
 induction hm:setAt c.fz y x a σ2 using Out.casesOn with
 | stuck=>trivial
 | exc=>rw [hm] at hset; exact hset
 | ok u σ3 =>
  rw [hm] at hset
  exact fun Q E hQ=>hset Q E fun μ' b s' x' H' z0=>hQ μ' b s' x' H' (V2.ext0 H2 x')
theorem gR (S:Snd Ok r n) (hP:Ok C) (hR:Rm C A n) (H:HR C μ σ s) (V:ax C c env μ s.heap) {o k e:Expr} {px pos:Pos} :
  af C A (aO env) (XP C) μ σ s (RF C c env) (exec (.Assign [.Subscript o k px] e pos) env) (do let v <- r.E e c; let x <- r.E o c; let y <- r.E k c; setSub c.fz x y v; MM.pure (.next c)):=by
 rw [PyProof.Rows.exec_Assign]
 have e1:swapsWithSole [.Subscript o k px] e pos.line env = pure false:=by
  cases e <;> rfl
 have e2:swappedStores [.Subscript o k px] e env = pure none:=by cases e <;> rfl
 rw [e1,e2]
 clear e1 e2
 refine av ?_
 show af C A (aO env) (XP C) μ σ s (RF C c env) (do let v <- eval e env; assignStores env v none [assign (.Subscript o k px) env]) _
 refine aM (fun z0 q=>q.elim) (S.E C A μ σ s c env e hP hR H V) fun μ1 σ1 s1 v a x1 H1 r1=>?_
 show af C A (aO env) (XP C) μ1 σ1 s1 (RF C c env) (do
  (do
   let ov <- holding [v] (eval o env)
   let iv <- holding [v,ov] (eval k env)
   standAt px
   holding [v,ov,iv] (setItem ov iv v)
   release (match k with | .Slice _ _ none _=>[iv,v,ov] | _=>[v,ov,iv]) [])
  pure .next) _
 have V1:=V.ext0 H x1
 have e3:(do let x <- r.E o c; let y <- r.E k c; setSub c.fz x y a; MM.pure (.next c):MM Fl) = (do (do let x <- r.E o c; let y <- r.E k c; setSub c.fz x y a); MM.pure (.next c)):=by
  rw [bc]
  congr 1
  funext x
  rw [bc]
 rw [e3]
 refine aM (W₁:=W0) (R:=fun μ' s' z0 z0=>ax C c env μ' s'.heap) (fun z0 q=>q.elim) ?_ fun μ2 σ2 s2 z0 z0 x2 H2 V2=>aI H2 ⟨V2,rfl,rfl⟩
 refine aq (aG (S.E C A μ1 σ1 s1 c env o hP hR H1 V1)) fun μ2 σ2 s2 ov y x2 H2 r2=>?_
 have V2:=V1.ext0 H1 x2
 refine aq (aG (S.E C A μ2 σ2 s2 c env k hP hR H2 V2)) fun μ3 σ3 s3 iv z x3 H3 r3=>av ?_
 have V3:=V2.ext0 H2 x3
 have hset:=lD (A:=A) (W:=W0) (X:=XP C) H3 (by have:=hR.units; omega) V3.fz (VR.ext H2 wild0 x3 r2) r3 (VR.ext H2 wild0 x3 (VR.ext H1 wild0 x2 r1))
 refine bq (t':=setItem ov iv v) (fun Q E q=>wpAny_bind (wpAny_holding (wpAny_mono q (fun z0 z0 z=>wpAny_release z) fun z0 z0 z=>z))) ?_
 unfold af at hset ⊢
 induction hm:setSub c.fz y z a σ3 using Out.casesOn with
 | stuck=>trivial
 | exc=>rw [hm] at hset; exact hset
 | ok u σ3 =>
  rw [hm] at hset
  exact fun Q E hQ=>hset Q E fun μ' b s' x' H' z0=>hQ μ' b s' x' H' (V3.ext0 H3 x')
end
theorem gu {α:Type} {p:Bool} (h:p = true) (f:Unit->MM α):(MM.guard p >>= f) = f ():=by subst h; rfl
section
variable {r:Rc} {n:Nat} {C:Cf} {A:Around} {X:Value->Shared->Prop} {μ:Mu} {σ:ac} {s:Shared} {c:Ctx} {env:Env}
theorem pairE {a b:Expr} (ha:notStar a = true) (hb:notStar b = true) {β:Type} (f:List AV->MM β):(evL r [a,b] c >>= f) = (r.E a c >>= fun v=>r.E b c >>= fun w=>f [v,w]):=by
 show ((MM.guard (notStar a) >>= fun z0=>r.E a c >>= fun v=>(MM.guard (notStar b) >>= fun z0=>r.E b c >>= fun w=>(MM.pure []:MM (List AV)) >>= fun ws=>MM.pure (w :: ws)) >>= fun vs=>MM.pure (v :: vs)) >>= f) = _
 rw [gu ha,gu hb,bc]
 congr 1
 funext v
 rw [bc,bc]
 congr 1
theorem nk (S:Snd Ok r n) (hP:Ok C) (hR:Rm C A n) (hfs:∃ outer,C.fs = env :: outer) (H:HR C μ σ s) (V:ax C c env μ s.heap) {t:Expr} {b:List Stmt} {pos:Pos} :
  af C A (aO env) (XP C) μ σ s (RF C c env) (exec (.While t b [] pos) env) (whileL r t b r.W c):=by
 obtain ⟨outer,hfs⟩:=hfs
 obtain ⟨e0,outer',L,hf1,hf2,hf3⟩:=V.frame
 have key:∀ (O:Out Fl),whileL r t b r.W c σ = O->O ≠ .stuck->∀ (RR:Result->Shared->Prop),
   (∀ fl σ' μ' s' f,O = .ok fl σ'->Ext C (aO env) μ s.heap μ' s'.heap->HR C μ' σ' s'->RF C c env μ' s' f fl->RR (.ok f) s') ->
   (O = .exc->∀ e s',XP C e s'->notedBy (model C.prog C.w) A env (fun e s'=>RR (.error e) s') e s')->codeAny (model C.prog C.w) A (.whileLoop t b [] env) RR s:=by
  intro O hw hO RR hok hexc
  refine codeAny_whileLoop (I:=fun k s'=>X3f (fun μ' σ' c'=>Ext C (aO env) μ s.heap μ' s'.heap) (fun μ' σ' c'=>HR C μ' σ' s') (fun μ' σ' c'=>ax C c' env μ' s'.heap) (fun μ' σ' c'=>c'.sc = c.sc) (fun μ' σ' c'=>c'.fz = c.fz) (fun μ' σ' c'=>whileL r t b k c' σ' = O)) ?_ r.W ⟨μ,σ,c,Ext.refl,H,V,rfl,rfl,hw⟩
  rintro k s1 ⟨μ1,σ1,c1,x1,H1,V1,e1,e2,hw1⟩
  induction k using Nat.casesAuxOn with
  | zero=>exact absurd hw1.symm hO
  | succ k =>
   have hw1':(do
    if <- r.T t c1 then
     match <- evSs r b c1 with
     | .next c'=>whileL r t b k c'
     | .ret v=>MM.pure (.ret v)
    else MM.pure (.next c1):MM Fl) σ1 = O:=hw1
   rw [ai] at hw1'
   have ht:=S.T C A μ1 σ1 s1 c1 env t hP hR H1 V1
   unfold af at ht
   induction htt:r.T t c1 σ1 using Out.casesOn with
   | stuck=>rw [htt] at hw1'; exact absurd hw1'.symm hO
   | exc=>rw [htt] at hw1' ht; exact ht _ _ (hexc hw1'.symm)
   | ok tb σ2 =>
    rw [htt] at hw1' ht
    dsimp only at hw1' ht
    refine ht _ _ fun μ2 bb s2 x2 H2 rb=>?_
    subst rb
    have V2:=V1.ext0 H1 x2
    have x12:Ext C (aO env) μ s.heap μ2 s2.heap:=x1.trans x2.any
    induction bb using Bool.casesOn with
    | false =>
     rw [if_neg Bool.false_ne_true] at hw1' ⊢
     refine wpAny_execs_nil ?_
     exact hok _ _ μ2 s2 .next hw1'.symm x12 H2 ⟨V2,e1,e2⟩
    | true =>
     rw [if_pos rfl] at hw1' ⊢
     rw [ai] at hw1'
     have hb:=bS S hP hR ⟨outer,hfs⟩ b μ2 σ2 s2 c1 H2 V2
     unfold af at hb
     induction hbd:evSs r b c1 σ2 using Out.casesOn with
     | stuck=>rw [hbd] at hw1'; exact absurd hw1'.symm hO
     | exc=>rw [hbd] at hw1' hb; exact hb _ _ (hexc hw1'.symm)
     | ok fl σ3 =>
      rw [hbd] at hw1' hb
      dsimp only at hb
      refine hb _ _ fun μ3 f s3 x3 H3 r3=>?_
      cases f <;> cases fl <;> first | exact r3.elim | skip
      .obtain ⟨V3,q1,q2⟩:=r3
       exact ⟨k,Nat.lt_succ_self k,μ3,σ3,_,x12.trans x3,H3,V3,q1.trans e1,q2.trans e2,hw1'⟩
      .exact hok _ _ μ3 s3 (.ret _) hw1'.symm (x12.trans x3) H3 r3
 rw [hfs] at hf1
 injection hf1 with g1 g2
 subst g1 g2
 unfold af
 induction hO:whileL r t b r.W c σ using Out.casesOn with
 | stuck=>trivial
 | exc =>
  intro Q E hE
  refine wpAny_While (key _ hO (fun q=>nomatch q) _ (fun z0 z0 z0 z0 z0 q=>nomatch q) fun z0 e s' hx=>?_)
  exact XP.own hP hR.frames hfs hf3 hx hE
 | ok fl σ' =>
  intro Q E hQ
  refine wpAny_While (key _ hO (fun q=>nomatch q) _ (fun fl' σ'' μ' s' f q x H' rf=>?_) fun q=>nomatch q)
  injection q with q1 q2
  subst q1 q2
  exact hQ μ' f s' x H' rf
theorem qW (S:Snd Ok r n) (hP:Ok C) (hR:Rm C A n) (hfs:∃ outer,C.fs = env :: outer) (H:HR C μ σ s) (V:ax C c env μ s.heap) {t it:Expr} {b:List Stmt} {pos:Pos} :
  af C A (aO env) (XP C) μ σ s (RF C c env) (exec (.For t it b [] pos) env) (do
   MM.guard (notSet it)
   let src <- r.E it c
   let out <- walkAll src (turnF r t b) c
   match out with
   | .inl c'=>MM.pure (.next c')
   | .inr v=>MM.pure (.ret v)):=by
 obtain ⟨outer,hfs⟩:=hfs
 obtain ⟨e0,outer',L,hf1,hf2,hf3⟩:=V.frame
 rw [hfs] at hf1
 injection hf1 with g1 g2
 subst g1 g2
 refine aj fun hns=>?_
 rw [PySem.exec_For]
 refine av ?_
 refine aM (fun z0 q=>q.elim) (t:=eval it env) (f:=fun x=>(do
  let x <- foldedSetIterable it env x
  standAt it.pos
  runOwn (.forLoop t (<- holding [x] (pyIter x)) b [] env) env)) (S.E C A μ σ s c env it hP hR H V) fun μ1 σ1 s1 v src x1 H1 r1=>?_
 have V1:=V.ext0 H x1
 show af C A (aO env) (XP C) μ1 σ1 s1 (RF C c env) (foldedSetIterable it env v >>= _) _
 rw [ce hns]
 unfold af
 rw [ai]
 unfold walkAll
 rw [ai]
 rcases eU (σ:=σ1) src with ⟨xs,hx⟩ | hx
 case inr=>rw [hx]; trivial
 rw [hx]
 dsimp only
 rw [ai]
 obtain ⟨lst,hb⟩:=iW (σ:=σ1) src
 rw [hb]
 dsimp only
 rw [ai]
 unfold MM.guard
 by_cases hfit:fits xs.length = true
 case neg=>rw [if_neg hfit]; trivial
 rw [if_pos hfit]
 dsimp only
 obtain ⟨oI,hI,hpi⟩:=eS (A:=A) hP.glo H1 r1 hx hb hfit
 obtain ⟨x2,H2⟩:=H1.push oI s1.toks
 have V2:=V1.ext0 H1 x2
 have hIe:¬ aO env s1.heap.objs.size:=by
  rintro (q | ⟨y,hy⟩)
  .obtain ⟨_,hn⟩:=V1.ns
   exact Nat.lt_irrefl _ (q ▸ hn.lt)
  .obtain ⟨_,o,e,_⟩:=V1.allc y _ hy
   exact Nat.lt_irrefl _ (Heap.lt_size e)
 have start:∀ (Q:Flow->Shared->Prop) (E:Value->Shared->Prop),codeAny (model C.prog C.w) A (.forLoop t (.ref s1.heap.objs.size) b [] env) (fun r s'=>match r with | .ok f=>Q f s' | .error e=>cameBackBy (model C.prog C.w) A env E e s') { s1 with heap:=s1.heap.push oI } ->
   wpAny (model C.prog C.w) A (pure v >>= fun x=>standAt it.pos >>= fun z0=>holding [x] (pyIter x) >>= fun i=>runOwn (.forLoop t i b [] env) env) Q E s1:=fun Q E h=>by
  refine wpAny_bind (wpAny_pure (wpAny_bind (wpAny_standAt (wpAny_bind (wpAny_holding (hpi _ _ ?_))))))
  exact wpAny_runOwn h
 have turns:=fun (O:Out (Ctx ⊕ AV)) (hw:walk src lst xs.length (turnF r t b) xs.length c σ1 = O) (hO:O ≠ .stuck) (RR:Result->Shared->Prop) =>
  lQ (RR:=RR) S hP hR hfs (s:={ s1 with heap:=s1.heap.push oI }) H2 V2 (bG H1) hI hIe hw hO
 induction hO:walk src lst xs.length (turnF r t b) xs.length c σ1 using Out.casesOn with
 | stuck=>trivial
 | exc =>
  intro Q E hE
  refine start Q E (turns _ hO (fun q=>nomatch q) _ (fun z0 z0 z0 z0 z0 q=>nomatch q) fun z0 e s' hx=>?_)
  exact XP.own hP hR.frames hfs hf3 hx hE
 | ok out σ' =>
  have fin:∀ (fl:Fl),(match out with | .inl c'=>fl = .next c' | .inr v=>fl = .ret v)->∀ (Q:Flow->Shared->Prop) (E:Value->Shared->Prop),(∀ μ' f s',Ext C (aO env) μ1 s1.heap μ' s'.heap->HR C μ' σ' s'->RF C c env μ' s' f fl->Q f s') ->
    wpAny (model C.prog C.w) A (pure v >>= fun x=>standAt it.pos >>= fun z0=>holding [x] (pyIter x) >>= fun i=>runOwn (.forLoop t i b [] env) env) Q E s1:=by
   intro fl hfl Q E hQ
   refine start Q E (turns _ hO (fun q=>nomatch q) _ (fun out' σ'' μ' s' f q x H' rf=>?_) fun q=>nomatch q)
   injection q with q1 q2
   subst q1 q2
   refine hQ μ' f s' (Ext.drop (x2.any.trans (x.mono fun y q=>q.elim .inl fun q=>.inr (q ▸ Nat.le_refl _)))) H' ?_
   cases out with
   | inl c' =>
    cases f <;> first | exact rf.elim | skip
    obtain rfl:fl = .next c':=hfl
    exact rf
   | inr a =>
    cases f <;> first | exact rf.elim | skip
    obtain rfl:fl = .ret a:=hfl
    exact rf
  cases out with
  | inl c'=>exact fin (.next c') rfl
  | inr a=>exact fin (.ret a) rfl
end
section
variable {r:Rc} {n:Nat} {C:Cf} {A:Around} {W:Addr->Prop} {X:Value->Shared->Prop} {μ:Mu} {σ:ac} {s:Shared} {c:Ctx} {env:Env}
theorem pf (S:Snd Ok r n) (hP:Ok C) (hR:Rm C A n) (H:HR C μ σ s) (V:ax C c env μ s.heap) {es:List Expr} {pos:Pos} :
  af C A W0 (XP C) μ σ s (RV C) (eval (.List es pos) env) (do let vs <- evL r es c; mkL vs):=by
 rw [arm_eval_List]
 exact av (aq (fG S hP hR es μ σ s H V) fun μ1 σ1 s1 vs xs x1 H1 r1=>jL H1 r1)
theorem ii (S:Snd Ok r n) (hP:Ok C) (hR:Rm C A n) (H:HR C μ σ s) (V:ax C c env μ s.heap) {es:List Expr} {k:Nat} {pos:Pos} :
  af C A W0 (XP C) μ σ s (RV C) (eval (.Tuple es k pos) env) (do let vs <- evL r es c; mkT vs):=by
 rw [arm_eval_Tuple]
 exact av (aq (fG S hP hR es μ σ s H V) fun μ1 σ1 s1 vs xs x1 H1 r1=>iL H1 r1)
theorem fo (H:HR C μ σ s):aW C μ s.heap (μ ++ [(s.heap.objs.size,s.heap.objs.size)]) (s.heap.push { cls:=.type "dict", data:=.dict #[] }) ->
  OR C (μ ++ [(s.heap.objs.size,s.heap.objs.size)]) (s.heap.push { cls:=.type "dict", data:=.dict #[] }) (s.heap.objs.size,s.heap.objs.size) (.wset []):=fun x =>
 ⟨rfl,⟨_,#[],Heap.get?_push_size _ rfl,rfl⟩,[],⟨_,#[],0,Heap.get?_push_size _ rfl,⟨rfl,rfl,rfl⟩,rfl,by simp,fun z0 q=>(nomatch q),by simp⟩,rfl,fun z0 q=>(nomatch q)⟩
theorem ny (H:HR C μ σ s) {pos:Pos}:af C A W X μ σ s (RV C) (eval (.Dict [] [] pos) env) (alloc (.wset [])):=by
 rw [eval_Dict_empty]
 refine av (ig H (fo H) fun Q E h=>?_)
 unfold newDict
 exact wpAny_bind (wpAny_alloc (wpAny_pure (h s.toks)))
theorem jM (H:HR C μ σ s) (hu:A.units + 8 < cLine) {fz:Nat} (hf:fz = C.fz) {i:Nat} {p:Addr × Addr} {w u:Value} {k b:AV} {ws:List (List Int)} (hp:μ[i]? = some p) (ho:σ[i]? = some (.wset ws))
  (hw:VR C.ghost μ s.heap w k) (hb:VR C.ghost μ s.heap u b) :
  af C A W X μ σ s (fun z0 z0 z0 z0=>True) (dictSet p.1 w u) (setSub fz (.obj i) k b):=by
 have hor:=H.obj i p _ hp ho
 induction hk:wordOf k using Option.casesOn with
 | none=>exact ak (by unfold setSub; dsimp only; rw [ho]; dsimp only; rw [hk])
 | some wd =>
  induction b using AV.casesOn with
  | bool bb =>
   induction bb using Bool.casesOn with
   | true =>
    by_cases hft:fits ws.length = true
    .refine bB (m':=setO fz i (.wset (winsert wd ws))) (by unfold setSub; dsimp only; rw [ho]; dsimp only; rw [hk]; dsimp only; rw [if_pos hft]) (ed fun hle Q E hQ=>?_)
     rw [hb.inv_bool]
     obtain ⟨e1,hE,xs,h1,h2,h3⟩:=hor
     rw [ch hk] at hw
     obtain ⟨ad,rfl,hkey⟩:=VR.wkey (prog:=C.prog) (wd:=C.w) hw
     refine dictSetE (knd:=wk C) (k:=wd) (show A.units < cLine by omega) hkey h1 (by rw [<- h2,List.length_map] at hE; exact hE) (fun h' g1 gE g2=>?_) (by
      have:=bv hft; rw [<- h2,List.length_map] at this; exact this)
     obtain ⟨xx,H'⟩:=H.turn (s.toks + (wk C).draws wd) hp ho (hf ▸ hle) (.inl rfl) g2 (o':=.wset (winsert wd ws)) (fun xx=>by
      refine ⟨e1,?_,_,g1,by rw [bw,h2],?_⟩
      .rw [<- h2,<- bw,List.length_map]; exact gE
      .exact cP (P:=fun w a=>VR C.ghost μ h' (.ref a) (wordV w)) (fun x hx=>⟨(h3 x hx).1,VR.ext H wild0 xx (h3 x hx).2⟩) (VR.ext H wild0 xx hw))
     exact hQ μ _ xx.any H' trivial
    .exact ak (by unfold setSub; dsimp only; rw [ho]; dsimp only; rw [hk]; dsimp only; rw [if_neg hft])
   | false=>exact ak (by unfold setSub; dsimp only; rw [ho]; dsimp only; rw [hk])
  | _=>exact ak (by unfold setSub; dsimp only; rw [ho]; dsimp only; rw [hk])
theorem oU (H:HR C μ σ s) (hu:A.units + 8 < cLine) {fz:Nat} (hf:fz = C.fz) {i:Nat} {p:Addr × Addr} {w u:Value} {k b:AV} (hp:μ[i]? = some p)
  (hw:VR C.ghost μ s.heap w k) (hb:VR C.ghost μ s.heap u b):af C A W X μ σ s (fun z0 z0 z0 z0=>True) (dictSet p.1 w u) (setW fz (.obj i) k b):=by
 obtain ⟨o,ho,hor⟩:=H.objAt hp
 induction o using AO.casesOn with
 | wset ws=>exact bB (m':=setSub fz (.obj i) k b) (by unfold setW; dsimp only; rw [ho]) (jM H hu hf hp ho hw hb)
 | _=>exact ak (by unfold setW; dsimp only; rw [ho])
theorem nx (S:Snd Ok r n) (hP:Ok C) (hR:Rm C A n) (H:HR C μ σ s) (V:ax C c env μ s.heap) {k v:Expr} {pos:Pos}
  : af C A W0 (XP C) μ σ s (RV C) (eval (.Dict [some k] [v] pos) env) (do
  let d <- alloc (.wset [])
  let x <- r.E k c
  let y <- r.E v c
  setW c.fz d x y
  MM.pure d):=by
 rw [arm_eval_Dict]
 have e1:((evalEachOpt [some k] env).zip ((evalEach [v] env).map fun v=>do let x <- v; standAt pos; pure x)) = [(eval k env,do let x <- eval v env; standAt pos; pure x)].map fun p=>(some p.1,p.2):=rfl
 rw [e1,dictDisplay_pairs _ (by simp) (by simp)]
 refine av ?_
 unfold subDict
 rw [bind_assoc]
 refine aq (W:=W0) (R:=fun μ' s' d a=>∃ i p,a = .obj i/\d = p.1/\μ'[i]? = some p) ?_ fun μ1 σ1 s1 d a x1 H1 r1=>?_
 .exact aA (a:=.obj σ.length) (σ':=σ ++ [.wset []]) rfl fun Q E hQ=>wpAny_alloc (by
   obtain ⟨x,H'⟩:=H.fresh s.toks (fo H)
   exact hQ _ _ _ x.any H' ⟨_,_,rfl,rfl,bT H.len (s.heap.objs.size,s.heap.objs.size)⟩)
 .obtain ⟨i,p,rfl,rfl,hp⟩:=r1
  have V1:=V.ext0 H x1
  rw [bind_assoc,if_pos (show [(eval k env,(do let x <- eval v env; standAt pos; pure x:Sem Value))].length ≤ 15 by simp)]
  have e3:(do let x <- r.E k c; let y <- r.E v c; setW c.fz (.obj i) x y; MM.pure (.obj i):MM AV) = (do (do let x <- r.E k c; let y <- r.E v c; setW c.fz (.obj i) x y); MM.pure (.obj i)):=by
   rw [bc]; congr 1; funext x; rw [bc]
  rw [e3]
  refine aq (R:=fun μ' s' z0 z0=>μ'[i]? = some p) ?_ fun μ4 σ4 s4 z0 z0 x4 H4 hp4=>?_
  .refine aG ?_
   have e4:(do let x <- r.E k c; let y <- r.E v c; setW c.fz (.obj i) x y:MM Unit) = (do let q <- (do let x <- r.E k c; let y <- r.E v c; MM.pure (x,y)); setW c.fz (.obj i) q.1 q.2):=by
    rw [bc]; congr 1; funext x; rw [bc]; rfl
   rw [e4]
   refine aq (R:=fun μ' s' vs q=>∃ kv vv,vs = [(kv,vv)]/\VR C.ghost μ' s'.heap kv q.1/\VR C.ghost μ' s'.heap vv q.2) ?_ fun μ3 σ3 s3 vs q x3 H3 r3=>?_
   .unfold evalPairs
    refine aq (S.E C A μ1 σ1 s1 c env k hP hR H1 V1) fun μ2 σ2 s2 kv x x2 H2 r2=>?_
    have V2:=V1.ext0 H1 x2
    rw [show (r.E v c >>= fun y=>MM.pure (x,y)) = (r.E v c >>= fun y=>MM.pure y >>= fun y=>MM.pure (x,y)) from rfl]
    refine aq (R:=RV C) (aG ?_) fun μ3 σ3 s3 vv y x3 H3 r3=>?_
    .have h1:=S.E C A μ2 σ2 s2 c env v hP hR H2 V2
     refine bq (fun Q E q=>?_) h1
     exact wpAny_bind (wpAny_mono q (fun z0 z0 z=>wpAny_bind (wpAny_standAt (wpAny_pure z))) fun z0 z0 z=>z)
    .exact bq (t':=pure [(kv,vv)]) (fun Q E q=>wpAny_bind (wpAny_holding (by unfold evalPairs; exact wpAny_pure q))) (aI H3 ⟨kv,vv,rfl,VR.ext H2 wild0 x3 r2,r3⟩)
   .obtain ⟨kv,vv,rfl,r1',r2'⟩:=r3
    have V3:=V1.ext0 H1 x3
    have hp3:=x3.idx hp
    refine aG ?_
    have hs:=oU (A:=A) (W:=W0) (X:=XP C) H3 (by have:=hR.units; omega) V3.fz hp3 r1' r2'
    have hs':af C A W0 (XP C) μ3 σ3 s3 (fun μ' z0 z0 z0=>μ'[i]? = some p) (dictSet p.1 kv vv) (setW c.fz (.obj i) q.1 q.2):=by
     unfold af at hs ⊢
     induction hm:setW c.fz (.obj i) q.1 q.2 σ3 using Out.casesOn with
     | stuck=>trivial
     | exc=>rw [hm] at hs; exact hs
     | ok u σ4=>rw [hm] at hs; exact fun Q E hQ=>hs Q E fun μ' b s' x' H' z0=>hQ μ' b s' x' H' (x'.idx hp3)
    refine bq (fun Q E q=>?_) hs'
    rw [List.forIn_cons]
    exact wpAny_bind (wpAny_bind (wpAny_bind (wpAny_mono q (fun z0 z0 z=>wpAny_pure (by
     show wpAny _ _ (forIn [] _ _) _ _ _
     rw [List.forIn_nil]
     exact wpAny_pure (wpAny_pure z))) fun z0 z0 z=>z)))
  .exact bq (t':=pure (.ref p.1)) (fun Q E q=>wpAny_bind (wpAny_pure q)) (aI H4 (.obj hp4))
theorem cy {o:Expr} (h:plainBase o = true) (x:Str) (env:Env) (whole:Sem Value):attributeBase o x env whole = whole:=by
 cases o <;> first | rfl | exact absurd h Bool.false_ne_true
theorem gQ (S:Snd Ok r n) (hP:Ok C) (hR:Rm C A n) (H:HR C μ σ s) (V:ax C c env μ s.heap) {o:Expr} {x:Str} {pos:Pos} :
  af C A W0 (XP C) μ σ s (RV C) (eval (.Attribute o x pos) env) (do MM.guard (plainBase o); let v <- r.E o c; getAt v x):=by
 refine aj fun hb=>?_
 rw [arm_eval_Attribute,cy hb]
 refine aq (S.E C A μ σ s c env o hP hR H V) fun μ1 σ1 s1 v a x1 H1 r1=>av ?_
 exact bq (fun Q E q=>wpAny_bind (wpAny_holding (wpAny_mono q (fun z0 z0 z=>wpAny_bind (wpAny_letTemporaryGo (wpAny_pure z))) fun z0 z0 z=>z))) (nf hP H1 r1 x)
theorem gO (S:Snd Ok r n) (hP:Ok C) (hR:Rm C A n) (H:HR C μ σ s) (V:ax C c env μ s.heap) {o k:Expr} {pos:Pos} (hk:notSlice k = true) :
  af C A W0 (XP C) μ σ s (RV C) (eval (.Subscript o k pos) env) (do let x <- r.E o c; let y <- r.E k c; subscr x y):=by
 show af _ _ _ _ _ _ _ _ (do
  let v <- eval o env
  let i <- holding [v] (eval k env)
  standAt pos
  let r <- subscripted k (<- getitemInPython v) v i
  letTemporaryGo o v r
  pure r) _
 refine aq (S.E C A μ σ s c env o hP hR H V) fun μ1 σ1 s1 v a x1 H1 r1=>?_
 refine aq (aG (S.E C A μ1 σ1 s1 c env k hP hR H1 (V.ext0 H x1))) fun μ2 σ2 s2 w b x2 H2 r2=>av ?_
 exact jI H2 (VR.ext H1 wild0 x2 r1) r2 hk
theorem nr (S:Snd Ok r n) (hP:Ok C) (hR:Rm C A n) (H:HR C μ σ s) (V:ax C c env μ s.heap) {o k:Expr} {p pos:Pos} :
  af C A W0 (XP C) μ σ s (RV C) (eval (.Subscript o (.Slice none (some k) none p) pos) env) (do let x <- r.E o c; let y <- r.E k c; let n <- asInt y; sliceTo x n):=by
 show af _ _ _ _ _ _ _ _ (do
  let v <- eval o env
  let i <- holding [v] (eval (.Slice none (some k) none p) env)
  standAt pos
  let r <- subscripted (.Slice none (some k) none p) (<- getitemInPython v) v i
  letTemporaryGo o v r
  pure r) _
 rw [jb]
 refine aq (S.E C A μ σ s c env o hP hR H V) fun μ1 σ1 s1 v a x1 H1 r1=>?_
 have h2:=S.E C A μ1 σ1 s1 c env k hP hR H1 (V.ext0 H x1)
 unfold af at h2 ⊢
 rw [ai]
 have whole:∀ (Q:Value->Shared->Prop) (E:Value->Shared->Prop),wpAny (model C.prog C.w) A (eval k env) (fun u s'=>wpAny (model C.prog C.w) A (do let r <- subscripted (.Slice none (some k) none p) (<- getitemInPython v) v (.ref s'.heap.objs.size); letTemporaryGo o v r; pure r) Q E
   { s' with heap:=s'.heap.push { cls:=.type "slice", data:=.fields #[.none,u,.none] } }) E s1->wpAny (model C.prog C.w) A (do
    let i <- holding [v] (do
     let u <- holding [.none] (eval k env)
     let s <- holding [.none,u] (pure .none)
     newFields "slice" [.none,u,s])
    standAt pos
    let r <- subscripted (.Slice none (some k) none p) (<- getitemInPython v) v i
    letTemporaryGo o v r
    pure r) Q E s1:=fun Q E q =>
  wpAny_bind (wpAny_holding (wpAny_bind (wpAny_holding (wpAny_mono q (fun u s' z=>wpAny_bind (wpAny_holding (wpAny_pure (fx (wpAny_bind (wpAny_standAt z)))))) fun z0 z0 z=>z))))
 induction hk:r.E k c σ1 using Out.casesOn with
 | stuck=>trivial
 | exc=>rw [hk] at h2; exact fun Q E hE=>whole _ _ (h2 _ _ hE)
 | ok b σ2 =>
  rw [hk] at h2
  dsimp only at h2 ⊢
  induction b using AV.casesOn with
  | int nn =>
   rw [show (asInt (AV.int nn) >>= fun n=>sliceTo a n) = sliceTo a nn from rfl]
   have k2:∀ (μ2:Mu) (s2:Shared) (t:Tok),aW C μ1 s1.heap μ2 s2.heap->HR C μ2 σ2 s2->aW C μ2 s2.heap μ2 (s2.heap.push { cls:=.type "slice", data:=.fields #[.none,.int nn t,.none] }) /\
     af C A W0 (XP C) μ2 σ2 { s2 with heap:=s2.heap.push { cls:=.type "slice", data:=.fields #[.none,.int nn t,.none] } } (RV C) (do let r <- subscripted (.Slice none (some k) none p) (<- getitemInPython v) v (.ref s2.heap.objs.size); letTemporaryGo o v r; pure r) (sliceTo a nn):=fun μ2 s2 t x2 H2=>by
    obtain ⟨x3,H3⟩:=H2.push { cls:=.type "slice", data:=.fields #[.none,.int nn t,.none] } s2.toks
    exact And.intro x3 (jJ H3 (VR.ext H2 wild0 x3 (VR.ext H1 wild0 x2 r1)) ⟨_,Heap.get?_push_size _ rfl,rfl,rfl⟩)
   induction hs:sliceTo a nn σ2 using Out.casesOn with
   | stuck=>trivial
   | exc =>
    refine fun Q E hE=>whole _ _ (h2 _ _ fun μ2 u s2 x2 H2 r2=>?_)
    obtain ⟨t,rfl⟩:=r2.inv_int
    obtain ⟨x3,h3⟩:=k2 μ2 s2 t x2 H2
    unfold af at h3
    rw [hs] at h3
    exact h3 _ _ hE
   | ok b' σ3 =>
    refine fun Q E hQ=>whole _ _ (h2 _ _ fun μ2 u s2 x2 H2 r2=>?_)
    obtain ⟨t,rfl⟩:=r2.inv_int
    obtain ⟨x3,h3⟩:=k2 μ2 s2 t x2 H2
    unfold af at h3
    rw [hs] at h3
    exact h3 _ _ fun μ4 b s4 x4 H4 r4=>hQ μ4 b s4 ((x2.trans x3).trans x4) H4 r4
  | _=>trivial
theorem pd (H:HR C μ σ s) {i:Int} {kd:Nat} {p pos:Pos}:af C A W X μ σ s (RV C) (eval (.UnaryOp .USub (.Constant (.int i) kd p) pos) env) (mkI (-i)):=by
 rw [arm_eval_UnaryOp]
 exact bZ H fun Q E h=>wpAny_bind (wpAny_Constant_int (wpAny_bind (wpAny_standAt (wpAny_holding (PyProof.Rows.neg_int (h _ _))))))
end
noncomputable def swT (p1 p2 p3 p4 p5:Bool) (u:Sem (Option (List Str))) (g:List Str):Sem (Option (List Str)) :=
 if p1 = true then pure none else if p2 = true then pure none else if p3 = true then pure none else if p4 = true then pure none else if p5 = true then u else pure (some g)
theorem sk {p1 p2 p3 p4 p5:Bool} {u:Sem (Option (List Str))} {g:List Str} (h:(!p5 || p4) = true):swT p1 p2 p3 p4 p5 u g = pure none\/swT p1 p2 p3 p4 p5 u g = pure (some g)/\p3 = false:=by
 induction p1 using Bool.casesOn with
 | true=>exact .inl rfl
 | false=>induction p2 using Bool.casesOn with
  | true=>exact .inl rfl
  | false=>induction p3 using Bool.casesOn with
   | true=>exact .inl rfl
   | false=>induction p4 using Bool.casesOn with
    | true=>exact .inl rfl
    | false=>induction p5 using Bool.casesOn with
     | true=>exact absurd h Bool.false_ne_true
     | false=>exact .inr ⟨rfl,rfl⟩
noncomputable def nm (c1 c2:Bool) (x y:Str):List Str:=[if c1 = true then some x else none,if c2 = true then some y else none].filterMap id
theorem sF {c1 c2 q:Bool} {x y:Str} (h:((nm c1 c2 x y).length != 2 || q) = false):c1 = true/\c2 = true:=by
 induction c1 using Bool.casesOn with
 | true=>induction c2 using Bool.casesOn with
  | true=>exact ⟨rfl,rfl⟩
  | false=>exact absurd h.symm Bool.false_ne_true
 | false=>induction c2 using Bool.casesOn with
  | true=>exact absurd h.symm Bool.false_ne_true
  | false=>exact absurd h.symm Bool.false_ne_true
theorem iI {x y:Str} {px py pt pv:Pos} {k kv:Nat} {a b:Expr} {env:Env}
  (hc:(!([a,b].all (constantsAlone 8)) || [a,b].all (foldedForSure 8)) = true) :
  swappedStores [.Tuple [.Name x px,.Name y py] k pt] (.Tuple [a,b] kv pv) env = pure none \/
  (swappedStores [.Tuple [.Name x px,.Name y py] k pt] (.Tuple [a,b] kv pv) env = pure (some [x,y])/\env.kindOf x = some .local/\env.kindOf y = some .local):=by
 have e:∃ p1 p2 q u,swappedStores [.Tuple [.Name x px,.Name y py] k pt] (.Tuple [a,b] kv pv) env = swT p1 p2 ((nm (env.kindOf x == some .local && px.line == px.line) (env.kindOf y == some .local && py.line == px.line) x y).length != 2 || q) ([a,b].all (foldedForSure 8)) ([a,b].all (constantsAlone 8)) u (nm (env.kindOf x == some .local && px.line == px.line) (env.kindOf y == some .local && py.line == px.line) x y):=⟨_,_,_,_,rfl⟩
 obtain ⟨p1,p2,q,u,e⟩:=e
 rw [e]
 refine (sk hc).imp id fun h=>?_
 obtain ⟨h1,h2⟩:=sF h.2
 exact ⟨h.1.trans (by rw [h1,h2]; rfl),eq_of_beq (Bool.and_eq_true_iff.mp h1).1,eq_of_beq (Bool.and_eq_true_iff.mp h2).1⟩
section
variable {r:Rc} {n:Nat} {C:Cf} {A:Around} {W:Addr->Prop} {X:Value->Shared->Prop} {μ:Mu} {σ:ac} {s:Shared} {c:Ctx} {env:Env}
theorem fm {x:Str} {v:AV} {c c':Ctx} {σ σ':ac} (h:setName x v c σ = .ok c' σ'):σ' = σ/\c'.sc = c.sc/\((c.kind x = some .local/\c' = { c with loc:=upd c.loc x v })\/(c.kind x = some .cell/\c' = { c with cel:=upd c.cel x v })):=by
 unfold setName at h
 induction hk:c.kind x using Option.casesOn with
 | none=>rw [hk] at h; exact nomatch (show (Out.stuck:Out Ctx) = .ok c' σ' from h)
 | some k =>
  rw [hk] at h
  cases k <;> first | exact nomatch (show (Out.stuck:Out Ctx) = .ok c' σ' from h) | skip
  .injection h with h1 h2; subst h1 h2; exact ⟨rfl,rfl,.inl ⟨rfl,rfl⟩⟩
  .injection h with h1 h2; subst h1 h2; exact ⟨rfl,rfl,.inr ⟨rfl,rfl⟩⟩
theorem fk {x:Str} {v:AV} {c:Ctx} (h:c.kind x = some .local):setName x v c = MM.pure { c with loc:=upd c.loc x v }:=by
 unfold setName; rw [h]
theorem oC {m:Str->Option AV} {x y:Str} {v w:AV} (h:x ≠ y):upd (upd m x v) y w = upd (upd m y w) x v:=by
 funext z
 unfold upd
 by_cases h1:z = y
 .subst h1; rw [if_pos rfl,if_neg (Ne.symm h),if_pos rfl]
 .rw [if_neg h1,if_neg h1]
set_option tactic.hygienic true in
theorem fV (S:Snd Ok r n) (hP:Ok C) (hR:Rm C A n) (H:HR C μ σ s) (V:ax C c env μ s.heap) {x y:Str} {px py pt pv pos:Pos} {k kv:Nat} {a b:Expr} :
  af C A (aO env) (XP C) μ σ s (RF C c env) (exec (.Assign [.Tuple [.Name x px,.Name y py] k pt] (.Tuple [a,b] kv pv) pos) env) (do
   MM.guard (decide (x ≠ y) && notStar a && notStar b && (!([a,b].all (PySem.constantsAlone 8)) || [a,b].all (PySem.foldedForSure 8)))
   let v <- r.E a c
   let w <- r.E b c
   let c' <- setName x v c
   let c'' <- setName y w c'
   MM.pure (.next c'')):=by
 refine aj fun hg=>?_
 rw [Bool.and_eq_true,Bool.and_eq_true,Bool.and_eq_true,decide_eq_true_eq] at hg
 obtain ⟨⟨⟨hxy,ha⟩,hb⟩,hc⟩:=hg
 have e0:(do let v <- r.E a c; let w <- r.E b c; let c' <- setName x v c; let c'' <- setName y w c'; MM.pure (.next c''):MM Fl) =
   (do let t <- (do let vs <- evL r [a,b] c; mkT vs); (match t with | .tup [v,w]=>(do let c' <- setName x v c; let c'' <- setName y w c'; MM.pure (.next c'')) | _=>MM.stuck)):=by
  rw [bc,pairE ha hb]
  rfl
 rw [e0,PyProof.Rows.exec_Assign]
 have e1:swapsWithSole [.Tuple [.Name x px,.Name y py] k pt] (.Tuple [a,b] kv pv) pos.line env = pure false:=rfl
 rw [e1]
 refine av ?_
 show af C A (aO env) (XP C) μ σ s (RF C c env) (do let v <- eval (.Tuple [a,b] kv pv) env; let q <- swappedStores [.Tuple [.Name x px,.Name y py] k pt] (.Tuple [a,b] kv pv) env; assignStores env v q [assign (.Tuple [.Name x px,.Name y py] k pt) env]) _
 refine aM (fun z0 q=>q.elim) (ii S hP hR H V) fun μ1 σ1 s1 t a1 x1 H1 r1=>?_
 have V1:=V.ext0 H x1
 by_cases htup:∃ v w,a1 = .tup [v,w]
 case neg =>
  refine ak ?_
  split
  .exact absurd ⟨_,_,rfl⟩ htup
  .rfl
 obtain ⟨v,w,rfl⟩:=htup
 dsimp only
 rcases iI (px:=px) (py:=py) (pt:=pt) (pv:=pv) (k:=k) (kv:=kv) (env:=env) hc with e2 | ⟨e2,kx,ky⟩
 .rw [e2,pure_bind]
  have hb:=dK (A:=A) (X:=XP C) hR.handled H1 V1 (t:=.Tuple [.Name x px,.Name y py] k pt) r1
  have e3:(do let c' <- setName x v c; let c'' <- setName y w c'; MM.pure (.next c''):MM Fl) = (do let c' <- bindTo (.Tuple [.Name x px,.Name y py] k pt) (.tup [v,w]) c; MM.pure (.next c')):=by
   show _ = ((setName x v c >>= fun c=>setName y w c) >>= fun c'=>MM.pure (Fl.next c'))
   rw [bc]
  rw [e3]
  show af _ _ _ _ _ _ _ _ (assign (.Tuple [.Name x px,.Name y py] k pt) env t >>= fun z0=>pure Flow.next) _
  exact aM (fun z0 q=>q.wenv) hb fun μ2 σ2 s2 z0 c' x2 H2 r2=>aI H2 r2
 .rw [e2,pure_bind]
  unfold af
  rw [ai]
  induction h1:setName x v c σ1 using Out.casesOn with
  | stuck=>trivial
  | exc=>exact absurd h1 (aK _ _ _ _)
  | ok c1 σ2 =>
   dsimp only
   rw [ai]
   induction h2:setName y w c1 σ2 using Out.casesOn with
   | stuck=>trivial
   | exc=>exact absurd h2 (aK _ _ _ _)
   | ok c2 σ3 =>
    dsimp only
    obtain ⟨rfl,q1,q2⟩:=fm h1
    obtain ⟨rfl,q3,q4⟩:=fm h2
    have lx:c.kind x = some .local:=by
     rcases q2 with ⟨q,_⟩ | ⟨q,_⟩
     .exact q
     .have:=V1.kCell x q; rw [kx] at this; exact nomatch this
    have hc1:c1 = { c with loc:=upd c.loc x v }:=by
     rcases q2 with ⟨_,q⟩ | ⟨q,_⟩
     .exact q
     .rw [lx] at q; exact nomatch q
    have ly:c.kind y = some .local:=by
     rcases q4 with ⟨q,_⟩ | ⟨q,_⟩
     .rw [hc1] at q; exact q
     .rw [hc1] at q; have:=V1.kCell y q; rw [ky] at this; exact nomatch this
    have hc2:c2 = { c with loc:=upd (upd c.loc y w) x v }:=by
     rcases q4 with ⟨_,q⟩ | ⟨q,_⟩
     .rw [q,hc1]; dsimp only; rw [oC hxy]
     .rw [hc1] at q; have q':c.kind y = some .cell:=q; rw [ly] at q'; exact nomatch q'
    intro Q E hQ
    obtain ⟨ta,vs,nn,rfl,g1,g2⟩:=r1.inv_tup
    cases g2 with
    | cons hva g2 =>
     cases g2 with
     | cons hvb g2 =>
      cases g2
      rename_i va vb
      unfold assignStores
      dsimp only
      refine wpAny_bind (wpAny_rule (wpAny_bind (aZ ?_)))
      show wpAny _ _ (unpackItems (.ref ta) (List.toArray [va,vb]).size none) _ _ s1
      refine wpAny_unpackItems_tuple hR.handled ⟨_,g1,rfl,nn,rfl⟩ fun h' hs hz=>?_
      obtain ⟨z1,K1⟩ : aW C μ1 s1.heap μ1 h'/\HR C μ1 σ3 { s1 with heap:=h' } :=
       H1.keeps (s':={ s1 with heap:=h' }) (fun b o e=>hs b o (Nat.ne_of_lt (Heap.lt_size e)) e) hz rfl rfl
      have V1':=V1.ext0 H1 z1
      show wpAny _ _ (assignInOrder [bindName env y,bindName env x] [vb,va] >>= fun z0=>pure Flow.next) _ _ _
      show wpAny _ _ ((do holding [va] (bindName env y vb); (do holding [] (bindName env x va); pure ())) >>= fun z0=>pure Flow.next) _ _ _
      have by':=bA (A:=A) (X:=XP C) K1 V1' y (VR.ext H1 wild0 z1 hvb)
      unfold af at by'
      rw [fk ly] at by'
      refine wpAny_bind (wpAny_bind (wpAny_holding (by' _ _ fun μ2 _ s2 e2 H2 ⟨V2,_,_⟩=>?_)))
      have bx:=bA (A:=A) (X:=XP C) H2 V2 x (VR.ext K1 (fun b o q e=>bQ V1' b o q.wenv e) e2 (VR.ext H1 wild0 z1 hva))
      unfold af at bx
      rw [fk (c:={ c with loc:=upd c.loc y w }) lx] at bx
      refine wpAny_bind (wpAny_holding (bx _ _ fun μ3 _ s3 e3 H3 ⟨V3,_,_⟩=>?_))
      refine wpAny_pure (wpAny_pure (hQ μ3 .next s3 (z1.any.trans ((e2.mono fun z0 q=>q.wenv).trans (e3.mono fun z0 q=>q.wenv))) H3 ?_))
      rw [hc2]
      exact ⟨V3,rfl,rfl⟩
theorem qT (S:Snd Ok r n) (hP:Ok C) (hR:Rm C A n) (hfs:∃ outer,C.fs = env :: outer) (H:HR C μ σ s) (V:ax C c env μ s.heap) (st:Stmt) :
  af C A (aO env) (XP C) μ σ s (RF C c env) (exec st env) (evS r st c):=by
 cases st with
 | Expr e q=>cases e <;> first | exact nv S hP hR H V | exact ae
 | Return e q=>cases e <;> first | exact lI S hP hR H V | exact ae
 | If t a b q=>exact sr S hP hR hfs H V
 | While t b o q=>cases o <;> first | exact nk S hP hR hfs H V | exact ae
 | For t i b o q=>cases o <;> first | exact qW S hP hR hfs H V | exact ae
 | Assign ts e q =>
  induction ts using List.casesOn with
  | nil=>exact ae
  | cons t ts =>
   cases t with
   | Name x p=>cases ts with
    | nil=>exact fW S hP hR H V
    | cons _ _=>exact ae
   | Subscript a k p=>cases ts with
    | nil=>exact gR S hP hR H V
    | cons _ _=>exact ae
   | Attribute o x p=>cases ts with
    | nil=>exact fX S hP hR H V
    | cons _ _=>exact ae
   | Tuple es n p =>
    induction es using List.casesOn with
    | nil=>first | exact ae | (cases ts <;> exact ae)
    | cons t1 es =>
     cases t1 with
     | Name x p1 =>
      induction es using List.casesOn with
      | nil=>first | exact ae | (cases ts <;> exact ae)
      | cons t2 es =>
       cases t2 with
       | Name y p2 =>
        induction es using List.casesOn with
        | cons t3 es=>first | exact ae | (cases ts <;> exact ae)
        | nil =>
         induction ts using List.casesOn with
         | cons _ _=>exact ae
         | nil =>
          cases e with
          | Tuple vs m p3 =>
           induction vs using List.casesOn with
           | nil=>exact ae
           | cons a vs =>
            induction vs using List.casesOn with
            | nil=>exact ae
            | cons b vs =>
             induction vs using List.casesOn with
             | nil=>exact fV S hP hR H V
             | cons b2 vs=>exact ae
          | _=>exact ae
       | _=>first | exact ae | (cases ts <;> exact ae)
     | _=>first | exact ae | (cases ts <;> exact ae)
   | _=>first | exact ae | (cases ts <;> exact ae)
 | _=>exact ae
end
noncomputable abbrev Cf.down (C:Cf) (env:Env):Cf:={ C with fs:=env :: C.fs }
theorem bi {C:Cf} {env:Env} {L:Addr} (hf:env.frame = some L):(C.down env).fl = L :: C.fl:=by
 show (env :: C.fs).filterMap (·.frame) = _
 rw [List.filterMap_cons,hf]
 rfl
theorem Ext.call {C:Cf} {env:Env} {L:Addr} {μ μ':Mu} {h h1 h':Heap} {W:Addr->Prop} (hf:env.frame = some L) (hL:h.objs.size ≤ L) (x0:aW C μ h μ h1) (x:Ext (C.down env) W μ h1 μ' h') (hW:∀ b,W b->h.objs.size ≤ b) :
  aW C μ h μ' h':=by
 refine ⟨x.pre,Nat.le_trans x0.size x.size,fun i p hi e=>?_,fun b o e hd z0=>?_⟩
 .obtain ⟨n1,n2⟩:=x.new i p hi e
  exact ⟨Nat.le_trans x0.size n1,Nat.le_trans x0.size n2⟩
 .have hb:=Heap.lt_size e
  have hw:¬ W b:=fun q=>Nat.lt_irrefl _ (Nat.lt_of_lt_of_le hb (hW b q))
  obtain ⟨k1,k2⟩:=x0.keep b o e hd (fun q=>q)
  constructor
  .intro hn
   refine (x.keep b o (k1 hn) hd hw).1 fun q=>?_
   rw [bi hf] at q
   rcases List.mem_cons.mp q with q | q
   .exact Nat.lt_irrefl _ (Nat.lt_of_lt_of_le hb (q ▸ hL))
   .exact hn q
  .intro hm
   obtain ⟨sl,q⟩:=k2 hm
   obtain ⟨sl',q'⟩:=(x.keep b _ q hd hw).2 (by rw [bi hf]; exact List.mem_cons_of_mem _ hm)
   exact ⟨sl',q'⟩
section
variable {C:Cf} {A:Around} {μ:Mu} {σ:ac} {s:Shared} {c:Ctx} {env:Env}
theorem HR.down (H:HR C μ σ s) {L:Addr} {m:Str->Option Value} (hf:env.frame = some L) (hk:env.scope.kind = .function) (hn:s.heap.Ns L m) (hb:C.base.get? L = none) (hmu:∀ (i:Nat) (p:Addr × Addr),μ[i]? = some p->p.1 ≠ L/\p.2 ≠ L):HR (C.down env) μ σ s:=by
 refine ⟨H.gens,H.os,H.stay,H.gstay,H.len,H.obj,H.sep,H.new,H.own,fun e he=>?_,fun i p e=>?_,H.tabs,H.tabs0,fun b hb=>?_,H.h0k⟩
 .rcases List.mem_cons.mp he with rfl | he
  .exact ⟨hk,L,m,hf,hn,hb⟩
  .exact H.frames e he
 .rw [bi hf]
  obtain ⟨n1,n2⟩:=H.frm i p e
  obtain ⟨n3,n4⟩:=hmu i p e
  exact ⟨fun q=>(List.mem_cons.mp q).elim n3 n1,fun q=>(List.mem_cons.mp q).elim n4 n2⟩
 .rw [bi hf]; exact List.mem_cons_of_mem _ (H.h0f b hb)
theorem HR.up (hh:∀ L ∈ C.h0fl,L ∈ C.fl) {L:Addr} (hf:env.frame = some L) (H:HR (C.down env) μ σ s):HR C μ σ s:=by
 refine ⟨H.gens,H.os,H.stay,H.gstay,H.len,H.obj,H.sep,H.new,H.own,fun e he=>H.frames e (List.mem_cons_of_mem _ he),fun i p e=>?_,H.tabs,H.tabs0,hh,H.h0k⟩
 obtain ⟨n1,n2⟩:=H.frm i p e
 rw [bi hf] at n1 n2
 exact ⟨fun q=>n1 (List.mem_cons_of_mem _ q),fun q=>n2 (List.mem_cons_of_mem _ q)⟩
theorem dT {sc:Scope} {fz:Nat}:∀ (l:List (Str × AV)) (c:Ctx),(bindAll sc fz l c).sc = c.sc/\(bindAll sc fz l c).fz = c.fz
 | [],_=>⟨rfl,rfl⟩
 | (x,v) :: r,c=>by
  unfold bindAll
  split
  .exact dT r _
  .exact dT r _
theorem di {sc:Scope} {fz:Nat}:∀ (l:List (Str × AV)) (c:Ctx),(bindAll sc fz l c).tab = c.tab
 | [],_=>rfl
 | (x,v) :: r,c=>by
  unfold bindAll
  split
  .exact di r _
  .exact di r _
theorem gC {g h:Heap} {sc:Scope} {fz:Nat} {kindOf:Str->Option NameKind} (hk:∀ x,kindOf x = sc.names.lookup x) :
  ∀ (ps:List Str) (ws:List Value) (ys:List AV) (m cm:Str->Option Value) (c:Ctx),VRs g μ h ws ys->(∀ x ∈ ps,sc.names.lookup x = some .local\/sc.names.lookup x = some .cell) ->
   (∀ x a,c.loc x = some a->∃ v,m x = some v/\VR g μ h v a)->(∀ x a,c.cel x = some a->∃ v,cm x = some v/\VR g μ h v a) ->
   (∀ x a,(bindAll sc fz (ps.zip ys) c).loc x = some a->∃ v,bindL kindOf (ps.zip ws) m x = some v/\VR g μ h v a) /\
   (∀ x a,(bindAll sc fz (ps.zip ys) c).cel x = some a->∃ v,bindC kindOf (ps.zip ws) cm x = some v/\VR g μ h v a)
 | [],_,_,_,_,_,_,_,h1,h2=>⟨by simpa [bindAll,bindL] using h1,by simpa [bindAll,bindC] using h2⟩
 | p :: ps,_,_,m,cm,c,.nil,_,h1,h2=>⟨by simpa [bindAll,bindL] using h1,by simpa [bindAll,bindC] using h2⟩
 | p :: ps,w :: ws,y :: ys,m,cm,c,.cons hv hr,hp,h1,h2=>by
  have hp':∀ x ∈ ps,sc.names.lookup x = some .local\/sc.names.lookup x = some .cell:=fun x hx=>hp x (List.mem_cons_of_mem _ hx)
  have one:∀ (f:Str->Option AV) (F:Str->Option Value),(∀ x a,f x = some a->∃ v,F x = some v/\VR g μ h v a)->∀ x a,upd f p y x = some a->∃ v,(fun z=>if z = p then some w else F z) x = some v/\VR g μ h v a:=by
   intro f F hfF x a hx
   unfold upd at hx
   by_cases e:x = p
   .rw [if_pos e] at hx; injection hx with hx; subst hx
    exact ⟨w,if_pos e,hv⟩
   .rw [if_neg e] at hx
    obtain ⟨v,q1,q2⟩:=hfF x a hx
    exact ⟨v,(if_neg e).trans q1,q2⟩
  rw [List.zip_cons_cons,List.zip_cons_cons]
  unfold bindAll bindL bindC
  rcases hp p List.mem_cons_self with e | e
  .have n1:¬ sc.names.lookup p = some .cell:=by rw [e]; decide
   rw [if_neg n1,if_pos ((hk p).trans e),if_pos ((hk p).trans e)]
   exact gC hk ps ws ys _ cm _ hr hp' (one _ _ h1) h2
  .have n2:¬ kindOf p = some .local:=by rw [hk,e]; decide
   rw [if_pos e,if_neg n2,if_neg n2]
   exact gC hk ps ws ys m _ _ hr hp' h1 (one _ _ h2)
set_option tactic.hygienic true in
theorem dS:∀ (names:List (Str × NameKind)) (n:Nat) (acc:List (Str × Addr)) (x:Str),((x,NameKind.cell) ∈ names\/(acc.lookup x).isSome = true)->((cellsFrom n names acc).lookup x).isSome = true
 | [],_,acc,x,h=>by
  rcases h with h | h
  .exact nomatch h
  .exact h
 | (y,k) :: r,n,acc,x,h=>by
  unfold cellsFrom
  have key:(acc.lookup x).isSome = true->(((y,n) :: acc).lookup x).isSome = true:=fun q=>by
   rw [List.lookup_cons]
   induction x == y using Bool.casesOn with
   | true=>rfl
   | false=>exact q
  split
  .rename_i hk
   refine dS r _ _ x ?_
   rcases h with h | h
   .rcases List.mem_cons.mp h with h | h
    .injection h with h1 h2
     right
     rw [List.lookup_cons,h1,beq_self_eq_true]; rfl
    .exact .inl h
   .exact .inr (key h)
  .rename_i hk
   refine dS r _ _ x ?_
   rcases h with h | h
   .rcases List.mem_cons.mp h with h | h
    .injection h with h1 h2
     subst h2
     exact absurd rfl hk
    .exact .inl h
   .exact .inr h
theorem fu {names:List (Str × NameKind)} {n:Nat} {x:Str} (h:names.lookup x = some .cell):∃ ad,(cellsFrom n names []).lookup x = some ad :=
 Option.isSome_iff_exists.mp (dS names n [] x (.inl (PySem.mem_of_lookup h)))
end
section
variable {r:Rc} {n:Nat} {C:Cf} {A:Around} {μ:Mu} {σ:ac} {s:Shared}
theorem enter (O:Ok C) (H:HR C μ σ s) {d:jo} {o:Obj} {fd:FuncData} (F:tS C.ghost d o fd) (fa:Addr) (tb:Bool) (htc:tb = true->∃ cc P,fd.code = .ref cc/\CodeHd C.ghost cc P/\P ∈ C.tb/\C.tq P = (fd.qualname ++ ".<locals>.") ++ "<lambda>") {ws:List Value} {ys:List AV} (hws:VRs C.ghost μ s.heap ws ys) {s1:Shared}
  (x:InCallC s (callEnvC fd s.heap.objs.size fa).locals (bindL (callEnvC fd s.heap.objs.size fa).kindOf (d.params.zip ws) fun z0=>none) (callEnvC fd s.heap.objs.size fa).cells
    (bindC (callEnvC fd s.heap.objs.size fa).kindOf (d.params.zip ws) fun z0=>none) s1) :
  aW C μ s.heap μ s1.heap/\HR (C.down (callEnvC fd s.heap.objs.size fa)) μ σ s1 /\
   ax (C.down (callEnvC fd s.heap.objs.size fa)) (bindAll d.scope C.fz (d.params.zip ys) { sc:=d.scope,loc:=fun z0=>Option.none,cel:=fun z0=>Option.none,fz:=C.fz,tab:=tb }) (callEnvC fd s.heap.objs.size fa) μ s1.heap:=by
 obtain ⟨h1,tk,rfl,hkeep⟩:=x.done
 have hsz:s.heap.objs.size ≤ h1.objs.size:=Nat.le_of_lt x.toInCall.ns.lt
 obtain ⟨x0,H1⟩:=H.keeps (s':={ s with heap:=h1,toks:=tk }) hkeep hsz rfl rfl
 have hL:(callEnvC fd s.heap.objs.size fa).locals = s.heap.objs.size:=rfl
 have hf:(callEnvC fd s.heap.objs.size fa).frame = some s.heap.objs.size:=rfl
 have hsc:(callEnvC fd s.heap.objs.size fa).scope = d.scope:=F.scope
 have hmu:∀ (i:Nat) (p:Addr × Addr),μ[i]? = some p->p.1 ≠ s.heap.objs.size/\p.2 ≠ s.heap.objs.size:=fun i p e=>⟨Nat.ne_of_lt (H.lt e).1,Nat.ne_of_lt (H.lt e).2⟩
 have hb:C.base.get? s.heap.objs.size = none:=Heap.StaysIn.fresh H.stay
 have hk:∀ y,(callEnvC fd s.heap.objs.size fa).kindOf y = d.scope.names.lookup y:=fun y=>by unfold Env.kindOf; rw [hsc]
 obtain ⟨e1,e2⟩:=dT (sc:=d.scope) (fz:=C.fz) (d.params.zip ys) { sc:=d.scope,loc:=fun z0=>Option.none,cel:=fun z0=>Option.none,fz:=C.fz,tab:=tb }
 have hck:∀ y,(bindAll d.scope C.fz (d.params.zip ys) { sc:=d.scope,loc:=fun z0=>Option.none,cel:=fun z0=>Option.none,fz:=C.fz,tab:=tb }).kind y = d.scope.names.lookup y:=fun y=>by unfold Ctx.kind; rw [e1]
 obtain ⟨b1,b2⟩:=gC (g:=C.ghost) (μ:=μ) (h:=h1) (fz:=C.fz) hk d.params ws ys (fun z0=>none) (fun z0=>none) { sc:=d.scope,loc:=fun z0=>Option.none,cel:=fun z0=>Option.none,fz:=C.fz,tab:=tb }
  (VRs.ext H wild0 x0 hws) F.pars (fun z0 z0 q=>nomatch q) (fun z0 z0 q=>nomatch q)
 have htb:s.heap.objs.size ∉ C.tb:=fun q=>by
  obtain ⟨ps,e,_⟩:=H.tabs _ q
  exact Nat.lt_irrefl _ (Heap.lt_size e)
 have hfl:s.heap.objs.size ∉ C.fl:=by
  intro hf
  obtain ⟨env,he,hfr⟩:=List.mem_filterMap.mp hf
  obtain ⟨_,L,m,h1,h2,_⟩:=H.frames env he
  rw [h1] at hfr; injection hfr with hfr
  exact Nat.lt_irrefl _ (hfr ▸ h2.lt)
 refine ⟨x0,H1.down hf (by rw [hsc]; exact F.kind) x.toInCall.ns hb hmu,⟨by rw [hsc]; exact F.kind,F.glob,F.blt,fun y q=>(hk y).trans ((hck y).symm.trans q),fun y q=>(hk y).trans ((hck y).symm.trans q),fun y q=>?_,fun y q=>(hk y).trans ((hck y).symm.trans q),
  ⟨_,x.toInCall.ns,b1⟩,⟨hmu,hb,htb,fun q=>hfl (H.h0f _ q)⟩,fun y q=>?_,fun y z ad q1 q2=>PySem.name_of_addr x.apart (PySem.mem_of_lookup q1) (PySem.mem_of_lookup q2),fun y ad q=>⟨_,x.cell y ad q⟩,
  ⟨_,C.fs,_,rfl,hf,hf⟩,e2,fun q=>htc (by rw [di] at q; exact q)⟩⟩
 .exact absurd ((hck y).symm.trans q) (F.nofree y)
 .rcases q with q | q
  .obtain ⟨ad,had⟩:=fu (n:=s.heap.objs.size + 1) ((hck y).symm.trans q)
   have had':(callEnvC fd s.heap.objs.size fa).cells.lookup y = some ad:=by
    show (cellsFrom (s.heap.objs.size + 1) fd.scope.names []).lookup y = some ad
    rw [F.scope]; exact had
   refine ⟨ad,had',⟨_,x.cell y ad had',fun a ha=>?_⟩,fun z0=>?_⟩
   .obtain ⟨v,q1,q2⟩:=b2 y a ha
    exact ⟨v,q1,q2⟩
   .have:=x.above y ad (PySem.mem_of_lookup had')
    induction hq:C.base.get? ad using Option.casesOn with
    | none=>rfl
    | some o'=>exact absurd (Heap.lt_size (H.stay _ _ hq)) (Nat.not_lt.mpr (Nat.le_of_lt this))
  .exact absurd ((hck y).symm.trans q) (F.nofree y)
theorem Ok.down {env:Env} (O:Ok C):Ok (C.down env):=⟨O.fewfn,O.toldfn,O.errg,O.errc,O.codes,O.callee,O.fns,O.nolim,O.glo,O.kin,O.cls,O.h0d⟩
theorem md {α β:Type} {P:α->Prop}:∀ (xs:List α) (ys:List β),(∀ x ∈ xs,P x)->∀ p ∈ xs.zip ys,P p.1
 | [],_,_,_,h=>by simp at h
 | _ :: _,[],_,_,h=>by simp at h
 | x :: xs,y :: ys,hp,p,h=>by
  rw [List.zip_cons_cons] at h
  rcases List.mem_cons.mp h with h | h
  .subst h; exact hp x List.mem_cons_self
  .exact md xs ys (fun z hz=>hp z (List.mem_cons_of_mem _ hz)) p h
theorem jO (S:Snd Ok r n) (hP:Ok C) (hR:Rm C A (n + 1)) (H:HR C μ σ s) {f:Str} (hf:fnAll.contains f = true) {vs:List Value} {xs:List AV} (hv:VRs C.ghost μ s.heap vs xs) :
  fe C A (XP C) μ σ s (.call (.ref (C.fn f)) ⟨vs,[]⟩) (callDef r f C.fz xs):=by
 obtain ⟨d,o,fd,e1,e2,F⟩:=hP.fns f hf
 unfold callDef
 rw [e1]
 dsimp only
 induction hw:withDefaults d xs using Option.casesOn with
 | none=>trivial
 | some ys =>
  dsimp only
  obtain ⟨ws,hws,hb⟩:=F.binds s μ vs xs ys H.ghost hv hw
  have hfe:(callEnvC fd s.heap.objs.size (C.fn f)).frame = some s.heap.objs.size:=rfl
  have room:A.depth < recursionLimit:=hR.d0 (k:=0) (by decide)
  have R':Rm (C.down (callEnvC fd s.heap.objs.size (C.fn f))) (A.deeper (callEnvC fd s.heap.objs.size (C.fn f))) n:=by
   refine ⟨hR.handled,?_,?_,?_⟩
   .show A.frames.map _ = _
    rw [hR.frames]; rfl
   .exact hR.de (k:=1) (by decide)
   .exact hR.un (k:=3) (by decide)
  have run:∀ (RR:Result->Shared->Prop),(∀ s1,aW C μ s.heap μ s1.heap->HR (C.down (callEnvC fd s.heap.objs.size (C.fn f))) μ σ s1 ->
    ax (C.down (callEnvC fd s.heap.objs.size (C.fn f))) (bindAll d.scope C.fz (d.params.zip ys) { sc:=d.scope,loc:=fun z0=>Option.none,cel:=fun z0=>Option.none,fz:=C.fz,tab:=tabFn f }) (callEnvC fd s.heap.objs.size (C.fn f)) μ s1.heap->(∀ y ad,(callEnvC fd s.heap.objs.size (C.fn f)).cells.lookup y = some ad->s.heap.objs.size ≤ ad) ->
    wpAny (model C.prog C.w) (A.deeper (callEnvC fd s.heap.objs.size (C.fn f))) (execs d.body (callEnvC fd s.heap.objs.size (C.fn f))) (fun f s'=>RR (.ok (.ret (match f with | .ret v=>v | _=>.none))) s')
     (fun e s'=>wpAny (model C.prog C.w) (A.deeper (callEnvC fd s.heap.objs.size (C.fn f))) (leaving (callEnvC fd s.heap.objs.size (C.fn f)) e) (fun z0 s''=>RR (.error e) s'') (fun e' s''=>RR (.error e') s'') s') s1) ->
    codeAny (model C.prog C.w) A (.call (.ref (C.fn f)) ⟨vs,[]⟩) RR s:=fun RR h=>by
   refine codeAny_call_function room (H.ghost _ _ e2) F.dat (by rw [F.scope]; exact F.co) (by rw [F.scope]; exact F.gen) F.body (F.code.keeps H.ghost) (hb _ _ _ _ ?_)
   rw [F.clo]
   refine PySem.wpAny_newFunctionEnv_cells (by rw [F.scope]; exact F.kind) (fun p hp=>?_) fun env he s1 x=>?_
   .have:=md (P:=fun x=>d.scope.names.lookup x = some .local\/d.scope.names.lookup x = some .cell) d.params ws F.pars p hp
    rw [F.scope]
    rcases this with q | q
    .exact .inl q
    .obtain ⟨ad,had⟩:=fu (n:=s.heap.objs.size + 1) q
     exact .inr ⟨q,by rw [had]; rfl⟩
   .subst he
    obtain ⟨x0,H1,V1⟩:=enter hP H F (C.fn f) (tabFn f) (fun q=>hP.codes f o fd q e2 F.dat) hws x
    exact ⟨hP.nolim.keeps fun b o e=>H1.ghost _ _ e,codeAny_func (h s1 x0 H1 V1 fun y ad q=>Nat.le_of_lt (x.above y ad (PySem.mem_of_lookup q)))⟩
  have sim:=fun s1 (H1:HR (C.down (callEnvC fd s.heap.objs.size (C.fn f))) μ σ s1)
    (V1:ax (C.down (callEnvC fd s.heap.objs.size (C.fn f))) (bindAll d.scope C.fz (d.params.zip ys) { sc:=d.scope,loc:=fun z0=>Option.none,cel:=fun z0=>Option.none,fz:=C.fz,tab:=tabFn f }) (callEnvC fd s.heap.objs.size (C.fn f)) μ s1.heap) =>
   bS S hP.down R' ⟨C.fs,rfl⟩ d.body μ σ s1 _ H1 V1
  unfold fe
  rw [ai]
  induction hO:evSs r d.body (bindAll d.scope C.fz (d.params.zip ys) { sc:=d.scope,loc:=fun z0=>Option.none,cel:=fun z0=>Option.none,fz:=C.fz,tab:=tabFn f }) σ using Out.casesOn with
  | stuck=>trivial
  | exc =>
   intro RR hE
   refine run RR fun s1 x0 H1 V1 hab=>?_
   have h:=sim s1 H1 V1
   unfold af at h
   rw [hO] at h
   refine h _ _ fun e s' hx=>?_
   exact XP.leaves (C:=C.down (callEnvC fd s.heap.objs.size (C.fn f))) hP.down rfl R'.frames hfe hx fun s' hx'=>hE _ _ hx'
  | ok fl σ' =>
   have key:∀ (a:AV),(∀ (fw:Flow) (μ':Mu) (s':Shared),RF (C.down (callEnvC fd s.heap.objs.size (C.fn f))) (bindAll d.scope C.fz (d.params.zip ys) { sc:=d.scope,loc:=fun z0=>Option.none,cel:=fun z0=>Option.none,fz:=C.fz,tab:=tabFn f }) (callEnvC fd s.heap.objs.size (C.fn f)) μ' s' fw fl ->
      VR C.ghost μ' s'.heap (match fw with | .ret v=>v | _=>.none) a)->∀ (RR:Result->Shared->Prop),(∀ μ' v s',aW C μ s.heap μ' s'.heap->HR C μ' σ' s'->VR C.ghost μ' s'.heap v a->RR (.ok (.ret v)) s') ->
     codeAny (model C.prog C.w) A (.call (.ref (C.fn f)) ⟨vs,[]⟩) RR s:=by
    intro a ha RR hRR
    refine run RR fun s1 x0 H1 V1 hab=>?_
    have h:=sim s1 H1 V1
    unfold af at h
    rw [hO] at h
    refine h _ _ fun μ' fw s' x' H' r'=>?_
    refine hRR μ' _ s' (Ext.call hfe (Nat.le_refl _) x0 x' fun b q=>?_) (HR.up H.h0f hfe H') (ha fw μ' s' r')
    rcases q with q | ⟨y,q⟩
    .exact Nat.le_of_eq q.symm
    .exact hab y b q
   cases fl with
   | next c' =>
    exact key .none fun fw μ' s' r'=>by
     cases fw <;> first | exact r'.elim | exact .none
   | ret v =>
    exact key v fun fw μ' s' r'=>by
     cases fw <;> first | exact r'.elim | exact r'
end
theorem cQ {env:Env}:∀ {es:List Expr},es.all notStar = true->starEach es env = es.map fun e=>(false,eval e env)
 | [],_=>rfl
 | e :: es,h=>by
  rw [List.all_cons,Bool.and_eq_true] at h
  have he:starEach (e :: es) env = (false,eval e env) :: starEach es env:=by
   cases e <;> first | rfl | exact absurd h.1 Bool.false_ne_true
  rw [he,cQ h.2]
  rfl
theorem cH {env:Env} {pos:Pos}:∀ {es:List Expr},es.all notStar = true->∀ p ∈ backTo pos (starEach es env),p.1 = false:=by
 intro es h p hp
 rw [cQ h] at hp
 unfold backTo at hp
 simp -iota only [List.map_map,List.mem_map,Function.comp_apply] at hp
 obtain ⟨q,_,rfl⟩:=hp
 first | rfl | simp
section
variable {r:Rc} {n:Nat} {C:Cf} {A:Around} {W:Addr->Prop} {X:Value->Shared->Prop} {μ:Mu} {σ:ac} {s:Shared} {c:Ctx} {env:Env}
theorem nj {α β α' β':Type} {R:Mu->Shared->β->α->Prop} {R':Mu->Shared->β'->α'->Prop} {t:Sem β} {m:MM α} {f:β->Sem β'} {g:α->MM α'} {T:Sem β'}
  (e:∀ (Q:β'->Shared->Prop) (E:Value->Shared->Prop),wpAny (model C.prog C.w) A t (fun b s'=>C.ghost.StaysIn s'.heap/\wpAny (model C.prog C.w) A (f b) Q E s') E s->wpAny (model C.prog C.w) A T Q E s)
  (h:af C A W X μ σ s R t m) (k:∀ μ' σ' s' b a,Ext C W μ s.heap μ' s'.heap->HR C μ' σ' s'->R μ' s' b a->af C A W X μ' σ' s' R' (f b) (g a)) :
  af C A W X μ σ s R' T (m >>= g):=by
 unfold af at h ⊢
 rw [ai]
 induction hm:m σ using Out.casesOn with
 | stuck=>trivial
 | exc =>
  rw [hm] at h
  intro Q E hE
  exact e _ _ (h _ _ hE)
 | ok a σ' =>
  rw [hm] at h
  dsimp only at h ⊢
  induction hg:g a σ' using Out.casesOn with
  | stuck=>trivial
  | exc =>
   intro Q E hE
   refine e _ _ (h _ _ fun μ' b s' x H r=>⟨H.ghost,?_⟩)
   have:=k μ' σ' s' b a x H r
   unfold af at this
   rw [hg] at this
   exact this _ _ hE
  | ok a' σ'' =>
   intro Q E hQ
   refine e _ _ (h _ _ fun μ' b s' x H r=>⟨H.ghost,?_⟩)
   have:=k μ' σ' s' b a x H r
   unfold af at this
   rw [hg] at this
   exact this _ _ fun μ'' b' s'' x' H' r'=>hQ μ'' b' s'' (x.trans x') H' r'
noncomputable def qp (M:Model) (g:Heap) (f:Value):Prop:=∀ h,g.StaysIn h->∃ k,(k = Keeper.frame\/k = Keeper.machine\/k = Keeper.boundFrame)/\Looks M h (keeperOf f) k
theorem dN {M:Model} {g:Heap} {f:Value} (h:∀ a,f ≠ .ref a):qp M g f:=fun z0 z0=>by
 refine ⟨.machine,.inr (.inl rfl),?_⟩
 cases f <;> first | exact Looks.now | exact absurd rfl (h _)
theorem fJ {M:Model} {g:Heap} {fa:Addr} {o:Obj} {fd:FuncData} (e:g.get? fa = some o) (hd:o.data = .func fd):qp M g (.ref fa):=fun h k=>by
 refine ⟨.frame,.inl rfl,(Looks.ld (part:=none) (k _ _ e)).andThen ?_⟩
 rw [hd]
 exact .now
theorem bL {M:Model} {E:Value->Shared->Prop} {f:Value} {args:List (Bool × Sem Value)} {Q:Args->Shared->Prop} (hp:∀ p ∈ args,p.1 = false)
  (h:wpAny M A (spliced args) (fun vs s'=>Q ⟨vs,[]⟩ s') E s):wpAny M A (evalArgs f true args []) Q E s:=by
 induction args using List.casesOn with
 | nil =>
  unfold evalArgs
  show wpAny M A (spliced [] >>= _) Q E s
  refine wpAny_bind (wpAny_mono h (fun vs s' h'=>?_) fun z0 z0 x=>x)
  refine wpAny_bind (wpAny_pure ?_)
  refine wpAny_holding ?_
  exact wpAny_bind (wpAny_pure (wpAny_bind (wpAny_pure (wpAny_pure h'))))
 | cons p rest =>
  obtain ⟨b,x⟩:=p
  obtain rfl:b = false:=hp _ List.mem_cons_self
  exact evalArgs_plain h
theorem lc {args:List (Bool × Sem Value)} (hp:∀ p ∈ args,p.1 = false):args.any (·.1) = false:=by
 rw [List.any_eq_false]
 intro p h
 rw [hp p h]
 exact Bool.false_ne_true
theorem cx (S:Snd Ok r n) (hP:Ok C) (hR:Rm C A n) (H:HR C μ σ s) (V:ax C c env μ s.heap) {args:List Expr} (hs:args.all notStar = true) {f:Value} (hf:qp (model C.prog C.w) C.ghost f) {first:List Value} {pos p':Pos} {k:List AV->MM AV}
  (kk:∀ μ' σ' s' vs xs,aW C μ s.heap μ' s'.heap->HR C μ' σ' s'->VRs C.ghost μ' s'.heap vs xs->af C A W0 (XP C) μ' σ' s' (RV C) (call f (first ++ vs)) (k xs)) :
  af C A W0 (XP C) μ σ s (RV C) (callWith p' f first (backTo pos (starEach args env)) []) (do let vs <- evL r args c; k vs):=by
 have hp:=cH (env:=env) (pos:=pos) hs
 refine nj (t:=spliced (backTo pos (starEach args env))) (f:=fun vs=>call f (first ++ vs)) (fun Q E q=>?_) (fG S hP hR args μ σ s H V) kk
 refine PySem.W.callWith_of (P:=fun h=>C.ghost.StaysIn h) (by rw [lc hp]; rfl) (fun h hk=>hf h hk) ?_
 exact bL hp q
end
section
variable {r:Rc} {n:Nat} {C:Cf} {A:Around} {W:Addr->Prop} {X:Value->Shared->Prop} {μ:Mu} {σ:ac} {s:Shared} {c:Ctx} {env:Env}
theorem mM {vs:List Value} {ys:List Str} {x:Str} {t:Tok} (hv:VRs C.ghost μ s.heap vs (ys.map AV.str)) :
  ∃ e:Value->Bool,(∀ y,y ∈ vs.toArray->SeqAt.EqAt A s y (.str x t) (e y))/\∀ k (h1:k < vs.length) (h2:k < ys.length),e vs[k] = (ys[k] == x):=by
 have at':∀ k (h1:k < vs.length) (h2:k < ys.length),∃ u,vs[k] = .str ys[k] u:=fun k h1 h2=>by
  have hk':k < (ys.map AV.str).length:=by simpa using h2
  obtain ⟨v,q1,q2⟩:=hv.get (List.getElem?_eq_getElem hk')
  rw [List.getElem?_eq_getElem h1] at q1; injection q1 with q1
  rw [List.getElem_map] at q2
  obtain ⟨u,q3⟩:=q2.inv_str
  exact ⟨u,q1.trans q3⟩
 have hl:vs.length = ys.length:=by rw [hv.len,List.length_map]
 refine ⟨fun v=>match v with | .str y _=>y == x | _=>false,fun y hy=>?_,fun k h1 h2=>?_⟩
 .have hy':y ∈ vs:=by simpa using hy
  obtain ⟨k,hk,rfl⟩:=List.mem_iff_getElem.mp hy'
  obtain ⟨u,e⟩:=at' k hk (hl ▸ hk)
  rw [e]
  exact kQ
 .obtain ⟨u,e⟩:=at' k h1 h2
  rw [e]
theorem VRs.snoc {g h:Heap} {μ:Mu} {vs:List Value} {xs:List AV} {v:Value} {a:AV} (x:VRs g μ h vs xs) (y:VR g μ h v a):VRs g μ h (vs ++ [v]) (xs ++ [a]):=x.append (.cons y .nil)
noncomputable def lmId (m:Str):String:=if m = "append" then "list.append" else if m = "extend" then "list.extend" else "list.index"
theorem dt {n:Nat} (h:fits n = true):n ≤ 1000000:=by simpa [fits] using h
theorem hZ {fz i:Nat} {o:AO} {t:Sem Value} (h:fz ≤ i->∀ (Q:Value->Shared->Prop) (E:Value->Shared->Prop),
   (∀ μ' s',Ext C W μ s.heap μ' s'.heap->HR C μ' (σ.set i o) s'->Q .none s')->wpAny (model C.prog C.w) A t Q E s):af C A W X μ σ s (RV C) t (setO fz i o >>= fun z0=>MM.pure .none):=by
 rcases jU (fz:=fz) (i:=i) (o:=o) (σ:=σ) with ⟨σ',e⟩ | e
 .obtain ⟨h1,h2,rfl⟩:=mq e
  exact aA (a:=.none) (by rw [ai,e]; rfl) fun Q E hQ=>h h1 Q E fun μ' s' x H'=>hQ μ' .none s' x H' .none
 .exact ak (by rw [ai,e])
theorem lG (H:HR C μ σ s) {fz i:Nat} {p:Addr × Addr} {ys:List AV} {ws:List Value} {nn:Nat} (hp:μ[i]? = some p) (ho:σ[i]? = some (.list ys)) (e1:p.2 = p.1) (h1:s.heap.get? p.1 = some (listOf (List.toArray ws) nn)) (h2:VRs C.ghost μ s.heap ws ys) (hf:fz = C.fz) {w:Value} {b:AV} (hw:VR C.ghost μ s.heap w b) :
  af C A W X μ σ s (RV C) (call (.builtin "list.append") [.ref p.1,w]) (do MM.guard (fits ys.length); setO fz i (.list (ys ++ [b])); MM.pure .none):=by
 refine aj fun hft=>?_
 refine hZ fun hle Q E hQ=>?_
 refine wpAny_list_append_plain ⟨nn,h1⟩ (fun h' hp' hs=>?_) (by rw [List.size_toArray,h2.len,sizeLine_eq]; have:=dt hft; omega)
 obtain ⟨n',q⟩:=hp'
 obtain ⟨xx,H'⟩:=H.turn (h':=h') s.toks hp ho (hf ▸ hle) (.inl rfl) hs (o':=.list (ys ++ [b])) fun xx =>
  ⟨e1,ws ++ [w],n',by rw [q]; simp [PySem.W.listOf],(VRs.ext H wild0 xx h2).snoc (VR.ext H wild0 xx hw)⟩
 exact hQ μ _ xx.any H'
theorem lE (H:HR C μ σ s) {fz i:Nat} {p:Addr × Addr} {ys:List AV} {ws:List Value} {nn:Nat} (hp:μ[i]? = some p) (ho:σ[i]? = some (.list ys)) (e1:p.2 = p.1) (h1:s.heap.get? p.1 = some (listOf (List.toArray ws) nn)) (h2:VRs C.ghost μ s.heap ws ys) (hf:fz = C.fz) {w:Value} {b:AV} (hw:VR C.ghost μ s.heap w b) :
  af C A W X μ σ s (RV C) (call (.builtin "list.extend") [.ref p.1,w]) (do let zs <- getList b; MM.guard (fits (ys.length + zs.length)); setO fz i (.list (ys ++ zs)); MM.pure .none):=by
 refine aQ H hw fun l j us zs kk ev ea z0 z0 g1 g2=>aj fun hft=>?_
 rw [ev]
 refine hZ fun hle Q E hQ=>?_
 have hlen:ws.length + us.length ≤ 1000000:=by rw [h2.len,g2.len]; exact dt hft
 have big:¬ (!(List.toArray ws).isEmpty && Builtin.List.listTooLong ((List.toArray ws).size + (List.toArray us).size)) = true:=by
  unfold Builtin.List.listTooLong
  rw [List.size_toArray,List.size_toArray,sizeLine_eq,decide_eq_false (by omega),Bool.and_false]
  exact Bool.false_ne_true
 refine call_meets PySem.F.slot_list_extend ⟨_,h1,rfl⟩ PySem.F.entry_list_extend (PySem.F.args_list_extend_2 _ _)
  (AutoSeq1.list_extend_list_list_0 p.1 (List.toArray ws) nn l (List.toArray us) kk big (by rw [List.size_toArray,sizeLine_eq]; omega) (by rw [List.size_toArray,List.size_toArray,sizeLine_eq]; omega)) ⟨h1,g1,?_⟩
 have q:=Heap.get?_update_self (Obj.mapSeq fun x=>x ++ List.toArray us) h1 rfl
 obtain ⟨xx,H'⟩:=H.turn (h':=s.heap.update p.1 (Obj.mapSeq fun x=>x ++ List.toArray us)) s.toks hp ho (hf ▸ hle) (.inl rfl) (Heap.SameBut.update ..) (o':=.list (ys ++ zs)) fun xx =>
  ⟨e1,ws ++ us,(if (List.toArray ws ++ List.toArray us).size == (List.toArray ws).size then nn else nn + 1),by rw [q,show List.toArray (ws ++ us) = List.toArray ws ++ List.toArray us by simp]; rfl,(VRs.ext H wild0 xx h2).append (VRs.ext H wild0 xx g2)⟩
 exact hQ μ _ xx.any H'
theorem nc (H:HR C μ σ s) {p:Addr × Addr} {ys:List AV} {ws:List Value} {nn:Nat} (h1:s.heap.get? p.1 = some (listOf (List.toArray ws) nn)) (h2:VRs C.ghost μ s.heap ws ys) {x:Str} {t:Tok} :
  af C A W X μ σ s (RV C) (call (.builtin "list.index") [.ref p.1,.str x t]) (do let zs <- MM.opt (strsOf ys); MM.guard (zs.contains x && fits zs.length); MM.pure (.int (zs.idxOf x))):=by
 refine iK fun zs hzs=>aj fun hg=>?_
 rw [Bool.and_eq_true] at hg
 rw [ci hzs] at h2
 refine aA rfl fun Q E hQ=>?_
 obtain ⟨e,he,hat⟩:=mM (x:=x) (t:=t) (A:=A.in1) h2
 have hl:ws.length = zs.length:=by rw [h2.len,List.length_map]
 have hj:zs.idxOf x < zs.length:=List.idxOf_lt_length_iff.mpr (by simpa using hg.1)
 have hjw:zs.idxOf x < ws.length:=hl ▸ hj
 refine call_meets PySem.F.slot_list_index ⟨_,h1,rfl⟩ PySem.F.entry_list_index (PySem.F.args_list_index_2 _ _)
  (SeqAt.list_indexAt p.1 (List.toArray ws) nn none #[] (.str x t) e (zs.idxOf x) (by simpa using hjw) ?_ ?_ ?_) ⟨h1,he,?_⟩
 .have:=dt hg.2; omega
 .have:=hat (zs.idxOf x) hjw hj
  simp only [List.getElem_toArray]
  rw [this]
  simp
 .intro m hm hlt
  have hm':m < ws.length:=by simpa using hm
  have:=hat m hm' (hl ▸ hm')
  simp only [List.getElem_toArray]
  rw [this]
  exact List.not_of_lt_findIdx (p:=(· == x)) hlt
 .exact hQ μ _ _ Ext.refl (H.toks _) (.int _ _)
theorem mZ (H:HR C μ σ s) {fz:Nat} (hf:fz = C.fz) {v:Value} {a:AV} (hv:VR C.ghost μ s.heap v a) {vs:List Value} {xs:List AV} (hvs:VRs C.ghost μ s.heap vs xs) (m:Str) :
  af C A W X μ σ s (RV C) (call (.builtin (lmId m)) (v :: vs)) (listM fz a m xs):=by
 induction a using AV.casesOn with
 | obj i =>
  obtain ⟨p,rfl,hp⟩:=hv.inv_obj
  obtain ⟨o,ho,hor⟩:=H.objAt hp
  induction o using AO.casesOn with
  | list ys =>
   obtain ⟨e1,ws,nn,h1,h2⟩:=hor
   by_cases m1:m = "append"
   .rw [m1]
    exact bB (by unfold listM; dsimp only; rw [ho]; rfl) (aY (fun vs=>call (.builtin "list.append") (.ref p.1 :: vs)) hvs fun w b hw=>lG H hp ho e1 h1 h2 hf hw)
   .by_cases m2:m = "extend"
    .rw [m2]
     exact bB (by unfold listM; dsimp only; rw [ho]; rfl) (aY (fun vs=>call (.builtin "list.extend") (.ref p.1 :: vs)) hvs fun w b hw=>lE H hp ho e1 h1 h2 hf hw)
    .by_cases m3:m = "index"
     .rw [m3]
      exact bB (by unfold listM; dsimp only; rw [ho]; rfl) (aY (fun vs=>call (.builtin "list.index") (.ref p.1 :: vs)) hvs fun w b hw=>mY (fun w=>call (.builtin "list.index") [.ref p.1,w]) hw fun x t=>nc H h1 h2)
     .exact ak (by unfold listM; dsimp only; rw [ho]; dsimp only; rw [if_neg m1,if_neg m2,if_neg m3]; rfl)
  | _=>exact ak (by unfold listM; dsimp only; rw [ho])
 | _=>exact ae
end
section
variable {r:Rc} {n:Nat} {C:Cf} {A:Around} {W:Addr->Prop} {X:Value->Shared->Prop} {μ:Mu} {σ:ac} {s:Shared} {c:Ctx} {env:Env}
theorem sG {M:Model} {C:Cf} (O:Ok C) {f:Value} (h:keepIn C.K f = true):qp M C.ghost f:=fun g k=>PySem.W.keeps_K h g (O.kin.keeps k)
set_option tactic.hygienic true in
theorem lS {K:Frag} {D:Addr} (h:makesIn K D = true):keepIn K (.ref D) = true:=by
 unfold makesIn at h
 unfold keepIn
 dsimp only
 split at h
 .rename_i oc od cd sl ho
  rw [ho]
  simp only [Bool.and_eq_true] at h
  exact h.1.2
 .cases h
theorem jP {fa:Addr} {vs:List Value} {m:MM AV} (h:fe C A X μ σ s (.call (.ref fa) ⟨vs,[]⟩) m):af C A W0 X μ σ s (RV C) (call (.ref fa) vs) m:=by
 unfold fe at h
 unfold af
 induction hm:m σ using Out.casesOn with
 | stuck=>trivial
 | exc=>rw [hm] at h; exact fun Q E hE=>wpAny_call (h _ hE)
 | ok a σ'=>rw [hm] at h; exact fun Q E hQ=>wpAny_call (h _ fun μ' v s' x H' r=>hQ μ' v s' x H' r)
theorem AtR.getNone {g h:Heap} {es:List DictEntry} {r:List (Str × AV)} (x:AtR g μ h es r) {n:Str} (e:r.lookup n = none):getL n es = some none:=by
 have key:es.find? (fun e=>e.key.isStr n) = none:=by
  induction x with
  | nil=>rfl
  | @cons d y t b es r hk hv _ ih =>
   rw [List.lookup_cons] at e
   by_cases hn:n = y
   .subst hn; simp at e
   .have h1:(n == y) = false:=beq_eq_false_iff_ne.mpr hn
    have h2:(y == n) = false:=beq_eq_false_iff_ne.mpr (Ne.symm hn)
    rw [h1] at e
    rw [List.find?_cons,hk]
    have h3:(Value.str y t).isStr n = false:=h2
    rw [h3]
    exact ih e
 unfold getL
 rw [key]
 rw [x.noRef]
 rfl
set_option tactic.hygienic true in
theorem mK {v:AV} {m:Str} {σ:ac} {t:Bool} {σ':ac} (h:tagOf v m σ = .ok t σ'):σ' = σ/\∃ i,v = .obj i /\
  ((t = true/\(∃ xs,σ[i]? = some (.list xs))/\(m = "append" \/ m = "extend" \/ m = "index"))\/(t = false/\∃ at',σ[i]? = some (.inst "Grammar" at')/\grammarMs.contains m = true/\at'.lookup m = none)):=by
 induction v using AV.casesOn with
 | obj i =>
  unfold tagOf at h
  dsimp only at h
  induction ho:σ[i]? using Option.casesOn with
  | none=>rw [ho] at h; exact nomatch h
  | some o =>
   rw [ho] at h
   induction o using AO.casesOn with
   | list xs =>
    dsimp only at h
    split at h
    .rename_i hm
     injection h with h1 h2
     exact ⟨h2.symm,i,rfl,.inl ⟨h1.symm,⟨xs,ho⟩,hm⟩⟩
    .exact nomatch h
   | inst cl at' =>
    dsimp only at h
    split at h
    .rename_i hm
     injection h with h1 h2
     obtain ⟨rfl,h3,h4⟩:=hm
     exact ⟨h2.symm,i,rfl,.inr ⟨h1.symm,at',ho,h3,Option.isNone_iff_eq_none.mp h4⟩⟩
    .exact nomatch h
   | _=>exact nomatch h
 | _=>exact nomatch h
theorem jz {v:AV} {m:Str} {σ:ac}:tagOf v m σ ≠ .exc:=by
 induction v using AV.casesOn with
 | obj i =>
  unfold tagOf
  dsimp only
  split
  .split <;> exact fun q=>nomatch q
  .split <;> exact fun q=>nomatch q
  .exact fun q=>nomatch q
 | _=>exact fun q=>nomatch q
theorem iZ {v:Value} {l:Addr} {ws:List Value} {nn:Nat} {m:Str} (hm:m = "append" \/ m = "extend" \/ m = "index") (h1:s.heap.get? l = some (PySem.W.listOf (List.toArray ws) nn)) (hv:v = .ref l) {pl:Sem Bool} {Q:Value × List Value->Shared->Prop} {E:Value->Shared->Prop}
  (h:Q (.builtin (lmId m),[v]) s):wpAny (model C.prog C.w) A (getMethod v m pl) Q E s:=by
 subst hv
 have hl:s.heap.IsList l (List.toArray ws):=⟨_,h1,rfl,nn,rfl⟩
 have hd:s.heap.NoDictAt (.ref l):=⟨_,h1,rfl⟩
 rcases hm with rfl | rfl | rfl
 .exact PyProof.Rows.getMethod_list_of PySem.F.slot_list_append PySem.F.type_list_append hl hd h
 .exact PyProof.Rows.getMethod_list_of PySem.F.slot_list_extend PySem.F.type_list_extend hl hd h
 .exact PyProof.Rows.getMethod_list_of PySem.F.slot_list_index PySem.F.type_list_index hl hd h
theorem methodsAll {m:Str} (h:grammarMs.contains m = true):fnAll.contains ("Grammar." ++ m) = true:=by
 have:m = "symbol_count" \/ m = "is_terminal" \/ m = "number" := by
  unfold grammarMs at h
  simpa using h
 rcases this with rfl | rfl | rfl <;> decide +kernel
theorem nA (S:Snd Ok r n) (hP:Ok C) (hR:Rm C A n) (H:HR C μ σ s) (V:ax C c env μ s.heap) {o:Expr} {m:Str} {args:List Expr} {apos pos:Pos} :
  af C A W0 (XP C) μ σ s (RV C) (eval (.Call (.Attribute o m apos) args [] pos) env) (do
   MM.guard (plainBase o && args.all notStar && decide (args.length < 30) && apos.endLine == pos.line)
   let v <- r.E o c
   let t <- tagOf v m
   let vs <- evL r args c
   method r v t m c vs):=by
 refine aj fun hg=>?_
 rw [Bool.and_eq_true,Bool.and_eq_true,Bool.and_eq_true,decide_eq_true_eq] at hg
 obtain ⟨⟨⟨hb,hs⟩,hlen⟩,hline⟩:=hg
 rw [arm_eval_Call,cy hb]
 refine aq (S.E C A μ σ s c env o hP hR H V) fun μ1 σ1 s1 v a x1 H1 r1=>av ?_
 have V1:=V.ext0 H x1
 have hp:=cH (env:=env) (pos:=pos) hs
 have hform:methodCallForm (args.length + ([]:List Keyword).length) (backTo pos (starEach args env)) (backToKw pos (keywordEach [] env)) = true:=by
  unfold methodCallForm
  have h1:(backTo pos (starEach args env)).all (fun x=>!x.1) = true:=by
   rw [List.all_eq_true]; intro p hq; rw [hp p hq]; rfl
  rw [h1]
  show (true && true && decide (args.length + 0 + 0 < 30)) = true
  simp [hlen]
 have hpos:methodCallPos true o env apos pos = pure pos:=by unfold methodCallPos; simp [hline]
 unfold methodCall
 rw [hform,hpos]
 unfold af
 rw [ai]
 induction ht:tagOf a m σ1 using Out.casesOn with
 | stuck=>trivial
 | exc=>exact absurd ht jz
 | ok t σ2 =>
  obtain ⟨hσ,i,hi,hq⟩:=mK ht
  clear ht
  subst hσ hi
  obtain ⟨p,rfl,hpp⟩:=r1.inv_obj
  show af C A W0 (XP C) μ1 σ2 s1 (RV C) _ (do let vs <- evL r args c; method r (.obj i) t m c vs)
  rcases hq with ⟨rfl,⟨xs,ho⟩,hm⟩ | ⟨rfl,at',ho,hm,hat⟩
  .obtain ⟨_,ws,nn,h1,_⟩:=H1.obj i p _ hpp ho
   refine bq (t':=callWith pos (.builtin (lmId m)) [.ref p.1] (backTo pos (starEach args env)) []) (fun Q E q=>wpAny_bind (wpAny_holding (iZ hm h1 rfl (by
    dsimp only; rw [pure_bind]; exact q)))) ?_
   refine cx (f:=.builtin (lmId m)) S hP hR H1 V1 hs (dN (fun a q=>by cases q)) fun μ3 σ3 s3 vs xs x3 H3 r3=>?_
   exact mZ H3 V.fz (VR.ext H1 wild0 x3 r1) r3 m
  .obtain ⟨h1,es,nn,h2,h3⟩:=H1.obj i p _ hpp ho
   obtain ⟨k1,k2,k3⟩:=hP.callee.meth m hm
   obtain ⟨d,o',fd,e1,e2,F⟩:=hP.fns _ (methodsAll hm)
   refine bq (t':=callWith pos (.ref (C.fn ("Grammar." ++ m))) [.ref p.1] (backTo pos (starEach args env)) []) (fun Q E q=>wpAny_bind (wpAny_holding (
    PySem.W.method_fn (H1.kin hP) (instAt h1 h2) (plainGet_of k1).1 (plainGet_of k1).2 k2 (beq_iff_eq.mp k3) (by show (lookIn m (dictOf es nn)).map _ = _; rw [lookIn_dict,h3.getNone hat]; rfl) (by
     dsimp only; rw [pure_bind]; exact q)))) ?_
   refine cx S hP hR H1 V1 hs (fJ e2 F.dat) fun μ3 σ3 s3 vs xs x3 H3 r3=>?_
   show af _ _ _ _ _ _ _ _ (call (.ref (C.fn ("Grammar." ++ m))) (.ref p.1 :: vs)) (r.F ("Grammar." ++ m) c.fz (.obj i :: xs))
   rw [V.fz]
   exact jP (S.F C A μ3 σ3 s3 ("Grammar." ++ m) (.ref p.1 :: vs) (.obj i :: xs) hP hR H3 (methodsAll hm) (.cons (VR.ext H1 wild0 x3 r1) r3))
end
section
variable {r:Rc} {n:Nat} {C:Cf} {A:Around} {W:Addr->Prop} {X:Value->Shared->Prop} {μ:Mu} {σ:ac} {s:Shared} {c:Ctx} {env:Env}
theorem pW (H:HR C μ σ s) {b:Addr} (h:s.heap.objs.size ≤ b):b ∉ C.tb:=fun q=>by
 obtain ⟨ps,e,_⟩:=H.tabs _ q
 exact Nat.lt_irrefl _ (Nat.lt_of_lt_of_le (Heap.lt_size e) h)
theorem bU (H:HR C μ σ s) {b:Addr} (h:s.heap.objs.size ≤ b):b ∉ C.fl:=by
 intro hf
 obtain ⟨env,he,hfr⟩:=List.mem_filterMap.mp hf
 obtain ⟨_,L,m,h1,h2,_⟩:=H.frames env he
 rw [h1] at hfr; injection hfr with hfr
 exact Nat.lt_irrefl _ (Nat.lt_of_lt_of_le (hfr ▸ h2.lt) h)
theorem aT (H:HR C μ σ s) {b:Addr} (h:s.heap.objs.size ≤ b):C.base.get? b = none:=by
 induction hq:C.base.get? b using Option.casesOn with
 | none=>rfl
 | some o=>exact absurd (Heap.lt_size (H.stay _ _ hq)) (Nat.not_lt.mpr h)
theorem lV (H:HR C μ σ s) (f:Str):aW C μ s.heap (μ ++ [(s.heap.objs.size + 1,s.heap.objs.size)]) ((s.heap.push emptyDict).push (instObj (C.cls f) s.heap.objs.size)) /\
  HR C (μ ++ [(s.heap.objs.size + 1,s.heap.objs.size)]) (σ ++ [.inst f []]) { s with heap:=(s.heap.push emptyDict).push (instObj (C.cls f) s.heap.objs.size) }:=by
 obtain ⟨x1,H1⟩:=H.push emptyDict s.toks
 obtain ⟨x2,H2⟩:=H1.push (instObj (C.cls f) s.heap.objs.size) s.toks
 have hmu:∀ (i:Nat) (p:Addr × Addr),μ[i]? = some p->p.1 ≠ s.heap.objs.size + 1/\p.1 ≠ s.heap.objs.size/\p.2 ≠ s.heap.objs.size + 1/\p.2 ≠ s.heap.objs.size:=fun i p e=>by
  obtain ⟨h1,h2⟩:=H.lt e
  exact ⟨Nat.ne_of_lt (Nat.lt_succ_of_lt h1),Nat.ne_of_lt h1,Nat.ne_of_lt (Nat.lt_succ_of_lt h2),Nat.ne_of_lt h2⟩
 obtain ⟨y,H3⟩:=H2.adopt (W:=W0) (p:=(s.heap.objs.size + 1,s.heap.objs.size)) (o:=.inst f []) (h0:=s.heap) ⟨Nat.le_succ _,Nat.le_refl _⟩ (Nat.le_trans x1.size x2.size)
  ⟨aT H (Nat.le_succ _),aT H (Nat.le_refl _)⟩ hmu ⟨bU H (Nat.le_succ _),bU H (Nat.le_refl _)⟩ (fun z0 z0 z0=>by
   refine ⟨?_,[],0,?_,.nil⟩
   .have:=Heap.get?_push_size (s.heap.push emptyDict) (o:=instObj (C.cls f) s.heap.objs.size) rfl
    rw [Heap.size_push] at this
    exact this
   .exact Heap.get?_push_of_some _ (Heap.get?_push_size _ rfl))
 exact ⟨y (x1.trans x2),H3⟩
set_option backward.match.sparseCases false in
theorem nh (S:Snd Ok r n) (hP:Ok C) (hR:Rm C A (n + 1)) (H:HR C μ σ s) {f:Str} (hf:clsNames.contains f = true) {vs:List Value} {xs:List AV} (hv:VRs C.ghost μ s.heap vs xs) :
  af C A W0 (XP C) μ σ s (RV C) (call (.ref (C.cls f)) vs) (do
   let o <- alloc (.inst f [])
   let x <- r.F (f ++ ".__init__") C.fz (o :: xs)
   match x with
   | .none=>MM.pure o
   | _=>MM.stuck):=by
 obtain ⟨_,k2,k3,k4⟩:=hP.callee.clss f hf
 have hall:fnAll.contains (f ++ ".__init__") = true:=by
  have:f = "Rule" \/ f = "Grammar" := by unfold clsNames at hf; simpa using hf
  rcases this with rfl | rfl <;> decide +kernel
 obtain ⟨x0,H1⟩:=lV H f
 have X:=H.kin hP
 have R':Rm C (A.under (.builtin "type.__call__" ⟨.ref (C.cls f) :: vs,[]⟩)) n:=by
  refine ⟨hR.handled,hR.frames,?_,?_⟩
  .exact hR.de (k:=1) (by decide)
  .exact hR.un (k:=1) (by decide)
 have hF:=S.F C (A.under (.builtin "type.__call__" ⟨.ref (C.cls f) :: vs,[]⟩)) _ _ _ (f ++ ".__init__") (.ref (s.heap.objs.size + 1) :: vs) (.obj σ.length :: xs) hP R' H1 hall
  (.cons (.obj (p:=(s.heap.objs.size + 1,s.heap.objs.size)) (bT H.len _)) (VRs.ext H wild0 x0 hv))
 have run:∀ (RR:Result->Shared->Prop),codeAny (model C.prog C.w) (A.under (.builtin "type.__call__" ⟨.ref (C.cls f) :: vs,[]⟩)) (.call (.ref (C.fn (f ++ ".__init__"))) ⟨.ref (s.heap.objs.size + 1) :: vs,[]⟩) (InitBack (s.heap.objs.size + 1) RR)
   { s with heap:=(s.heap.push emptyDict).push (instObj (C.cls f) s.heap.objs.size) }->codeAny (model C.prog C.w) A (.call (.ref (C.cls f)) ⟨vs,[]⟩) RR s:=fun RR h=>by
  obtain ⟨hh,g,d,t,os⟩:=s
  exact make_core (makes_of X k2) (looks_findIn X k3) (fun self=>bind_fn X self k4) (.inl rfl) h
 unfold af
 rw [ai,show alloc (AO.inst f []) σ = .ok (.obj σ.length) (σ ++ [.inst f []]) from rfl]
 dsimp only
 rw [ai]
 unfold fe at hF
 induction hO:r.F (f ++ ".__init__") C.fz (.obj σ.length :: xs) (σ ++ [.inst f []]) using Out.casesOn with
 | stuck=>trivial
 | exc =>
  rw [hO] at hF
  exact fun Q E hE=>wpAny_call (run _ (hF _ fun e s' hx=>hE e s' hx))
 | ok a σ' =>
  rw [hO] at hF
  cases a with
  | none =>
   refine fun Q E hQ=>wpAny_call (run _ (hF _ fun μ' v s' x' H' r'=>?_))
   rw [r'.inv_none]
   exact ⟨rfl,hQ μ' _ s' (x0.trans x') H' (.obj (p:=(s.heap.objs.size + 1,s.heap.objs.size)) (x'.idx (bT H.len _)))⟩
  | _=>trivial
end
end Mine.Internal
end
section
set_option backward.match.sparseCases false
namespace Mine.Internal
open PySem PySem.Calls PyProof.Rows PySem.W
theorem fy {prog:Program} {w:World} {K:Type} [DecidableEq K] (knd:HeapKind prog w K) (d:Addr) (hd:(d == sysModules) = false) :
  MeetsIn prog w (Builtin.«dict.__len__» ⟨[.ref d],[]⟩) (fun z0 R s=>∃ xs,s.heap.DictOfH knd d xs/\R (.ok (.ret (.int xs.length s.toks))) { s with toks:=s.toks + 1 }) :=
 .of_wp fun A R s ⟨xs,hm,h⟩=>by
  obtain ⟨o,es,ep,ho,hc,hdat,he,hk,hn⟩:=hm
  show wpAny _ _ (dictSize d >>= _) _ _ s
  unfold dictSize
  refine wpAny_bind (wpAny_bind (wpAny_dictEntries ho hdat (wpAny_pure ?_)))
  refine wpAny_bind (wpAny_pendingCount_other hd ?_)
  refine wpAny_ret_mkInt ?_
  rw [Nat.add_zero,size_of_entries he]; exact h
section
variable {prog:Program} {w:World} {A:Around} {E:Value->Shared->Prop} {s:Shared}
theorem gB {K:Type} [DecidableEq K] {knd:HeapKind prog w K} {d:Addr} {xs:List (K × Addr × Value)} {Q:Value->Shared->Prop} (hd:(d == sysModules) = false) (hm:s.heap.DictOfH knd d xs) (hfit:(xs.length:Int) < 2 ^ 63)
  (h:Q (.int xs.length (s.toks + 1)) { s with toks:=s.toks + 1 + 1 }):wpAny (model prog w) A (call (.builtin "len") [.ref d]) Q E s :=
 call_len_slot hm.typeIs F.slot_dict_len (fun Q' q=>call_meetsIn F.slot_dict_len hm.typeIs F.entry_dict_len (F.args_dict_len_1 _) (fy knd d hd) ⟨xs,hm,q⟩) (by omega) (by omega) h
end
section
variable {r:Rc} {n:Nat} {C:Cf} {A:Around} {W:Addr->Prop} {X:Value->Shared->Prop} {μ:Mu} {σ:ac} {s:Shared} {c:Ctx} {env:Env}
theorem pM (a:AV) (σ:ac):(∃ n,lenV a σ = .ok n σ)\/lenV a σ = .stuck:=by
 induction a using AV.casesOn with
 | tup xs=>exact .inl ⟨_,rfl⟩
 | obj i =>
  unfold lenV
  dsimp only
  split
  .exact .inl ⟨_,rfl⟩
  .exact .inl ⟨_,rfl⟩
  .exact .inr rfl
 | _=>exact .inr rfl
theorem qQ (O:Ok C) (H:HR C μ σ s) {v:Value} {a:AV} (hv:VR C.ghost μ s.heap v a) :
  af C A W X μ σ s (RV C) (call (.builtin "len") [v]) (do let n <- lenV a; MM.guard (fits n); MM.pure (.int n)):=by
 refine oZ (fun k hk=>aj fun hf=>?_) (pM a σ)
 have hle:=dt hf
 refine aA rfl fun Q E hQ=>?_
 have fin:Q (.int k (s.toks + 1)) { s with toks:=s.toks + 1 + 1 }:=hQ μ _ _ Ext.refl (H.toks _) (.int _ _)
 induction a using AV.casesOn with
 | tup xs =>
  injection hk with hk _
  obtain ⟨t,vs,n,rfl,h1,h2⟩:=hv.inv_tup
  have hl:=h2.len
  rw [hk] at hl
  exact PyProof.Rows.len_tuple ⟨_,h1,rfl,n,rfl⟩ (by rw [List.size_toArray]; omega) (by rw [List.size_toArray,hl]; exact fin)
 | obj i =>
  obtain ⟨p,rfl,hp⟩:=hv.inv_obj
  obtain ⟨o,ho,hor⟩:=H.objAt hp
  unfold lenV at hk
  dsimp only at hk
  rw [ho] at hk
  induction o using AO.casesOn with
  | list xs =>
   injection hk with hk _
   obtain ⟨e1,vs,n,h1,h2⟩:=hor
   have hl:=h2.len
   rw [hk] at hl
   exact call_len_list ⟨_,h1,rfl,n,rfl⟩ (by rw [List.size_toArray]; omega) (by rw [List.size_toArray,hl]; exact fin)
  | wset ws =>
   injection hk with hk _
   obtain ⟨e1,_,xs,h1,h2,h3⟩:=hor
   have hl:xs.length = k:=by rw [<- hk,<- h2,List.length_map]
   exact gB (H.mods O.glo hp) h1 (by rw [hl]; omega) (by rw [hl]; exact fin)
  | _=>exact nomatch hk
 | _=>exact nomatch hk
theorem mW (H:HR C μ σ s) {n:Int} {t:Tok} :
  af C A W X μ σ s (RV C) (call (.type "range") [.int n t]) (do MM.guard (decide (0 ≤ n/\n ≤ 1000)); MM.pure (.rng n.toNat)):=by
 refine aj fun hg=>?_
 rw [decide_eq_true_eq] at hg
 refine aA rfl fun Q E hQ=>call_range_1 ?_
 obtain ⟨x,H'⟩:=H.push { cls:=.type "range", data:=.fields #[.int 0 s.toks,.int n t,.int 1 (s.toks + 1)] } (s.toks + 1 + 1)
 refine hQ μ _ _ x.any H' (.rng (t:=s.toks) (u:=t) (v:=s.toks + 1) ?_)
 have e:Int.ofNat n.toNat = n:=by have:=Int.toNat_of_nonneg hg.1; simpa using this
 rw [e]
 exact Heap.get?_push_size _ rfl
theorem eI (H:HR C μ σ s) {m:MM AV} {a:AV} {t:Sem Value} (e:m σ = .ok a σ)
  (h:∀ (Q:Value->Shared->Prop) (E:Value->Shared->Prop),(∀ v h' tk,(∀ b o,s.heap.get? b = some o->h'.get? b = some o)->s.heap.objs.size ≤ h'.objs.size->VR C.ghost μ h' v a->Q v { s with heap:=h',toks:=tk })->wpAny (model C.prog C.w) A t Q E s) :
  af C A W X μ σ s (RV C) t m :=
 aA e fun Q E hQ=>h Q E fun v h' tk k z r=>by
  obtain ⟨x,H'⟩:=H.keeps (s':={ s with heap:=h',toks:=tk }) k z rfl rfl
  exact hQ μ v _ x.any H' r
theorem gr {g h:Heap} {μ:Mu}:∀ {vs:List Value} {ns:List Int},VRs g μ h vs (ns.map AV.int)->IntsAre vs ns
 | _,[],x=>by cases x; exact .nil
 | _,n :: ns,x=>by
  cases x with
  | cons h1 r =>
   obtain ⟨t,rfl⟩:=h1.inv_int
   exact .cons n t (gr r)
theorem nR (is:List Int):∀ (i:Int),(is.foldl min i = i\/is.foldl min i ∈ is)/\is.foldl min i ≤ i/\∀ a ∈ is,is.foldl min i ≤ a:=by
 induction is with
 | nil=>intro i; exact ⟨.inl rfl,Int.le_refl _,fun z0 q=>nomatch q⟩
 | cons b is ih =>
  intro i
  obtain ⟨h1,h2,h3⟩:=ih (min i b)
  refine ⟨?_,?_,fun a ha=>?_⟩
  .rw [List.foldl_cons]
   rcases h1 with q | q
   .rw [q]
    rcases Int.le_total i b with z | z
    .left; exact Int.min_eq_left z
    .right; rw [Int.min_eq_right z]; exact List.mem_cons_self
   .exact .inr (List.mem_cons_of_mem _ q)
  .rw [List.foldl_cons]; exact Int.le_trans h2 (Int.min_le_left _ _)
  .rw [List.foldl_cons]
   rcases List.mem_cons.mp ha with rfl | ha
   .exact Int.le_trans h2 (Int.min_le_right _ _)
   .exact h3 a ha
theorem qN (hh:A.handled = none) (H:HR C μ σ s) {v:Value} {a:AV} (hv:VR C.ghost μ s.heap v a) :
  af C A W X μ σ s (RV C) (call (.builtin "min") [v]) (do
   let xs <- getList a
   match intsOf xs with
   | some (i :: is)=>MM.pure (.int (is.foldl min i))
   | _=>MM.stuck):=by
 refine aQ H hv fun l i vs xs nn ev ea z0 z0 h1 h2=>?_
 rw [ev]
 induction hi:intsOf xs using Option.casesOn with
 | none=>exact ae
 | some is =>
  induction is using List.casesOn with
  | nil=>exact ae
  | cons i is =>
   rw [eW hi] at h2
   have hI:=gr h2
   have hl:s.heap.IsList l vs.toArray:=⟨_,h1,rfl,nn,rfl⟩
   refine eI H rfl fun Q E hQ=>?_
   obtain ⟨xs',e⟩:=hI.allInts.items
   have hns:i :: is = xs'.toList.map (·.1):=by rw [<- hI.numsOf,<- nums_intItems,<- e]
   have hsz:0 < xs'.size:=by
    have:=congrArg List.length hns
    simp at this; omega
   rw [e] at hl
   refine aZ (min_intList hh hl hsz fun v h' tk hv hk hz=>?_)
   obtain ⟨t,rfl⟩:=intItems_at hv
   obtain ⟨q1,q2⟩:=argBest_lt (numAt xs') (xs'.size - 1)
   obtain ⟨f1,f2,f3⟩:=nR is i
   have hmem:numAt xs' (argBest (fun i j=>decide (numAt xs' i < numAt xs' j)) (xs'.size - 1)) ∈ i :: is:=by
    rw [hns,numAt_eq]; exact getD_mem (by rw [List.length_map,Array.length_toList]; exact Nat.lt_of_le_of_lt q1 (Nat.sub_lt hsz Nat.one_pos))
   have hle:∀ a ∈ i :: is,numAt xs' (argBest (fun i j=>decide (numAt xs' i < numAt xs' j)) (xs'.size - 1)) ≤ a:=fun a ha=>by
    rw [hns] at ha
    obtain ⟨j,hj,rfl⟩:=mem_getD ha
    rw [List.length_map,Array.length_toList] at hj
    rw [<- numAt_eq]; exact q2 j (Nat.le_sub_one_of_lt hj)
   have heq:numAt xs' (argBest (fun i j=>decide (numAt xs' i < numAt xs' j)) (xs'.size - 1)) = is.foldl min i:=by
    apply Int.le_antisymm
    .rcases f1 with q | q
     .rw [q]; exact hle i List.mem_cons_self
     .exact hle _ (List.mem_cons_of_mem _ q)
    .rcases List.mem_cons.mp hmem with q | q
     .rw [q]; exact f2
     .exact f3 _ q
   rw [heq]
   exact hQ _ h' tk hk hz (.int _ _)
theorem qL (hh:A.handled = none) (H:HR C μ σ s) {v:Value} {a:AV} (hv:VR C.ghost μ s.heap v a) :
  af C A W X μ σ s (RV C) (call (.builtin "sum") [v]) (do
   let xs <- getList a
   let is <- MM.opt (intsOf xs)
   MM.guard (is.all fun i=>decide (0 ≤ i/\i ≤ 1000000))
   MM.guard (fits is.length)
   mkI is.sum):=by
 refine aQ H hv fun l i vs xs nn ev ea z0 z0 h1 h2=>?_
 rw [ev]
 refine iK fun is hi=>aj fun z0=>aj fun z0=>?_
 rw [eW hi] at h2
 have hI:=gr h2
 have hl:s.heap.IsList l vs.toArray:=⟨_,h1,rfl,nn,rfl⟩
 unfold mkI
 refine aj fun z0=>eI H rfl fun Q E hQ=>?_
 obtain ⟨xs',e⟩:=hI.allInts.items
 have hns:is = xs'.toList.map (·.1):=by rw [<- hI.numsOf,<- nums_intItems,<- e]
 rw [e] at hl
 refine aZ (sum_intListG hh hl fun h' tk t' hk hz=>?_)
 have:preSum (numAt xs') xs'.size = is.sum:=by
  rw [preSum_eq,hns,List.take_of_length_le (by rw [List.length_map,Array.length_toList]; exact Nat.le_refl _)]
 rw [this]
 exact hQ _ h' tk hk hz (.int _ _)
theorem qO (hh:A.handled = none) (H:HR C μ σ s) {a b:Int} {t u:Tok} :
  af C A W X μ σ s (RV C) (call (.builtin "max") [.int a t,.int b u]) (MM.pure (.int (max a b))):=by
 refine eI H rfl fun Q E hQ=>aZ (max_two_ints hh fun h' tk hk hz=>hQ _ h' tk hk hz ?_)
 by_cases h:b > a
 .rw [if_pos h,Int.max_eq_right (Int.le_of_lt h)]; exact .int _ _
 .rw [if_neg h,Int.max_eq_left (Int.not_lt.mp h)]; exact .int _ _
theorem qV (H:HR C μ σ s) {a:Int} {t:Tok}:af C A W X μ σ s (RV C) (call (.builtin "abs") [.int a t]) (mkI a.natAbs):=by
 refine bZ H fun Q E h=>call_abs_int fun u tk=>?_
 have:(if a < 0 then -a else a) = (a.natAbs:Int):=by split <;> omega
 rw [this]
 exact h u tk
theorem qR (H:HR C μ σ s) {a:Int} {t:Tok}:af C A W X μ σ s (RV C) (call (.type "int") [.int a t]) (MM.pure (.int a)):=by
 exact aA rfl fun Q E hQ=>call_int_int (hQ μ _ s Ext.refl H (.int _ _))
end
end Mine.Internal
end
section
namespace Mine.Internal
open PySem PySem.Calls PyProof.Rows PySem.W
section
variable {prog:Program} {w:World} {A:Around} {E:Value->Shared->Prop} {s:Shared}
noncomputable def qo (h:Heap) (d:Addr) (es:Array DictEntry) (ep:Nat):Prop:=∃ o,h.get? d = some o/\o.cls = .type "dict" /\ o.data = .dict es ep
theorem mG (hh:A.handled = none) (I d:Addr) (hne:d ≠ I) (es:Array DictEntry) (ep:Nat) :
  Walks prog w A I [I,d] [I] es.size (fun i v=>∃ e,es[i]? = some e/\v = e.key) (fun i h=>h.IsKeyIter I d i es.size ep/\qo h d es ep) where
 sub:=fun b hb=>by simp at hb; simp [hb]
 frame:=fun z0 z0 z0 st hk=>⟨st.1.at fun o e=>hk I (by simp) o e,let ⟨o,e,r⟩:=st.2; ⟨o,hk d (by simp) o e,r⟩⟩
 item:=fun i s Q E hi st hQ=>by
  obtain ⟨en,hx⟩ : ∃ p,es[i]? = some p:=⟨es[i],by simp [hi]⟩
  obtain ⟨hit,o,ho,hc,hd⟩:=st
  refine cJ hit ho hd hx fun h' hit' hs'=>?_
  exact hQ en.key h' s.toks ⟨en,hx,rfl⟩ ⟨hit',o,(hs'.2 d hne).trans ho,hc,hd⟩ fun b o hb e=>hs'.extBut b o (fun h=>hb (by simp [h])) e
 done:=fun s Q E st hQ=>by
  obtain ⟨hit,o,ho,hc,hd⟩:=st
  exact cU hh hit ho hd (Nat.le_refl _) fun h' he'=>hQ h' s.toks fun b o hb e=>he' b o (fun h=>hb (by simp [h])) e
 self:=fun z0 z0 z0 z0 st hQ=>wpAny_pyIter_keyiter st.1 hQ
theorem mx {d:Addr} {es:Array DictEntry} {ep:Nat} (lo:(d == sysModules) = false):KdlSrc prog w "dict" d d es.size (fun i v=>∃ e,es[i]? = some e/\v = e.key) (fun h=>qo h d es ep) where
 type:=fun _ ⟨o,ho,hc,_⟩=>⟨o,ho,hc⟩
 there:=fun _ ⟨o,ho,_⟩=>⟨Heap.lt_size ho,Heap.lt_size ho⟩
 keep:=fun _ _ ⟨o,ho,r⟩ hk=>⟨o,hk d (.inl rfl) o ho,r⟩
 notList:=by decide
 notTuple:=by decide
 hint:=fun _ _ _ _ ⟨o,ho,hc,_⟩ hq=>kdl_hint_dict ⟨o,ho,hc⟩ hq
 iter:=fun z0 s hh hm=>by
  obtain ⟨o,ho,hc,hd⟩:=id hm
  exact ⟨_,_,(fun z0 z0 hq=>cW lo ho hc hd hq),mG hh _ d (Nat.ne_of_lt (Heap.lt_size ho)) es ep,⟨⟨_,Heap.get?_push_size _ rfl,rfl,rfl⟩,o,Heap.get?_push_of_some _ ho,hc,hd⟩⟩
end
section
variable {r:Rc} {n:Nat} {C:Cf} {A:Around} {W:Addr->Prop} {X:Value->Shared->Prop} {μ:Mu} {σ:ac} {s:Shared} {c:Ctx} {env:Env}
theorem dp (H:HR C μ σ s) {m:MM AV} {o:AO} {t:Sem Value} (e:m σ = .ok (.obj σ.length) (σ ++ [o]))
  (h:∀ (Q:Value->Shared->Prop) (E:Value->Shared->Prop),(∀ h' tk,(∀ b o,s.heap.get? b = some o->h'.get? b = some o)->s.heap.objs.size < h'.objs.size ->
   (aW C μ s.heap μ h'->(∀ v a,VR C.ghost μ s.heap v a->VR C.ghost (μ ++ [(s.heap.objs.size,s.heap.objs.size)]) h' v a)->(∀ v a,VRs C.ghost μ s.heap v a->VRs C.ghost (μ ++ [(s.heap.objs.size,s.heap.objs.size)]) h' v a)->OR C (μ ++ [(s.heap.objs.size,s.heap.objs.size)]) h' (s.heap.objs.size,s.heap.objs.size) o)->Q (.ref s.heap.objs.size) { s with heap:=h',toks:=tk })->wpAny (model C.prog C.w) A t Q E s) :
  af C A W X μ σ s (RV C) t m :=
 aA e fun Q E hQ=>h Q E fun h' tk k z r=>by
  obtain ⟨x,H'⟩:=H.keeps (s':={ s with heap:=h',toks:=tk }) k (Nat.le_of_lt z) rfl rfl
  have hmu:∀ (i:Nat) (p:Addr × Addr),μ[i]? = some p->p.1 ≠ s.heap.objs.size/\p.1 ≠ s.heap.objs.size/\p.2 ≠ s.heap.objs.size/\p.2 ≠ s.heap.objs.size:=fun i p e=>by
   obtain ⟨h1,h2⟩:=H.lt e
   exact ⟨Nat.ne_of_lt h1,Nat.ne_of_lt h1,Nat.ne_of_lt h2,Nat.ne_of_lt h2⟩
  obtain ⟨y,H''⟩:=H'.adopt (W:=W) (p:=(s.heap.objs.size,s.heap.objs.size)) (o:=o) (h0:=s.heap) ⟨Nat.le_refl _,Nat.le_refl _⟩ (Nat.le_of_lt z)
   ⟨aT H (Nat.le_refl _),aT H (Nat.le_refl _)⟩ hmu ⟨bU H (Nat.le_refl _),bU H (Nat.le_refl _)⟩ (fun z0 f1 f2=>r x (fun v a q=>f1 v a (VR.ext H wild0 x q)) (fun v a q=>f2 v a (VRs.ext H wild0 x q)))
  exact hQ _ _ _ (y x.any) H'' (.obj (p:=(s.heap.objs.size,s.heap.objs.size)) (bT H.len _))
theorem mU (H:HR C μ σ s) {v:Value} {a:AV} (hv:VR C.ghost μ s.heap v a):af C A W X μ σ s (RV C) (call (.type "tuple") [v]) (do let xs <- getList a; mkT xs):=by
 refine aQ H hv fun l i vs xs nn ev ea z0 z0 h1 h2=>?_
 rw [ev]
 unfold mkT
 refine aj fun hf=>?_
 have hl:s.heap.IsList l vs.toArray:=⟨_,h1,rfl,nn,rfl⟩
 refine aA rfl fun Q E hQ=>aZ (call_tuple_list hl (fun h' hk hz=>?_) (by rw [List.size_toArray,h2.len]; exact bv hf))
 obtain ⟨x,H'⟩:=H.keeps (s':={ s with heap:=h'.push { cls:=.type "tuple", data:=.seq vs.toArray } }) (fun b o e=>Heap.get?_push_of_some _ (hk b o e)) hz rfl rfl
 exact hQ μ _ _ x.any H' (.tup (n:=0) (Heap.get?_push_size _ rfl) (VRs.ext H wild0 x h2))
theorem ct {g h:Heap} {μ:Mu}:∀ {vs:List Value} {xs:List AV},vs.length = xs.length->(∀ (j:Nat) (v:Value) (a:AV),vs[j]? = some v->xs[j]? = some a->VR g μ h v a)->VRs g μ h vs xs
 | [],[],_,_=>.nil
 | [],_ :: _,e,_=>by simp at e
 | _ :: _,[],e,_=>by simp at e
 | v :: vs,x :: xs,e,h=>.cons (h 0 v x rfl rfl) (ct (by simpa using e) fun j v a h1 h2=>h (j + 1) v a (by simpa using h1) (by simpa using h2))
theorem oY (O:Ok C) (hh:A.handled = none) (H:HR C μ σ s) {v:Value} {a:AV} (hv:VR C.ghost μ s.heap v a) :
  af C A W X μ σ s (RV C) (call (.type "list") [v]) (do MM.guard (notRng a); let xs <- items a; mkL xs):=by
 refine aj fun hr=>?_
 have seq:∀ {T:String} {it:Addr} {o:Obj} {vs:List Value} {xs:List AV} {nn:Nat},(T = "list" \/ T = "tuple")->s.heap.get? it = some o->o.cls = .type T->o.data = .seq vs.toArray nn->VRs C.ghost μ s.heap vs xs ->
   af C A W X μ σ s (RV C) (call (.type "list") [.ref it]) (mkL xs):=by
  intro T it o vs xs nn hT ho hc hd hv
  unfold mkL
  refine aj fun hf=>dp H (o:=.list xs) rfl fun Q E hQ=>?_
  refine call_list_seq it hT ho hc hd (fun h' c' hk hS=>?_) (by rw [List.size_toArray,hv.len]; exact bv hf)
  exact hQ h' s.toks hk (Heap.lt_size hS) fun x f1 f2=>⟨rfl,vs,c',hS,f2 _ _ hv⟩
 induction a using AV.casesOn with
 | tup xs =>
  obtain ⟨t,vs,nn,rfl,h1,h2⟩:=hv.inv_tup
  exact seq (.inr rfl) h1 rfl rfl h2
 | obj i =>
  obtain ⟨p,rfl,hp⟩:=hv.inv_obj
  obtain ⟨o,ho,hor⟩:=H.objAt hp
  induction o using AO.casesOn with
  | list xs =>
   obtain ⟨e1,vs,nn,h1,h2⟩:=hor
   exact bB (m':=mkL xs) (by rw [ai,show items (.obj i) σ = .ok xs σ by unfold items; dsimp only; rw [ho]]) (seq (.inl rfl) h1 rfl rfl h2)
  | wset ws =>
   refine bB (m':=mkL (ws.map wordV)) (by rw [ai,show items (.obj i) σ = .ok (ws.map wordV) σ by unfold items; dsimp only; rw [ho]]) ?_
   unfold mkL
   refine aj fun hf=>dp H (o:=.list (ws.map wordV)) rfl fun Q E hQ=>?_
   obtain ⟨e1,hE,xs,⟨o',es,ep,g1,g2,g3,g4,g5,g6⟩,h2,h3⟩:=hor
   have hsz:es.size = ws.length:=by rw [<- Array.length_toList,g4,List.length_map,<- h2,List.length_map]
   refine kdl_call (mx (H.mods O.glo hp)) hh ⟨o',g1,g2.1,g3⟩ (by rw [hsz]; have:=dt hf; rw [List.length_map] at this; rw [sizeLine_eq]; omega) fun h' tk acc c' hk hS hacc=>?_
   refine hQ h' tk hk (Heap.lt_size hS) fun x f1 f2=>⟨rfl,acc.toList,c',by rw [Array.toArray_toList]; exact hS,ct (by rw [Array.length_toList,hacc.1,hsz,List.length_map]) fun j v b e1 e2=>?_⟩
   rw [Array.getElem?_toList] at e1
   obtain ⟨en,q1,rfl⟩:=hacc.2 j v e1
   rw [<- Array.getElem?_toList,g4,List.getElem?_map] at q1
   rw [<- h2,List.map_map,List.getElem?_map] at e2
   induction hx:xs[j]? using Option.casesOn with
   | none=>rw [hx] at q1; exact nomatch q1
   | some y =>
    rw [hx] at q1 e2
    injection q1 with q1
    injection e2 with e2
    subst q1 e2
    exact f1 _ _ (h3 y (List.mem_of_getElem? hx)).2
  | _=>exact ak (by rw [ai,show items (.obj i) σ = .stuck by unfold items; dsimp only; rw [ho]])
 | rng k=>exact absurd hr Bool.false_ne_true
 | _=>exact ae
end
section
variable {prog:Program} {w:World} {A:Around} {E:Value->Shared->Prop} {s:Shared}
theorem ix:entryFor table "dict.update.loop" = some Builtin.«dict.update.loop»:=entryFor_of_tree (by kernel_rfl)
theorem dq:plainId "dict.update.loop" = true:=by decide +kernel
theorem jw {I d:Addr} {fp wr:List Addr} {n:Nat} {P:Nat->Value->Prop} {St D:Nat->Heap->Prop} {R:Result->Shared->Prop} (W:Walks prog w A.in1 I fp wr n P St) (hdf:d ∉ fp)
  (hD:∀ i h h',D i h->(∀ b o,b ∉ wr->h.get? b = some o->h'.get? b = some o)->D i h')
  (hstep:∀ i v (s:Shared),P i v->D i s.heap->∃ t vk vv n dd sl,v = .ref t/\s.heap.get? t = some ⟨.type "tuple", dd,.seq #[vk,vv] n,sl⟩ /\
   ∀ (Q:Unit->Shared->Prop) (E:Value->Shared->Prop),(∀ h' tk,D (i + 1) h'->Heap.SameBut d s.heap h'->Q () { s with heap:=h',toks:=tk })->wpAny (model prog w) A.in1 (dictSet d vk vv) Q E s) :
  ∀ (k i:Nat) (s:Shared),n - i = k->i ≤ n->St i s.heap->D i s.heap->(∀ h' tk,D n h'->R (.ok (.ret .none)) { s with heap:=h',toks:=tk }) ->
   codeAny (model prog w) A (.builtin "dict.update.loop" ⟨[.ref d,.ref I,rawInt i,.none],[]⟩) R s:=by
 intro k
 induction k with
 | zero =>
  intro i s hk hi hst hd hR
  have hin:i = n:=Nat.le_antisymm hi (Nat.le_of_sub_eq_zero hk)
  subst hin
  refine codeAny_builtin ix ?_
  rw [Around.under_plainId dq _]
  refine wpAny_bind (W.done s _ _ hst fun h' tk hm=>?_)
  exact wpAny_bind (wpAny_pure (wpAny_pure (hR h' tk (hD _ _ _ hd hm))))
 | succ k ih =>
  intro i s hk hi hst hd hR
  have hlt:i < n:=Nat.lt_of_sub_pos (hk ▸ Nat.succ_pos k)
  refine codeAny_builtin ix ?_
  rw [Around.under_plainId dq _]
  refine wpAny_bind (W.item i s _ _ hlt hst fun v h' tk hP hst' hm=>?_)
  have hd':=hD _ _ _ hd hm
  obtain ⟨t,vk,vv,nn,dd,sl,rfl,ht,hset⟩:=hstep i v { s with heap:=h',toks:=tk } hP hd'
  refine wpAny_bind (wpAny_holding (wpAny_bind (wpAny_tryCatch ?_)))
  unfold Builtin.Dict.pairItems
  refine wpAny_bind (wpAny_typeOf (T := "tuple") ⟨_,ht,rfl⟩ ?_)
  rw [if_pos (by decide)]
  refine wpAny_bind (wpAny_seqItems ht rfl (wpAny_pure ?_))
  refine wpAny_holding (hset _ _ fun h'' tk' hd'' hs=>?_)
  refine wpAny_pure ⟨plainId_quiet dq _,?_⟩
  refine ih (i + 1) { s with heap:=h'',toks:=tk' } (congrArg Nat.pred hk) hlt (W.frame _ _ _ hst' fun b hb o e=>(hs.2 b (fun q=>hdf (q ▸ hb))).trans e) hd'' fun h3 tk3 z=>hR h3 tk3 z
end
section
variable {prog:Program} {w:World} {A:Around} {E:Value->Shared->Prop} {s:Shared}
theorem cK {l:Addr} {vs:List Value} {nn:Nat} {Q:Value->Shared->Prop} (hh:A.handled = none) (hl:s.heap.get? l = some { cls:=.type "list", dict:=none,data:=.seq vs.toArray nn,slots:=#[] }) (DD:Nat->Heap->Prop)
  (hD0:∀ h,(∀ b o,s.heap.get? b = some o->h.get? b = some o)->h.get? s.heap.objs.size = some { cls:=.type "dict", data:=.dict #[] }->DD 0 h)
  (hDk:∀ i I h h',s.heap.objs.size < I->DD i h->(∀ b o,b ≠ I->h.get? b = some o->h'.get? b = some o)->DD i h')
  (hstep:∀ i v (s':Shared),vs[i]? = some v->DD i s'.heap->∃ t vk vv n dd sl,v = .ref t/\s'.heap.get? t = some ⟨.type "tuple", dd,.seq #[vk,vv] n,sl⟩ /\
   ∀ (Q:Unit->Shared->Prop) (E:Value->Shared->Prop),(∀ h' tk,DD (i + 1) h'->Heap.SameBut s.heap.objs.size s'.heap h'->Q () { s' with heap:=h',toks:=tk })->wpAny (model prog w) A.in1.in1 (dictSet s.heap.objs.size vk vv) Q E s')
  (hQ:∀ h' tk,DD vs.length h'->Q (.ref s.heap.objs.size) { s with heap:=h',toks:=tk }) :
  wpAny (model prog w) A (call (.type "dict") [.ref l]) Q E s:=by
 refine callType_codes (Q₁:=fun obj s₁=>obj = .ref s.heap.objs.size/\s₁ = { s with heap:=s.heap.push { cls:=.type "dict", data:=.dict #[] } }) F.kt_called_dict (F.kt_typeCall_dict_1 _) F.entry_dict_init (kt_code_dict_new _ ⟨rfl,rfl⟩) ?_
 rintro obj s₁ ⟨rfl,rfl⟩
 have hnew:=Heap.get?_push_size s.heap (o:={ cls:=.type "dict", data:=.dict #[] }) rfl
 have hT:({ s with heap:=s.heap.push { cls:=.type "dict", data:=.dict #[] } }:Shared).TypeIs (.ref s.heap.objs.size) "dict" := ⟨_,hnew,rfl⟩
 have hl1:=Heap.get?_push_of_some { cls:=.type "dict", data:=.dict #[] } hl
 refine ⟨hT,F.args_dict_init_2 _ _,?_⟩
 unfold Builtin.«dict.__init__»
 refine wpAny_bind ?_
 unfold Builtin.Dict.selfAndRest
 refine wpAny_bind (wpAny_notOrdered_dict hT ?_)
 refine wpAny_pure ?_
 show wpAny _ _ (Builtin.Dict.updateFrom "dict.__init__" s.heap.objs.size (.ref l) [] .none) _ _ _
 unfold Builtin.Dict.updateFrom
 refine wpAny_bind (wpAny_typeOf (T := "list") ⟨_,hl1,rfl⟩ ?_)
 rw [if_pos (by decide)]
 refine wpAny_bind (askKeys hl1 hh fun h1 tk1 hk1=>?_)
 rw [if_pos (show (none:Option Value).isNone = true from rfl)]
 refine wpAny_bind (wpAny_rule ?_)
 have hl2:({ s with heap:=h1,toks:=tk1 }:Shared).heap.IsList l vs.toArray:=⟨_,hk1 _ _ hl1,rfl,nn,rfl⟩
 refine wpAny_bind (wpAny_pyIter_list hl2 ?_)
 have hI:s.heap.objs.size < h1.objs.size:=Heap.lt_size (hk1 _ _ hnew)
 have hlI:l ≠ h1.objs.size:=Nat.ne_of_lt (Heap.lt_size (hk1 _ _ hl1))
 refine wpAny_pure ⟨plainId_quiet dq _,?_⟩
 refine jw (A:=A.in1) (D:=DD) (I:=h1.objs.size) (Walks.list (A:=A.in1.in1) hh h1.objs.size l hlI vs.toArray) (by
   simp only [List.mem_cons,List.not_mem_nil,or_false,not_or]
   exact ⟨Nat.ne_of_lt hI,fun q=>Nat.lt_irrefl _ (q ▸ Heap.lt_size hl)⟩) (fun i h h' d k=>hDk i _ h h' hI d fun b o hb e=>k b o (by simpa using hb) e)
  (fun i v s' hP hd=>hstep i v s' (by simpa using hP) hd) vs.toArray.size 0 _ (by omega) (Nat.zero_le _) ⟨⟨_,Heap.get?_push_size _ rfl,rfl,rfl⟩,hl2.at fun o e=>Heap.get?_push_of_some _ e⟩ (hD0 _ (fun b o e=>Heap.get?_push_of_some _ (hk1 _ _ (Heap.get?_push_of_some _ e))) (Heap.get?_push_of_some _ (hk1 _ _ hnew)))
  fun h' tk d=>⟨rfl,hQ h' tk (by simpa using d)⟩
end
theorem dY {xs:List AV} {ws:List (List Int)} (h:wordPairs xs = some ws):xs = ws.map fun w=>AV.tup [wordV w,.bool true]:=by
 refine cD (f:=wordPair) (fun {x b} h=>?_) h
 obtain ⟨ys,h1,h⟩:=Option.bind_eq_some_iff.mp h
 obtain ⟨p,h2,h⟩:=Option.bind_eq_some_iff.mp h
 rw [dZ h1,dG h2]
 by_cases ht:isTr p.2 = true
 .rw [ht] at h
  rw [rn ht,ch h]
 .rw [eq_false_of_ne_true ht] at h; exact nomatch h
theorem fi {xs:List AV} {es:List (Str × AV)} (h:strPairs xs = some es):xs = es.map fun e=>AV.tup [.str e.1,e.2]:=by
 refine cD (f:=strPair) (fun {x b} h=>?_) h
 obtain ⟨ys,h1,h⟩:=Option.bind_eq_some_iff.mp h
 obtain ⟨p,h2,h⟩:=Option.bind_eq_some_iff.mp h
 obtain ⟨x,h3,h⟩:=Option.map_eq_some_iff.mp h
 rw [dZ h1,dG h2,ml h3,<- h]
theorem dP {α β:Type} (f:β->α->β) (b:β) (l:List α) {i:Nat} {a:α} (h:l[i]? = some a):(l.take (i + 1)).foldl f b = f ((l.take i).foldl f b) a:=by
 rw [List.take_add_one,h,List.foldl_append]; rfl
section
variable {C:Cf} {A:Around} {W:Addr->Prop} {X:Value->Shared->Prop} {μ:Mu} {σ:ac} {s:Shared}
theorem mO {kvs:List (Str × Value)} {k x:Str} {u v:Value} (h:k ≠ x):stored ((k,u) :: kvs) x v = (k,u) :: stored kvs x v:=by
 unfold stored
 rw [List.any_cons,decide_eq_false h,Bool.false_or]
 split
 .rw [List.map_cons,if_neg h]
 .rfl
theorem mP {kvs:List (Str × Value)} {x:Str} {u v:Value} (h:x ∉ kvs.map (·.1)):stored ((x,u) :: kvs) x v = (x,v) :: kvs:=by
 unfold stored
 rw [List.any_cons,decide_eq_true rfl,Bool.true_or,if_pos rfl,List.map_cons,if_pos rfl]
 congr 1
 conv=>rhs; rw [<- List.map_id kvs]
 refine List.map_congr_left fun p hp=>?_
 have:p.1 ≠ x:=fun q=>h (List.mem_map.mpr ⟨p,hp,q⟩)
 rw [if_neg this]; rfl
theorem cu {g h:Heap} {x:Str} {v:Value} {a:AV} (ha:VR g μ h v a):∀ {kvs:List (Str × Value)} {es:List (Str × AV)},kvs.map (·.1) = es.map (·.1)->(kvs.map (·.1)).Nodup->VRs g μ h (kvs.map (·.2)) (es.map (·.2)) ->
  (stored kvs x v).map (·.1) = (sset x a es).map (·.1)/\VRs g μ h ((stored kvs x v).map (·.2)) ((sset x a es).map (·.2))/\(stored kvs x v).length ≤ kvs.length + 1
 | [],[],_,_,_=>⟨rfl,.cons ha .nil,Nat.le_refl _⟩
 | [],_ :: _,e,_,_=>by simp at e
 | _ :: _,[],e,_,_=>by simp at e
 | (k,u) :: kvs,(y,b) :: es,e,hn,hv=>by
  rw [List.map_cons,List.map_cons] at e
  injection e with e1 e2
  have e1:k = y:=e1
  subst e1
  rw [List.map_cons] at hn
  obtain ⟨n1,n2⟩:=List.nodup_cons.mp hn
  cases hv with
  | cons h1 h2 =>
   unfold sset
   by_cases hk:k = x
   .subst hk
    rw [mP n1,if_pos rfl]
    exact ⟨by rw [List.map_cons,List.map_cons,e2],.cons ha h2,by simp⟩
   .obtain ⟨q1,q2,q3⟩:=cu ha e2 n2 h2
    rw [mO hk,if_neg hk]
    exact ⟨by rw [List.map_cons,List.map_cons,q1],.cons h1 q2,by simpa using q3⟩
theorem pc (O:Ok C) (hh:A.handled = none) (hu:A.units + 8 < cLine) (H:HR C μ σ s) {v:Value} {a:AV} (hv:VR C.ghost μ s.heap v a) :
  af C A W X μ σ s (RV C) (call (.type "dict") [v]) (do
   let xs <- getList a
   MM.guard (fits xs.length)
   match wordPairs xs with
   | some ws=>alloc (.wset (ws.foldl (fun d w=>winsert w d) []))
   | Option.none=>do
    let es <- MM.opt (strPairs xs)
    alloc (.sdict (es.foldl (fun d e=>sset e.1 e.2 d) []))):=by
 refine aQ H hv fun l i vs xs nn ev ea z0 z0 h1 h2=>aj fun hf=>?_
 rw [ev]
 have hlen:=dt hf
 have later:∀ {h':Heap},(∀ b o,s.heap.get? b = some o->h'.get? b = some o)->s.heap.objs.size < h'.objs.size->aW C μ s.heap μ h':=fun {h'} k z=>(H.keeps (s':={ s with heap:=h' }) k (Nat.le_of_lt z) rfl rfl).1
 induction hw:wordPairs xs using Option.casesOn with
 | some ws =>
  rw [dY hw] at h2
  refine dp H (o:=.wset (ws.foldl (fun d w=>winsert w d) [])) rfl fun Q E hQ=>?_
  refine cK hh h1 (fun i h=>(∀ b o,s.heap.get? b = some o->h.get? b = some o)/\s.heap.objs.size < h.objs.size/\∃ ys,h.DictOfH (wk C) s.heap.objs.size ys/\oh h s.heap.objs.size ys.length/\ys.map (·.1) = (ws.take i).foldl (fun d w=>winsert w d) [] /\
    ∀ x ∈ ys,x.2.2 = .bool true/\VR C.ghost μ s.heap (.ref x.2.1) (wordV x.1)) (fun h k e=>?_) (fun i I h h' hI d k=>?_) (fun i v s' hP d=>?_) fun h' tk d=>?_
  .exact ⟨k,Heap.lt_size e,[],⟨_,#[],0,e,⟨rfl,rfl,rfl⟩,rfl,by simp,fun z0 q=>(nomatch q),by simp⟩,⟨_,#[],e,rfl⟩,rfl,fun z0 q=>(nomatch q)⟩
  .obtain ⟨d1,d2,ys,⟨o,es,ep,ho,hc,hd,he,his,hn⟩,⟨o',es',ho',hd'⟩,e1,e2⟩:=d
   have k1:∀ b o,s.heap.get? b = some o->h'.get? b = some o:=fun b o e=>k b o (Nat.ne_of_lt (Nat.lt_trans (Heap.lt_size e) hI)) (d1 b o e)
   have kd:=k _ _ (Nat.ne_of_lt hI) ho
   have z:=Heap.lt_size kd
   refine ⟨k1,z,ys,⟨o,es,ep,kd,hc,hd,he,fun x hx=>?_,hn⟩,⟨o',es',k _ _ (Nat.ne_of_lt hI) ho',hd'⟩,e1,e2⟩
   obtain ⟨ad,q1,q2⟩:=VR.wkey (prog:=C.prog) (wd:=C.w) (VR.ext H wild0 (later k1 z) (e2 x hx).2)
   injection q1 with q1
   rw [q1]; exact q2
  .obtain ⟨d1,d2,ys,dH,dE,e1,e2⟩:=d
   have hi:i < ws.length:=by
    have:=(List.getElem?_eq_some_iff.mp hP).1
    rw [h2.len,List.length_map] at this; exact this
   obtain ⟨v',q1,q2⟩:=h2.get (List.getElem?_eq_getElem (show i < (ws.map fun w=>AV.tup [wordV w,.bool true]).length by rw [List.length_map]; exact hi))
   rw [hP] at q1; injection q1 with q1; subst q1
   rw [List.getElem_map] at q2
   obtain ⟨t,us,n,rfl,g1,g2⟩:=q2.inv_tup
   cases g2 with
   | @cons vk _ _ _ gk g2 =>
    cases g2 with
    | @cons vv _ _ _ gv g2 =>
     cases g2
     obtain rfl:=gv.inv_bool
     refine ⟨t,vk,.bool true,n,none,#[],rfl,d1 _ _ g1,fun Q E q=>?_⟩
     obtain ⟨ad,rfl,hkey⟩:=VR.wkey (prog:=C.prog) (wd:=C.w) (VR.ext H wild0 (later d1 d2) gk)
     have hys:ys.length ≤ sizeLine:=by
      have e3:ys.length ≤ i:=by
       have e4:∀ (l:List (List Int)) (acc:List (List Int)),(l.foldl (fun d w=>winsert w d) acc).length ≤ acc.length + l.length:=by
        intro l
        induction l with
        | nil=>intro acc; simp
        | cons w l ih =>
         intro acc
         rw [List.foldl_cons]
         refine Nat.le_trans (ih _) ?_
         unfold winsert
         split <;> simp <;> omega
       have e5:=e4 (ws.take i) []
       rw [<- e1,List.length_map,List.length_take] at e5
       simp at e5; omega
      have:=h2.len
      rw [List.length_map] at this
      have e6:xs.length = ws.length:=by rw [dY hw,List.length_map]
      rw [sizeLine_eq]; omega
     refine dictSetE (knd:=wk C) (k:=ws[i]) (show A.units + 1 + 1 < cLine by omega) hkey dH dE (fun h' gH gE gs=>q h' _ ⟨fun b o e=>(gs.2 b (fun q=>Nat.lt_irrefl _ (q ▸ Heap.lt_size e))).trans (d1 b o e),by rw [gs.1]; exact d2,_,gH,gE,?_,?_⟩ gs) hys
     .rw [bw,e1,dP _ _ _ (List.getElem?_eq_getElem hi)]
     .exact cP (P:=fun w a=>VR C.ghost μ s.heap (.ref a) (wordV w)) e2 gk
  .obtain ⟨d1,d2,ys,dH,dE,e1,e2⟩:=d
   have hl:vs.length = ws.length:=by rw [h2.len,List.length_map]
   rw [hl,List.take_length] at e1
   refine hQ h' tk d1 d2 fun x f1 f2=>⟨rfl,?_,ys,dH,e1,fun y hy=>⟨(e2 y hy).1,f1 _ _ (e2 y hy).2⟩⟩
   rw [<- e1,List.length_map]; exact dE
 | none =>
  refine iK fun es hes=>?_
  rw [fi hes] at h2
  refine dp H (o:=.sdict (es.foldl (fun d e=>sset e.1 e.2 d) [])) rfl fun Q E hQ=>?_
  refine cK hh h1 (fun i h=>(∀ b o,s.heap.get? b = some o->h.get? b = some o)/\s.heap.objs.size < h.objs.size/\∃ o kvs,h.get? s.heap.objs.size = some o/\o.IsDictOf (PySem.strKind C.prog C.w) kvs/\kvs.length ≤ i /\
    kvs.map (·.1) = ((es.take i).foldl (fun d e=>sset e.1 e.2 d) []).map (·.1)/\VRs C.ghost μ s.heap (kvs.map (·.2)) (((es.take i).foldl (fun d e=>sset e.1 e.2 d) []).map (·.2))) (fun h k e=>?_) (fun i I h h' hI d k=>?_) (fun i v s' hP d=>?_) fun h' tk d=>?_
  .obtain ⟨o,ho,hd⟩:=Heap.dictOf_iff.mp (Heap.DictOf.new (knd:=PySem.strKind C.prog C.w) s.heap)
   rw [Heap.get?_push_size s.heap (o:={ cls:=.type "dict", data:=.dict #[] }) rfl] at ho
   injection ho with ho
   exact ⟨k,Heap.lt_size e,o,[],ho ▸ e,hd,Nat.le_refl _,rfl,.nil⟩
  .obtain ⟨d1,d2,o,kvs,ho,r⟩:=d
   have k1:∀ b o,s.heap.get? b = some o->h'.get? b = some o:=fun b o e=>k b o (Nat.ne_of_lt (Nat.lt_trans (Heap.lt_size e) hI)) (d1 b o e)
   have kd:=k _ _ (Nat.ne_of_lt hI) ho
   exact ⟨k1,Heap.lt_size kd,o,kvs,kd,r⟩
  .obtain ⟨d1,d2,o,kvs,ho,hd,hle,e1,e2⟩:=d
   have hi:i < es.length:=by
    have:=(List.getElem?_eq_some_iff.mp hP).1
    rw [h2.len,List.length_map] at this; exact this
   obtain ⟨v',q1,q2⟩:=h2.get (List.getElem?_eq_getElem (show i < (es.map fun e=>AV.tup [.str e.1,e.2]).length by rw [List.length_map]; exact hi))
   rw [hP] at q1; injection q1 with q1; subst q1
   rw [List.getElem_map] at q2
   obtain ⟨t,us,n,rfl,g1,g2⟩:=q2.inv_tup
   cases g2 with
   | @cons vk _ _ _ gk g2 =>
    cases g2 with
    | @cons vv _ _ _ gv g2 =>
     cases g2
     obtain ⟨tk,rfl⟩:=gk.inv_str
     refine ⟨t,.str es[i].1 tk,vv,n,none,#[],rfl,d1 _ _ g1,fun Q E q=>?_⟩
     have hlx:xs.length = es.length:=by rw [fi hes,List.length_map]
     refine wpAny_dictSet_pairs (knd:=PySem.strKind C.prog C.w) (k:=es[i].1) (by first | exact beq_self_eq_true _ | rfl | simp [PySem.strKind]) (Heap.dictOf_iff.mpr ⟨o,ho,hd⟩) (fun h' gH gs=>?_) (by rw [sizeLine_eq]; omega)
     obtain ⟨o',ho',hd'⟩:=Heap.dictOf_iff.mp gH
     have hn:(kvs.map (·.1)).Nodup:=by obtain ⟨_,_,_,_,_,_,hn⟩:=hd; exact hn
     refine q h' _ ⟨fun b o e=>(gs.2 b (fun q=>Nat.lt_irrefl _ (q ▸ Heap.lt_size e))).trans (d1 b o e),by rw [gs.1]; exact d2,o',_,ho',hd',?_,?_,?_⟩ gs
     .exact Nat.le_trans (cu gv e1 hn e2).2.2 (Nat.succ_le_succ hle)
     .rw [dP _ _ _ (List.getElem?_eq_getElem hi)]; exact (cu gv e1 hn e2).1
     .rw [dP _ _ _ (List.getElem?_eq_getElem hi)]; exact (cu gv e1 hn e2).2.1
  .obtain ⟨d1,d2,o,kvs,ho,hd,hle,e1,e2⟩:=d
   have hl:vs.length = es.length:=by rw [h2.len,List.length_map]
   rw [hl,List.take_length] at e1 e2
   exact hQ h' tk d1 d2 fun x f1 f2=>⟨rfl,o,kvs,ho,hd,e1,f2 _ _ e2⟩
end
set_option tactic.hygienic true in
theorem lY {pos':Pos} {a b:Int} {c cv:Value} (l:List Value) (h:TriplesOk l) (hn:codeAmong pos' (l ++ [rawInt a,rawInt b,c]) = some cv):codeAmong pos' l = some cv\/cv = c:=by
 fun_induction TriplesOk l with
 | case1 =>
  simp only [List.nil_append,rawInt,codeAmong] at hn
  split at hn
  .injection hn with hn; exact .inr hn.symm
  .exact nomatch hn
 | case2 i t j u x rest ih =>
  simp only [List.cons_append,codeAmong] at hn ⊢
  split at hn
  .rename_i hq
   rw [if_pos hq]; exact .inl hn
  .rename_i hq
   rw [if_neg hq]; exact ih h hn
 | case3 l h1 h2=>exact h.elim
section
variable {M:Model} {A:Around} {E:Value->Shared->Prop} {s:Shared} {name qual:Str} {params:Arguments} {body:Expr} {scope:Scope} {env:Env} {c P:Addr} {ps:Array Value} {pos:Pos} {firstLine:Nat} {mg:Str->Option Value}
 {clos:List (Str × Addr)} {Q:Value->Shared->Prop}
noncomputable abbrev lamObj (name qual:Str) (params:Arguments) (body:Expr) (scope:Scope) (clos:List (Str × Addr)) (pm cv ctv:Value):Obj:={ cls:=.type "function", data:=.func (kla_fn name qual params body scope clos pm cv ctv) }
theorem nV {h:Heap} {c' P':Addr} {q:Str} {ps:Array Value} (h1:h.CodeRec (.ref c') q) (h2:h.TableAt c' P' ps):dj h (.ref c') q:=by
 obtain ⟨c2,o,vs,t,e1,e2,e3,e4⟩:=h1
 injection e1 with e1
 subst e1
 obtain ⟨⟨o',vs',f1,f2,_⟩,_⟩:=h2
 rw [e2] at f1; injection f1 with f1; subst f1
 exact ⟨_,o,vs,t,rfl,e2,f2,e3,e4⟩
theorem mkLam (hcl:closureFor scope env = pure clos) (hge0:env.globals = mainGlobals) (hg:s.heap.Ns mainGlobals mg) (hcode:env.code = .ref c) (C:CodeHd s.heap c P) (hP:s.heap.get? P = some (tabObj ps)) (ht:TriplesOk ps.toList)
  (hgP:mainGlobals ≠ P) (hb:s.heap.BuiltinsAt mg P) (hcodes:∀ pos cv,codeAmong pos ps.toList = some cv->dj s.heap cv qual)
  (h:∀ ps' cv ctv h' tk,Heap.ExtBut P s.heap h'->s.heap.objs.size ≤ h'.objs.size->h'.get? P = some (tabObj ps')->TriplesOk ps'.toList->(∀ pos cv,codeAmong pos ps'.toList = some cv->dj h' cv qual)->dj h' cv qual ->
   Q (.ref h'.objs.size) { s with heap:=h'.push (lamObj name qual params body scope clos ((mg "__name__").getD .none) cv ctv),toks:=tk }) :
  wpAny M A (makeFunction name qual params (.expr body) scope env [] [] [] pos firstLine) Q E s:=by
 induction hf:codeAmong pos ps.toList using Option.casesOn with
 | some cv =>
  exact kla_makeFunctionHit hcl hge0 hg hcode C hP ht hf hb fun ctv h' tk hk hz=>h ps cv ctv h' tk (fun b o z0 e=>hk b o e) hz (hk _ _ hP) ht
   (fun pos cv e=>let ⟨c',oc,vs,t,e1,e2,r⟩:=hcodes pos cv e; ⟨c',oc,vs,t,e1,hk _ _ e2,r⟩) (let ⟨c',oc,vs,t,e1,e2,r⟩:=hcodes pos cv hf; ⟨c',oc,vs,t,e1,hk _ _ e2,r⟩)
 | none =>
  have hPc:∀ cv pos',codeAmong pos' ps.toList = some cv->∀ h',Heap.ExtBut P s.heap h'->dj h' cv qual:=fun cv pos' e h' hx=>by
   obtain ⟨c',oc,vs,t,e1,e2,e3,r⟩:=hcodes pos' cv e
   exact ⟨c',oc,vs,t,e1,hx c' oc (fun q=>by rw [q,hP] at e2; injection e2 with e2; subst e2; exact nomatch e3) e2,e3,r⟩
  rw [makeFunction_eq]
  simp only [List.zip_nil_right,List.filterMap_nil,List.isEmpty_nil,if_true,pure_bind]
  obtain ⟨bm,ob,hbm,hne0,_,hneP,hbo,hcls,hdict,hdata⟩:=hb
  unfold makeTail
  rw [hcl,hge0]
  refine wpAny_bind (wpAny_pure ?_)
  have fin:∀ (c':Addr) (ctv:Value) (h':Heap) (tk:Tok),Heap.ExtBut P s.heap h'->c' < h'.objs.size->s.heap.objs.size ≤ c'->h'.IsCode c P (ps ++ #[rawInt pos.line,rawInt pos.col,.ref c'])->h'.CodeRec (.ref c') qual->h'.get? P = some (tabObj (ps ++ #[rawInt pos.line,rawInt pos.col,.ref c']))->(∃ P',h'.TableAt c' P' #[]) ->
    Q (.ref h'.objs.size) { s with heap:=h'.push (lamObj name qual params body scope clos ((mg "__name__").getD .none) (.ref c') ctv),toks:=tk }:=by
   intro c' ctv h' tk hx hlt hge hI hrec htb ⟨P',hT⟩
   have hok:=nV hrec hT
   obtain ⟨_,_,_,_,_,_,_,_,_,_,_,_,_,_,_,_,_,hpP,hpd,htr,_⟩:=hI
   refine h _ (.ref c') ctv h' tk hx (Nat.le_of_lt (Nat.lt_of_le_of_lt hge hlt)) htb htr (fun pos' cv e=>?_) hok
   have e':codeAmong pos' (ps.toList ++ [rawInt pos.line,rawInt pos.col,.ref c']) = some cv:=by simpa using e
   rcases lY ps.toList ht e' with q | q
   .exact hPc cv pos' q h' hx
   .subst q; exact hok
  induction clos using List.casesOn with
  | nil =>
   simp only [List.isEmpty_nil,if_true]
   refine wpAny_bind (wpAny_pure ?_)
   refine wpAny_bind (wpAny_functionCodeX hcode (C.code hP ht) (C.tab hP) hf fun c' h' tk hx hge hlt hI hrec htb hnew=>?_)
   have hg':=hg.extBut hx hgP
   refine wpAny_bind (wpAny_builtinsFor hg' hbm hne0 (hx _ _ hneP hbo) hcls hdict hdata ?_)
   refine wpAny_bind (wpAny_nsGet hg' ?_)
   exact wpAny_bind (wpAny_pure (wpAny_newObj_type (fin c' .none h' tk hx hlt hge hI hrec htb.2 (let ⟨P',_,_,q⟩:=hnew; ⟨P',q⟩)) (by size_fits)))
  | cons q r =>
   simp only [List.isEmpty_cons,Bool.false_eq_true,if_false]
   refine wpAny_bind (wpAny_newTextTuple ?_)
   refine wpAny_bind (wpAny_functionCodeX hcode ((C.keeps fun b o e=>Heap.get?_push_of_some _ e).code (Heap.get?_push_of_some _ hP) ht) ((C.keeps fun b o e=>Heap.get?_push_of_some _ e).tab (Heap.get?_push_of_some _ hP)) hf fun c' h' tk hx hge hlt hI hrec htb hnew=>?_)
   have hg':=(hg.push _).extBut hx hgP
   have hx':Heap.ExtBut P s.heap h':=fun b o hb' e=>hx b o hb' (Heap.get?_push_of_some _ e)
   have hge':s.heap.objs.size ≤ c':=Nat.le_trans (by rw [Heap.size_push]; omega) hge
   refine wpAny_bind (wpAny_builtinsFor hg' hbm hne0 (hx' _ _ hneP hbo) hcls hdict hdata ?_)
   refine wpAny_bind (wpAny_nsGet hg' ?_)
   exact wpAny_bind (wpAny_pure (wpAny_newObj_type (fin c' _ h' tk hx' hlt hge' hI hrec htb.2 (let ⟨P',_,_,q⟩:=hnew; ⟨P',q⟩)) (by size_fits)))
end
section
variable {C:Cf} {A:Around} {μ μ':Mu} {σ σ':ac} {s s':Shared} {c:Ctx} {env:Env}
theorem HR.slots (H:HR C μ σ s) (hg:s'.gens = #[]) (ho:s'.os = C.os) (hz:s.heap.objs.size ≤ s'.heap.objs.size)
  (k:∀ b o,s.heap.get? b = some o->b ∉ C.fl->¬ (C.fz = 0/\b ∈ C.tb)->s'.heap.get? b = some o)
  (kf:∀ b o,s.heap.get? b = some o->b ∈ C.fl->∃ sl,s'.heap.get? b = some { o with slots:=sl }) (T:gG C s'.heap) :
  aW C μ s.heap μ s'.heap/\HR C μ σ s':=by
 have x:aW C μ s.heap μ s'.heap:=⟨⟨[],by simp⟩,hz,fun i p hi e=>(by rw [List.getElem?_eq_none hi] at e; cases e),
  fun b o e hd z0=>⟨fun hn=>k b o e hn fun q=>hd (.inl q),fun hm=>kf b o e hm⟩⟩
 have bf:∀ b o,C.base.get? b = some o->b ∉ C.fl:=fun b o e hf=>by
  obtain ⟨env,he,hfr⟩:=List.mem_filterMap.mp hf
  obtain ⟨_,L,m,h1,_,h4⟩:=H.frames env he
  rw [h1] at hfr; injection hfr with hfr; subst hfr
  rw [h4] at e; cases e
 refine ⟨x,⟨hg,ho,fun b o e=>k b o (H.stay b o e) (bf b o e) fun q=>?_,H.gstay,H.len,fun i p o e1 e2=>?_,H.sep,H.new,H.own,fun env he=>?_,H.frm,T,H.tabs0,H.h0f,fun L hL o e=>?_⟩⟩
 .rw [H.tabs0 q.1 b q.2] at e; cases e
 .obtain ⟨⟨o1,a1⟩,⟨o2,a2⟩⟩:=H.some1 e1
  obtain ⟨f1,f2⟩:=H.frm i p e1
  obtain ⟨t1,t2⟩:=H.notTb e1
  exact OR.move H (fun z0 z0 q=>q.elim) x (H.obj i p o e1 e2) ((k _ _ a1 f1 fun q=>t1 q.2).trans a1.symm) ((k _ _ a2 f2 fun q=>t2 q.2).trans a2.symm)
 .obtain ⟨h1,L,m,h2,⟨o,es,ep,h3,h5,h6⟩,h4⟩:=H.frames env he
  obtain ⟨sl,q⟩:=kf L o h3 (List.mem_filterMap.mpr ⟨env,he,h2⟩)
  exact ⟨h1,L,m,h2,⟨_,es,ep,q,h5,h6⟩,h4⟩
 .obtain ⟨sl,q⟩:=H.h0k L hL o e
  obtain ⟨sl',q'⟩:=kf L _ q (H.h0f L hL)
  exact ⟨sl',q'⟩
noncomputable abbrev Cf.freeze (C:Cf) (n:Nat) (h:Heap) (l:List Addr):Cf:={ C with base:=hideAll h C.fl,fz:=n,h0:=h,h0fl:=l }
theorem HR.notFl (H:HR C μ σ s) {b:Addr} {o:Obj} (e:C.base.get? b = some o):b ∉ C.fl:=fun hf=>by
 obtain ⟨env,he,hfr⟩:=List.mem_filterMap.mp hf
 obtain ⟨_,L,m,h1,_,h4⟩:=H.frames env he
 rw [h1] at hfr; injection hfr with hfr; subst hfr
 rw [h4] at e; cases e
theorem HR.freeze (H:HR C μ σ s) (hn:σ.length ≠ 0) {l:List Addr} (hl:∀ L ∈ l,L ∈ C.fl):HR (C.freeze σ.length s.heap l) μ σ s:=by
 refine ⟨H.gens,H.os,fun b o e=>of_hideAll _ e,fun b o e=>hideAll_get _ (H.ghost b o e) (H.notFl (H.gstay b o e)),H.len,H.obj,H.sep,fun i p e hi=>?_,H.own,fun env he=>?_,H.frm,H.tabs,fun q=>absurd q hn,hl,fun L z0 o e=>⟨o.slots,e⟩⟩
 .have:=(List.getElem?_eq_some_iff.mp e).1
  rw [H.len] at this
  exact absurd this (Nat.not_lt.mpr hi)
 .obtain ⟨h1,L,m,h2,h3,h4⟩:=H.frames env he
  exact ⟨h1,L,m,h2,h3,hideAll_none _ (List.mem_filterMap.mpr ⟨env,he,h2⟩)⟩
theorem Ok.freeze (O:Ok C) (H:HR C μ σ s) {n:Nat} {l:List Addr} (hl:∀ L ∈ l,L ∈ C.fl):Ok (C.freeze n s.heap l):=by
 refine ⟨O.fewfn,O.toldfn,O.errg,O.errc,O.codes,O.callee,O.fns,O.nolim,O.glo,O.kin,O.cls,fun L hL o e vs q=>?_⟩
 obtain ⟨env,he,hfr⟩:=List.mem_filterMap.mp (hl L hL)
 obtain ⟨_,L',m,h1,⟨o',es,ep,h3,h5,_⟩,_⟩:=H.frames env he
 rw [h1] at hfr; injection hfr with hfr; subst hfr
 rw [show s.heap.get? L' = some o from e] at h3; injection h3 with h3; subst h3
 rw [h5] at q; cases q
theorem HR.thaw (H:HR C μ σ s) (hfz:C.fz = 0) {l:List Addr} (X:aW (C.freeze σ.length s.heap l) μ s.heap μ' s'.heap) (HF:HR (C.freeze σ.length s.heap l) μ' σ' s'):aW C μ s.heap μ' s'.heap/\HR C μ' σ' s':=by
 have nd:∀ b,s.heap.get? b ≠ none->σ.length ≠ 0->¬ Dm (C.freeze σ.length s.heap l) μ b:=fun b z0 hn q=>by
  rcases q with ⟨q,_⟩ | ⟨i,p,hi,e,_⟩
  .exact hn q
  .have:=(List.getElem?_eq_some_iff.mp e).1
   rw [H.len] at this
   exact absurd this (Nat.not_lt.mpr hi)
 have key:∀ b o,s.heap.get? b = some o->¬ Dm C μ b->(b ∉ C.fl->s'.heap.get? b = some o)/\(b ∈ C.fl->∃ sl,s'.heap.get? b = some { o with slots:=sl }):=fun b o e hd=>by
  refine X.keep b o e (fun q=>?_) fun q=>q
  rcases q with ⟨q,hm⟩ | ⟨i,p,hi,e,_⟩
  .exact hd (.inl ⟨hfz,hm⟩)
  .have:=(List.getElem?_eq_some_iff.mp e).1
   rw [H.len] at this
   exact absurd this (Nat.not_lt.mpr hi)
 have all:∀ b o,s.heap.get? b = some o->b ∉ C.tb->(b ∉ C.fl->s'.heap.get? b = some o)/\(b ∈ C.fl->∃ sl,s'.heap.get? b = some { o with slots:=sl }):=fun b o e hd=>by
  refine X.keep b o e (fun q=>?_) fun q=>q
  rcases q with ⟨_,hm⟩ | ⟨i,p,hi,e,_⟩
  .exact hd hm
  .have:=(List.getElem?_eq_some_iff.mp e).1
   rw [H.len] at this
   exact absurd this (Nat.not_lt.mpr hi)
 refine ⟨⟨X.pre,X.size,X.new,fun b o e hd z0=>key b o e hd⟩,⟨HF.gens,HF.os,fun b o e=>?_,H.gstay,HF.len,HF.obj,HF.sep,fun i p e hi=>?_,HF.own,fun env he=>?_,HF.frm,HF.tabs,H.tabs0,H.h0f,fun L hL o e=>?_⟩⟩
 .refine (all b o (H.stay b o e) fun q=>?_).1 (H.notFl e)
  rw [H.tabs0 hfz b q] at e; cases e
 .by_cases hlt:i < μ.length
  .obtain ⟨ν,rfl⟩:=X.pre
   rw [List.getElem?_append_left hlt] at e
   exact H.new i p e hi
  .obtain ⟨n1,n2⟩:=HF.new i p e (by show σ.length ≤ i; rw [<- H.len]; omega)
   have no:∀ b,(hideAll s.heap C.fl).get? b = none->C.base.get? b = none:=fun b q=>by
    induction hq:C.base.get? b using Option.casesOn with
    | none=>rfl
    | some o=>rw [hideAll_get _ (H.stay b o hq) (H.notFl hq)] at q; cases q
   exact ⟨no _ n1,no _ n2⟩
 .obtain ⟨h1,L,m,h2,h3,_⟩:=HF.frames env he
  obtain ⟨_,L',_,h2',_,h4⟩:=H.frames env he
  rw [h2] at h2'; injection h2' with h2'; subst h2'
  exact ⟨h1,L,m,h2,h3,h4⟩
 .obtain ⟨sl,q⟩:=H.h0k L hL o e
  have hf:=H.h0f L hL
  have htb:L ∉ C.tb:=fun q'=>by
   obtain ⟨ps,t1,_⟩:=H.tabs L q'
   obtain ⟨env,he,hfr⟩:=List.mem_filterMap.mp hf
   obtain ⟨_,L',m,h1,⟨o',es,ep,h3,h5,_⟩,_⟩:=H.frames env he
   rw [h1] at hfr; injection hfr with hfr; subst hfr
   rw [t1] at h3; injection h3 with h3; subst h3; cases h5
  obtain ⟨sl',q'⟩:=(all L _ q htb).2 hf
  exact ⟨sl',q'⟩
end
section
variable {C:Cf} {A:Around} {μ μ':Mu} {σ σ':ac} {s s':Shared} {c:Ctx} {env:Env}
theorem bK {A:Around} {env:Env} {s:Shared} {g:Heap} {mg mb:Str->Option Value} (G:Glo g mg mb) (k:g.StaysIn s.heap) (hk:env.scope.kind = .function) (hgl:env.globals = mainGlobals) (hbl:env.builtins = builtinsNs) {f:Str} {pos:Pos} (hx:env.kindOf f = some .globalImplicit) {v:Value}
  (hv:mg f = some v\/(mg f = none/\mb f = some v)) (hd:(f == ("__debug__" : Str)) = false) {M:Model} {Q:Value->Shared->Prop} {E:Value->Shared->Prop} (q:Q v s):wpAny M A (eval (.Name f pos) env) Q E s:=by
 refine wpAny_Name ?_ hd
 unfold loadName
 simp only [Env.blockKind,hk,hx,ScopeKind.isAnnotationScope,Bool.false_and,Bool.false_eq_true,if_false]
 rcases hv with hv | ⟨h1,h2⟩
 .exact loadGlobal_global (hgl ▸ G.gl.keeps k) hv q
 .exact loadGlobal_builtin (hgl ▸ G.gl.keeps k) h1 (hbl ▸ G.bl.keeps k) h2 q
theorem caught (O:Ok C) {L:Addr} {outer:List Env} (hC:C.fs = env :: outer) (hfr:A.frames = some C.fs) (hf:env.frame = some L) (hgb:C.ghost.StaysIn C.base) (hk:env.scope.kind = .function) (hgl:env.globals = mainGlobals) (hbl:env.builtins = builtinsNs)
  (hx:env.kindOf "GrammarError" = some .globalImplicit) {e:Value} (x:XP C e s) {np p5 p6 p7:Pos} {kd:Nat} {Q:Flow->Shared->Prop} {E:Value->Shared->Prop}
  (hQ:∀ h',C.base.StaysIn h'->(∀ L ∈ C.h0fl,∀ o,C.h0.get? L = some o->∃ sl,h'.get? L = some { o with slots:=sl })->s.gens = #[]->s.os = C.os->Q (.ret .none) { s with heap:=h' }) :
  wpAny (model C.prog C.w) A (noteFrame e env) (fun z0 s₂=>wpAny (model C.prog C.w) A (setFlight e none) (fun z0 s₃ =>
   wpAny (model C.prog C.w) A (handleBy e env [.ExceptHandler (some (.Name "GrammarError" np)) none [.Return (some (.Constant .none kd p5)) p6] p7]) Q E s₃) E s₂) E s:=by
 obtain ⟨ea,a0,rfl,h1,h2,h3,h4⟩:=x
 have keep:∀ {h':Heap},s.heap.UpToSlots h'->∀ L ∈ C.h0fl,∀ o,C.h0.get? L = some o->∃ sl,h'.get? L = some { o with slots:=sl }:=fun {h'} u L hL o e=>by
  obtain ⟨sl,q⟩:=h4 L hL o e
  obtain ⟨sl',q'⟩:=u _ _ q (O.h0d L hL o e)
  exact ⟨sl',q'⟩
 have fin:∀ (h₅:Heap),Heap.FlyingW C.base (env :: outer) ea (.ref (C.cls "GrammarError")) a0 h₅->s.heap.UpToSlots h₅ ->
   wpAny (model C.prog C.w) A (handleBy (.ref ea) env [.ExceptHandler (some (.Name "GrammarError" np)) none [.Return (some (.Constant .none kd p5)) p6] p7]) Q E { s with heap:=h₅ }:=by
  intro h₅ hfl hu
  have gst:C.ghost.StaysIn h₅:=fun b o q=>hfl.1 b o (hgb b o q)
  obtain ⟨ob,hob,hobc⟩:=hfl.there
  obtain ⟨nm,q,N,bs,T,hdct,sn,sub,ab,col,dd,k0,k1,k2,k3,k5,hG⟩:=O.errc.obj
  have hbase:([.ref T,.type "Exception", .type "BaseException", .type "object"]:List Value).contains (.type "BaseException") = true:=by rw [List.contains_cons,show ([.type "Exception", .type "BaseException", .type "object"]:List Value).contains (.type "BaseException") = true from by decide,Bool.or_true]
  refine wpAny_handleBy_cons (codeAny_handlers_test (bK (s:={ s with heap:=h₅ }) O.glo gst hk hgl hbl hx (.inl O.errg) (by decide) ?_)) (by intro q; cases q)
  obtain ⟨hh,gg,d,t,os⟩:=s
  refine wpAny_excMatches_sub_self (gst _ _ hG) hob hobc hbase (codeAny_handlers_suite ?_)
  refine lands_againW (s:=⟨h₅,gg,d,t,os⟩) hfl fun h₆ hfl₆ hu₆=>?_
  refine wpAny_execs_cons ?_
  rw [PySem.exec_Return_some]
  refine wpAny_bind (wpAny_standAt (wpAny_bind ?_))
  rw [show eval (.Constant .none kd p5) env = pure .none from rfl]
  exact wpAny_pure (wpAny_pure (hQ h₆ hfl₆.1 (keep (hu.trans hu₆)) h2 h3))
 rcases h1 with h1 | ⟨e0,outer',L',g1,g2,g3⟩
 .rw [hC] at h1
  refine wpAny_looks_onW (by rw [hfr,hC]) hf h1 fun h' hh hu=>?_
  refine wpAny_landsW hh fun h₅ hfl hu'=>fin h₅ hfl (hu.trans hu')
 .rw [hC] at g1; injection g1 with g1 g1'; subst g1 g1'
  rw [hf] at g2; injection g2 with g2; subst g2
  rw [hC] at g3
  refine wpAny_noteFrame_againW hf g3.2.2.2 ?_
  refine wpAny_landsW g3 fun h₅ hfl hu'=>fin h₅ hfl hu'
end
section
variable {r:Rc} {n:Nat} {C:Cf} {A:Around} {μ μ':Mu} {σ σ':ac} {s s':Shared} {c:Ctx} {env:Env}
theorem jZ {a:Arguments} (h:noParams a = true):a = ⟨[],[],none,[],[],none,[]⟩:=by
 obtain ⟨a1,a2,a3,a4,a5,a6,a7⟩:=a
 unfold noParams at h
 simp only [Bool.and_eq_true,List.isEmpty_iff,Option.isNone_iff_eq_none] at h
 obtain ⟨⟨⟨⟨⟨⟨h1,h2⟩,h3⟩,h4⟩,h5⟩,h6⟩,h7⟩:=h
 subst h1 h2 h3 h4 h5 h6 h7
 rfl
theorem rk (V:ax C c env μ s.heap) {sc:Scope} (hok:compOk sc c = true) {cl:List (Str × Addr)} (h1:∀ x ad,cl.lookup x = some ad->env.cells.lookup x = some ad) (h2:∀ p ∈ sc.names,p.2 = .free->∃ ad,cl.lookup p.1 = some ad)
  {C':Cf} (hg:C'.ghost = C.ghost) {L:Addr} {m:Str->Option Value} {q:Str} {f:Addr} {cv:Value} {k:Nat} (hn:s.heap.Ns L m) (hoff:∀ (i:Nat) (p:Addr × Addr),μ[i]? = some p->p.1 ≠ L/\p.2 ≠ L) (hb:C'.base.get? L = none) (htb:L ∉ C'.tb) (hfl:L ∉ C'.h0fl)
  (hfr:∃ outer,C'.fs = newEnv sc L mainGlobals cl q (some f) cv none builtinsNs :: outer) (hk:k = C'.fz) :
  ax C' { sc:=sc,loc:=fun z0=>Option.none,cel:=c.cel,fz:=k } (newEnv sc L mainGlobals cl q (some f) cv none builtinsNs) μ s.heap:=by
 obtain ⟨k1,k2,k3,k4⟩:=bF hok
 obtain ⟨outer,hfr⟩:=hfr
 refine ⟨k1,rfl,rfl,fun x hx=>hx,fun x hx=>hx,fun x hx=>.inl hx,fun x hx=>hx,⟨m,hn,fun x a e=>(nomatch e)⟩,⟨hoff,hb,htb,hfl⟩,fun x hx=>?_,fun x y ad e1 e2=>V.apart x y ad (h1 _ _ e1) (h1 _ _ e2),
  fun x ad e=>V.allc x ad (h1 _ _ e),⟨_,outer,L,hfr,rfl,rfl⟩,hk,fun q=>nomatch q⟩
 have hmem:sc.names.lookup x = some .free:=hx.resolve_left fun q=>absurd rfl (k2 _ (aR (show sc.names.lookup x = some .cell from q)))
 have hm:=aR hmem
 obtain ⟨ad,had⟩:=h2 _ hm rfl
 obtain ⟨ad',g1,g2,g3⟩:=V.cells x (k4 _ hm rfl)
 have:=h1 _ _ had
 rw [g1] at this; injection this with this; subst this
 rw [hg]
 exact ⟨ad',had,g2,fun q=>by
  have:sc.names.lookup x = some .cell:=q
  rw [hmem] at this; exact nomatch this⟩
end
section
variable {r:Rc} {n:Nat} {C:Cf} {A:Around} {μ μ':Mu} {σ σ':ac} {s s':Shared} {c:Ctx} {env:Env}
noncomputable abbrev noArgs:Arguments:=⟨[],[],none,[],[],none,[]⟩
theorem fR (hP:Ok C) (H:HR C μ σ s) (V:ax C c env μ s.heap) (hk:c.kind "_law_told" = some .globalImplicit) (hfz:C.fz = 0) (htab:c.tab = true) {body:Expr} {sc:Scope} (hok:compOk sc c = true) {px pos lpos:Pos} {Q:Value->Shared->Prop} {E:Value->Shared->Prop}
  (h:∀ s1 f cv ctv clos,aW C μ s.heap μ s1.heap->HR C μ σ s1->(∀ x ad,clos.lookup x = some ad->env.cells.lookup x = some ad)->(∀ p ∈ sc.names,p.2 = .free->∃ ad,clos.lookup p.1 = some ad) ->
   s1.heap.get? f = some (lamObj "<lambda>" (env.qual ++ "<lambda>") noArgs body sc clos ((C.mg "__name__").getD .none) cv ctv)->dj s1.heap cv (env.qual ++ "<lambda>")->wpAny (model C.prog C.w) A (call (.ref (C.fn "_law_told")) [.ref f]) Q E s1) :
  wpAny (model C.prog C.w) A (eval (.Call (.Name "_law_told" px) [.Lambda noArgs body sc lpos] [] pos) env) Q E s:=by
 obtain ⟨cc,P,hcode,hhd,hPtb,hq⟩:=V.code htab
 obtain ⟨k1,k2,k3,k4⟩:=bF hok
 obtain ⟨clos,c1,c2,c3⟩:=dQ (env:=env) (scope:=sc) fun p hp hf=>by
  obtain ⟨ad,had,_⟩:=V.cells p.1 (k4 p hp hf)
  exact ⟨ad,had⟩
 obtain ⟨ps,t1,t2,t3⟩:=H.tabs P hPtb
 rw [hq] at t3
 obtain ⟨o,fd,p1,p2,p3,p4,p5,p6,p7,p8,kd,ho,hdat,_⟩:=hP.toldfn
 have gP:∀ {o:Obj},C.ghost.get? P = some o->False:=fun {o} q=>by
  have:=H.gstay _ _ q
  rw [H.tabs0 hfz P hPtb] at this; cases this
 have hgP:mainGlobals ≠ P:=fun q=>by
  obtain ⟨o,es,ep,e,_⟩:=hP.glo.gl
  exact gP (q ▸ e)
 rw [arm_eval_Call_Name']
 refine wpAny_bind (bK hP.glo H.ghost V.kind V.glob V.blt (V.kGlob _ hk) (.inl hP.callee.told) (by decide) ?_)
 show wpAny _ _ (callWith pos (.ref (C.fn "_law_told")) [] [(false,eval (.Lambda noArgs body sc lpos) env)] []) Q E s
 refine PySem.W.callWith_of (P:=fun h=>C.ghost.StaysIn h) rfl (fun h k=>fJ ho hdat h k) ?_
 refine bL (by intro p hp; rw [List.mem_singleton.mp hp]) (spliced_cons ?_)
 rw [arm_eval_Lambda]
 show wpAny _ _ (evalAll [] >>= fun dv=>holding dv (evalAllOpt []) >>= fun kdv=>makeFunction "<lambda>" (env.qual ++ "<lambda>") noArgs (.expr body) sc env dv kdv [] lpos lpos.line) _ _ s
 refine wpAny_bind (wpAny_of_eq (a:=[]) rfl (wpAny_bind (wpAny_holding (wpAny_of_eq (a:=[]) rfl ?_))))
 have hb:s.heap.BuiltinsAt C.mg P:=by
  obtain ⟨bm,ob,b1,b2,b3,b4,b5,b6⟩:=hP.glo.bmain
  refine ⟨bm,ob,b1,b2,fun q=>?_,fun q=>gP (q ▸ b3),H.ghost _ _ b3,b4,b5,b6⟩
  obtain ⟨o,es,ep,e,hd,_⟩:=hP.glo.gl
  rw [q,e] at b3; injection b3 with b3; subst b3; rw [hd] at b6; cases b6
 refine mkLam c1 V.glob (hP.glo.gl.keeps H.ghost) hcode (hhd.keeps H.ghost) t1 t2 hgP hb t3 fun ps' cv ctv h' tk hx hz hP' ht' hc' hok'=>?_
 have flP:P ∉ C.fl:=fun hf=>by
  obtain ⟨env',he,hfr⟩:=List.mem_filterMap.mp hf
  obtain ⟨_,L,m,h1,⟨o',es,ep,h3,h5,_⟩,_⟩:=H.frames env' he
  rw [h1] at hfr; injection hfr with hfr; subst hfr
  rw [t1] at h3; injection h3 with h3; subst h3; cases h5
 obtain ⟨x1,H1⟩:=H.slots (s':={ s with heap:=h'.push (lamObj "<lambda>" (env.qual ++ "<lambda>") noArgs body sc clos ((C.mg "__name__").getD .none) cv ctv),toks:=tk }) H.gens H.os (by show _ ≤ (h'.push _).objs.size; rw [Heap.size_push]; omega)
  (fun b o e hf ht=>Heap.get?_push_of_some _ (hx b o (fun q=>ht ⟨hfz,q ▸ hPtb⟩) e)) (fun b o e hf=>⟨o.slots,Heap.get?_push_of_some _ (hx b o (fun q=>flP (q ▸ hf)) e)⟩) (fun P' hP''=>by
   by_cases hpp:P' = P
   .rw [hpp]
    exact ⟨ps',Heap.get?_push_of_some _ hP',ht',fun pos cv' e=>by
     rw [hq]
     obtain ⟨c',oc,vs,t,e1,e2,r⟩:=hc' pos cv' e
     exact ⟨c',oc,vs,t,e1,Heap.get?_push_of_some _ e2,r⟩⟩
   .obtain ⟨ps2,a1,a2,a3⟩:=H.tabs P' hP''
    refine ⟨ps2,Heap.get?_push_of_some _ (hx _ _ hpp a1),a2,fun pos cv' e=>?_⟩
    obtain ⟨c',oc,vs,t,e1,e2,e3,r⟩:=a3 pos cv' e
    exact ⟨c',oc,vs,t,e1,Heap.get?_push_of_some _ (hx _ _ (fun q=>by rw [q,t1] at e2; injection e2 with e2; subst e2; exact nomatch e3) e2),e3,r⟩)
 refine spliced_nil ⟨H1.ghost,?_⟩
 refine h _ _ cv ctv clos x1 H1 c2 c3 (Heap.get?_push_size _ rfl) ?_
 obtain ⟨c',oc,vs,t,e1,e2,r⟩:=hok'
 exact ⟨c',oc,vs,t,e1,Heap.get?_push_of_some _ e2,r⟩
end
section
variable {r:Rc} {n:Nat} {C:Cf} {A:Around} {μ μ':Mu} {σ σ':ac} {s1 s s':Shared} {c:Ctx} {env:Env}
theorem jx (hP:Ok C) (hroom:A.depth + 1 < recursionLimit) (H1:HR C μ σ s1) {f:Addr} {qual:Str} {body:Expr} {sc:Scope} {clos:List (Str × Addr)} {pm cv ctv:Value} (hf:s1.heap.get? f = some (lamObj "<lambda>" qual noArgs body sc clos pm cv ctv)) (hcv:dj s1.heap cv qual)
  (k1:sc.kind = .function) (k2:∀ p ∈ sc.names,p.2 ≠ .cell) (hco:sc.isCoroutine = false) (hgen:sc.isGenerator = false) {Q:Value->Shared->Prop} {E:Value->Shared->Prop}
  (h:∀ (et:Env) (Lt L3:Addr) (s3:Shared) (np p5 p6 p7:Pos) (kd:Nat) (q:Str),et.frame = some Lt->s1.heap.objs.size ≤ Lt->et.scope.kind = .function->et.globals = mainGlobals->et.builtins = builtinsNs->et.kindOf "GrammarError" = some .globalImplicit ->
   s1.heap.objs.size ≤ L3->Lt ≠ L3->(∀ b o,s1.heap.get? b = some o->s3.heap.get? b = some o)->HR ((C.down et).down (newEnv sc L3 mainGlobals clos q (some f) cv none builtinsNs)) μ σ s3->(∃ m,s3.heap.Ns L3 m) ->
   wpAny (model C.prog C.w) ((A.deeper et).deeper (newEnv sc L3 mainGlobals clos q (some f) cv none builtinsNs)) (eval body (newEnv sc L3 mainGlobals clos q (some f) cv none builtinsNs)) Q (fun e s' =>
    wpAny (model C.prog C.w) ((A.deeper et).deeper (newEnv sc L3 mainGlobals clos q (some f) cv none builtinsNs)) (leaving (newEnv sc L3 mainGlobals clos q (some f) cv none builtinsNs) e)
     (fun z0 s''=>wpAny (model C.prog C.w) (A.deeper et) (noteFrame e et) (fun z0 s₂=>wpAny (model C.prog C.w) (A.deeper et) (setFlight e none) (fun z0 s₃ =>
      wpAny (model C.prog C.w) (A.deeper et) (handleBy e et [.ExceptHandler (some (.Name "GrammarError" np)) none [.Return (some (.Constant .none kd p5)) p6] p7]) (fun fl s₄=>Q (match fl with | .ret v=>v | _=>.none) s₄)
       (fun e s'=>wpAny (model C.prog C.w) (A.deeper et) (leaving et e) (fun z0 s''=>E e s'') (fun e' s''=>E e' s'') s') s₃)
       (fun e s'=>wpAny (model C.prog C.w) (A.deeper et) (leaving et e) (fun z0 s''=>E e s'') (fun e' s''=>E e' s'') s') s₂)
       (fun e s'=>wpAny (model C.prog C.w) (A.deeper et) (leaving et e) (fun z0 s''=>E e s'') (fun e' s''=>E e' s'') s') s'')
     (fun e s''=>wpAny (model C.prog C.w) (A.deeper et) (noteFrame e et) (fun z0 s₂=>wpAny (model C.prog C.w) (A.deeper et) (setFlight e none) (fun z0 s₃ =>
      wpAny (model C.prog C.w) (A.deeper et) (handleBy e et [.ExceptHandler (some (.Name "GrammarError" np)) none [.Return (some (.Constant .none kd p5)) p6] p7]) (fun fl s₄=>Q (match fl with | .ret v=>v | _=>.none) s₄)
       (fun e s'=>wpAny (model C.prog C.w) (A.deeper et) (leaving et e) (fun z0 s''=>E e s'') (fun e' s''=>E e' s'') s') s₃)
       (fun e s'=>wpAny (model C.prog C.w) (A.deeper et) (leaving et e) (fun z0 s''=>E e s'') (fun e' s''=>E e' s'') s') s₂)
       (fun e s'=>wpAny (model C.prog C.w) (A.deeper et) (leaving et e) (fun z0 s''=>E e s'') (fun e' s''=>E e' s'') s') s'') s') s3) :
  wpAny (model C.prog C.w) A (call (.ref (C.fn "_law_told")) [.ref f]) Q E s1:=by
 obtain ⟨o,fd,p1,p2,p3,p4,p5,p6,p7,p8,kd,ho,hdat,hbody,hclo,hglob,hblt,hcode,hfco,hfgen,hfk,hask,hge,hcell,hbind⟩:=hP.toldfn
 refine wpAny_call (codeAny_call_def (fd:=fd) (binds:=[(("ask" : Str),.ref f)]) (by omega) (H1.ghost _ _ ho) hdat (hP.nolim.keeps fun b o e=>H1.ghost _ _ e) (hcode.keeps H1.ghost) hbody (hbind s1 (.ref f)) hcell (fun x hx=>by rw [List.mem_singleton.mp hx]; exact hask) (fun h₀ hns hk₀=>?_) hfco hfgen hfk)
 have hlt:s1.heap.objs.size < h₀.objs.size:=hns.lt
 obtain ⟨x2,H2⟩:=H1.keeps (s':={ s1 with heap:=h₀,toks:=s1.toks + 1 }) hk₀ (Nat.le_of_lt hlt) rfl rfl
 have hmu:∀ (i:Nat) (p:Addr × Addr),μ[i]? = some p->p.1 ≠ s1.heap.objs.size/\p.2 ≠ s1.heap.objs.size:=fun i p e=>⟨Nat.ne_of_lt (H1.lt e).1,Nat.ne_of_lt (H1.lt e).2⟩
 have D2:HR (C.down (callEnv fd s1.heap.objs.size (C.fn "_law_told"))) μ σ { s1 with heap:=h₀,toks:=s1.toks + 1 }:=H2.down (L:=s1.heap.objs.size) rfl hfk hns (aT H1 (Nat.le_refl _)) hmu
 have kask:(callEnv fd s1.heap.objs.size (C.fn "_law_told")).kindOf "ask" = some .local:=hask
 have hf2:=hk₀ _ _ hf
 refine wpAny_execs_cons (wpAny_Try_except (wpAny_execs_cons ?_))
 rw [PySem.exec_Return_some]
 refine wpAny_bind (wpAny_standAt (wpAny_bind ?_))
 rw [arm_eval_Call_Name']
 refine wpAny_bind (wpAny_Name (wpAny_loadName_local hfk kask hns (v:=.ref f) (by rfl) ?_) (by decide))
 show wpAny _ _ (callWith p2 (.ref f) [] [] []) _ _ _
 refine PySem.W.callWith_of (P:=fun h=>h.get? f = some (lamObj "<lambda>" qual noArgs body sc clos pm cv ctv)) rfl (fun h e=>⟨.frame,.inl rfl,(Looks.ld (part:=none) e).andThen .now⟩) (bL (fun z0 q=>nomatch q) (spliced_nil ⟨hf2,?_⟩))
 obtain ⟨cc,oc,vs,t,e1,e2,e3,e4,e5⟩:=hcv
 refine wpAny_call (kla_callFunE (by show A.depth + 1 < _; exact hroom) hf2 rfl hco hgen rfl ⟨cc,oc,vs,t,e1,hk₀ _ _ e2,e4,e5⟩ (wpAny_of_eq (a:=[]) rfl ?_))
 refine wpAny_newFunctionEnv k2 (fun z0 q=>nomatch q) (fun h3 hns3 hsb3=>?_) k1
 have k3:∀ b o,h₀.get? b = some o->h3.get? b = some o:=fun b o e=>hsb3.extBut b o (Nat.ne_of_lt (Heap.lt_size e)) (Heap.get?_push_of_some _ e)
 have hlt3:h₀.objs.size < h3.objs.size:=hns3.lt
 obtain ⟨x3,H3⟩:=D2.keeps (s':={ s1 with heap:=h3,toks:=s1.toks + 1 + ([]:List (Str × Value)).length }) k3 (Nat.le_of_lt hlt3) rfl rfl
 have hmu3:∀ (i:Nat) (p:Addr × Addr),μ[i]? = some p->p.1 ≠ h₀.objs.size/\p.2 ≠ h₀.objs.size:=fun i p e=>⟨Nat.ne_of_lt (D2.lt e).1,Nat.ne_of_lt (D2.lt e).2⟩
 have D3:=H3.down (env:=newEnv sc h₀.objs.size mainGlobals clos (qual ++ ".<locals>.") (some f) cv none builtinsNs) (L:=h₀.objs.size) rfl k1 hns3 (aT D2 (Nat.le_refl _)) hmu3
 refine ⟨(hP.nolim.keeps fun b o e=>D3.ghost b o e),kla_codeExpr ?_⟩
 have key:=h (callEnv fd s1.heap.objs.size (C.fn "_law_told")) s1.heap.objs.size h₀.objs.size _ p4 p5 p6 p7 kd (qual ++ ".<locals>.") rfl (Nat.le_refl _) hfk hglob hblt hge (Nat.le_of_lt hlt) (Nat.ne_of_lt hlt) (fun b o e=>k3 _ _ (hk₀ _ _ e)) D3 ⟨_,hns3⟩
 exact wpAny_mono key (fun v s' q=>wpAny_pure q) fun e s' q=>wpAny_mono q (fun z0 s'' z=>wpAny_mono z (fun z0 s₂ z=>wpAny_mono z (fun z0 s₃ z=>wpAny_mono z (fun fl s₄ q=>by
   cases fl with
   | next=>exact wpAny_execs_nil q
   | _=>exact q) fun z0 z0 q=>q) fun z0 z0 q=>q) fun z0 z0 q=>q) fun e' s'' z=>wpAny_mono z (fun z0 s₂ z=>wpAny_mono z (fun z0 s₃ z=>wpAny_mono z (fun fl s₄ q=>by
   cases fl with
   | next=>exact wpAny_execs_nil q
   | _=>exact q) fun z0 z0 q=>q) fun z0 z0 q=>q) fun z0 z0 q=>q
end
section
variable {r:Rc} {n:Nat} {C:Cf} {A:Around} {μ μ':Mu} {σ σ':ac} {s1 s s':Shared} {c:Ctx} {env:Env}
theorem Ext.of_keeps {W:Addr->Prop} {h h':Heap} (k:∀ b o,h.get? b = some o->h'.get? b = some o) (hz:h.objs.size ≤ h'.objs.size):Ext C W μ h μ h' :=
 ⟨⟨[],by simp⟩,hz,fun i p hi e=>(by rw [List.getElem?_eq_none hi] at e; cases e),fun b o e z0 z0=>⟨fun z0=>k b o e,fun z0=>⟨o.slots,k b o e⟩⟩⟩
theorem HR.tabFl (H:HR C μ σ s) {P:Addr} (hP:P ∈ C.tb):P ∉ C.fl:=fun hf=>by
 obtain ⟨ps,t1,_⟩:=H.tabs P hP
 obtain ⟨env',he,hfr⟩:=List.mem_filterMap.mp hf
 obtain ⟨_,L,m,h1,⟨o',es,ep,h3,h5,_⟩,_⟩:=H.frames env' he
 rw [h1] at hfr; injection hfr with hfr; subst hfr
 rw [t1] at h3; injection h3 with h3; subst h3; cases h5
theorem oS (S:Snd Ok r n) (hP:Ok C) (hR:Rm C A (n + 1)) (H:HR C μ σ s) (V:ax C c env μ s.heap) (hk:c.kind "_law_told" = some .globalImplicit) {px pos lpos:Pos} {a:Arguments} {body:Expr} {sc:Scope} :
  af C A W0 (XP C) μ σ s (RV C) (eval (.Call (.Name "_law_told" px) [.Lambda a body sc lpos] [] pos) env) (told r c a body sc):=by
 unfold af told
 by_cases hb:(decide (σ.length ≠ 0/\c.fz = 0) && c.tab && noParams a && compOk sc c && !sc.isCoroutine && !sc.isGenerator) = true
 case neg=>rw [if_pos (by rw [eq_false_of_ne_true hb]; rfl)]; trivial
 rw [if_neg (by rw [hb]; exact Bool.false_ne_true)]
 simp only [Bool.and_eq_true,decide_eq_true_eq,Bool.not_eq_true'] at hb
 obtain ⟨⟨⟨⟨⟨⟨hn,hfz⟩,htab⟩,hnp⟩,hok⟩,hco⟩,hgen⟩:=hb
 rw [jZ hnp]
 have hfz':C.fz = 0:=V.fz.symm.trans hfz
 obtain ⟨k1,k2,k3,k4⟩:=bF hok
 have inner:∀ {s1:Shared} {f:Addr} {cv:Value} {clos:List (Str × Addr)} {q:Str} {et:Env} {Lt L3:Addr} {s3:Shared} (x1:aW C μ s.heap μ s1.heap) (H1:HR C μ σ s1)
   (c2:∀ x ad,clos.lookup x = some ad->env.cells.lookup x = some ad) (c3:∀ p ∈ sc.names,p.2 = .free->∃ ad,clos.lookup p.1 = some ad) (e1:et.frame = some Lt) (e2:s1.heap.objs.size ≤ Lt) (e3:s1.heap.objs.size ≤ L3) (e4:Lt ≠ L3)
   (hkeep:∀ b o,s1.heap.get? b = some o->s3.heap.get? b = some o) (D3:HR ((C.down et).down (newEnv sc L3 mainGlobals clos q (some f) cv none builtinsNs)) μ σ s3) (hns:∃ m,s3.heap.Ns L3 m),
   s1.heap.objs.size ≤ s3.heap.objs.size/\(∀ L ∈ (C.down et).fl,L ∈ ((C.down et).down (newEnv sc L3 mainGlobals clos q (some f) cv none builtinsNs)).fl) /\
   HR (((C.down et).down (newEnv sc L3 mainGlobals clos q (some f) cv none builtinsNs)).freeze σ.length s3.heap (C.down et).fl) μ σ s3 /\
   Ok (((C.down et).down (newEnv sc L3 mainGlobals clos q (some f) cv none builtinsNs)).freeze σ.length s3.heap (C.down et).fl) /\
   af (((C.down et).down (newEnv sc L3 mainGlobals clos q (some f) cv none builtinsNs)).freeze σ.length s3.heap (C.down et).fl) ((A.deeper et).deeper (newEnv sc L3 mainGlobals clos q (some f) cv none builtinsNs)) W0
    (XP (((C.down et).down (newEnv sc L3 mainGlobals clos q (some f) cv none builtinsNs)).freeze σ.length s3.heap (C.down et).fl)) μ σ s3 (RV C) (eval body (newEnv sc L3 mainGlobals clos q (some f) cv none builtinsNs)) (r.E body { sc:=sc,loc:=fun z0=>Option.none,cel:=c.cel,fz:=σ.length }):=by
  intro s1 f cv clos q et Lt L3 s3 x1 H1 c2 c3 e1 e2 e3 e4 hkeep D3 ⟨m,hns⟩
  have hz:s1.heap.objs.size ≤ s3.heap.objs.size:=Nat.le_trans e3 (Nat.le_of_lt hns.lt)
  have hl:∀ L ∈ (C.down et).fl,L ∈ ((C.down et).down (newEnv sc L3 mainGlobals clos q (some f) cv none builtinsNs)).fl:=fun L hL=>by
   rw [bi (C:=C.down et) (L:=L3) rfl]; exact List.mem_cons_of_mem _ hL
  have HF:=D3.freeze hn hl
  have OF:=(hP.down (env:=et)).down (env:=newEnv sc L3 mainGlobals clos q (some f) cv none builtinsNs) |>.freeze (n:=σ.length) D3 hl
  refine ⟨hz,hl,HF,OF,?_⟩
  obtain ⟨x3,H3⟩:=H1.keeps (s':=s3) hkeep hz (D3.gens.trans H1.gens.symm) (D3.os.trans H1.os.symm)
  have V3:=(V.ext0 H x1).ext0 H1 x3
  have VL:=rk (s:=s3) V3 hok c2 c3 (C':=((C.down et).down (newEnv sc L3 mainGlobals clos q (some f) cv none builtinsNs)).freeze σ.length s3.heap (C.down et).fl) rfl (L:=L3) (m:=m) (q:=q) (f:=f) (cv:=cv) (k:=σ.length) hns
   (fun i p e=>⟨Nat.ne_of_lt (Nat.lt_of_lt_of_le (H1.lt e).1 e3),Nat.ne_of_lt (Nat.lt_of_lt_of_le (H1.lt e).2 e3)⟩)
   (hideAll_none _ (by rw [bi (C:=C.down et) (L:=L3) rfl]; exact List.mem_cons_self)) (pW H1 e3) (fun q'=>by
    rw [bi e1] at q'
    rcases List.mem_cons.mp q' with q' | q'
    .exact e4 q'.symm
    .exact bU H1 e3 q') ⟨_,rfl⟩ rfl
  refine S.E _ _ μ σ s3 _ _ body OF ⟨hR.handled,?_,?_,?_⟩ HF VL
  .show ((A.frames.map (et :: ·)).map _) = _
   rw [hR.frames]; rfl
  .exact hR.de (k:=2) (by decide)
  .exact hR.un (k:=6) (by decide)
 have room:A.depth + 1 < recursionLimit:=hR.d0 (by decide)
 induction hO:r.E body { sc:=sc,loc:=fun z0=>Option.none,cel:=c.cel,fz:=σ.length } σ using Out.casesOn with
 | stuck=>trivial
 | ok a σ' =>
  intro Q E hQ
  refine fR hP H V hk hfz' htab hok fun s1 f cv ctv clos x1 H1 c2 c3 hf hcv=>?_
  refine jx hP room H1 hf hcv k1 k2 hco hgen fun et Lt L3 s3 np p5 p6 p7 kd q e1 e2 z0 z0 z0 z0 e3 e4 hkeep D3 hns=>?_
  obtain ⟨hz,hl,HF,OF,sim⟩:=inner x1 H1 c2 c3 e1 e2 e3 e4 hkeep D3 hns
  unfold af at sim
  rw [hO] at sim
  refine sim _ _ fun μ' v s' X' H' r'=>?_
  obtain ⟨y1,y2⟩:=D3.thaw hfz' X' H'
  have u1:=HR.up (C:=C.down et) (L:=L3) (fun L hL=>by rw [bi e1]; exact List.mem_cons_of_mem _ (H.h0f L hL)) rfl y2
  have u2:=HR.up (C:=C) H.h0f e1 u1
  have z1:=Ext.call (C:=C.down et) (L:=L3) (h:=s1.heap) rfl e3 (Ext.of_keeps hkeep hz) y1 (fun z0 q=>q.elim)
  have z2:=Ext.call (C:=C) e1 e2 (Ext.refl (h:=s1.heap)) z1 (fun z0 q=>q.elim)
  exact hQ μ' v s' (x1.trans z2) u2 r'
 | exc =>
  intro Q E hQ
  refine fR hP H V hk hfz' htab hok fun s1 f cv ctv clos x1 H1 c2 c3 hf hcv=>?_
  refine jx hP room H1 hf hcv k1 k2 hco hgen fun et Lt L3 s3 np p5 p6 p7 kd q e1 e2 g1 g2 g3 g4 e3 e4 hkeep D3 hns=>?_
  obtain ⟨hz,hl,HF,OF,sim⟩:=inner x1 H1 c2 c3 e1 e2 e3 e4 hkeep D3 hns
  unfold af at sim
  rw [hO] at sim
  refine sim _ _ fun e s' hx=>?_
  have fr2:((A.deeper et).deeper (newEnv sc L3 mainGlobals clos q (some f) cv none builtinsNs)).frames = some (((C.down et).down (newEnv sc L3 mainGlobals clos q (some f) cv none builtinsNs)).freeze σ.length s3.heap (C.down et).fl).fs:=by
   show ((A.frames.map (et :: ·)).map _) = _
   rw [hR.frames]; rfl
  refine XP.leaves OF (L:=L3) (fs':=et :: C.fs) rfl fr2 rfl hx fun s'' hx''=>?_
  have OF':Ok { (((C.down et).down (newEnv sc L3 mainGlobals clos q (some f) cv none builtinsNs)).freeze σ.length s3.heap (C.down et).fl) with fs:=et :: C.fs }:=⟨OF.fewfn,OF.toldfn,OF.errg,OF.errc,OF.codes,OF.callee,OF.fns,OF.nolim,OF.glo,OF.kin,OF.cls,OF.h0d⟩
  refine caught OF' (outer:=C.fs) rfl (by show A.frames.map _ = _; rw [hR.frames]; rfl) e1 HF.gstay g1 g2 g3 g4 hx'' fun h' hb' h0' hg ho=>?_
  have hmemt:Lt ∈ (C.down et).fl:=by rw [bi e1]; exact List.mem_cons_self
  have keep1:∀ b o,s1.heap.get? b = some o->b ∉ C.fl->h'.get? b = some o:=fun b o e hn'=>by
   refine hb' b o (hideAll_get _ (hkeep b o e) fun q'=>?_)
   have hlt:=Heap.lt_size e
   rw [bi (C:=C.down et) (L:=L3) rfl,bi e1] at q'
   rcases List.mem_cons.mp q' with q' | q'
   .exact Nat.lt_irrefl _ (Nat.lt_of_lt_of_le hlt (q' ▸ e3))
   .rcases List.mem_cons.mp q' with q' | q'
    .exact Nat.lt_irrefl _ (Nat.lt_of_lt_of_le hlt (q' ▸ e2))
    .exact hn' q'
  have hz':s1.heap.objs.size ≤ h'.objs.size:=by
   obtain ⟨_,L,m,q1,⟨o,es,ep,q2,_⟩,_⟩:=D3.frames et (List.mem_cons_of_mem _ List.mem_cons_self)
   rw [e1] at q1; injection q1 with q1; subst q1
   obtain ⟨sl,q3⟩:=h0' Lt hmemt o q2
   exact Nat.le_trans e2 (Nat.le_of_lt (Heap.lt_size q3))
  obtain ⟨y1,y2⟩:=H1.slots (s':={ s'' with heap:=h' }) hg ho hz' (fun b o e hn' z0=>keep1 b o e hn') (fun b o e hf'=>h0' b (by rw [bi e1]; exact List.mem_cons_of_mem _ hf') o (hkeep b o e))
   (H1.tabs.move (fun P hP' ps e=>keep1 P _ e (H1.tabFl hP')) fun b o e hc=>keep1 b o e (H1.calm_off e hc.1).2)
  exact hQ μ .none _ (x1.trans y1) y2 .none
end
noncomputable def bo:Prop:=∀ (C:Cf) (A:Around) (μ:Mu) (σ:ac) (s:Shared) (v:Value) (a:AV),Ok C->A.handled = none->A.units + 20 < cLine->HR C μ σ s->VR C.ghost μ s.heap v a ->
 af C A W0 (XP C) μ σ s (RV C) (call (.builtin "sorted") [v]) (do
   MM.guard (notRng a && notTup a)
   let xs <- items a
   MM.guard (decide (xs.length < 64))
   let ws <- MM.opt (wordsOf xs)
   MM.guard (decide ws.Nodup)
   mkL ((sortW ws).map wordV))
noncomputable def eC:Prop:=∀ (C:Cf) (A:Around) (μ:Mu) (σ:ac) (s:Shared) (v w:Value) (n m:Int),Ok C->Rm C A 1->HR C μ σ s->VR C.ghost μ s.heap v (.int n)->VR C.ghost μ s.heap w (.int m) ->
 af C A W0 (XP C) μ σ s (RV C) (call (.ref (C.fn "need_few")) [v,w]) (if n > m then MM.raise else MM.pure .none)
section
variable {r:Rc} {n:Nat} {C:Cf} {A:Around} {μ μ':Mu} {σ σ':ac} {s1 s s':Shared} {c:Ctx} {env:Env}
theorem jQ (hS:bo) (O:Ok C) (hh:A.handled = none) (hu:A.units + 20 < cLine) (H:HR C μ σ s) {f:Str} (hf:bltNames.contains f = true) {vs:List Value} {xs:List AV} (hv:VRs C.ghost μ s.heap vs xs) :
  af C A W0 (XP C) μ σ s (RV C) (call (bval f) vs) (builtin f xs):=by
 have hf':f = "len" \/ f = "range" \/ f = "min" \/ f = "sum" \/ f = "sorted" \/ f = "tuple" \/ f = "list" \/ f = "dict" \/ f = "abs" \/ f = "int" \/ f = "max" := by
  unfold bltNames at hf
  simpa using hf
 rcases hf' with rfl | rfl | rfl | rfl | rfl | rfl | rfl | rfl | rfl | rfl | rfl
 .exact aY (fun vs=>call (bval "len") vs) hv fun v a h1=>qQ O H h1
 .exact aY (fun vs=>call (bval "range") vs) hv fun v a h1=>aP (fun v=>call (bval "range") [v]) h1 fun i t=>mW H
 .exact aY (fun vs=>call (bval "min") vs) hv fun v a h1=>qN hh H h1
 .exact aY (fun vs=>call (bval "sum") vs) hv fun v a h1=>qL hh H h1
 .exact aY (fun vs=>call (bval "sorted") vs) hv fun v a h1=>hS C A μ σ s v a O hh hu H h1
 .exact aY (fun vs=>call (bval "tuple") vs) hv fun v a h1=>mU H h1
 .exact aY (fun vs=>call (bval "list") vs) hv fun v a h1=>oY O hh H h1
 .exact aY (fun vs=>call (bval "dict") vs) hv fun v a h1=>pc O hh (by omega) H h1
 .exact aY (fun vs=>call (bval "abs") vs) hv fun v a h1=>aP (fun v=>call (bval "abs") [v]) h1 fun i t=>qV H
 .exact aY (fun vs=>call (bval "int") vs) hv fun v a h1=>aP (fun v=>call (bval "int") [v]) h1 fun i t=>qR H
 .cases hv with
  | nil=>exact ae
  | @cons v a vs xs h1 h2=>exact aP (fun v=>call (bval "max") (v :: vs)) h1 fun i t=>aY (fun vs=>call (bval "max") (.int i t :: vs)) h2 fun w b h3=>aP (fun w=>call (bval "max") [.int i t,w]) h3 fun j u=>qO hh H
end
section
variable {r:Rc} {n:Nat} {C:Cf} {A:Around} {μ μ':Mu} {σ σ':ac} {s1 s s':Shared} {c:Ctx} {env:Env}
theorem gY {f:Str} (h:isGlobal f c = true):c.kind f = some .globalImplicit:=by
 unfold isGlobal at h
 split at h
 .assumption
 .exact absurd h Bool.false_ne_true
theorem kM {f:Str} (h:fnNames.contains f = true):fnAll.contains f = true:=by
 unfold fnAll
 rw [List.contains_iff_mem] at h ⊢
 exact List.mem_append_left _ h
theorem eY {f:Str} (h:fnNames.contains f = true\/clsNames.contains f = true\/bltNames.contains f = true):f ≠ "need_few" := by
 rintro rfl
 revert h
 decide +kernel
theorem iu {f:Str} (h:clsNames.contains f = true\/bltNames.contains f = true):fnNames.contains f ≠ true:=by
 intro q
 have h1:∀ g,(clsNames.contains g = true\/bltNames.contains g = true)->g = "Rule" \/ g = "Grammar" \/ g ∈ bltNames:=fun g hg=>by
  rcases hg with hg | hg
  .have:g = "Rule" \/ g = "Grammar" := by unfold clsNames at hg; simpa using hg
   exact this.elim .inl fun q=>.inr (.inl q)
  .exact .inr (.inr (List.contains_iff_mem.mp hg))
 rcases h1 f h with rfl | rfl | hm
 .revert q; decide +kernel
 .revert q; decide +kernel
 .have:∀ g ∈ bltNames,fnNames.contains g ≠ true:=by decide +kernel
  exact this f hm q
theorem nW {f:Str} (h:bltNames.contains f = true):clsNames.contains f ≠ true:=by
 have:∀ g ∈ bltNames,clsNames.contains g ≠ true:=by decide +kernel
 exact this f (List.contains_iff_mem.mp h)
theorem kG {f:Str} (h:known f = true):(f == ("__debug__" : Str)) = false:=by
 rw [beq_eq_false_iff_ne]
 rintro rfl
 revert h
 decide +kernel
set_option backward.match.sparseCases false in
theorem lF (hS:bo) (hF:eC) (S:Snd Ok r n) (hP:Ok C) (hR:Rm C A (n + 1)) (H:HR C μ σ s) (V:ax C c env μ s.heap) {f:Str} (hk:c.kind f = some .globalImplicit) {args:List Expr} {px pos:Pos} :
  af C A W0 (XP C) μ σ s (RV C) (eval (.Call (.Name f px) args [] pos) env) (do MM.guard (args.all notStar && known f); let vs <- evL r args c; callFn r f c vs):=by
 refine aj fun hg=>?_
 rw [Bool.and_eq_true] at hg
 obtain ⟨hst,hkn⟩:=hg
 have go:∀ (v:Value),(C.mg f = some v\/(C.mg f = none/\C.mb f = some v))->qp (model C.prog C.w) C.ghost v ->
   (∀ μ' σ' s' vs xs,aW C μ s.heap μ' s'.heap->HR C μ' σ' s'->VRs C.ghost μ' s'.heap vs xs->af C A W0 (XP C) μ' σ' s' (RV C) (call v vs) (callFn r f c xs)) ->
   af C A W0 (XP C) μ σ s (RV C) (eval (.Call (.Name f px) args [] pos) env) (do let vs <- evL r args c; callFn r f c vs):=fun v hv hkept hcall=>by
  rw [arm_eval_Call_Name']
  refine bq (t':=callWith pos v [] (backTo pos (starEach args env)) []) (fun Q E q=>wpAny_bind (bK hP.glo H.ghost V.kind V.glob V.blt (V.kGlob _ hk) hv (kG hkn) q)) ?_
  exact cx S hP (hR.le (Nat.le_succ _)) H V hst hkept (first:=[]) fun μ' σ' s' vs xs x' H' r'=>hcall μ' σ' s' vs xs x' H' r'
 have hh:=hR.handled
 have hu:A.units + 20 < cLine:=Nat.lt_trans (Nat.add_lt_add_left (by decide) _) (hR.u0 (k:=0) (by decide))
 unfold known at hkn
 simp only [Bool.or_eq_true,decide_eq_true_eq] at hkn
 rcases hkn with ((hf | hf) | hf) | hf
 .subst hf
  obtain ⟨o,fd,p1,p2,p3,p4,p5,p6,p7,p8,kd,ho,hdat,_⟩:=hP.fewfn
  refine go _ (.inl hP.callee.few) (fJ ho hdat) fun μ' σ' s' vs xs x' H' r'=>?_
  show af _ _ _ _ _ _ _ _ _ (match xs with | [AV.int n,AV.int m]=>(if n > m then MM.raise else MM.pure AV.none:MM AV) | _=>MM.stuck)
  split
  .cases r' with
   | cons h1 r' =>
    cases r' with
    | cons h2 r' =>
     cases r'
     exact hF C A μ' σ' s' _ _ _ _ hP (hR.le (by omega)) H' h1 h2
  .exact ae
 .obtain ⟨d,o,fd,e1,e2,F⟩:=hP.fns f (kM hf)
  refine go _ (.inl (hP.callee.fns f hf)) (fJ e2 F.dat) fun μ' σ' s' vs xs x' H' r'=>?_
  unfold callFn
  rw [if_neg (eY (.inl hf)),if_pos hf,V.fz]
  exact jP (S.F C A μ' σ' s' f vs xs hP (hR.le (Nat.le_succ _)) H' (kM hf) r')
 .obtain ⟨k1,k2,_⟩:=hP.callee.clss f hf
  refine go _ (.inl k1) (sG hP (lS k2)) fun μ' σ' s' vs xs x' H' r'=>?_
  unfold callFn
  rw [if_neg (eY (.inr (.inl hf))),if_neg (iu (.inl hf)),if_pos hf,V.fz]
  exact nh S hP hR H' hf r'
 .refine go _ (.inr (hP.callee.blts f hf)) (dN fun a q=>?_) fun μ' σ' s' vs xs x' H' r'=>?_
  .unfold bval at q
   repeat (first | (split at q; · cases q) | cases q)
  .unfold callFn
   rw [if_neg (eY (.inr (.inr hf))),if_neg (iu (.inr hf)),if_neg (nW hf)]
   exact jQ hS hP hh hu H' hf r'
set_option backward.match.sparseCases false in
theorem iN (hS:bo) (hF:eC) (S:Snd Ok r n) (hP:Ok C) (hR:Rm C A (n + 1)) (H:HR C μ σ s) (V:ax C c env μ s.heap) {f:Str} {args:List Expr} {px pos:Pos} :
  af C A W0 (XP C) μ σ s (RV C) (eval (.Call (.Name f px) args [] pos) env) (if isGlobal f c then
   (if f = "_law_told" then tolds r c args
   else do
    MM.guard (args.all notStar && known f)
    let vs <- evL r args c
    callFn r f c vs)
  else MM.stuck):=by
 by_cases hg:isGlobal f c = true
 .rw [if_pos hg]
  have hk:=gY hg
  by_cases hf:f = "_law_told"
  .rw [if_pos hf]
   subst hf
   induction args using List.casesOn with
   | nil=>exact ae
   | cons e as =>
    induction as using List.casesOn with
    | cons _ _=>exact ae
    | nil =>
     show af C A W0 (XP C) μ σ s (RV C) _ (told1 r c (vLam e))
     induction h:vLam e using Option.casesOn with
     | none=>exact ae
     | some q =>
      obtain ⟨p,rfl⟩:=pN h
      exact oS S hP hR H V hk
  .rw [if_neg hf]
   exact lF hS hF S hP hR H V hk
 .rw [if_neg hg]; exact ae
set_option tactic.hygienic true in
theorem qU (hS:bo) (hF:eC) (S:Snd Ok r n) (hP:Ok C) (hR:Rm C A (n + 1)) (H:HR C μ σ s) (V:ax C c env μ s.heap) (e:Expr):af C A W0 (XP C) μ σ s (RV C) (eval e env) (evE r e c):=by
 have hR':=hR.le (Nat.le_succ n)
 have hu:A.units + 64 < cLine:=hR.u0 (k:=4) (by decide)
 induction hlc:(match e with | .ListComp _ _ _ _=>true | _=>false) using Bool.casesOn with
 | true =>
  cases e <;> first | exact absurd hlc Bool.false_ne_true | exact iM S hP hR' H V
 | false =>
  cases e with
  | Constant k n p=>exact ng H
  | Name x p=>exact oW hP.glo H V _ _
  | BinOp a op b p=>exact nB S hP hR' H V fun μ σ s v w x y H hv hw=>ni H hv hw
  | UnaryOp op a p =>
   cases op <;> first
    | exact ae
    | (cases a <;> first
     | exact ae
     | (rename_i k n q; cases k <;> first | exact ae | exact pd H))
  | BoolOp op es p=>cases op <;> first | exact ae | exact ie S hP hR' _ μ σ s H V
  | IfExp a b d p=>exact nu S hP hR' H V
  | Compare a ops bs p =>
   induction ops using List.casesOn with
   | nil=>exact ae
   | cons op ops =>
    induction ops using List.casesOn with
    | cons _ _=>exact ae
    | nil =>
     induction bs using List.casesOn with
     | nil=>exact ae
     | cons b bs =>
      induction bs using List.casesOn with
      | nil=>exact jT S hP hR' H V fun μ σ s v w x y H hv hw=>jN hP.glo H hu hv hw
      | cons _ _=>exact ae
  | List es p=>exact pf S hP hR' H V
  | Tuple es n p=>exact ii S hP hR' H V
  | Dict ks vs p =>
   induction ks using List.casesOn with
   | nil=>cases vs with
    | nil=>exact ny H
    | cons _ _=>exact ae
   | cons k ks =>
    induction k using Option.casesOn with
    | none=>first | exact ae | (cases ks <;> first | exact ae | (cases vs <;> exact ae))
    | some k =>
     induction ks using List.casesOn with
     | cons _ _=>first | exact ae | (cases vs <;> exact ae)
     | nil =>
      induction vs using List.casesOn with
      | nil=>exact ae
      | cons v vs =>
       induction vs using List.casesOn with
       | nil=>exact nx S hP hR' H V
       | cons _ _=>exact ae
  | ListComp _ _ _ _=>exact absurd hlc (by simp)
  | Subscript a k p =>
   cases k with
   | Slice l u st q =>
    induction l using Option.casesOn with
    | some _=>first | exact ae | (cases u <;> first | exact ae | (cases st <;> exact ae))
    | none =>
     induction u using Option.casesOn with
     | none=>first | exact ae | (cases st <;> exact ae)
     | some u =>
      induction st using Option.casesOn with
      | none=>exact nr S hP hR' H V
      | some _=>exact ae
   | _=>exact gO S hP hR' H V (by rfl)
  | Attribute o x p=>exact gQ S hP hR' H V
  | Call f args ks p =>
   cases f with
   | Attribute o m q=>cases ks with
    | nil=>exact nA S hP hR' H V
    | cons _ _=>exact ae
   | Name x q=>cases ks with
    | nil=>exact iN hS hF S hP hR H V
    | cons _ _=>exact ae
   | _=>first | exact ae | (cases ks <;> exact ae)
  | _=>exact ae
theorem qS (hS:bo) (hF:eC) (S:Snd Ok r n) (hP:Ok C) (hR:Rm C A (n + 1)) (H:HR C μ σ s) (V:ax C c env μ s.heap) (e:Expr):af C A W0 (XP C) μ σ s (fun z0 z0 b a=>b = a) (isTrue e env (eval e env)) (evT r e c):=by
 have hR':=hR.le (Nat.le_succ n)
 have hu:A.units + 64 < cLine:=hR.u0 (k:=4) (by decide)
 cases e with
 | UnaryOp op a p=>cases op <;> first | exact nq S hP hR' H V | exact fj S hP hR' H V fun whole=>rfl
 | BoolOp op es p=>cases op <;> first | exact jS S hP hR' _ μ σ s H V | exact jR S hP hR' _ μ σ s H V
 | IfExp a b d p=>exact ae
 | Compare a ops bs p =>
  induction ops using List.casesOn with
  | nil=>exact ae
  | cons op ops =>
   induction ops using List.casesOn with
   | cons _ _=>exact ae
   | nil =>
    induction bs using List.casesOn with
    | nil=>exact ae
    | cons b bs =>
     induction bs using List.casesOn with
     | nil=>exact gN S hP hR' H V fun μ σ s v w x y H hv hw=>jN hP.glo H hu hv hw
     | cons _ _=>exact ae
 | _=>exact fj S hP hR' H V fun whole=>rfl
theorem ku (hS:bo) (hF:eC) (W:Nat):∀ n,Snd Ok (mach W n) n
 | 0=>⟨fun z0 z0 z0 z0 z0 z0 z0 z0 z0 z0 z0 z0=>ae,fun z0 z0 z0 z0 z0 z0 z0 z0 z0 z0 z0 z0=>ae,fun z0 z0 z0 z0 z0 z0 z0 z0 z0 z0 z0 z0 z0=>ae,fun z0 z0 z0 z0 z0 z0 z0 z0 z0 z0 z0 z0 z0 z0 z0 z0 z0=>ak rfl,fun z0 z0 z0 z0 z0 z0 z0 z0 z0 z0 z0 z0 z0=>trivial⟩
 | n + 1=>by
  have ih:=ku hS hF W n
  refine ⟨fun C A μ σ s c env e hP hR H V=>qU hS hF ih hP hR H V e,fun C A μ σ s c env e hP hR H V=>qS hS hF ih hP hR H V e,fun C A μ σ s c env st hP hR hfs H V=>qT ih hP (hR.le (Nat.le_succ n)) hfs H V st,
   fun C A μ σ s c env elt gens sc pos px x hP hR H V=>eJ ih hP (hR.le (Nat.le_succ n)) H V,fun C A μ σ s f vs xs hP hR H hf hv=>jO ih hP hR H hf hv⟩
end
noncomputable abbrev bmE:List Value:=[.type "Exception", .type "BaseException", .type "object"]
section
variable {prog:Program} {w:World} {A:Around} {E:Value->Shared->Prop} {h:Heap} {g:Array GenState} {d:Drawn} {t:Nat} {os:OsState}
variable {nm q:Str} {C N T:Addr} {bs:List Value} {hdct:Bool} {sn:List Str} {sub:List Value} {ab:Bool} {col:Option Bool} {dd:Option Addr} {k0 k1 k2 k3 k5:Option Value}
theorem bR {X:String} {b:Bool} (hb:bmE.contains (.type X) = b):(Value.ref T :: bmE).contains (.type X) = b:=by
 rw [List.contains_cons,hb]; rfl
theorem gZ {rest:List Value} {Q:Unit->Shared->Prop} (hC:h.get? C = some (excClassObj nm q C N bs (.ref T :: bmE) hdct sn sub ab col dd k0 k1 k2 k3 k5 "Exception.__new__"))
  (hq:Q () ⟨h,g,d,t,os⟩):wpAny (model prog w) A (checkBuiltinCall "Exception.__new__" ⟨.ref C :: rest,[]⟩) Q E ⟨h,g,d,t,os⟩:=by
 have F:=PySem.F.excBase_Exception
 have hcont:(Value.ref C :: Value.ref T :: bmE).contains (.type "Exception") = true:=by rw [List.contains_cons,bR F.hasB,Bool.or_true]
 have hstar:=F.noStar
 simp only [checkBuiltinCall,F.newKind,F.newSplit,F.newRow]
 repeat (first | refine wpAny_loadPart_at hC ?_ | (refine wpAny_isSubtype_exc hC ?_; rw [hcont]) | refine wpAny_staticBase_exc hC ?_ | refine wpAny_madeBy_exc hC ?_ | simp -iota only [bne_self_eq_false,Bool.false_eq_true,if_false] | wp_step)
 exact hq
theorem kN {R:Result->Shared->Prop} {rest:List Value} (hC:h.get? C = some (excClassObj nm q C N bs (.ref T :: bmE) hdct sn sub ab col dd k0 k1 k2 k3 k5 "Exception.__new__"))
  (hq:R (.ok (.ret (.ref (h.objs.size + 1)))) ⟨(h.push { cls:=.type "tuple", data:=.seq rest.toArray }).push
   { cls:=.ref C,data:=.fields #[.ref h.objs.size,.none,.none,.none,.bool false,.none] },g,d,t,os⟩) (hrest:rest.length ≤ sizeLine) :
  codeAny (model prog w) A (.builtin "Exception.__new__" ⟨.ref C :: rest,[]⟩) R ⟨h,g,d,t,os⟩:=by
 have F:=PySem.F.excBase_Exception
 have hends:=F.ends
 have hcB:(Value.ref C :: Value.ref T :: bmE).contains (.type "Exception") = true:=by rw [List.contains_cons,bR F.hasB,Bool.or_true]
 have hcA:(Value.ref C :: Value.ref T :: bmE).contains (.type "AttributeError") = false:=by rw [List.contains_cons,bR F.noAttr]; rfl
 have hcN:(Value.ref C :: Value.ref T :: bmE).contains (.type "NameError") = false:=by rw [List.contains_cons,bR F.noName]; rfl
 refine codeAny_builtinAt F.entry ?_
 unfold Builtin.«BaseException.__new__»
 refine PySem.wpAt_bind ?_
 show PySem.wpAt _ _ _ (stack >>= _) _ _ _
 refine PySem.wpAt_bind (PySem.wpAt_stack fun p below=>PySem.wpAt_of_wpAny ?_)
 wp_walk
 refine PySem.wpAt_of_wpAny ?_
 rw [F.owner]
 repeat (first | with_reducible refine wpAny_madeHere_exc F.canon hC ?_ | with_reducible refine wpAny_loadPart_at hC ?_ | (with_reducible refine wpAny_isSubtype_exc hC ?_; first | rw [hcB] | rw [hcA] | rw [hcN]) | wp_step)
 show R _ _
 rw [Heap.size_push]
 exact hq
theorem gy {M:Model} {e:Addr} {oe:Obj} {rest:List Value} {Q:Unit->Shared->Prop}
  (hC:h.get? C = some (excClassObj nm q C N bs (.ref T :: bmE) hdct sn sub ab col dd k0 k1 k2 k3 k5 "Exception.__new__")) (he:h.get? e = some oe) (hcls:oe.cls = .ref C) (hq:Q () ⟨h,g,d,t,os⟩) :
  wpAny M A (checkBuiltinCall "Exception.__init__" ⟨.ref e :: rest,[]⟩) Q E ⟨h,g,d,t,os⟩:=by
 have F:=PySem.F.excBase_Exception
 have hcB:(Value.ref C :: Value.ref T :: bmE).contains (.type "Exception") = true:=by rw [List.contains_cons,bR F.hasB,Bool.or_true]
 have hshort:=F.noStar
 simp only [checkBuiltinCall,F.initKind,F.initSplit,F.initRow]
 repeat (first | (with_reducible refine wpAny_loadPart_at he ?_; rw [hcls]) | with_reducible refine wpAny_loadPart_at hC ?_ | (with_reducible refine wpAny_isSubtype_exc hC ?_; rw [hcB]) | wp_step)
 refine wpAny_onRaise ?_
 rw [show ∀ (a b:String) (n:Nat),Bind.check ⟨.positional, "*", "Exception", .self,[⟨"args", .varPos,false⟩]⟩ a b n (List.map (fun x=>x.fst) ({ pos:=Value.ref e :: rest }:Args).kw) = pure () from
  fun a b n=>check_star_args _ _ _ _ _ _]
 exact wpAny_pure hq
theorem hH {e t0:Addr} {rest:List Value} {Q:Value->Shared->Prop}
  (hC:h.get? C = some (excClassObj nm q C N bs (.ref T :: bmE) hdct sn sub ab col dd k0 k1 k2 k3 k5 "Exception.__new__")) (he:h.get? e = some { cls:=.ref C,data:=.fields #[.ref t0,.none,.none,.none,.bool false,.none] }) (hrest:rest.length ≤ sizeLine)
  (hq:∀ h',(∀ b o,b ≠ e->h.get? b = some o->h'.get? b = some o)->h'.get? e = some { cls:=.ref C,data:=.fields #[.ref h.objs.size,.none,.none,.none,.bool false,.none] }->h.objs.size ≤ h'.objs.size->Q .none ⟨h',g,d,t,os⟩) :
  wpAny (model prog w) A (call (.builtin "Exception.__init__") (.ref e :: rest)) Q E ⟨h,g,d,t,os⟩:=by
 have F:=PySem.F.excBase_Exception
 refine wpAny_call (codeAny_call_builtin F.init.plain F.initEntry (gy hC he rfl ?_))
 have he':=Heap.get?_push_of_some { cls:=.type "tuple", data:=.seq rest.toArray } he
 wp_walk
 refine hq _ (fun b o hb e'=>?_) ?_ ?_
 .rw [Heap.get?_update_other _ _ (Ne.symm hb)]
  exact Heap.get?_push_of_some _ e'
 .rw [Heap.get?_update_self _ he' rfl]
  rfl
 .rw [Heap.size_update,Heap.size_push]
  exact Nat.le_succ _
end
section
variable {prog:Program} {w:World} {A:Around} {E:Value->Shared->Prop} {h:Heap} {g:Array GenState} {d:Drawn} {t:Nat} {os:OsState} {K:Frag}
variable {nm q:Str} {C N T:Addr} {bs:List Value} {hdct:Bool} {sn:List Str} {sub:List Value} {ab:Bool} {col:Option Bool} {dd:Option Addr} {k0 k1 k2 k3 k5:Option Value}
theorem gK {rest:List Value} {fI:Addr} {Q:PySem.Fin->Shared->Prop} (X:K.In h)
  (hC:h.get? C = some (excClassObj nm q C N bs (.ref T :: bmE) hdct sn sub ab col dd k0 k1 k2 k3 k5 "Exception.__new__")) (hi:findIn K (.ref C) "__init__" = some (some (.ref fI))) (hf:typeIn K (.ref fI) = some (.type "function"))
  (hq:∀ h' e t0,(∀ b o,h.get? b = some o->h'.get? b = some o)->h'.get? e = some { cls:=.ref C,data:=.fields #[.ref t0,.none,.none,.none,.bool false,.none] }->h.objs.size ≤ e->h.objs.size ≤ h'.objs.size ->
   wpAny (model prog w) A (call (.ref fI) (.ref e :: rest)) (fun r s'=>r = .none/\Q (.done (.ret (.ref e))) s') E ⟨h',g,d,t,os⟩) (hrest:rest.length ≤ sizeLine) :
  wpAny (model prog w) A (Builtin.«type.__call__» ⟨.ref C :: rest,[]⟩) Q E ⟨h,g,d,t,os⟩:=by
 have F:=PySem.F.excBase_Exception
 repeat (first | with_reducible refine wpAny_loadPart_at hC ?_ | with_reducible refine wpAny_madeBy_exc hC ?_ | wp_step)
 refine codeAny_call_builtin_code (Code.quiet_builtin _ F.quiet) (gZ hC ?_)
 refine kN hC ?_ hrest
 show wpAny _ _ _ _ _ _
 have hk:∀ b o,h.get? b = some o->((h.push { cls:=.type "tuple", data:=.seq rest.toArray }).push { cls:=.ref C,data:=.fields #[.ref h.objs.size,.none,.none,.none,.bool false,.none] }).get? b = some o:=fun b o e=>Heap.get?_push_of_some _ (Heap.get?_push_of_some _ e)
 have hC₁:=hk _ _ hC
 have X₁:K.In ((h.push { cls:=.type "tuple", data:=.seq rest.toArray }).push { cls:=.ref C,data:=.fields #[.ref h.objs.size,.none,.none,.none,.bool false,.none] }):=X.keeps hk
 have hget:((h.push { cls:=.type "tuple", data:=.seq rest.toArray }).push
   { cls:=.ref C,data:=.fields #[.ref h.objs.size,.none,.none,.none,.bool false,.none] }).get? (h.objs.size + 1) = some
   { cls:=.ref C,data:=.fields #[.ref h.objs.size,.none,.none,.none,.bool false,.none] }:=by heap_get
 have hcC:(Value.ref C :: Value.ref T :: bmE).contains (.ref C) = true:=by simp
 unfold isInstance
 repeat (first | with_reducible refine wpAny_loadPart_at hget ?_ | (with_reducible refine wpAny_isSubtype_exc hC₁ ?_; rw [hcC]) | wp_step)
 show wpAny _ _ (typeLookup (.ref C) _) _ _ _
 refine (looks_findIn X₁ hi).here ?_
 refine wpAny_holding (wpAny_bind ?_)
 refine (bind_fn X₁ _ hf).here ?_
 refine (wpAny_bind (wpAny_mono (hq _ (h.objs.size + 1) h.objs.size hk hget (Nat.le_succ _) ?_) (fun r s' hr=>?_) fun z0 z0 x=>x))
 .rw [Heap.size_push,Heap.size_push]; omega
 .obtain ⟨rfl,hQ⟩:=hr
  wp_walk
  exact hQ
theorem qf {rest:List Value} {fI:Addr} {Q:Value->Shared->Prop} (X:K.In h)
  (hC:h.get? C = some (excClassObj nm q C N bs (.ref T :: bmE) hdct sn sub ab col dd k0 k1 k2 k3 k5 "Exception.__new__")) (hi:findIn K (.ref C) "__init__" = some (some (.ref fI))) (hf:typeIn K (.ref fI) = some (.type "function"))
  (hq:∀ h' e t0,(∀ b o,h.get? b = some o->h'.get? b = some o)->h'.get? e = some { cls:=.ref C,data:=.fields #[.ref t0,.none,.none,.none,.bool false,.none] }->h.objs.size ≤ e->h.objs.size ≤ h'.objs.size ->
   wpAny (model prog w) (A.under (.builtin "type.__call__" ⟨.ref C :: rest,[]⟩)) (call (.ref fI) (.ref e :: rest)) (fun r s'=>r = .none/\Q (.ref e) s') E ⟨h',g,d,t,os⟩) (hrest:rest.length ≤ sizeLine) :
  wpAny (model prog w) A (call (.ref C) rest) Q E ⟨h,g,d,t,os⟩:=by
 have f1:=tc_lookup
 have f2:=tc_bind (.ref C)
 have hT:(⟨h,g,d,t,os⟩ : Shared).TypeIs (.ref C) "type" := ⟨_,hC,rfl⟩
 refine wpAny_call (codeAny_of_tree ?_)
 show wpAny _ _ (callAny (.ref C) _) _ _ _
 repeat (any_goals (first | assumption | with_reducible refine wpAny_loadPart_at hC ?_ | wp_step))
 refine ⟨rfl,?_⟩
 refine codeAny_call_builtin_at (Code.quiet_builtin _ (by decide +kernel)) entry_typeCall (wpAny_check_type_call_sub hC (gK (hrest:=hrest) X hC hi hf fun h' e t0 k1 k2 k3 k4=>?_))
 exact hq h' e t0 k1 k2 k3 k4
end
end Mine.Internal
end
section
namespace Mine.Internal
open PySem PySem.Calls PyProof.Rows PySem.W Builtin Builtin.ObjectAttr
section
variable {prog:Program} {w:World} {A:Around} {E:Value->Shared->Prop} {s:Shared} {K:Frag} {x C T:Addr} {cd:ClassData} {ox:Obj} {od:Option Obj} {name:Str} {v:Value}
theorem ms {R:Result->Shared->Prop} {tk:Tok} (X:K.In s.heap) (I:InstAt s.heap x ox C od) (hc:clsIn K C = some cd) (hm:cd.mro = .ref C :: .ref T :: bmE) (ht:takerIn K C name = some none)
  (h:∀ b,wpAny (model prog w) A.in1 (storeInOwnDict (.ref x) (.ref C) (.str name tk) name v b)
   (fun (fin:PySem.Fin) s'=>match fin with | .done f=>R (.ok f) s' | .again c'=>c'.quiet = true/\codeAny (model prog w) A c' R s') (fun e s'=>R (.error e) s') s) :
  codeAny (model prog w) A (.call (.builtin "object.__setattr__") ⟨[.ref x,.str name tk,v],[]⟩) R s:=by
 have SF:=PySem.F.store_Exception
 have ne:cd.mro.isEmpty = false:=by rw [hm]; rfl
 have hob:cd.mro.contains (.type "object") = true:=by rw [hm,List.contains_cons,bR SF.hasOwner,Bool.or_true]
 have sub:Looks (model prog w) s.heap (isInstance (.ref x) (.type "object")) true:=I.type.andThen (looks_mroIn X (by unfold mroIn; rw [hc,Option.bind_some,if_neg (by rw [ne]; decide),hob]))
 refine codeAny_call_builtin SF.slot.plain SF.entry (@check_slot (model prog w) _ _ s "object.__setattr__" "object" "__setattr__" (.ref x) [.str name tk,v] [] _ SF.kind SF.split sub (SF.args (.ref x) (.str name tk) v) ?_)
 obtain ⟨attr,ha,hr⟩:=Option.bind_eq_some_iff.mp ht
 have hmro:Looks (model prog w) s.heap (mroOf (.ref C)) cd.mro:=(looks_clsIn X hc).andThen .now
 have L3:Looks (model prog w) s.heap (storeTaker? attr) (none:Option Value):=by
  induction attr using Option.casesOn with
  | none=>exact .now
  | some a =>
   obtain ⟨b,hb,hb2⟩:=Option.map_eq_some_iff.mp hr
   refine (looks_takesIn X hb).andThen ?_
   induction b using Bool.casesOn with
   | true=>exact nomatch hb2
   | false=>exact .now
 rw [osa_eq,refuse_eq]
 refine wpAny_bind (wpAny_bind (I.type.here (wpAny_bind (hmro.here ?_))))
 rw [hm,refuseLoop_ref,refuseLoop_ref,SF.passes]
 refine wpAny_pure (wpAny_bind (I.type.here (wpAny_bind ((looks_findIn X ha).here (wpAny_bind (L3.here ?_))))))
 exact h _
theorem iO {Q:Unit->Shared->Prop} {dx:Addr} {vs:Array Value} {es:List DictEntry} {n:Nat} (X:K.In s.heap) (hc:clsIn K C = some cd) (hd':cd.hasDict = true) (hm:cd.mro = .ref C :: .ref T :: bmE) (ht:takerIn K C name = some none) (hs:findIn K (.ref C) "__setattr__" = some (some (.builtin "object.__setattr__")))
  (h1:s.heap.get? x = some { cls:=.ref C,dict:=some dx,data:=.fields vs }) (h2:s.heap.get? dx = some (dictOf es n)) (hr:es.any (·.refKey) = false) (hz:es.length ≤ 1000)
  (h:∀ h' t',(∀ b o,b ≠ dx->s.heap.get? b = some o->h'.get? b = some o)->s.heap.objs.size ≤ h'.objs.size->Q () { s with heap:=h',toks:=t' }) :
  wpAny (model prog w) A (setAttr (.ref x) name v) Q E s:=by
 have I:InstAt s.heap x { cls:=.ref C,dict:=some dx,data:=.fields vs } C (some (dictOf es n)):=⟨h1,rfl,rfl,h2⟩
 refine set_plain X I hs (ms (s:={ s with toks:=s.toks + 1 }) (tk:=s.toks) X I hc hm ht fun b=>?_)
 have D':=nsPut h2 name (PyData.keyHash w.params name) (.str name (s.toks + 1)) v
 refine wpAny_bind (wpAny_pure (wpAny_bind (wpAny_bind (wpAny_loadPart h1 (wpAny_bind (Looks.here (s:={ s with toks:=s.toks + 1 }) (looks_clsIn X hc) ?_))))))
 rw [hd']
 refine wpAny_pure (a:=some dx) (wpAny_bind (wpAny_pure (wpAny_bind ?_)))
 unfold nsSet
 refine wpAny_bind (wpAny_bind (wpAny_askSetting (wpAny_pure (wpAny_bind (wpAny_mkText (wpAny_bind (wpAny_loadPart h2 ?_)))))))
 dsimp only
 have c:(!es.toArray.any (·.key.isStr name) && es.toArray.any (·.refKey)) = false:=by
  rw [List.any_toArray,List.any_toArray,hr,Bool.and_false]
 rw [aRefKeyMayBeTheName_at,c]
 refine wpAny_updatePart h2 ?_
 refine wpAny_bind (wpAny_lookBehind D' (pastItsLine_dict (by rw [List.size_toArray,sizeLine_eq]; have:=ef name (PyData.keyHash w.params name) (.str name (s.toks + 1)) v es; omega)) ?_)
 refine wpAny_pure (h _ _ (fun b o hb e=>?_) ?_)
 .rw [Heap.get?_update_other _ _ (Ne.symm hb)]; exact e
 .exact Nat.le_of_eq (Heap.size_update _ _ _).symm
theorem gS {Q:Unit->Shared->Prop} {vs:Array Value} (X:K.In s.heap) (hc:clsIn K C = some cd) (hd':cd.hasDict = true) (hm:cd.mro = .ref C :: .ref T :: bmE) (ht:takerIn K C name = some none) (hs:findIn K (.ref C) "__setattr__" = some (some (.builtin "object.__setattr__")))
  (h1:s.heap.get? x = some { cls:=.ref C,data:=.fields vs })
  (h:∀ h' t' dx es n,(∀ b o,b ≠ x->s.heap.get? b = some o->h'.get? b = some o)->s.heap.objs.size ≤ h'.objs.size->s.heap.objs.size ≤ dx->h'.get? x = some { cls:=.ref C,dict:=some dx,data:=.fields vs }->h'.get? dx = some (dictOf es n)->es.any (·.refKey) = false->es.length ≤ 1->Q () { s with heap:=h',toks:=t' }) :
  wpAny (model prog w) A (setAttr (.ref x) name v) Q E s:=by
 have I:InstAt s.heap x { cls:=.ref C,data:=.fields vs } C none:=⟨h1,rfl,rfl,trivial⟩
 refine set_plain X I hs (ms (s:={ s with toks:=s.toks + 1 }) (tk:=s.toks) X I hc hm ht fun b=>?_)
 refine wpAny_bind (wpAny_pure (wpAny_bind (wpAny_bind (wpAny_loadPart h1 (wpAny_bind (Looks.here (s:={ s with toks:=s.toks + 1 }) (looks_clsIn X hc) ?_))))))
 rw [hd']
 have hx₁:(s.heap.push { cls:=.type "dict", data:=.dict #[] }).get? x = some { cls:=.ref C,data:=.fields vs }:=Heap.get?_push_of_some _ h1
 have hxs:x ≠ s.heap.objs.size:=Nat.ne_of_lt (Heap.lt_size h1)
 refine wpAny_bind (wpAny_alloc' ?_)
 refine wpAny_bind (wpAny_update' hx₁ ?_)
 refine wpAny_pure (a:=some s.heap.objs.size) (wpAny_bind (wpAny_pure (wpAny_bind ?_)))
 have h2:((s.heap.push { cls:=.type "dict", data:=.dict #[] }).update x fun o=>{ cls:=o.cls,dict:=some s.heap.objs.size,data:=o.data,slots:=o.slots }).get? s.heap.objs.size = some (dictOf [] 0) :=
  (Heap.get?_update_ne _ _ _ _ hxs.symm).trans (Heap.get?_push_at rfl rfl)
 have D':=nsPut h2 name (PyData.keyHash w.params name) (.str name (s.toks + 1)) v
 unfold nsSet
 refine wpAny_bind (wpAny_bind (wpAny_askSetting (wpAny_pure (wpAny_bind (wpAny_mkText (wpAny_bind (wpAny_loadPart h2 ?_)))))))
 dsimp only
 rw [aRefKeyMayBeTheName_at,show (!([]:List DictEntry).toArray.any (·.key.isStr name) && ([]:List DictEntry).toArray.any (·.refKey)) = false from by simp]
 refine wpAny_updatePart h2 ?_
 refine wpAny_bind (wpAny_lookBehind D' (pastItsLine_dict (by rw [List.size_toArray,sizeLine_eq]; have:=ef name (PyData.keyHash w.params name) (.str name (s.toks + 1)) v []; simp only [List.length_nil] at this; omega)) ?_)
 refine wpAny_pure (h _ _ s.heap.objs.size _ _ (fun b o hb e=>?_) ?_ (Nat.le_refl _) ?_ D' ?_ ?_)
 .rw [Heap.get?_update_other _ _ (Ne.symm (Nat.ne_of_lt (Heap.lt_size e)))]
  exact (Heap.get?_update_ne _ _ _ _ hb).trans (Heap.get?_push_of_some _ e)
 .rw [Heap.size_update,Heap.size_update,Heap.size_push]; exact Nat.le_succ _
 .rw [Heap.get?_update_other _ _ hxs.symm]
  exact Heap.get?_update_self _ hx₁ rfl
 .unfold putL; rfl
 .have:=ef name (PyData.keyHash w.params name) (.str name (s.toks + 1)) v []
  simpa using this
end
end Mine.Internal
end
section
namespace Mine.Internal
open PySem PySem.Calls PyProof.Rows PySem.W
theorem sI (K:Frag):findCls K (.type "Exception") (.type "type") "__init__" = some (.val (.builtin "Exception.__init__")):=by rfl
section
variable {prog:Program} {w:World} {A:Around} {E:Value->Shared->Prop} {s:Shared} {K:Frag} {name:Str} {v:Value}
theorem nJ {T:String} {pl:Sem Bool} {Q:Value × List Value->Shared->Prop} (X:K.In s.heap) (ht:typeOf (.type T) = pure (.type "type")) (hs:Manifest.isStub T = false)
  (e:findCls K (.type T) (.type "type") name = some (.val v)) (hh:handedIn v = true) (h:Q (v,[]) { s with toks:=s.toks + 1 }):wpAny (model prog w) A (getMethod (.type T) name pl) Q E s:=by
 have hstub:opaqueClassAbove (.type T) = pure none:=by unfold opaqueClassAbove; dsimp only; rw [hs]; rfl
 have L0:Looks (model prog w) s.heap (typeOf (.type T)) (.type "type"):=Looks.of_pure ht
 have hg:findIn K (.type "type") "__getattribute__" = some (some (.builtin "type.__getattribute__")):=type_tga
 unfold getMethod specialOf
 refine wpAny_bind (wpAny_bind (L0.here ((looks_findIn X hg).here ?_)))
 dsimp only
 rw [if_pos canon_tga]
 refine wpAny_bind (wpAny_mono (Q:=fun v=>Q (v,[])) (E:=E) ?_ (fun z0 z0 z=>wpAny_pure z) fun z0 z0 z=>z)
 have LO:Looks (model prog w) s.heap (opaqueClassAbove (.type T)) none:=Looks.of_pure hstub
 refine cls_open X LO L0 hg (looks_hook X (r:=none) (by rfl)) (by show subIn K _ _ = _; rfl) e
  (wpAny_pure (by show wpAny _ _ (handedOut v) _ _ _; rw [handedOut_of hh]; exact wpAny_pure h))
end
theorem ij {M:Model} {A:Around} {s:Shared} {env:Env} {o y x:Str} {po py px pos:Pos} {Q:Flow->Shared->Prop} {E:Value->Shared->Prop}
  (h:wpAny M A (eval (.Name y py) env) (fun v s1=>wpAny M A (eval (.Name o po) env) (fun ov s2=>wpAny M A (setAttr ov x v) (fun z0 s3=>Q .next s3) E s2) E s1) E s) :
  wpAny M A (exec (.Assign [.Attribute (.Name o po) x px] (.Name y py) pos) env) Q E s:=by
 rw [PyProof.Rows.exec_Assign]
 have e1:swapsWithSole [.Attribute (.Name o po) x px] (.Name y py) pos.line env = pure false:=rfl
 have e2:swappedStores [.Attribute (.Name o po) x px] (.Name y py) env = pure none:=rfl
 rw [e1,e2]
 refine wpAny_bind (wpAny_standAt ?_)
 show wpAny M A (do let v <- eval (.Name y py) env; assignStores env v none [assign (.Attribute (.Name o po) x px) env]) _ _ _
 refine wpAny_bind (wpAny_mono h (fun v s1 h1=>?_) fun z0 z0 z=>z)
 show wpAny M A (do
  (do
   let ov <- holding [v] (eval (.Name o po) env)
   standAt px.atName
   holding [v,ov] (setAttr ov x v)
   release [v,ov] [])
  pure Flow.next) Q E s1
 refine wpAny_bind (wpAny_bind (wpAny_holding (wpAny_mono h1 (fun ov s2 h2=>?_) fun z0 z0 z=>z)))
 refine wpAny_bind (wpAny_standAt (wpAny_bind (wpAny_holding (wpAny_mono h2 (fun z0 s3 h3=>?_) fun z0 z0 z=>z))))
 exact wpAny_release (wpAny_pure h3)
section
variable {C:Cf} {A:Around} {s:Shared}
set_option tactic.hygienic true in
theorem sP (O:Ok C):∃ cd T,clsIn C.K (C.cls "GrammarError") = some cd/\cd.hasDict = true/\cd.mro = .ref (C.cls "GrammarError") :: .ref T :: bmE:=by
 obtain ⟨cd,hc,hd⟩:=any_some O.errc.dict
 obtain ⟨nm,q,N,bs,T,hdct,sn,sub,ab,col,dd,k0,k1,k2,k3,k5,hG⟩:=O.errc.obj
 refine ⟨cd,T,hc,hd,?_⟩
 unfold clsIn at hc
 split at hc
 .rename_i c d cd' sl q
  injection hc with hc; subst hc
  have:=O.kin _ _ q
  rw [hG] at this
  injection this with this
  injection this with _ _ h3 _
  injection h3 with h3
  rw [<- h3]
 .exact nomatch hc
theorem iV {h h':Heap} {L:Addr} {m:Str->Option Value} (hn:h.Ns L m) (k:∀ o,h.get? L = some o->h'.get? L = some o):h'.Ns L m:=by
 obtain ⟨o,es,ep,e1,r⟩:=hn
 exact ⟨o,es,ep,k _ e1,r⟩
theorem pR (O:Ok C) (hroom:A.depth < recursionLimit) (hg:C.ghost.StaysIn s.heap) {e t0 fI:Addr} {v:Value}
  (he:s.heap.get? e = some { cls:=.ref (C.cls "GrammarError"),data:=.fields #[.ref t0,.none,.none,.none,.bool false,.none] }) (hge:C.ghost.get? e = none) (hfI:jn C.ghost fI) {Q:Value->Shared->Prop} {E:Value->Shared->Prop}
  (hq:∀ h' tk oe t1,(∀ b o,b ≠ e->s.heap.get? b = some o->h'.get? b = some o)->s.heap.objs.size ≤ h'.objs.size->h'.get? e = some oe->oe.cls = .ref (C.cls "GrammarError") ->
   oe.data = .fields #[.ref t1,.none,.none,.none,.bool false,.none]->Q .none { s with heap:=h',toks:=tk }) :
  wpAny (model C.prog C.w) A (call (.ref fI) [.ref e,v]) Q E s:=by
 obtain ⟨o,fd,p1,p2,p3,p4,p5,p6,p7,p8,p9,p10,p11,p12,p13,p14,ho,hdat,hbody,hline,hclo,hglob,hblt,hcode,hfco,hfgen,hfk,hself,hwhat,hat,hexn,hcell,hbind⟩:=hfI
 obtain ⟨cd,T,hc,hd',hm⟩:=sP O
 obtain ⟨nm,q,N,bs,T',hdct,sn,sub,ab,col,dd,k0,k1,k2,k3,k5,hG⟩:=O.errc.obj
 refine wpAny_call (codeAny_call_def (fd:=fd) hroom (hg _ _ ho) hdat (O.nolim.keeps fun b o e=>hg _ _ e) (hcode.keeps hg) hbody (hbind s (.ref e) v hg) hcell (fun x hx=>?_) (fun h₀ hns hk₀=>?_) hfco hfgen hfk)
 .simp only [List.mem_cons,List.not_mem_nil,or_false] at hx
  rcases hx with rfl | rfl | rfl
  .exact hself
  .exact hwhat
  .exact hat
 have hlt:s.heap.objs.size < h₀.objs.size:=hns.lt
 have hLe:s.heap.objs.size ≠ e:=Ne.symm (Nat.ne_of_lt (Heap.lt_size he))
 have kself:(callEnv fd s.heap.objs.size fI).kindOf "self" = some .local:=hself
 have kwhat:(callEnv fd s.heap.objs.size fI).kindOf "what" = some .local:=hwhat
 have kat:(callEnv fd s.heap.objs.size fI).kindOf "at" = some .local:=hat
 have kexn:(callEnv fd s.heap.objs.size fI).kindOf "Exception" = some .globalImplicit:=hexn
 have hg₀:C.ghost.StaysIn h₀:=fun b o e=>hk₀ _ _ (hg _ _ e)
 have hi:interactive (callEnv fd s.heap.objs.size fI) = false:=by unfold interactive; rw [show (callEnv fd s.heap.objs.size fI).scope.kind = .function from hfk]; rfl
 have rd_self:∀ {A':Around} {s':Shared} {Q:Value->Shared->Prop} {E:Value->Shared->Prop} {p:Pos},s'.heap.Ns s.heap.objs.size (fun x=>[(("self" : Str),Value.ref e),(("what" : Str),v),(("at" : Str),Value.none)].reverse.lookup x)->Q (.ref e) s' ->
   wpAny (model C.prog C.w) A' (eval (.Name "self" p) (callEnv fd s.heap.objs.size fI)) Q E s':=fun hn q=>wpAny_Name (wpAny_loadName_local hfk kself hn (v:=.ref e) (by rfl) q) (by decide)
 have rd_what:∀ {A':Around} {s':Shared} {Q:Value->Shared->Prop} {E:Value->Shared->Prop} {p:Pos},s'.heap.Ns s.heap.objs.size (fun x=>[(("self" : Str),Value.ref e),(("what" : Str),v),(("at" : Str),Value.none)].reverse.lookup x)->Q v s' ->
   wpAny (model C.prog C.w) A' (eval (.Name "what" p) (callEnv fd s.heap.objs.size fI)) Q E s':=fun hn q=>wpAny_Name (wpAny_loadName_local hfk kwhat hn (v:=v) (by rfl) q) (by decide)
 have rd_at:∀ {A':Around} {s':Shared} {Q:Value->Shared->Prop} {E:Value->Shared->Prop} {p:Pos},s'.heap.Ns s.heap.objs.size (fun x=>[(("self" : Str),Value.ref e),(("what" : Str),v),(("at" : Str),Value.none)].reverse.lookup x)->Q .none s' ->
   wpAny (model C.prog C.w) A' (eval (.Name "at" p) (callEnv fd s.heap.objs.size fI)) Q E s':=fun hn q=>wpAny_Name (wpAny_loadName_local hfk kat hn (v:=.none) (by rfl) q) (by decide)
 refine wpAny_execs_cons ?_
 rw [PySem.exec_Expr _ _ p6 hi rfl]
 refine wpAny_bind (wpAny_standAt (wpAny_bind ?_))
 rw [arm_eval_Call,cy (o:=.Name "Exception" p1) (by rfl)]
 refine wpAny_bind (bK (s:={ s with heap:=h₀,toks:=s.toks + 3 }) O.glo hg₀ hfk hglob hblt kexn (.inr O.errc.exn) (by decide) (wpAny_bind (wpAny_standAt ?_)))
 have hs2:([.Name "self" p3,.Name "what" p4]:List Expr).all notStar = true:=by rfl
 have hp:=cH (env:=callEnv fd s.heap.objs.size fI) (pos:=p5) hs2
 have hform:methodCallForm (([.Name "self" p3,.Name "what" p4]:List Expr).length + ([]:List Keyword).length) (backTo p5 (starEach [.Name "self" p3,.Name "what" p4] (callEnv fd s.heap.objs.size fI))) (backToKw p5 (keywordEach [] (callEnv fd s.heap.objs.size fI))) = true:=by
  unfold methodCallForm
  have h1:(backTo p5 (starEach [.Name "self" p3,.Name "what" p4] (callEnv fd s.heap.objs.size fI))).all (fun x=>!x.1) = true:=by
   rw [List.all_eq_true]; intro p hq; rw [hp p hq]; rfl
  rw [h1]
  rfl
 have hpos:methodCallPos true (.Name "Exception" p1) (callEnv fd s.heap.objs.size fI) p2 p5 = pure p5:=by
  have:p2.endLine = p5.line:=beq_iff_eq.mp hline
  unfold methodCallPos; simp [this]
 unfold methodCall
 rw [hform,hpos]
 refine wpAny_bind (wpAny_holding (nJ (K:=C.K) (s:={ s with heap:=h₀,toks:=s.toks + 3 }) (O.kin.keeps hg₀) (by kernel_rfl) (by decide +kernel) (sI C.K) (by rfl) ?_))
 dsimp only
 refine PySem.wpAny_bind (wpAny_pure ?_)
 refine PySem.W.callWith_of (P:=fun h=>C.ghost.StaysIn h) (by rw [lc hp]; rfl) (fun h hk=>dN (fun a q=>by cases q) h hk) (bL hp ?_)
 have hst:starEach [.Name "self" p3,.Name "what" p4] (callEnv fd s.heap.objs.size fI) = [(false,eval (.Name "self" p3) (callEnv fd s.heap.objs.size fI)),(false,eval (.Name "what" p4) (callEnv fd s.heap.objs.size fI))]:=rfl
 rw [hst]
 refine spliced_cons (rd_self hns (spliced_cons (rd_what hns (spliced_nil ⟨hg₀,?_⟩))))
 obtain ⟨hh,gg,dr,tt,os⟩:=s
 refine hH (hg₀ _ _ hG) (hk₀ _ _ he) (by show 1 ≤ sizeLine; rw [sizeLine_eq]; omega) fun h1 k1 g1 z1=>?_
 have keep1:∀ b o,b ≠ e->h₀.get? b = some o->h1.get? b = some o:=k1
 have hg₁:C.ghost.StaysIn h1:=fun b o q=>k1 b o (fun z=>by rw [z,hge] at q; exact nomatch q) (hg₀ _ _ q)
 have hns1:=iV hns (h':=h1) fun o q=>k1 _ o hLe q
 refine wpAny_dropValue ?_
 refine wpAny_execs_cons (ij (rd_what hns1 (rd_self hns1 ?_)))
 refine gS (K:=C.K) (s:=⟨h1,gg,dr,tt + 3 + 1,os⟩) (O.kin.keeps hg₁) hc hd' hm O.errc.what O.errc.set g1 fun h2 t2 dx es n k2 z2 n2 g2 d2 r2 l2=>?_
 have hg₂:C.ghost.StaysIn h2:=fun b o q=>k2 b o (fun z=>by rw [z,hge] at q; exact nomatch q) (hg₁ _ _ q)
 have hns2:=iV hns1 (h':=h2) fun o q=>k2 _ o hLe q
 refine wpAny_execs_cons (ij (rd_at hns2 (rd_self hns2 ?_)))
 refine iO (K:=C.K) (s:=⟨h2,gg,dr,t2,os⟩) (O.kin.keeps hg₂) hc hd' hm O.errc.at_ O.errc.set g2 d2 r2 (by omega) fun h3 t3 k3 z3=>?_
 refine wpAny_execs_nil ?_
 have hdx:∀ b o,hh.get? b = some o->b ≠ dx:=fun b o q z=>by
  have h1':=Heap.lt_size (hk₀ _ _ q)
  rw [z] at h1'
  exact Nat.lt_irrefl _ (Nat.lt_of_lt_of_le h1' (Nat.le_trans z1 n2))
 have hne:e ≠ dx:=hdx e _ he
 exact hq h3 t3 _ _ (fun b o hb q=>k3 _ _ (hdx b o q) (k2 _ _ hb (k1 _ _ hb (hk₀ _ _ q)))) (Nat.le_trans (Nat.le_of_lt hlt) (Nat.le_trans z1 (Nat.le_trans z2 z3))) (k3 _ _ hne g2) rfl rfl
end
theorem em {base h:Heap}:∀ {l:List Env},(∀ env ∈ l,env.scope.kind = .function/\∃ L m,env.frame = some L/\h.Ns L m/\base.get? L = none)->h.FunFrames base l
 | [],_=>trivial
 | env :: l,H=>by
  obtain ⟨hk,L,m,hf,⟨o,es,ep,e1,e2,_⟩,hb⟩:=H env List.mem_cons_self
  exact ⟨fun q=>(by rw [hk] at q; cases q),⟨L,o,hf,hb,e1,fun vs q=>(by rw [e2] at q; cases q)⟩,em fun e he=>H e (List.mem_cons_of_mem _ he)⟩
section
variable {C:Cf} {A:Around} {s:Shared} {μ:Mu} {σ:ac}
theorem pp {env:Env} {x:Sem Value} {Q:Flow->Shared->Prop} {E:Value->Shared->Prop} (O:Ok C) (hh:A.handled = none)
  (h:wpAny (model C.prog C.w) A x (fun v s₁=>∃ e oe t0,v = .ref e/\C.ghost.StaysIn s₁.heap/\s₁.heap.get? e = some oe/\oe.cls = .ref (C.cls "GrammarError")/\oe.data = .fields #[.ref t0,.none,.none,.none,.bool false,.none]/\E (.ref e) s₁) E s) :
  wpAny (model C.prog C.w) A (raiseStmt env (some x) none) Q E s:=by
 obtain ⟨nm,q,N,bs,T,hdct,sn,sub,ab,col,dd,k0,k1,k2,k3,k5,hG⟩:=O.errc.obj
 have hcB:(Value.ref (C.cls "GrammarError") :: Value.ref T :: bmE).contains (.type "BaseException") = true:=by rw [List.contains_cons,bR (PySem.F.excBase_Exception).hasBase,Bool.or_true]
 unfold raiseStmt
 refine wpAny_bind (wpAny_mono h (fun v s₁ h₁=>?_) fun z0 z0 x=>x)
 obtain ⟨e,oe,t,rfl,hg,he,hcl,hda,hE⟩:=h₁
 obtain ⟨oc,od,oda,osl⟩:=oe
 dsimp only at hcl hda
 subst hcl hda
 obtain ⟨hp,g,d,tk,os⟩:=s₁
 have hC:=hg _ _ hG
 dsimp only at he hC
 repeat (first | with_reducible refine wpAny_loadPart_at he ?_ | with_reducible refine wpAny_loadPart_at hC ?_ | (with_reducible refine wpAny_isSubtype_exc hC ?_; rw [hcB]) | wp_step)
 exact wpAny_raiseNew_none hh hE
theorem pI (O:Ok C) (hd:A.depth + 1 < recursionLimit) (hg:C.ghost.StaysIn s.heap) {v:Value} {Q:Value->Shared->Prop} {E:Value->Shared->Prop}
  (hq:∀ h' tk e oe t1,(∀ b o,s.heap.get? b = some o->h'.get? b = some o)->s.heap.objs.size ≤ e->s.heap.objs.size ≤ h'.objs.size->h'.get? e = some oe->oe.cls = .ref (C.cls "GrammarError") ->
   oe.data = .fields #[.ref t1,.none,.none,.none,.bool false,.none]->Q (.ref e) { s with heap:=h',toks:=tk }) :
  wpAny (model C.prog C.w) A (call (.ref (C.cls "GrammarError")) [v]) Q E s:=by
 obtain ⟨nm,q,N,bs,T,hdct,sn,sub,ab,col,dd,k0,k1,k2,k3,k5,hG⟩:=O.errc.obj
 obtain ⟨fI,i1,i2,i3⟩:=O.errc.init
 obtain ⟨hp,g,d,tk,os⟩:=s
 refine qf (K:=C.K) (O.kin.keeps hg) (hg _ _ hG) i1 i2 (fun h1 e t0 k1 k2 k3 k4=>?_) (by show 1 ≤ sizeLine; rw [sizeLine_eq]; omega)
 have hge:C.ghost.get? e = none:=by
  induction hq:C.ghost.get? e using Option.casesOn with
  | none=>rfl
  | some o=>exact absurd (Heap.lt_size (hg _ _ hq)) (Nat.not_lt.mpr k3)
 refine pR O (s:=⟨h1,g,d,tk,os⟩) hd (fun b o q=>k1 _ _ (hg _ _ q)) k2 hge i3 fun h2 tk2 oe t1 n1 n2 n3 n4 n5=>⟨rfl,?_⟩
 exact hq h2 tk2 e oe t1 (fun b o q=>n1 b o (fun z=>absurd (Heap.lt_size q) (Nat.not_lt.mpr (z ▸ k3))) (k1 _ _ q)) k3 (Nat.le_trans k4 n2) n3 n4 n5
theorem few_ok:eC:=by
 intro C A μ σ s v w n m O R H hv hw
 obtain ⟨t1,rfl⟩:=hv.inv_int
 obtain ⟨t2,rfl⟩:=hw.inv_int
 obtain ⟨o,fd,p1,p2,p3,p4,p5,p6,p7,p8,kd,ho,hdat,hbody,hclo,hglob,hblt,hcode,hfco,hfgen,hfk,hcount,hmost,hge,hcell,hbind⟩:=O.fewfn
 have hd:=R.depth
 have run:∀ (Q:Value->Shared->Prop) (E:Value->Shared->Prop),(∀ h₀ tk,h₀.Ns s.heap.objs.size (fun x=>[(("count" : Str),Value.int n t1),(("most" : Str),Value.int m t2)].reverse.lookup x)->(∀ b o,s.heap.get? b = some o->h₀.get? b = some o)->s.heap.objs.size < h₀.objs.size ->
   (n > m->wpAny (model C.prog C.w) (A.deeper (callEnv fd s.heap.objs.size (C.fn "need_few"))) (exec (.Raise (some (.Call (.Name "GrammarError" p4) [.Constant (.str "too many words") kd p5] [] p6)) none p7) (callEnv fd s.heap.objs.size (C.fn "need_few"))) (fun f s'=>Q (match f with | .ret v=>v | _=>.none) s')
    (fun e s'=>wpAny (model C.prog C.w) (A.deeper (callEnv fd s.heap.objs.size (C.fn "need_few"))) (leaving (callEnv fd s.heap.objs.size (C.fn "need_few")) e) (fun z0 s''=>E e s'') (fun e' s''=>E e' s'') s') { s with heap:=h₀,toks:=tk })/\(¬ n > m->Q .none { s with heap:=h₀,toks:=tk })) ->
   wpAny (model C.prog C.w) A (call (.ref (C.fn "need_few")) [.int n t1,.int m t2]) Q E s:=by
  intro Q E h
  refine wpAny_call (codeAny_call_def (fd:=fd) (by omega) (H.ghost _ _ ho) hdat (O.nolim.keeps fun b o e=>H.ghost _ _ e) (hcode.keeps H.ghost) hbody (hbind s _ _) hcell (fun x hx=>?_) (fun h₀ hns hk₀=>?_) hfco hfgen hfk)
  .simp only [List.mem_cons,List.not_mem_nil,or_false] at hx
   rcases hx with rfl | rfl
   .exact hcount
   .exact hmost
  have kc:(callEnv fd s.heap.objs.size (C.fn "need_few")).kindOf "count" = some .local:=hcount
  have km:(callEnv fd s.heap.objs.size (C.fn "need_few")).kindOf "most" = some .local:=hmost
  refine wpAny_execs_cons ?_
  rw [PySem.exec_If]
  refine wpAny_bind (wpAny_standAt (wpAny_bind ?_))
  rw [isTrue_Compare1,markedBehindIn_of_false (by rfl)]
  refine wpAny_bind (wpAny_Name (wpAny_loadName_local hfk kc hns (v:=.int n t1) (by rfl) ?_) (by decide))
  refine wpAny_bind (wpAny_holding (wpAny_Name (wpAny_loadName_local hfk km hns (v:=.int m t2) (by rfl) ?_) (by decide)))
  refine wpAny_bind (wpAny_standAt (wpAny_bind (wpAny_operateT (P.gt_int ?_))))
  refine wpAny_truthy_bool ?_
  have key:=h h₀ (s.toks + 2) hns hk₀ hns.lt
  by_cases hnm:n > m
  .replace key:=key.1 hnm
   rw [if_pos (decide_eq_true hnm)]
   refine wpAny_execs_cons (wpAny_mono key (fun f s' q=>?_) fun z0 z0 q=>q)
   cases f with
   | next=>exact wpAny_execs_nil (wpAny_execs_nil q)
   | _=>exact q
  .rw [if_neg (by rw [decide_eq_true_iff]; exact hnm)]
   exact wpAny_execs_nil (wpAny_execs_nil (key.2 hnm))
 unfold af
 by_cases hnm:n > m
 .rw [if_pos hnm]
  intro Q E hE
  refine run Q E fun h₀ tk hns hk hlt=>⟨fun z0=>?_,fun q=>absurd hnm q⟩
  have hg₀:C.ghost.StaysIn h₀:=fun b o q=>hk _ _ (H.ghost _ _ q)
  rw [arm_exec_Raise]
  refine wpAny_bind (wpAny_standAt (pp O R.handled ?_))
  refine wpAny_bind ?_
  rw [arm_eval_Call_Name']
  have kg:(callEnv fd s.heap.objs.size (C.fn "need_few")).kindOf "GrammarError" = some .globalImplicit:=hge
  refine wpAny_bind (bK (s:={ s with heap:=h₀,toks:=tk }) O.glo hg₀ hfk hglob hblt kg (.inl O.errg) (by decide) ?_)
  show wpAny _ _ (callWith p6 (.ref (C.cls "GrammarError")) [] [(false,eval (.Constant (.str "too many words") kd p5) (callEnv fd s.heap.objs.size (C.fn "need_few")))] []) _ _ _
  obtain ⟨nm,q,N,bs,T,hdct,sn,sub,ab,col,dd,k0,k1,k2,k3,k5,hG⟩:=O.errc.obj
  refine PySem.W.callWith_of (P:=fun h=>C.ghost.StaysIn h) rfl (fun h hk=>⟨.machine,.inr (.inl rfl),fun A Q E s k q=>(by
   obtain ⟨hh,gg,dr,tt,os⟩:=s
   exact wpAny_keeperOf_exc (k _ _ (hk _ _ hG)) q)⟩) (bL (fun p hp=>by rw [List.mem_singleton.mp hp]) (spliced_cons (Constant_str (spliced_nil ⟨hg₀,?_⟩))))
  refine pI O (by show A.depth + 1 + 1 < _; omega) hg₀ fun h' tk' e oe t1 z1 z2 z3 z4 z5 z6=>?_
  refine wpAny_bind (wpAny_standAt (wpAny_pure ?_))
  refine ⟨e,oe,t1,rfl,fun b o q=>z1 _ _ (hg₀ _ _ q),z4,z5,z6,?_⟩
  obtain ⟨x,H'⟩:=H.keeps (s':={ s with heap:=h₀,toks:=tk }) hk (Nat.le_of_lt hlt) rfl rfl
  have hmu:∀ (i:Nat) (p:Addr × Addr),μ[i]? = some p->p.1 ≠ s.heap.objs.size/\p.2 ≠ s.heap.objs.size:=fun i p e=>⟨Nat.ne_of_lt (H.lt e).1,Nat.ne_of_lt (H.lt e).2⟩
  have D:=H'.down (env:=callEnv fd s.heap.objs.size (C.fn "need_few")) (L:=s.heap.objs.size) rfl hfk hns (aT H (Nat.le_refl _)) hmu
  have hen:C.base.get? e = none:=aT H (Nat.le_trans (Nat.le_of_lt hlt) z2)
  have hl:h'.FunFrames C.base (callEnv fd s.heap.objs.size (C.fn "need_few") :: C.fs):=em fun env he=>by
   obtain ⟨d1,L,m,d2,d3,d4⟩:=D.frames env he
   exact ⟨d1,L,m,d2,iV d3 fun o q=>z1 _ _ q,d4⟩
  refine wpAny_leaving_firstW (base:=C.base) (outer:=C.fs) (L:=s.heap.objs.size) (a0:=.ref t1) (s:={ s with heap:=h',toks:=tk' }) (by show A.frames.map _ = _; rw [R.frames]; rfl) hl rfl z4 (fun b o q=>z1 _ _ (hk _ _ (H.stay _ _ q))) hen z6 rfl rfl fun h'' hL=>?_
  obtain ⟨l1,⟨_,_,l2⟩,l3,l4⟩:=hL
  refine hE _ _ ⟨e,.ref t1,rfl,.inl ⟨l1,hen,l2,by rw [<- z5]; exact l3⟩,H.gens,H.os,fun L hL o q=>?_⟩
  obtain ⟨sl,q1⟩:=H.h0k L hL o q
  obtain ⟨sl',q2⟩:=l4 L _ (z1 _ _ (hk _ _ q1)) (O.h0d L hL o q)
  exact ⟨sl',q2⟩
 .rw [if_neg hnm]
  intro Q E hQ
  refine run Q E fun h₀ tk hns hk hlt=>⟨fun q=>absurd q hnm,fun z0=>?_⟩
  obtain ⟨x,H'⟩:=H.keeps (s':={ s with heap:=h₀,toks:=tk }) hk (Nat.le_of_lt hlt) rfl rfl
  exact hQ μ .none _ x H' .none
end
inductive bW (n:Nat) (c:Nat->Nat->Bool) {α:Type}:KasT α->α->Prop
 | ret (a:α):bW n c (.ret a) a
 | ask {i j:Nat} {k:Bool->KasT α} {a:α}:i < n->j < n->bW n c (k (c i j)) a->bW n c (.ask i j k) a
theorem bu {n:Nat} {c:Nat->Nat->Bool} {α β:Type} {t:KasT α} {a:α} {f:α->KasT β} {b:β} (h:bW n c t a) (h2:bW n c (f a) b):bW n c (t.bind f) b:=by
 induction h with
 | ret a=>exact h2
 | ask h1 h2' _ ih=>exact .ask h1 h2' (ih h2)
noncomputable abbrev at0 (p:Array Nat) (i:Nat):Nat:=p.getD i 0
theorem jj {p q:Array Nat} {i j:Nat} (h:p[i]? = q[j]?):at0 p i = at0 q j:=by
 show p.getD i 0 = q.getD j 0
 rw [Array.getD_eq_getD_getElem?,Array.getD_eq_getD_getElem?,h]
noncomputable def OkP (n:Nat) (p:Array Nat):Prop:=p.toList.Perm (List.range n)
section
variable {n:Nat} {p:Array Nat}
theorem OkP.size (h:OkP n p):p.size = n:=by
 have:=h.length_eq
 simpa using this
theorem OkP.get (h:OkP n p) {i:Nat} (hi:i < n):p[i]? = some (at0 p i):=by
 have:i < p.size:=by rw [h.size]; exact hi
 rw [Array.getElem?_eq_getElem this]
 congr 1
 show _ = p.getD i 0
 simp [Array.getD,this]
theorem OkP.lt (h:OkP n p) {i:Nat} (hi:i < n):at0 p i < n:=by
 have hm:at0 p i ∈ p.toList:=by
  have:=h.get hi
  exact Array.mem_toList_iff.mpr (Array.mem_of_getElem? this)
 exact List.mem_range.mp (h.mem_iff.mp hm)
theorem OkP.ne (h:OkP n p) {i j:Nat} (hi:i < n) (hj:j < n) (hij:i ≠ j):at0 p i ≠ at0 p j:=by
 intro q
 have hn:p.toList.Nodup:=h.nodup_iff.mpr List.nodup_range
 have e1:=h.get hi
 have e2:=h.get hj
 rw [<- Array.getElem?_toList] at e1 e2
 rw [q,<- e2] at e1
 have h1:i < p.toList.length:=by rw [Array.length_toList,h.size]; exact hi
 exact hij ((List.getElem?_inj h1 hn).mp e1)
theorem OkP.range:OkP n (List.toArray (List.range n)):=List.Perm.refl _
theorem OkP.perm {q:Array Nat} (h:OkP n p) (hq:q.Perm p):OkP n q:=(Array.perm_iff_toList_perm.mp hq).trans h
end
structure Tot (n:Nat) (lt:Nat->Nat->Bool):Prop where
 tr:∀ i j k,i < n->j < n->k < n->lt i j = true->lt j k = true->lt i k = true
 tot:∀ i j,i < n->j < n->i ≠ j->lt i j = true\/lt j i = true
noncomputable def eD (lt:Nat->Nat->Bool) (p:Array Nat) (m:Nat):Prop:=∀ i j,i < j->j < m->lt (at0 p i) (at0 p j) = true
section
variable {n:Nat} {lt:Nat->Nat->Bool} (T:Tot n lt)
include T
theorem rK {p:Array Nat}:eD lt p 1:=fun i j h1 h2=>absurd h2 (Nat.not_lt_of_le (Nat.lt_of_le_of_lt (Nat.zero_le i) h1))
theorem qk {p:Array Nat} (h:OkP n p) {k:Nat} (hk:1 ≤ k) (hn:k < n) (ha:eD lt p k) (hs:lt (at0 p (k - 1)) (at0 p k) = true):eD lt p (k + 1):=by
 intro i j h1 h2
 by_cases hj:j < k
 .exact ha i j h1 hj
 .obtain rfl:j = k:=Nat.le_antisymm (Nat.le_of_lt_succ h2) (Nat.le_of_not_lt hj)
  by_cases hi:i = j - 1
  .subst hi; exact hs
  .exact T.tr _ _ _ (h.lt (Nat.lt_trans h1 hn)) (h.lt (Nat.lt_of_le_of_lt (Nat.sub_le j 1) hn)) (h.lt hn) (ha i (j - 1) (Nat.lt_of_le_of_ne (Nat.le_sub_one_of_lt h1) hi) (Nat.sub_lt hk Nat.one_pos)) hs
theorem fZ {p:Array Nat} (h:OkP n p):∀ (f k:Nat),1 ≤ k->k + f ≤ n->eD lt p k->∃ m,bW n lt (kas_asc p f k) m/\k ≤ m/\m ≤ k + f/\eD lt p m/\(m < k + f->lt (at0 p m) (at0 p (m - 1)) = true)
 | 0,k,_,_,ha=>⟨k,.ret k,Nat.le_refl _,Nat.le_refl _,ha,fun q=>absurd q (Nat.lt_irrefl k)⟩
 | f + 1,k,hk,hn,ha=>by
  have hkn:k < n:=Nat.lt_of_lt_of_le (Nat.lt_add_of_pos_right (Nat.succ_pos f)) hn
  have hk1:k - 1 < n:=Nat.lt_of_le_of_lt (Nat.sub_le k 1) hkn
  have ea:k + 1 + f = k + (f + 1):=Nat.succ_add k f
  induction hc:lt (at0 p k) (at0 p (k - 1)) using Bool.casesOn with
  | true =>
   refine ⟨k,.ask (h.lt hkn) (h.lt hk1) ?_,Nat.le_refl _,Nat.le_add_right k (f + 1),ha,fun z0=>hc⟩
   show bW n lt (if lt (at0 p k) (at0 p (k - 1)) = true then KasT.ret k else _) k
   rw [if_pos hc]; exact .ret k
  | false =>
   have hs:lt (at0 p (k - 1)) (at0 p k) = true:=(T.tot _ _ (h.lt hk1) (h.lt hkn) (h.ne hk1 hkn (Nat.ne_of_lt (Nat.sub_lt hk Nat.one_pos)))).resolve_right (by rw [hc]; exact Bool.false_ne_true)
   obtain ⟨m,h1,h2,h3,h4,h5⟩:=fZ h f (k + 1) (Nat.le_add_left 1 k) (Nat.le_trans (Nat.le_of_eq ea) hn) (qk T h hk hkn ha hs)
   refine ⟨m,.ask (h.lt hkn) (h.lt hk1) ?_,Nat.le_of_succ_le h2,Nat.le_trans h3 (Nat.le_of_eq ea),h4,fun q=>h5 (Nat.lt_of_lt_of_le q (Nat.le_of_eq ea.symm))⟩
   show bW n lt (if lt (at0 p k) (at0 p (k - 1)) = true then KasT.ret k else _) m
   rw [hc,if_neg Bool.false_ne_true]; exact h1
theorem il {p:Array Nat} (h:OkP n p):∀ (f k:Nat),1 ≤ k->k + f ≤ n->(∀ i j,i < j->j < k->lt (at0 p j) (at0 p i) = true) ->
  ∃ m,bW n lt (kas_desc f p k 0) (p,m,0)/\k ≤ m/\m ≤ k + f/\(∀ i j,i < j->j < m->lt (at0 p j) (at0 p i) = true)
 | 0,k,_,_,ha=>⟨k,.ret _,Nat.le_refl _,Nat.le_refl _,ha⟩
 | f + 1,k,hk,hn,ha=>by
  have hkn:k < n:=Nat.lt_of_lt_of_le (Nat.lt_add_of_pos_right (Nat.succ_pos f)) hn
  have hk1:k - 1 < n:=Nat.lt_of_le_of_lt (Nat.sub_le k 1) hkn
  have ea:k + 1 + f = k + (f + 1):=Nat.succ_add k f
  induction hc:lt (at0 p k) (at0 p (k - 1)) using Bool.casesOn with
  | true =>
   have ha':∀ i j,i < j->j < k + 1->lt (at0 p j) (at0 p i) = true:=by
    intro i j h1 h2
    by_cases hj:j < k
    .exact ha i j h1 hj
    .rw [Nat.le_antisymm (Nat.le_of_lt_succ h2) (Nat.le_of_not_lt hj)]
     have h1:i < k:=Nat.lt_of_lt_of_le h1 (Nat.le_of_lt_succ h2)
     by_cases hi:i = k - 1
     .rw [hi]; exact hc
     .exact T.tr _ _ _ (h.lt hkn) (h.lt hk1) (h.lt (Nat.lt_trans h1 hkn)) hc (ha i (k - 1) (Nat.lt_of_le_of_ne (Nat.le_sub_one_of_lt h1) hi) (Nat.sub_lt hk Nat.one_pos))
   obtain ⟨m,h1,h2,h3,h4⟩:=il h f (k + 1) (Nat.le_add_left 1 k) (Nat.le_trans (Nat.le_of_eq ea) hn) ha'
   refine ⟨m,.ask (h.lt hkn) (h.lt hk1) ?_,Nat.le_of_succ_le h2,Nat.le_trans h3 (Nat.le_of_eq ea),h4⟩
   show bW n lt (if lt (at0 p k) (at0 p (k - 1)) = true then (if 0 > 0 then kas_desc f (kas_rev p (k - (0 + 1)) k) (k + 1) 0 else kas_desc f p (k + 1) 0) else _) _
   rw [if_pos hc,if_neg (Nat.lt_irrefl 0)]
   exact h1
  | false =>
   have hs:lt (at0 p (k - 1)) (at0 p k) = true:=(T.tot _ _ (h.lt hk1) (h.lt hkn) (h.ne hk1 hkn (Nat.ne_of_lt (Nat.sub_lt hk Nat.one_pos)))).resolve_right (by rw [hc]; exact Bool.false_ne_true)
   refine ⟨k,.ask (h.lt hkn) (h.lt hk1) ?_,Nat.le_refl _,Nat.le_add_right k (f + 1),ha⟩
   show bW n lt (if lt (at0 p k) (at0 p (k - 1)) = true then _ else KasT.ask (p.getD (k - 1) 0) (p.getD k 0) fun d=>if d = true then KasT.ret (p,k,0) else kas_desc f p (k + 1) (0 + 1)) _
   rw [hc,if_neg Bool.false_ne_true]
   refine .ask (h.lt hk1) (h.lt hkn) ?_
   show bW n lt (if lt (at0 p (k - 1)) (at0 p k) = true then _ else _) _
   rw [if_pos hs]; exact .ret _
theorem qZ {p:Array Nat} (h:OkP n p) (i j:Nat):OkP n (kas_rev p i j):=h.perm (mirror_perm _ _ _ _)
theorem lK {p:Array Nat} (h:OkP n p) {m:Nat} (hm:1 ≤ m) (hn:m ≤ n) (ha:∀ i j,i < j->j < m->lt (at0 p j) (at0 p i) = true) :
  ∃ r,bW n lt (kas_tail3 m n p) r/\1 ≤ r.1/\r.1 ≤ n/\OkP n r.2/\eD lt r.2 r.1:=by
 have hr:OkP n (kas_rev p 0 m):=qZ T h 0 m
 have hz:m ≤ p.size:=by rw [h.size]; exact hn
 have e:∀ i,i < m->at0 (kas_rev p 0 m) i = at0 p (m - 1 - i):=fun i hi=>jj (by
   unfold kas_rev; rw [getElem?_mirror_all hz,if_pos ⟨Nat.zero_le _,hi⟩,Nat.zero_add])
 have hasc:eD lt (kas_rev p 0 m) m:=by
  intro i j h1 h2
  rw [e i (Nat.lt_trans h1 h2),e j h2]
  exact ha _ _ (Nat.sub_lt_sub_left (Nat.lt_of_lt_of_le h1 (Nat.le_sub_one_of_lt h2)) h1) (Nat.lt_of_le_of_lt (Nat.sub_le _ _) (Nat.sub_lt hm Nat.one_pos))
 have hs:=Nat.le_of_eq (Nat.add_sub_of_le hn)
 obtain ⟨m',h1,h2,h3,h4,_⟩:=fZ T hr (n - m) m hm hs hasc
 exact ⟨(m',kas_rev p 0 m),bu h1 (.ret _),Nat.le_trans hm h2,Nat.le_trans h3 hs,hr,h4⟩
theorem lL (h2:2 ≤ n):∃ r,bW n lt (kas_count n (List.toArray (List.range n))) r/\1 ≤ r.1/\r.1 ≤ n/\OkP n r.2/\eD lt r.2 r.1:=by
 have h:OkP n (List.toArray (List.range n)):=OkP.range
 have e:1 + (n - 1) = n:=Nat.add_sub_of_le (Nat.le_of_succ_le h2)
 obtain ⟨m,h1,h3,h4,h5,h6⟩:=fZ T h (n - 1) 1 (Nat.le_refl _) (Nat.le_of_eq e) (rK T)
 rw [e] at h4 h6
 by_cases hm:m = n
 .subst hm
  refine ⟨(m,List.toArray (List.range m)),bu h1 ?_,h3,Nat.le_refl _,h,h5⟩
  rw [if_pos (beq_self_eq_true _)]; exact .ret _
 .have hb:(m == n) = false:=beq_eq_false_iff_ne.mpr hm
  by_cases hm1:m > 1
  .refine ⟨(m,List.toArray (List.range n)),bu h1 ?_,h3,h4,h,h5⟩
   rw [hb,if_neg Bool.false_ne_true,if_pos hm1]
   refine .ask (h.lt (Nat.lt_of_lt_of_le Nat.two_pos h2)) (h.lt (Nat.lt_of_lt_of_le (Nat.sub_lt h3 Nat.one_pos) h4)) ?_
   show bW n lt (if lt (at0 _ 0) (at0 _ (m - 1)) = true then _ else _) _
   rw [if_pos (h5 0 (m - 1) (Nat.sub_pos_of_lt hm1) (Nat.sub_lt h3 Nat.one_pos))]
   exact .ret _
  .obtain rfl:m = 1:=Nat.le_antisymm (Nat.le_of_not_lt hm1) h3
   have hlt:=h6 h2
   have hd2:∀ i j,i < j->j < 2->lt (at0 (List.toArray (List.range n)) j) (at0 (List.toArray (List.range n)) i) = true:=by
    intro i j h1 h2
    obtain rfl:j = 1:=Nat.le_antisymm (Nat.le_of_lt_succ h2) (Nat.lt_of_le_of_lt (Nat.zero_le i) h1)
    obtain rfl:i = 0:=Nat.lt_one_iff.mp h1
    exact hlt
   have e2:1 + 1 + (n - (1 + 1)) ≤ n:=Nat.le_of_eq (Nat.add_sub_of_le h2)
   obtain ⟨m',g1,g2,g3,g4⟩:=il T h (n - (1 + 1)) (1 + 1) (Nat.le_add_left 1 1) e2 hd2
   obtain ⟨r,k1,k2,k3,k4,k5⟩:=lK T h (m:=m') (Nat.le_of_succ_le g2) (Nat.le_trans g3 e2) g4
   refine ⟨r,bu h1 ?_,k2,k3,k4,k5⟩
   rw [hb,if_neg Bool.false_ne_true,if_neg hm1]
   refine bu g1 ?_
   show bW n lt (if 0 > 0 then _ else kas_tail3 m' n (List.toArray (List.range n))) r
   rw [if_neg (Nat.lt_irrefl 0)]
   exact k1
theorem dL {p:Array Nat} (h:OkP n p) {k:Nat} (hk:k < n) (ha:eD lt p k):∀ (f l r:Nat),l ≤ r->r ≤ k->r - l ≤ f->(∀ i,i < l->lt (at0 p i) (at0 p k) = true)->(∀ i,r ≤ i->i < k->lt (at0 p k) (at0 p i) = true) ->
  ∃ m,bW n lt (kas_place p k f l r) m/\m ≤ k/\(∀ i,i < m->lt (at0 p i) (at0 p k) = true)/\(∀ i,m ≤ i->i < k->lt (at0 p k) (at0 p i) = true)
 | 0,l,r,h1,h2,h3,h4,h5=>⟨l,.ret _,Nat.le_trans h1 h2,h4,fun i hi=>h5 i (Nat.le_trans (Nat.le_of_sub_eq_zero (Nat.le_zero.mp h3)) hi)⟩
 | f + 1,l,r,h1,h2,h3,h4,h5=>by
  unfold kas_place
  by_cases hlr:l ≥ r
  .rw [if_pos hlr]; exact ⟨l,.ret _,Nat.le_trans h1 h2,h4,fun i hi=>h5 i (Nat.le_trans hlr hi)⟩
  .rw [if_neg hlr]
   have m1:l ≤ (l + r) / 2:=(Nat.le_div_iff_mul_le Nat.two_pos).mpr (by rw [Nat.mul_two]; exact Nat.add_le_add_left h1 l)
   have m2:(l + r) / 2 < r:=(Nat.div_lt_iff_lt_mul Nat.two_pos).mpr (by rw [Nat.mul_two]; exact Nat.add_lt_add_right (Nat.lt_of_not_le hlr) r)
   have mk:(l + r) / 2 < k:=Nat.lt_of_lt_of_le m2 h2
   have mn:=h.lt (Nat.lt_trans mk hk)
   induction hc:lt (at0 p k) (at0 p ((l + r) / 2)) using Bool.casesOn with
   | true =>
    obtain ⟨m,g1,g2⟩:=dL h hk ha f l ((l + r) / 2) m1 (Nat.le_of_lt mk) (Nat.le_of_lt_succ (Nat.lt_of_lt_of_le (Nat.sub_lt_sub_right m1 m2) h3)) h4 fun i hi1 hi2=>by
     by_cases hi:i = (l + r) / 2
     .rw [hi]; exact hc
     .exact T.tr _ _ _ (h.lt hk) mn (h.lt (Nat.lt_trans hi2 hk)) hc (ha _ _ (Nat.lt_of_le_of_ne hi1 (Ne.symm hi)) hi2)
    refine ⟨m,.ask (h.lt hk) mn ?_,g2⟩
    show bW n lt (if lt (at0 p k) (at0 p ((l + r) / 2)) = true then _ else _) _
    rw [if_pos hc]; exact g1
   | false =>
    have hs:lt (at0 p ((l + r) / 2)) (at0 p k) = true:=(T.tot _ _ mn (h.lt hk) (h.ne (Nat.lt_trans mk hk) hk (Nat.ne_of_lt mk))).resolve_right (by rw [hc]; exact Bool.false_ne_true)
    obtain ⟨m,g1,g2⟩:=dL h hk ha f ((l + r) / 2 + 1) r m2 h2 (Nat.pred_le_pred (Nat.le_trans (Nat.sub_le_sub_left m1 r) h3)) (fun i hi=>by
     by_cases hi':i = (l + r) / 2
     .rw [hi']; exact hs
     .have him:=Nat.lt_of_le_of_ne (Nat.le_of_lt_succ hi) hi'
      exact T.tr _ _ _ (h.lt (Nat.lt_trans him (Nat.lt_trans mk hk))) mn (h.lt hk) (ha _ _ him mk) hs) h5
    refine ⟨m,.ask (h.lt hk) mn ?_,g2⟩
    show bW n lt (if lt (at0 p k) (at0 p ((l + r) / 2)) = true then _ else _) _
    rw [hc,if_neg Bool.false_ne_true]; exact g1
theorem jX:∀ (f:Nat) (p:Array Nat) (k:Nat),OkP n p->1 ≤ k->k + f = n->eD lt p k->∃ p',bW n lt (kas_bin f p k) p'/\OkP n p'/\eD lt p' n
 | 0,p,k,h,_,hn,ha=>⟨p,.ret _,h,by rw [<- hn]; exact ha⟩
 | f + 1,p,k,h,hk,hn,ha=>by
  have hkn:k < n:=Nat.lt_of_lt_of_le (Nat.lt_add_of_pos_right (Nat.succ_pos f)) (Nat.le_of_eq hn)
  obtain ⟨l,g1,g2,g3,g4⟩:=dL T h (k:=k) hkn ha k 0 k (Nat.zero_le _) (Nat.le_refl _) (Nat.le_refl _) (fun i hi=>absurd hi (Nat.not_lt_zero i)) (fun i hi1 hi2=>absurd hi1 (Nat.not_le_of_lt hi2))
  have hz:k < p.size:=by rw [h.size]; exact hkn
  have hb:=fun j=>getElem?_bubble hz (k - l) (Nat.sub_le k l) j
  rw [Nat.sub_sub_self g2] at hb
  have e1:at0 (bubble p k (k - l)) l = at0 p k:=jj (by rw [hb l,if_pos rfl])
  have e2:∀ j,l < j->j ≤ k->at0 (bubble p k (k - l)) j = at0 p (j - 1):=fun j h1 h2=>jj (by rw [hb j,if_neg (Nat.ne_of_gt h1),if_pos ⟨h1,h2⟩])
  have e3:∀ j,j < l->at0 (bubble p k (k - l)) j = at0 p j:=fun j h1=>jj (by rw [hb j,if_neg (Nat.ne_of_lt h1),if_neg (fun q=>Nat.lt_asymm h1 q.1)])
  have hasc:eD lt (bubble p k (k - l)) (k + 1):=by
   intro i j h1 h2
   by_cases hj:j < l
   .rw [e3 j hj,e3 i (Nat.lt_trans h1 hj)]; exact ha i j h1 (Nat.lt_of_lt_of_le hj g2)
   .by_cases hj2:j = l
    .subst hj2; rw [e1,e3 i h1]; exact g3 i h1
    .have hlj:l < j:=Nat.lt_of_le_of_ne (Nat.le_of_not_lt hj) (Ne.symm hj2)
     have hjk:j ≤ k:=Nat.le_of_lt_succ h2
     have hj1:j - 1 < k:=Nat.lt_of_lt_of_le (Nat.sub_lt (Nat.lt_of_le_of_lt (Nat.zero_le l) hlj) Nat.one_pos) hjk
     rw [e2 j hlj hjk]
     by_cases hi:i < l
     .rw [e3 i hi]; exact ha i (j - 1) (Nat.lt_of_lt_of_le hi (Nat.le_sub_one_of_lt hlj)) hj1
     .by_cases hi2:i = l
      .subst hi2; rw [e1]; exact g4 _ (Nat.le_sub_one_of_lt hlj) hj1
      .have hli:l < i:=Nat.lt_of_le_of_ne (Nat.le_of_not_lt hi) (Ne.symm hi2)
       rw [e2 i hli (Nat.le_trans (Nat.le_of_lt h1) hjk)]; exact ha _ _ (Nat.sub_lt_sub_right (Nat.lt_of_le_of_lt (Nat.zero_le l) hli) h1) hj1
  obtain ⟨p',k1,k2,k3⟩:=jX f (bubble p k (k - l)) (k + 1) (h.perm (bubble_perm _ _ _)) (Nat.le_add_left 1 k) ((Nat.succ_add k f).trans hn) hasc
  exact ⟨p',bu g1 k1,k2,k3⟩
theorem nG (h2:2 ≤ n):∃ p,bW n lt (kas_sort n) p/\OkP n p/\eD lt p n:=by
 obtain ⟨r,g1,g2,g3,g4,g5⟩:=lL T h2
 by_cases hr:r.1 < n
 .obtain ⟨p',k1,k2,k3⟩:=jX T (n - max r.1 1) r.2 (max r.1 1) g4 (Nat.le_max_right _ _) (by rw [Nat.max_eq_left g2]; exact Nat.add_sub_of_le g3) (by rw [Nat.max_eq_left g2]; exact g5)
  refine ⟨p',bu g1 ?_,k2,k3⟩
  rw [if_pos hr]; exact k1
 .refine ⟨r.2,bu g1 ?_,g4,by rw [Nat.le_antisymm (Nat.le_of_not_lt hr) g3]; exact g5⟩
  rw [if_neg hr]; exact .ret _
end
end Mine.Internal
end
section
namespace Mine.Internal
open PySem.W
noncomputable def lexLt (x y:List Int):Bool:=!intsLe y x
theorem cG:∀ x y:List Int,intsLe x y = true\/intsLe y x = true
 | [],_=>.inl (by unfold intsLe; rfl)
 | _ :: _,[]=>.inr (by unfold intsLe; rfl)
 | a :: xs,b :: ys=>by
  unfold intsLe
  by_cases h:a = b
  .subst h; rw [if_pos rfl,if_pos rfl]; exact cG xs ys
  .rw [if_neg h,if_neg (Ne.symm h),decide_eq_true_iff,decide_eq_true_iff]; omega
theorem dh:∀ x y:List Int,intsLe x y = true->intsLe y x = true->x = y
 | [],[],_,_=>rfl
 | [],_ :: _,_,h=>by unfold intsLe at h; exact absurd h Bool.false_ne_true
 | _ :: _,[],h,_=>by unfold intsLe at h; exact absurd h Bool.false_ne_true
 | a :: xs,b :: ys,h1,h2=>by
  unfold intsLe at h1 h2
  by_cases h:a = b
  .subst h; rw [if_pos rfl] at h1 h2; rw [dh xs ys h1 h2]
  .rw [if_neg h,decide_eq_true_iff] at h1; rw [if_neg (Ne.symm h),decide_eq_true_iff] at h2; omega
theorem cF:∀ x y z:List Int,intsLe x y = true->intsLe y z = true->intsLe x z = true
 | [],_,_,_,_=>by unfold intsLe; rfl
 | _ :: _,[],_,h,_=>by unfold intsLe at h; exact absurd h Bool.false_ne_true
 | _ :: _,_ :: _,[],_,h=>by unfold intsLe at h; exact absurd h Bool.false_ne_true
 | a :: xs,b :: ys,c :: zs,h1,h2=>by
  unfold intsLe at h1 h2 ⊢
  by_cases h:a = b
  .subst h
   rw [if_pos rfl] at h1
   by_cases h':a = c
   .subst h'; rw [if_pos rfl] at h2 ⊢; exact cF xs ys zs h1 h2
   .rw [if_neg h'] at h2 ⊢; exact h2
  .rw [if_neg h,decide_eq_true_iff] at h1
   by_cases h':b = c
   .subst h'; rw [if_neg h,decide_eq_true_iff]; exact h1
   .rw [if_neg h',decide_eq_true_iff] at h2
    rw [if_neg (by omega),decide_eq_true_iff]; omega
theorem kD {x y:List Int} (h:lexLt x y = true):intsLe x y = true:=by
 unfold lexLt at h
 rcases cG x y with q | q
 .exact q
 .rw [q] at h; exact absurd h Bool.false_ne_true
theorem kC {x y z:List Int} (h1:lexLt x y = true) (h2:lexLt y z = true):lexLt x z = true:=by
 unfold lexLt
 rw [Bool.not_eq_true']
 by_cases q:intsLe z x = true
 .have:=cF z x y q (kD h1)
  unfold lexLt at h2
  rw [this] at h2; exact absurd h2 Bool.false_ne_true
 .exact eq_false_of_ne_true q
theorem nM {x y:List Int} (h:x ≠ y):lexLt x y = true\/lexLt y x = true:=by
 unfold lexLt
 by_cases q:intsLe y x = true
 .right
  rw [Bool.not_eq_true']
  exact eq_false_of_ne_true fun q'=>h (dh _ _ q' q)
 .left; rw [eq_false_of_ne_true q]; rfl
theorem dA:lexLt [] [] = false:=by unfold lexLt intsLe; rfl
theorem cZ {b:Int} {ys:List Int}:lexLt [] (b :: ys) = true:=by unfold lexLt intsLe; rfl
theorem dc {a:Int} {xs:List Int}:lexLt (a :: xs) [] = false:=by unfold lexLt intsLe; rfl
theorem gm {a b:Int} {xs ys:List Int}:lexLt (a :: xs) (b :: ys) = if a = b then lexLt xs ys else decide (a < b):=by
 unfold lexLt
 conv=>lhs; unfold intsLe
 by_cases h:a = b
 .subst h; rw [if_pos rfl,if_pos rfl]
 .rw [if_neg (Ne.symm h),if_neg h]
  by_cases q:b < a
  .rw [decide_eq_true q]; rw [decide_eq_false (by omega)]; rfl
  .rw [decide_eq_false q]; rw [decide_eq_true (by omega)]; rfl
theorem eX (w:List Int):∀ l:List (List Int),(insW w l).Perm (w :: l)
 | []=>List.Perm.refl _
 | x :: xs=>by
  unfold insW
  split
  .exact List.Perm.refl _
  .exact (List.Perm.cons x (eX w xs)).trans (List.Perm.swap w x xs)
theorem dJ:∀ l:List (List Int),(sortW l).Perm l
 | []=>List.Perm.refl _
 | x :: xs=>by unfold sortW; exact (eX x _).trans (List.Perm.cons x (dJ xs))
set_option tactic.hygienic true in
theorem ft (w:List Int):∀ l:List (List Int),l.Pairwise (fun a b=>intsLe a b = true)->(insW w l).Pairwise (fun a b=>intsLe a b = true)
 | [],_=>by unfold insW; simp
 | x :: xs,h=>by
  unfold insW
  rw [List.pairwise_cons] at h
  split
  .rename_i q
   refine List.pairwise_cons.mpr ⟨fun y hy=>?_,List.pairwise_cons.mpr h⟩
   rcases List.mem_cons.mp hy with rfl | hy
   .exact q
   .exact cF _ _ _ q (h.1 y hy)
  .rename_i q
   refine List.pairwise_cons.mpr ⟨fun y hy=>?_,ft w xs h.2⟩
   rcases List.mem_cons.mp ((eX w xs).mem_iff.mp hy) with rfl | hy
   .exact (cG _ _).resolve_left q
   .exact h.1 y hy
theorem cw:∀ l:List (List Int),(sortW l).Pairwise (fun a b=>intsLe a b = true)
 | []=>by unfold sortW; exact .nil
 | x :: xs=>by unfold sortW; exact ft x _ (cw xs)
theorem ec {l l':List (List Int)} (h:l'.Perm l) (hs:l'.Pairwise (fun a b=>intsLe a b = true)):l' = sortW l :=
 List.Perm.eq_of_pairwise (le:=fun a b=>intsLe a b) (fun a b z0 z0=>dh a b) hs (cw l) (h.trans (dJ l).symm)
theorem iJ {ws:List (List Int)} {p:Array Nat} (h:OkP ws.length p) (ha:eD (fun i j=>lexLt (ws.getD i []) (ws.getD j [])) p ws.length):p.toList.map (fun i=>ws.getD i []) = sortW ws:=by
 refine ec ?_ ?_
 .refine (List.Perm.map _ h).trans (List.Perm.of_eq ?_)
  apply List.ext_getElem?
  intro i
  rw [List.getElem?_map]
  by_cases hi:i < ws.length
  .rw [List.getElem?_range hi]
   simp [List.getD_eq_getElem?_getD,hi]
  .rw [List.getElem?_eq_none (by simpa using hi),List.getElem?_eq_none (by simpa using hi)]; rfl
 .rw [List.pairwise_map,List.pairwise_iff_getElem]
  intro i j hi hj hij
  have hz:=h.size
  rw [Array.length_toList] at hi hj
  have e1:p.toList[i] = at0 p i:=by
   show p[i] = p.getD i 0
   simp [Array.getD,hi]
  have e2:p.toList[j] = at0 p j:=by
   show p[j] = p.getD j 0
   simp [Array.getD,hj]
  rw [e1,e2]
  exact kD (ha i j hij (by omega))
theorem rg {ws:List (List Int)} (hn:ws.Nodup):Tot ws.length (fun i j=>lexLt (ws.getD i []) (ws.getD j [])):=by
 refine ⟨fun i j k z0 z0 z0 h1 h2=>kC h1 h2,fun i j hi hj hij=>nM fun q=>hij ?_⟩
 have e1:ws[i]? = some (ws.getD i []):=by simp [List.getD_eq_getElem?_getD,hi]
 have e2:ws[j]? = some (ws.getD j []):=by simp [List.getD_eq_getElem?_getD,hj]
 rw [q,<- e2] at e1
 exact (List.getElem?_inj hi hn).mp e1
end Mine.Internal
end
section
namespace Mine.Internal
open PySem PySem.Calls PyProof.Rows PySem.W
section
variable {prog:Program} {w:World} {A:Around} {E:Value->Shared->Prop} {s:Shared} {a b:Addr} {x y:List Int}
theorem eV {k:Int} {v:Value} (h:(intKind prog w).is k v = true):∃ t,v = .int k t:=by
 cases v with
 | int n t=>exact ⟨t,by have:n = k:=(by simpa [intKind,Value.isInt] using h); rw [this]⟩
 | _=>simp -iota [intKind,Value.isInt] at h
inductive iA (K:PySem.KeyKind prog w Int) (r z:Bool):List (Value × Value)->Prop
 | fin (h:z = r):iA K r z []
 | same (k:Int) {u v:Value} {rest:List (Value × Value)} (h1:K.is k u = true) (h2:K.is k v = true) (t:iA K r z rest):iA K r z ((u,v) :: rest)
 | diff (k1 k2:Int) {u v:Value} {rest:List (Value × Value)} (hk:k1 ≠ k2) (h1:K.is k1 u = true) (h2:K.is k2 v = true) (hr:decide (k1 < k2) = r):iA K r z ((u,v) :: rest)
theorem pJ {K:PySem.KeyKind prog w Int} {x:List Int} {xs:List Value} (hx:ItemsAre K x xs):∀ {y:List Int} {ys:List Value},ItemsAre K y ys->iA K (lexLt x y) (decide (xs.length < ys.length)) (List.zip xs ys):=by
 induction hx with
 | nil =>
  intro y ys hy
  cases hy with
  | nil=>exact .fin (by rw [dA]; rfl)
  | cons _ _=>exact .fin (by rw [cZ,List.length_cons]; exact decide_eq_true (Nat.succ_pos _))
 | @cons k1 u x xs h1 _ ih =>
  intro y ys hy
  cases hy with
  | nil=>exact .fin (by rw [dc]; exact decide_eq_false (Nat.not_lt_zero _))
  | @cons k2 v y ys h2 hy =>
   rw [gm,List.length_cons,List.length_cons]
   by_cases hk:k1 = k2
   .rw [if_pos hk,show decide (xs.length + 1 < ys.length + 1) = decide (xs.length < ys.length) from decide_eq_decide.mpr Nat.succ_lt_succ_iff]
    exact .same k1 h1 (hk ▸ h2) (ih hy)
   .rw [if_neg hk]
    exact .diff k1 k2 hk h1 h2 rfl
theorem gL {P:PySem.Fin->Shared->Prop} (hx:IsTupleKey (intKind prog w) s.heap x a) (hy:IsTupleKey (intKind prog w) s.heap y b) (h:P (.done (.ret (.bool (lexLt x y)))) s) :
  wpAny (model prog w) A (Builtin.«tuple.__lt__» ⟨[.ref a,.ref b],[]⟩) P E s:=by
 have hTb:=hy.typeIs
 obtain ⟨oa,xs,na,hoa,_,hda,hia⟩:=hx
 obtain ⟨ob,ys,nb,hob,_,hdb,hib⟩:=hy
 have R:=pJ hia hib
 show wpAny _ _ (isInstance (.ref b) (.type "tuple") >>= _) _ _ s
 refine wpAny_bind (wpAny_isInstance hTb isSubtype_tuple_tuple ?_)
 rw [if_neg (by decide)]
 refine wpAny_bind (wpAny_tupleItemsOf hoa hda (wpAny_bind (wpAny_tupleItemsOf hob hdb ?_)))
 clear hTb hoa hda hia hob hdb hib
 refine wpAny_bind ?_
 refine wpAny_forIn_list _ (fun rest r s'=>r.1 = none/\s' = s/\iA (intKind prog w) (lexLt x y) (decide (xs.toList.length < ys.toList.length)) rest) _ ?_ ?_ _ _ ⟨rfl,rfl,R⟩
 .rintro ⟨u,v⟩ rest r s' ⟨hr,rfl,R⟩
  cases R with
  | same k h1 h2 R =>
   refine wpAny_bind ((intKind prog w).eqBool (a:=k) (b:=k) h1 h2 ?_)
   rw [decide_eq_true rfl]
   exact wpAny_pure ⟨rfl,rfl,R⟩
  | diff k1 k2 hk h1 h2 hf =>
   refine wpAny_bind ((intKind prog w).eqBool (a:=k1) (b:=k2) h1 h2 ?_)
   rw [decide_eq_false hk]
   obtain ⟨t1,rfl⟩:=eV h1
   obtain ⟨t2,rfl⟩:=eV h2
   refine wpAny_bind (wpAny_rule (wpAny_bind ?_))
   show wpAny _ _ (compareOp .Lt (.int k1 t1) (.int k2 t2)) _ _ _
   refine PySem.P.lt_int ?_
   rw [hf]
   exact wpAny_bind (wpAny_pure (wpAny_pure (wpAny_pure h)))
 .rintro ⟨r1,r2⟩ s' ⟨hr,rfl,R⟩
  cases hr
  cases R with
  | fin e=>exact wpAny_pure (show P (.done (.ret (.bool (decide (xs.toList.length < ys.toList.length))))) s' from e ▸ h)
theorem dC {Q:Value->Shared->Prop} (hx:IsTupleKey (intKind prog w) s.heap x a) (hy:IsTupleKey (intKind prog w) s.heap y b) (h:Q (.bool (lexLt x y)) s) :
  wpAny (model prog w) A (call (.builtin "tuple.__lt__") [.ref a,.ref b]) Q E s :=
 wpAny_call_entry F.slot_tuple_lt hx.typeIs F.entry_tuple_lt (gL hx hy ⟨_,rfl,h⟩) (F.args_tuple_lt_2 _ _)
theorem gT {Q:Value->Shared->Prop} (hu:A.units < cLine) (hx:IsTupleKey (intKind prog w) s.heap x a) (hy:IsTupleKey (intKind prog w) s.heap y b) (h:Q (.bool (lexLt x y)) s) :
  wpAny (model prog w) A (richCompare .Lt (.ref a) (.ref b)) Q E s :=
 wpAny_richCompare_same_room (op:=.Lt) hx.typeIs hy.typeIs F.slot_tuple_lt (dC hx hy ⟨(fun e=>by contradiction),h⟩) hu
theorem kI {Q:Bool->Shared->Prop} (hu:A.units < cLine) (hx:IsTupleKey (intKind prog w) s.heap x a) (hy:IsTupleKey (intKind prog w) s.heap y b) (h:Q (lexLt x y) s) :
  wpAny (model prog w) A (keyLt' general' (.ref a) (.ref b)) Q E s:=by
 show wpAny (model prog w) A (oneLt' false (.ref a) (.ref b)) Q E s
 exact kat_one _ _ (gT hu hx hy h)
theorem kH {Q:Bool->Shared->Prop} (hu:A.units < cLine) (hx:IsTupleKey (intKind prog w) s.heap x a) (hy:IsTupleKey (intKind prog w) s.heap y b) (h:Q (lexLt x y) s) :
  wpAny (model prog w) A (keyLt' oneType' (.ref a) (.ref b)) Q E s:=by
 show wpAny (model prog w) A (oneLt' true (.ref a) (.ref b)) Q E s
 rw [oneLt'_eq]
 simp -iota only [if_true]
 refine wpAny_bind (wpAny_cRoomFor_or (.inr hu) ?_)
 refine wpAny_bind (wpAny_callSpecialIfBound?_slot hx.typeIs F.slot_tuple_lt (dC hx hy ?_))
 exact wpAny_truthy_bool h
theorem rh {fin:Bool} {Q:Bool->Shared->Prop} {xs ys:List Value} (hx:ItemsAre (intKind prog w) x xs) (hy:ItemsAre (intKind prog w) y ys) (i:Nat) (h:Q (lexLt x y) s):(fin = decide (xs.length < ys.length))->KatLex prog w A true fin Q (xs.zip ys) i s:=by
 induction hx generalizing y ys i with
 | nil =>
  intro hfin
  cases hy with
  | nil=>rw [dA] at h; rw [hfin]; exact h
  | cons _ _=>rw [cZ] at h; rw [hfin]; simpa [KatLex] using h
 | @cons k1 u x' xs' h1 hx' ih =>
  intro hfin
  cases hy with
  | nil=>rw [dc] at h; rw [hfin]; exact h
  | @cons k2 v y' ys' h2 hy' =>
   rw [List.zip_cons_cons]
   refine kat_cons ((intKind prog w).eqBool (a:=k1) (b:=k2) h1 h2 ?_)
   rw [gm] at h
   by_cases hk:k1 = k2
   .rw [decide_eq_true hk]
    rw [if_pos hk] at h
    exact kat_yes (ih hy' (i + 1) h (by rw [hfin]; simp -iota))
   .rw [decide_eq_false hk]
    rw [if_neg hk] at h
    refine kat_no ?_
    obtain ⟨t1,rfl⟩:=eV h1
    obtain ⟨t2,rfl⟩:=eV h2
    induction i using Nat.casesAuxOn with
    | zero=>exact oneLt_int h
    | succ i =>
     rw [show (true && i + 1 == 0) = false from by simp]
     exact kat_one _ _ (P.lt_int h)
theorem lR {Q:Bool->Shared->Prop} (hx:IsTupleKey (intKind prog w) s.heap x a) (hy:IsTupleKey (intKind prog w) s.heap y b) (h:Q (lexLt x y) s) :
  wpAny (model prog w) A (keyLt' (tuples' true) (.ref a) (.ref b)) Q E s:=by
 obtain ⟨oa,xs,na,hoa,_,hda,hia⟩:=hx
 obtain ⟨ob,ys,nb,hob,_,hdb,hib⟩:=hy
 exact kat_lt hoa hda hob hdb (rh hia hib 0 h (by simp -iota))
end
noncomputable def WAt (prog:Program) (w:World) (h:Heap) (x:List Int) (a:Addr):Prop:=IsTupleKey (intKind prog w) h x a/\∃ us n,h.get? a = some (tupObj us n)
inductive aU (prog:Program) (w:World) (h:Heap):List Value->List (List Int)->Prop
 | nil:aU prog w h [] []
 | cons {a:Addr} {x:List Int} {vs:List Value} {ws:List (List Int)}:WAt prog w h x a->aU prog w h vs ws->aU prog w h (.ref a :: vs) (x :: ws)
section
variable {prog:Program} {w:World} {M:Model} {A:Around} {E:Value->Shared->Prop} {s:Shared}
theorem aU.len {h:Heap} {vs:List Value} {ws:List (List Int)} (x:aU prog w h vs ws):vs.length = ws.length:=by
 induction x with
 | nil=>rfl
 | cons _ _ ih=>simp [ih]
theorem nS {vs:List Value} {ws:List (List Int)} (x:aU prog w s.heap vs ws):∃ fs:List (Option Value),fs.length = vs.length/\(fs.all (·.isSome)) = ws.all (fun w=>!w.isEmpty) /\
  (∀ f ∈ fs,∀ v,f = some v->∃ i t,v = .int i t)/\∀ Q:List (Option Value)->Shared->Prop,Q fs s->wpAny M A (vs.mapM firstOfTuple') Q E s:=by
 induction x with
 | nil=>exact ⟨[],rfl,rfl,(by intro f hf; cases hf),fun Q h=>by rw [List.mapM_nil]; exact wpAny_pure h⟩
 | @cons a x vs ws hx _ ih =>
  obtain ⟨fs,h0,h1,h2,h3⟩:=ih
  obtain ⟨o,items,n,ho,hc,hd,hi⟩:=hx.1
  refine ⟨items[0]? :: fs,by rw [List.length_cons,List.length_cons,h0],?_,?_,fun Q h=>?_⟩
  .rw [List.all_cons,List.all_cons,h1]
   congr 1
   rw [<- Array.getElem?_toList]
   clear hd
   generalize items.toList = l at hi
   cases hi with
   | nil=>simp
   | cons _ _=>simp
  .intro f hf v hv
   rcases List.mem_cons.mp hf with rfl | hf
   .rw [<- Array.getElem?_toList] at hv
    clear hd
    generalize items.toList = l at hi hv
    cases hi with
    | nil=>simp at hv
    | cons q _ =>
     simp only [List.getElem?_cons_zero,Option.some.injEq] at hv
     subst hv
     obtain ⟨t,rfl⟩:=eV q
     exact ⟨_,t,rfl⟩
   .exact h2 f hf v hv
  .rw [List.mapM_cons]
   refine wpAny_bind ?_
   rw [kas_first_eq]
   refine wpAny_bind (Looks.here (show Looks M s.heap (typeOf (.ref a)) o.cls from (Looks.ld ho).andThen .now) ?_)
   rw [hc,if_neg (by first | decide | simp)]
   refine wpAny_bind (listItems_at ho hd (wpAny_pure ?_))
   exact wpAny_bind (h3 (fun bs s'=>wpAny M A (pure (items[0]? :: bs)) Q E s') (wpAny_pure h))
theorem oD {vs:List Value} {ws:List (List Int)} (x:aU prog w s.heap vs ws):∀ v ∈ vs,∀ Q:Value->Shared->Prop,Q (.type "tuple") s->wpAny M A (typeOf v) Q E s:=by
 induction x with
 | nil=>exact fun v hv=>by contradiction
 | @cons a x vs ws hx _ ih =>
  intro v hv Q h
  rcases List.mem_cons.mp hv with rfl | hv
  .obtain ⟨o,items,n,ho,hc,hd,hi⟩:=hx.1
   exact Looks.here (show Looks M s.heap (typeOf (.ref a)) (.type "tuple") from hc ▸ (Looks.ld ho).andThen .now) h
  .exact ih v hv Q h
theorem rm {vs:List Value} {ws:List (List Int)} (x:aU prog w s.heap vs ws) (h2:2 ≤ vs.length) {Q:PyProof.Rows.SortKind->Shared->Prop} (hQ:∀ κ,κ = general'\/κ = oneType'\/κ = tuples' true->Q κ s) :
  wpAny M A (keyKind' vs.toArray) Q E s:=by
 obtain ⟨fs,h0,h1,h3,h4⟩:=nS (M:=M) (A:=A) (E:=E) x
 rw [kat_kind_eq,List.mapM_toArray,map_eq_pure_bind]
 refine wpAny_bind (wpAny_bind (h4 _ (wpAny_pure ?_)))
 by_cases hall:fs.toArray.all (·.isSome) = true
 .rw [if_pos hall]
  refine wpAny_bind (wpAny_rule ?_)
  have hfm:(fs.toArray.filterMap id) = (fs.filterMap id).toArray:=by simp
  rw [hfm,oneTypeOnly'_eq,List.mapM_toArray,map_eq_pure_bind]
  have hty:∀ v ∈ fs.filterMap id,∀ Q':Value->Shared->Prop,Q' (.type "int") s->wpAny M A (typeOf v) Q' E s:=fun v hv Q' hq=>by
   obtain ⟨f,hf,hfv⟩:=List.mem_filterMap.mp hv
   obtain ⟨i,t,rfl⟩:=h3 f hf v hfv
   exact wpAny_pure hq
  refine wpAny_bind (wpAny_bind (wpAny_bind (kas_mapM (r:=.type "int") _ hty (wpAny_pure ?_))))
  obtain ⟨g,gs,hg⟩ : ∃ g gs,fs.filterMap id = g :: gs:=by
   induction fs using List.casesOn with
   | nil=>rw [List.length_nil] at h0; omega
   | cons f fs =>
    induction f using Option.casesOn with
    | none=>simp at hall
    | some v=>exact ⟨v,fs.filterMap id,by simp⟩
  rw [hg]
  have hall2:((List.map (fun z0=>Value.type "int") (g :: gs)).toArray.all fun x=>x == Value.type "int") = true:=by
   simp only [List.all_toArray,List.all_map,List.all_eq_true]
   intro _ _
   rfl
  have h0':(List.map (fun z0=>Value.type "int") (g :: gs)).toArray[0]? = some (.type "int"):=by simp
  rw [h0']
  simp only [hall2,if_true]
  exact wpAny_pure (wpAny_pure (hQ _ (.inr (.inr rfl))))
 .rw [if_neg hall]
  split
  .exact wpAny_pure (hQ _ (.inl rfl))
  .rw [oneTypeOnly'_eq,List.mapM_toArray,map_eq_pure_bind]
   refine wpAny_bind (wpAny_bind (wpAny_bind (kas_mapM (r:=.type "tuple") _ (fun v hv Q' hq=>oD x v hv Q' hq) (wpAny_pure ?_))))
   split
   .split
    .exact wpAny_pure (wpAny_pure (hQ _ (.inr (.inl rfl))))
    .exact wpAny_pure (wpAny_pure (hQ _ (.inl rfl)))
   .exact wpAny_pure (wpAny_pure (hQ _ (.inl rfl)))
end
section
variable {prog:Program} {w:World} {A:Around} {E:Value->Shared->Prop} {s:Shared} {vs:List Value} {ws:List (List Int)}
theorem aU.move {h h':Heap} (x:aU prog w h vs ws) (k:∀ b o,o.cls = .type "tuple" -> h.get? b = some o->h'.get? b = some o):aU prog w h' vs ws:=by
 induction x with
 | nil=>exact .nil
 | cons hx _ ih =>
  obtain ⟨⟨o,items,n,ho,hc,r⟩,us,m,hu⟩:=hx
  exact .cons ⟨⟨o,items,n,k _ _ hc ho,hc,r⟩,us,m,k _ _ rfl hu⟩ ih
theorem aU.get {h:Heap} (x:aU prog w h vs ws):∀ i,i < ws.length->∃ a,vs.getD i .none = .ref a/\WAt prog w h (ws.getD i []) a:=by
 induction x with
 | nil=>intro i hi; exact absurd hi (by simp)
 | @cons a x vs ws hx _ ih =>
  intro i hi
  induction i using Nat.casesAuxOn with
  | zero=>exact ⟨a,rfl,hx⟩
  | succ i =>
   obtain ⟨b,h1,h2⟩:=ih i (by simpa using hi)
   exact ⟨b,by simpa using h1,by simpa using h2⟩
theorem aU.pick {h:Heap} (x:aU prog w h vs ws):∀ l:List Nat,(∀ i ∈ l,i < ws.length)->aU prog w h (l.map fun i=>vs.getD i .none) (l.map fun i=>ws.getD i [])
 | [],_=>.nil
 | i :: l,hl=>by
  obtain ⟨a,h1,h2⟩:=x.get i (hl i (.head _))
  rw [List.map_cons,List.map_cons,h1]
  exact .cons h2 (aU.pick x l fun j hj=>hl j (.tail _ hj))
theorem pj {n:Nat} {c:Nat->Nat->Bool} {α:Type} {t:KasT α} {a:α} {cmp:Nat->Nat->(Bool->Shared->Prop)->Shared->Prop} {Q:α->Shared->Prop} (h:bW n c t a)
  (hc:∀ i j C,i < n->j < n->C (c i j) s->cmp i j C s) (hq:Q a s):t.kasWp cmp Q s:=by
 induction h with
 | ret a=>exact hq
 | ask h1 h2 _ ih=>exact hc _ _ _ h1 h2 (ih hq)
theorem sW {κ:PyProof.Rows.SortKind} (hu:A.units < cLine) (x:aU prog w s.heap vs ws) (hk:κ = general'\/κ = oneType'\/κ = tuples' true) (i j:Nat) (C:Bool->Shared->Prop) (hi:i < ws.length) (hj:j < ws.length) (h:C (lexLt (ws.getD i []) (ws.getD j [])) s) :
  kas_ask prog w A κ vs i j C s:=by
 obtain ⟨a,h1,h2⟩:=x.get i hi
 obtain ⟨b,h3,h4⟩:=x.get j hj
 unfold kas_ask
 rw [h1,h3]
 rcases hk with rfl | rfl | rfl
 .exact kI hu h2.1 h4.1 h
 .exact kH hu h2.1 h4.1 h
 .exact lR h2.1 h4.1 h
theorem fA {a n:Nat} {P:PySem.Fin->Shared->Prop} (hu:A.units < cLine) (ho:s.heap.get? a = some (seqObj "list" vs.toArray n)) (hw:aU prog w s.heap vs ws) (hnd:ws.Nodup) (h64:vs.length < 64)
  (h:∀ out:List Value,aU prog w s.heap out (sortW ws)->P (.done (.ret .none)) { s with heap:=sortedHeap s.heap a vs out.toArray }) :
  wpAny (model prog w) A (Builtin.«list.sort» ⟨[.ref a],[]⟩) P E s:=by
 rw [list_sort_plain]
 have ha:a < s.heap.objs.size:=Heap.lt_size ho
 refine wpAny_bind (listItems_at ho rfl ?_)
 refine wpAny_bind (listUpdate_at ho rfl ?_ (by rw [List.size_toArray,sizeLine_eq]; omega) (Nat.zero_le _))
 obtain ⟨e1,ho1⟩ : ∃ e1,(s.heap.update a (Obj.mapSeq fun z0=>#[])).get? a = some (seqObj "list" #[] e1):=⟨_,get?_update_seq ho (fun z0=>#[])⟩
 refine wpAny_bind (seqEpoch_at ho1 rfl ?_)
 refine wpAny_bind (wpAny_newTuple ?_ (by show vs.length ≤ _; rw [sizeLine_eq]; omega))
 refine wpAny_bind (wpAny_newList ?_ (Nat.zero_le _))
 refine wpAny_holding ?_
 have ho6:(((s.heap.update a (Obj.mapSeq fun z0=>#[])).push (seqObj "tuple" vs.toArray 0)).push (seqObj "list" #[] 0)).get? a = some (seqObj "list" #[] e1):=by
  rw [Heap.get?_push_ne _ _ _ (by rw [size_push',Heap.size_update]; exact Nat.ne_of_lt (Nat.lt_succ_of_lt ha)),Heap.get?_push_ne _ _ _ (by rw [Heap.size_update]; exact Nat.ne_of_lt ha)]
  exact ho1
 show wpAny (model prog w) A _ P E { s with heap:=((s.heap.update a (Obj.mapSeq fun z0=>#[])).push (seqObj "tuple" vs.toArray 0)).push (seqObj "list" #[] 0) }
 dsimp only
 have hsz:vs.toArray.size = vs.length:=by simp
 have hl:=hw.len
 have hw6:aU prog w (((s.heap.update a (Obj.mapSeq fun z0=>#[])).push (seqObj "tuple" vs.toArray 0)).push (seqObj "list" #[] 0)) vs ws:=hw.move fun b o hc e=>by
  have hb:a ≠ b:=fun q=>by
   subst q; rw [ho] at e; injection e with e; subst e
   exact absurd hc (by show ¬ Value.type "list" = Value.type "tuple"; decide)
  exact Heap.get?_push_of_some _ (Heap.get?_push_of_some _ ((Heap.get?_update_other _ _ hb).trans e))
 by_cases h2:vs.toArray.size < 2
 .rw [if_pos h2,if_pos h2]
  refine wpAny_bind (wpAny_pure ?_)
  rw [StateT.run_pure]
  refine wpAny_bind (wpAny_pure ?_)
  dsimp only
  refine wpAny_bind (seqEpoch_at ho6 rfl ?_)
  have e0:(arrOf (SortSt.mk' general' (vs.toArray.zip vs.toArray) #[] 7 none)).map (·.2) = vs.toArray:=by
   show (vs.toArray.zip vs.toArray).map (·.2) = vs.toArray
   apply Array.toList_inj.mp
   rw [Array.toList_map,Array.toList_zip]
   exact List.map_snd_zip (Nat.le_refl _)
  rw [e0]
  refine wpAny_bind (listUpdate_at ho6 rfl ?_ (Nat.zero_le _) (by rw [List.size_toArray,sizeLine_eq]; omega))
  simp only [bne_self_eq_false,Bool.false_eq_true,if_false]
  have es:sortW ws = ws:=by
   have:ws.length < 2:=by omega
   match ws,this with
   | [],_=>rfl
   | [_],_=>rfl
   | _ :: _ :: _,h=>exact absurd h (by simp)
  refine wpAny_pure (h vs ?_)
  rw [es]; exact hw
 .rw [if_neg h2,if_neg h2]
  obtain ⟨p,g1,g2,g3⟩:=nG (rg hnd) (by omega)
  refine wpAny_bind (rm hw6 (by omega) fun κ hκ=>?_)
  have hrun:(kas_sort vs.length).kasWp (kas_ask prog w A κ vs) (fun p' s'=>p' = p/\s' = { s with heap:=((s.heap.update a (Obj.mapSeq fun z0=>#[])).push (seqObj "tuple" vs.toArray 0)).push (seqObj "list" #[] 0) }) { s with heap:=((s.heap.update a (Obj.mapSeq fun z0=>#[])).push (seqObj "tuple" vs.toArray 0)).push (seqObj "list" #[] 0) }:=by
   rw [hl]
   exact pj g1 (fun i j C hi hj hC=>sW (s:={ s with heap:=((s.heap.update a (Obj.mapSeq fun z0=>#[])).push (seqObj "tuple" vs.toArray 0)).push (seqObj "list" #[] 0) }) hu hw6 hκ i j C hi hj hC) ⟨rfl,rfl⟩
  refine wpAny_bind (wpAny_mono (kat_run (ks:=vs) (vs:=vs) (Q:=fun st' s'=>arrOf st' = p.map (kas_item (vs.toArray.zip vs.toArray))/\failedOf st' = none/\s' = { s with heap:=((s.heap.update a (Obj.mapSeq fun z0=>#[])).push (seqObj "tuple" vs.toArray 0)).push (seqObj "list" #[] 0) })
   rfl (by omega) h64 (fun p' st' s' a1 a2 a3 a4=>⟨by rw [a2,a4.1],a3,a4.2⟩) hrun) ?_ fun z0 z0 e=>e)
  rintro ⟨⟨⟩,st'⟩ s' ⟨har,hf,rfl⟩
  dsimp only
  have hout:=kat_snds rfl har
  rw [hout]
  have hps:p.size = vs.length:=by rw [g2.size,hl]
  refine wpAny_bind (seqEpoch_at ho6 rfl ?_)
  refine wpAny_bind (listUpdate_at ho6 rfl ?_ (Nat.zero_le _) (by show (List.toArray (p.toList.map fun i=>vs.getD i Value.none)).size ≤ _; rw [List.size_toArray,List.length_map,Array.length_toList,hps,sizeLine_eq]; omega))
  rw [hf]
  simp only [bne_self_eq_false,Bool.false_eq_true,if_false]
  refine wpAny_pure (h _ ?_)
  rw [<- iJ g2 g3]
  exact hw.pick _ fun i hi=>List.mem_range.mp (g2.mem_iff.mp hi)
end
section
variable {prog:Program} {w:World} {A:Around} {E:Value->Shared->Prop} {s:Shared} {vs:List Value} {ws:List (List Int)}
theorem pT {R:Result->Shared->Prop} {S d:Addr} {es:Array DictEntry} {ep:Nat} (hh:A.handled = none) (lo:(d == sysModules) = false) (hok:qo s.heap d es ep) (hn:es.size ≤ sizeLine) (hSd:S ≠ d) (hS:s.heap.get? S = some (seqObj "list" #[] 0))
  (hR:∀ h' tk acc' c',(∀ b o,b ≠ S->s.heap.get? b = some o->h'.get? b = some o)->h'.get? S = some { cls:=.type "list", dict:=none,data:=.seq acc' c',slots:=#[] }->ItemsOf (fun i v=>∃ e,es[i]? = some e/\v = e.key) acc' es.size->R (.ok (.ret (.ref S))) { s with heap:=h',toks:=tk }) :
  codeAny (model prog w) A (.builtin "list.__iadd__" ⟨[.ref S,.ref d],[]⟩) R s:=by
 refine codeAny_builtin entry_list_iadd' ?_
 show wpAny _ _ (Builtin.List.listExtendWith (.ref S) (.ref d) (.ref S)) _ _ s
 exact kdl_extend (mx lo) hh hok S hSd hSd _ 0 hS hR hn
theorem kW {d:Addr} {es:Array DictEntry} {ep:Nat} {Q:List Value->Shared->Prop} (hh:A.handled = none) (lo:(d == sysModules) = false) (hok:qo s.heap d es ep) (hn:es.size ≤ sizeLine)
  (hQ:∀ h' tk vs,(∀ b o,s.heap.get? b = some o->h'.get? b = some o)->s.heap.objs.size ≤ h'.objs.size->vs.length = es.size->(∀ (j:Nat) (v:Value),vs[j]? = some v->∃ e,es[j]? = some e/\v = e.key)->Q vs { s with heap:=h',toks:=tk }) :
  wpAny (model prog w) A (collect (.ref d)) Q E s:=by
 unfold collect
 refine wpAny_bind (wpAny_runValue (codeAny_builtin entry_proto_collect' ?_))
 show wpAny _ _ (do again (.builtin "list.__iadd__" ⟨[<- newList [],.ref d],[]⟩)) _ _ s
 refine wpAny_bind (wpAny_newList (wpAny_pure ⟨Code.quiet_builtin _ (by decide +kernel),?_⟩))
 have hd:d < s.heap.objs.size:=by obtain ⟨o,ho,_⟩:=hok; exact Heap.lt_size ho
 have hok':qo (s.heap.push (seqObj "list" #[] 0)) d es ep:=by obtain ⟨o,ho,r⟩:=hok; exact ⟨o,Heap.get?_push_of_some _ ho,r⟩
 refine pT (s:={ s with heap:=s.heap.push (seqObj "list" #[] 0) }) hh lo hok' hn (Nat.ne_of_gt hd) (Heap.get?_push_size _ rfl) (fun h' tk acc' c' hk hS hacc=>?_)
 refine wpAny_bind (wpAny_load (s:={ s with heap:=h',toks:=tk }) hS ?_)
 refine wpAny_pure (hQ h' tk acc'.toList (fun b o e=>hk b o (Nat.ne_of_lt (Heap.lt_size e)) (Heap.get?_push_of_some _ e)) (Nat.le_of_lt (Heap.lt_size hS)) (by rw [Array.length_toList]; exact hacc.1) fun j v e=>?_)
 rw [Array.getElem?_toList] at e
 exact hacc.2 j v e
theorem jE {v:Value} {Q:Value->Shared->Prop} (hu:A.units + 20 < cLine) (hnd:ws.Nodup) (h64:ws.length < 64)
  (hc:∀ (Q':List Value->Shared->Prop),(∀ h' tk vs,(∀ b o,s.heap.get? b = some o->h'.get? b = some o)->s.heap.objs.size ≤ h'.objs.size->aU prog w h' vs ws->Q' vs { s with heap:=h',toks:=tk })->∀ (A':Around) (E':Value->Shared->Prop),A'.handled = A.handled->wpAny (model prog w) A' (collect v) Q' E' s)
  (h:∀ h' tk D us e,(∀ b o,s.heap.get? b = some o->h'.get? b = some o)->s.heap.objs.size ≤ D->D < h'.objs.size->h'.get? D = some (PySem.W.listOf (List.toArray us) e)->aU prog w h' us (sortW ws)->Q (.ref D) { s with heap:=h',toks:=tk }) :
  wpAny (model prog w) A (call (.builtin "sorted") [v]) Q E s:=by
 refine Calls.call_function_entry kind_sorted plain_sorted entry_sorted (args_sorted1 _) ?_
 unfold Builtin.«sorted»
 refine wpAny_bind (m:=checkCount "sorted" 1 1 _) (wpAny_pure ?_)
 refine wpAny_bind (hc _ (fun h1 t1 vs k1 z1 hw=>?_) _ _ rfl)
 have hl:=hw.len
 refine wpAny_bind (wpAny_newList ?_ (by rw [sizeLine_eq]; omega))
 have hoL:(h1.push (seqObj "list" vs.toArray 0)).get? h1.objs.size = some (seqObj "list" vs.toArray 0):=Heap.get?_push_size _ rfl
 show wpAny _ _ _ _ _ { s with heap:=h1.push (seqObj "list" vs.toArray 0),toks:=t1 }
 have hw1:aU prog w (h1.push (seqObj "list" vs.toArray 0)) vs ws:=hw.move fun b o z0 e=>Heap.get?_push_of_some _ e
 refine wpAny_bind (wpAny_holding (wpAny_call_entry slot_list_sort ⟨_,hoL,rfl⟩ entry_list_sort (fA (s:={ s with heap:=h1.push (seqObj "list" vs.toArray 0),toks:=t1 }) ?_ hoL hw1 hnd (by omega) fun out ho=>⟨_,rfl,?_⟩) (args_list_sort _)))
 .show A.units + 1 + 1 < cLine
  omega
 .refine wpAny_pure ⟨_,rfl,?_⟩
  have hz:h1.objs.size < (h1.push (seqObj "list" vs.toArray 0)).objs.size:=Heap.lt_size hoL
  obtain ⟨e1,ho1⟩ : ∃ e1,((h1.push (seqObj "list" vs.toArray 0)).update h1.objs.size (Obj.mapSeq fun z0=>#[])).get? h1.objs.size = some (seqObj "list" #[] e1):=⟨_,get?_update_seq hoL (fun z0=>#[])⟩
  have ho6:((((h1.push (seqObj "list" vs.toArray 0)).update h1.objs.size (Obj.mapSeq fun z0=>#[])).push (seqObj "tuple" vs.toArray 0)).push (seqObj "list" #[] 0)).get? h1.objs.size = some (seqObj "list" #[] e1) :=
   Heap.get?_push_of_some _ (Heap.get?_push_of_some _ ho1)
  have keep:∀ b o,b ≠ h1.objs.size->(h1.push (seqObj "list" vs.toArray 0)).get? b = some o->(sortedHeap (h1.push (seqObj "list" vs.toArray 0)) h1.objs.size vs out.toArray).get? b = some o:=fun b o hb e=>by
   unfold sortedHeap
   rw [Heap.get?_update_other _ _ (Ne.symm hb)]
   exact Heap.get?_push_of_some _ (Heap.get?_push_of_some _ ((Heap.get?_update_other _ _ (Ne.symm hb)).trans e))
  obtain ⟨e2,ho2⟩ : ∃ e2,(sortedHeap (h1.push (seqObj "list" vs.toArray 0)) h1.objs.size vs out.toArray).get? h1.objs.size = some (seqObj "list" out.toArray e2):=⟨_,get?_update_seq ho6 (fun z0=>out.toArray)⟩
  refine h (sortedHeap (h1.push (seqObj "list" vs.toArray 0)) h1.objs.size vs out.toArray) t1 h1.objs.size out e2 (fun b o e=>keep b o (Nat.ne_of_lt (Heap.lt_size (k1 _ _ e))) (Heap.get?_push_of_some _ (k1 _ _ e))) z1 (Heap.lt_size ho2) ho2 (ho.move fun b o hc e=>keep b o (fun q=>?_) e)
  subst q
  rw [hoL] at e; injection e with e; subst e
  exact absurd hc (by show ¬ Value.type "list" = Value.type "tuple"; decide)
end
section
variable {prog:Program} {w:World} {g h:Heap} {μ:Mu}
theorem jp {vs:List Value}:∀ {ws:List (List Int)},VRs g μ h vs (ws.map wordV)->aU prog w h vs ws:=by
 induction vs with
 | nil =>
  intro ws x
  induction ws using List.casesOn with
  | nil=>exact .nil
  | cons _ _=>cases x
 | cons v vs ih =>
  intro ws x
  induction ws using List.casesOn with
  | nil=>cases x
  | cons y ws =>
   rw [List.map_cons] at x
   cases x with
   | cons x1 x2 =>
    obtain ⟨a,rfl,hk⟩:=x1.wkey (prog:=prog) (wd:=w)
    obtain ⟨t,us,nn,h0,h1,h2⟩:=VR.inv_tup x1
    injection h0 with h0
    subst h0
    exact .cons ⟨hk,us,nn,h1⟩ (ih x2)
theorem pQ {us:List Value} {x:List Int} (hi:ItemsAre (intKind prog w) x us):VRs g μ h us (x.map AV.int):=by
 induction hi with
 | nil=>exact .nil
 | cons q _ ih =>
  obtain ⟨t,rfl⟩:=eV q
  exact .cons (.int _ _) ih
theorem iE {vs:List Value} {ws:List (List Int)} (x:aU prog w h vs ws):VRs g μ h vs (ws.map wordV):=by
 induction x with
 | nil=>exact .nil
 | @cons a y vs ws hx _ ih =>
  obtain ⟨⟨o,items,n,ho,hc,hd,hi⟩,us,m,hu⟩:=hx
  rw [ho] at hu
  injection hu with hu
  subst hu
  injection hd with hd1 hd2
  subst hd1
  exact .cons (.tup ho (pQ hi)) ih
end
section
variable {C:Cf} {A:Around} {W:Addr->Prop} {X:Value->Shared->Prop} {μ:Mu} {σ:ac} {s:Shared}
theorem dz (H:HR C μ σ s) (hu:A.units + 20 < cLine) {v:Value} {ws:List (List Int)} (h64:ws.length < 64)
  (hc:∀ (Q':List Value->Shared->Prop),(∀ h' tk vs,(∀ b o,s.heap.get? b = some o->h'.get? b = some o)->s.heap.objs.size ≤ h'.objs.size->aU C.prog C.w h' vs ws->Q' vs { s with heap:=h',toks:=tk })->∀ (A':Around) (E':Value->Shared->Prop),A'.handled = A.handled->wpAny (model C.prog C.w) A' (collect v) Q' E' s) :
  af C A W X μ σ s (RV C) (call (.builtin "sorted") [v]) (do MM.guard (decide ws.Nodup); mkL ((sortW ws).map wordV)):=by
 refine aj fun hn=>?_
 unfold mkL
 refine aj fun hf=>?_
 refine aA (a:=.obj σ.length) (σ':=σ ++ [.list ((sortW ws).map wordV)]) rfl fun Q E hQ=>?_
 refine jE hu (decide_eq_true_eq.mp hn) h64 hc fun h' tk D us e k z1 z2 hD hw=>?_
 obtain ⟨x,H'⟩:=H.keeps (s':={ s with heap:=h',toks:=tk }) k (Nat.le_of_lt (Nat.lt_of_le_of_lt z1 z2)) rfl rfl
 have hmu:∀ (i:Nat) (p:Addr × Addr),μ[i]? = some p->p.1 ≠ D/\p.1 ≠ D/\p.2 ≠ D/\p.2 ≠ D:=fun i p e=>by
  obtain ⟨h1,h2⟩:=H.lt e
  exact ⟨Nat.ne_of_lt (Nat.lt_of_lt_of_le h1 z1),Nat.ne_of_lt (Nat.lt_of_lt_of_le h1 z1),Nat.ne_of_lt (Nat.lt_of_lt_of_le h2 z1),Nat.ne_of_lt (Nat.lt_of_lt_of_le h2 z1)⟩
 obtain ⟨y,H''⟩:=H'.adopt (W:=W) (p:=(D,D)) (o:=.list ((sortW ws).map wordV)) (h0:=s.heap) ⟨z1,z1⟩ (Nat.le_of_lt (Nat.lt_of_le_of_lt z1 z2))
  ⟨aT H z1,aT H z1⟩ hmu ⟨bU H z1,bU H z1⟩ (fun z0 z0 z0=>⟨rfl,us,e,hD,iE hw⟩)
 exact hQ _ _ _ (y x.any) H'' (.obj (p:=(D,D)) (bT H.len _))
theorem sorted_ok:bo:=by
 intro C A μ σ s v a O hh hu H hv
 refine aj fun hg=>?_
 induction a using AV.casesOn with
 | obj i =>
  obtain ⟨p,rfl,hp⟩:=hv.inv_obj
  obtain ⟨o,ho,hor⟩:=H.objAt hp
  induction o using AO.casesOn with
  | list xs =>
   obtain ⟨e1,vs,nn,h1,h2⟩:=hor
   refine bB (m':=do MM.guard (decide (xs.length < 64)); let ws <- MM.opt (wordsOf xs); MM.guard (decide ws.Nodup); mkL ((sortW ws).map wordV)) (by rw [ai,show items (.obj i) σ = .ok xs σ by unfold items; dsimp only; rw [ho]]) ?_
   refine aj fun h64=>?_
   induction hw:wordsOf xs using Option.casesOn with
   | none=>exact ak rfl
   | some ws =>
    have hx:=bP hw
    subst hx
    rw [decide_eq_true_eq,List.length_map] at h64
    refine bB (m':=do MM.guard (decide ws.Nodup); mkL ((sortW ws).map wordV)) rfl ?_
    have hwv:aU C.prog C.w s.heap vs ws:=jp h2
    refine dz H hu h64 fun Q' hQ' A' E' z0=>?_
    have hz:vs.length ≤ sizeLine:=by rw [hwv.len,sizeLine_eq]; omega
    refine collect_list (l:=p.1) (vs:=vs) ⟨_,h1,rfl,nn,rfl⟩ ?_ hz
    have keep:∀ b o,s.heap.get? b = some o->((s.heap.push (seqObj "list" #[] 0)).update s.heap.objs.size (Obj.mapSeq (· ++ vs.toArray))).get? b = some o:=fun b o q=>by
     rw [Heap.get?_update_other _ _ (Nat.ne_of_gt (Heap.lt_size q))]
     exact Heap.get?_push_of_some _ q
    exact hQ' _ s.toks vs keep (by rw [Heap.size_update,Heap.size_push]; exact Nat.le_succ _) (hwv.move fun b o z0 q=>keep b o q)
  | wset ws =>
   refine bB (m':=do MM.guard (decide ((ws.map wordV).length < 64)); let ws <- MM.opt (wordsOf (ws.map wordV)); MM.guard (decide ws.Nodup); mkL ((sortW ws).map wordV)) (by rw [ai,show items (.obj i) σ = .ok (ws.map wordV) σ by unfold items; dsimp only; rw [ho]]) ?_
   refine aj fun h64=>?_
   induction hw:wordsOf (ws.map wordV) using Option.casesOn with
   | none=>exact ak rfl
   | some ws' =>
    have hx:=bP hw
    rw [decide_eq_true_eq,hx,List.length_map] at h64
    refine bB (m':=do MM.guard (decide ws'.Nodup); mkL ((sortW ws').map wordV)) rfl ?_
    obtain ⟨e1,hE,xs,⟨o',es,ep,g1,g2,g3,g4,g5,g6⟩,h2,h3⟩:=hor
    have hsz:es.size = ws.length:=by rw [<- Array.length_toList,g4,List.length_map,<- h2,List.length_map]
    have hl:ws.length = ws'.length:=by
     have:=congrArg List.length hx
     simpa using this
    refine dz H hu h64 fun Q' hQ' A' E' hA=>?_
    refine kW (hA.trans hh) (H.mods O.glo hp) ⟨o',g1,g2.1,g3⟩ (by rw [hsz,hl,sizeLine_eq]; omega) fun h' tk vs k z hlen hit=>?_
    obtain ⟨x,H'⟩:=H.keeps (s':={ s with heap:=h',toks:=tk }) k z rfl rfl
    refine hQ' h' tk vs k z (jp (g:=C.ghost) (μ:=μ) ?_)
    rw [<- hx]
    refine ct (by rw [hlen,hsz,List.length_map]) fun j v b e1 e2=>?_
    obtain ⟨en,q1,rfl⟩:=hit j v e1
    rw [<- Array.getElem?_toList,g4,List.getElem?_map] at q1
    rw [<- h2,List.map_map,List.getElem?_map] at e2
    induction hx:xs[j]? using Option.casesOn with
    | none=>rw [hx] at q1; contradiction
    | some y =>
     rw [hx] at q1 e2
     injection q1 with q1
     injection e2 with e2
     subst q1 e2
     exact VR.ext H wild0 x (h3 y (List.mem_of_getElem? hx)).2
  | _=>exact ak (by rw [ai,show items (.obj i) σ = .stuck by unfold items; dsimp only; rw [ho]])
 | tup xs=>exact absurd hg (by simp [notTup])
 | rng k=>exact absurd hg (by simp [notRng])
 | _=>exact ae
end
end Mine.Internal
end
section
namespace Mine.Internal
open PySem PySem.W PyProof.Rows
noncomputable abbrev pg:Program:=PySem.Challenge.pw_qd0058_01
noncomputable def vw:Program:={ pg with main:={ pg.main with body:=progBody.drop 27 } }
noncomputable def lo:List Str:=["_wall", "ToolError", "GrammarError", "END", "ERROR", "OWN_TERMINALS", "Rule", "Grammar", "last_terminal", "plain_grammar", "MOST_WORDS", "need_few", "shortest_size", "rows_joined", "all_words", "words_up_to", "_law_tape", "_law_draw", "_law_set", "_law_told", "_law_rows_right", "_law_words", "_law_grammar_right"]
noncomputable def de (P:Params) (k:Str) (n:Nat) (v:Value):DictEntry:={ hash:=PyData.keyHash P k,key:=.str k n,val:=v }
noncomputable def stB (i:Nat):Stmt:=progBody.getD i (.Pass default)
noncomputable def stM (i j:Nat):Stmt:=match stB i with | .ClassDef _ _ _ b _ _ _ _ _ _ _=>b.getD j (.Pass default) | s=>s
noncomputable def fnO (s:Stmt) (q:Str) (df:Value) (m:Str) (t:Nat) (c:Addr):Obj:=match s with
 | .FunctionDef n a b _ _ _ sc _ _ _=>{ cls:=.type "function", data:=.func { name:=n,qualname:=q,params:=a,body:=.stmts b,scope:=sc,globals:=3,closure:=[],defaults:=df,kwdefaults:=.none,pyModule:=.str m t,code:=.ref c } }
 | _=>{ cls:=.none,data:=.seq #[] }
noncomputable def coO (n q:Str) (t:Nat) (l k fl:Int) (a:Addr) (x:Int) (b:Addr) (c d:Value) (e:Addr) (y:Int) (u:Nat):Obj:={ cls:=.type "code", data:=.fields #[.str n t,.str q (t + 1),.str "/claim/cut.py" (t + 2),.int l 0,.int k 0,.int 0 0,.int 0 0,.int fl 0,.ref a,.bool true,.int x 0,.ref b,.none,c,d,.ref e,.int y 0,.int l 0,.str "/claim/cut.py" u] }
noncomputable def kk (P:Params):Frag:=[
 (3,{ cls:=.type "dict", data:=.dict #[de P "__name__" 165 (.str "law_qd0058_01" 468),de P "__doc__" 166 (.none),de P "__package__" 167 (.none),de P "__loader__" 168 (.builtin "__main__.__loader__#opaque"),de P "__spec__" 169 (.none),de P "__annotations__" 170 (.ref 6),de P "__builtins__" 171 (.ref 4),de P "__file__" 173 (.str "/claim/cut.py" 172),de P "__cached__" 174 (.none),de P "_wall" 193 (.ref 21),de P "ToolError" 233 (.ref 46),de P "GrammarError" 249 (.ref 59),de P "END" 253 (.int 0 252),de P "ERROR" 255 (.int 1 254),de P "OWN_TERMINALS" 259 (.ref 62),de P "Rule" 304 (.ref 80),de P "Grammar" 412 (.ref 162),de P "last_terminal" 422 (.ref 173),de P "plain_grammar" 428 (.ref 179),de P "MOST_WORDS" 432 (.int 20000 431),de P "need_few" 440 (.ref 186),de P "shortest_size" 446 (.ref 191),de P "rows_joined" 452 (.ref 197),de P "all_words" 458 (.ref 203),de P "words_up_to" 467 (.ref 211),de P "_law_tape" 479 (.ref 218),de P "_law_draw" 488 (.ref 225),de P "_law_set" 494 (.ref 230),de P "_law_told" 501 (.ref 237),de P "_law_rows_right" 507 (.ref 242),de P "_law_words" 513 (.ref 247),de P "_law_grammar_right" 519 (.ref 252),de P "law" 528 (.ref 259)] 33 }),
 (29,{ cls:=.type "tuple", data:=.seq #[.none] }),
 (35,coO "__init__" "ToolError.__init__" 208 7 3 3 30 181 31 (.ref 32) (.ref 33) 34 214 215),
 (36,fnO (stM 2 0) "ToolError.__init__" (.ref 29) "grammarmill.source" 194 35),
 (45,{ cls:=.type "dict", data:=.dict #[de P "__module__" 203 (.str "grammarmill.source" 194),de P "__firstlineno__" 207 (.int 5 206),de P "__init__" 216 (.ref 36),de P "told" 223 (.ref 43),de P "__static_attributes__" 226 (.ref 44),de P "__weakref__" 228 (.ref 47),de P "__doc__" 229 (.none)] 3 }),
 (46,{ cls:=.type "type", data:=.cls { name := "ToolError", bases:=[.type "Exception"],mro:=[.ref 46,.type "Exception", .type "BaseException", .type "object"],ns:=45,qualname := "ToolError", subclasses:=[.ref 59] },slots:=#[some (.ref 22),none,some (.str "ToolError" 196),some (.str "ToolError" 204),some (.builtin "Exception.__new__"),some (.bool true)] }),
 (58,{ cls:=.type "dict", data:=.dict #[de P "__module__" 241 (.str "grammarmill.source" 194),de P "__firstlineno__" 245 (.int 16 244),de P "__static_attributes__" 246 (.ref 57),de P "__doc__" 247 (.none)] 2 }),
 (59,{ cls:=.type "type", data:=.cls { name := "GrammarError", bases:=[.ref 46],mro:=[.ref 59,.ref 46,.type "Exception", .type "BaseException", .type "object"],ns:=58,qualname := "GrammarError" },slots:=#[some (.ref 50),none,some (.str "GrammarError" 234),some (.str "GrammarError" 242),some (.builtin "Exception.__new__"),some (.bool true)] }),
 (62,{ cls:=.type "tuple", data:=.seq #[.str "$end" 256,.str "error" 257,.str "$undefined" 258] }),
 (70,{ cls:=.type "tuple", data:=.seq #[.int (-1) 273,.none,.int 0 274,.int 0 275] }),
 (76,coO "__init__" "Rule.__init__" 276 24 8 3 71 181 72 (.ref 73) (.ref 74) 75 287 288),
 (77,fnO (stM 8 0) "Rule.__init__" (.ref 70) "grammarmill.grammar" 250 76),
 (79,{ cls:=.type "dict", data:=.dict #[de P "__module__" 267 (.str "grammarmill.grammar" 250),de P "__firstlineno__" 271 (.int 22 270),de P "__init__" 289 (.ref 77),de P "__static_attributes__" 297 (.ref 78),de P "__dict__" 299 (.ref 81),de P "__weakref__" 301 (.ref 82),de P "__doc__" 302 (.none)] 4 }),
 (80,{ cls:=.type "type", data:=.cls { name := "Rule", bases:=[.type "object"],mro:=[.ref 80,.type "object"],ns:=79,qualname := "Rule" },slots:=#[none,none,some (.str "Rule" 260),some (.str "Rule" 268),some (.builtin "object.__new__"),some (.bool true)] }),
 (95,coO "__init__" "Grammar.__init__" 317 34 7 3 92 181 93 .none .none 94 320 321),
 (96,fnO (stM 9 0) "Grammar.__init__" (.none) "grammarmill.grammar" 250 95),
 (102,coO "symbol_count" "Grammar.symbol_count" 323 50 1 3 97 181 98 (.ref 99) (.ref 100) 101 327 328),
 (103,fnO (stM 9 1) "Grammar.symbol_count" (.none) "grammarmill.grammar" 250 102),
 (109,coO "is_terminal" "Grammar.is_terminal" 330 53 2 3 104 181 105 (.ref 106) (.ref 107) 108 335 336),
 (110,fnO (stM 9 2) "Grammar.is_terminal" (.none) "grammarmill.grammar" 250 109),
 (123,coO "number" "Grammar.number" 346 59 2 3 118 181 119 (.ref 120) (.ref 121) 122 351 352),
 (124,fnO (stM 9 4) "Grammar.number" (.none) "grammarmill.grammar" 250 123),
 (161,{ cls:=.type "dict", data:=.dict #[de P "__module__" 312 (.str "grammarmill.grammar" 250),de P "__firstlineno__" 316 (.int 32 315),de P "__init__" 322 (.ref 96),de P "symbol_count" 329 (.ref 103),de P "is_terminal" 337 (.ref 110),de P "is_middle" 345 (.ref 117),de P "number" 353 (.ref 124),de P "rules_of" 361 (.ref 131),de P "item" 370 (.ref 138),de P "rule_of" 378 (.ref 145),de P "dot_of" 386 (.ref 152),de P "after" 394 (.ref 159),de P "__static_attributes__" 405 (.ref 160),de P "__dict__" 407 (.ref 163),de P "__weakref__" 409 (.ref 164),de P "__doc__" 410 (.none)] 4 }),
 (162,{ cls:=.type "type", data:=.cls { name := "Grammar", bases:=[.type "object"],mro:=[.ref 162,.type "object"],ns:=161,qualname := "Grammar" },slots:=#[none,none,some (.str "Grammar" 305),some (.str "Grammar" 313),some (.builtin "object.__new__"),some (.bool true)] }),
 (172,coO "last_terminal" "last_terminal" 413 76 2 3 167 181 168 (.ref 169) (.ref 170) 171 420 421),
 (173,fnO (stB 10) "last_terminal" (.none) "grammarmill.grammar" 250 172),
 (174,{ cls:=.type "tuple", data:=.seq #[.none] }),
 (178,coO "plain_grammar" "plain_grammar" 423 82 2 3 175 181 176 .none .none 177 426 427),
 (179,fnO (stB 11) "plain_grammar" (.ref 174) "grammarmill.grammar" 250 178),
 (185,coO "need_few" "need_few" 433 109 2 3 180 181 181 (.ref 182) (.ref 183) 184 438 439),
 (186,fnO (stB 14) "need_few" (.none) "grammarmill.analysis" 429 185),
 (190,coO "shortest_size" "shortest_size" 441 112 1 3 187 181 188 .none .none 189 444 445),
 (191,fnO (stB 15) "shortest_size" (.none) "grammarmill.analysis" 429 190),
 (192,{ cls:=.type "tuple", data:=.seq #[.int 20000 431] }),
 (196,coO "rows_joined" "rows_joined" 447 114 3 3 193 181 194 .none .none 195 450 451),
 (197,fnO (stB 16) "rows_joined" (.ref 192) "grammarmill.analysis" 429 196),
 (198,{ cls:=.type "tuple", data:=.seq #[.int 20000 431] }),
 (202,coO "all_words" "all_words" 453 129 3 3 199 181 200 .none .none 201 456 457),
 (203,fnO (stB 17) "all_words" (.ref 198) "grammarmill.analysis" 429 202),
 (204,{ cls:=.type "tuple", data:=.seq #[.int 20000 431] }),
 (210,coO "words_up_to" "words_up_to" 459 147 3 3 205 181 206 (.ref 207) (.ref 208) 209 465 466),
 (211,fnO (stB 18) "words_up_to" (.ref 204) "grammarmill.analysis" 429 210),
 (217,coO "_law_tape" "_law_tape" 470 150 1 3 212 181 213 (.ref 214) (.ref 215) 216 477 478),
 (218,fnO (stB 20) "_law_tape" (.none) "law_qd0058_01" 468 217),
 (224,coO "_law_draw" "_law_draw" 480 156 2 3 219 181 220 (.ref 221) (.ref 222) 223 486 487),
 (225,fnO (stB 21) "_law_draw" (.none) "law_qd0058_01" 468 224),
 (229,coO "_law_set" "_law_set" 489 163 1 3 226 181 227 .none .none 228 492 493),
 (230,fnO (stB 22) "_law_set" (.none) "law_qd0058_01" 468 229),
 (236,coO "_law_told" "_law_told" 495 168 1 3 231 181 232 (.ref 233) (.ref 234) 235 499 500),
 (237,fnO (stB 23) "_law_told" (.none) "law_qd0058_01" 468 236),
 (241,coO "_law_rows_right" "_law_rows_right" 502 173 1 3 238 181 239 .none .none 240 505 506),
 (242,fnO (stB 24) "_law_rows_right" (.none) "law_qd0058_01" 468 241),
 (246,coO "_law_words" "_law_words" 508 184 3 3 243 181 244 .none .none 245 511 512),
 (247,fnO (stB 25) "_law_words" (.none) "law_qd0058_01" 468 246),
 (251,coO "_law_grammar_right" "_law_grammar_right" 514 198 1 3 248 181 249 .none .none 250 517 518),
 (252,fnO (stB 26) "_law_grammar_right" (.none) "law_qd0058_01" 468 251),
 (258,coO "law" "law" 520 215 1 3 253 181 254 (.ref 255) (.ref 256) 257 526 527),
 (259,fnO (stB 27) "law" (.none) "law_qd0058_01" 468 258)]
noncomputable def asL:List Addr:=[3,29,35,36,45,46,58,59,62,70,76,77,79,80,95,96,102,103,109,110,123,124,161,162,172,173,174,178,179,185,186,190,191,192,196,197,198,202,203,204,210,211,217,218,224,225,229,230,236,237,241,242,246,247,251,252,258,259]
theorem asP:∀ P,asL = (kk P).map (·.1):=fun z0=>by kernel_rfl
theorem left:LeftO pg vw lo (fun s=>xlAt vw [] s && recOk PySem.Challenge.rw_qd0058_01.row.records s) (kmHook kk asL asP [249,239]).obs (kmHook kk asL asP [249,239]).val 3670:=by
 intro w
 kernel_rfl
end Mine.Internal
end
section
namespace Mine.Internal
open PySem PySem.Calls PyProof.Rows PySem.W
noncomputable def clsA:Str->Addr:=fun x=>if x = "Rule" then 80 else if x = "Grammar" then 162 else if x = "GrammarError" then 59 else 0
noncomputable def fnTabA:List (Str × Addr):=[("last_terminal", 173),("plain_grammar", 179),("need_few", 186),("shortest_size", 191),("rows_joined", 197),("all_words", 203),("words_up_to", 211),("_law_tape", 218),("_law_draw", 225),("_law_set", 230),
 ("_law_told", 237),("_law_rows_right", 242),("_law_words", 247),("_law_grammar_right", 252),("Rule.__init__", 77),("Grammar.__init__", 96),("Grammar.symbol_count", 103),("Grammar.is_terminal", 110),("Grammar.number", 124)]
noncomputable def fnA:Str->Addr:=fun x=>(fnTabA.lookup x).getD 0
noncomputable def tqA:Addr->Str:=fun P=>if P = 249 then "_law_grammar_right.<locals>.<lambda>" else "_law_rows_right.<locals>.<lambda>"
noncomputable def qw (g:Heap) (d:jo) (fd:FuncData):Prop:=∀ (s:Shared) (μ:Mu) (vs:List Value) (xs ys:List AV),g.StaysIn s.heap->VRs g μ s.heap vs xs->withDefaults d xs = some ys->∃ ws,VRs g μ s.heap ws ys/\BindsTo s fd ⟨vs,[]⟩ (d.params.zip ws)
noncomputable def oj:Nat->(List Value->Prop)->Prop
 | 0,P=>P []
 | n + 1,P=>∀ a,oj n fun r=>P (a :: r)
noncomputable def qx (n:Nat) (P:List Value->Prop):Nat->Prop
 | 0=>oj n P
 | j + 1=>oj (n - (j + 1)) P/\qx n P j
theorem oj.at {P:List Value->Prop} {vs:List Value}:∀ {n:Nat},oj n P->vs.length = n->P vs:=by
 induction vs generalizing P with
 | nil=>intro n h e; subst e; exact h
 | cons a r ih=>intro n h e; subst e; exact ih (h a) rfl
theorem qx.at {P:List Value->Prop} {n j:Nat} (h:qx n P j) {vs:List Value} (h1:vs.length ≤ n) (h2:n - vs.length ≤ j):P vs:=by
 induction j with
 | zero=>exact oj.at h (Nat.le_antisymm h1 (Nat.le_of_sub_eq_zero (Nat.le_zero.mp h2)))
 | succ j ih =>
  by_cases e:n - vs.length = j + 1
  .exact h.1.at (by rw [<- e,Nat.sub_sub_self h1])
  .exact ih h.2 (Nat.le_of_lt_succ (Nat.lt_of_le_of_ne h2 e))
theorem ou {d:jo} {xs ys:List AV} (hw:withDefaults d xs = some ys):xs.length ≤ d.params.length/\d.params.length - xs.length ≤ d.defaults.length/\ys = xs ++ d.defaults.drop (d.defaults.length - (d.params.length - xs.length)):=by
 unfold withDefaults at hw
 by_cases h1:xs.length ≤ d.params.length
 .rw [if_pos h1] at hw
  by_cases h2:d.params.length - xs.length ≤ d.defaults.length
  .exact ⟨h1,h2,(Option.some.inj ((if_pos h2).symm.trans hw)).symm⟩
  .rw [if_neg h2] at hw; exact nomatch hw
 .rw [if_neg h1] at hw; exact nomatch hw
theorem VRs.drop {g h:Heap} {μ:Mu} {vs:List Value} {xs:List AV} (x:VRs g μ h vs xs) (k:Nat):VRs g μ h (vs.drop k) (xs.drop k):=by
 induction k generalizing vs xs with
 | zero=>exact x
 | succ k ih=>cases x with
  | nil=>exact .nil
  | cons _ r=>exact ih r
theorem binds {g:Heap} {d:jo} {fd:FuncData} {dvs:List Value} (hd:VRs g [] g dvs d.defaults) (hb:∀ (s:Shared),g.StaysIn s.heap->qx d.params.length (fun vs=>BindsTo s fd ⟨vs,[]⟩ (d.params.zip (vs ++ dvs.drop (dvs.length - (d.params.length - vs.length))))) dvs.length):qw g d fd:=by
 intro s μ vs xs ys hk hv hw
 obtain ⟨h1,h2,h3⟩:=ou hw
 rw [h3]
 refine ⟨_,hv.append (VRs.drop (VRs.ofGhost hk hd) _),?_⟩
 rw [<- hv.len] at h1 h2 ⊢
 rw [<- hd.len] at h2 ⊢
 exact (hb s hk).at h1 h2
noncomputable def dO (f:Str):jo:=(fnTab f).getD ⟨[],[],[],(default:FuncData).scope⟩
noncomputable def oO (K:Frag) (a:Addr):Obj:=(K.lookup a).getD default
noncomputable def fO (K:Frag) (a:Addr):FuncData:=match (oO K a).data with | .func fd=>fd | _=>default
structure uh (K:Frag) (fa:Addr) (f:Str):Prop where
 a1:fnTab f = some (dO f)
 a2:K.lookup fa = some (oO K fa)
 a3:(oO K fa).data = .func (fO K fa)
 a4:(fO K fa).scope = (dO f).scope
 a5:(fO K fa).body = .stmts (dO f).body
 a6:(fO K fa).closure = []
 a7:(fO K fa).globals = mainGlobals
 a8:(fO K fa).builtins = builtinsNs
 a9:codeIn K (fO K fa).code (fO K fa).qualname = true
 b1:(dO f).scope.isCoroutine = false
 b2:(dO f).scope.isGenerator = false
 b3:(dO f).scope.kind = .function
 b4:(dO f).scope.names.all (fun p=>p.2 != .free) = true
 b5:(dO f).params.all (fun x=>(dO f).scope.names.lookup x == some .local || (dO f).scope.names.lookup x == some .cell) = true
theorem aS {K:Frag} {g:Heap} {f:Str} {fa:Addr} (n:Nat) (X:K.In g) (h:uh K fa f) (hn:(dO f).params.length = n) {dvs:List Value} {ds:List AV} (hds:(dO f).defaults = ds) (hd:VRs g [] g dvs ds)
  (hb:∀ (s:Shared),g.StaysIn s.heap->qx n (fun vs=>BindsTo s (fO K fa) ⟨vs,[]⟩ ((dO f).params.zip (vs ++ dvs.drop (dvs.length - (n - vs.length))))) dvs.length):bY g fa f:=by
 subst hn hds
 refine ⟨dO f,oO K fa,fO K fa,h.a1,X _ _ h.a2,h.a3,h.a4,h.a5,h.a6,h.a7,h.a8,codeRec_of X h.a9,h.b1,h.b2,h.b3,fun x q=>?_,fun x hx=>?_,binds hd hb⟩
 .have:=List.all_eq_true.mp h.b4 _ (aR q)
  simp at this
 .have:=List.all_eq_true.mp h.b5 x hx
  simpa using this
noncomputable def bk (fd:FuncData) (vs:List Value):{ k:Option (Array Value)->Sem (List (Str × Value)) // bindArgs fd ⟨vs,[]⟩ = seqItems? fd.defaults >>= k }:=⟨_,rfl⟩
noncomputable def tO (K:Frag) (T:Addr):Array Value:=match (oO K T).data with | .seq items _=>items | _=>#[]
theorem bh {K:Frag} {g:Heap} {s:Shared} {fd:FuncData} {vs:List Value} {binds:List (Str × Value)} (T:Addr) (X:K.In g) (hk:g.StaysIn s.heap) (hd:fd.defaults = .ref T) (ho:K.lookup T = some (oO K T)) (hs:(oO K T).data = .seq (tO K T) 0)
  (h2:(bk fd vs).1 (some (tO K T)) = pure binds):BindsTo s fd ⟨vs,[]⟩ binds:=BindsTo.of_defaults hd (hk _ _ (X _ _ ho)) hs (bk fd vs).2 h2
section
variable {w:World} {g:Heap} {loose:List Str} {mean:ExcName->Option Value} {mg mb:Str->Option Value}
theorem eN (X:(kk w.params).In g):bY g 173 "last_terminal" :=
 aS 2 X ⟨by kernel_rfl,by kernel_rfl,by kernel_rfl,by kernel_rfl,by kernel_rfl,by kernel_rfl,by kernel_rfl,by kernel_rfl,by kernel_rfl,by kernel_rfl,by kernel_rfl,by kernel_rfl,by kernel_rfl,by kernel_rfl⟩ (by kernel_rfl) (dvs:=[]) (ds:=[]) (by kernel_rfl) .nil fun s z0 z0 z0=>@BindsTo.of_eq _ _ _ _ (by kernel_rfl)
theorem eM (X:(kk w.params).In g):bY g 179 "plain_grammar" :=
 aS 2 X ⟨by kernel_rfl,by kernel_rfl,by kernel_rfl,by kernel_rfl,by kernel_rfl,by kernel_rfl,by kernel_rfl,by kernel_rfl,by kernel_rfl,by kernel_rfl,by kernel_rfl,by kernel_rfl,by kernel_rfl,by kernel_rfl⟩ (by kernel_rfl) (dvs:=[.none]) (ds:=[.none]) (by kernel_rfl) (.cons .none .nil) fun s hk=>⟨fun z0=>@bh _ _ _ _ _ _ 174 X hk (by kernel_rfl) (by kernel_rfl) (by kernel_rfl) (by kernel_rfl),fun z0 z0=>@bh _ _ _ _ _ _ 174 X hk (by kernel_rfl) (by kernel_rfl) (by kernel_rfl) (by kernel_rfl)⟩
theorem eL (X:(kk w.params).In g):bY g 191 "shortest_size" :=
 aS 1 X ⟨by kernel_rfl,by kernel_rfl,by kernel_rfl,by kernel_rfl,by kernel_rfl,by kernel_rfl,by kernel_rfl,by kernel_rfl,by kernel_rfl,by kernel_rfl,by kernel_rfl,by kernel_rfl,by kernel_rfl,by kernel_rfl⟩ (by kernel_rfl) (dvs:=[]) (ds:=[]) (by kernel_rfl) .nil fun s z0 z0=>@BindsTo.of_eq _ _ _ _ (by kernel_rfl)
theorem gb (X:(kk w.params).In g):bY g 197 "rows_joined" :=
 aS 3 X ⟨by kernel_rfl,by kernel_rfl,by kernel_rfl,by kernel_rfl,by kernel_rfl,by kernel_rfl,by kernel_rfl,by kernel_rfl,by kernel_rfl,by kernel_rfl,by kernel_rfl,by kernel_rfl,by kernel_rfl,by kernel_rfl⟩ (by kernel_rfl) (dvs:=[.int 20000 431]) (ds:=[.int 20000]) (by kernel_rfl) (.cons (.int _ _) .nil) fun s hk=>⟨fun z0 z0=>@bh _ _ _ _ _ _ 192 X hk (by kernel_rfl) (by kernel_rfl) (by kernel_rfl) (by kernel_rfl),fun z0 z0 z0=>@bh _ _ _ _ _ _ 192 X hk (by kernel_rfl) (by kernel_rfl) (by kernel_rfl) (by kernel_rfl)⟩
theorem iS (X:(kk w.params).In g):bY g 203 "all_words" :=
 aS 3 X ⟨by kernel_rfl,by kernel_rfl,by kernel_rfl,by kernel_rfl,by kernel_rfl,by kernel_rfl,by kernel_rfl,by kernel_rfl,by kernel_rfl,by kernel_rfl,by kernel_rfl,by kernel_rfl,by kernel_rfl,by kernel_rfl⟩ (by kernel_rfl) (dvs:=[.int 20000 431]) (ds:=[.int 20000]) (by kernel_rfl) (.cons (.int _ _) .nil) fun s hk=>⟨fun z0 z0=>@bh _ _ _ _ _ _ 198 X hk (by kernel_rfl) (by kernel_rfl) (by kernel_rfl) (by kernel_rfl),fun z0 z0 z0=>@bh _ _ _ _ _ _ 198 X hk (by kernel_rfl) (by kernel_rfl) (by kernel_rfl) (by kernel_rfl)⟩
theorem ga (X:(kk w.params).In g):bY g 211 "words_up_to" :=
 aS 3 X ⟨by kernel_rfl,by kernel_rfl,by kernel_rfl,by kernel_rfl,by kernel_rfl,by kernel_rfl,by kernel_rfl,by kernel_rfl,by kernel_rfl,by kernel_rfl,by kernel_rfl,by kernel_rfl,by kernel_rfl,by kernel_rfl⟩ (by kernel_rfl) (dvs:=[.int 20000 431]) (ds:=[.int 20000]) (by kernel_rfl) (.cons (.int _ _) .nil) fun s hk=>⟨fun z0 z0=>@bh _ _ _ _ _ _ 204 X hk (by kernel_rfl) (by kernel_rfl) (by kernel_rfl) (by kernel_rfl),fun z0 z0 z0=>@bh _ _ _ _ _ _ 204 X hk (by kernel_rfl) (by kernel_rfl) (by kernel_rfl) (by kernel_rfl)⟩
theorem iT (X:(kk w.params).In g):bY g 218 "_law_tape" :=
 aS 1 X ⟨by kernel_rfl,by kernel_rfl,by kernel_rfl,by kernel_rfl,by kernel_rfl,by kernel_rfl,by kernel_rfl,by kernel_rfl,by kernel_rfl,by kernel_rfl,by kernel_rfl,by kernel_rfl,by kernel_rfl,by kernel_rfl⟩ (by kernel_rfl) (dvs:=[]) (ds:=[]) (by kernel_rfl) .nil fun s z0 z0=>@BindsTo.of_eq _ _ _ _ (by kernel_rfl)
theorem iU (X:(kk w.params).In g):bY g 225 "_law_draw" :=
 aS 2 X ⟨by kernel_rfl,by kernel_rfl,by kernel_rfl,by kernel_rfl,by kernel_rfl,by kernel_rfl,by kernel_rfl,by kernel_rfl,by kernel_rfl,by kernel_rfl,by kernel_rfl,by kernel_rfl,by kernel_rfl,by kernel_rfl⟩ (by kernel_rfl) (dvs:=[]) (ds:=[]) (by kernel_rfl) .nil fun s z0 z0 z0=>@BindsTo.of_eq _ _ _ _ (by kernel_rfl)
theorem jY (X:(kk w.params).In g):bY g 230 "_law_set" :=
 aS 1 X ⟨by kernel_rfl,by kernel_rfl,by kernel_rfl,by kernel_rfl,by kernel_rfl,by kernel_rfl,by kernel_rfl,by kernel_rfl,by kernel_rfl,by kernel_rfl,by kernel_rfl,by kernel_rfl,by kernel_rfl,by kernel_rfl⟩ (by kernel_rfl) (dvs:=[]) (ds:=[]) (by kernel_rfl) .nil fun s z0 z0=>@BindsTo.of_eq _ _ _ _ (by kernel_rfl)
theorem dM (X:(kk w.params).In g):bY g 242 "_law_rows_right" :=
 aS 1 X ⟨by kernel_rfl,by kernel_rfl,by kernel_rfl,by kernel_rfl,by kernel_rfl,by kernel_rfl,by kernel_rfl,by kernel_rfl,by kernel_rfl,by kernel_rfl,by kernel_rfl,by kernel_rfl,by kernel_rfl,by kernel_rfl⟩ (by kernel_rfl) (dvs:=[]) (ds:=[]) (by kernel_rfl) .nil fun s z0 z0=>@BindsTo.of_eq _ _ _ _ (by kernel_rfl)
theorem gU (X:(kk w.params).In g):bY g 247 "_law_words" :=
 aS 3 X ⟨by kernel_rfl,by kernel_rfl,by kernel_rfl,by kernel_rfl,by kernel_rfl,by kernel_rfl,by kernel_rfl,by kernel_rfl,by kernel_rfl,by kernel_rfl,by kernel_rfl,by kernel_rfl,by kernel_rfl,by kernel_rfl⟩ (by kernel_rfl) (dvs:=[]) (ds:=[]) (by kernel_rfl) .nil fun s z0 z0 z0 z0=>@BindsTo.of_eq _ _ _ _ (by kernel_rfl)
theorem cM (X:(kk w.params).In g):bY g 252 "_law_grammar_right" :=
 aS 1 X ⟨by kernel_rfl,by kernel_rfl,by kernel_rfl,by kernel_rfl,by kernel_rfl,by kernel_rfl,by kernel_rfl,by kernel_rfl,by kernel_rfl,by kernel_rfl,by kernel_rfl,by kernel_rfl,by kernel_rfl,by kernel_rfl⟩ (by kernel_rfl) (dvs:=[]) (ds:=[]) (by kernel_rfl) .nil fun s z0 z0=>@BindsTo.of_eq _ _ _ _ (by kernel_rfl)
theorem eO (X:(kk w.params).In g):bY g 77 "Rule.__init__" :=
 aS 8 X ⟨by kernel_rfl,by kernel_rfl,by kernel_rfl,by kernel_rfl,by kernel_rfl,by kernel_rfl,by kernel_rfl,by kernel_rfl,by kernel_rfl,by kernel_rfl,by kernel_rfl,by kernel_rfl,by kernel_rfl,by kernel_rfl⟩ (by kernel_rfl) (dvs:=[.int (-1) 273,.none,.int 0 274,.int 0 275]) (ds:=[.int (-1),.none,.int 0,.int 0]) (by kernel_rfl) (.cons (.int _ _) (.cons .none (.cons (.int _ _) (.cons (.int _ _) .nil)))) fun s hk=>⟨fun z0 z0 z0 z0=>@bh _ _ _ _ _ _ 70 X hk (by kernel_rfl) (by kernel_rfl) (by kernel_rfl) (by kernel_rfl),fun z0 z0 z0 z0 z0=>@bh _ _ _ _ _ _ 70 X hk (by kernel_rfl) (by kernel_rfl) (by kernel_rfl) (by kernel_rfl),fun z0 z0 z0 z0 z0 z0=>@bh _ _ _ _ _ _ 70 X hk (by kernel_rfl) (by kernel_rfl) (by kernel_rfl) (by kernel_rfl),fun z0 z0 z0 z0 z0 z0 z0=>@bh _ _ _ _ _ _ 70 X hk (by kernel_rfl) (by kernel_rfl) (by kernel_rfl) (by kernel_rfl),fun z0 z0 z0 z0 z0 z0 z0 z0=>@bh _ _ _ _ _ _ 70 X hk (by kernel_rfl) (by kernel_rfl) (by kernel_rfl) (by kernel_rfl)⟩
theorem du (X:(kk w.params).In g):bY g 96 "Grammar.__init__" :=
 aS 7 X ⟨by kernel_rfl,by kernel_rfl,by kernel_rfl,by kernel_rfl,by kernel_rfl,by kernel_rfl,by kernel_rfl,by kernel_rfl,by kernel_rfl,by kernel_rfl,by kernel_rfl,by kernel_rfl,by kernel_rfl,by kernel_rfl⟩ (by kernel_rfl) (dvs:=[]) (ds:=[]) (by kernel_rfl) .nil fun s z0 z0 z0 z0 z0 z0 z0 z0=>@BindsTo.of_eq _ _ _ _ (by kernel_rfl)
theorem cj (X:(kk w.params).In g):bY g 103 "Grammar.symbol_count" :=
 aS 1 X ⟨by kernel_rfl,by kernel_rfl,by kernel_rfl,by kernel_rfl,by kernel_rfl,by kernel_rfl,by kernel_rfl,by kernel_rfl,by kernel_rfl,by kernel_rfl,by kernel_rfl,by kernel_rfl,by kernel_rfl,by kernel_rfl⟩ (by kernel_rfl) (dvs:=[]) (ds:=[]) (by kernel_rfl) .nil fun s z0 z0=>@BindsTo.of_eq _ _ _ _ (by kernel_rfl)
theorem cA (X:(kk w.params).In g):bY g 110 "Grammar.is_terminal" :=
 aS 2 X ⟨by kernel_rfl,by kernel_rfl,by kernel_rfl,by kernel_rfl,by kernel_rfl,by kernel_rfl,by kernel_rfl,by kernel_rfl,by kernel_rfl,by kernel_rfl,by kernel_rfl,by kernel_rfl,by kernel_rfl,by kernel_rfl⟩ (by kernel_rfl) (dvs:=[]) (ds:=[]) (by kernel_rfl) .nil fun s z0 z0 z0=>@BindsTo.of_eq _ _ _ _ (by kernel_rfl)
theorem eg (X:(kk w.params).In g):bY g 124 "Grammar.number" :=
 aS 2 X ⟨by kernel_rfl,by kernel_rfl,by kernel_rfl,by kernel_rfl,by kernel_rfl,by kernel_rfl,by kernel_rfl,by kernel_rfl,by kernel_rfl,by kernel_rfl,by kernel_rfl,by kernel_rfl,by kernel_rfl,by kernel_rfl⟩ (by kernel_rfl) (dvs:=[]) (ds:=[]) (by kernel_rfl) .nil fun s z0 z0 z0=>@BindsTo.of_eq _ _ _ _ (by kernel_rfl)
end
set_option tactic.hygienic true in
theorem mu {K:Frag} {h:Heap} {mg:Str->Option Value} {n:Str} (X:K.In h) (G:h.Ns mainGlobals mg) (e:nsIn K mainGlobals n = some none):mg n = none:=by
 obtain ⟨o,es,ep,ho,hd,hk,hf⟩:=G
 unfold nsIn at e
 split at e
 .rename_i c d es' n' sl q
  have:=X _ _ q
  rw [ho] at this; injection this with this; subst this
  injection hd with hd1 hd2
  subst hd1
  split at e
  .cases e
  .rename_i hnf
   rw [<- hf]
   unfold nsFind findBy
   rw [<- Array.find?_toList,hnf]
   rfl
 .cases e
section
variable {w:World} {g:Heap} {loose:List Str} {mean:ExcName->Option Value} {mg mb:Str->Option Value}
theorem sB (X:(kk w.params).In g):qq g 186 :=
 ⟨_,_,_,_,_,_,_,_,_,_,_,X 186 _ (by rfl),rfl,rfl,rfl,rfl,rfl,codeRec_of X (by rfl),rfl,rfl,rfl,rfl,rfl,rfl,by decide,fun z0 z0 z0=>BindsTo.of_eq rfl⟩
theorem ra (X:(kk w.params).In g):mc g 237 :=
 ⟨_,_,_,_,_,_,_,_,_,_,_,X 237 _ (by rfl),rfl,rfl,rfl,rfl,rfl,codeRec_of X (by rfl),rfl,rfl,rfl,rfl,rfl,by decide,fun z0 z0=>BindsTo.of_eq rfl⟩
theorem rc (X:(kk w.params).In g):jn g 36 :=
 ⟨_,_,_,_,_,_,_,_,_,_,_,_,_,_,_,_,X 36 _ (by rfl),rfl,rfl,rfl,rfl,rfl,rfl,codeRec_of X (by rfl),rfl,rfl,rfl,rfl,rfl,rfl,rfl,by decide,fun z0 z0 z0 hk=>BindsTo.of_defaults rfl (hk _ _ (X 29 _ (by rfl))) rfl rfl rfl⟩
theorem sC (X:(kk w.params).In g) (T:Top topProg loose mean mg mb g):qt (kk w.params) mg mb g 59 :=
 ⟨⟨_,_,_,_,_,_,_,_,_,_,_,_,_,_,_,_,X 59 _ (by rfl)⟩,by rfl,by rfl,by rfl,by rfl,⟨36,by rfl,by rfl,rc X⟩,mu X T.g (by rfl),(T.builtins _ (by decide)).trans (by rfl)⟩
theorem sA (X:(kk w.params).In g):∀ f,fnAll.contains f = true->bY g (fnA f) f:=by
 intro f hf
 have hm:=List.contains_iff_mem.mp hf
 have:∀ (l:List Str),(∀ f ∈ l,bY g (fnA f) f)->f ∈ l->bY g (fnA f) f:=fun l h hm=>h f hm
 refine this fnAll ?_ hm
 unfold fnAll fnNames
 simp only [List.cons_append,List.nil_append,List.forall_mem_cons]
 refine ⟨eN X,eM X,eL X,gb X,iS X,ga X,iT X,iU X,jY X,dM X,gU X,cM X,eO X,du X,cj X,cA X,eg X,fun z0 q=>nomatch q⟩
theorem nH (X:(kk w.params).In g) (T:Top topProg loose mean mg mb g):qv (kk w.params) mg mb clsA fnA:=by
 refine ⟨fun f hf=>?_,fun f hf=>?_,fun f hf=>?_,mg_of X T.g (by rfl),mg_of X T.g (by rfl),fun m hm=>?_⟩
 .have:∀ f ∈ fnNames,mg f = some (.ref (fnA f)):=by
   unfold fnNames
   simp only [List.forall_mem_cons]
   refine ⟨?_,?_,?_,?_,?_,?_,?_,?_,?_,?_,?_,?_,fun z0 q=>nomatch q⟩ <;> exact mg_of X T.g (by rfl)
  exact this f (List.contains_iff_mem.mp hf)
 .have:∀ f ∈ clsNames,mg f = some (.ref (clsA f))/\makesIn (kk w.params) (clsA f) = true/\findIn (kk w.params) (.ref (clsA f)) "__init__" = some (some (.ref (fnA (f ++ ".__init__"))))/\typeIn (kk w.params) (.ref (fnA (f ++ ".__init__"))) = some (.type "function"):=by
   unfold clsNames
   simp only [List.forall_mem_cons]
   refine ⟨⟨mg_of X T.g (by rfl),by rfl,by rfl,by rfl⟩,⟨mg_of X T.g (by rfl),by rfl,by rfl,by rfl⟩,fun z0 q=>nomatch q⟩
  exact this f (List.contains_iff_mem.mp hf)
 .have:∀ f ∈ bltNames,mg f = none/\mb f = some (bval f):=by
   unfold bltNames
   simp only [List.forall_mem_cons]
   refine ⟨?_,?_,?_,?_,?_,?_,?_,?_,?_,?_,?_,fun z0 q=>nomatch q⟩ <;> exact ⟨mu X T.g (by rfl),(T.builtins _ (by decide)).trans (by rfl)⟩
  exact this f (List.contains_iff_mem.mp hf)
 .have:∀ m ∈ grammarMs,plainGet (kk w.params) (clsA "Grammar") m = true/\findIn (kk w.params) (.ref (clsA "Grammar")) m = some (some (.ref (fnA ("Grammar." ++ m))))/\isFn (kk w.params) (.ref (fnA ("Grammar." ++ m))) = true:=by
   unfold grammarMs
   simp only [List.forall_mem_cons]
   refine ⟨⟨by rfl,by rfl,by rfl⟩,⟨by rfl,by rfl,by rfl⟩,⟨by rfl,by rfl,by rfl⟩,fun z0 q=>nomatch q⟩
  exact this m (List.contains_iff_mem.mp hm)
theorem sD:∀ c x,(attrsOf c).contains x = true->dk (kk w.params) (clsA c) x:=by
 intro c x hx
 have hm:=List.contains_iff_mem.mp hx
 unfold attrsOf at hm
 by_cases h1:c = "Rule"
 .subst h1
  rw [if_pos rfl] at hm
  have:∀ x ∈ (["number", "left", "right", "level_of", "action", "line", "before"]:List Str),dk (kk w.params) 80 x:=by
   simp only [List.forall_mem_cons]
   refine ⟨?_,?_,?_,?_,?_,?_,?_,fun z0 q=>nomatch q⟩ <;> exact ⟨by rfl,by rfl,⟨_,by rfl,by rfl⟩,by rfl,by rfl,by rfl⟩
  exact this x hm
 .rw [if_neg h1] at hm
  by_cases h2:c = "Grammar"
  .subst h2
   rw [if_pos rfl] at hm
   have:∀ x ∈ (["names", "terminal_count", "rules", "levels", "expect", "start", "by_left", "offsets", "owners", "item_count"]:List Str),dk (kk w.params) 162 x:=by
    simp only [List.forall_mem_cons]
    refine ⟨?_,?_,?_,?_,?_,?_,?_,?_,?_,?_,fun z0 q=>nomatch q⟩ <;> exact ⟨by rfl,by rfl,⟨_,by rfl,by rfl⟩,by rfl,by rfl,by rfl⟩
   exact this x hm
  .rw [if_neg h2] at hm; exact nomatch hm
theorem sz (X:(kk w.params).In g) (T:Top topProg loose mean mg mb g) (M:∃ mm,g.Ns sysModules mm):Glo g mg mb:=by
 refine ⟨T.g,T.b,fun q=>?_,fun x a e=>?_,T.bmain⟩
 .obtain ⟨mm,o,es,ep,e,_⟩:=M
  rw [q] at e; cases e
 .unfold consts at e
  rw [List.lookup_cons] at e
  by_cases h1:x = "END"
  .subst h1; simp only [beq_self_eq_true] at e; injection e with e; subst e
   exact ⟨_,mg_of X T.g (by rfl),.int _ _⟩
  rw [beq_eq_false_iff_ne.mpr h1] at e
  rw [List.lookup_cons] at e
  by_cases h2:x = "ERROR"
  .subst h2; simp only [beq_self_eq_true] at e; injection e with e; subst e
   exact ⟨_,mg_of X T.g (by rfl),.int _ _⟩
  rw [beq_eq_false_iff_ne.mpr h2] at e
  rw [List.lookup_cons] at e
  by_cases h3:x = "OWN_TERMINALS"
  .subst h3; simp only [beq_self_eq_true] at e; injection e with e; subst e
   exact ⟨_,mg_of X T.g (by rfl),.tup (X 62 _ (by rfl)) (.cons (.str _ _) (.cons (.str _ _) (.cons (.str _ _) .nil)))⟩
  rw [beq_eq_false_iff_ne.mpr h3] at e
  rw [List.lookup_cons] at e
  by_cases h4:x = "MOST_WORDS"
  .subst h4; simp only [beq_self_eq_true] at e; injection e with e; subst e
   exact ⟨_,mg_of X T.g (by rfl),.int _ _⟩
  rw [beq_eq_false_iff_ne.mpr h4] at e
  exact nomatch e
theorem pC (X:(kk w.params).In g) (c1:CodeHd g 251 249) (c2:CodeHd g 241 239):∀ f o fd,tabFn f = true->g.get? (fnA f) = some o->o.data = .func fd->∃ cc P,fd.code = .ref cc/\CodeHd g cc P/\P ∈ [249,239]/\tqA P = (fd.qualname ++ ".<locals>.") ++ "<lambda>" := by
 intro f o fd hf ho hd
 unfold tabFn at hf
 rw [Bool.or_eq_true,decide_eq_true_eq,decide_eq_true_eq] at hf
 rcases hf with rfl | rfl
 .have:=X 242 _ (by rfl)
  rw [show fnA "_law_rows_right" = 242 from rfl,this] at ho
  injection ho with ho; subst ho
  injection hd with hd; subst hd
  exact ⟨241,239,rfl,c2,by simp,by rfl⟩
 .have:=X 252 _ (by rfl)
  rw [show fnA "_law_grammar_right" = 252 from rfl,this] at ho
  injection ho with ho; subst ho
  injection hd with hd; subst hd
  exact ⟨251,249,rfl,c1,by simp,by rfl⟩
theorem sE (X:(kk w.params).In g) (T:Top topProg loose mean mg mb g) (M:∃ mm,g.Ns sysModules mm) (c1:CodeHd g 251 249) (c2:CodeHd g 241 239) {prog:Program} {fs:List Env} {os:OsState} {h0:Heap} :
  Ok { w:=w,prog:=prog,ghost:=g,base:=g,fz:=0,fs:=fs,tb:=[249,239],cls:=clsA,K:=kk w.params,os:=os,mg:=mg,mb:=mb,h0:=h0,h0fl:=[],fn:=fnA,tq:=tqA } :=
 ⟨sB X,ra X,mg_of X T.g (by rfl),sC X T,pC X c1 c2,nH X T,sA X,T.nolimit,sz X T M,X,sD,fun z0 q=>nomatch q⟩
end
theorem pP (hS:bo) (hF:eC) {C:Cf} {A:Around} {env:Env} (hfs:C.fs = [env]) (O:Ok C) {W n:Nat} (hR:Rm C A n) {s:Shared} (H:HR C [] [] s) {c:Ctx} (V:ax C c env [] s.heap) {body:List Stmt} {σ':ac} {a:AV} (e:evSs (mach W n) body c [] = .ok (.ret a) σ')
  {Q:Flow->Shared->Prop} {E:Value->Shared->Prop} (hQ:∀ μ' v s',HR C μ' σ' s'->VR C.ghost μ' s'.heap v a->Q (.ret v) s'):wpAny (model C.prog C.w) A (execs body env) Q E s:=by
 have h:=bS (ku hS hF W n) O hR ⟨[],hfs⟩ body [] [] s c H V
 unfold af at h
 rw [e] at h
 refine h _ _ fun μ' f s' x H' r=>?_
 cases f <;> first | exact r.elim | exact hQ μ' _ s' H' r
set_option tactic.hygienic true in
theorem rI {xs:List Int} (h:(PyData.list (xs.map PyData.int)).layable0 = true):∀ x ∈ xs,x.natAbs.log2 ≤ 1048576:=fun x hx=>by
 have hw:=PyData.weight_item_of_list h (List.mem_map.mpr ⟨x,hx,rfl⟩)
 rw [PyData.weight] at hw
 have e:(2:Nat) ^ 20 = 1048576:=by decide
 rw [e] at hw
 split at hw
 .rename_i q
  have:x = 0:=by simpa using q
  subst this
  decide
 .omega
noncomputable def mC:Prop:=∀ xs:List Int,xs.length ≤ 63->(∀ x ∈ xs,x.natAbs.log2 ≤ 1048576)->∃ W n σ',n ≤ 150/\(mach W n).F "law" 0 [.frz xs] [] = .ok (.bool true) σ'
theorem join_law (hS:bo) (hF:eC) (hL:mC) {prog:Program} {w:World} {g h:Heap} {L l fa:Addr} {cd:Value} {m:Str->Option Value} {loose:List Str} {mean:ExcName->Option Value} {mg mb:Str->Option Value} {nm:Str} {body:List Stmt} {scope:Scope} {vs:List Value} {xs:List Int}
  {dr:Drawn} {tk:Nat} {os:OsState} {gens:Array GenState} (X:(kk w.params).In g) (T:Top topProg loose mean mg mb g) (M:∃ mm,g.Ns sysModules mm) (c1:CodeHd g 251 249) (c2:CodeHd g 241 239) (F:Fr g L h m) (N:News g L h [(249,tabObj #[]),(239,tabObj #[])])
  (hl:g.IsList l vs.toArray) (hI:IntsAre vs xs) (hx:xs.length ≤ 63) (hbits:∀ x ∈ xs,x.natAbs.log2 ≤ 1048576) (hm:m "script" = some (.ref l)) (hg:gens = #[]) (hdf:fnTab "law" = some { params:=["script"],defaults:=[],body:=body,scope:=scope }) (hk:scope.kind = .function) (hs:scope.names.lookup ("script" : Str) = some .local)
  (hn:scope.names.all (fun p=>p.2 != .cell && p.2 != .free) = true) {Q:Flow->Shared->Prop} {E:Value->Shared->Prop}
  (hQ:∀ s',(∀ b o,g.get? b = some o->s'.heap.get? b = some o)->s'.gens = #[]->s'.os = os->(∃ ps,s'.heap.get? 249 = some (tabObj ps))->(∃ ps,s'.heap.get? 239 = some (tabObj ps))->Q (.ret (.bool true)) s') :
  wpAny (model prog w) (callerA.deeper (envOf nm scope L fa cd)) (execs body (envOf nm scope L fa cd)) Q E { heap:=h,gens:=gens,drawn:=dr,toks:=tk,os:=os }:=by
 obtain ⟨W,n,σ',hn',he⟩:=hL xs hx hbits
 induction n using Nat.casesAuxOn with
 | zero=>exact nomatch (show (Out.stuck:Out AV) = .ok (.bool true) σ' from he)
 | succ k =>
  have he':callDef (mach W k) "law" 0 [.frz xs] [] = .ok (.bool true) σ':=he
  unfold callDef at he'
  rw [hdf] at he'
  have hw:withDefaults { params:=["script"],defaults:=[],body:=body,scope:=scope } [.frz xs] = some [.frz xs]:=rfl
  dsimp only at he'
  rw [hw] at he'
  dsimp only at he'
  rw [ai] at he'
  have hnl:∀ x k,scope.names.lookup x = some k->k ≠ .cell/\k ≠ .free:=fun x k q=>by
   have:=List.all_eq_true.mp hn _ (aR q)
   simpa using this
  have hb:bindAll scope 0 ((["script"]:List Str).zip [AV.frz xs]) { sc:=scope,loc:=fun z0=>Option.none,cel:=fun z0=>Option.none,fz:=0,tab:=tabFn "law" } = { sc:=scope,loc:=upd (fun z0=>Option.none) "script" (.frz xs),cel:=fun z0=>Option.none,fz:=0,tab:=tabFn "law" }:=by
   show bindAll scope 0 [("script", AV.frz xs)] _ = _
   unfold bindAll
   rw [if_neg (by rw [hs]; decide)]
   rfl
  rw [hb] at he'
  have htab:tabFn "law" = false:=by decide
  rw [htab] at he'
  have hLn:g.get? L = none:=Heap.get?_none_of_le F.above
  have key:∀ (fl:Fl) σ'',evSs (mach W k) body { sc:=scope,loc:=upd (fun z0=>Option.none) "script" (.frz xs),cel:=fun z0=>Option.none,fz:=0,tab:=false } [] = .ok fl σ''->fl = .ret (.bool true)/\σ'' = σ':=by
   intro fl σ'' q
   rw [q] at he'
   cases fl with
   | next c=>exact nomatch (show (Out.ok AV.none σ'':Out AV) = .ok (.bool true) σ' from he')
   | ret v =>
    have:(Out.ok v σ'':Out AV) = .ok (.bool true) σ':=he'
    injection this with e1 e2
    subst e1 e2; exact ⟨rfl,rfl⟩
  induction hev:evSs (mach W k) body { sc:=scope,loc:=upd (fun z0=>Option.none) "script" (.frz xs),cel:=fun z0=>Option.none,fz:=0,tab:=false } [] using Out.casesOn with
  | stuck=>rw [hev] at he'; exact nomatch he'
  | exc=>rw [hev] at he'; exact nomatch he'
  | ok fl σ'' =>
   obtain ⟨rfl,rfl⟩:=key fl σ'' hev
   have n249:=N (249,tabObj #[]) (.head _)
   have n239:=N (239,tabObj #[]) (.tail _ (.head _))
   refine pP hS hF (C:={ w:=w,prog:=prog,ghost:=g,base:=g,fz:=0,fs:=[envOf nm scope L fa cd],tb:=[249,239],cls:=clsA,K:=kk w.params,os:=os,mg:=mg,mb:=mb,h0:=g,h0fl:=[],fn:=fnA,tq:=tqA }) rfl (sE X T M c1 c2) (W:=W) (n:=k)
    ⟨rfl,rfl,?_,?_⟩ (c:={ sc:=scope,loc:=upd (fun z0=>Option.none) "script" (.frz xs),cel:=fun z0=>Option.none,fz:=0,tab:=false }) ?_ ?_ hev fun μ' v s' H' r'=>?_
   .show 1 + claimMargin + 1 + 4 * k + 10 < recursionLimit
    have:claimMargin = 300:=by decide +kernel
    have:recursionLimit = 1000:=rfl
    omega
   .show 4 + 3 + 60 * k + 60 < cLine
    have:cLine = 9900:=rfl
    omega
   .refine ⟨hg,rfl,F.keep,fun z0 z0 e=>e,rfl,fun i p o e=>by simp at e,fun i j p q e=>by simp at e,fun i p e=>by simp at e,fun i p e=>by simp at e,fun env he=>?_,fun i p e=>by simp at e,fun P hP=>?_,fun z0 P hP=>?_,(fun z0 q=>nomatch q),fun z0 q=>nomatch q⟩
    .rw [List.mem_singleton.mp he]
     exact ⟨hk,L,m,rfl,F.ns,hLn⟩
    .rcases List.mem_cons.mp hP with rfl | hP
     .exact ⟨#[],n249.1,trivial,fun pos cv e=>nomatch e⟩
     .rw [List.mem_singleton.mp hP]
      exact ⟨#[],n239.1,trivial,fun pos cv e=>nomatch e⟩
    .rcases List.mem_cons.mp hP with rfl | hP
     .exact n249.2.2
     .rw [List.mem_singleton.mp hP]; exact n239.2.2
   .refine ⟨hk,rfl,rfl,fun x q=>q,fun x q=>q,fun x q=>.inl q,fun x q=>q,⟨m,F.ns,fun x a e=>?_⟩,⟨fun i p e=>by simp at e,hLn,fun q=>?_,fun q=>nomatch q⟩,fun x q=>?_,(fun x y ad e=>nomatch e),(fun x ad e=>nomatch e),⟨_,[],L,rfl,rfl,rfl⟩,rfl,fun q=>nomatch q⟩
    .simp only [upd] at e
     by_cases hxs:x = "script"
     .rw [if_pos hxs] at e; injection e with e; subst e hxs
      exact ⟨.ref l,hm,.frz hl hI⟩
     .rw [if_neg hxs] at e; exact nomatch e
    .rcases List.mem_cons.mp q with q | q
     .exact n249.2.1 q.symm
     .exact n239.2.1 (List.mem_singleton.mp q).symm
    .rcases q with q | q
     .exact absurd rfl (hnl x _ q).1
     .exact absurd rfl (hnl x _ q).2
   .obtain rfl:=r'.inv_bool
    obtain ⟨ps1,t1,_⟩:=H'.tabs 249 (.head _)
    obtain ⟨ps2,t2,_⟩:=H'.tabs 239 (.tail _ (.head _))
    exact hQ s' H'.stay H'.gens H'.os ⟨ps1,t1⟩ ⟨ps2,t2⟩
theorem final (hS:bo) (hF:eC) (hL:mC):PySem.Challenge.rw_qd0058_01.Holds:=by
 refine holds_law (by decide +kernel) fun said=>?_
 refine holds_open (q:=vw) (loose:=lo) (Xt:=fun s=>xlAt vw [] s && recOk PySem.Challenge.rw_qd0058_01.row.records s) (XP:=XL vw []) (Yf:=(kmHook kk asL asP [249,239]).obs) (Ya:=(kmHook kk asL asP [249,239]).val) (YP:=(kmHook kk asL asP [249,239]).says) (N:=3670) left (kmHook kk asL asP [249,239]).of (kmHook kk asL asP [249,239]).keeps (fun s e=>xl_of s (Bool.and_eq_true_iff.mp e).1) XL.keeps (by rfl) (by rfl) (by rfl) (fun s e=>recFacts_of (Bool.and_eq_true_iff.mp e).2) (by rfl) said (by decide +kernel) ⟨rfl,rfl,rfl,rfl,rfl,by decide +kernel⟩ ⟨[WData.list []],by decide +kernel,by decide +kernel⟩ ?hc
 intro w s₀ s₁ mg mb G Y fa o pm cd doc dV kV ho hd hcd hD hmg hg args vals as hpre hlay hrd hwl hlo
 have KX:=km_in_of Y
 have hT8:=km_tabs_of Y
 have X:=(Ground.X G).1
 have V:=(Ground.X G).2
 refine Ground.open G ?_
 intro T B D TE TW
 try (refine guard_noD D (by decide +kernel) ?_; clear D)
 have hT9:TabsAt ([(251,249),(241,239)]:List (Addr × Addr)) _:=List.forall_mem_cons.mpr ⟨⟨codeHd_of_K (c:=251) (P:=249) KX (by kernel_rfl),hT8 249 (by k_mem)⟩,List.forall_mem_cons.mpr ⟨⟨codeHd_of_K (c:=241) (P:=239) KX (by kernel_rfl),hT8 239 (by k_mem)⟩,fun z0 h=>nomatch h⟩⟩
 clear hmg
 wrow_args hpre hlay hrd hwl hlo
 first | refine callC_kw (enter_call ?_) | refine enter_call ?_
 w_top on
 kn_posts
 w_call any ho hd hcd hD T F
 clear hd
 kn_ghosts F T
 k_drop
 (rename (kk _).In _=>X1)
 (rename Top topProg _ _ _ _ _=>T1)
 (rename Top vw _ _ _ _ _=>T0)
 (rename Fr _ _ _ _=>F1)
 (rename News _ _ _ _=>N1)
 (rename IntsAre _ _=>I1)
 (rename _ = (#[]:Array GenState)=>hg1)
 (rename ¬ _ < _=>hlen1)
 refine Mine.Internal.join_law hS hF hL X1 T1 ?M ?c1 ?c2 F1 N1 lifted I1 ?len ?bits rfl hg1 ?fd ?hk ?hs ?hn (fun s' h1 h2 h3 h4 h5=>?post)
 case M=>obtain ⟨mm,q,_⟩:=(T0.seer (by rfl)).mods; exact ⟨mm,ghost_ns hT9 q⟩
 case c1=>first | exact codeHd | assumption
 case c2=>exact codeHd
 case bits=>exact rI (by assumption)
 case len=>omega
 case fd=>rfl
 case hk=>rfl
 case hs=>rfl
 case hn=>rfl
 case post=>exact ⟨⟨.inl ⟨_,_,_,rfl,fun z0=>rfl,.bool true,postW_of (X:=true) (by rfl) (show WTm.value [] (WTm.eq .res (.lit (.bool true))) _ = some (.bool (true == true)) from w_eq_bool (w_res rfl) w_lit) rfl,fun z0=>⟨List.nodup_nil,fun z0 q=>nomatch q⟩⟩,h1,h3,h2⟩,h4,h5,trivial⟩
end Mine.Internal
end
section
set_option backward.match.sparseCases false
namespace Mine.Internal
open PySem (Str Expr Stmt Const Operator CmpOp BoolOp UnaryOp Scope NameKind Comprehension Arguments Pos)
@[irreducible] noncomputable def bltV (f:Str) (vs:List AV):MM AV:=builtin f vs
noncomputable def W:Nat:=10001
noncomputable def wp {α:Type} (m:MM α) (σ:ac) (Q:α->ac->Prop) (X:Prop):Prop :=
 match m σ with
 | .ok a σ'=>Q a σ'
 | .exc=>X
 | .stuck=>False
section
variable {α β:Type} {m:MM α} {σ:ac} {Q Q':α->ac->Prop} {X X':Prop}
theorem au {a:α} (h:Q a σ):wp (MM.pure a) σ Q X:=h
theorem ag {f:α->MM β} {Q:β->ac->Prop} (h:wp m σ (fun a σ'=>wp (f a) σ' Q X) X):wp (m >>= f) σ Q X:=by
 unfold wp at h ⊢
 show match (MM.bind m f) σ with | .ok a σ'=>Q a σ' | .exc=>X | .stuck=>False
 unfold MM.bind
 induction hm:m σ using Out.casesOn with
 | ok a σ'=>rw [hm] at h; exact h
 | exc=>rw [hm] at h; exact h
 | stuck=>rw [hm] at h; exact h
theorem ah (h:wp m σ Q X) (hq:∀ a σ',Q a σ'->Q' a σ') (hx:X->X'):wp m σ Q' X':=by
 unfold wp at h ⊢
 induction hm:m σ using Out.casesOn with
 | ok a σ'=>rw [hm] at h; exact hq _ _ h
 | exc=>rw [hm] at h; exact hx h
 | stuck=>rw [hm] at h; exact h
theorem al {p:Bool} {Q:Unit->ac->Prop} (hp:p = true) (h:Q () σ):wp (MM.guard p) σ Q X:=by
 subst hp; exact h
theorem cr {a:α} {o:Option α} (ho:o = some a) (h:Q a σ):wp (MM.opt o) σ Q X:=by subst ho; exact h
theorem dX {o:AO} {Q:AV->ac->Prop} (h:Q (.obj σ.length) (σ ++ [o])):wp (alloc o) σ Q X:=h
theorem cN {i:Int} {Q:AV->ac->Prop} (hs:small i = true) (h:Q (.int i) σ):wp (mkI i) σ Q X:=ag (al hs h)
theorem iD {xs:List AV} {Q:AV->ac->Prop} (hs:fits xs.length = true) (h:Q (.obj σ.length) (σ ++ [.list xs])):wp (mkL xs) σ Q X:=ag (al hs h)
theorem ll {xs:List AV} {Q:AV->ac->Prop} (hs:fits xs.length = true) (h:Q (.tup xs) σ):wp (mkT xs) σ Q X:=ag (al hs h)
end
section
variable {k:Nat} {c:Ctx} {σ:ac} {Q:AV->ac->Prop} {X:Prop}
theorem td {a b:Expr} {op:Operator} {p:Pos} (h:wp ((mach W k).E a c) σ (fun x σ'=>wp ((mach W k).E b c) σ' (fun y σ''=>wp (binop op x y) σ'' Q X) X) X):wp ((mach W (k + 1)).E (.BinOp a op b p) c) σ Q X :=
 ag (ah h (fun z0 z0 h=>ag h) id)
end
section
variable {k:Nat} {c:Ctx} {sc:Scope} {fz:Nat} {tb:Bool} {l cl:List (Str × AV)} {σ:ac} {X:Prop}
variable {Q:AV->ac->Prop}
theorem tT {t a b:Expr} {p:Pos} (h:wp ((mach W k).T t c) σ (fun v σ'=>if v then wp ((mach W k).E a c) σ' Q X else wp ((mach W k).E b c) σ' Q X) X):wp ((mach W (k + 1)).E (.IfExp t a b p) c) σ Q X:=by
 refine ag (ah h (fun v σ' h=>?_) id)
 induction v using Bool.casesOn with
 | true=>rw [if_pos rfl] at h ⊢; exact h
 | false=>rw [if_neg Bool.false_ne_true] at h ⊢; exact h
theorem sZ {a b:Expr} {op:CmpOp} {p:Pos} (hm:PySem.behindInMarks op b = false) (h:wp ((mach W k).E a c) σ (fun x σ'=>wp ((mach W k).E b c) σ' (fun y σ''=>wp (cmpV op x y) σ'' (fun t σ3=>Q (.bool t) σ3) X) X) X):wp ((mach W (k + 1)).E (.Compare a [op] [b] p) c) σ Q X:=by
 refine ag (al (by rw [hm]; rfl) ?_)
 exact ag (ah h (fun x σ' h=>ag (ah h (fun y σ'' h=>ag (ah h (fun t σ3 h=>au h) id)) id)) id)
theorem qB {e:Expr} {es:List Expr} {Q:List AV->ac->Prop} (hn:notStar e = true) (h:wp ((mach W k).E e c) σ (fun v σ'=>wp (evL (mach W k) es c) σ' (fun vs σ''=>Q (v :: vs) σ'') X) X):wp (evL (mach W k) (e :: es) c) σ Q X:=by
 unfold evL
 refine ag (al hn (ag (ah h (fun v σ' h=>ag (ah h (fun vs σ'' h=>au h) id)) id)))
theorem se {es:List Expr} {p:Pos} (h:wp (evL (mach W k) es c) σ (fun vs σ'=>wp (mkL vs) σ' Q X) X):wp ((mach W (k + 1)).E (.List es p) c) σ Q X:=ag h
theorem qC {es:List Expr} {b:Nat} {p:Pos} (h:wp (evL (mach W k) es c) σ (fun vs σ'=>wp (mkT vs) σ' Q X) X):wp ((mach W (k + 1)).E (.Tuple es b p) c) σ Q X:=ag h
theorem qE {a b:Expr} {p:Pos} (h:wp ((mach W k).E a c) (σ ++ [.wset []]) (fun x σ'=>wp ((mach W k).E b c) σ' (fun y σ''=>wp (setW c.fz (.obj σ.length) x y) σ'' (fun z0 σ3=>Q (.obj σ.length) σ3) X) X) X):wp ((mach W (k + 1)).E (.Dict [some a] [b] p) c) σ Q X:=by
 refine ag (dX ?_)
 exact ag (ah h (fun x σ' h=>ag (ah h (fun y σ'' h=>ag (ah h (fun t σ3 h=>au h) id)) id)) id)
theorem qD {a b:Expr} {p q:Pos} (h:wp ((mach W k).E a c) σ (fun x σ'=>wp ((mach W k).E b c) σ' (fun y σ''=>wp (asInt y) σ'' (fun n σ3=>wp (sliceTo x n) σ3 Q X) X) X) X):wp ((mach W (k + 1)).E (.Subscript a (.Slice Option.none (some b) Option.none p) q) c) σ Q X :=
 ag (ah h (fun x σ' h=>ag (ah h (fun y σ'' h=>ag h) id)) id)
theorem sg {o:Expr} {x:Str} {p:Pos} (hb:plainBase o = true) (h:wp ((mach W k).E o c) σ (fun v σ'=>wp (getAt v x) σ' Q X) X):wp ((mach W (k + 1)).E (.Attribute o x p) c) σ Q X :=
 ag (al hb (ag h))
theorem sd {o:Expr} {m:Str} {args:List Expr} {ap p:Pos} (hb:(plainBase o && args.all notStar && decide (args.length < 30) && ap.endLine == p.line) = true)
  (h:wp ((mach W k).E o c) σ (fun v σ'=>wp (tagOf v m) σ' (fun t σ''=>wp (evL (mach W k) args c) σ'' (fun vs σ3=>wp (method (mach W k) v t m c vs) σ3 Q X) X) X) X):wp ((mach W (k + 1)).E (.Call (.Attribute o m ap) args [] p) c) σ Q X :=
 ag (al hb (ag (ah h (fun v σ' h=>ag (ah h (fun t σ'' h=>ag h) id)) id)))
theorem tg {a:Expr} {p:Pos} {Q:Bool->ac->Prop} (h:wp ((mach W k).T a c) σ (fun b σ'=>Q (!b) σ') X):wp ((mach W (k + 1)).T (.UnaryOp .Not a p) c) σ Q X:=ag (ah h (fun z0 z0 h=>au h) id)
theorem sj {e:Expr} {es:List Expr} {Q:Bool->ac->Prop} (h:wp ((mach W k).T e c) σ (fun t σ'=>if t then wp (allT (mach W k) es c) σ' Q X else Q false σ') X):wp (allT (mach W k) (e :: es) c) σ Q X:=by
 unfold allT
 refine ag (ah h (fun t σ' h=>?_) id)
 induction t using Bool.casesOn with
 | true=>rw [if_pos rfl] at h ⊢; exact h
 | false=>rw [if_neg Bool.false_ne_true] at h ⊢; exact au h
theorem qH {e:Expr} {es:List Expr} {Q:Bool->ac->Prop} (h:wp ((mach W k).T e c) σ (fun t σ'=>if t then Q true σ' else wp (anyT (mach W k) es c) σ' Q X) X):wp (anyT (mach W k) (e :: es) c) σ Q X:=by
 unfold anyT
 refine ag (ah h (fun t σ' h=>?_) id)
 induction t using Bool.casesOn with
 | true=>rw [if_pos rfl] at h ⊢; exact au h
 | false=>rw [if_neg Bool.false_ne_true] at h ⊢; exact h
theorem ti {es:List Expr} {p:Pos} {Q:Bool->ac->Prop} (h:wp (allT (mach W k) es c) σ Q X):wp ((mach W (k + 1)).T (.BoolOp .And es p) c) σ Q X:=h
theorem tU {es:List Expr} {p:Pos} {Q:Bool->ac->Prop} (h:wp (anyT (mach W k) es c) σ Q X):wp ((mach W (k + 1)).T (.BoolOp .Or es p) c) σ Q X:=h
theorem th {a b:Expr} {op:CmpOp} {p:Pos} {Q:Bool->ac->Prop} (hm:PySem.behindInMarks op b = false) (h:wp ((mach W k).E a c) σ (fun x σ'=>wp ((mach W k).E b c) σ' (fun y σ''=>wp (cmpV op x y) σ'' Q X) X) X):wp ((mach W (k + 1)).T (.Compare a [op] [b] p) c) σ Q X:=by
 refine ag (al (by rw [hm]; rfl) ?_)
 exact ag (ah h (fun x σ' h=>ag h) id)
theorem sp {Q:Fl->ac->Prop} (h:Q (.next c) σ):wp (evSs (mach W k) [] c) σ Q X:=h
theorem qJ {s:Stmt} {ss:List Stmt} {Q:Fl->ac->Prop} (h:wp ((mach W k).S s c) σ (fun fl σ'=>match fl with | .next c'=>wp (evSs (mach W k) ss c') σ' Q X | .ret v=>Q (.ret v) σ') X):wp (evSs (mach W k) (s :: ss) c) σ Q X:=by
 unfold evSs
 refine ag (ah h (fun fl σ' h=>?_) id)
 cases fl with
 | next c'=>exact h
 | ret v=>exact au h
variable {Q:Fl->ac->Prop}
theorem su {f:Expr} {as:List Expr} {ks:List PySem.Keyword} {p q:Pos} (h:wp ((mach W k).E (.Call f as ks p) c) σ (fun z0 σ'=>Q (.next c) σ') X):wp ((mach W (k + 1)).S (.Expr (.Call f as ks p) q) c) σ Q X:=ag (ah h (fun z0 z0 h=>au h) id)
theorem tw {e:Expr} {p:Pos} (h:wp ((mach W k).E e c) σ (fun v σ'=>Q (.ret v) σ') X):wp ((mach W (k + 1)).S (.Return (some e) p) c) σ Q X:=ag (ah h (fun z0 z0 h=>au h) id)
theorem tV {t:Expr} {a b:List Stmt} {p:Pos} (h:wp ((mach W k).T t c) σ (fun v σ'=>if v then wp (evSs (mach W k) a c) σ' Q X else wp (evSs (mach W k) b c) σ' Q X) X):wp ((mach W (k + 1)).S (.If t a b p) c) σ Q X:=by
 refine ag (ah h (fun v σ' h=>?_) id)
 induction v using Bool.casesOn with
 | true=>rw [if_pos rfl] at h ⊢; exact h
 | false=>rw [if_neg Bool.false_ne_true] at h ⊢; exact h
theorem ty {x:Str} {e:Expr} {px p:Pos} (hn:notSD e = true) (h:wp ((mach W k).E e c) σ (fun v σ'=>wp (setName x v c) σ' (fun c' σ''=>Q (.next c') σ'') X) X):wp ((mach W (k + 1)).S (.Assign [.Name x px] e p) c) σ Q X :=
 ag (al hn (ag (ah h (fun v σ' h=>ag (ah h (fun c' σ'' h=>au h) id)) id)))
theorem sw {x y:Str} {a b:Expr} {px py pt pe p:Pos} {b1 b2:Nat} (hg:(decide (x ≠ y) && notStar a && notStar b && (!([a,b].all (PySem.constantsAlone 8)) || [a,b].all (PySem.foldedForSure 8))) = true)
  (h:wp ((mach W k).E a c) σ (fun v σ'=>wp ((mach W k).E b c) σ' (fun w σ''=>wp (setName x v c) σ'' (fun c' σ3=>wp (setName y w c') σ3 (fun c'' σ4=>Q (.next c'') σ4) X) X) X) X) :
  wp ((mach W (k + 1)).S (.Assign [.Tuple [.Name x px,.Name y py] b1 pt] (.Tuple [a,b] b2 pe) p) c) σ Q X :=
 ag (al hg (ag (ah h (fun v σ' h=>ag (ah h (fun w σ'' h=>ag (ah h (fun c' σ3 h=>ag (ah h (fun c'' σ4 h=>au h) id)) id)) id)) id)))
theorem tv {a i e:Expr} {px p:Pos} (h:wp ((mach W k).E e c) σ (fun v σ'=>wp ((mach W k).E a c) σ' (fun x σ''=>wp ((mach W k).E i c) σ'' (fun y σ3=>wp (setSub c.fz x y v) σ3 (fun z0 σ4=>Q (.next c) σ4) X) X) X) X):wp ((mach W (k + 1)).S (.Assign [.Subscript a i px] e p) c) σ Q X :=
 ag (ah h (fun v σ' h=>ag (ah h (fun w σ'' h=>ag (ah h (fun c' σ3 h=>ag (ah h (fun c'' σ4 h=>au h) id)) id)) id)) id)
theorem sv {o e:Expr} {x:Str} {px p:Pos} (h:wp ((mach W k).E e c) σ (fun v σ'=>wp ((mach W k).E o c) σ' (fun y σ''=>wp (setAt c.fz y x v) σ'' (fun z0 σ3=>Q (.next c) σ3) X) X) X):wp ((mach W (k + 1)).S (.Assign [.Attribute o x px] e p) c) σ Q X :=
 ag (ah h (fun v σ' h=>ag (ah h (fun w σ'' h=>ag (ah h (fun c'' σ4 h=>au h) id)) id)) id)
end
section
variable {α β:Type} {src:AV} {turn:AV->α->MM (α ⊕ β)} {xs:List AV} {b:Bool} {σ:ac} {Q:α ⊕ β->ac->Prop} {X:Prop} {a:α}
theorem wp_walk (I:Nat->α->ac->Prop) (hsrc:∀ j a σ,I j a σ->items src σ = .ok xs σ/\isL src σ = .ok b σ)
  (hturn:∀ j v a σ,xs[j]? = some v->I j a σ->wp (turn v a) σ (fun r σ'=>match r with | .inl a'=>I (j + 1) a' σ' | .inr x=>Q (.inr x) σ') X)
  (hend:∀ a σ,I xs.length a σ->Q (.inl a) σ) (hf:fits xs.length = true) (h0:I 0 a σ):wp (walkAll src turn a) σ Q X:=by
 have go:∀ (j:Nat) (a:α) (σ:ac),j ≤ xs.length->I (xs.length - j) a σ->wp (walk src b xs.length turn j a) σ Q X:=by
  intro j
  induction j with
  | zero =>
   intro a σ _ hI
   obtain ⟨h1,h2⟩:=hsrc _ _ _ hI
   unfold walk
   refine ag ?_
   unfold wp; rw [h1]; dsimp only
   refine ag ?_
   unfold wp; rw [h2]; dsimp only
   refine ag (al (by simp) (au (hend a σ hI)))
  | succ j ih =>
   intro a σ hj hI
   obtain ⟨h1,h2⟩:=hsrc _ _ _ hI
   unfold walk
   refine ag ?_
   unfold wp; rw [h1]; dsimp only
   refine ag ?_
   unfold wp; rw [h2]; dsimp only
   refine ag (al (by simp) ?_)
   have hlt:xs.length - (j + 1) < xs.length:=by omega
   refine ag (cr (List.getElem?_eq_getElem hlt) ?_)
   refine ag (ah (hturn _ _ a σ (List.getElem?_eq_getElem hlt) hI) (fun r σ' h=>?_) id)
   cases r with
   | inl a'=>exact ih a' σ' (by omega) (by rw [show xs.length - j = xs.length - (j + 1) + 1 by omega]; exact h)
   | inr x=>exact au h
 obtain ⟨h1,h2⟩:=hsrc _ _ _ h0
 unfold walkAll
 refine ag ?_
 unfold wp; rw [h1]; dsimp only
 refine ag ?_
 unfold wp; rw [h2]; dsimp only
 refine ag (al hf ?_)
 exact go xs.length a σ (Nat.le_refl _) (by rw [Nat.sub_self]; exact h0)
theorem om {γ:Type} {m:MM γ} {Q:γ->ac->Prop} (h:wp m σ Q False):wp (noExc m) σ Q X:=by
 unfold wp at h ⊢
 unfold noExc
 induction hm:m σ using Out.casesOn with
 | ok a σ'=>rw [hm] at h; exact h
 | exc=>rw [hm] at h; exact h.elim
 | stuck=>rw [hm] at h; exact h.elim
end
section
variable {k:Nat} {c:Ctx} {sc:Scope} {fz:Nat} {tb:Bool} {l cl:List (Str × AV)} {σ:ac} {X:Prop}
theorem tx {t it:Expr} {bd:List Stmt} {p:Pos} {Q:Fl->ac->Prop} (hn:notSet it = true) (h:wp ((mach W k).E it c) σ (fun src σ'=>wp (walkAll src (fun v (c:Ctx)=>do
   let c' <- bindTo t v c
   match <- evSs (mach W k) bd c' with
   | .next c''=>MM.pure (.inl c'')
   | .ret v=>MM.pure (.inr v)) c) σ' (fun out σ''=>match out with | .inl c'=>Q (.next c') σ'' | .inr v=>Q (.ret v) σ'') X) X):wp ((mach W (k + 1)).S (.For t it bd [] p) c) σ Q X:=by
 refine ag (al hn (ag (ah h (fun src σ' h=>ag (ah h (fun out σ'' h=>?_) id)) id)))
 cases out <;> exact au h
theorem oG {t:Expr} {bd:List Stmt} {v:AV} {R:Ctx ⊕ AV->ac->Prop} (h:wp (bindTo t v c) σ (fun c' σ'=>wp (evSs (mach W k) bd c') σ' (fun fl σ''=>match fl with | .next c''=>R (.inl c'') σ'' | .ret v=>R (.inr v) σ'') X) X) :
  wp (do
   let c' <- bindTo t v c
   match <- evSs (mach W k) bd c' with
   | .next c''=>MM.pure (.inl c'')
   | .ret v=>MM.pure (.inr v):MM (Ctx ⊕ AV)) σ R X:=by
 refine ag (ah h (fun c' σ' h=>ag (ah h (fun fl σ'' h=>?_) id)) id)
 cases fl <;> exact au h
theorem ot {x:Str} {p:Pos} {v:AV} {Q:Ctx->ac->Prop} (h:wp (setName x v c) σ Q X):wp (bindTo (.Name x p) v c) σ Q X:=h
theorem oq {x y:Str} {p q r:Pos} {n:Nat} {v w:AV} {Q:Ctx->ac->Prop} (h:wp (setName x v c) σ (fun c' σ'=>wp (setName y w c') σ' Q X) X):wp (bindTo (.Tuple [.Name x p,.Name y q] n r) (.tup [v,w]) c) σ Q X:=ag h
theorem sf {elt:Expr} {g:Comprehension} {gs:List Comprehension} {sc':Scope} {p:Pos} {Q:AV->ac->Prop} (hg:(((g :: gs).all fun g=>notSet g.iter && g.is_async == 0) && compOk sc' c) = true)
  (h:wp ((mach W k).E g.iter c) σ (fun src σ'=>wp (clause (mach W k) elt (g :: gs) src (inner sc' c) []) σ' (fun xs σ''=>wp (mkL xs.2) σ'' Q X) False) X):wp ((mach W (k + 1)).E (.ListComp elt (g :: gs) sc' p) c) σ Q X:=by
 refine ag (al hg (ag (ah h (fun src σ' h=>ag (om h)) id)))
theorem lq {elt:Expr} {g:Comprehension} {src:AV} {acc:List AV} {Q:Ctx × List AV->ac->Prop} {xs:List AV} {b:Bool} (I:Nat->Ctx->List AV->ac->Prop) (hsrc:∀ j c a σ,I j c a σ->items src σ = .ok xs σ/\isL src σ = .ok b σ)
  (hturn:∀ j v c a σ,xs[j]? = some v->I j c a σ->wp (bindTo g.target v c) σ (fun c' σ'=>wp (allT (mach W k) g.ifs c') σ' (fun t σ''=>if t then wp ((mach W k).E elt c') σ'' (fun x σ3=>fits a.length = true/\I (j + 1) c' (a ++ [x]) σ3) X else I (j + 1) c' a σ'') X) X)
  (hend:∀ c a σ,I xs.length c a σ->Q (c,a) σ) (hf:fits xs.length = true) (h0:I 0 c acc σ):wp (clause (mach W k) elt [g] src c acc) σ Q X:=by
 unfold clause
 refine ag (ah (wp_walk (xs:=xs) (b:=b) (Q:=fun out σ=>∃ a,out = .inl a/\Q a σ) (fun j a σ=>I j a.1 a.2 σ) (fun j a σ h=>hsrc j _ _ σ h) (fun j v a σ hv hI=>?_) (fun a σ h=>⟨a,rfl,hend _ _ _ h⟩) hf h0) (fun out σ h=>?_) id)
 .refine ag (ah (hturn j v a.1 a.2 σ hv hI) (fun c' σ' h=>ag (ah h (fun t σ'' h=>?_) id)) id)
  induction t using Bool.casesOn with
  | true =>
   rw [if_pos rfl] at h ⊢
   refine ag (ah h (fun x σ3 h=>ag (al h.1 (au h.2))) id)
  | false=>rw [if_neg Bool.false_ne_true] at h ⊢; exact au h
 .obtain ⟨a,rfl,h⟩:=h
  exact au h
theorem lm {elt:Expr} {g g':Comprehension} {gs:List Comprehension} {src:AV} {acc:List AV} {Q:Ctx × List AV->ac->Prop} {xs:List AV} {b:Bool} (I:Nat->Ctx->List AV->ac->Prop) (hsrc:∀ j c a σ,I j c a σ->items src σ = .ok xs σ/\isL src σ = .ok b σ)
  (hturn:∀ j v c a σ,xs[j]? = some v->I j c a σ->wp (bindTo g.target v c) σ (fun c' σ'=>wp (allT (mach W k) g.ifs c') σ' (fun t σ''=>if t then wp ((mach W k).E g'.iter c') σ'' (fun s σ3=>wp (clause (mach W k) elt (g' :: gs) s c' a) σ3 (fun a' σ4=>I (j + 1) a'.1 a'.2 σ4) X) X else I (j + 1) c' a σ'') X) X)
  (hend:∀ c a σ,I xs.length c a σ->Q (c,a) σ) (hf:fits xs.length = true) (h0:I 0 c acc σ):wp (clause (mach W k) elt (g :: g' :: gs) src c acc) σ Q X:=by
 rw [clause]
 refine ag (ah (wp_walk (xs:=xs) (b:=b) (Q:=fun out σ=>∃ a,out = .inl a/\Q a σ) (fun j a σ=>I j a.1 a.2 σ) (fun j a σ h=>hsrc j _ _ σ h) (fun j v a σ hv hI=>?_) (fun a σ h=>⟨a,rfl,hend _ _ _ h⟩) hf h0) (fun out σ h=>?_) id)
 .refine ag (ah (hturn j v a.1 a.2 σ hv hI) (fun c' σ' h=>ag (ah h (fun t σ'' h=>?_) id)) id)
  induction t using Bool.casesOn with
  | true =>
   rw [if_pos rfl] at h ⊢
   exact ag (ah h (fun s σ3 h=>ag (ah h (fun a' σ4 h=>au h) id)) id)
  | false=>rw [if_neg Bool.false_ne_true] at h ⊢; exact au h
 .obtain ⟨a,rfl,h⟩:=h
  exact au h
end
section
variable {k:Nat} {c:Ctx} {sc:Scope} {fz:Nat} {tb:Bool} {l cl:List (Str × AV)} {σ:ac} {X:Prop} {Q:AV->ac->Prop}
theorem aE {α:Type} {m:MM α} {a:α} {σ σ':ac} {Q:α->ac->Prop} (e:m σ = .ok a σ') (h:Q a σ'):wp m σ Q X:=by unfold wp; rw [e]; exact h
theorem sx {α:Type} {m:MM α} {σ:ac} {Q:α->ac->Prop} (h:wp m σ Q False):∃ a σ',m σ = .ok a σ'/\Q a σ':=by
 unfold wp at h
 induction hm:m σ using Out.casesOn with
 | ok a σ'=>rw [hm] at h; exact ⟨a,σ',rfl,h⟩
 | exc=>rw [hm] at h; exact h.elim
 | stuck=>rw [hm] at h; exact h.elim
theorem bj {a:AV} {n:Nat} (e:lenV a σ = .ok n σ) (hf:fits n = true) (h:Q (.int n) σ):wp (bltV "len" [a]) σ Q X:=by
 unfold bltV
 show wp (do let n <- lenV a; MM.guard (fits n); MM.pure (.int n)) σ Q X
 exact ag (aE e (ag (al hf (au h))))
theorem ca {n:Int} (hn:0 ≤ n/\n ≤ 1000) (h:Q (.rng n.toNat) σ):wp (bltV "range" [.int n]) σ Q X:=by
 unfold bltV
 show wp (do MM.guard (decide (0 ≤ n/\n ≤ 1000)); MM.pure (.rng n.toNat)) σ Q X
 exact ag (al (decide_eq_true hn) (au h))
theorem mv {α β γ:Type} {f:α->Option β} {g:γ->α} {k:γ->β} (hf:∀ c,f (g c) = some (k c)) (cs:List γ):mapO f (cs.map g) = some (cs.map k):=by
 induction cs with
 | nil=>rfl
 | cons c cs ih =>
  show (f (g c)).bind (fun y=>(mapO f (cs.map g)).map (y :: ·)) = _
  rw [hf,ih]; rfl
theorem ei {α β:Type} {f:α->Option β} {g:β->α} (hf:∀ c,f (g c) = some c) (cs:List β):mapO f (cs.map g) = some cs :=
 (mv (k:=id) hf cs).trans (congrArg some (List.map_id cs))
theorem ints_of (ys:List Int):intsOf (ys.map AV.int) = some ys:=ei (f:=intV) (g:=AV.int) (fun z0=>rfl) ys
theorem fE (w:List Int):wordOf (wordV w) = some w:=ints_of w
theorem fM (ws:List (List Int)):wordsOf (ws.map wordV) = some ws:=ei fE ws
theorem dl (ys:List Str):strsOf (ys.map AV.str) = some ys:=ei (f:=strV) (g:=AV.str) (fun z0=>rfl) ys
theorem tG {i:Nat} {x:Int} {xs:List Int} (e:σ[i]? = some (.list ((x :: xs).map AV.int))) (h:Q (.int (xs.foldl min x)) σ):wp (bltV "min" [.obj i]) σ Q X:=by
 unfold bltV
 show wp (do
   let xs <- getList (.obj i)
   match intsOf xs with
   | some (i :: is)=>MM.pure (.int (is.foldl min i))
   | _=>MM.stuck) σ Q X
 refine ag (aE (a:=(x :: xs).map AV.int) (σ':=σ) (by unfold getList; dsimp only; rw [e]) ?_)
 rw [ints_of]
 exact au h
theorem qj {i:Nat} {xs:List Int} (e:σ[i]? = some (.list (xs.map AV.int))) (hx:∀ x ∈ xs,0 ≤ x/\x ≤ 1000000) (hl:fits xs.length = true) (hs:small xs.sum = true) (h:Q (.int xs.sum) σ):wp (bltV "sum" [.obj i]) σ Q X:=by
 unfold bltV
 show wp (do
   let xs <- getList (.obj i)
   let is <- MM.opt (intsOf xs)
   MM.guard (is.all fun i=>decide (0 ≤ i/\i ≤ 1000000))
   MM.guard (fits is.length)
   mkI is.sum) σ Q X
 refine ag (aE (a:=xs.map AV.int) (σ':=σ) (by unfold getList; dsimp only; rw [e]) ?_)
 refine ag (cr (ints_of xs) (ag (al ?_ (ag (al hl (cN hs h))))))
 rw [List.all_eq_true]
 exact fun x hx'=>decide_eq_true (hx x hx')
theorem rS {a b:Int} (h:Q (.int (max a b)) σ):wp (bltV "max" [.int a,.int b]) σ Q X:=by unfold bltV; exact au h
theorem tI {a:Int} (hs:small a.natAbs = true) (h:Q (.int a.natAbs) σ):wp (bltV "abs" [.int a]) σ Q X:=by unfold bltV; exact cN hs h
theorem tH {a:Int} (h:Q (.int a) σ):wp (bltV "int" [.int a]) σ Q X:=by unfold bltV; exact au h
theorem jh {i:Nat} {xs:List AV} (e:σ[i]? = some (.list xs)) (hl:fits xs.length = true) (h:Q (.tup xs) σ):wp (bltV "tuple" [.obj i]) σ Q X:=by
 unfold bltV
 show wp (do let xs <- getList (.obj i); mkT xs) σ Q X
 exact ag (aE (a:=xs) (σ':=σ) (by unfold getList; dsimp only; rw [e]) (ll hl h))
theorem lX {a:AV} {xs:List AV} (hr:notRng a = true) (e:items a σ = .ok xs σ) (hl:fits xs.length = true) (h:Q (.obj σ.length) (σ ++ [.list xs])):wp (bltV "list" [a]) σ Q X:=by
 unfold bltV
 show wp (do MM.guard (notRng a); let xs <- items a; mkL xs) σ Q X
 exact ag (al hr (ag (aE e (iD hl h))))
theorem gD {a:AV} {ws:List (List Int)} (hr:(notRng a && notTup a) = true) (e:items a σ = .ok (ws.map wordV) σ) (hl:ws.length < 64) (hn:ws.Nodup) (h:Q (.obj σ.length) (σ ++ [.list ((sortW ws).map wordV)])) (hf:fits (sortW ws).length = true):wp (bltV "sorted" [a]) σ Q X:=by
 unfold bltV
 show wp (do
   MM.guard (notRng a && notTup a)
   let xs <- items a
   MM.guard (decide (xs.length < 64))
   let ws <- MM.opt (wordsOf xs)
   MM.guard (decide ws.Nodup)
   mkL ((sortW ws).map wordV)) σ Q X
 refine ag (al hr (ag (aE e (ag (al (by rw [List.length_map]; exact decide_eq_true hl) (ag (cr (fM ws) (ag (al (decide_eq_true hn) (iD (by rw [List.length_map]; exact hf) h))))))))))
end
section
variable {k:Nat} {c:Ctx} {sc:Scope} {fz:Nat} {tb:Bool} {l l' cl:List (Str × AV)} {σ:ac} {X:Prop}
end
noncomputable def compIn (sc' sc:Scope):Bool :=
 sc'.kind == .function && sc'.names.all fun p=>p.2 != .cell && (p.2 != .local || sc'.names.lookup p.1 == some .local) && (p.2 != .free || (sc.names.lookup p.1 == some .cell || sc.names.lookup p.1 == some .free))
noncomputable def allO:AO->Bool:=fun z0=>true
noncomputable def noT:AO->Bool:=fun o=>match o with
 | .list (.int _ :: _)=>false
 | _=>true
noncomputable abbrev Has (σ:ac) (i:Nat) (o:AO):Prop:=σ[i]? = some o
structure KP (p:AO->Bool) (σ σ':ac):Prop where
 len:σ.length ≤ σ'.length
 get:∀ {i o},p o = true->Has σ i o->Has σ' i o
noncomputable abbrev aB:=KP allO
noncomputable abbrev KT:=KP noT
structure Put (i:Nat) (σ σ':ac):Prop where
 len:σ'.length = σ.length
 get:∀ {j o},j ≠ i->Has σ j o->Has σ' j o
theorem ao {σ:ac} {i:Nat} {o o':AO} (h:Has σ i o):Has (σ ++ [o']) i o:=by
 show (σ ++ [o'])[i]? = some o
 rw [List.getElem?_append_left (List.getElem?_eq_some_iff.mp h).1]; exact h
theorem an {σ:ac} {o:AO}:Has (σ ++ [o]) σ.length o:=by show (σ ++ [o])[σ.length]? = some o; simp
theorem aN {σ:ac} {i:Nat} {o:AO} (h:Has σ i o):i < σ.length:=(List.getElem?_eq_some_iff.mp h).1
theorem be {σ:ac} {i:Nat} {o o':AO} (h:Has σ i o):Has (σ.set i o') i o':=List.getElem?_set_self (aN h)
theorem lU {σ:ac} {i j:Nat} {o o':AO} (hj:i ≠ j) (h:Has σ i o):Has (σ.set j o') i o:=by
 show (σ.set j o')[i]? = some o
 rw [List.getElem?_set_ne (Ne.symm hj)]; exact h
section
variable {p:AO->Bool} {σ τ τ':ac}
theorem KP.refl:KP p σ σ:=⟨Nat.le_refl _,fun z0 h=>h⟩
theorem KP.trans (x:KP p σ τ) (y:KP p τ τ'):KP p σ τ':=⟨Nat.le_trans x.len y.len,fun hp h=>y.get hp (x.get hp h)⟩
theorem KP.app (o:AO):KP p σ (σ ++ [o]):=⟨by rw [List.length_append]; exact Nat.le_add_right _ _,fun z0 h=>ao h⟩
theorem KP.put {i:Nat} (x:KP p σ τ) (hi:σ.length ≤ i) (y:Put i τ τ'):KP p σ τ':=⟨y.len ▸ x.len,fun hp h=>y.get (Nat.ne_of_lt (Nat.lt_of_lt_of_le (aN h) hi)) (x.get hp h)⟩
theorem KP.kt (x:aB σ τ):KP p σ τ:=⟨x.len,fun z0 h=>x.get rfl h⟩
theorem Put.set {i:Nat} (o:AO):Put i σ (σ.set i o):=⟨List.length_set ..,fun hj h=>lU hj h⟩
noncomputable def isI:AV->Bool
 | .int _=>true
 | _=>false
theorem pD {x:AV} {xs:List AV} (h:isI x = false):noT (.list (x :: xs)) = true:=by
 induction x using AV.casesOn with
 | int i=>exact nomatch h
 | _=>rfl
theorem fH {α:Type} {f:α->AV} (h:∀ x,isI (f x) = false) (xs:List α):noT (.list (xs.map f)) = true:=by
 induction xs using List.casesOn with
 | nil=>rfl
 | cons x xs=>exact pD (h x)
end
theorem br {σ:ac} {i:Nat} {ws:List (List Int)} (h:σ[i]? = some (.wset ws)):items (.obj i) σ = .ok (ws.map wordV) σ/\isL (.obj i) σ = .ok false σ:=by
 constructor
 .unfold items; dsimp only; rw [h]
 .unfold isL; dsimp only; rw [h]
theorem ar {σ:ac} {i:Nat} {xs:List AV} (h:σ[i]? = some (.list xs)):items (.obj i) σ = .ok xs σ/\isL (.obj i) σ = .ok true σ:=by
 constructor
 .unfold items; dsimp only; rw [h]
 .unfold isL; dsimp only; rw [h]
section
variable {k:Nat} {c:Ctx} {sc:Scope} {fz:Nat} {tb:Bool} {l cl:List (Str × AV)} {σ:ac} {X:Prop}
end
noncomputable def lastT (tc:Int) (w:List Int):Int:=w.foldl (fun f s=>if s < tc then s else f) (-1)
theorem eT {xs:List AV} {σ:ac}:items (.tup xs) σ = .ok xs σ/\isL (.tup xs) σ = .ok false σ:=⟨rfl,rfl⟩
theorem ay {i:Nat} {cn x:Str} {at':List (Str × AV)} {v:AV} {σ:ac} {Q:AV->ac->Prop} {X:Prop} (hi:σ[i]? = some (.inst cn at')) (hc:(attrsOf cn).contains x = true) (hl:at'.lookup x = some v) (h:Q v σ):wp (getAt (.obj i) x) σ Q X:=by
 refine aE (a:=v) (σ':=σ) ?_ h
 unfold getAt
 dsimp only
 rw [hi]
 dsimp only
 rw [if_pos hc,hl]
theorem dW {fz i:Nat} {cn x:Str} {at':List (Str × AV)} {v:AV} {σ:ac} {Q:Unit->ac->Prop} {X:Prop} (hi:σ[i]? = some (.inst cn at')) (hc:((attrsOf cn).contains x && decide (at'.length < 100)) = true) (hf:fz ≤ i) (h:Q () (σ.set i (.inst cn (aset x v at')))):wp (setAt fz (.obj i) x v) σ Q X:=by
 refine aE (a:=()) (σ':=σ.set i (.inst cn (aset x v at'))) ?_ h
 unfold setAt
 dsimp only
 rw [hi]
 dsimp only
 rw [if_pos hc]
 unfold setO
 rw [if_pos ⟨hf,(List.getElem?_eq_some_iff.mp hi).1⟩]
theorem gM {ys:List Str} {σ:ac} {j:Nat} {x:Str} {Q:Bool->ac->Prop} {X:Prop} (hj:σ[j]? = some (.list (ys.map AV.str))) (h:Q (ys.contains x) σ):wp (cmpV .In (.str x) (.obj j)) σ Q X:=by
 refine aE (a:=ys.contains x) (σ':=σ) ?_ h
 unfold cmpV cmpV.isIn
 dsimp only
 rw [hj]
 dsimp only
 rw [dl]
noncomputable def ruleAt (n l:Int) (r:List Int) (lv:Int):List (Str × AV):=[("number", .int n),("left", .int l),("right", wordV r),("level_of", .int lv),("action", .none),("line", .int 0),("before", .int 0)]
theorem aV {fz i:Nat} {cn x:Str} {at':List (Str × AV)} {v:AV} {σ:ac} {Q:Unit->ac->Prop} {X:Prop} (at'':List (Str × AV)) (hlt:i < σ.length) (hc:((attrsOf cn).contains x && decide (at'.length < 100)) = true) (hf:fz ≤ i) (he:aset x v at' = at'') (h:Q () (σ.set i (.inst cn at''))):wp (setAt fz (.obj i) x v) (σ.set i (.inst cn at')) Q X:=by
 refine dW (at':=at') (by rw [List.getElem?_set_self hlt]) hc hf ?_
 rw [List.set_set,he]
 exact h
theorem bz {i:Int} (h:i.natAbs < 2 ^ 64):small i = true:=by
 unfold small
 rw [decide_eq_true_eq]
 by_cases h0:i.natAbs = 0
 .rw [h0]; decide
 .have:=(Nat.log2_lt h0).mpr h
  omega
theorem jF {i j:Int} (hj:small j = true) (h:i.natAbs ≤ j.natAbs):small i = true:=by
 unfold small at hj ⊢
 rw [decide_eq_true_eq] at hj ⊢
 by_cases h0:i.natAbs = 0
 .rw [h0]; decide
 .have hj0:j.natAbs ≠ 0:=by omega
  refine Nat.lt_of_le_of_lt ?_ hj
  rw [Nat.le_log2 hj0]
  exact Nat.le_trans (Nat.log2_self_le h0) h
structure tJ (d s n:Int) (N:Nat):Prop where
 d0:0 ≤ d
 ds:small d = true
 s0:0 ≤ s
 s1:s < 1000000007
 n0:0 ≤ n
 n1:n ≤ N
noncomputable def tapeV (d s n:Int):AO:=.list [.int d,.int s,.int n]
noncomputable def noSlice:Expr->Bool
 | .Slice _ _ _ _=>false
 | _=>true
set_option tactic.hygienic true in
theorem sY {k:Nat} {c:Ctx} {σ:ac} {X:Prop} {Q:AV->ac->Prop} {a i:Expr} {p:Pos} (hn:noSlice i = true) (h:wp ((mach W k).E a c) σ (fun x σ'=>wp ((mach W k).E i c) σ' (fun y σ''=>wp (subscr x y) σ'' Q X) X) X):wp ((mach W (k + 1)).E (.Subscript a i p) c) σ Q X:=by
 cases i <;> first | exact ag (ah h (fun x σ' h=>ag h) id) | exact absurd hn Bool.false_ne_true
theorem aX {i:Nat} {xs:List AV} {j:Int} {v:AV} {σ:ac} {X:Prop} {Q:AV->ac->Prop} (hi:σ[i]? = some (.list xs)) (hj:0 ≤ j/\j < 2 ^ 60) (hv:xs[j.toNat]? = some v) (h:Q v σ):wp (subscr (.obj i) (.int j)) σ Q X:=by
 refine aE (a:=v) (σ':=σ) ?_ h
 unfold subscr
 dsimp only
 rw [hi]
 dsimp only
 rw [if_pos hj,hv]
theorem iC {fz i:Nat} {xs:List AV} {j:Int} {v:AV} {σ:ac} {X:Prop} {Q:Unit->ac->Prop} (hi:σ[i]? = some (.list xs)) (hf:fz ≤ i) (hj:0 ≤ j/\j < 2 ^ 60/\j.toNat < xs.length) (h:Q () (σ.set i (.list (xs.set j.toNat v)))):wp (setSub fz (.obj i) (.int j) v) σ Q X:=by
 refine aE (a:=()) (σ':=σ.set i (.list (xs.set j.toNat v))) ?_ h
 unfold setSub
 dsimp only
 rw [hi]
 dsimp only
 rw [if_pos hj]
 unfold setO
 rw [if_pos ⟨hf,(List.getElem?_eq_some_iff.mp hi).1⟩]
theorem lk {x y:Int} {σ:ac} {X:Prop} {Q:AV->ac->Prop} (hy:0 < y) (hs:small (x % y) = true) (h:Q (.int (x % y)) σ):wp (binop .Mod (.int x) (.int y)) σ Q X:=ag (al (decide_eq_true hy) (cN hs h))
theorem rZ {x y:Int} {σ:ac} {X:Prop} {Q:AV->ac->Prop} (hy:0 < y/\y < 2 ^ 30) (hs:small (x / y) = true) (h:Q (.int (x / y)) σ):wp (binop .FloorDiv (.int x) (.int y)) σ Q X:=ag (al (decide_eq_true hy) (cN hs h))
theorem bp {x y:Int} {σ:ac} {X:Prop} {Q:AV->ac->Prop} (hs:small (x + y) = true) (h:Q (.int (x + y)) σ):wp (binop .Add (.int x) (.int y)) σ Q X:=cN hs h
theorem fD {x y:Int} {σ:ac} {X:Prop} {Q:AV->ac->Prop} (hs:small (x - y) = true) (h:Q (.int (x - y)) σ):wp (binop .Sub (.int x) (.int y)) σ Q X:=cN hs h
theorem lj {x y:Int} {σ:ac} {X:Prop} {Q:AV->ac->Prop} (hy:y.natAbs < 2 ^ 60\/x.natAbs < 2 ^ 60) (hs:small (x * y) = true) (h:Q (.int (x * y)) σ):wp (binop .Mult (.int x) (.int y)) σ Q X :=
 ag (al (by rw [Bool.or_eq_true,decide_eq_true_eq,decide_eq_true_eq]; exact hy) (cN hs h))
theorem rY {x:Int} {σ:ac} {X:Prop} {Q:AV->ac->Prop} (hx:x.natAbs < 2 ^ 60) (hs:small (x ^ 3) = true) (h:Q (.int (x ^ 3)) σ):wp (binop .Pow (.int x) (.int 3)) σ Q X :=
 ag (al (by rw [Bool.and_eq_true]; exact ⟨by decide,decide_eq_true hx⟩) (cN hs h))
theorem lB {x:Int} (h:x.natAbs < 2 ^ 60):small (x ^ 3) = true:=by
 unfold small
 rw [decide_eq_true_eq,Int.natAbs_pow]
 by_cases h0:x.natAbs ^ 3 = 0
 .rw [h0]; decide
 .have h1:x.natAbs ^ 3 < (2 ^ 60) ^ 3:=Nat.pow_lt_pow_left h (by decide)
  rw [<- Nat.pow_mul] at h1
  have:=(Nat.log2_lt h0).mpr h1
  omega
theorem fT {i:Int} {e:Nat} (he:e ≤ 8000000) (h:i.natAbs < 2 ^ e):small i = true:=by
 unfold small
 rw [decide_eq_true_eq]
 by_cases h0:i.natAbs = 0
 .rw [h0]; decide
 .exact Nat.lt_of_lt_of_le ((Nat.log2_lt h0).mpr h) he
theorem gX {x B e:Nat} (h:x.log2 ≤ B) (he:B < e):x < 2 ^ e:=by
 by_cases h0:x = 0
 .rw [h0]; exact Nat.pow_pos (by decide)
 .exact (Nat.log2_lt h0).mp (Nat.lt_of_le_of_lt h he)
theorem mQ {d x:Nat} {e:Nat} (hd:d < 2 ^ e) (hx:x < 2 ^ e):d * 4099 + x < 2 ^ (e + 13):=by
 have:(2:Nat) ^ (e + 13) = 2 ^ e * 8192:=by rw [Nat.pow_add]
 rw [this]
 generalize (2:Nat) ^ e = b at *
 omega
theorem pw {a e e':Nat} (h:a < 2 ^ e) (he:e ≤ e'):a < 2 ^ e':=Nat.lt_of_lt_of_le h (Nat.pow_le_pow_right (by decide) he)
theorem jV {n j:Nat} {v:AV} (h:((List.range n).map fun (k:Nat)=>AV.int (Int.ofNat k))[j]? = some v):v = .int j/\j < n:=by
 rw [List.getElem?_map] at h
 by_cases hj:j < n
 .rw [List.getElem?_range hj] at h; injection h with h; exact ⟨h.symm,hj⟩
 .rw [List.getElem?_eq_none (by simpa using hj)] at h; cases h
theorem iq {n:Nat} {σ:ac}:items (.rng n) σ = .ok ((List.range n).map fun (k:Nat)=>AV.int (Int.ofNat k)) σ/\isL (.rng n) σ = .ok false σ:=⟨rfl,rfl⟩
set_option tactic.hygienic true in
theorem bI {w:List Int} {ws:List (List Int)} (h:ws.Nodup):(winsert w ws).Nodup:=by
 unfold winsert
 split
 .exact h
 .rename_i q
  rw [List.nodup_append]
  refine ⟨h,by simp,fun a ha b hb=>?_⟩
  rw [List.mem_singleton.mp hb]
  rintro rfl; exact q ha
theorem ju {w:List Int} {ws:List (List Int)}:(winsert w ws).length ≤ ws.length + 1:=by
 unfold winsert
 split
 .exact Nat.le_succ _
 .simp
set_option tactic.hygienic true in
theorem cX {w x:List Int} {ws:List (List Int)}:x ∈ winsert w ws ↔ x ∈ ws\/x = w:=by
 unfold winsert
 split
 .rename_i q; exact ⟨.inl,fun h=>h.elim id (fun e=>e ▸ q)⟩
 .simp
theorem jq {fz i:Nat} {w:List Int} {ws:List (List Int)} {σ:ac} {Q:Unit->ac->Prop} {X:Prop} (hi:σ[i]? = some (.wset ws)) (hf:fz ≤ i) (hs:fits ws.length = true) (h:Q () (σ.set i (.wset (winsert w ws)))):wp (setSub fz (.obj i) (wordV w) (.bool true)) σ Q X:=by
 refine aE (a:=()) (σ':=σ.set i (.wset (winsert w ws))) ?_ h
 unfold setSub
 dsimp only
 rw [hi]
 rw [fE]
 dsimp only
 rw [if_pos hs]
 unfold setO
 rw [if_pos ⟨hf,aN hi⟩]
theorem fitsLe {n:Nat} (h:n ≤ 1000000):fits n = true:=decide_eq_true h
section
variable {k:Nat} {c:Ctx} {sc:Scope} {fz:Nat} {tb:Bool} {l l' cl:List (Str × AV)} {σ:ac} {X:Prop} {δ:Type} {f:δ->AV} {ys:List δ}
theorem gh {j:Nat} {v:AV} (h:(ys.map f)[j]? = some v):∃ y,ys[j]? = some y/\v = f y:=by
 rw [List.getElem?_map] at h
 induction hq:ys[j]? using Option.casesOn with
 | none=>rw [hq] at h; cases h
 | some y=>rw [hq] at h; injection h with h; exact ⟨y,rfl,h.symm⟩
end
structure rU (ws:List (List Int)):Prop where
 nd:ws.Nodup
 len:ws.length ≤ 4
 short:∀ w ∈ ws,w.length ≤ 3
end Mine.Internal
end
section
set_option backward.match.sparseCases false
namespace Mine.Internal
noncomputable def Cat {α:Type}:List (List (List α))->List α->Prop
 | [],w=>w = []
 | p :: ps,w=>∃ u,u ∈ p/\∃ v,Cat ps v/\w = u ++ v
section
variable {α:Type}
theorem gz {ps qs:List (List (List α))} {w:List α}:Cat (ps ++ qs) w ↔ ∃ u v,Cat ps u/\Cat qs v/\w = u ++ v:=by
 induction ps generalizing w with
 | nil=>exact ⟨fun h=>⟨[],w,rfl,h,rfl⟩,fun ⟨u,v,h1,h2,h3⟩=>by rw [h3,show u = [] from h1]; exact h2⟩
 | cons p ps ih =>
  constructor
  .rintro ⟨u,hu,v,hv,rfl⟩
   obtain ⟨a,b,ha,hb,rfl⟩:=ih.mp hv
   exact ⟨u ++ a,b,⟨u,hu,a,ha,rfl⟩,hb,(List.append_assoc ..).symm⟩
  .rintro ⟨_,b,⟨u,hu,a,ha,rfl⟩,hb,rfl⟩
   exact ⟨u,hu,a ++ b,ih.mpr ⟨a,b,ha,hb,rfl⟩,List.append_assoc ..⟩
theorem eu {p:List (List α)} {w:List α}:Cat [p] w ↔ w ∈ p :=
 ⟨fun ⟨u,hu,v,hv,e⟩=>by rw [e,show v = [] from hv,List.append_nil]; exact hu,fun h=>⟨w,h,[],rfl,(List.append_nil w).symm⟩⟩
theorem er {ps:List (List (List α))} {p:List (List α)} {w:List α}:Cat (ps ++ [p]) w ↔ ∃ u v,Cat ps u/\v ∈ p/\w = u ++ v:=by
 rw [gz]
 exact ⟨fun ⟨u,v,h1,h2,h3⟩=>⟨u,v,h1,eu.mp h2,h3⟩,fun ⟨u,v,h1,h2,h3⟩=>⟨u,v,h1,eu.mpr h2,h3⟩⟩
theorem nX {ps:List (List (List α))} {w:List α} (h:[] ∈ ps):¬ Cat ps w:=by
 induction ps generalizing w with
 | nil=>cases h
 | cons p ps ih =>
  rintro ⟨u,hu,v,hv,rfl⟩
  rcases List.mem_cons.mp h with rfl | h
  .cases hu
  .exact ih h hv
noncomputable def sh:List (List α)->Nat
 | []=>0
 | w :: ws=>(ws.map List.length).foldl min w.length
theorem kL (xs:List Nat) (a:Nat):(xs.foldl min a ≤ a/\∀ x ∈ xs,xs.foldl min a ≤ x)/\(xs.foldl min a = a\/xs.foldl min a ∈ xs):=by
 induction xs generalizing a with
 | nil=>exact ⟨⟨Nat.le_refl _,fun z0 h=>by contradiction⟩,.inl rfl⟩
 | cons x xs ih =>
  obtain ⟨⟨h1,h2⟩,h3⟩:=ih (min a x)
  refine ⟨⟨Nat.le_trans h1 (Nat.min_le_left _ _),fun y hy=>?_⟩,?_⟩
  .rcases List.mem_cons.mp hy with rfl | hy
   .exact Nat.le_trans h1 (Nat.min_le_right _ _)
   .exact h2 y hy
  .rcases h3 with h3 | h3
   .by_cases q:a ≤ x
    .exact .inl (h3.trans (Nat.min_eq_left q))
    .exact .inr (by rw [List.foldl_cons,h3,Nat.min_eq_right (by omega)]; exact .head _)
   .exact .inr (.tail _ h3)
theorem tu {p:List (List α)} {w:List α} (h:w ∈ p):sh p ≤ w.length:=by
 induction p using List.casesOn with
 | nil=>cases h
 | cons u us =>
  have:=(kL (us.map List.length) u.length).1
  rcases List.mem_cons.mp h with rfl | h
  .exact this.1
  .exact this.2 _ (List.mem_map.mpr ⟨w,h,rfl⟩)
theorem rO {p:List (List α)} (h:p ≠ []):∃ w ∈ p,w.length = sh p:=by
 induction p using List.casesOn with
 | nil=>exact absurd rfl h
 | cons u us =>
  rcases (kL (us.map List.length) u.length).2 with q | q
  .exact ⟨u,.head _,q.symm⟩
  .obtain ⟨w,hw,e⟩:=List.mem_map.mp q
   exact ⟨w,.tail _ hw,e⟩
theorem qX (w:List α) (ws:List (List α)):(ws.map fun w=>(w.length:Int)).foldl min (w.length:Int) = (sh (w :: ws):Int):=by
 have:∀ (ws:List (List α)) (a:Nat),(ws.map fun w=>(w.length:Int)).foldl min (a:Int) = (((ws.map List.length).foldl min a:Nat):Int):=by
  intro ws
  induction ws with
  | nil=>intro a; rfl
  | cons x xs ih =>
   intro a
   rw [List.map_cons,List.foldl_cons,List.map_cons,List.foldl_cons,<- ih]
   congr 1
   exact (Lean.Omega.Int.ofNat_min _ _).symm
 exact this ws w.length
noncomputable def rest (ps:List (List (List α))) (j:Nat):Nat:=((ps.drop j).map sh).sum
theorem nF {ps:List (List (List α))} {j:Nat} {p:List (List α)} (h:ps[j]? = some p):rest ps j = sh p + rest ps (j + 1):=by
 unfold rest
 obtain ⟨hj,rfl⟩:=List.getElem?_eq_some_iff.mp h
 rw [List.drop_eq_getElem_cons hj,List.map_cons,List.sum_cons]
theorem pn {ps:List (List (List α))}:rest ps ps.length = 0:=by
 unfold rest; rw [List.drop_length]; rfl
theorem pad {ps:List (List (List α))} (h:∀ p ∈ ps,p ≠ []):∃ z,Cat ps z/\z.length = (ps.map sh).sum:=by
 induction ps with
 | nil=>exact ⟨[],rfl,rfl⟩
 | cons p ps ih =>
  obtain ⟨z,hz,e⟩:=ih fun q hq=>h q (.tail _ hq)
  obtain ⟨w,hw,e'⟩:=rO (h p (.head _))
  exact ⟨w ++ z,⟨w,hw,z,hz,rfl⟩,by rw [List.length_append,e,e',List.map_cons,List.sum_cons]⟩
theorem pA {ps:List (List (List α))} {lw:List (List α)} {L:Int} (j:Nat) (hne:∀ p ∈ ps,p ≠ []) (hn:lw.Nodup) (hl:∀ w ∈ lw,Cat (ps.take j) w/\(w.length:Int) ≤ L - rest ps j) :
  ∃ ws:List (List α),ws.Nodup/\ws.length = lw.length/\∀ w ∈ ws,Cat ps w/\(w.length:Int) ≤ L:=by
 obtain ⟨z,hz,e⟩:=pad (ps:=ps.drop j) fun p hp=>hne p (List.mem_of_mem_drop hp)
 refine ⟨lw.map (· ++ z),?_,List.length_map _,fun w hw=>?_⟩
 .unfold List.Nodup
  rw [List.pairwise_map]
  exact hn.imp fun q r=>q (List.append_cancel_right r)
 .obtain ⟨u,hu,rfl⟩:=List.mem_map.mp hw
  obtain ⟨h1,h2⟩:=hl u hu
  refine ⟨?_,?_⟩
  .rw [<- List.take_append_drop j ps]
   exact gz.mpr ⟨u,z,h1,hz,rfl⟩
  .rw [List.length_append,e]
   unfold rest at h2
   omega
theorem az {ps:List α} {j:Nat} {p:α} (h:ps[j]? = some p):ps.take (j + 1) = ps.take j ++ [p]:=by
 rw [List.take_add_one,h]; rfl
end
end Mine.Internal
end
section
set_option backward.match.sparseCases false
namespace Mine.Internal
open PySem (Str Expr Stmt Const Operator CmpOp BoolOp UnaryOp Scope NameKind Comprehension Arguments Pos)
set_option genCtorIdx false in
inductive C where
 | nil | bad | dict0
 | cons (a b:C) | k (v:AV) | n (i:Nat) | neg (i:Int)
 | bin (o:Operator) (a b:C) | cmp (o:CmpOp) (a b:C)
 | and (es:C) | or (es:C) | not (a:C) | tr (a:C) | ite (t a b:C) | list (es:C) | tup (es:C) | dict1 (a b:C)
 | comp (fr:List (Nat × Nat)) (elt gs:C) | gen (t it fs:C) | slice (a b:C) | sub (a b:C) | attr (x:Str) (o:C) | meth (m g:Str) (o as:C)
 | fn (f:Str) (as:C) | few (as:C) | cls (f g:Str) (as:C) | blt (f:Str) (as:C) | told (fr:List (Nat × Nat)) (b:C)
 | expr (e:C) | ret (e:C) | asg (i:Nat) (e:C) | asg2 (i j:Nat) (a b:C) | asub (a k e:C) | aattr (x:Str) (o e:C)
 | ifs (ks:List Nat) (t a b:C) | whl (ks:List Nat) (t b:C) | loop (ks:List Nat) (t it b:C)
set_option genCtorIdx false in
inductive Env where
 | nil
 | put (i:Nat) (v:AV) (l:Env)
noncomputable def Env.get (l:Env) (i:Nat):Option AV:=Env.rec Option.none (fun j v z0 r=>Bool.rec r (some v) (Nat.beq i j)) l
noncomputable def prune (ks:List Nat) (l:Env):Env:=List.rec .nil (fun k z0 r=>Option.rec r (fun v=>.put k v r) (l.get k)) ks
noncomputable def innerE (fr:List (Nat × Nat)) (l:Env):Env:=List.rec .nil (fun p z0 r=>Option.rec r (fun v=>.put p.1 v r) (l.get p.2)) fr
noncomputable def slot (x:Str):List (Str × NameKind)->Option Nat
 | []=>Option.none
 | p :: r=>if p.1 = x then some 0 else (slot x r).map (· + 1)
noncomputable def isLoc:Option NameKind->Bool
 | some .local=>true
 | some .cell=>true
 | some .free=>true
 | _=>false
noncomputable def isCel:Option NameKind->Bool
 | some .cell=>true
 | some .free=>true
 | _=>false
noncomputable def compN (sc:Scope) (x:Str):C :=
 if x = "__debug__" \/ x = "__classdict__" then .bad
 else if isLoc (sc.names.lookup x) = true then (slot x sc.names).elim .bad .n
 else if sc.names.lookup x = some .globalImplicit then (consts.lookup x).elim .bad .k
 else .bad
noncomputable def ins (k:Nat):List Nat->List Nat
 | []=>[k]
 | j :: r=>if k < j then k :: j :: r else if k = j then j :: r else j :: ins k r
noncomputable def union (a b:List Nat):List Nat:=a.foldr ins b
noncomputable def tg1:C->Option Nat
 | .n i=>some i
 | _=>Option.none
noncomputable def tg2:C->Option (Nat × Nat)
 | .cons a b=>(tg1 a).bind fun i=>(tg1 b).map fun j=>(i,j)
 | _=>Option.none
noncomputable def tgs (c:C):List Nat:=(tg1 c).elim ((tg2 c).elim [] fun p=>[p.1,p.2]) fun i=>[i]
noncomputable def lv:Nat->C->List Nat->List Nat
 | 0,_,o=>o
 | m + 1,c,o=>match c with
  | .n i=>ins i o
  | .cons a b=>lv m a (lv m b o)
  | .bin _ a b=>lv m a (lv m b o)
  | .cmp _ a b=>lv m a (lv m b o)
  | .and a=>lv m a o
  | .or a=>lv m a o
  | .not a=>lv m a o
  | .tr a=>lv m a o
  | .ite t a b=>lv m t (lv m a (lv m b o))
  | .list a=>lv m a o
  | .tup a=>lv m a o
  | .dict1 a b=>lv m a (lv m b o)
  | .comp fr _ gs=>union (fr.map (·.2)) (match gs with | .cons it _=>lv m it o | _=>o)
  | .slice a b=>lv m a (lv m b o)
  | .sub a b=>lv m a (lv m b o)
  | .attr _ a=>lv m a o
  | .meth _ _ a b=>lv m a (lv m b o)
  | .fn _ a=>lv m a o
  | .few a=>lv m a o
  | .cls _ _ a=>lv m a o
  | .blt _ a=>lv m a o
  | .told fr _=>union (fr.map (·.2)) o
  | .expr a=>lv m a o
  | .ret a=>lv m a []
  | .asg i a=>lv m a (o.filter (· != i))
  | .asg2 i j a b=>lv m a (lv m b (o.filter fun k=>k != i && k != j))
  | .asub t a b=>lv m t (lv m a (lv m b o))
  | .aattr _ a b=>lv m a (lv m b o)
  | .ifs _ t a b=>lv m t (union (lv m a o) (lv m b o))
  | .whl _ a b=>lv m a (union o (lv m b o))
  | .loop _ t a b=>lv m a (union o ((lv m b o).filter fun k=>!(tgs t).contains k))
  | _=>o
noncomputable def frees (sc sc':Scope):List (Nat × Nat):=sc'.names.filterMap fun p =>
 if p.2 = .free/\isCel (sc.names.lookup p.1) = true/\sc'.names.lookup p.1 = some .free then match slot p.1 sc'.names,slot p.1 sc.names with
  | some i,some j=>some (i,j)
  | _,_=>Option.none
 else Option.none
noncomputable def el {α:Type} (o:Option α) (f:α->C):C:=o.elim .bad f
noncomputable def gd (b:Bool) (c:C):C:=cond b c .bad
noncomputable def vName (e:Expr):Option Str:=match e with
 | .Name x _=>some x
 | _=>Option.none
noncomputable def vTup (e:Expr):Option (List Expr):=match e with
 | .Tuple es _ _=>some es
 | _=>Option.none
noncomputable def vAttr (e:Expr):Option (Expr × Str × Pos):=match e with
 | .Attribute o x p=>some (o,x,p)
 | _=>Option.none
noncomputable def vSubs (e:Expr):Option (Expr × Expr):=match e with
 | .Subscript a i _=>some (a,i)
 | _=>Option.none
noncomputable def vSlice (e:Expr):Option (Option Expr):=match e with
 | .Slice lo up st _=>some (cond (lo.isNone && st.isNone) up Option.none)
 | _=>Option.none
noncomputable def constI:Const->Option Int
 | .int i=>some i
 | _=>Option.none
noncomputable def vInt (e:Expr):Option Int:=match e with
 | .Constant k _ _=>constI k
 | _=>Option.none
noncomputable def isCall (e:Expr):Bool:=match e with
 | .Call _ _ _ _=>true
 | _=>false
noncomputable def locS (sc:Scope) (x:Str):Option Nat:=cond (decide (sc.names.lookup x = some .local) || decide (sc.names.lookup x = some .cell)) (slot x sc.names) Option.none
noncomputable def compT (sc:Scope) (t:Expr):C:=(vName t).elim
 (el (vTup t) fun es=>el (two' es) fun p=>el (vName p.1) fun x=>el (vName p.2) fun y=>el (locS sc x) fun i=>el (locS sc y) fun j=>.cons (.n i) (.n j))
 fun x=>el (locS sc x) .n
noncomputable def listC (f:Expr->C):List Expr->C
 | []=>.nil
 | e :: es=>.cons (f e) (listC f es)
noncomputable def gensC (f b g:Expr->C):List Comprehension->C
 | []=>.nil
 | e :: es=>.cons (.gen (g e.target) (f e.iter) (listC b e.ifs)) (gensC f b g es)
noncomputable def compCall (f:Str) (as:C):C :=
 if f = "need_few" then .few as
 else if fnNames.contains f = true then .fn f as
 else if clsNames.contains f = true then .cls f (f ++ ".__init__") as
 else if known f = true then .blt f as
 else .bad
mutual
noncomputable def compE:Nat->Scope->Expr->C
 | 0,_,_=>.bad
 | m + 1,sc,e=>match e with
  | .Constant k _ _=>el (ofConst k) .k
  | .Name x _=>compN sc x
  | .BinOp a o b _=>.bin o (compE m sc a) (compE m sc b)
  | .UnaryOp o a _=>gd (decide (o = .USub)) (el (vInt a) .neg)
  | .BoolOp o es _=>gd (decide (o = .And)) (.and (listC (compE m sc) es))
  | .IfExp t a b _=>.ite (compB m sc t) (compE m sc a) (compE m sc b)
  | .Compare a ops bs _=>el (one ops) fun o=>el (one bs) fun b=>gd (!PySem.behindInMarks o b) (.cmp o (compE m sc a) (compE m sc b))
  | .List es _=>gd (es.all notStar) (.list (listC (compE m sc) es))
  | .Tuple es _ _=>gd (es.all notStar) (.tup (listC (compE m sc) es))
  | .Dict ks vs _=>cond (ks.isEmpty && vs.isEmpty) .dict0 (el (one ks) fun k=>el k fun a=>el (one vs) fun b=>.dict1 (compE m sc a) (compE m sc b))
  | .ListComp elt gs sc' _=>el gs.head? fun g=>gd ((gs.all fun g=>notSet g.iter && g.is_async == 0) && compIn sc' sc) (.comp (frees sc sc') (compE m sc' elt) (.cons (compE m sc g.iter) (gensC (compE m sc') (compB m sc') (compT sc') gs)))
  | .Subscript a i _=>(vSlice i).elim (.sub (compE m sc a) (compE m sc i)) fun o=>el o fun b=>.slice (compE m sc a) (compE m sc b)
  | .Attribute o x _=>gd (plainBase o) (.attr x (compE m sc o))
  | .Call f as ks p=>gd ks.isEmpty ((vAttr f).elim
   (el (vName f) fun x=>gd (decide (sc.names.lookup x = some .globalImplicit)) (cond (decide (x = "_law_told"))
    (el (one as) fun e=>el (vLam e) fun q=>gd (noParams q.1 && compIn q.2.2 sc && !q.2.2.isCoroutine && !q.2.2.isGenerator) (.told (frees sc q.2.2) (compE m q.2.2 q.2.1)))
    (gd (as.all notStar) (compCall x (listC (compE m sc) as)))))
   fun q=>gd (plainBase q.1 && as.all notStar && decide (as.length < 30) && q.2.2.endLine == p.line) (.meth q.2.1 ("Grammar." ++ q.2.1) (compE m sc q.1) (listC (compE m sc) as)))
  | _=>.bad
noncomputable def compB:Nat->Scope->Expr->C
 | 0,_,_=>.bad
 | m + 1,sc,e=>match e with
  | .UnaryOp o a _=>gd (decide (o = .Not)) (.not (compB m sc a))
  | .BoolOp o es _=>cond (decide (o = .And)) (.and (listC (compB m sc) es)) (.or (listC (compB m sc) es))
  | .IfExp _ _ _ _=>.bad
  | .Compare a ops bs _=>el (one ops) fun o=>el (one bs) fun b=>gd (!PySem.behindInMarks o b) (.cmp o (compE m sc a) (compE m sc b))
  | e=>.tr (compE m sc e)
end
noncomputable def bodyC (f:List Nat->Stmt->C) (out:List Nat):List Stmt->C
 | []=>.nil
 | s :: ss =>
  let r:=bodyC f out ss
  .cons (f (lv 40 r out) s) r
noncomputable def compS:Nat->List Nat->Scope->Stmt->C
 | 0,_,_,_=>.bad
 | m + 1,out,sc,s=>match s with
  | .Expr e _=>gd (isCall e) (.expr (compE m sc e))
  | .Return e _=>el e fun e=>.ret (compE m sc e)
  | .Assign ts e _=>el (one ts) fun t=>(vName t).elim
   ((vTup t).elim
    ((vSubs t).elim (el (vAttr t) fun q=>.aattr q.2.1 (compE m sc q.1) (compE m sc e)) fun q=>.asub (compE m sc q.1) (compE m sc q.2) (compE m sc e))
    fun es=>el (two' es) fun p=>el (vName p.1) fun x=>el (vName p.2) fun y=>el (vTup e) fun vs=>el (two' vs) fun q =>
     gd (decide (x ≠ y) && notStar q.1 && notStar q.2 && (!([q.1,q.2].all (PySem.constantsAlone 8)) || [q.1,q.2].all (PySem.foldedForSure 8))) (el (locS sc x) fun i=>el (locS sc y) fun j=>.asg2 i j (compE m sc q.1) (compE m sc q.2)))
   fun x=>gd (notSD e) (el (locS sc x) fun i=>.asg i (compE m sc e))
  | .If t a b _=>.ifs out (compB m sc t) (bodyC (fun o=>compS m o sc) out a) (bodyC (fun o=>compS m o sc) out b)
  | .While t b e _=>gd e.isEmpty (
    let t':=compB m sc t
    let ks:=lv 40 t' (union out (lv 40 (bodyC (fun o=>compS m o sc) out b) out))
    .whl ks t' (bodyC (fun o=>compS m o sc) ks b))
  | .For t it b e _=>gd (e.isEmpty && notSet it) (
    let ks:=union out ((lv 40 (bodyC (fun o=>compS m o sc) out b) out).filter fun k=>!(tgs (compT sc t)).contains k)
    .loop ks (compT sc t) (compE m sc it) (bodyC (fun o=>compS m o sc) ks b))
  | _=>.bad
structure Fr where
 fz:Nat
 tb:Bool
 X:Prop
 R:AV->ac->Prop
noncomputable def Fr.noX (F:Fr):Fr:=⟨F.fz,false,False,F.R⟩
noncomputable abbrev Ko (α:Type):=α->ac->Prop
structure Vm where
 E:C->Env->ac->Ko AV->Prop
 T:C->Env->ac->Ko Bool->Prop
 S:C->Env->ac->Ko Env->Prop
 call:Str->List AV->MM AV
 fz:Nat
 X:Prop
noncomputable def vIf (b:Bool) (A B:Prop):Prop:=Bool.rec B A b
noncomputable def kPush (v:AV) (K:Ko (List AV)):Ko (List AV):=fun vs σ=>K (v :: vs) σ
noncomputable def kArg (f:C->Env->ac->Ko (List AV)->Prop) (b:C) (l:Env) (K:Ko (List AV)):Ko AV:=fun v σ=>f b l σ (kPush v K)
noncomputable def vL (r:Vm):Nat->C->Env->ac->Ko (List AV)->Prop
 | 0,_,_,_,_=>False
 | m + 1,es,l,σ,K=>match es with
  | .nil=>K [] σ
  | .cons a b=>r.E a l σ (kArg (vL r m) b l K)
  | _=>False
noncomputable def kAll (f:C->Env->ac->Ko Bool->Prop) (b:C) (l:Env) (K:Ko Bool):Ko Bool:=fun t σ=>vIf t (f b l σ K) (K false σ)
noncomputable def vAll (r:Vm):Nat->C->Env->ac->Ko Bool->Prop
 | 0,_,_,_,_=>False
 | m + 1,es,l,σ,K=>match es with
  | .nil=>K true σ
  | .cons a b=>r.T a l σ (kAll (vAll r m) b l K)
  | _=>False
noncomputable def kAny (f:C->Env->ac->Ko Bool->Prop) (b:C) (l:Env) (K:Ko Bool):Ko Bool:=fun t σ=>vIf t (K true σ) (f b l σ K)
noncomputable def vAny (r:Vm):Nat->C->Env->ac->Ko Bool->Prop
 | 0,_,_,_,_=>False
 | m + 1,es,l,σ,K=>match es with
  | .nil=>K false σ
  | .cons a b=>r.T a l σ (kAny (vAny r m) b l K)
  | _=>False
noncomputable def vTr (v:AV) (P:Bool->Prop):Prop:=match v with
 | .none=>P false
 | .bool b=>P b
 | _=>False
noncomputable def kAnd (f:C->Env->ac->Ko AV->Prop) (b:C) (l:Env) (K:Ko AV):Ko AV:=fun v σ=>vTr v fun t=>vIf t (f b l σ K) (K v σ)
noncomputable def vAnd (r:Vm):Nat->C->Env->ac->Ko AV->Prop
 | 0,_,_,_,_=>False
 | m + 1,es,l,σ,K=>match es with
  | .cons a b=>(match b with
   | .nil=>r.E a l σ K
   | _=>r.E a l σ (kAnd (vAnd r m) b l K))
  | _=>False
noncomputable def kSeq (f:C->Env->ac->Ko Env->Prop) (ss:C) (K:Ko Env):Ko Env:=fun l σ=>f ss l σ K
noncomputable def vSs (r:Vm):Nat->C->Env->ac->Ko Env->Prop
 | 0,_,_,_,_=>False
 | m + 1,c,l,σ,K=>match c with
  | .nil=>K l σ
  | .cons s ss=>r.S s l σ (kSeq (vSs r m) ss K)
  | _=>False
noncomputable def kBin2 (r:Vm) (o:Operator) (x:AV) (K:Ko AV):Ko AV:=fun y σ=>wp (binop o x y) σ K r.X
noncomputable def kBin1 (o:Operator) (b:C) (r:Vm) (l:Env) (K:Ko AV):Ko AV:=fun x σ=>r.E b l σ (kBin2 r o x K)
noncomputable def kCmp2 (r:Vm) (o:CmpOp) (x:AV) (K:Ko Bool):Ko AV:=fun y σ=>wp (cmpV o x y) σ K r.X
noncomputable def kCmp1 (o:CmpOp) (b:C) (r:Vm) (l:Env) (K:Ko Bool):Ko AV:=fun x σ=>r.E b l σ (kCmp2 r o x K)
noncomputable def kB (K:Ko AV):Ko Bool:=fun b σ=>K (.bool b) σ
noncomputable def kNot (K:Ko Bool):Ko Bool:=fun b σ=>K (!b) σ
noncomputable def kTr (K:Ko Bool):Ko AV:=fun v σ=>vTr v fun b=>K b σ
noncomputable def kIte (a b:C) (r:Vm) (l:Env) (K:Ko AV):Ko Bool:=fun t σ=>vIf t (r.E a l σ K) (r.E b l σ K)
noncomputable def kMkL (r:Vm) (K:Ko AV):Ko (List AV):=fun vs σ=>wp (mkL vs) σ K r.X
noncomputable def kMkT (r:Vm) (K:Ko AV):Ko (List AV):=fun vs σ=>wp (mkT vs) σ K r.X
noncomputable def kD3 (i:Nat) (K:Ko AV):Ko Unit:=fun z0 σ=>K (.obj i) σ
noncomputable def kD2 (r:Vm) (i:Nat) (x:AV) (K:Ko AV):Ko AV:=fun y σ=>wp (setW r.fz (.obj i) x y) σ (kD3 i K) r.X
noncomputable def kD1 (b:C) (r:Vm) (i:Nat) (l:Env) (K:Ko AV):Ko AV:=fun x σ=>r.E b l σ (kD2 r i x K)
noncomputable def kSl2 (r:Vm) (x:AV) (K:Ko AV):Ko AV:=fun y σ=>match y with
 | .int n=>wp (sliceTo x n) σ K r.X
 | _=>False
noncomputable def kSl1 (b:C) (r:Vm) (l:Env) (K:Ko AV):Ko AV:=fun x σ=>r.E b l σ (kSl2 r x K)
noncomputable def kSub2 (r:Vm) (x:AV) (K:Ko AV):Ko AV:=fun y σ=>wp (subscr x y) σ K r.X
noncomputable def kSub1 (b:C) (r:Vm) (l:Env) (K:Ko AV):Ko AV:=fun x σ=>r.E b l σ (kSub2 r x K)
noncomputable def kAttr (x:Str) (r:Vm) (K:Ko AV):Ko AV:=fun v σ=>wp (getAt v x) σ K r.X
noncomputable def kM3 (m g:Str) (r:Vm) (v:AV) (t:Bool) (K:Ko AV):Ko (List AV):=fun vs σ=>vIf t (wp (listM r.fz v m vs) σ K r.X) (wp (r.call g (v :: vs)) σ K r.X)
noncomputable def kM2 (m g:Str) (as:C) (r:Vm) (v:AV) (l:Env) (K:Ko AV):Ko Bool:=fun t σ=>vL r 40 as l σ (kM3 m g r v t K)
noncomputable def kM1 (m g:Str) (as:C) (r:Vm) (l:Env) (K:Ko AV):Ko AV:=fun v σ=>wp (tagOf v m) σ (kM2 m g as r v l K) r.X
noncomputable def kFn (f:Str) (r:Vm) (K:Ko AV):Ko (List AV):=fun vs σ=>wp (r.call f vs) σ K r.X
noncomputable def kBlt (f:Str) (r:Vm) (K:Ko AV):Ko (List AV):=fun vs σ=>wp (bltV f vs) σ K r.X
noncomputable def kFew (r:Vm) (K:Ko AV):Ko (List AV):=fun vs σ=>(two' vs).elim False fun p=>(intV p.1).elim False fun n=>(intV p.2).elim False fun m=>vIf (decide (n > m)) r.X (K .none σ)
noncomputable def kNew (i:Nat) (K:Ko AV):Ko AV:=fun x σ=>x = .none/\K (.obj i) σ
noncomputable def kCls (f g:Str) (r:Vm) (K:Ko AV):Ko (List AV):=fun vs σ=>wp (r.call g (.obj σ.length :: vs)) (σ ++ [.inst f []]) (kNew σ.length K) r.X
noncomputable def kExpr (l:Env) (K:Ko Env):Ko AV:=fun z0 σ=>K l σ
noncomputable def kAsg (i:Nat) (l:Env) (K:Ko Env):Ko AV:=fun v σ=>K (.put i v l) σ
noncomputable def kA2 (i j:Nat) (v:AV) (l:Env) (K:Ko Env):Ko AV:=fun w σ=>K (.put j w (.put i v l)) σ
noncomputable def kA1 (i j:Nat) (b:C) (r:Vm) (l:Env) (K:Ko Env):Ko AV:=fun v σ=>r.E b l σ (kA2 i j v l K)
noncomputable def kU (l:Env) (K:Ko Env):Ko Unit:=fun z0 σ=>K l σ
noncomputable def kU3 (r:Vm) (v x:AV) (l:Env) (K:Ko Env):Ko AV:=fun y σ=>wp (setSub r.fz x y v) σ (kU l K) r.X
noncomputable def kU2 (k:C) (r:Vm) (v:AV) (l:Env) (K:Ko Env):Ko AV:=fun x σ=>r.E k l σ (kU3 r v x l K)
noncomputable def kU1 (a k:C) (r:Vm) (l:Env) (K:Ko Env):Ko AV:=fun v σ=>r.E a l σ (kU2 k r v l K)
noncomputable def kV2 (x:Str) (r:Vm) (v:AV) (l:Env) (K:Ko Env):Ko AV:=fun y σ=>wp (setAt r.fz y x v) σ (kU l K) r.X
noncomputable def kV1 (x:Str) (o:C) (r:Vm) (l:Env) (K:Ko Env):Ko AV:=fun v σ=>r.E o l σ (kV2 x r v l K)
noncomputable def kPr (ks:List Nat) (K:Ko Env):Ko Env:=fun l σ=>K (prune ks l) σ
noncomputable def kIf (ks:List Nat) (a b:C) (r:Vm) (l:Env) (K:Ko Env):Ko Bool:=fun t σ=>vIf t (vSs r 40 a l σ (kPr ks K)) (vSs r 40 b l σ (kPr ks K))
noncomputable def kEnd (Q:Ko AV):Ko Env:=fun z0 σ=>Q .none σ
noncomputable def Ctx.val (c:Ctx) (x:Str):Option AV:=match c.kind x with
 | some .local=>c.loc x
 | some .cell=>c.cel x
 | some .free=>c.cel x
 | _=>Option.none
structure aw (c:Ctx) (sc:Scope) (F:Fr) (l:Env):Prop where
 hsc:c.sc = sc
 hfz:c.fz = F.fz
 htb:c.tab = F.tb
 val:∀ x i v,slot x sc.names = some i->l.get i = some v->c.val x = some v
structure rM (n:Nat) (ks:List Nat) (t b:C) (F:Fr) (src:AV) (l:Env) (σ:ac) (K:Ko Env):Prop where
 run:∀ m out sc t' b' c,compT sc t' = t->bodyC (fun o=>compS m o sc) out b' = b->aw c sc F l->wp (walkAll src (fun v (c:Ctx)=>do
   let c' <- bindTo t' v c
   match <- evSs (mach W n) b' c' with
   | .next c''=>MM.pure (.inl c'')
   | .ret v=>MM.pure (.inr v)) c) σ (fun o σ'=>match o with
    | .inl c'=>∃ l',aw c' sc F l'/\K l' σ'
    | .inr v=>F.R v σ') F.X
structure tL (n:Nat) (ks:List Nat) (t b:C) (F:Fr) (l:Env) (σ:ac) (K:Ko Env):Prop where
 run:∀ m out sc t' b' c,compB m sc t' = t->bodyC (fun o=>compS m o sc) out b' = b->aw c sc F l->wp (whileL (mach W n) t' b' W c) σ (fun o σ'=>match o with
    | .next c'=>∃ l',aw c' sc F l'/\K l' σ'
    | .ret v=>F.R v σ') F.X
structure SCl (n:Nat) (elt gs:C) (F:Fr) (src:AV) (l:Env) (a:List AV) (σ:ac) (K:Ko (List AV)):Prop where
 run:∀ m sc e' gs' c,compE m sc e' = elt->gensC (compE m sc) (compB m sc) (compT sc) gs' = gs->aw c sc F l->wp (clause (mach W n) e' gs' src c a) σ (fun p σ'=>aw p.1 sc F l/\K p.2 σ') F.X
noncomputable def kFor (n:Nat) (ks:List Nat) (t b:C) (F:Fr) (l:Env) (K:Ko Env):Ko AV:=fun src σ=>rM n ks t b F src (prune ks l) σ K
noncomputable def kComp (n:Nat) (elt gs:C) (F:Fr) (r:Vm) (l:Env) (K:Ko AV):Ko AV:=fun src σ=>SCl n elt gs F.noX src l [] σ (kMkL r K)
noncomputable def vE (n:Nat) (F:Fr) (r:Vm) (q:Fr->Vm) (e:C) (l:Env) (σ:ac) (K:Ko AV):Prop :=
 match e with
 | .k v=>K v σ
 | .n i=>(match l.get i with
  | some v=>K v σ
  | Option.none=>False)
 | .bin o a b=>r.E a l σ (kBin1 o b r l K)
 | .neg i=>wp (mkI (-i)) σ K r.X
 | .and es=>vAnd r 40 es l σ K
 | .ite t a b=>r.T t l σ (kIte a b r l K)
 | .cmp o a b=>r.E a l σ (kCmp1 o b r l (kB K))
 | .list es=>vL r 40 es l σ (kMkL r K)
 | .tup es=>vL r 40 es l σ (kMkT r K)
 | .dict0=>K (.obj σ.length) (σ ++ [.wset []])
 | .dict1 a b=>r.E a l (σ ++ [.wset []]) (kD1 b r σ.length l K)
 | .comp fr elt gs=>(match gs with
  | .cons it gs=>r.E it l σ (kComp n elt gs F r (innerE fr l) K)
  | _=>False)
 | .slice a b=>r.E a l σ (kSl1 b r l K)
 | .sub a b=>r.E a l σ (kSub1 b r l K)
 | .attr x o=>r.E o l σ (kAttr x r K)
 | .meth m g o as=>r.E o l σ (kM1 m g as r l K)
 | .fn f as=>vL r 40 as l σ (kFn f r K)
 | .few as=>vL r 40 as l σ (kFew r K)
 | .cls f g as=>vL r 40 as l σ (kCls f g r K)
 | .blt f as=>vL r 40 as l σ (kBlt f r K)
 | .told fr b=>F.fz = 0/\F.tb = true/\σ.length ≠ 0/\(q ⟨σ.length,false,K .none σ,K⟩).E b (innerE fr l) σ K
 | _=>False
noncomputable def vT (r:Vm) (e:C) (l:Env) (σ:ac) (K:Ko Bool):Prop :=
 match e with
 | .not a=>r.T a l σ (kNot K)
 | .and es=>vAll r 40 es l σ K
 | .or es=>vAny r 40 es l σ K
 | .cmp o a b=>r.E a l σ (kCmp1 o b r l K)
 | .tr e=>r.E e l σ (kTr K)
 | _=>False
noncomputable def vS (n:Nat) (F:Fr) (r:Vm) (s:C) (l:Env) (σ:ac) (K:Ko Env):Prop :=
 match s with
 | .expr e=>r.E e l σ (kExpr l K)
 | .ret e=>r.E e l σ F.R
 | .asg i e=>r.E e l σ (kAsg i l K)
 | .asg2 i j a b=>r.E a l σ (kA1 i j b r l K)
 | .asub a k e=>r.E e l σ (kU1 a k r l K)
 | .aattr x o e=>r.E e l σ (kV1 x o r l K)
 | .ifs ks t a b=>r.T t l σ (kIf ks a b r l K)
 | .whl ks t b=>tL n ks t b F (prune ks l) σ K
 | .loop ks t it b=>r.E it l σ (kFor n ks t b F l K)
 | _=>False
noncomputable def vm:Nat->Fr->Vm
 | 0,F=>⟨fun z0 z0 z0 z0=>False,fun z0 z0 z0 z0=>False,fun z0 z0 z0 z0=>False,fun z0 z0=>MM.stuck,F.fz,F.X⟩
 | n + 1,F=>⟨vE n F (vm n F) (vm n),vT (vm n F),vS n F (vm n F),fun f vs=>(mach W (n + 1)).F f F.fz vs,F.fz,F.X⟩
theorem vmX (n:Nat) (F:Fr):(vm n F).X = F.X:=by cases n <;> rfl
theorem vmz (n:Nat) (F:Fr):(vm n F).fz = F.fz:=by cases n <;> rfl
theorem vmC (n:Nat) (F:Fr) (f:Str) (vs:List AV):(vm n F).call f vs = (mach W n).F f F.fz vs:=by cases n <;> rfl
theorem vx {n:Nat} {F:Fr} {α:Type} {m:MM α} {σ:ac} {K:Ko α} (h:wp m σ K (vm n F).X):wp m σ K F.X:=vmX n F ▸ h
theorem jG {x y:Str} {l:List (Str × NameKind)} {i:Nat} (h1:slot x l = some i) (h2:slot y l = some i):x = y:=by
 induction l generalizing i with
 | nil=>exact nomatch h1
 | cons p r ih =>
  unfold slot at h1 h2
  by_cases hx:p.1 = x
  .rw [if_pos hx] at h1
   injection h1 with h1
   subst h1
   by_cases hy:p.1 = y
   .exact hx.symm.trans hy
   .rw [if_neg hy] at h2
    induction hq:slot y r using Option.casesOn with
    | none=>rw [hq] at h2; exact nomatch h2
    | some j=>rw [hq] at h2; injection h2 with h2; exact nomatch h2
  .rw [if_neg hx] at h1
   induction hq:slot x r using Option.casesOn with
   | none=>rw [hq] at h1; exact nomatch h1
   | some j =>
    rw [hq] at h1
    injection h1 with h1
    subst h1
    by_cases hy:p.1 = y
    .rw [if_pos hy] at h2; injection h2 with h2; exact nomatch h2
    .rw [if_neg hy] at h2
     induction hq2:slot y r using Option.casesOn with
     | none=>rw [hq2] at h2; exact nomatch h2
     | some j2=>rw [hq2] at h2; injection h2 with h2; injection h2 with h2; subst h2; exact ih hq hq2
theorem ek {i j:Nat} {v:AV} {l:Env}:(Env.put j v l).get i = if i = j then some v else l.get i:=by
 show (Bool.rec (l.get i) (some v) (Nat.beq i j):Option AV) = _
 by_cases h:i = j
 .subst h
  rw [if_pos rfl,Nat.beq_refl]
 .rw [if_neg h]
  cases hb:Nat.beq i j
  .rfl
  .exact absurd (Nat.eq_of_beq_eq_true hb) h
theorem nP {ks:List Nat} {l:Env} {i:Nat} {v:AV} (h:(prune ks l).get i = some v):l.get i = some v:=by
 induction ks with
 | nil=>exact nomatch h
 | cons k r ih =>
  change (Option.rec (prune r l) (fun v=>Env.put k v (prune r l)) (l.get k):Env).get i = some v at h
  induction hk:l.get k using Option.casesOn with
  | none=>rw [hk] at h; exact ih h
  | some w =>
   rw [hk] at h
   change (Env.put k w (prune r l)).get i = some v at h
   rw [ek] at h
   by_cases hi:i = k
   .rw [if_pos hi] at h; rw [hi,hk]; exact h
   .rw [if_neg hi] at h; exact ih h
section
variable {c:Ctx} {sc:Scope} {F:Fr} {l l':Env}
theorem aw.less (H:aw c sc F l) (h:∀ i v,l'.get i = some v->l.get i = some v):aw c sc F l':=⟨H.hsc,H.hfz,H.htb,fun x i v hx hi=>H.val x i v hx (h i v hi)⟩
theorem aw.prune (H:aw c sc F l) (ks:List Nat):aw c sc F (prune ks l):=H.less fun i v h=>nP h
theorem aw.kind (H:aw c sc F l) (x:Str):c.kind x = sc.names.lookup x:=by unfold Ctx.kind; rw [H.hsc]
theorem aw.put {x:Str} {i:Nat} {v:AV} {c':Ctx} (H:aw c sc F l) (hx:slot x sc.names = some i) (h1:c'.sc = c.sc/\c'.fz = c.fz/\c'.tab = c.tab) (h2:c'.val x = some v) (h3:∀ y,y ≠ x->c'.val y = c.val y):aw c' sc F (.put i v l):=by
 refine ⟨h1.1.trans H.hsc,h1.2.1.trans H.hfz,h1.2.2.trans H.htb,fun y j w hy hj=>?_⟩
 rw [ek] at hj
 by_cases hij:j = i
 .rw [if_pos hij] at hj
  subst hij
  rw [jG hy hx,h2]
  exact hj
 .rw [if_neg hij] at hj
  rw [h3 y fun e=>hij (by rw [e,hx] at hy; injection hy with hy; exact hy.symm)]
  exact H.val y j w hy hj
theorem eE {x:Str} {i:Nat} {v:AV} {σ:ac} {Q:Ctx->ac->Prop} {X:Prop} (H:aw c sc F l) (hx:slot x sc.names = some i) (hk:sc.names.lookup x = some .local\/sc.names.lookup x = some .cell) (h:∀ c',aw c' sc F (.put i v l)->Q c' σ):wp (setName x v c) σ Q X:=by
 unfold setName
 rw [H.kind]
 rcases hk with hk | hk
 .rw [hk]
  refine au (h _ (H.put hx ⟨rfl,rfl,rfl⟩ ?_ fun y hy=>?_))
  .show (match c.kind x with | some .local=>upd c.loc x v x | some .cell=>c.cel x | some .free=>c.cel x | _=>Option.none) = some v
   rw [H.kind,hk]
   exact if_pos rfl
  .show (match c.kind y with | some .local=>upd c.loc x v y | some .cell=>c.cel y | some .free=>c.cel y | _=>Option.none) = (match c.kind y with | some .local=>c.loc y | some .cell=>c.cel y | some .free=>c.cel y | _=>Option.none)
   unfold upd
   rw [if_neg hy]
 .rw [hk]
  refine au (h _ (H.put hx ⟨rfl,rfl,rfl⟩ ?_ fun y hy=>?_))
  .show (match c.kind x with | some .local=>c.loc x | some .cell=>upd c.cel x v x | some .free=>upd c.cel x v x | _=>Option.none) = some v
   rw [H.kind,hk]
   exact if_pos rfl
  .show (match c.kind y with | some .local=>c.loc y | some .cell=>upd c.cel x v y | some .free=>upd c.cel x v y | _=>Option.none) = (match c.kind y with | some .local=>c.loc y | some .cell=>c.cel y | some .free=>c.cel y | _=>Option.none)
   unfold upd
   rw [if_neg hy]
theorem qz {x:Str} {i:Nat} {v:AV} {σ:ac} {Q:AV->ac->Prop} {X:Prop} (H:aw c sc F l) (hx:slot x sc.names = some i) (hg:l.get i = some v) (hd:¬ (x = "__debug__" \/ x = "__classdict__")) (h:Q v σ):wp (getName x c) σ Q X:=by
 have hv:=H.val x i v hx hg
 unfold Ctx.val at hv
 unfold getName
 rw [if_neg hd]
 rw [H.kind] at hv ⊢
 induction hk:sc.names.lookup x using Option.casesOn with
 | none=>rw [hk] at hv; exact nomatch hv
 | some kd =>
  rw [hk] at hv
  induction kd using PySem.NameKind.casesOn with
  | «local»=>exact cr hv h
  | cell=>exact cr hv h
  | free=>exact cr hv h
  | globalExplicit=>exact nomatch hv
  | globalImplicit=>exact nomatch hv
theorem nQ {fr:List (Nat × Nat)} {i:Nat} {v:AV} (h:(innerE fr l).get i = some v):∃ j,(i,j) ∈ fr/\l.get j = some v:=by
 induction fr with
 | nil=>exact nomatch h
 | cons p r ih =>
  change (Option.rec (innerE r l) (fun v=>Env.put p.1 v (innerE r l)) (l.get p.2):Env).get i = some v at h
  induction hk:l.get p.2 using Option.casesOn with
  | none=>rw [hk] at h; obtain ⟨j,h1,h2⟩:=ih h; exact ⟨j,.tail _ h1,h2⟩
  | some w =>
   rw [hk] at h
   change (Env.put p.1 w (innerE r l)).get i = some v at h
   rw [ek] at h
   by_cases hi:i = p.1
   .rw [if_pos hi] at h; rw [hi]; exact ⟨p.2,.head _,hk.trans h⟩
   .rw [if_neg hi] at h; obtain ⟨j,h1,h2⟩:=ih h; exact ⟨j,.tail _ h1,h2⟩
theorem nK {sc sc':Scope} {i j:Nat} (h:(i,j) ∈ frees sc sc'):∃ x,slot x sc'.names = some i/\slot x sc.names = some j/\isCel (sc.names.lookup x) = true/\sc'.names.lookup x = some .free:=by
 unfold frees at h
 rw [List.mem_filterMap] at h
 obtain ⟨p,hp,h⟩:=h
 by_cases hc:p.2 = .free/\isCel (sc.names.lookup p.1) = true/\sc'.names.lookup p.1 = some .free
 .rw [if_pos hc] at h
  induction h1:slot p.1 sc'.names using Option.casesOn with
  | none=>rw [h1] at h; exact nomatch h
  | some a =>
   induction h2:slot p.1 sc.names using Option.casesOn with
   | none=>rw [h1,h2] at h; exact nomatch h
   | some b=>rw [h1,h2] at h; injection h with h; injection h with h3 h4; subst h3; subst h4; exact ⟨p.1,h1,h2,hc.2⟩
 .rw [if_neg hc] at h; exact nomatch h
theorem aw.inner {F':Fr} {c':Ctx} {sc':Scope} (H:aw c sc F l) (h1:c'.sc = sc') (h2:c'.fz = F'.fz) (h3:c'.tab = F'.tb) (h4:c'.cel = c.cel):aw c' sc' F' (innerE (frees sc sc') l):=by
 refine ⟨h1,h2,h3,fun x i v hx hi=>?_⟩
 obtain ⟨j,hf,hj⟩:=nQ hi
 obtain ⟨y,a,b,d,e⟩:=nK hf
 have:=jG hx a
 subst this
 have hv:=H.val x j v b hj
 unfold Ctx.val at hv ⊢
 rw [show c'.kind x = some .free by unfold Ctx.kind; rw [h1]; exact e]
 rw [H.kind] at hv
 show c'.cel x = some v
 rw [h4]
 induction hk:sc.names.lookup x using Option.casesOn with
 | none=>rw [hk] at d; exact nomatch d
 | some kd =>
  rw [hk] at d hv
  induction kd using PySem.NameKind.casesOn with
  | cell=>exact hv
  | free=>exact hv
  | «local»=>exact nomatch d
  | globalExplicit=>exact nomatch d
  | globalImplicit=>exact nomatch d
end
section
variable {P:C->Prop} {c:C} {b:Bool}
theorem mz {α:Type} {o:Option α} {f:α->C} (hb:¬ P .bad) (h:P (el o f)):∃ a,o = some a/\P (f a):=by
 induction o using Option.casesOn with
 | none=>exact absurd h hb
 | some a=>exact ⟨a,rfl,h⟩
theorem pV (hb:¬ P .bad) (h:P (gd b c)):b = true/\P c:=by
 induction b using Bool.casesOn with
 | false=>exact absurd h hb
 | true=>exact ⟨rfl,h⟩
end
theorem cC {e:Expr} {x:Str} (h:vName e = some x):∃ p,e = .Name x p:=by
 induction e using Expr.casesOn with
 | Name y p=>injection h with h; exact ⟨p,by rw [h]⟩
 | _=>exact nomatch h
theorem lu {e:Expr} {es:List Expr} (h:vTup e = some es):∃ k p,e = .Tuple es k p:=by
 induction e using Expr.casesOn with
 | Tuple y k p=>injection h with h; exact ⟨k,p,by rw [h]⟩
 | _=>exact nomatch h
theorem mA {e:Expr} {q:Expr × Str × Pos} (h:vAttr e = some q):e = .Attribute q.1 q.2.1 q.2.2:=by
 induction e using Expr.casesOn with
 | Attribute a x p=>injection h with h; rw [<- h]
 | _=>exact nomatch h
theorem qI {e:Expr} {q:Expr × Expr} (h:vSubs e = some q):∃ p,e = .Subscript q.1 q.2 p:=by
 induction e using Expr.casesOn with
 | Subscript a x p=>injection h with h; exact ⟨p,by rw [<- h]⟩
 | _=>exact nomatch h
theorem oP {e:Expr} (h:vSlice e = Option.none):noSlice e = true:=by
 induction e using Expr.casesOn with
 | Slice _ _ _ _=>exact nomatch h
 | _=>rfl
theorem oQ {e b:Expr} (h:vSlice e = some (some b)):∃ p,e = .Slice Option.none (some b) Option.none p:=by
 induction e using Expr.casesOn with
 | Slice lo up st p =>
  injection h with h
  induction lo using Option.casesOn with
  | some _=>exact nomatch h
  | none=>induction st using Option.casesOn with
   | some _=>exact nomatch h
   | none=>exact ⟨p,by rw [show up = some b from h]⟩
 | _=>exact nomatch h
theorem sH {e:Expr} {i:Int} (h:vInt e = some i):∃ n p,e = .Constant (.int i) n p:=by
 induction e using Expr.casesOn with
 | Constant k n p=>induction k using PySem.Const.casesOn with
  | int j=>injection h with h; exact ⟨n,p,by rw [h]⟩
  | _=>exact nomatch h
 | _=>exact nomatch h
theorem rD {e:Expr} (h:isCall e = true):∃ f as ks p,e = .Call f as ks p:=by
 induction e using Expr.casesOn with
 | Call f as ks p=>exact ⟨f,as,ks,p,rfl⟩
 | _=>exact nomatch h
theorem cf {sc:Scope} {x:Str} {i:Nat} (h:locS sc x = some i):slot x sc.names = some i/\(sc.names.lookup x = some .local\/sc.names.lookup x = some .cell):=by
 unfold locS at h
 induction hc:(decide (sc.names.lookup x = some .local) || decide (sc.names.lookup x = some .cell)) using Bool.casesOn with
 | false=>rw [hc] at h; exact nomatch h
 | true =>
  rw [hc] at h
  rw [Bool.or_eq_true,decide_eq_true_eq,decide_eq_true_eq] at hc
  exact ⟨h,hc⟩
theorem elimF {α:Type} {o:Option α} {f:α->Prop} (h:o.elim False f):∃ a,o = some a/\f a:=by
 induction o using Option.casesOn with
 | none=>exact h.elim
 | some a=>exact ⟨a,rfl,h⟩
noncomputable def lift (sc:Scope) (F:Fr) (K:Ko Env):Fl->ac->Prop:=fun fl σ=>match fl with
 | .next c'=>∃ l',aw c' sc F l'/\K l' σ
 | .ret v=>F.R v σ
structure cI (n:Nat):Prop where
 E:∀ {F sc m e c l σ K},aw c sc F l->(vm n F).E (compE m sc e) l σ K->wp ((mach W n).E e c) σ K F.X
 T:∀ {F sc m e c l σ K},aw c sc F l->(vm n F).T (compB m sc e) l σ K->wp ((mach W n).T e c) σ K F.X
 S:∀ {F sc m out s c l σ K},aw c sc F l->(vm n F).S (compS m out sc s) l σ K->wp ((mach W n).S s c) σ (lift sc F K) F.X
section
variable {n:Nat} {F:Fr} {sc:Scope} {m:Nat} {c:Ctx} {l:Env}
theorem cI.L (D:cI n) (H:aw c sc F l):∀ (j:Nat) {es:List Expr} {σ:ac} {K:Ko (List AV)},es.all notStar = true->vL (vm n F) j (listC (compE m sc) es) l σ K->wp (evL (mach W n) es c) σ K F.X
 | 0,_,_,_,_,h=>h.elim
 | j + 1,[],_,_,_,h=>h
 | j + 1,e :: es,_,K,hn,h=>by
  have hn:(notStar e && es.all notStar) = true:=hn
  rw [Bool.and_eq_true] at hn
  exact qB hn.1 (ah (D.E H h) (fun v σ' h=>ah (D.L H j hn.2 h) (fun vs σ'' h=>h) id) id)
theorem cI.All (D:cI n) (H:aw c sc F l):∀ (j:Nat) {es:List Expr} {σ:ac} {K:Ko Bool},vAll (vm n F) j (listC (compB m sc) es) l σ K->wp (allT (mach W n) es c) σ K F.X
 | 0,_,_,_,h=>h.elim
 | j + 1,[],_,_,h=>h
 | j + 1,e :: es,_,K,h=>sj (ah (D.T H h) (fun t σ' h=>by
  cases t
  .exact h
  .exact D.All H j h) id)
theorem cI.Any (D:cI n) (H:aw c sc F l):∀ (j:Nat) {es:List Expr} {σ:ac} {K:Ko Bool},vAny (vm n F) j (listC (compB m sc) es) l σ K->wp (anyT (mach W n) es c) σ K F.X
 | 0,_,_,_,h=>h.elim
 | j + 1,[],_,_,h=>h
 | j + 1,e :: es,_,K,h=>qH (ah (D.T H h) (fun t σ' h=>by
  cases t
  .exact D.Any H j h
  .exact h) id)
theorem oB {v:AV} {σ:ac} {K:Ko Bool} {X:Prop} (h:vTr v fun b=>K b σ):wp (truth v) σ K X:=by
 cases v <;> first | exact h | exact h.elim
theorem cI.And (D:cI n) (H:aw c sc F l):∀ (j:Nat) {es:List Expr} {σ:ac} {K:Ko AV},vAnd (vm n F) j (listC (compE m sc) es) l σ K->wp (evAnd (mach W n) es c) σ K F.X
 | 0,_,_,_,h=>h.elim
 | j + 1,[],_,_,h=>h.elim
 | j + 1,[e],_,_,h=>D.E H h
 | j + 1,e :: e' :: es,_,K,h=>by
  show wp (do let v <- (mach W n).E e c; let t <- truth v; if t then evAnd (mach W n) (e' :: es) c else MM.pure v) _ K F.X
  refine ag (ah (D.E H h) (fun v σ' h=>ag (ah (oB (K:=fun t σ=>vIf t (vAnd (vm n F) j (listC (compE m sc) (e' :: es)) l σ K) (K v σ)) h) (fun t σ'' h=>?_) id)) id)
  cases t
  .exact au h
  .exact D.And H j h
theorem cI.Ss (D:cI n) {F:Fr} {sc:Scope} {m:Nat} {out:List Nat}:∀ (j:Nat) {ss:List Stmt} {c:Ctx} {l:Env} {σ:ac} {K:Ko Env},aw c sc F l->vSs (vm n F) j (bodyC (fun o=>compS m o sc) out ss) l σ K->wp (evSs (mach W n) ss c) σ (lift sc F K) F.X
 | 0,_,_,_,_,_,_,h=>h.elim
 | j + 1,[],c,l,_,K,H,h=>sp ⟨l,H,h⟩
 | j + 1,s :: ss,c,l,_,K,H,h=>qJ (ah (D.S H h) (fun fl σ' h=>by
  induction fl using Mine.Internal.Fl.casesOn with
  | next c'=>obtain ⟨l',H',h⟩:=h; exact D.Ss j H' h
  | ret v=>exact h) id)
end
theorem elE {α:Type} {n:Nat} {F:Fr} {l:Env} {σ:ac} {K:Ko AV} {o:Option α} {f:α->C} (h:vE n F (vm n F) (vm n) (el o f) l σ K):∃ a,o = some a/\vE n F (vm n F) (vm n) (f a) l σ K:=mz (P:=fun c=>vE n F (vm n F) (vm n) c l σ K) id h
theorem gdE {n:Nat} {F:Fr} {l:Env} {σ:ac} {K:Ko AV} {b:Bool} {c:C} (h:vE n F (vm n F) (vm n) (gd b c) l σ K):b = true/\vE n F (vm n F) (vm n) c l σ K:=pV (P:=fun c=>vE n F (vm n F) (vm n) c l σ K) id h
section
variable {n:Nat} {F:Fr} {sc:Scope} {m:Nat} {c:Ctx} {l:Env} {σ:ac} {K:Ko AV}
theorem rd {x:Str} (H:aw c sc F l) (h:vE n F (vm n F) (vm n) (compN sc x) l σ K):wp (getName x c) σ K F.X:=by
 unfold compN at h
 by_cases hd:x = "__debug__" \/ x = "__classdict__"
 .rw [if_pos hd] at h; exact h.elim
 .rw [if_neg hd] at h
  by_cases hl:isLoc (sc.names.lookup x) = true
  .rw [if_pos hl] at h
   induction hs:slot x sc.names using Option.casesOn with
   | none=>rw [hs] at h; exact h.elim
   | some i =>
    rw [hs] at h
    change (match l.get i with | some v=>K v σ | Option.none=>False) at h
    induction hg:l.get i using Option.casesOn with
    | none=>rw [hg] at h; exact h.elim
    | some v=>rw [hg] at h; exact qz H hs hg hd h
  .rw [if_neg hl] at h
   by_cases hk:sc.names.lookup x = some .globalImplicit
   .rw [if_pos hk] at h
    induction hc:consts.lookup x using Option.casesOn with
    | none=>rw [hc] at h; exact h.elim
    | some v =>
     rw [hc] at h
     unfold getName
     rw [if_neg hd,H.kind,hk]
     exact cr hc h
   .rw [if_neg hk] at h; exact h.elim
theorem aw.isG (H:aw c sc F l) {f:Str} (hk:sc.names.lookup f = some .globalImplicit):isGlobal f c = true:=by unfold isGlobal; rw [H.kind,hk]
theorem fB (H:aw c sc F l) {f:Str} {args:List Expr} {p q:Pos} (hk:sc.names.lookup f = some .globalImplicit) (hf:f ≠ "_law_told") (hs:(args.all notStar && known f) = true)
  (h:wp (evL (mach W n) args c) σ (fun vs σ'=>wp (callFn (mach W n) f c vs) σ' K F.X) F.X):wp ((mach W (n + 1)).E (.Call (.Name f p) args [] q) c) σ K F.X:=by
 show wp (if isGlobal f c = true then (if f = "_law_told" then _ else do
    MM.guard (args.all notStar && known f)
    let vs <- evL (mach W n) args c
    callFn (mach W n) f c vs) else MM.stuck) σ K F.X
 rw [if_pos (H.isG hk),if_neg hf]
 exact ag (al hs (ag h))
theorem rC (D:cI n) (H:aw c sc F l) {f:Str} {as:List Expr} {p q:Pos} (hk:sc.names.lookup f = some .globalImplicit) (hf:f ≠ "_law_told") (hs:as.all notStar = true)
  (h:vE n F (vm n F) (vm n) (compCall f (listC (compE m sc) as)) l σ K):wp ((mach W (n + 1)).E (.Call (.Name f p) as [] q) c) σ K F.X:=by
 unfold compCall at h
 have kn:∀ {P:Bool},known f = P->P = true->(as.all notStar && known f) = true:=fun h1 h2=>by rw [hs,h1,h2]; rfl
 by_cases h1:f = "need_few"
 .rw [if_pos h1] at h
  subst h1
  refine fB H hk hf (by rw [hs]; rfl) (ah (D.L H 40 hs h) (fun vs σ' h=>?_) id)
  unfold callFn
  rw [if_pos rfl]
  obtain ⟨p,hp,h⟩:=elimF h
  obtain ⟨a,ha,h⟩:=elimF h
  obtain ⟨b,hb,h⟩:=elimF h
  rw [dG hp,iX ha,iX hb]
  by_cases q:a > b
  .rw [decide_eq_true q] at h
   show wp (if a > b then MM.raise else MM.pure .none) σ' K F.X
   rw [if_pos q]; exact vmX n F ▸ h
  .rw [decide_eq_false q] at h
   show wp (if a > b then MM.raise else MM.pure .none) σ' K F.X
   rw [if_neg q]; exact h
 .rw [if_neg h1] at h
  by_cases h2:fnNames.contains f = true
  .rw [if_pos h2] at h
   refine fB H hk hf (by unfold known; rw [hs,h2,Bool.or_true]; rfl) (ah (D.L H 40 hs h) (fun vs σ' h=>?_) id)
   unfold callFn
   rw [if_neg h1,if_pos h2,H.hfz,<- vmC]; exact vx h
  .rw [if_neg h2] at h
   by_cases h3:clsNames.contains f = true
   .rw [if_pos h3] at h
    refine fB H hk hf (by unfold known; rw [hs,h3,Bool.or_true]; rfl) (ah (D.L H 40 hs h) (fun vs σ' h=>?_) id)
    unfold callFn
    rw [if_neg h1,if_neg h2,if_pos h3,H.hfz]
    refine ag (dX (ag (ah (vmC n F _ _ ▸ vx h) (fun x σ' h=>?_) id)))
    obtain ⟨rfl,h⟩:=h
    exact au h
   .rw [if_neg h3] at h
    by_cases h4:known f = true
    .rw [if_pos h4] at h
     refine fB H hk hf (by rw [hs,h4]; rfl) (ah (D.L H 40 hs h) (fun vs σ' h=>?_) id)
     unfold callFn
     rw [if_neg h1,if_neg h2,if_neg h3]
     have h:wp (bltV f vs) σ' K F.X:=vx h
     unfold bltV at h
     exact h
    .rw [if_neg h4] at h; exact h.elim
theorem qG (D:cI n) (H:aw c sc F l) {a:Arguments} {b:Expr} {sc':Scope} {p q lp:Pos} (hk:sc.names.lookup ("_law_told" : Str) = some NameKind.globalImplicit) (hc:(noParams a && compIn sc' sc && !sc'.isCoroutine && !sc'.isGenerator) = true)
  (h:vE n F (vm n F) (vm n) (.told (frees sc sc') (compE m sc' b)) l σ K):wp ((mach W (n + 1)).E (.Call (.Name "_law_told" p) [.Lambda a b sc' lp] [] q) c) σ K F.X:=by
 obtain ⟨h0,ht,hs,h⟩:=h
 have hco:compOk sc' c = compIn sc' sc:=by
  unfold compOk compIn
  simp only [H.kind]
 show wp (if isGlobal "_law_told" c = true then told (mach W n) c a b sc' else MM.stuck) σ K F.X
 rw [if_pos (H.isG hk)]
 have hh:=D.E (c:={ sc:=sc',loc:=fun z0=>Option.none,cel:=c.cel,fz:=σ.length }) (H.inner (F':=⟨σ.length,false,K .none σ,K⟩) rfl rfl rfl rfl) h
 simp only [Bool.and_eq_true,Bool.not_eq_true'] at hc
 unfold wp at hh ⊢
 unfold told
 rw [if_neg (by simp [hs,H.hfz,h0,H.htb,ht,hco,hc.1.1.1,hc.1.1.2,hc.1.2,hc.2])]
 induction hm:(mach W n).E b { sc:=sc',loc:=fun z0=>Option.none,cel:=c.cel,fz:=σ.length } σ using Out.casesOn with
 | ok a σ'=>rw [hm] at hh; exact hh
 | exc=>rw [hm] at hh; exact hh
 | stuck=>rw [hm] at hh; exact hh
theorem ry (D:cI n) (H:aw c sc F l) {elt:Expr} {g:Comprehension} {gs:List Comprehension} {sc':Scope} {p:Pos} (hg:(((g :: gs).all fun g=>notSet g.iter && g.is_async == 0) && compIn sc' sc) = true)
  (h:vE n F (vm n F) (vm n) (.comp (frees sc sc') (compE m sc' elt) (.cons (compE m sc g.iter) (gensC (compE m sc') (compB m sc') (compT sc') (g :: gs)))) l σ K):wp ((mach W (n + 1)).E (.ListComp elt (g :: gs) sc' p) c) σ K F.X:=by
 have hco:compOk sc' c = compIn sc' sc:=by
  unfold compOk compIn
  simp only [H.kind]
 refine sf (by rw [hco]; exact hg) (ah (D.E H h) (fun src σ' h=>?_) id)
 refine ah (h.run m sc' elt (g :: gs) (inner sc' c) rfl rfl (H.inner rfl H.hfz rfl rfl)) (fun xs σ'' h=>vx h.2) id
theorem so {a i:Expr} {p:Pos} (hn:noSlice i = true) (h:wp ((mach W n).E a c) σ (fun x σ'=>wp ((mach W n).E i c) σ' (fun y σ''=>wp (subscr x y) σ'' K F.X) F.X) F.X):wp ((mach W (n + 1)).E (.Subscript a i p) c) σ K F.X:=sY hn h
theorem kSl {x y:AV} (h:kSl2 (vm n F) x K y σ):wp (asInt y) σ (fun n σ3=>wp (sliceTo x n) σ3 K F.X) F.X:=by
 induction y using Mine.Internal.AV.casesOn with
 | int i=>exact (vx h:wp (sliceTo x i) σ K F.X)
 | _=>exact h.elim
theorem re {f:Str} {v:AV} {t:Bool} {vs:List AV} (H:aw c sc F l) (h:kM3 f ("Grammar." ++ f) (vm n F) v t K vs σ):wp (method (mach W n) v t f c vs) σ K F.X:=by
 unfold method
 rw [H.hfz]
 cases t
 .show wp ((mach W n).F ("Grammar." ++ f) F.fz (v :: vs)) σ K F.X
  rw [<- vmC]; exact vx h
 .have h:wp (listM (vm n F).fz v f vs) σ K (vm n F).X:=h
  rw [vmz] at h; exact vx h
theorem tp (D:cI n) {e:Expr}:∀ {m:Nat},aw c sc F l->(vm (n + 1) F).E (compE m sc e) l σ K->wp ((mach W (n + 1)).E e c) σ K F.X
 | 0,_,h=>h.elim
 | m + 1,H,h=>by
  change vE n F (vm n F) (vm n) (compE (m + 1) sc e) l σ K at h
  induction e using Expr.casesOn with
  | Constant k j p =>
   obtain ⟨v,hk,h⟩:=elE h
   exact cr hk h
  | Name x p=>exact rd H h
  | BinOp a o b p=>exact td (ah (D.E H h) (fun x σ' h=>ah (D.E H h) (fun y σ'' h=>vx h) id) id)
  | UnaryOp o a p =>
   obtain ⟨ho,h⟩:=gdE h
   obtain ⟨i,ha,h⟩:=elE h
   obtain ⟨_,_,e⟩:=sH ha
   rw [of_decide_eq_true ho,e]
   exact vx h
  | BoolOp o es p =>
   obtain ⟨ho,h⟩:=gdE h
   rw [of_decide_eq_true ho]
   exact D.And H 40 h
  | IfExp t a b p=>exact tT (ah (D.T H h) (fun t σ' h=>by
    induction t using Bool.casesOn
    .exact D.E H h
    .exact D.E H h) id)
  | Compare a ops bs p =>
   obtain ⟨o,ho,h⟩:=elE h
   obtain ⟨b,hb,h⟩:=elE h
   obtain ⟨hm,h⟩:=gdE h
   rw [cz ho,cz hb]
   exact sZ ((Bool.not_eq_true' _).mp hm) (ah (D.E H h) (fun x σ' h=>ah (D.E H h) (fun y σ'' h=>vx h) id) id)
  | List es p =>
   obtain ⟨hn,h⟩:=gdE h
   exact se (ah (D.L H 40 hn h) (fun vs σ' h=>vx h) id)
  | Tuple es j p =>
   obtain ⟨hn,h⟩:=gdE h
   exact qC (ah (D.L H 40 hn h) (fun vs σ' h=>vx h) id)
  | Dict ks vs p =>
   change vE n F (vm n F) (vm n) (cond (ks.isEmpty && vs.isEmpty) .dict0 _) l σ K at h
   induction hq:(ks.isEmpty && vs.isEmpty) using Bool.casesOn with
   | true =>
    rw [hq] at h
    rw [Bool.and_eq_true,List.isEmpty_iff,List.isEmpty_iff] at hq
    rw [hq.1,hq.2]
    exact h
   | false =>
    rw [hq] at h
    obtain ⟨k,hk,h⟩:=elE h
    obtain ⟨a,ha,h⟩:=elE h
    obtain ⟨b,hb,h⟩:=elE h
    rw [cz hk,cz hb,ha]
    exact qE (ah (D.E H h) (fun x σ' h=>ah (D.E H h) (fun y σ'' h=>by rw [H.hfz,<- vmz n F]; exact vx h) id) id)
  | ListComp elt gs sc' p =>
   obtain ⟨g,hg,h⟩:=elE h
   obtain ⟨hc,h⟩:=gdE h
   induction gs using List.casesOn with
   | nil=>exact nomatch hg
   | cons g' gs=>injection hg with hg; rw [<- hg] at h; exact ry D H hc h
  | Subscript a i p =>
   change vE n F (vm n F) (vm n) ((vSlice i).elim _ _) l σ K at h
   induction hq:vSlice i using Option.casesOn with
   | none =>
    rw [hq] at h
    exact so (oP hq) (ah (D.E H h) (fun x σ' h=>ah (D.E H h) (fun y σ'' h=>vx h) id) id)
   | some o =>
    rw [hq] at h
    obtain ⟨b,hb,h⟩:=elE h
    obtain ⟨_,e⟩:=oQ (hq.trans (congrArg some hb))
    rw [e]
    exact qD (ah (D.E H h) (fun x σ' h=>ah (D.E H h) (fun y σ'' h=>kSl h) id) id)
  | Attribute o x p =>
   obtain ⟨hb,h⟩:=gdE h
   exact sg hb (ah (D.E H h) (fun x σ' h=>vx h) id)
  | Call f as ks p =>
   obtain ⟨hk,h⟩:=gdE h
   rw [List.isEmpty_iff.mp hk]
   change vE n F (vm n F) (vm n) ((vAttr f).elim _ _) l σ K at h
   induction hq:vAttr f using Option.casesOn with
   | some q =>
    rw [hq] at h
    obtain ⟨hb,h⟩:=gdE h
    have hn:as.all notStar = true:=by rw [Bool.and_eq_true,Bool.and_eq_true,Bool.and_eq_true] at hb; exact hb.1.1.2
    rw [mA hq]
    exact sd hb (ah (D.E H h) (fun v σ' h=>ah (vx h) (fun t σ'' h=>ah (D.L H 40 hn h) (fun vs σ3 h=>re H h) id) id) id)
   | none =>
    rw [hq] at h
    obtain ⟨x,hx,h⟩:=elE h
    obtain ⟨hg,h⟩:=gdE h
    obtain ⟨_,e⟩:=cC hx
    rw [e]
    by_cases ht:x = "_law_told"
    .rw [decide_eq_true ht] at h
     obtain ⟨a,ha,h⟩:=elE h
     obtain ⟨q,hq2,h⟩:=elE h
     obtain ⟨hc,h⟩:=gdE h
     obtain ⟨_,e2⟩:=pN hq2
     rw [cz ha,e2,ht]
     exact qG D H (ht ▸ of_decide_eq_true hg) hc h
    .rw [decide_eq_false ht] at h
     obtain ⟨hn,h⟩:=gdE h
     exact rC D H (of_decide_eq_true hg) ht hn h
  | _=>exact h.elim
end
section
variable {n:Nat} {F:Fr} {sc:Scope} {c:Ctx} {l:Env} {σ:ac}
theorem tf (D:cI n) {K:Ko Bool} {e:Expr} {m:Nat} (H:aw c sc F l) (h:(vm n F).E (compE m sc e) l σ (kTr K)):wp (do let v <- (mach W n).E e c; truth v) σ K F.X:=ag (ah (D.E H h) (fun v σ' h=>oB h) id)
theorem elT {α:Type} {K:Ko Bool} {o:Option α} {f:α->C} (h:vT (vm n F) (el o f) l σ K):∃ a,o = some a/\vT (vm n F) (f a) l σ K:=mz (P:=fun c=>vT (vm n F) c l σ K) id h
theorem gdT {K:Ko Bool} {b:Bool} {c:C} (h:vT (vm n F) (gd b c) l σ K):b = true/\vT (vm n F) c l σ K:=pV (P:=fun c=>vT (vm n F) c l σ K) id h
theorem elS {α:Type} {K:Ko Env} {o:Option α} {f:α->C} (h:vS n F (vm n F) (el o f) l σ K):∃ a,o = some a/\vS n F (vm n F) (f a) l σ K:=mz (P:=fun c=>vS n F (vm n F) c l σ K) id h
theorem gdS {K:Ko Env} {b:Bool} {c:C} (h:vS n F (vm n F) (gd b c) l σ K):b = true/\vS n F (vm n F) c l σ K:=pV (P:=fun c=>vS n F (vm n F) c l σ K) id h
theorem tj (D:cI n) {K:Ko Bool} {e:Expr}:∀ {m:Nat},aw c sc F l->(vm (n + 1) F).T (compB m sc e) l σ K->wp ((mach W (n + 1)).T e c) σ K F.X
 | 0,H,h=>h.elim
 | m + 1,H,h=>by
  change vT (vm n F) (compB (m + 1) sc e) l σ K at h
  induction e using Expr.casesOn with
  | UnaryOp o a p =>
   obtain ⟨ho,h⟩:=gdT h
   rw [of_decide_eq_true ho]
   exact tg (ah (D.T H h) (fun b σ' h=>h) id)
  | BoolOp o es p=>induction o using PySem.BoolOp.casesOn with
   | And=>exact ti (D.All H 40 h)
   | Or=>exact tU (D.Any H 40 h)
  | IfExp t a b p=>exact h.elim
  | Compare a ops bs p =>
   obtain ⟨o,ho,h⟩:=elT h
   obtain ⟨b,hb,h⟩:=elT h
   obtain ⟨hm,h⟩:=gdT h
   rw [cz ho,cz hb]
   exact th ((Bool.not_eq_true' _).mp hm) (ah (D.E H h) (fun x σ' h=>ah (D.E H h) (fun y σ'' h=>vx h) id) id)
  | _=>exact tf D H h
theorem pr {K:Ko Env} {x:Str} {i:Nat} {v:AV} (H:aw c sc F l) (hx:locS sc x = some i) (h:K (.put i v l) σ) {X:Prop}:wp (setName x v c) σ (fun c' σ''=>lift sc F K (.next c') σ'') X:=eE H (cf hx).1 (cf hx).2 fun c' H'=>⟨_,H',h⟩
theorem rQ {α:Type} {K:Ko α} {f:Nat->MM α} (H:aw c sc F l) (h:wp (f (vm n F).fz) σ K (vm n F).X):wp (f c.fz) σ K F.X:=by
 rw [H.hfz,<- vmz n F]; exact vx h
theorem rP {K:Ko Env} {out:List Nat} {fl:Fl} (h:lift sc F (kPr out K) fl σ):lift sc F K fl σ:=by
 induction fl using Mine.Internal.Fl.casesOn with
 | next c'=>obtain ⟨l',H',h⟩:=h; exact ⟨_,H'.prune out,h⟩
 | ret v=>exact h
theorem sX (D:cI n) {K:Ko Env} {ts:List Expr} {e:Expr} {p:Pos} {m:Nat} {out:List Nat} (H:aw c sc F l) (h:vS n F (vm n F) (compS (m + 1) out sc (.Assign ts e p)) l σ K):wp ((mach W (n + 1)).S (.Assign ts e p) c) σ (lift sc F K) F.X:=by
 obtain ⟨t,ht,h⟩:=elS h
 rw [cz ht]
 induction hn:vName t using Option.casesOn with
 | some x =>
  rw [hn] at h
  obtain ⟨hd,h⟩:=gdS h
  obtain ⟨i,hi,h⟩:=elS h
  obtain ⟨_,e⟩:=cC hn
  rw [e]
  exact ty hd (ah (D.E H h) (fun v σ' h=>pr H hi h) id)
 | none =>
  rw [hn] at h
  change vS n F (vm n F) ((vTup t).elim _ _) l σ K at h
  induction hu:vTup t using Option.casesOn with
  | some es =>
   rw [hu] at h
   obtain ⟨q,hq,h⟩:=elS h
   obtain ⟨x,hx,h⟩:=elS h
   obtain ⟨y,hy,h⟩:=elS h
   obtain ⟨vs,hv,h⟩:=elS h
   obtain ⟨r,hr,h⟩:=elS h
   obtain ⟨hg,h⟩:=gdS h
   obtain ⟨i,hi,h⟩:=elS h
   obtain ⟨j,hj,h⟩:=elS h
   obtain ⟨_,_,e1⟩:=lu hu
   obtain ⟨_,_,e2⟩:=lu hv
   obtain ⟨_,e3⟩:=cC hx
   obtain ⟨_,e4⟩:=cC hy
   rw [e1,e2,dG hq,dG hr,e3,e4]
   exact sw hg (ah (D.E H h) (fun v σ' h=>ah (D.E H h) (fun w σ'' h=>eE H (cf hi).1 (cf hi).2 fun c' H'=>pr H' hj h) id) id)
  | none =>
   rw [hu] at h
   change vS n F (vm n F) ((vSubs t).elim _ _) l σ K at h
   induction hs:vSubs t using Option.casesOn with
   | some q =>
    rw [hs] at h
    obtain ⟨_,e⟩:=qI hs
    rw [e]
    exact tv (ah (D.E H h) (fun v σ' h=>ah (D.E H h) (fun x σ'' h=>ah (D.E H h) (fun y σ3 h=>ah (rQ (f:=fun z=>setSub z x y v) H h) (fun z0 z0 h=>⟨l,H,h⟩) id) id) id) id)
   | none =>
    rw [hs] at h
    obtain ⟨q,hq,h⟩:=elS h
    rw [mA hq]
    exact sv (ah (D.E H h) (fun v σ' h=>ah (D.E H h) (fun y σ'' h=>ah (rQ (f:=fun z=>setAt z y q.2.1 v) H h) (fun z0 z0 h=>⟨l,H,h⟩) id) id) id)
theorem tn (D:cI n) {K:Ko Env} {s:Stmt}:∀ {m:Nat} {out:List Nat},aw c sc F l->(vm (n + 1) F).S (compS m out sc s) l σ K->wp ((mach W (n + 1)).S s c) σ (lift sc F K) F.X
 | 0,_,_,h=>h.elim
 | m + 1,out,H,h=>by
  change vS n F (vm n F) (compS (m + 1) out sc s) l σ K at h
  induction s using Stmt.casesOn with
  | Expr e p =>
   obtain ⟨hc,h⟩:=gdS h
   obtain ⟨_,_,_,_,e⟩:=rD hc
   rw [e] at h ⊢
   exact su (ah (D.E H h) (fun v σ' h=>⟨l,H,h⟩) id)
  | Return e p =>
   obtain ⟨e,he,h⟩:=elS h
   rw [he]
   exact tw (ah (D.E H h) (fun v σ' h=>h) id)
  | Assign ts e p=>exact sX D H h
  | If t a b p=>exact tV (ah (D.T H h) (fun v σ' h=>by
    induction v using Bool.casesOn
    .exact ah (D.Ss 40 H h) (fun z0 z0 h=>rP h) id
    .exact ah (D.Ss 40 H h) (fun z0 z0 h=>rP h) id) id)
  | While t b e p =>
   obtain ⟨he,h⟩:=gdS h
   rw [List.isEmpty_iff.mp he]
   have hw:(mach W n).W = W:=by cases n <;> rfl
   show wp (whileL (mach W n) t b (mach W n).W c) σ _ F.X
   rw [hw]
   refine ah (h.run m _ sc t b c rfl rfl (H.prune _)) (fun fl σ' h=>?_) id
   cases fl <;> exact h
  | For t it b e p =>
   obtain ⟨he,h⟩:=gdS h
   rw [Bool.and_eq_true] at he
   rw [List.isEmpty_iff.mp he.1]
   refine tx he.2 (ah (D.E H h) (fun src σ' h=>ah (h.run m _ sc t b c rfl rfl (H.prune _)) (fun o σ'' h=>?_) id) id)
   cases o <;> exact h
  | _=>exact h.elim
end
theorem snd:∀ n,cI n
 | 0=>⟨fun z0 h=>h.elim,fun z0 h=>h.elim,fun z0 h=>h.elim⟩
 | n + 1=>⟨tp (snd n),tj (snd n),tn (snd n)⟩
noncomputable def vTg (t:C) (v:AV) (l:Env) (K:Env->Prop):Prop:=(tg1 t).elim ((tg2 t).elim False fun p=>(tupV v).elim False fun vs=>(two' vs).elim False fun q=>K (.put p.2 q.2 (.put p.1 q.1 l))) fun i=>K (.put i v l)
theorem elG {α:Type} {v:AV} {l:Env} {K:Env->Prop} {o:Option α} {f:α->C} (h:vTg (el o f) v l K):∃ a,o = some a/\vTg (f a) v l K:=mz (P:=fun c=>vTg c v l K) id h
theorem oH {sc:Scope} {F:Fr} {l:Env} {c:Ctx} {t:Expr} {v:AV} {σ:ac} {K:Env->Prop} {Q:Ctx->ac->Prop} {X:Prop} (H:aw c sc F l) (h:vTg (compT sc t) v l K) (hq:∀ c' l',aw c' sc F l'->K l'->Q c' σ):wp (bindTo t v c) σ Q X:=by
 unfold compT at h
 induction hn:vName t using Option.casesOn with
 | some x =>
  rw [hn] at h
  obtain ⟨i,hi,h⟩:=elG h
  obtain ⟨_,e⟩:=cC hn
  rw [e]
  exact ot (eE H (cf hi).1 (cf hi).2 fun c' H'=>hq c' _ H' h)
 | none =>
  rw [hn] at h
  obtain ⟨es,hu,h⟩:=elG h
  obtain ⟨q,hp,h⟩:=elG h
  obtain ⟨x,hx,h⟩:=elG h
  obtain ⟨y,hy,h⟩:=elG h
  obtain ⟨i,hi,h⟩:=elG h
  obtain ⟨j,hj,h⟩:=elG h
  obtain ⟨_,_,e1⟩:=lu hu
  obtain ⟨_,e3⟩:=cC hx
  obtain ⟨_,e4⟩:=cC hy
  rw [e1,dG hp,e3,e4]
  obtain ⟨vs,hv,h⟩:=elimF h
  obtain ⟨r,hr,h⟩:=elimF h
  rw [dZ hv,dG hr]
  exact oq (eE H (cf hi).1 (cf hi).2 fun c' H'=>eE H' (cf hj).1 (cf hj).2 fun c'' H''=>hq c'' _ H'' h)
noncomputable def kTg (n:Nat) (F:Fr) (ks:List Nat) (b:C) (σ:ac) (K:Ko Env):Env->Prop:=fun l=>vSs (vm n F) 40 b l σ (kPr ks K)
theorem hp {sc:Scope} {F:Fr} {ks:List Nat} {K:Ko Env} {fl:Fl} {σ:ac} (h:lift sc F (kPr ks K) fl σ):lift sc F K fl σ:=by
 induction fl using Mine.Internal.Fl.casesOn with
 | next c'=>obtain ⟨l',H',h⟩:=h; exact ⟨_,H'.prune ks,h⟩
 | ret v=>exact h
section
variable {n:Nat} {F:Fr} {ks:List Nat} {t b:C} {src:AV} {σ:ac} {K:Ko Env} {γ:Type}
theorem rN {xs:List AV} {bb:Bool} (L:γ->Env) (I:Nat->γ->ac->Prop) {g0:γ} (hsrc:∀ j g σ,I j g σ->items src σ = .ok xs σ/\isL src σ = .ok bb σ) (hf:fits xs.length = true) (h0:I 0 g0 σ)
  (ht:∀ j v g σ K',xs[j]? = some v->I j g σ->(∀ g' σ',I (j + 1) g' σ'->K' (L g') σ')->vTg t v (L g) (kTg n F ks b σ K'))
  (he:∀ g σ,I xs.length g σ->K (L g) σ):rM n ks t b F src (L g0) σ K:=by
 refine ⟨?_⟩
 rintro m out sc t' b' c rfl rfl H
 refine wp_walk (xs:=xs) (b:=bb) (fun j c σ=>∃ g,aw c sc F (L g)/\I j g σ) (fun j c σ ⟨g,_,h⟩=>hsrc j g σ h) (fun j v c σ hv ⟨g,Hg,h⟩=>?_) (fun c σ ⟨g,Hg,h⟩=>⟨_,Hg,he g σ h⟩) hf ⟨g0,H,h0⟩
 refine oG (oH Hg (ht j v g σ (fun l σ=>∃ g',L g' = l/\I (j + 1) g' σ) hv h fun g' σ' h=>⟨g',rfl,h⟩) fun c' l' H' h=>?_)
 refine ah ((snd n).Ss 40 H' h) (fun fl σ' h=>?_) id
 have h:=hp h
 induction fl using Mine.Internal.Fl.casesOn with
 | next c'=>obtain ⟨l',H',g',e,h⟩:=h; subst e; exact ⟨g',H',h⟩
 | ret v=>exact h
theorem ba {δ:Type} {f:δ->AV} {ys:List δ} {bb:Bool} (L:γ->Env) (I:Nat->γ->ac->Prop) {g0:γ} (hsrc:∀ j g σ,I j g σ->items src σ = .ok (ys.map f) σ/\isL src σ = .ok bb σ) (hf:ys.length ≤ 1000000) (h0:I 0 g0 σ)
  (ht:∀ j y g σ K',ys[j]? = some y->I j g σ->(∀ g' σ',I (j + 1) g' σ'->K' (L g') σ')->vTg t (f y) (L g) (kTg n F ks b σ K'))
  (he:∀ g σ,I ys.length g σ->K (L g) σ):rM n ks t b F src (L g0) σ K :=
 rN (xs:=ys.map f) (bb:=bb) L I hsrc (by rw [List.length_map]; exact fitsLe hf) h0
  (fun j v g σ K' hv hI hK=>by obtain ⟨y,hy,rfl⟩:=gh hv; exact ht j y g σ K' hy hI hK) (by rw [List.length_map]; exact he)
theorem iG {n':Nat} (L:γ->Env) (I:Nat->γ->ac->Prop) {g0:γ} (hf:n' ≤ 1000000) (h0:I 0 g0 σ)
  (ht:∀ (j:Nat) g σ K',j < n'->I j g σ->(∀ g' σ',I (j + 1) g' σ'->K' (L g') σ')->vTg t (.int j) (L g) (kTg n F ks b σ K'))
  (he:∀ g σ,I n' g σ->K (L g) σ):rM n ks t b F (.rng n') (L g0) σ K :=
 rN (xs:=(List.range n').map fun (k:Nat)=>AV.int (Int.ofNat k)) (bb:=false) L I (fun z0 z0 z0 z0=>iq) (by rw [List.length_map,List.length_range]; exact fitsLe hf) h0
  (fun j v g σ K' hv hI hK=>by obtain ⟨rfl,hy⟩:=jV hv; exact ht j g σ K' hy hI hK) (by rw [List.length_map,List.length_range]; exact he)
noncomputable def kWh (r:Vm) (ks:List Nat) (b:C) (l:Env) (K' K:Ko Env):Ko Bool:=fun t σ=>vIf t (vSs r 40 b l σ (kPr ks K')) (K l σ)
theorem mh (L:γ->Env) (I:Nat->γ->ac->Prop) {g0:γ} {n0:Nat} (hW:n0 < W) (h0:I n0 g0 σ)
  (ht:∀ j g σ K',I j g σ->(∀ i g' σ',i < j->I i g' σ'->K' (L g') σ')->(vm n F).T t (L g) σ (kWh (vm n F) ks b (L g) K' K)):tL n ks t b F (L g0) σ K:=by
 refine ⟨?_⟩
 rintro m out sc t' b' c rfl rfl H
 have go:∀ (w j:Nat) (g:γ) (c:Ctx) (σ:ac),j < w->aw c sc F (L g)->I j g σ->wp (whileL (mach W n) t' b' w c) σ (lift sc F K) F.X:=by
  intro w
  induction w with
  | zero=>intro j g c σ h; exact absurd h (Nat.not_lt_zero _)
  | succ w ih =>
   intro j g c σ hj Hc hI
   unfold whileL
   refine ag (ah ((snd n).T Hc (ht j g σ (fun l σ=>∃ i g',L g' = l/\i < j/\I i g' σ) hI fun i g' σ' h1 h2=>⟨i,g',rfl,h1,h2⟩)) (fun t σ' h=>?_) id)
   cases t
   .exact au ⟨_,Hc,h⟩
   .refine ag (ah ((snd n).Ss 40 Hc h) (fun fl σ' h=>?_) id)
    have h:=hp h
    induction fl using Mine.Internal.Fl.casesOn with
    | next c'=>obtain ⟨l',H',i,g',e,h1,h2⟩:=h; subst e; exact ih i g' c' σ' (by omega) H' h2
    | ret v=>exact au h
 refine ah (go W n0 g0 c σ hW H h0) (fun fl σ' h=>?_) id
 cases fl <;> exact h
end
noncomputable def kClE (a:List AV) (K:Ko (List AV)):Ko AV:=fun x σ=>fits a.length = true/\K (a ++ [x]) σ
noncomputable def kClT (r:Vm) (e:C) (l:Env) (a:List AV) (K:Ko (List AV)):Ko Bool:=fun t σ=>vIf t (r.E e l σ (kClE a K)) (K a σ)
noncomputable def kCl (n:Nat) (F:Fr) (fs e:C) (a:List AV) (σ:ac) (K:Ko (List AV)):Env->Prop:=fun l=>vAll (vm n F) 40 fs l σ (kClT (vm n F) e l a K)
noncomputable def kClS (n:Nat) (F:Fr) (e gs:C) (l:Env) (a:List AV) (K:Ko (List AV)):Ko AV:=fun src σ=>SCl n e gs F src l a σ K
noncomputable def kClO (n:Nat) (F:Fr) (it e gs:C) (l:Env) (a:List AV) (K:Ko (List AV)):Ko Bool:=fun t σ=>vIf t ((vm n F).E it l σ (kClS n F e gs l a K)) (K a σ)
noncomputable def kCl2 (n:Nat) (F:Fr) (fs it e gs:C) (a:List AV) (σ:ac) (K:Ko (List AV)):Env->Prop:=fun l=>vAll (vm n F) 40 fs l σ (kClO n F it e gs l a K)
noncomputable def apart (t:C) (l:Env):Bool:=(tg1 t).elim ((tg2 t).elim false fun p=>(l.get p.1).isNone && (l.get p.2).isNone) fun i=>(l.get i).isNone
theorem kK {i:Nat} {v:AV} {l:Env} (h:(l.get i).isNone = true):∀ j w,l.get j = some w->(Env.put i v l).get j = some w:=fun j w hj=>by
 rw [ek]
 by_cases e:j = i
 .subst e; rw [hj] at h; exact nomatch h
 .rw [if_neg e]; exact hj
theorem jv {t:C} {v:AV} {l:Env} {K:Env->Prop} (ha:apart t l = true) (h:vTg t v l K):vTg t v l fun l'=>(∀ j w,l.get j = some w->l'.get j = some w)/\K l':=by
 unfold apart at ha
 unfold vTg at h ⊢
 induction h1:tg1 t using Option.casesOn with
 | some i=>rw [h1] at ha h; exact ⟨kK ha,h⟩
 | none =>
  rw [h1] at ha h
  induction h2:tg2 t using Option.casesOn with
  | none=>rw [h2] at ha; exact nomatch ha
  | some p =>
   rw [h2] at ha h
   have ha:((l.get p.1).isNone && (l.get p.2).isNone) = true:=ha
   rw [Bool.and_eq_true] at ha
   obtain ⟨vs,hv,h⟩:=elimF h
   obtain ⟨q,hq,h⟩:=elimF h
   show (tupV v).elim False fun vs=>(two' vs).elim False fun q=>_/\K _
   rw [hv]
   show (two' vs).elim False fun q=>_/\K _
   rw [hq]
   refine ⟨fun m u hm=>?_,h⟩
   rw [ek]
   by_cases e:m = p.2
   .subst e; rw [hm] at ha; exact nomatch ha.2
   .rw [if_neg e]; exact kK ha.1 m u hm
section
variable {n:Nat} {F:Fr} {e t it fs gs:C} {src:AV} {l:Env} {acc:List AV} {σ:ac} {K:Ko (List AV)}
noncomputable def cV:C->Option (C × C)
 | .cons a b=>some (a,b)
 | _=>Option.none
noncomputable def gV:C->Option (C × C × C)
 | .gen a b c=>some (a,b,c)
 | _=>Option.none
theorem si {xs:List AV} {bb:Bool} (I:Nat->List AV->ac->Prop) (hsrc:∀ j a σ,I j a σ->items src σ = .ok xs σ/\isL src σ = .ok bb σ) (hf:fits xs.length = true) (ha:apart t l = true) (h0:I 0 acc σ)
  (ht:∀ j v a σ K',xs[j]? = some v->I j a σ->(∀ a' σ',I (j + 1) a' σ'->K' a' σ')->vTg t v l (kCl n F fs e a σ K'))
  (he:∀ a σ,I xs.length a σ->K a σ):SCl n e (.cons (.gen t it fs) .nil) F src l acc σ K:=by
 refine ⟨?_⟩
 rintro m sc e' gs' c rfl hg H
 induction gs' using List.casesOn with
 | nil=>exact nomatch (congrArg cV hg)
 | cons g gs'=>induction gs' using List.casesOn with
  | cons _ _=>exact nomatch (congrArg (fun c=>(cV c).map fun p=>cV p.2) hg)
  | nil =>
   injection congrArg (fun c=>(cV c).bind fun p=>gV p.1) hg with k1
   injection k1 with h1 k2
   injection k2 with h2 h3
   subst h1 h3
   refine lq (xs:=xs) (b:=bb) (fun j c a σ=>aw c sc F l/\I j a σ) (fun j c a σ h=>hsrc j a σ h.2) (fun j v c a σ hv h=>?_) (fun c a σ h=>⟨h.1,he a σ h.2⟩) hf ⟨H,h0⟩
   refine oH h.1 (jv ha (ht j v a σ (I (j + 1)) hv h.2 fun z0 z0 h=>h)) fun c' l' H' h=>?_
   refine ah ((snd n).All H' 40 h.2) (fun t σ' h'=>?_) id
   cases t
   .exact ⟨H'.less h.1,h'⟩
   .exact ah ((snd n).E H' h') (fun x σ'' h'=>⟨h'.1,H'.less h.1,h'.2⟩) id
theorem te {g2:C} {xs:List AV} {bb:Bool} (I:Nat->List AV->ac->Prop) (hsrc:∀ j a σ,I j a σ->items src σ = .ok xs σ/\isL src σ = .ok bb σ) (hf:fits xs.length = true) (ha:apart t l = true) (h0:I 0 acc σ)
  {t2 it2 fs2:C} (hg2:g2 = .gen t2 it2 fs2) (ht:∀ j v a σ K',xs[j]? = some v->I j a σ->(∀ a' σ',I (j + 1) a' σ'->K' a' σ')->vTg t v l (kCl2 n F fs it2 e (.cons g2 gs) a σ K'))
  (he:∀ a σ,I xs.length a σ->K a σ):SCl n e (.cons (.gen t it fs) (.cons g2 gs)) F src l acc σ K:=by
 refine ⟨?_⟩
 rintro m sc e' gs' c rfl hg H
 induction gs' using List.casesOn with
 | nil=>exact nomatch (congrArg cV hg)
 | cons g gs'=>induction gs' using List.casesOn with
  | nil=>exact nomatch (congrArg (fun c=>(cV c).map fun p=>cV p.2) hg)
  | cons g' gs' =>
   injection congrArg cV hg with k0
   injection k0 with k0 hr'
   injection congrArg gV k0 with k1
   injection k1 with h1 k2
   injection k2 with h2 h3
   rw [hg2] at hr'
   injection congrArg (fun c=>(cV c).bind fun p=>gV p.1) hr' with k3
   injection k3 with _ k4
   injection k4 with h5 _
   rw [<- hg2] at hr'
   subst h1 h3 h5
   refine lm (xs:=xs) (b:=bb) (fun j c a σ=>aw c sc F l/\I j a σ) (fun j c a σ h=>hsrc j a σ h.2) (fun j v c a σ hv h=>?_) (fun c a σ h=>⟨h.1,he a σ h.2⟩) hf ⟨H,h0⟩
   refine oH h.1 (jv ha (ht j v a σ (I (j + 1)) hv h.2 fun z0 z0 h=>h)) fun c' l' H' h=>?_
   refine ah ((snd n).All H' 40 h.2) (fun t σ' h'=>?_) id
   cases t
   .exact ⟨H'.less h.1,h'⟩
   .exact ah ((snd n).E H' h') (fun x σ'' h'=>ah (h'.run m sc e' (g' :: gs') c' rfl hr' H') (fun p σ3 h3=>⟨h3.1.less h.1,h3.2⟩) id) id
theorem fh {δ:Type} {f:δ->AV} {ys:List δ} {bb:Bool} (I:Nat->List AV->ac->Prop) (hsrc:∀ j a σ,I j a σ->items src σ = .ok (ys.map f) σ/\isL src σ = .ok bb σ) (hf:ys.length ≤ 1000000) (ha:apart t l = true) (h0:I 0 acc σ)
  (ht:∀ j y a σ K',ys[j]? = some y->I j a σ->(∀ a' σ',I (j + 1) a' σ'->K' a' σ')->vTg t (f y) l (kCl n F fs e a σ K'))
  (he:∀ a σ,I ys.length a σ->K a σ):SCl n e (.cons (.gen t it fs) .nil) F src l acc σ K :=
 si (xs:=ys.map f) (bb:=bb) I hsrc (by rw [List.length_map]; exact fitsLe hf) ha h0
  (fun j v a σ K' hv hI hK=>by obtain ⟨y,hy,rfl⟩:=gh hv; exact ht j y a σ K' hy hI hK) (by rw [List.length_map]; exact he)
theorem mi {n':Nat} (I:Nat->List AV->ac->Prop) (hf:n' ≤ 1000000) (ha:apart t l = true) (h0:I 0 acc σ)
  (ht:∀ (j:Nat) a σ K',j < n'->I j a σ->(∀ a' σ',I (j + 1) a' σ'->K' a' σ')->vTg t (.int j) l (kCl n F fs e a σ K'))
  (he:∀ a σ,I n' a σ->K a σ):SCl n e (.cons (.gen t it fs) .nil) F (.rng n') l acc σ K :=
 si (xs:=(List.range n').map fun (k:Nat)=>AV.int (Int.ofNat k)) (bb:=false) I (fun z0 z0 z0 z0=>iq) (by rw [List.length_map,List.length_range]; exact fitsLe hf) ha h0
  (fun j v a σ K' hv hI hK=>by obtain ⟨rfl,hy⟩:=jV hv; exact ht j a σ K' hy hI hK) (by rw [List.length_map,List.length_range]; exact he)
end
theorem ifd {P:Prop} [d:Decidable P] {A B:Prop} (h1:P->A) (h2:¬ P->B):vIf (decide P) A B:=by
 by_cases h:P
 .rw [decide_eq_true h]; exact h1 h
 .rw [decide_eq_false h]; exact h2 h
theorem ifn {P:Prop} [d:Decidable P] {A B:Prop} (h1:¬ P->A) (h2:P->B):vIf (!decide P) A B:=by
 by_cases h:P
 .rw [decide_eq_true h]; exact h2 h
 .rw [decide_eq_false h]; exact h1 h
theorem ifT {b:Bool} {A B:Prop} (h:b = true) (x:A):vIf b A B:=by rw [h]; exact x
theorem ifF {b:Bool} {A B:Prop} (h:b = false) (x:B):vIf b A B:=by rw [h]; exact x
noncomputable def isPar (sc:Scope) (x:Str):Bool:=(slot x sc.names).isSome && (match sc.names.lookup x with
 | some .local=>true
 | some .cell=>true
 | _=>false)
noncomputable def fnD (f:Str):Option (C × List Nat × List AV):=match fnTab f with
 | some d=>if d.params.all (isPar d.scope) = true then some (bodyC (fun o=>compS 60 o d.scope) [] d.body,d.params.map (fun x=>(slot x d.scope.names).getD 0),d.defaults) else Option.none
 | Option.none=>Option.none
noncomputable def fillD (n:Nat) (ds xs:List AV):Option (List AV) :=
 if xs.length ≤ n then
  (if n - xs.length ≤ ds.length then some (xs ++ ds.drop (ds.length - (n - xs.length))) else Option.none)
 else Option.none
noncomputable def bindP (ps:List Nat):List AV->Env->Env:=List.rec (fun z0 l=>l) (fun i z0 ih vs l=>List.rec l (fun v vs z0=>ih vs (.put i v l)) vs) ps
theorem lb {sc:Scope} {F:Fr}:∀ (ps:List Str) (vs:List AV) (c:Ctx) (l:Env),ps.all (isPar sc) = true->aw c sc F l->aw (bindAll sc F.fz (ps.zip vs) c) sc F (bindP (ps.map fun x=>(slot x sc.names).getD 0) vs l)
 | [],vs,c,l,_,H=>H
 | x :: ps,[],c,l,_,H=>H
 | x :: ps,v :: vs,c,l,hk,H=>by
  have hk:(isPar sc x && ps.all (isPar sc)) = true:=hk
  rw [Bool.and_eq_true] at hk
  have hx:=hk.1
  unfold isPar at hx
  rw [Bool.and_eq_true] at hx
  induction hs:slot x sc.names using Option.casesOn with
  | none=>rw [hs] at hx; exact nomatch hx.1
  | some i =>
   show aw (bindAll sc F.fz (ps.zip vs) (if sc.names.lookup x = some .cell then { c with cel:=upd c.cel x v } else { c with loc:=upd c.loc x v })) sc F (bindP (ps.map fun x=>(slot x sc.names).getD 0) vs (.put ((slot x sc.names).getD 0) v l))
   rw [hs]
   refine lb ps vs _ _ hk.2 ?_
   have hput:∀ (kd:NameKind),sc.names.lookup x = some kd->(kd = .local\/kd = .cell)->aw (if sc.names.lookup x = some .cell then { c with cel:=upd c.cel x v } else { c with loc:=upd c.loc x v }) sc F (.put i v l):=fun kd hkd hc=>by
    have hs':=eE (σ:=[]) (Q:=fun c' z0=>aw c' sc F (.put i v l)) (X:=False) (v:=v) H hs (by rcases hc with rfl | rfl; exact .inl hkd; exact .inr hkd) fun c' h=>h
    unfold setName at hs'
    rw [H.kind] at hs'
    rcases hc with rfl | rfl
    .rw [hkd] at hs'; rw [hkd,if_neg (by decide)]; exact hs'
    .rw [hkd] at hs'; rw [hkd,if_pos rfl]; exact hs'
   induction hq:sc.names.lookup x using Option.casesOn with
   | none=>rw [hq] at hx; exact nomatch hx.2
   | some kd =>
    rw [<- hq]
    refine hput kd hq ?_
    rw [hq] at hx
    induction kd using PySem.NameKind.casesOn with
    | «local»=>exact .inl rfl
    | cell=>exact .inr rfl
    | _=>exact nomatch hx.2
theorem cL {k fz:Nat} {f:Str} {xs ys:List AV} {d:C} {ps:List Nat} {ds:List AV} {σ:ac} {Q:AV->ac->Prop} {X:Prop} (hd:fnD f = some (d,ps,ds)) (hy:fillD ps.length ds xs = some ys)
  (h:vSs (vm k ⟨fz,tabFn f,X,Q⟩) 40 d (bindP ps ys .nil) σ (kEnd Q)):wp ((mach W (k + 1)).F f fz xs) σ Q X:=by
 unfold fnD at hd
 induction hf:fnTab f using Option.casesOn with
 | none=>rw [hf] at hd; exact nomatch hd
 | some D =>
  rw [hf] at hd
  dsimp only at hd
  by_cases hp:D.params.all (isPar D.scope) = true
  .rw [if_pos hp] at hd
   injection hd with hd
   injection hd with h1 hd
   injection hd with h2 h3
   subst h1 h2 h3
   rw [List.length_map] at hy
   have hw:withDefaults D xs = some ys:=hy
   show wp (callDef (mach W k) f fz xs) σ Q X
   unfold callDef
   rw [hf]
   dsimp only
   rw [hw]
   have H:=lb (sc:=D.scope) (F:=⟨fz,tabFn f,X,Q⟩) D.params ys { sc:=D.scope,loc:=fun z0=>Option.none,cel:=fun z0=>Option.none,fz:=fz,tab:=tabFn f } .nil hp ⟨rfl,rfl,rfl,fun z0 z0 z0 z0 h=>nomatch h⟩
   refine ag (ah ((snd k).Ss 40 H h) (fun fl σ' h=>?_) id)
   induction fl using Mine.Internal.Fl.casesOn with
   | next c'=>obtain ⟨_,_,h⟩:=h; exact au h
   | ret v=>exact au h
  .rw [if_neg hp] at hd; exact nomatch hd
end Mine.Internal
end
section
set_option backward.match.sparseCases false
namespace Mine.Internal
open PySem (Str Expr Stmt Const Operator CmpOp BoolOp UnaryOp Scope NameKind Comprehension Arguments Pos)
local macro_rules
  | `(tactic| walk_at $s:str) => if s.getString = "b" then return Mine.Internal.bld "d ar_leaf/1 x | a a ar_j/2 x | a ar_t/1 x | a a na_var/2 x | a na_rng/1 x | a na_rng'/1 x | a a ar_cL/2 x | a a ar_chain/2 x | a d ar_h/2 x | a Nat.le_of_lt/1 d ar_h/2 x | a And.right/1 d ar_h/2 x | a Nat.le_of_lt/1 a d ar_h/2 Nat.le_trans/2 x | a Nat.le_of_lt/1 a And.right/1 Nat.le_trans/2 x | d ? ar_al/2 q \"b\" | Nat.add_le_add/0 Q | ar_mul/0 P \"b\" | na_add/0 Q | na_sub/0 Q | na_cast/0 P \"b\" | ar_minR/0 P \"b\" | a ? ar_eq/2 q \"b\" |" .missing .missing
    else if s.getString = "b0" then return Mine.Internal.bld "a a ar_n1/2 y | a a a ar_n2/3 y | a ar_n3/1 y | a a ar_n4/2 y | a a a ar_b1/3 y | a a ar_b2/2 y | Nat.le_trans/0 p \"b\" rfl/0 Nat.le_of_ble_eq_true/1 x | Nat.lt_of_le_of_lt/0 p \"b\" rfl/0 Nat.le_of_ble_eq_true/1 x |" .missing .missing
    else Lean.Macro.throwUnsupported
theorem am {α:Type} {l:List α} {j:Nat} {x:α} (h:l[j]? = some x):x ∈ l:=List.mem_of_getElem? h
noncomputable def kEl (n:Nat) (F:Fr) (e:C) (σ:ac) (K:Ko AV):Env->Prop:=fun l=>(vm n F).E e l σ K
theorem bn {σ:ac} {i:Nat} {xs:List AV} (h:Has σ i (.list xs)):∀ σ',aB σ σ'->items (.obj i) σ' = .ok xs σ'/\isL (.obj i) σ' = .ok true σ':=fun σ' K=>ar (K.get rfl h)
theorem jB {σ:ac} {i:Nat} {ws:List (List Int)} (h:Has σ i (.wset ws)):∀ σ',aB σ σ'->items (.obj i) σ' = .ok (ws.map wordV) σ'/\isL (.obj i) σ' = .ok false σ':=fun σ' K=>br (K.get rfl h)
theorem mo {σ:ac} {xs:List AV}:∀ σ',aB σ σ'->items (.tup xs) σ' = .ok xs σ'/\isL (.tup xs) σ' = .ok false σ':=fun σ' K=>eT
section
variable {n:Nat} {F:Fr} {e t it fs gs:C} {src:AV} {l:Env} {acc:List AV} {σ:ac} {K:Ko (List AV)} {δ:Type} {f g:δ->AV} {ys:List δ} {bb:Bool}
theorem fP (p:δ->Bool) (g:δ->AV) (hsrc:∀ σ',aB σ σ'->items src σ' = .ok (ys.map f) σ'/\isL src σ' = .ok bb σ') (hl:acc.length + ys.length ≤ 1000000) (ha:apart t l = true)
  (ht:∀ y ∈ ys,∀ a σ' K',fits a.length = true->aB σ σ'->(p y = true->∀ σ'',aB σ' σ''->K' (a ++ [g y]) σ'')->(p y = false->∀ σ'',aB σ' σ''->K' a σ'')->vTg t (f y) l (kCl n F fs e a σ' K'))
  (he:∀ σ',aB σ σ'->K (acc ++ (ys.filter p).map g) σ'):SCl n e (.cons (.gen t it fs) .nil) F src l acc σ K:=by
 refine fh (f:=f) (ys:=ys) (bb:=bb) (fun j a σ'=>aB σ σ'/\a = acc ++ ((ys.take j).filter p).map g) (fun j a σ' h=>hsrc σ' h.1) (Nat.le_trans (Nat.le_add_left _ _) hl) ha ⟨.refl,(List.append_nil _).symm⟩ ?_ ?_
 .rintro j y a σ' K' hy ⟨k,rfl⟩ hK
  refine ht y (am hy) _ σ' K' (fitsLe ?_) k (fun hp σ'' k'=>hK _ _ ⟨k.trans k',?_⟩) (fun hp σ'' k'=>hK _ _ ⟨k.trans k',?_⟩)
  .refine Nat.le_trans ?_ hl
   rw [List.length_append,List.length_map]
   exact Nat.add_le_add_left (Nat.le_trans (List.length_filter_le _ _) (by rw [List.length_take]; exact Nat.min_le_right _ _)) _
  .rw [az hy,List.filter_append,List.filter_cons_of_pos hp,List.map_append,List.append_assoc]; rfl
  .rw [az hy,List.filter_append,List.filter_cons_of_neg (by rw [hp]; exact Bool.false_ne_true)]
   show _ = acc ++ (List.filter p (ys.take j) ++ []).map g
   rw [List.append_nil]
 .rintro a σ' ⟨k,rfl⟩
  rw [List.take_length]
  exact he σ' k
theorem fg (g:δ->AV) (hsrc:∀ σ',aB σ σ'->items src σ' = .ok (ys.map f) σ'/\isL src σ' = .ok bb σ') (hl:ys.length ≤ 1000000) (ha:apart t l = true)
  (ht:∀ y ∈ ys,∀ σ' K',aB σ σ'->(∀ σ'',aB σ' σ''->K' (g y) σ'')->vTg t (f y) l (kEl n F e σ' K'))
  (he:∀ σ',aB σ σ'->K (ys.map g) σ'):SCl n e (.cons (.gen t it .nil) .nil) F src l [] σ K:=by
 refine fP (fun z0=>true) g hsrc (by rw [List.length_nil,Nat.zero_add]; exact hl) ha (fun y hy a σ' K' hf k hK z0=>?_) fun σ' k=>?_
 .exact ht y hy σ' (kClE a K') k fun σ'' k'=>⟨hf,hK rfl σ'' k'⟩
 .show K ((ys.filter fun z0=>true).map g) σ'
  rw [List.filter_eq_self.mpr fun z0 z0=>rfl]
  exact he σ' k
theorem jl {r:Prop} {xs:List AV} {Q:Ko AV} (hs:fits xs.length = true) (h:∀ i σ',aB σ σ'->Has σ' i (.list xs)->σ.length ≤ i->Q (.obj i) σ'):wp (mkL xs) σ Q r:=iD hs (h _ _ (.app _) an (Nat.le_refl _))
theorem aD {r:Prop} {Q:Ko AV} (hs:ys.length ≤ 1000000) (h:∀ i σ',aB σ σ'->Has σ' i (.list (ys.map f))->σ.length ≤ i->Q (.obj i) σ'):wp (mkL (ys.map f)) σ Q r:=jl (fitsLe (by rw [List.length_map]; exact hs)) h
theorem jk {r:Prop} {fz i:Nat} {w:List Int} {ws:List (List Int)} {Q:Ko Unit} (hi:Has σ i (.wset ws)) (hf:fz ≤ i) (hs:ws.length ≤ 1000000) (h:∀ σ',Has σ' i (.wset (winsert w ws))->Put i σ σ'->Q () σ'):wp (setSub fz (.obj i) (wordV w) (.bool true)) σ Q r :=
 jq hi hf (fitsLe hs) (h _ (be hi) (.set _))
end
theorem oy {n m:Nat} {F:Fr} {ks:List Nat} {t a b ss:C} {l:Env} {σ:ac} {K:Ko Env} (L:Env) (P:ac->Prop) (h1:∀ K':Ko Env,(∀ σ',P σ'->K' L σ')->(vm n F).T t l σ (kIf ks a b (vm n F) l K')) (h2:∀ σ',P σ'->vSs (vm (n + 1) F) m ss L σ' K):vSs (vm (n + 1) F) (m + 1) (.cons (.ifs ks t a b) ss) l σ K:=h1 _ h2
theorem cq {σ:ac} {i:Nat} {ws:List (List Int)} (h:Has σ i (.wset ws)):lenV (.obj i) σ = .ok ws.length σ:=by unfold lenV; dsimp only; rw [h]
theorem dg {σ:ac} {w:List Int}:lenV (wordV w) σ = .ok w.length σ:=by show Out.ok (w.map AV.int).length σ = _; rw [List.length_map]
theorem aF {n:Int} (h:n.natAbs ≤ 1000000):small n = true:=bz (by omega)
theorem gn {w:List Int} {tc x:Int} {j:Nat} (hx:w[j]? = some x):lastT tc (w.take (j + 1)) = if x < tc then x else lastT tc (w.take j):=by
 unfold lastT
 rw [List.take_add_one,hx,List.foldl_append]; rfl
noncomputable def kZ:C:=(.cons (.aattr "number" (.n 0) (.n 1)) (.cons (.aattr "left" (.n 0) (.n 2)) (.cons (.aattr "right" (.n 0) (.n 3)) (.cons (.aattr "level_of" (.n 0) (.n 4)) (.cons (.aattr "action" (.n 0) (.n 5)) (.cons (.aattr "line" (.n 0) (.n 6)) (.cons (.aattr "before" (.n 0) (.n 7)) .nil)))))))
theorem kR:fnD "Rule.__init__" = some (kZ,[0,1,2,3,4,5,6,7],[(.int (-1)),.none,(.int 0),(.int 0)]):=by kernel_rfl
noncomputable def la:C:=(.cons (.aattr "names" (.n 0) (.n 1)) (.cons (.aattr "terminal_count" (.n 0) (.n 2)) (.cons (.aattr "rules" (.n 0) (.n 3)) (.cons (.aattr "levels" (.n 0) (.n 4)) (.cons (.aattr "expect" (.n 0) (.n 5)) (.cons (.aattr "start" (.n 0) (.n 6)) (.cons (.aattr "by_left" (.n 0) (.comp [] (.list .nil) (.cons (.attr "names" (.n 0)) (.cons (.gen (.n 1) (.attr "names" .bad) .nil) .nil)))) (.cons (.aattr "offsets" (.n 0) (.list .nil)) (.cons (.aattr "owners" (.n 0) (.list .nil)) (.cons (.loop [0] (.n 7) (.attr "rules" (.n 0)) (.cons (.expr (.meth "append" "Grammar.append" (.sub (.attr "by_left" (.n 0)) (.attr "left" (.n 7))) (.cons (.attr "number" (.n 7)) .nil))) (.cons (.expr (.meth "append" "Grammar.append" (.attr "offsets" (.n 0)) (.cons (.blt "len" (.cons (.attr "owners" (.n 0)) .nil)) .nil))) (.cons (.expr (.meth "extend" "Grammar.extend" (.attr "owners" (.n 0)) (.cons (.bin .Mult (.list (.cons (.attr "number" (.n 7)) .nil)) (.bin .Add (.blt "len" (.cons (.attr "right" (.n 7)) .nil)) (.k (.int 1)))) .nil))) .nil)))) (.cons (.aattr "item_count" (.n 0) (.blt "len" (.cons (.attr "owners" (.n 0)) .nil))) .nil)))))))))))
theorem kS:fnD "Grammar.__init__" = some (la,[0,1,2,3,4,5,6],[]):=by kernel_rfl
noncomputable def rH:C:=(.cons (.ret (.blt "len" (.cons (.attr "names" (.n 0)) .nil))) .nil)
theorem rx:fnD "Grammar.symbol_count" = some (rH,[0],[]):=by kernel_rfl
noncomputable def qh:C:=(.cons (.ret (.cmp .Lt (.n 1) (.attr "terminal_count" (.n 0)))) .nil)
theorem qc:fnD "Grammar.is_terminal" = some (qh,[0,1],[]):=by kernel_rfl
noncomputable def qg:C:=(.cons (.ret (.ite (.cmp .In (.n 1) (.attr "names" (.n 0))) (.meth "index" "Grammar.index" (.attr "names" (.n 0)) (.cons (.n 1) .nil)) (.neg 1))) .nil)
theorem pZ:fnD "Grammar.number" = some (qg,[0,1],[]):=by kernel_rfl
noncomputable def sT:C:=(.cons (.asg 2 (.neg 1)) (.cons (.loop [1,2] (.n 3) (.n 0) (.cons (.ifs [1,2] (.cmp .Lt (.n 3) (.n 1)) (.cons (.asg 2 (.n 3)) .nil) .nil) .nil)) (.cons (.ret (.n 2)) .nil)))
theorem sM:fnD "last_terminal" = some (sT,[0,1],[]):=by kernel_rfl
noncomputable def rG:C:=(.cons (.asg 2 (.list .nil)) (.cons (.loop [0,1,2] (.cons (.n 3) (.n 4)) (.n 0) (.cons (.ifs [0,1,2,3,4] (.or (.cons (.cmp .Eq (.n 3) (.k (.str "error"))) (.cons (.cmp .In (.slice (.n 3) (.k (.int 1))) (.tup (.cons (.k (.str "")) (.cons (.k (.str "$")) (.cons (.k (.str "'")) .nil))))) .nil))) (.cons .bad .nil) .nil) (.cons (.ifs [0,1,2,4] (.cmp .NotIn (.n 3) (.n 2)) (.cons (.expr (.meth "append" "Grammar.append" (.n 2) (.cons (.n 3) .nil))) .nil) .nil) (.cons (.loop [0,1,2] (.n 5) (.n 4) (.cons (.ifs [0,1,2] (.cmp .In (.slice (.n 5) (.k (.int 1))) (.tup (.cons (.k (.str "")) (.cons (.k (.str "$")) .nil)))) (.cons .bad .nil) .nil) .nil)) .nil)))) (.cons (.asg 6 (.ite (.or (.cons (.cmp .IsNot (.n 1) (.k .none)) (.cons (.cmp .Eq (.n 2) (.list .nil)) .nil))) (.n 1) (.sub (.n 2) (.k (.int 0))))) (.cons (.ifs [0,2,6] (.cmp .NotIn (.n 6) (.n 2)) (.cons .bad .nil) .nil) (.cons (.asg 7 (.blt "list" (.cons (.k (.tup [(.str "$end"),(.str "error"),(.str "$undefined")])) .nil))) (.cons (.loop [0,2,6,7] (.cons (.n 3) (.n 4)) (.n 0) (.cons (.loop [0,2,6,7] (.n 5) (.n 4) (.cons (.ifs [0,2,6,7] (.and (.cons (.cmp .NotIn (.n 5) (.n 2)) (.cons (.cmp .NotIn (.n 5) (.n 7)) .nil))) (.cons (.expr (.meth "append" "Grammar.append" (.n 7) (.cons (.n 5) .nil))) .nil) .nil) .nil)) .nil)) (.cons (.asg 8 (.blt "len" (.cons (.n 7) .nil))) (.cons (.asg 7 (.bin .Add (.bin .Add (.n 7) (.list (.cons (.k (.str "$accept")) .nil))) (.n 2))) (.cons (.asg 9 (.list (.cons (.cls "Rule" "Rule.__init__" (.cons (.k (.int 0)) (.cons (.n 8) (.cons (.tup (.cons (.meth "index" "Grammar.index" (.n 7) (.cons (.n 6) .nil)) (.cons (.k (.int 0)) .nil))) (.cons (.k (.int 0)) .nil))))) .nil))) (.cons (.loop [6,7,8,9] (.cons (.n 3) (.n 4)) (.n 0) (.cons (.asg 10 (.blt "tuple" (.cons (.comp [(2,7)] (.meth "index" "Grammar.index" (.n 2) (.cons (.n 1) .nil)) (.cons (.n 4) (.cons (.gen (.n 1) .bad .nil) .nil))) .nil))) (.cons (.expr (.meth "append" "Grammar.append" (.n 9) (.cons (.cls "Rule" "Rule.__init__" (.cons (.blt "len" (.cons (.n 9) .nil)) (.cons (.meth "index" "Grammar.index" (.n 7) (.cons (.n 3) .nil)) (.cons (.n 10) (.cons (.fn "last_terminal" (.cons (.n 10) (.cons (.n 8) .nil))) .nil))))) .nil))) .nil))) (.cons (.ret (.cls "Grammar" "Grammar.__init__" (.cons (.n 7) (.cons (.n 8) (.cons (.n 9) (.cons .dict0 (.cons (.k .none) (.cons (.meth "index" "Grammar.index" (.n 7) (.cons (.n 6) .nil)) .nil)))))))) .nil)))))))))))
theorem rv:fnD "plain_grammar" = some (rG,[0,1],[.none]):=by kernel_rfl
noncomputable def rF:C:=(.cons (.ret (.blt "min" (.cons (.comp [] (.blt "len" (.cons (.n 1) .nil)) (.cons (.n 0) (.cons (.gen (.n 1) .bad .nil) .nil))) .nil))) .nil)
theorem ru:fnD "shortest_size" = some (rF,[0],[]):=by kernel_rfl
noncomputable def sS:C:=(.cons (.ifs [0,1,2] (.or (.cons (.cmp .Lt (.n 1) (.k (.int 0))) (.cons (.cmp .NotEq (.comp [] (.n 1) (.cons (.n 0) (.cons (.gen (.n 1) .bad (.cons (.cmp .Eq (.blt "len" (.cons (.n 1) .nil)) (.k (.int 0))) .nil)) .nil))) (.list .nil)) .nil))) (.cons (.ret .dict0) .nil) .nil) (.cons (.asg 4 (.bin .Sub (.n 1) (.blt "sum" (.cons (.comp [] (.fn "shortest_size" (.cons (.n 1) .nil)) (.cons (.n 0) (.cons (.gen (.n 1) .bad .nil) .nil))) .nil)))) (.cons (.asg 5 (.ite (.cmp .GtE (.n 4) (.k (.int 0))) (.dict1 (.tup .nil) (.k (.bool true))) .dict0)) (.cons (.loop [2,4,5] (.n 3) (.n 0) (.cons (.asg 4 (.bin .Add (.n 4) (.fn "shortest_size" (.cons (.n 3) .nil)))) (.cons (.asg 6 .dict0) (.cons (.loop [2,3,4,6] (.n 7) (.n 5) (.cons (.loop [2,3,4,6,7] (.n 8) (.n 3) (.cons (.ifs [2,3,4,6,7] (.cmp .LtE (.bin .Add (.blt "len" (.cons (.n 7) .nil)) (.blt "len" (.cons (.n 8) .nil))) (.n 4)) (.cons (.asub (.n 6) (.bin .Add (.n 7) (.n 8)) (.k (.bool true))) .nil) .nil) .nil)) (.cons (.expr (.few (.cons (.blt "len" (.cons (.n 6) .nil)) (.cons (.n 2) .nil)))) .nil))) (.cons (.asg 5 (.n 6)) .nil))))) (.cons (.ret (.n 5)) .nil)))))
theorem sL:fnD "rows_joined" = some (sS,[0,1,2],[(.int 20000)]):=by kernel_rfl
noncomputable def tF:C:=(.cons (.asg 3 (.list .nil)) (.cons (.loop [0,1,2,3] (.n 4) (.blt "range" (.cons (.meth "symbol_count" "Grammar.symbol_count" (.n 0) .nil) .nil)) (.cons (.asg 5 (.and (.cons (.meth "is_terminal" "Grammar.is_terminal" (.n 0) (.cons (.n 4) .nil)) (.cons (.cmp .NotEq (.n 4) (.k (.int 1))) (.cons (.cmp .Gt (.n 1) (.k (.int 0))) .nil))))) (.cons (.expr (.meth "append" "Grammar.append" (.n 3) (.cons (.ite (.tr (.n 5)) (.dict1 (.tup (.cons (.n 4) .nil)) (.k (.bool true))) .dict0) .nil))) .nil))) (.cons (.asg 6 (.blt "sum" (.cons (.comp [] (.blt "len" (.cons (.n 1) .nil)) (.cons (.n 3) (.cons (.gen (.n 1) .bad .nil) .nil))) .nil))) (.cons (.expr (.few (.cons (.n 6) (.cons (.n 2) .nil)))) (.cons (.asg 7 (.k (.bool true))) (.cons (.whl [0,1,2,3,6,7] (.tr (.n 7)) (.cons (.asg 7 (.k (.bool false))) (.cons (.loop [0,1,2,3,6,7] (.n 8) (.attr "rules" (.n 0)) (.cons (.loop [0,1,2,3,6,7,8] (.n 9) (.fn "rows_joined" (.cons (.comp [(2,3)] (.sub (.n 2) (.n 1)) (.cons (.attr "right" (.n 8)) (.cons (.gen (.n 1) (.attr "right" .bad) .nil) .nil))) (.cons (.n 1) (.cons (.n 2) .nil)))) (.cons (.ifs [0,1,2,3,6,7,8] (.cmp .NotIn (.n 9) (.sub (.n 3) (.attr "left" (.n 8)))) (.cons (.asub (.sub (.n 3) (.attr "left" (.n 8))) (.n 9) (.k (.bool true))) (.cons (.asg 6 (.bin .Add (.n 6) (.k (.int 1)))) (.cons (.expr (.few (.cons (.n 6) (.cons (.n 2) .nil)))) (.cons (.asg 7 (.k (.bool true))) .nil)))) .nil) .nil)) .nil)) .nil))) (.cons (.ret (.n 3)) .nil)))))))
theorem tC:fnD "all_words" = some (tF,[0,1,2],[(.int 20000)]):=by kernel_rfl
noncomputable def sQ:C:=(.cons (.ret (.blt "sorted" (.cons (.sub (.fn "all_words" (.cons (.n 0) (.cons (.n 1) (.cons (.n 2) .nil)))) (.attr "start" (.n 0))) .nil))) .nil)
theorem sJ:fnD "words_up_to" = some (sQ,[0,1,2],[(.int 20000)]):=by kernel_rfl
noncomputable def sR:C:=(.cons (.asg2 1 2 (.k (.int 0)) (.k (.int 0))) (.cons (.loop [1,2] (.n 3) (.slice (.n 0) (.k (.int 63))) (.cons (.asg 1 (.bin .Add (.bin .Mult (.n 1) (.k (.int 4099))) (.blt "abs" (.cons (.blt "int" (.cons (.n 3) .nil)) .nil)))) (.cons (.asg 2 (.bin .Mod (.bin .Add (.bin .Mult (.n 2) (.k (.int 523))) (.blt "int" (.cons (.n 3) .nil))) (.k (.int 1000000007)))) .nil))) (.cons (.ret (.list (.cons (.n 1) (.cons (.n 2) (.cons (.k (.int 0)) .nil))))) .nil)))
theorem sK:fnD "_law_tape" = some (sR,[0],[]):=by kernel_rfl
noncomputable def sU:C:=(.cons (.ifs [0,1] (.cmp .Eq (.sub (.n 0) (.k (.int 0))) (.k (.int 0))) (.cons (.asub (.n 0) (.k (.int 2)) (.bin .Add (.sub (.n 0) (.k (.int 2))) (.k (.int 1)))) (.cons (.asub (.n 0) (.k (.int 0)) (.bin .Mod (.bin .Pow (.bin .Add (.sub (.n 0) (.k (.int 1))) (.bin .Mult (.k (.int 170041)) (.sub (.n 0) (.k (.int 2))))) (.k (.int 3))) (.k (.int 1000000007)))) .nil)) .nil) (.cons (.asg 2 (.bin .Mod (.sub (.n 0) (.k (.int 0))) (.n 1))) (.cons (.asub (.n 0) (.k (.int 0)) (.bin .FloorDiv (.sub (.n 0) (.k (.int 0))) (.n 1))) (.cons (.ret (.n 2)) .nil))))
theorem sN:fnD "_law_draw" = some (sU,[0,1],[]):=by kernel_rfl
noncomputable def tD:C:=(.cons (.asg 1 .dict0) (.cons (.loop [0,1] (.n 2) (.blt "range" (.cons (.fn "_law_draw" (.cons (.n 0) (.cons (.k (.int 5)) .nil))) .nil)) (.cons (.asub (.n 1) (.blt "tuple" (.cons (.comp [(3,0)] (.bin .Add (.k (.int 1)) (.fn "_law_draw" (.cons (.n 3) (.cons (.k (.int 2)) .nil)))) (.cons (.blt "range" (.cons (.fn "_law_draw" (.cons (.n 0) (.cons (.k (.int 4)) .nil))) .nil)) (.cons (.gen (.n 1) .bad .nil) .nil))) .nil)) (.k (.bool true))) .nil)) (.cons (.ret (.n 1)) .nil)))
theorem tA:fnD "_law_set" = some (tD,[0],[]):=by kernel_rfl
noncomputable def tY:C:=(.cons (.asg2 6 4 (.comp [(3,0)] (.fn "_law_set" (.cons (.n 3) .nil)) (.cons (.blt "range" (.cons (.fn "_law_draw" (.cons (.n 0) (.cons (.k (.int 4)) .nil))) .nil)) (.cons (.gen (.n 1) .bad .nil) .nil))) (.bin .Sub (.fn "_law_draw" (.cons (.n 0) (.cons (.k (.int 10)) .nil))) (.k (.int 2)))) (.cons (.asg 2 (.comp [] (.blt "list" (.cons (.n 1) .nil)) (.cons (.n 6) (.cons (.gen (.n 1) .bad .nil) .nil)))) (.cons (.asg 3 (.list (.cons (.tup .nil) .nil))) (.cons (.loop [0,2,3,4,6] (.n 1) (.n 6) (.cons (.asg 3 (.comp [(3,1)] (.bin .Add (.n 1) (.n 2)) (.cons (.n 3) (.cons (.gen (.n 1) .bad .nil) (.cons (.gen (.n 2) (.n 3) .nil) .nil))))) .nil)) (.cons (.asg 3 (.blt "dict" (.cons (.comp [(3,4)] (.tup (.cons (.n 1) (.cons (.k (.bool true)) .nil))) (.cons (.n 3) (.cons (.gen (.n 1) .bad (.cons (.cmp .LtE (.blt "len" (.cons (.n 1) .nil)) (.n 3)) .nil)) .nil))) .nil))) (.cons (.asg 5 (.blt "max" (.cons (.k (.int 1)) (.cons (.bin .Sub (.bin .Add (.blt "len" (.cons (.n 3) .nil)) (.fn "_law_draw" (.cons (.n 0) (.cons (.k (.int 3)) .nil)))) (.k (.int 1))) .nil)))) (.cons (.ifs [3,4,5,6] (.or (.cons (.cmp .NotEq (.fn "rows_joined" (.cons (.n 6) (.cons (.n 4) .nil))) (.n 3)) (.cons (.cmp .NotEq (.comp [] (.blt "list" (.cons (.n 1) .nil)) (.cons (.n 6) (.cons (.gen (.n 1) .bad .nil) .nil))) (.n 2)) .nil))) (.cons (.ret (.k (.bool false))) .nil) .nil) (.cons (.ret (.cmp .Eq (.told [(0,4),(1,5),(2,6)] (.fn "rows_joined" (.cons (.n 2) (.cons (.n 0) (.cons (.n 1) .nil))))) (.ite (.cmp .LtE (.blt "len" (.cons (.n 3) .nil)) (.n 5)) (.n 3) (.k .none)))) .nil))))))))
theorem tW:fnD "_law_rows_right" = some (tY,[0],[]):=by kernel_rfl
noncomputable def rE:C:=(.cons (.asg 5 (.blt "dict" (.cons (.bin .Add (.comp [(2,2)] (.tup (.cons (.n 1) (.cons (.ite (.and (.cons (.cmp .Gt (.n 2) (.k (.int 0))) (.cons (.cmp .NotEq (.n 1) (.k (.str "error"))) .nil))) (.list (.cons (.tup (.cons (.n 1) .nil)) .nil)) (.list .nil)) .nil))) (.cons (.n 1) (.cons (.gen (.n 1) .bad .nil) .nil))) (.comp [] (.tup (.cons (.n 1) (.cons (.list .nil) .nil))) (.cons (.n 0) (.cons (.gen (.cons (.n 1) (.n 2)) .bad .nil) .nil)))) .nil))) (.cons (.asg 6 (.k (.bool true))) (.cons (.whl [0,2,5,6] (.tr (.n 6)) (.cons (.asg 6 (.k (.bool false))) (.cons (.loop [0,2,5,6] (.cons (.n 3) (.n 4)) (.n 0) (.cons (.asg 7 (.list (.cons (.tup .nil) .nil))) (.cons (.loop [0,2,3,5,6,7] (.n 8) (.n 4) (.cons (.asg 7 (.comp [(4,5),(5,2),(6,8)] (.bin .Add (.n 1) (.n 2)) (.cons (.n 7) (.cons (.gen (.n 1) .bad .nil) (.cons (.gen (.n 2) (.sub (.n 4) (.n 6)) (.cons (.cmp .LtE (.bin .Add (.blt "len" (.cons (.n 1) .nil)) (.blt "len" (.cons (.n 2) .nil))) (.n 5)) .nil)) .nil))))) .nil)) (.cons (.loop [0,2,3,5,6] (.n 9) (.n 7) (.cons (.ifs [0,2,3,5,6] (.cmp .NotIn (.n 9) (.sub (.n 5) (.n 3))) (.cons (.expr (.meth "append" "Grammar.append" (.sub (.n 5) (.n 3)) (.cons (.n 9) .nil))) (.cons (.asg 6 (.k (.bool true))) .nil)) .nil) .nil)) .nil)))) .nil))) (.cons (.ret (.n 5)) .nil))))
theorem rt:fnD "_law_words" = some (rE,[0,1,2],[]):=by kernel_rfl
noncomputable def tZ:C:=(.cons (.asg 1 (.slice (.list (.cons (.k (.str "s")) (.cons (.k (.str "t")) .nil))) (.bin .Add (.k (.int 1)) (.fn "_law_draw" (.cons (.n 0) (.cons (.k (.int 2)) .nil)))))) (.cons (.asg 3 (.comp [(4,1),(5,0)] (.tup (.cons (.n 1) (.cons (.comp [(4,4),(5,5)] (.sub (.bin .Add (.list (.cons (.k (.str "a")) (.cons (.k (.str "b")) (.cons (.k (.str "error")) .nil)))) (.n 4)) (.fn "_law_draw" (.cons (.n 5) (.cons (.bin .Add (.k (.int 3)) (.blt "len" (.cons (.n 4) .nil))) .nil)))) (.cons (.blt "range" (.cons (.fn "_law_draw" (.cons (.n 5) (.cons (.k (.int 3)) .nil))) .nil)) (.cons (.gen (.n 1) .bad .nil) .nil))) .nil))) (.cons (.n 1) (.cons (.gen (.n 1) (.n 4) .nil) .nil)))) (.cons (.loop [0,1,3] (.n 4) (.blt "range" (.cons (.fn "_law_draw" (.cons (.n 0) (.cons (.k (.int 4)) .nil))) .nil)) (.cons (.asg2 2 5 (.sub (.n 1) (.fn "_law_draw" (.cons (.n 0) (.cons (.blt "len" (.cons (.n 1) .nil)) .nil)))) (.fn "_law_draw" (.cons (.n 0) (.cons (.k (.int 3)) .nil)))) (.cons (.expr (.meth "append" "Grammar.append" (.n 3) (.cons (.tup (.cons (.n 2) (.cons (.comp [(4,1),(5,0)] (.sub (.bin .Add (.n 4) (.list (.cons (.k (.str "a")) (.cons (.k (.str "b")) .nil)))) (.fn "_law_draw" (.cons (.n 5) (.cons (.bin .Add (.k (.int 2)) (.blt "len" (.cons (.n 4) .nil))) .nil)))) (.cons (.blt "range" (.cons (.n 5) .nil)) (.cons (.gen (.n 1) .bad .nil) .nil))) .nil))) .nil))) .nil))) (.cons (.asg2 11 12 (.fn "plain_grammar" (.cons (.comp [] (.tup (.cons (.n 1) (.cons (.blt "list" (.cons (.n 2) .nil)) .nil))) (.cons (.n 3) (.cons (.gen (.cons (.n 1) (.n 2)) .bad .nil) .nil))) .nil)) (.fn "_law_draw" (.cons (.n 0) (.cons (.k (.int 3)) .nil)))) (.cons (.asg 6 (.fn "_law_words" (.cons (.bin .Add (.list (.cons (.tup (.cons (.k (.str "$accept")) (.cons (.list (.cons (.k (.str "s")) (.cons (.k (.str "$end")) .nil))) .nil))) .nil)) (.n 3)) (.cons (.slice (.attr "names" (.n 11)) (.attr "terminal_count" (.n 11))) (.cons (.n 12) .nil))))) (.cons (.asg 7 (.comp [(3,6),(4,11)] (.blt "sorted" (.cons (.comp [(3,4)] (.blt "tuple" (.cons (.comp [(2,3)] (.meth "number" "Grammar.number" (.n 2) (.cons (.n 1) .nil)) (.cons (.n 1) (.cons (.gen (.n 1) .bad .nil) .nil))) .nil)) (.cons (.sub (.n 3) (.n 1)) (.cons (.gen (.n 1) (.sub .bad .bad) .nil) .nil))) .nil)) (.cons (.attr "names" (.n 11)) (.cons (.gen (.n 1) (.attr "names" (.n 4)) .nil) .nil)))) (.cons (.asg 8 (.blt "sum" (.cons (.comp [] (.blt "len" (.cons (.n 1) .nil)) (.cons (.n 7) (.cons (.gen (.n 1) .bad .nil) .nil))) .nil))) (.cons (.asg 13 (.blt "max" (.cons (.k (.int 0)) (.cons (.bin .Sub (.bin .Add (.n 8) (.fn "_law_draw" (.cons (.n 0) (.cons (.k (.int 3)) .nil)))) (.k (.int 1))) .nil)))) (.cons (.asg2 9 10 (.told [(0,11),(1,12),(2,13)] (.fn "all_words" (.cons (.n 0) (.cons (.n 1) (.cons (.n 2) .nil))))) (.told [(0,11),(1,12),(2,13)] (.fn "words_up_to" (.cons (.n 0) (.cons (.n 1) (.cons (.n 2) .nil)))))) (.cons (.ifs [7,9,10,11,12] (.cmp .Gt (.n 8) (.n 13)) (.cons (.ret (.and (.cons (.cmp .Is (.n 9) (.k .none)) (.cons (.cmp .Is (.n 10) (.k .none)) .nil)))) .nil) .nil) (.cons (.ret (.and (.cons (.cmp .Eq (.comp [] (.blt "sorted" (.cons (.n 1) .nil)) (.cons (.n 9) (.cons (.gen (.n 1) .bad .nil) .nil))) (.n 7)) (.cons (.cmp .Eq (.n 10) (.sub (.n 7) (.attr "start" (.n 11)))) (.cons (.cmp .Eq (.fn "words_up_to" (.cons (.n 11) (.cons (.n 12) .nil))) (.n 10)) .nil))))) .nil)))))))))))
theorem tX:fnD "_law_grammar_right" = some (tZ,[0],[]):=by kernel_rfl
noncomputable def tE:C:=(.cons (.asg 1 (.fn "_law_tape" (.cons (.n 0) .nil))) (.cons (.ifs [1] (.or (.cons (.cmp .NotEq (.k (.int 20000)) (.k (.int 20000))) (.cons (.cmp .NotEq (.fn "rows_joined" (.cons (.list (.cons (.dict1 (.tup (.cons (.k (.int 1)) .nil)) (.k (.bool true))) .nil)) (.cons (.k (.int 1)) (.cons (.k (.int 20000)) .nil)))) (.dict1 (.tup (.cons (.k (.int 1)) .nil)) (.k (.bool true)))) .nil))) (.cons (.ret (.k (.bool false))) .nil) .nil) (.cons (.loop [1] (.n 2) (.blt "range" (.cons (.k (.int 3)) .nil)) (.cons (.ifs [1] (.not (.tr (.fn "_law_rows_right" (.cons (.n 1) .nil)))) (.cons (.ret (.k (.bool false))) .nil) .nil) .nil)) (.cons (.ret (.fn "_law_grammar_right" (.cons (.n 1) .nil))) .nil))))
theorem tB:fnD "law" = some (tE,[0],[]):=by kernel_rfl
theorem dy {k fz i:Nat} {σ:ac} {ws:List (List Int)} {Q:AV->ac->Prop} {X:Prop} (hi:Has σ i (.wset ws)) (hne:ws ≠ []) (hf:ws.length ≤ 1000) (hl:∀ w ∈ ws,w.length ≤ 100)
  (h:∀ σ',aB σ σ'->Q (.int (sh ws:Nat)) σ'):wp ((mach W (k + 8)).F "shortest_size" fz [.obj i]) σ Q X:=by
 refine cL ru rfl ?_
 refine fg (f:=wordV) (ys:=ws) (fun w=>.int w.length) (jB hi) (by omega) rfl (fun w hw σ' K' k hK=>?_) fun σ' k=>?_
 .exact bj dg (fitsLe (by have:=hl w hw; omega)) (hK σ' .refl)
 .refine aD (by omega) fun j σ'' k' hj z0=>?_
  induction ws using List.casesOn with
  | nil=>exact absurd rfl hne
  | cons w ws =>
   refine tG (x:=(w.length:Int)) (xs:=ws.map fun w=>(w.length:Int)) (by rw [hj,List.map_cons,List.map_cons,List.map_map]; rfl) ?_
   rw [qX]
   exact h σ'' (k.trans k')
theorem mS {k fz:Nat} {σ:ac} {w:List Int} {tc:Int} {Q:AV->ac->Prop} {X:Prop} (hf:w.length ≤ 1000000) (h:Q (.int (lastT tc w)) σ):wp ((mach W (k + 8)).F "last_terminal" fz [wordV w,.int tc]) σ Q X:=by
 refine cL sM rfl ?_
 refine ba (f:=AV.int) (ys:=w) (bb:=false) (fun f=>.put 1 (.int tc) (.put 2 (.int f) .nil)) (fun j f σ'=>σ' = σ/\f = lastT tc (w.take j)) (fun z0 z0 z0 z0=>eT) hf ⟨rfl,rfl⟩ ?_ ?_
 .rintro j x f σ' K hx ⟨rfl,rfl⟩ hK
  refine ifd (fun hlt=>hK x σ' ⟨rfl,?_⟩) fun hlt=>hK _ σ' ⟨rfl,?_⟩
  .rw [gn hx,if_pos hlt]
  .rw [gn hx,if_neg hlt]
 .rintro f σ' ⟨rfl,rfl⟩
  rw [List.take_length]
  exact h
theorem eG {k fz i:Nat} {σ:ac} {at':List (Str × AV)} {s tc:Int} {Q:AV->ac->Prop} {X:Prop} (hi:Has σ i (.inst "Grammar" at')) (ht:at'.lookup ("terminal_count" : Str) = some (AV.int tc)) (h:Q (.bool (decide (s < tc))) σ):wp ((mach W (k + 8)).F "Grammar.is_terminal" fz [.obj i,.int s]) σ Q X:=by
 refine cL qc rfl ?_
 exact ay hi (by rfl) ht h
theorem eb {k fz i j:Nat} {σ:ac} {at':List (Str × AV)} {xs:List AV} {Q:AV->ac->Prop} {X:Prop} (hi:Has σ i (.inst "Grammar" at')) (ht:at'.lookup ("names" : Str) = some (AV.obj j)) (hj:Has σ j (.list xs)) (hf:fits xs.length = true) (h:Q (.int xs.length) σ):wp ((mach W (k + 8)).F "Grammar.symbol_count" fz [.obj i]) σ Q X:=by
 refine cL rx rfl ?_
 refine ay hi (by rfl) ht (bj (n:=xs.length) ?_ hf h)
 unfold lenV
 dsimp only
 rw [hj]
theorem jC {k fz i j:Nat} {σ:ac} {at':List (Str × AV)} {ys:List Str} {x:Str} {Q:AV->ac->Prop} {X:Prop} (hi:Has σ i (.inst "Grammar" at')) (ht:at'.lookup ("names" : Str) = some (AV.obj j)) (hj:Has σ j (.list (ys.map AV.str))) (hf:fits ys.length = true) (hx:ys.contains x = true)
  (h:Q (.int (ys.idxOf x)) σ):wp ((mach W (k + 8)).F "Grammar.number" fz [.obj i,.str x]) σ Q X:=by
 refine cL pZ rfl ?_
 refine ay hi (by rfl) ht (gM hj (ifT hx ?_))
 refine ay hi (by rfl) ht ?_
 refine aE (a:=true) (σ':=σ) (by unfold tagOf; dsimp only; rw [hj]; rfl) ?_
 refine aE (a:=.int (ys.idxOf x)) (σ':=σ) ?_ h
 unfold listM
 dsimp only
 rw [hj]
 show (do let ys <- MM.opt (strsOf (ys.map AV.str)); MM.guard (ys.contains x && fits ys.length); MM.pure (.int (ys.idxOf x)):MM AV) σ = _
 rw [dl]
 show (do MM.guard (ys.contains x && fits ys.length); MM.pure (.int (ys.idxOf x)):MM AV) σ = _
 rw [hx,hf]
 rfl
theorem cR {k fz i:Nat} {σ:ac} {n l lv:Int} {r:List Int} {Q:AV->ac->Prop} {X:Prop} (hi:Has σ i (.inst "Rule" [])) (hf:fz ≤ i) (h:∀ σ',Has σ' i (.inst "Rule" (ruleAt n l r lv))->Put i σ σ'->Q .none σ'):wp ((mach W (k + 8)).F "Rule.__init__" fz [.obj i,.int n,.int l,wordV r,.int lv]) σ Q X:=by
 have hlt:=aN hi
 refine cL kR rfl ?_
 refine dW hi (by rfl) hf ?_
 refine aV _ hlt (by rfl) hf rfl ?_
 refine aV _ hlt (by rfl) hf rfl ?_
 refine aV _ hlt (by rfl) hf rfl ?_
 refine aV _ hlt (by rfl) hf rfl ?_
 refine aV _ hlt (by rfl) hf rfl ?_
 refine aV (ruleAt n l r lv) hlt (by rfl) hf (by rfl) ?_
 exact h _ (be hi) (.set _)
inductive aC (t N:Nat) (σ:ac):Prop
 | mk (d s n:Int) (T:tJ d s n N) (h:Has σ t (tapeV d s n))
theorem aC.keep {t N:Nat} {σ σ':ac} (T:aC t N σ) (k:aB σ σ'):aC t N σ':=by
 induction T using aC.casesOn with | mk d s n T h=>exact ⟨d,s,n,T,k.get rfl h⟩
theorem aC.put {t N i:Nat} {σ σ':ac} (T:aC t N σ) (hi:t ≠ i) (k:Put i σ σ'):aC t N σ':=by
 induction T using aC.casesOn with | mk d s n T h=>exact ⟨d,s,n,T,k.get hi h⟩
theorem aC.up {t N M:Nat} {σ:ac} (T:aC t N σ) (h:N ≤ M):aC t M σ:=by
 induction T using aC.casesOn with | mk d s n T g=>exact ⟨d,s,n,⟨T.d0,T.ds,T.s0,T.s1,T.n0,Int.le_trans T.n1 (by omega)⟩,g⟩
theorem aC.lt {t N:Nat} {σ:ac} (T:aC t N σ):t < σ.length:=by
 induction T using aC.casesOn with | mk d s n T h=>exact aN h
theorem iH {t:Nat} {d s n d' s' n':Int} {σ:ac} (h:Has σ t (tapeV d s n)):KT σ (σ.set t (tapeV d' s' n')):=⟨by rw [List.length_set]; exact Nat.le_refl _,fun {i o} ho hi=>lU (fun e=>by
 subst e
 have hi:=Option.some.inj (h.symm.trans hi)
 rw [<- hi] at ho
 exact nomatch ho) hi⟩
theorem lN {a b:Int} {x y:Nat} (h1:a.natAbs ≤ x) (h2:b.natAbs ≤ y):(a * b).natAbs ≤ x * y:=by
 rw [Int.natAbs_mul]; exact Nat.mul_le_mul h1 h2
theorem mt {x y:Int} (h0:0 ≤ x) (h:x ≤ y):x.natAbs ≤ y.natAbs:=Int.ofNat_le.mp (by rw [Int.natAbs_of_nonneg h0,Int.natAbs_of_nonneg (Int.le_trans h0 h)]; exact h)
theorem aH {k fz i N:Nat} {σ:ac} {m:Int} {Q:AV->ac->Prop} {X:Prop} (T:aC i N σ) (hN:N < 1000000000) (hm:0 < m/\m < 1000000) (hf:fz ≤ i)
  (h:∀ r σ',0 ≤ r->r < m->aC i (N + 1) σ'->KT σ σ'->Q (.int r) σ'):wp ((mach W (k + 10)).F "_law_draw" fz [.obj i,.int m]) σ Q X:=by
 induction T using aC.casesOn with | mk d s n T hi =>
 have hlt:=aN hi
 refine cL sN rfl ?_
 refine oy (.put 0 (.obj i) (.put 1 (.int m) .nil)) (fun σ'=>KT σ σ'/\∃ d n,tJ d s n (N + 1)/\Has σ' i (tapeV d s n)) (fun K' hK=>?_) ?_
 rotate_left
 .rintro σ' ⟨k,d,n,T,hi⟩
  have hmod:0 ≤ d % m/\d % m < m:=⟨Int.emod_nonneg _ (Int.ne_of_gt hm.1),Int.emod_lt_of_pos _ hm.1⟩
  have hdiv:0 ≤ d / m/\d / m ≤ d:=⟨Int.ediv_nonneg T.d0 (Int.le_of_lt hm.1),Int.ediv_le_self _ T.d0⟩
  refine aX hi (by decide) (by rfl) (lk hm.1 (bz (Nat.lt_of_le_of_lt (na_var hmod.1 (Int.lt_trans hmod.2 hm.2)) (by decide))) ?_)
  refine aX hi (by decide) (by rfl) (rZ ⟨hm.1,Int.lt_trans hm.2 (by decide)⟩ (jF T.ds (mt hdiv.1 hdiv.2)) ?_)
  refine iC hi hf ⟨by decide,by decide,Nat.zero_lt_succ _⟩ ?_
  exact h (d % m) _ hmod.1 hmod.2 ⟨d / m,s,n,⟨hdiv.1,jF T.ds (mt hdiv.1 hdiv.2),T.s0,T.s1,T.n0,T.n1⟩,be hi⟩ (k.trans (iH hi))
 refine aX hi (by decide) (by rfl) ?_
 refine ifd (P:=d = 0) (fun hd=>?_) fun hd=>hK σ ⟨.refl,d,n,⟨T.d0,T.ds,T.s0,T.s1,T.n0,Int.le_trans T.n1 (Int.ofNat_le.mpr (Nat.le_succ N))⟩,hi⟩
 refine aX hi (by decide) (by rfl) ?_
 have hn:=T.n0
 have hn1:=T.n1
 have hs0:=T.s0
 have hs1:=T.s1
 have hn2:n < 1000000000:=Int.lt_of_le_of_lt hn1 (Int.ofNat_lt.mpr hN)
 have a1:(n + 1).natAbs ≤ 1000000001:=na_add (na_var hn hn2) (Nat.le_refl _)
 have a2:(170041 * (n + 1)).natAbs ≤ 170041 * 1000000001:=lN (Nat.le_refl _) a1
 have a3:(s + 170041 * (n + 1)).natAbs ≤ 1000000007 + 170041 * 1000000001:=na_add (na_var hs0 hs1) a2
 refine bp (bz (Nat.lt_of_le_of_lt a1 (by decide))) ?_
 refine iC hi hf ⟨by decide,by decide,Nat.lt_succ_self _⟩ ?_
 have hi2:Has (σ.set i (.list ([AV.int d,.int s,.int n].set (2:Int).toNat (.int (n + 1))))) i (.list ([AV.int d,.int s,.int (n + 1)])):=be hi
 have k2:KT σ (σ.set i (.list ([AV.int d,.int s,.int n].set (2:Int).toNat (.int (n + 1))))):=iH (d':=d) (s':=s) (n':=n + 1) hi
 generalize σ.set i (.list ([AV.int d,.int s,.int n].set (2:Int).toNat (.int (n + 1)))) = σ2 at hi2 k2
 refine aX hi2 (by decide) (by rfl) (aX hi2 (by decide) (by rfl) ?_)
 refine lj (.inr (by decide)) (bz (Nat.lt_of_le_of_lt a2 (by decide))) (bp (bz (Nat.lt_of_le_of_lt a3 (by decide))) (rY (Nat.lt_of_le_of_lt a3 (by decide)) (lB (Nat.lt_of_le_of_lt a3 (by decide))) ?_))
 have hz:0 ≤ (s + 170041 * (n + 1)) ^ 3 % 1000000007/\(s + 170041 * (n + 1)) ^ 3 % 1000000007 < 1000000007:=⟨Int.emod_nonneg _ (by decide),Int.emod_lt_of_pos _ (by decide)⟩
 have hz2:=bz (Nat.lt_of_le_of_lt (na_var hz.1 hz.2) (by decide))
 refine lk (by decide) hz2 (iC hi2 hf ⟨by decide,by decide,Nat.zero_lt_succ _⟩ ?_)
 exact hK _ ⟨k2.trans (iH (s':=s) (n':=n + 1) hi2),_,n + 1,⟨hz.1,hz2,hs0,hs1,Int.add_nonneg hn (by decide),Int.add_le_add_right hn1 1⟩,be hi2⟩
theorem rR {n:Nat} {F:Fr} {l:Env} {K:Ko AV} {σ:ac} {x:Int} (hl:l.get 3 = some (.int x)) (h:K (.int x) σ):(vm (n + 2) F).E (.blt "int" (.cons (.n 3) .nil)) l σ K:=by
 show match l.get 3 with
  | some v=>kArg (vL (vm n F) 39) .nil l (kBlt "int" (vm (n + 1) F) K) v σ
  | Option.none=>False
 rw [hl]
 exact tH h
theorem tz {n:Nat} {F:Fr} {l:Env} {e:C} {K:Ko AV} {σ:ac} {x:Int} (hs:small ((x.natAbs:Nat):Int) = true) (hx:∀ K',K' (.int x) σ->(vm n F).E e l σ K') (h:K (.int x.natAbs) σ):(vm (n + 1) F).E (.blt "abs" (.cons e .nil)) l σ K:=by
 refine hx _ ?_
 exact tI hs h
theorem mJ {e0 j:Nat} {d s x:Int} (he0:e0 + 832 ≤ 8000000) (h40:40 ≤ e0) (hj:j < 63) (hxb:x.natAbs < 2 ^ (e0 + 13 * j)) (hd0:0 ≤ d) (hd1:d.natAbs < 2 ^ (e0 + 13 * j)) (hs0:0 ≤ s) (hs1:s < 1000000007) :
  A5 (small (d * 4099) = true) (small ((x.natAbs:Nat):Int) = true) (small (d * 4099 + x.natAbs) = true) (small (s * 523 + x) = true) ((d * 4099 + x.natAbs).natAbs < 2 ^ (e0 + 13 * (j + 1))):=by
 have hnew:=mQ hd1 hxb
 rw [Nat.add_assoc,<- Nat.mul_succ] at hnew
 have he:e0 + 13 * (j + 1) ≤ 8000000:=Nat.le_trans (Nat.add_le_add_left (Nat.mul_le_mul_left 13 (Nat.succ_le_of_lt hj)) _) (Nat.le_trans (Nat.add_le_add_left (by decide) _) he0)
 have hp:(2:Nat) ^ (e0 + 13 * (j + 1)) = 2 ^ (e0 + 13 * j) * 2 ^ 13:=by rw [Nat.mul_succ,<- Nat.add_assoc,Nat.pow_add]
 have h40':2 ^ 40 ≤ 2 ^ (e0 + 13 * j):=Nat.pow_le_pow_right (by decide) (Nat.le_trans h40 (Nat.le_add_right _ _))
 have hsm:∀ i:Int,i.natAbs < 2 ^ (e0 + 13 * (j + 1))->small i = true:=fun i h=>fT he h
 generalize 2 ^ (e0 + 13 * (j + 1)) = b2 at hnew hp hsm ⊢
 generalize 2 ^ (e0 + 13 * j) = b1 at hxb hd1 h40' hp
 clear he0 h40 he
 have lt:∀ y:Int,y.natAbs ≤ b1 * 4100->y.natAbs < b2:=fun y h=>Nat.lt_of_le_of_lt h (by rw [hp]; exact (Nat.mul_lt_mul_left (Nat.lt_of_lt_of_le (by decide) h40')).mpr (by decide))
 have q1:(d * 4099).natAbs ≤ b1 * 4099:=lN (Nat.le_of_lt hd1) (Nat.le_refl _)
 have q2:(d * 4099 + (x.natAbs:Nat)).natAbs ≤ b1 * 4100:=na_add q1 (Nat.le_of_lt hxb)
 have q3:(s * 523 + x).natAbs ≤ b1 * 4100:=Nat.le_trans (na_add (lN (na_var hs0 hs1) (Nat.le_refl 523)) (Nat.le_of_lt hxb)) (Nat.le_trans (Nat.add_le_add_right (Nat.le_trans (by decide) h40') b1) (Nat.le_trans (Nat.le_of_eq (Nat.mul_two b1).symm) (Nat.mul_le_mul_left b1 (by decide))))
 exact ⟨hsm _ (lt _ (Nat.le_trans q1 (Nat.mul_le_mul_left b1 (by decide)))),hsm _ (lt _ (Nat.le_trans (Nat.le_of_lt hxb) (Nat.le_mul_of_pos_right b1 (by decide)))),hsm _ (lt _ q2),hsm _ (lt _ q3),lt _ q2⟩
theorem lO (z:Int):0 ≤ z % 1000000007/\z % 1000000007 < 1000000007:=⟨Int.emod_nonneg _ (by decide),Int.emod_lt_of_pos _ (by decide)⟩
theorem mR {k fz:Nat} {σ:ac} {xs:List Int} {Q:AV->ac->Prop} {X:Prop} (hl:xs.length ≤ 63) (hb:∀ x ∈ xs,x.natAbs.log2 ≤ 1048576)
  (h:∀ i σ',aC i 0 σ'->aB σ σ'->Q (.obj i) σ'):wp ((mach W (k + 12)).F "_law_tape" fz [.frz xs]) σ Q X:=by
 obtain ⟨e0,he0,h40,hb⟩ : ∃ e0,e0 + 832 ≤ 8000000/\40 ≤ e0/\∀ x ∈ xs,x.natAbs < 2 ^ e0:=⟨1048577,by decide,by decide,fun x hx=>gX (hb x hx) (by decide)⟩
 refine cL sK rfl ?_
 have hs:∀ (Q:Ko AV) (X:Prop),(∀ i σ',aB σ σ'->Has σ' i (.list (xs.map AV.int))->Q (.obj i) σ')->wp (sliceTo (.frz xs) 63) σ Q X:=fun Q X h=>by
  show wp (do MM.guard (decide ((0:Int) ≤ 63)); MM.guard (fits xs.length); mkL ((xs.take (63:Int).toNat).map AV.int)) σ Q X
  rw [show xs.take (63:Int).toNat = xs from List.take_of_length_le hl]
  exact ag (al (by decide) (ag (al (fitsLe (by omega)) (aD (by omega) fun i σ' k hi z0=>h i σ' k hi))))
 refine hs _ _ fun i σ1 k1 hi=>?_
 refine ba (γ:=Int × Int) (f:=AV.int) (ys:=xs) (bb:=true) (fun g=>.put 1 (.int g.1) (.put 2 (.int g.2) .nil))
  (fun j g σ'=>A5 (σ' = σ1) (0 ≤ g.1) (g.1.natAbs < 2 ^ (e0 + 13 * j)) (0 ≤ g.2) (g.2 < 1000000007)) (g0:=(0,0)) (fun j g σ' h=>h.1 ▸ ar hi) (by omega) ⟨rfl,Int.le_refl _,Nat.pow_pos (by decide),Int.le_refl _,by decide⟩ ?_ ?_
 .rintro j x ⟨d,s⟩ σ' K' hx ⟨rfl,hd0,hd1,hs0,hs1⟩ hK
  have hj:j < 63:=Nat.lt_of_lt_of_le (List.getElem?_eq_some_iff.mp hx).1 hl
  dsimp only at hd0 hd1 hs0 hs1
  obtain ⟨a1,a2,a3,a4,a5⟩:=mJ he0 h40 hj (pw (hb x (am hx)) (Nat.le_add_right _ _)) hd0 hd1 hs0 hs1
  clear hb he0 h40
  show vTg (.n 3) (.int x) (.put 1 (.int d) (.put 2 (.int s) .nil)) _
  refine lj (.inl (by decide)) a1 ?_
  refine tz a2 (fun K' h=>rR rfl h) ?_
  refine bp a3 ?_
  refine lj (.inl (by decide)) (bz (by omega)) ?_
  refine rR rfl ?_
  refine bp a4 ?_
  refine lk (by decide) (bz (by have:=lO (s * 523 + x); omega)) ?_
  exact hK (d * 4099 + x.natAbs,(s * 523 + x) % 1000000007) σ' ⟨rfl,Int.add_nonneg (Int.mul_nonneg hd0 (by decide)) (Int.natCast_nonneg _),a5,(lO _).1,(lO _).2⟩
 .rintro ⟨d,s⟩ σ' ⟨rfl,hd0,hd1,hs0,hs1⟩
  have he:e0 + 13 * xs.length ≤ 8000000:=Nat.le_trans (Nat.add_le_add_left (Nat.mul_le_mul_left 13 hl) _) (Nat.le_trans (Nat.add_le_add_left (by decide) _) he0)
  refine jl (r:=X) rfl fun i σ2 k2 hi z0=>h i σ2 ⟨d,s,0,⟨hd0,fT he hd1,hs0,hs1,Int.le_refl _,Int.le_refl _⟩,hi⟩ (k1.trans k2)
inductive ud (σ:ac) (t N r j:Nat) (σ':ac):Prop
 | mk (ws:List (List Int)) (T:aC t (N + 1 + 4 * j) σ') (h:Has σ' r (.wset ws)) (h1:ws.Nodup) (h2:ws.length ≤ j) (h3:∀ w ∈ ws,w.length ≤ 3) (k:KT σ σ')
theorem oM {k fz t N:Nat} {σ:ac} {Q:AV->ac->Prop} {X:Prop} (T:aC t N σ) (hN:N < 900000000) (hf:fz ≤ t)
  (h:∀ r ws σ',aC t (N + 17) σ'->KT σ σ'->Has σ' r (.wset ws)->rU ws->Q (.obj r) σ'):wp ((mach W (k + 30)).F "_law_set" fz [.obj t]) σ Q X:=by
 have htl:=T.lt
 refine cL tA rfl ?_
 refine aH (T.keep (.app (.wset []))) (by omega) (by decide) hf fun r σ1 hr0 hr1 T1 k1=>?_
 refine ca (by omega) ?_
 refine iG (γ:=Unit) (fun z0=>.put 0 (.obj t) (.put 1 (.obj σ.length) .nil)) (fun j z0 σ'=>ud σ t N σ.length j σ') (g0:=()) (by omega) ⟨[],T1,k1.get rfl an,List.nodup_nil,Nat.le_refl _,(fun z0 h=>no8 h),(KP.app _).trans k1⟩ ?_ ?_
 .rintro j _ σ2 K' hj ⟨ws,T2,h0,h1,h2,h3,k2⟩ hK
  refine aH T2 (by omega) (by decide) hf fun r2 σ3 hq0 hq1 T3 k3=>?_
  refine ca (by omega) ?_
  refine mi (fun i a σ'=>A4 (aC t (N + 1 + 4 * j + 1 + i) σ') (∃ w:List Int,a = w.map AV.int/\w.length = i) (Has σ' σ.length (.wset ws)) (KT σ σ')) (by omega) rfl ⟨T3,⟨[],rfl,rfl⟩,k3.get rfl h0,k2.trans k3⟩ ?_ ?_
  .rintro i a σ4 K2 hi ⟨T4,⟨w,rfl,hw⟩,h4,k4⟩ hK2
   refine aH T4 (by omega) (by decide) hf fun r4 σ5 hs0 hs1 T5 k5=>?_
   refine bp (bz (by omega)) ⟨by rw [List.length_map]; exact fitsLe (by omega),hK2 _ σ5 ⟨T5,⟨w ++ [1 + r4],by rw [List.map_append]; rfl,by rw [List.length_append,hw]; rfl⟩,k5.get rfl h4,k4.trans k5⟩⟩
  .rintro a σ4 ⟨T4,⟨w,rfl,hw⟩,h4,k4⟩
   refine aD (by omega) fun i σ5 k5 hi z0=>jh hi (by rw [List.length_map]; exact fitsLe (by omega)) ?_
   refine jk (k5.get rfl h4) (by show fz ≤ σ.length; omega) (by omega) fun σ6 h6 p6=>?_
   refine hK () σ6 ⟨winsert w ws,((T4.keep k5).put (by omega) p6).up (by omega),h6,bI h1,Nat.le_trans ju (by omega),fun x hx=>?_,(k4.trans (.kt k5)).put (Nat.le_refl _) p6⟩
   rcases cX.mp hx with hx | rfl
   .exact h3 x hx
   .omega
 .rintro _ σ2 ⟨ws,T2,h0,h1,h2,h3,k2⟩
  exact h _ ws σ2 (T2.up (by omega)) k2 h0 ⟨h1,by omega,h3⟩
theorem pE {σ:ac} {i j:Nat} {a:List AV} {Q:Bool->ac->Prop} {X:Prop} (hi:Has σ i (.list a)) (hj:Has σ j (.list [])) (h:Q (decide (a ≠ [])) σ):wp (cmpV .NotEq (.obj i) (.obj j)) σ Q X:=by
 refine aE (a:=decide (a ≠ [])) (σ':=σ) ?_ h
 show (do let r <- MM.opt (eqV σ (.obj i) (.obj j)); MM.pure (!r):MM Bool) σ = _
 have:eqV σ (.obj i) (.obj j) = some (decide (a = [])):=by
  unfold eqV
  dsimp only
  rw [hi,hj]
  dsimp only
  unfold eqL
  induction a using List.casesOn with
  | nil=>rfl
  | cons x xs=>rw [if_pos (by simp)]; simp
 rw [this]
 cases a <;> rfl
theorem me {fz i:Nat} {w:List Int} {ws:List (List Int)} {σ:ac} {Q:Unit->ac->Prop} {X:Prop} (hi:Has σ i (.wset ws)) (hf:fz ≤ i) (hs:fits ws.length = true) (h:Q () (σ.set i (.wset (winsert w ws)))):wp (setW fz (.obj i) (wordV w) (.bool true)) σ Q X:=by
 have:=jq (X:=X) hi hf hs h
 unfold wp at this ⊢
 unfold setW
 dsimp only
 rw [hi]
 exact this
theorem mf {u v:List Int} {σ:ac} {Q:Ko AV} {X:Prop} (hl:u.length + v.length ≤ 1000000) (h:Q (wordV (u ++ v)) σ):wp (binop .Add (wordV u) (wordV v)) σ Q X:=by
 refine ll ?_ ?_
 .rw [List.length_append,List.length_map,List.length_map]; exact fitsLe hl
 .rw [show AV.tup (u.map AV.int ++ v.map AV.int) = wordV (u ++ v) by unfold wordV; rw [List.map_append]]; exact h
structure gI (σ:ac) (pid:Nat) (qs:List (Nat × List (List Int))):Prop where
 hp:Has σ pid (.list (qs.map fun q=>AV.obj q.1))
 hs:∀ q ∈ qs,Has σ q.1 (.wset q.2)
 hn:qs.length ≤ 10
 hc:∀ q ∈ qs,q.2.length ≤ 1000
 hw:∀ q ∈ qs,∀ w ∈ q.2,w.length ≤ 100
theorem gI.keep {p:AO->Bool} {σ σ':ac} {pid:Nat} {qs:List (Nat × List (List Int))} (P:gI σ pid qs) (h1:∀ ws,p (.wset ws) = true) (h2:p (.list (qs.map fun q=>AV.obj q.1)) = true) (K:KP p σ σ'):gI σ' pid qs:=⟨K.get h2 P.hp,fun q hq=>K.get (h1 _) (P.hs q hq),P.hn,P.hc,P.hw⟩
theorem gI.sh {σ:ac} {pid:Nat} {qs:List (Nat × List (List Int))} (P:gI σ pid qs) (hne:∀ q ∈ qs,q.2 ≠ []):∀ q ∈ qs,sh q.2 ≤ 100:=fun q hq=>by
 obtain ⟨w,hw,e⟩:=rO (hne q hq)
 rw [<- e]; exact P.hw q hq w hw
theorem sm {qs:List (Nat × List (List Int))} (h:∀ q ∈ qs,sh q.2 ≤ 100):((qs.map fun q=>((sh q.2:Nat):Int)).sum = (rest (qs.map (·.2)) 0:Nat))/\∀ j,rest (qs.map (·.2)) j ≤ 100 * qs.length:=by
 refine ⟨?_,fun j=>?_⟩
 .unfold rest
  rw [List.drop_zero]
  clear h
  induction qs with
  | nil=>rfl
  | cons q l ih=>rw [List.map_cons,List.sum_cons,ih]; rfl
 .have:∀ l:List (List (List Int)),(∀ p ∈ l,Mine.Internal.sh p ≤ 100)->(l.map Mine.Internal.sh).sum ≤ 100 * l.length:=fun l=>by
   induction l with
   | nil=>exact fun z0=>Nat.le_refl _
   | cons p l ih =>
    intro h
    have h1:=ih fun q hq=>h q (.tail _ hq)
    have:=h p (.head _)
    rw [List.map_cons,List.sum_cons,List.length_cons,Nat.mul_succ]
    omega
  refine Nat.le_trans (this _ fun p hp=>?_) ?_
  .obtain ⟨q,hq,rfl⟩:=List.mem_map.mp (List.mem_of_mem_drop hp)
   exact h q hq
  .rw [List.length_drop,List.length_map]; exact Nat.mul_le_mul_left _ (Nat.sub_le _ _)
structure Got (fw q:List (List Int)) (T:Int) (ps:List (List Int × List Int)) (lw:List (List Int)):Prop where
 nd:lw.Nodup
 mem:∀ w,w ∈ lw ↔ ∃ x ∈ ps,(x.1.length:Int) + x.2.length ≤ T/\w = x.1 ++ x.2
 sub:∀ x ∈ ps,x.1 ∈ fw/\x.2 ∈ q
section
variable {fw q lw:List (List Int)} {T:Int} {ps:List (List Int × List Int)} {u v:List Int}
theorem Got.nil:Got fw q T [] []:=⟨List.nodup_nil,fun w=>⟨(fun h=>nomatch h),(fun ⟨_,h,_⟩=>nomatch h)⟩,(fun z0 h=>no8 h)⟩
theorem Got.more (g:Got fw q T ps lw) (hu:u ∈ fw) (hv:v ∈ q):∀ x ∈ ps ++ [(u,v)],x.1 ∈ fw/\x.2 ∈ q:=fun x hx=>by
 rcases List.mem_append.mp hx with hx | hx
 .exact g.sub x hx
 .rw [List.mem_singleton.mp hx]; exact ⟨hu,hv⟩
theorem Got.add (g:Got fw q T ps lw) (hu:u ∈ fw) (hv:v ∈ q) (ok:(u.length:Int) + v.length ≤ T):Got fw q T (ps ++ [(u,v)]) (winsert (u ++ v) lw):=by
 refine ⟨bI g.nd,fun w=>?_,g.more hu hv⟩
 rw [cX,g.mem]
 constructor
 .rintro (⟨x,h1,h2⟩ | rfl)
  .exact ⟨x,List.mem_append_left _ h1,h2⟩
  .exact ⟨(u,v),List.mem_append_right _ (.head _),ok,rfl⟩
 .rintro ⟨x,h1,h2⟩
  rcases List.mem_append.mp h1 with h1 | h1
  .exact .inl ⟨x,h1,h2⟩
  .rw [List.mem_singleton.mp h1] at h2; exact .inr h2.2
theorem Got.skip (g:Got fw q T ps lw) (hu:u ∈ fw) (hv:v ∈ q) (no:¬ (u.length:Int) + v.length ≤ T):Got fw q T (ps ++ [(u,v)]) lw:=by
 refine ⟨g.nd,fun w=>?_,g.more hu hv⟩
 rw [g.mem]
 constructor
 .rintro ⟨x,h1,h2⟩
  exact ⟨x,List.mem_append_left _ h1,h2⟩
 .rintro ⟨x,h1,h2⟩
  rcases List.mem_append.mp h1 with h1 | h1
  .exact ⟨x,h1,h2⟩
  .rw [List.mem_singleton.mp h1] at h2; exact absurd h2.1 no
noncomputable def prs (fw q:List (List Int)) (i:Nat):List (List Int × List Int):=(fw.take i).flatMap fun u=>q.map fun v=>(u,v)
theorem pu {i:Nat} (h:fw[i]? = some u):prs fw q (i + 1) = prs fw q i ++ q.map fun v=>(u,v):=by
 unfold prs
 rw [az h,List.flatMap_append,List.flatMap_singleton]
theorem Got.cat {Ps:List (List (List Int))} {j:Nat} (g:Got fw q T ps lw) (hq:Ps[j]? = some q) (hf:∀ w,w ∈ fw->Cat (Ps.take j) w):∀ w ∈ lw,Cat (Ps.take (j + 1)) w/\(w.length:Int) ≤ T:=fun w hw=>by
 obtain ⟨x,h1,h2,rfl⟩:=(g.mem w).mp hw
 rw [az hq,List.length_append]
 exact ⟨er.mpr ⟨x.1,x.2,hf _ (g.sub x h1).1,(g.sub x h1).2,rfl⟩,h2⟩
theorem Got.all {Ps:List (List (List Int))} {j:Nat} {R:Int} (g:Got fw q T (prs fw q fw.length) lw) (hq:Ps[j]? = some q) (hf:∀ w,w ∈ fw ↔ Cat (Ps.take j) w/\(w.length:Int) ≤ R) (hR:R + sh q = T) (w:List Int):w ∈ lw ↔ Cat (Ps.take (j + 1)) w/\(w.length:Int) ≤ T:=by
 refine ⟨g.cat hq (fun w h=>((hf w).mp h).1) w,fun ⟨h1,h2⟩=>?_⟩
 rw [az hq] at h1
 obtain ⟨u,v,hu,hv,rfl⟩:=er.mp h1
 have:=tu hv
 rw [List.length_append] at h2
 refine (g.mem _).mpr ⟨(u,v),?_,by omega,rfl⟩
 unfold prs
 rw [List.take_length]
 exact List.mem_flatMap.mpr ⟨u,(hf u).mpr ⟨hu,by omega⟩,List.mem_map.mpr ⟨v,hv,rfl⟩⟩
end
theorem iF {n m i:Nat} {F:Fr} {e ss:C} {l:Env} {σ:ac} {K:Ko Env} (P:Ko AV) (h1:∀ K':Ko AV,(∀ v σ',P v σ'->K' v σ')->(vm n F).E e l σ K') (h2:∀ v σ',P v σ'->vSs (vm (n + 1) F) m ss (.put i v l) σ' K):vSs (vm (n + 1) F) (m + 1) (.cons (.asg i e) ss) l σ K:=h1 _ h2
inductive rW (σ:ac) (ps:List (List (List Int))) (L most:Int) (j:Nat) (g:Int × Nat) (σ':ac):Prop
 | mk (fw:List (List Int)) (k:aB σ σ') (hg:g.1 = L - rest ps j) (h:Has σ' g.2 (.wset fw)) (hz:σ.length ≤ g.2) (nd:fw.Nodup) (hw:∀ w,w ∈ fw ↔ Cat (ps.take j) w/\(w.length:Int) ≤ L - rest ps j) (hm:j ≠ 0->(fw.length:Int) ≤ most)
inductive rV (σ:ac) (fw q:List (List Int)) (T most:Int) (lid:Nat) (ps:List (List Int × List Int)) (b:Bool) (σ':ac):Prop
 | mk (lw:List (List Int)) (k:aB σ σ') (h:Has σ' lid (.wset lw)) (g:Got fw q T ps lw) (hm:b = true->(lw.length:Int) ≤ most)
theorem dn {k fz pid:Nat} {σ:ac} {qs:List (Nat × List (List Int))} {ps:List (List (List Int))} {L most:Int} {xs:List AV} {Q:AV->ac->Prop} {X:Prop} (hx:xs = [.obj pid,.int L,.int most]\/xs = [.obj pid,.int L]/\most = 20000) (P:gI σ pid qs) (hps:ps = qs.map (·.2)) (hz:fz ≤ σ.length)
  (hL:-1000 ≤ L/\L ≤ 1000) (hm:0 ≤ most)
  (hcnt:∀ ws:List (List Int),ws.Nodup->(∀ w ∈ ws,Cat ps w/\(w.length:Int) ≤ L)->ws.length ≤ 100000)
  (hQ:∀ r ws σ',aB σ σ'->σ.length ≤ r->Has σ' r (.wset ws)->ws.Nodup->(∀ w,w ∈ ws ↔ Cat ps w/\(w.length:Int) ≤ L)->(ps ≠ []->(ws.length:Int) ≤ most)->Q (.obj r) σ')
  (hX:∀ ws:List (List Int),ws.Nodup->(∀ w ∈ ws,Cat ps w/\(w.length:Int) ≤ L)->most < (ws.length:Int)->X):wp ((mach W (k + 40)).F "rows_joined" fz xs) σ Q X:=by
 refine cL (ys:=[.obj pid,.int L,.int most]) sL (by rcases hx with rfl | ⟨rfl,rfl⟩ <;> rfl) ?_
 clear hx xs
 have hqn:=P.hn
 refine oy (.put 0 (.obj pid) (.put 1 (.int L) (.put 2 (.int most) .nil))) (fun σ'=>A3 (aB σ σ') (0 ≤ L) (∀ q ∈ qs,q.2 ≠ [])) (fun K' hK=>?_) ?_
 .refine ifd (fun h0=>?_) fun h0=>?_
  .exact hQ _ [] _ (.app _) (Nat.le_refl _) an List.nodup_nil (fun w=>⟨(fun h=>nomatch h),fun h=>by omega⟩) fun z0=>hm
  .refine fP (f:=fun q:Nat × List (List Int)=>AV.obj q.1) (ys:=qs) (fun q=>decide ((q.2.length:Int) = 0)) (fun q=>.obj q.1) (bn P.hp) (by rw [List.length_nil]; omega) rfl (fun q hq a σ' K2 hf k h1 h2=>?_) fun σ' k=>?_
   .refine bj (cq (k.get rfl (P.hs q hq))) (fitsLe (by have:=P.hc q hq; omega)) ?_
    exact ifd (P:=(q.2.length:Int) = 0) (fun he=>⟨hf,h1 (decide_eq_true he) _ .refl⟩) fun he=>h2 (decide_eq_false he) _ .refl
   .refine aD (Nat.le_trans (List.length_filter_le _ _) (by omega)) fun i σ2 k2 hi z0=>?_
    refine pE (ao hi) an ?_
    refine ifd (fun ha=>?_) fun ha=>?_
    .have hemp:[] ∈ ps:=by
      rw [hps]
      obtain ⟨q,hq⟩:=List.exists_mem_of_ne_nil (l:=qs.filter fun q:Nat × List (List Int)=>decide ((q.2.length:Int) = 0)) fun e=>ha (by rw [e]; rfl)
      rw [List.mem_filter,decide_eq_true_eq] at hq
      exact List.mem_map.mpr ⟨q,hq.1,List.eq_nil_of_length_eq_zero (by omega)⟩
     exact hQ _ [] _ ((k.trans k2).trans ((KP.app _).trans (.app _))) ((k.trans k2).trans (KP.app (.list []))).len an List.nodup_nil (fun w=>⟨(fun h=>nomatch h),fun h=>absurd h.1 (nX hemp)⟩) fun z0=>hm
    .refine hK _ ⟨(k.trans k2).trans (.app _),by omega,fun q hq e=>ha fun e2=>?_⟩
     rw [List.map_eq_nil_iff,List.filter_eq_nil_iff] at e2
     exact e2 q hq (by rw [e]; rfl)
 .rintro σ' ⟨k,hL0,hne⟩
  have hsh:=sm (P.sh hne)
  rw [<- hps] at hsh
  have hr0:=hsh.2 0
  have hne':∀ p ∈ ps,p ≠ []:=fun p hp=>by
   rw [hps] at hp
   obtain ⟨q,hq,rfl⟩:=List.mem_map.mp hp
   exact hne q hq
  refine fg (f:=fun q:Nat × List (List Int)=>AV.obj q.1) (ys:=qs) (fun q=>.int (sh q.2:Nat)) (bn (k.get rfl P.hp)) (by omega) rfl (fun q hq σ2 K2 k2 hK=>?_) fun σ2 k2=>?_
  .exact dy ((k.trans k2).get rfl (P.hs q hq)) (hne q hq) (P.hc q hq) (P.hw q hq) fun σ3 k3=>hK σ3 k3
  refine aD (by omega) fun i σ3 k3 hi z0=>?_
  refine qj (xs:=qs.map fun q=>((sh q.2:Nat):Int)) (by rw [hi,List.map_map]; rfl) (fun x hx=>?_) (by rw [List.length_map]; exact fitsLe (by omega)) (by rw [hsh.1]; exact aF (by omega)) ?_
  .obtain ⟨q,hq,rfl⟩:=List.mem_map.mp hx
   have:=P.sh hne q hq
   omega
  rw [hsh.1]
  refine fD (aF (by omega)) ?_
  have k:=(k.trans k2).trans k3
  clear hi
  refine iF (fun v σ'=>∃ id,v = .obj id/\rW σ ps L most 0 (L - rest ps 0,id) σ') (fun K' hK=>?_) ?_
  .refine ifd (fun hr=>?_) fun hr=>?_
   .refine me (w:=[]) (ws:=[]) an (by show fz ≤ σ3.length; have:=k.len; omega) (by rfl) ?_
    refine hK _ _ ⟨_,rfl,[[]],(k.trans (.app (.wset []))).put k.len (Put.set _),rfl,be an,k.len,by simp,fun w=>?_,fun h=>absurd rfl h⟩
    refine ⟨fun h=>?_,fun h=>?_⟩
    .rw [List.mem_singleton.mp h]; exact ⟨rfl,hr⟩
    .rw [show w = [] from h.1]; exact .head _
   .exact hK _ _ ⟨_,rfl,[],k.trans (.app _),rfl,an,k.len,List.nodup_nil,fun w=>⟨(fun h=>nomatch h),fun h=>by omega⟩,fun h=>absurd rfl h⟩
  .rintro v σ4 ⟨id,rfl,R⟩
   refine ba (γ:=Int × Nat) (f:=fun q:Nat × List (List Int)=>AV.obj q.1) (ys:=qs) (bb:=true) (fun g=>.put 2 (.int most) (.put 4 (.int g.1) (.put 5 (.obj g.2) .nil))) (rW σ ps L most)
    (g0:=(L - rest ps 0,id)) (fun j g σ' R=>by obtain ⟨_,k⟩:=R; exact ar (k.get rfl P.hp)) (by omega) R ?_ ?_
   .rintro j q ⟨room,fid⟩ σ5 K' hq ⟨fw,k5,hroom,hf,hfz,hnd,hfw,hfm⟩ hK
    dsimp only at hroom hf hfz
    subst hroom
    have hqm:=am hq
    have hpj:ps[j]? = some q.2:=by rw [hps,List.getElem?_map,hq]; rfl
    have hrest:=nF hpj
    have hb:rest ps j ≤ 100 * qs.length:=hsh.2 j
    refine dy (k5.get rfl (P.hs q hqm)) (hne q hqm) (P.hc q hqm) (P.hw q hqm) fun σ6 k6=>?_
    refine bp (aF (by omega)) ?_
    have hT:L - rest ps j + sh q.2 = L - rest ps (j + 1):=by omega
    rw [hT]
    have hle:∀ (i:Nat) (lw:List (List Int)),lw.Nodup->(∀ w ∈ lw,Cat (ps.take i) w/\(w.length:Int) ≤ L - rest ps i)->lw.length ≤ 100000:=fun i lw h1 h2=>by
     obtain ⟨ws,e1,e2,e3⟩:=pA i hne' h1 h2
     rw [<- e2]; exact hcnt ws e1 e3
    have hfl:=hle j fw hnd fun w hw=>(hfw w).mp hw
    have hf1:∀ w,w ∈ fw->Cat (ps.take j) w:=fun w h=>((hfw w).mp h).1
    have hzl:fz ≤ σ6.length:=by have:=k5.len; have:=k6.len; omega
    have hb1:=hsh.2 (j + 1)
    refine ba (γ:=Unit) (f:=wordV) (ys:=fw) (bb:=false) (fun z0=>.put 2 (.int most) (.put 3 (.obj q.1) (.put 4 (.int (L - rest ps (j + 1))) (.put 6 (.obj σ6.length) .nil))))
     (fun i z0 σ'=>rV σ6 fw q.2 (L - rest ps (j + 1)) most σ6.length (prs fw q.2 i) true σ') (g0:=()) (fun i g σ' R=>by obtain ⟨_,k⟩:=R; exact br (k.get rfl (k6.get rfl hf))) (by omega) ⟨[],.app _,an,.nil,fun z0=>hm⟩ ?_ ?_
    .rintro i u _ σ7 K'' hu ⟨lw,k7,hl,hg,hlm⟩ hK2
     have hum:=am hu
     have hul:=((hfw u).mp hum).2
     refine ba (γ:=Unit) (f:=wordV) (ys:=q.2) (bb:=false) (fun z0=>.put 2 (.int most) (.put 3 (.obj q.1) (.put 4 (.int (L - rest ps (j + 1))) (.put 6 (.obj σ6.length) (.put 7 (wordV u) .nil)))))
      (fun m z0 σ'=>rV σ6 fw q.2 (L - rest ps (j + 1)) most σ6.length (prs fw q.2 i ++ (q.2.take m).map fun v=>(u,v)) false σ') (g0:=()) (fun i g σ' R=>by obtain ⟨_,k⟩:=R; exact br (k.get rfl (k6.get rfl (k5.get rfl (P.hs q hqm))))) (by have:=P.hc q hqm; omega) ⟨lw,k7,hl,by rw [List.take_zero,List.map_nil,List.append_nil]; exact hg,fun h=>nomatch h⟩ ?_ ?_
     .rintro m v _ σ8 K3 hv ⟨lw,k8,hl,hg,_⟩ hK3
      have hvm:=am hv
      have hvl:=P.hw q hqm v hvm
      have hll:=hle (j + 1) lw hg.nd (hg.cat hpj hf1)
      refine bj dg (fitsLe (by omega)) ?_
      refine bj dg (fitsLe (by omega)) ?_
      refine bp (aF (by omega)) ?_
      have hst:prs fw q.2 i ++ (q.2.take (m + 1)).map (fun v=>(u,v)) = (prs fw q.2 i ++ (q.2.take m).map fun v=>(u,v)) ++ [(u,v)]:=by
       rw [az hv,List.map_append,List.append_assoc]; rfl
      refine ifd (fun hfit=>?_) fun hfit=>?_
      .refine mf (by omega) ?_
       refine jk hl hzl (by omega) fun σ9 h9 p9=>hK3 () σ9 ⟨winsert (u ++ v) lw,k8.put (Nat.le_refl _) p9,h9,hst ▸ hg.add hum hvm hfit,fun h=>nomatch h⟩
      .exact hK3 () σ8 ⟨lw,k8,hl,hst ▸ hg.skip hum hvm hfit,fun h=>nomatch h⟩
     .rintro _ σ8 ⟨lw,k8,hl,hg,_⟩
      rw [List.take_length,<- pu hu] at hg
      have hlc:=hg.cat hpj hf1
      have hll:=hle (j + 1) lw hg.nd hlc
      refine bj (cq hl) (fitsLe (by omega)) ?_
      refine ifd (fun hmost=>?_) fun hmost=>?_
      .obtain ⟨ws,e1,e2,e3⟩:=pA (j + 1) hne' hg.nd hlc
       exact hX ws e1 e3 (by rw [e2]; exact hmost)
      .exact hK2 () σ8 ⟨lw,k8,hl,hg,fun z0=>by omega⟩
    .rintro _ σ7 ⟨lw,k7,hl,hg,hlm⟩
     exact hK (L - rest ps (j + 1),σ6.length) σ7 ⟨lw,(k5.trans k6).trans k7,rfl,hl,(k5.trans k6).len,hg.nd,hg.all hpj hfw hT,fun z0=>hlm rfl⟩
   .rintro ⟨room,fid⟩ σ5 ⟨fw,k5,hroom,hf,hfz,hnd,hfw,hfm⟩
    rw [show qs.length = ps.length by rw [hps,List.length_map]] at hfw hfm
    rw [pn,List.take_length] at hfw
    exact hQ _ fw σ5 k5 hfz hf hnd (fun w=>by rw [hfw w]; simp) fun h=>hfm fun e=>h (List.eq_nil_of_length_eq_zero e)
noncomputable def dU {α:Type} (F:α->List α->Prop):List α->List α->Prop
 | [],w=>w = []
 | s :: r,w=>∃ u v,F s u/\dU F r v/\w = u ++ v
structure Clo {α:Type} (base:α->List α->Prop) (R:List (α × List α)) (L:Int) (F:α->List α->Prop):Prop where
 base:∀ s w,base s w->F s w
 rule:∀ r ∈ R,∀ w,dU F r.2 w->(w.length:Int) ≤ L->F r.1 w
noncomputable def Lfp {α:Type} (base:α->List α->Prop) (R:List (α × List α)) (L:Int) (s:α) (w:List α):Prop:=∀ F,Clo base R L F->F s w
section
variable {α:Type} {base:α->List α->Prop} {R:List (α × List α)} {L:Int}
theorem dU.mono {F G:α->List α->Prop} (h:∀ s w,F s w->G s w):∀ {r w:List α},dU F r w->dU G r w
 | [],_,e=>e
 | _ :: _,_,⟨u,v,h1,h2,h3⟩=>⟨u,v,h _ _ h1,dU.mono h h2,h3⟩
theorem Lfp.clo:Clo base R L (Lfp base R L) :=
 ⟨fun s w h F C=>C.base s w h,fun r hr w h hl F C=>C.rule r hr w (h.mono fun s u q=>q F C) hl⟩
theorem bV {f:α->List (List α)} {r w:List α}:Cat (r.map f) w ↔ dU (fun s w=>w ∈ f s) r w:=by
 induction r generalizing w with
 | nil=>exact Iff.rfl
 | cons s r ih =>
  constructor
  .rintro ⟨u,hu,v,hv,e⟩
   exact ⟨u,v,hu,ih.mp hv,e⟩
  .rintro ⟨u,v,hu,hv,e⟩
   exact ⟨u,hu,v,ih.mpr hv,e⟩
theorem kY {F:α->List α->Prop} {P:α->Prop} (h:∀ s w,F s w->∀ x ∈ w,P x):∀ {r w:List α},dU F r w->∀ x ∈ w,P x
 | [],w,e=>by rw [show w = [] from e]; exact fun z0 h=>by contradiction
 | _ :: _,_,⟨u,v,h1,h2,e⟩=>by
  subst e
  intro x hx
  rcases List.mem_append.mp hx with hx | hx
  .exact h _ _ h1 x hx
  .exact kY h h2 x hx
theorem Lfp.made {P:α->Prop} (hb:∀ s w,base s w->(w.length:Int) ≤ L/\∀ x ∈ w,P x) {s:α} {w:List α} (h:Lfp base R L s w):(w.length:Int) ≤ L/\∀ x ∈ w,P x :=
 h (fun z0 w=>(w.length:Int) ≤ L/\∀ x ∈ w,P x) ⟨hb,fun r z0 w c hl=>⟨hl,kY (fun z0 z0 q=>q.2) c⟩⟩
noncomputable def allW (A:List α):List (List α):=[] :: (A.map fun a=>[a]) ++ A.flatMap fun a=>A.map fun b=>[a,b]
theorem kj {A:List α} {w:List α} (h1:w.length ≤ 2) (h2:∀ x ∈ w,x ∈ A):w ∈ allW A:=by
 unfold allW
 match w,h1,h2 with
 | [],_,_=>exact List.mem_append_left _ (.head _)
 | [a],_,h2=>exact List.mem_append_left _ (.tail _ (List.mem_map.mpr ⟨a,h2 a (.head _),rfl⟩))
 | [a,b],_,h2=>exact List.mem_append_right _ (List.mem_flatMap.mpr ⟨a,h2 a (.head _),List.mem_map.mpr ⟨b,h2 b (.tail _ (.head _)),rfl⟩⟩)
 | a :: b :: c :: w,h1,_=>simp at h1
theorem pL {β:Type} {A:List α} {f:α->List β} {B:Nat} (h:∀ a,(f a).length = B):(A.flatMap f).length = B * A.length:=by
 induction A with
 | nil=>rfl
 | cons a A ih=>rw [List.flatMap_cons,List.length_append,ih,h,List.length_cons,Nat.mul_succ,Nat.add_comm]
theorem kF {A:List α} {n:Nat} (h:A.length ≤ n) (hn:n ≤ 5):(allW A).length ≤ 31:=by
 unfold allW
 rw [List.length_append,List.length_cons,List.length_map,pL (B:=A.length) fun a=>List.length_map _]
 have:A.length * A.length ≤ 5 * 5:=Nat.mul_le_mul (by omega) (by omega)
 omega
end
noncomputable def cnt (f:Int->List (List Int)) (n:Nat):Nat:=((List.range n).map fun i:Nat=>(f (i:Int)).length).sum
theorem bD {f:Int->List (List Int)} {n:Nat}:cnt f (n + 1) = cnt f n + (f (n:Int)).length:=by
 unfold cnt; rw [List.range_succ,List.map_append,List.sum_append]; simp
theorem sO {f:Int->List (List Int)} {n i:Nat} (h:i < n):(f (i:Int)).length ≤ cnt f n:=by
 induction n with
 | zero=>omega
 | succ n ih =>
  rw [bD]
  by_cases q:i = n
  .subst q; omega
  .have:=ih (by omega); omega
theorem jd {f:Int->List (List Int)} {n B:Nat} (h:∀ i:Nat,i < n->(f (i:Int)).length ≤ B):cnt f n ≤ B * n:=by
 induction n with
 | zero=>exact Nat.zero_le _
 | succ n ih =>
  have:=ih fun i hi=>h i (by omega)
  have:=h n (by omega)
  rw [bD,Nat.mul_succ]; omega
noncomputable def put (f:Int->List (List Int)) (l:Int) (ws:List (List Int)):Int->List (List Int):=fun i=>if i = l then ws else f i
theorem fY {f:Int->List (List Int)} {l:Int} {ws:List (List Int)}:put f l ws l = ws:=if_pos rfl
theorem lJ {f:Int->List (List Int)} {l i:Int} {ws:List (List Int)} (h:i ≠ l):put f l ws i = f i:=if_neg h
theorem rz {f:Int->List (List Int)} {n l:Nat} {w:List Int} (h:l < n):cnt (put f l (f l ++ [w])) n = cnt f n + 1:=by
 have low:∀ m,m ≤ l->cnt (put f l (f l ++ [w])) m = cnt f m:=by
  intro m
  induction m with
  | zero=>intro _; rfl
  | succ m ih=>intro hm; rw [bD,bD,ih (by omega),lJ (by omega)]
 induction n with
 | zero=>omega
 | succ n ih =>
  rw [bD,bD]
  by_cases q:l = n
  .subst q
   rw [low l (Nat.le_refl _),fY]; simp; omega
  .rw [ih (by omega),lJ (by omega)]; omega
noncomputable def baseI (tc L:Int) (s:Int) (w:List Int):Prop:=(0 ≤ s/\s < tc/\s ≠ 1/\0 < L)/\w = [s]
noncomputable def rulesI (rq:List (Nat × Int × List Int)):List (Int × List Int):=rq.map (·.2)
structure Way (tc L:Int) (rq:List (Nat × Int × List Int)) (n:Nat) (f:Int->List (List Int)):Prop where
 nd:∀ s,(f s).Nodup
 sub:∀ s w,w ∈ f s->Lfp (baseI tc L) (rulesI rq) L s w
 base:∀ s w,baseI tc L s w->w ∈ f s
theorem fF {f:Int->List (List Int)} {n:Nat}:((List.range n).map fun m:Nat=>((f (m:Int)).length:Int)).sum = (cnt f n:Int):=by
 induction n with
 | zero=>rfl
 | succ n ih=>rw [List.range_succ,List.map_append,List.sum_append,ih,bD]; simp
theorem kE {w:List Int} {ws:List (List Int)}:(insW w ws).length = ws.length + 1:=by
 induction ws with
 | nil=>rfl
 | cons x xs ih =>
  unfold insW
  split
  .rfl
  .rw [List.length_cons,ih,List.length_cons]
theorem bC {ws:List (List Int)}:(sortW ws).length = ws.length:=by
 induction ws with
 | nil=>rfl
 | cons x xs ih=>show (insW x (sortW xs)).length = _; rw [kE,ih]; rfl
theorem ro {σ:ac} {i:Nat} {w:List Int} {ws:List (List Int)} {Q:Bool->ac->Prop} {X:Prop} (hi:Has σ i (.wset ws)) (h:Q (!decide (w ∈ ws)) σ):wp (cmpV .NotIn (wordV w) (.obj i)) σ Q X:=by
 refine aE (a:=!decide (w ∈ ws)) (σ':=σ) ?_ h
 have:cmpV.isIn (wordV w) (.obj i) σ = .ok (ws.contains w) σ:=by
  unfold cmpV.isIn
  dsimp only
  rw [hi]
  rw [fE]
 show (MM.bind _ _) σ = _
 unfold MM.bind
 rw [this,List.contains_eq_mem]; rfl
theorem bg {σ:ac} {i:Nat} {xs:List AV} {m:Str} {Q:Bool->ac->Prop} {X:Prop} (hi:Has σ i (.list xs)) (hm:m = "append" \/ m = "extend" \/ m = "index") (h:Q true σ):wp (tagOf (.obj i) m) σ Q X:=by
 refine aE (a:=true) (σ':=σ) ?_ h
 unfold tagOf
 dsimp only
 rw [hi]
 rw [if_pos hm]
theorem bE {σ:ac} {fz i:Nat} {xs:List AV} {v:AV} {Q:AV->ac->Prop} {X:Prop} (hi:Has σ i (.list xs)) (hf:fz ≤ i) (hl:xs.length ≤ 1000000) (h:∀ σ',Has σ' i (.list (xs ++ [v]))->Put i σ σ'->Q .none σ'):wp (listM fz (.obj i) "append" [v]) σ Q X:=by
 refine aE (a:=.none) (σ':=σ.set i (.list (xs ++ [v]))) ?_ (h _ (be hi) (.set _))
 unfold listM
 dsimp only
 rw [hi]
 show (do MM.guard (fits xs.length); setO fz i (.list (xs ++ [v])); MM.pure .none:MM AV) σ = _
 rw [fitsLe hl]
 show (do setO fz i (.list (xs ++ [v])); MM.pure .none:MM AV) σ = _
 show (MM.bind _ _) σ = _
 unfold MM.bind setO
 rw [if_pos ⟨hf,aN hi⟩]
 rfl
theorem lZ {σ:ac} {fz i:Nat} {w:List Int} {ws:List (List Int)} {Q:Ko Unit} {X:Prop} (hi:Has σ i (.wset ws)) (hf:fz ≤ i) (hs:ws.length ≤ 1000000) (h:∀ σ',Has σ' i (.wset (winsert w ws))->Put i σ σ'->Q () σ'):wp (setW fz (.obj i) (wordV w) (.bool true)) σ Q X :=
 me hi hf (fitsLe hs) (h _ (be hi) (.set _))
structure cg (σ:ac) (gid nid rid:Nat) (at':List (Str × AV)) (xs:List AV) (tc:Int) (rq:List (Nat × Int × List Int)) (start:Int):Prop where
 obj:Has σ gid (.inst "Grammar" at')
 hn:at'.lookup ("names" : Str) = some (AV.obj nid)
 names:Has σ nid (.list xs)
 ht:at'.lookup ("terminal_count" : Str) = some (AV.int tc)
 hr:at'.lookup ("rules" : Str) = some (AV.obj rid)
 rules:Has σ rid (.list (rq.map fun q=>AV.obj q.1))
 hs:at'.lookup ("start" : Str) = some (AV.int start)
 rule:∀ q ∈ rq,∃ at'',Has σ q.1 (.inst "Rule" at'')/\at''.lookup ("left" : Str) = some (AV.int q.2.1)/\at''.lookup ("right" : Str) = some (wordV q.2.2)
 meth:∀ m ∈ grammarMs,at'.lookup m = none
 few:xs.length ≤ 100
 tc0:0 ≤ tc
 tcn:tc ≤ xs.length
 fewR:rq.length ≤ 100
 left:∀ q ∈ rq,0 ≤ q.2.1/\q.2.1 < xs.length
 right:∀ q ∈ rq,q.2.2.length ≤ 10/\∀ s ∈ q.2.2,0 ≤ s/\s < xs.length
theorem cg.keep {p:AO->Bool} {σ σ':ac} {gid nid rid:Nat} {at':List (Str × AV)} {xs:List AV} {tc:Int} {rq:List (Nat × Int × List Int)} {start:Int} (G:cg σ gid nid rid at' xs tc rq start) (h1:∀ c a,p (.inst c a) = true) (h2:p (.list xs) = true) (h3:p (.list (rq.map fun q=>AV.obj q.1)) = true) (K:KP p σ σ'):cg σ' gid nid rid at' xs tc rq start :=
 ⟨K.get (h1 _ _) G.obj,G.hn,K.get h2 G.names,G.ht,G.hr,K.get h3 G.rules,G.hs,fun q hq=>let ⟨a,h,h2⟩:=G.rule q hq; ⟨a,K.get (h1 _ _) h,h2⟩,G.meth,G.few,G.tc0,G.tcn,G.fewR,G.left,G.right⟩
theorem iB {σ:ac} {gid:Nat} {at':List (Str × AV)} {m:Str} {Q:Bool->ac->Prop} {X:Prop} (ho:Has σ gid (.inst "Grammar" at')) (hm:grammarMs.contains m = true) (hn:at'.lookup m = none) (h:Q false σ):wp (tagOf (.obj gid) m) σ Q X:=by
 refine aE (a:=false) (σ':=σ) ?_ h
 unfold tagOf
 dsimp only
 rw [ho]
 dsimp only
 rw [if_pos ⟨rfl,hm,by rw [hn]; rfl⟩]
structure WSt (σ0 σ:ac) (vid:Nat) (ids:List Nat) (n:Nat) (f:Int->List (List Int)):Prop where
 K:aB σ0 σ
 hv:Has σ vid (.list (ids.map AV.obj))
 vg:σ0.length ≤ vid
 hl:ids.length = n
 nd:ids.Nodup
 at':∀ (i:Nat) id,ids[i]? = some id->Has σ id (.wset (f (i:Int)))/\σ0.length ≤ id
section
variable {σ0 σ σ':ac} {vid id n:Nat} {ids:List Nat} {f:Int->List (List Int)}
theorem WSt.keep (S:WSt σ0 σ vid ids n f) (K:aB σ σ'):WSt σ0 σ' vid ids n f :=
 ⟨S.K.trans K,K.get rfl S.hv,S.vg,S.hl,S.nd,fun i id h=>⟨K.get rfl (S.at' i id h).1,(S.at' i id h).2⟩⟩
theorem pU {i j:Nat} {xs:List AV} {ws:List (List Int)} (hi:Has σ i (.list xs)) (hj:Has σ j (.wset ws)):i ≠ j:=by
 rintro rfl
 exact nomatch Option.some.inj (hi.symm.trans hj)
theorem WSt.put {l:Nat} {ws:List (List Int)} (S:WSt σ0 σ vid ids n f) (h:ids[l]? = some id) (hw:Has σ' id (.wset ws)) (P:Put id σ σ'):WSt σ0 σ' vid ids n (put f l ws):=by
 have h1:=S.at' l id h
 refine ⟨S.K.put h1.2 P,P.get (pU S.hv h1.1) S.hv,S.vg,S.hl,S.nd,fun i id' h'=>?_⟩
 by_cases q:i = l
 .subst q
  rw [h] at h'
  injection h' with h'
  subst h'
  exact ⟨by rw [fY]; exact hw,h1.2⟩
 .have h2:=S.at' i id' h'
  refine ⟨?_,h2.2⟩
  rw [lJ (by omega)]
  refine P.get ?_ h2.1
  rintro rfl
  exact q ((List.getElem?_inj (List.getElem?_eq_some_iff.mp h').1 S.nd).mp (h'.trans h.symm))
theorem WSt.grow {σ1:ac} {j:Nat} (S:WSt σ0 σ vid ids j f) (K:aB σ σ1) (hi:Has σ1 id (.wset (f (j:Int)))) (hz:σ.length ≤ id) (hv:Has σ' vid (.list (ids.map AV.obj ++ [.obj id]))) (P:Put vid σ1 σ'):WSt σ0 σ' vid (ids ++ [id]) (j + 1) f:=by
 refine ⟨(S.K.trans K).put S.vg P,?_,S.vg,by rw [List.length_append,S.hl]; rfl,?_,fun i id' h=>?_⟩
 .rw [List.map_append]; exact hv
 .rw [List.nodup_append]
  refine ⟨S.nd,by simp,fun a ha b hb=>?_⟩
  rw [List.mem_singleton.mp hb]
  obtain ⟨i,hi⟩:=List.getElem?_of_mem ha
  have:=aN (S.at' i a hi).1
  omega
 .by_cases hi2:i < ids.length
  .rw [List.getElem?_append_left hi2] at h
   have h1:=S.at' i id' h
   exact ⟨P.get (pU S.hv h1.1).symm (K.get rfl h1.1),h1.2⟩
  .have hi':i = ids.length:=by
    have:=(List.getElem?_eq_some_iff.mp h).1
    rw [List.length_append,List.length_singleton] at this; omega
   subst hi'
   rw [List.getElem?_append_right (Nat.le_refl _),Nat.sub_self] at h
   injection h with h
   subst h
   rw [S.hl]
   exact ⟨P.get (Nat.ne_of_gt (Nat.lt_of_lt_of_le (aN S.hv) hz)) hi,Nat.le_trans S.K.len hz⟩
end
section
variable {tc L:Int} {rq:List (Nat × Int × List Int)} {n:Nat} {f:Int->List (List Int)}
set_option tactic.hygienic true in
theorem Way.add {l:Int} {w:List Int} (W:Way tc L rq n f) (hin:¬ w ∈ f l) (hL:Lfp (baseI tc L) (rulesI rq) L l w):Way tc L rq n (put f l (f l ++ [w])):=by
 refine ⟨fun s=>?_,fun s u hu=>?_,fun s u hu=>?_⟩
 .unfold Mine.Internal.put; split
  .rw [List.nodup_append]
   refine ⟨W.nd _,by simp,fun a ha b hb=>?_⟩
   rw [List.mem_singleton.mp hb]
   rintro rfl; exact hin ha
  .exact W.nd _
 .unfold Mine.Internal.put at hu; split at hu
  .rename_i e
   rw [e]
   rcases List.mem_append.mp hu with hu | hu
   .exact W.sub _ _ hu
   .rw [List.mem_singleton.mp hu]; exact hL
  .exact W.sub _ _ hu
 .have:=W.base s u hu
  unfold Mine.Internal.put; split
  .rename_i e; rw [e] at this; exact List.mem_append_left _ this
  .exact this
noncomputable def f0I (tc L:Int) (s:Int):List (List Int):=if 0 ≤ s/\s < tc/\s ≠ 1/\0 < L then winsert [s] [] else []
set_option tactic.hygienic true in
theorem way0:Way tc L rq n (f0I tc L):=by
 refine ⟨fun s=>?_,fun s w hw=>?_,fun s w hb=>?_⟩
 .unfold f0I; split
  .exact bI List.nodup_nil
  .exact List.nodup_nil
 .unfold f0I at hw
  split at hw
  .rename_i q
   rw [List.mem_singleton.mp hw]
   exact Lfp.clo.base s _ ⟨q,rfl⟩
  .exact nomatch hw
 .unfold f0I; rw [if_pos hb.1,hb.2]; exact .head _
noncomputable def rL (L:Int) (f:Int->List (List Int)) (q:Nat × Int × List Int):Prop:=∀ w,dU (fun s w=>w ∈ f s) q.2.2 w->(w.length:Int) ≤ L->w ∈ f q.2.1
theorem ph (W:Way tc L rq n f) (h:∀ q ∈ rq,rL L f q) (s:Int) (w:List Int):w ∈ f s ↔ Lfp (baseI tc L) (rulesI rq) L s w:=by
 refine ⟨W.sub s w,fun hl=>hl (fun s w=>w ∈ f s) ⟨W.base,fun r hr w h1 h2=>?_⟩⟩
 obtain ⟨q,hq,rfl⟩:=List.mem_map.mp hr
 exact h q hq w h1 h2
end
structure Fam (tc L most:Int) (rq:List (Nat × Int × List Int)) (n:Nat) (σ σ':ac) (vid:Nat) (ids:List Nat) (f:Int->List (List Int)) (c:Int):Prop where
 S:WSt σ σ' vid ids n f
 W:Way tc L rq n f
 hc:c = cnt f n
 hm:c ≤ most
inductive ui (tc L most:Int) (rq:List (Nat × Int × List Int)) (n:Nat) (σ:ac) (vid:Nat) (ids:List Nat) (m:Nat) (g:Int × Bool) (σ':ac):Prop
 | mk (f:Int->List (List Int)) (F:Fam tc L most rq n σ σ' vid ids f g.1) (h0:g.2 = false->∀ q ∈ rq,rL L f q) (h1:g.2 = true->m = 40 * n - cnt f n + 1)
inductive uj (tc L most:Int) (rq:List (Nat × Int × List Int)) (n:Nat) (σ:ac) (vid:Nat) (ids:List Nat) (f:Int->List (List Int)) (j:Nat) (g:Int × Bool) (σ':ac):Prop
 | mk (f1:Int->List (List Int)) (F:Fam tc L most rq n σ σ' vid ids f1 g.1) (h0:g.2 = false->f1 = f/\∀ q ∈ rq.take j,rL L f q) (h1:g.2 = true->cnt f n < cnt f1 n)
inductive uk (tc L most:Int) (rq:List (Nat × Int × List Int)) (n:Nat) (σ:ac) (vid:Nat) (ids:List Nat) (f:Int->List (List Int)) (P:Prop) (l:Int) (ri:Nat) (ws:List (List Int)) (m:Nat) (g:Int × Bool) (σ':ac):Prop
 | mk (f2:Int->List (List Int)) (F:Fam tc L most rq n σ σ' vid ids f2 g.1) (hr:Has σ' ri (.wset ws)) (h0:g.2 = false->f2 = f/\P/\∀ w ∈ ws.take m,w ∈ f l) (h1:g.2 = true->cnt f n < cnt f2 n)
theorem oL {f f2 f3:Int->List (List Int)} {n:Nat} {b:Bool} {P:Prop} (h0:b = false->f2 = f/\P) (h1:b = true->cnt f n < cnt f2 n) (h3:cnt f3 n = cnt f2 n + 1):cnt f n < cnt f3 n:=by
 cases b with
 | false=>rw [h3,(h0 rfl).1]; exact Nat.lt_succ_self _
 | true=>have:=h1 rfl; omega
set_option tactic.hygienic true in
theorem jD {k fz gid nid rid:Nat} {σ:ac} {at':List (Str × AV)} {xs:List AV} {tc L start most:Int} {rq:List (Nat × Int × List Int)} {as:List AV} {Q:AV->ac->Prop} {X:Prop} (hx:as = [.obj gid,.int L,.int most]\/as = [.obj gid,.int L]/\most = 20000)
  (G:cg σ gid nid rid at' xs tc rq start) (hz:fz ≤ σ.length) (hm:0 ≤ most) (hL:0 ≤ L/\L ≤ 2) (hW:10000 < W)
  (hB:∀ (s:Int) (ws:List (List Int)),ws.Nodup->(∀ w ∈ ws,Lfp (baseI tc L) (rulesI rq) L s w)->ws.length ≤ 40)
  (hQ:∀ vid ids σ' f,WSt σ σ' vid ids xs.length f->(∀ s,(f s).Nodup)->(∀ s w,w ∈ f s ↔ Lfp (baseI tc L) (rulesI rq) L s w)->(cnt f xs.length:Int) ≤ most->Q (.obj vid) σ')
  (hX:∀ f:Int->List (List Int),(∀ s,(f s).Nodup)->(∀ s w,w ∈ f s->Lfp (baseI tc L) (rulesI rq) L s w)->most < (cnt f xs.length:Int)->X):wp ((mach W (k + 70)).F "all_words" fz as) σ Q X:=by
 refine cL (ys:=[.obj gid,.int L,.int most]) tC (by rcases hx with rfl | ⟨rfl,rfl⟩ <;> rfl) ?_
 clear hx as
 have hfew:=G.few
 have hlw:∀ s w,Lfp (baseI tc L) (rulesI rq) L s w->(w.length:Int) ≤ L:=fun s w h=>(h.made (P:=fun z0=>True) fun s w hb=>⟨by have:=hb.1.2.2.2; rw [hb.2]; simp; omega,fun z0 z0=>trivial⟩).1
 have gk:∀ {σ'},aB σ σ'->cg σ' gid nid rid at' xs tc rq start:=fun K=>G.keep (fun z0 z0=>rfl) rfl rfl K
 refine iB (gk (.app _)).obj (by rfl) (G.meth _ (by decide)) ?_
 refine eb (gk (.app _)).obj G.hn (gk (.app _)).names (fitsLe (by omega)) ?_
 refine ca (by omega) ?_
 refine iG (γ:=Unit) (fun z0=>.put 0 (.obj gid) (.put 1 (.int L) (.put 2 (.int most) (.put 3 (.obj σ.length) .nil)))) (fun j z0 σ'=>∃ ids,WSt σ σ' σ.length ids j (f0I tc L)) (g0:=()) (by omega) ⟨[],.app _,an,Nat.le_refl _,rfl,List.nodup_nil,fun i id h=>by simp at h⟩ ?_ ?_
 .rintro j _ σ' K' hj ⟨ids,S⟩ hK
  have hjn:j < xs.length:=by omega
  have hidl:=S.hl
  refine iF (fun v σ2=>v = .bool (decide (0 ≤ (j:Int)/\(j:Int) < tc/\(j:Int) ≠ 1/\0 < L))/\σ2 = σ') (fun K2 hK2=>?_) ?_
  .refine iB (gk S.K).obj (by rfl) (G.meth _ (by decide)) ?_
   refine eG (gk S.K).obj G.ht ?_
   refine ifd (fun h1=>?_) fun h1=>hK2 _ _ ⟨?_,rfl⟩
   .refine ifn (P:=(j:Int) = 1) (fun h2=>hK2 _ _ ⟨?_,rfl⟩) fun h2=>hK2 _ _ ⟨?_,rfl⟩
    .exact congrArg AV.bool (decide_eq_decide.mpr ⟨fun q=>⟨Int.natCast_nonneg j,h1,h2,q⟩,fun q=>q.2.2.2⟩)
    .rw [h2,decide_eq_false (by omega)]; rfl
   .rw [decide_eq_false h1,decide_eq_false (by omega)]
  .rintro _ σ' ⟨rfl,rfl⟩
   refine bg S.hv (.inl rfl) ?_
   refine ifd (fun hb=>?_) fun hb=>?_
   .refine lZ (w:=[(j:Int)]) (ws:=[]) an (by show fz ≤ σ'.length; have:=S.K.len; omega) (by decide) fun σ2 h2 p2=>?_
    have k2:aB σ' σ2:=(KP.app (.wset [])).put (Nat.le_refl _) p2
    refine bE (k2.get rfl S.hv) hz (by rw [List.length_map]; omega) fun σ3 h3 p3=>hK () σ3 ⟨_,S.grow k2 ?_ (Nat.le_refl _) h3 p3⟩
    unfold f0I; rw [if_pos hb]; exact h2
   .refine bE (ao S.hv) hz (by rw [List.length_map]; omega) fun σ3 h3 p3=>hK () σ3 ⟨_,S.grow (.app _) ?_ (Nat.le_refl _) h3 p3⟩
    unfold f0I; rw [if_neg hb]; exact an
 .rintro _ σ' ⟨ids,S⟩
  rw [show (xs.length:Int).toNat = xs.length from rfl] at S
  have hidl:=S.hl
  have hc0:=jd (f:=f0I tc L) (n:=xs.length) (B:=40) fun i z0=>hB i _ ((way0 (rq:=rq) (n:=0)).nd _) ((way0 (n:=0)).sub i)
  have hids:ids = (List.range xs.length).map fun i=>ids.getD i 0:=by
   refine List.ext_getElem (by rw [List.length_map,List.length_range,hidl]) fun i h1 h2=>?_
   rw [List.getElem_map,List.getElem_range,List.getD_eq_getElem?_getD,List.getElem?_eq_getElem h1]; rfl
  have hgi:∀ i,i < xs.length->ids[i]? = some (ids.getD i 0):=fun i h=>by
   rw [List.getD_eq_getElem?_getD,List.getElem?_eq_getElem (by omega)]; rfl
  refine fg (f:=fun i=>AV.obj (ids.getD i 0)) (ys:=List.range xs.length) (fun m=>.int ((f0I tc L (m:Int)).length:Int)) (bn (by have h:=S.hv; rw [hids,List.map_map] at h; exact h)) (by rw [List.length_range]; omega) rfl (fun i hi σ2 K2 k2 hK2=>?_) fun σ2 k2=>?_
  .have hlt:=List.mem_range.mp hi
   have hl40:=hB i (f0I tc L i) ((way0 (rq:=rq) (n:=0)).nd _) ((way0 (n:=0)).sub i)
   exact bj (cq (k2.get rfl (S.at' i _ (hgi i hlt)).1)) (fitsLe (by omega)) (hK2 _ .refl)
  refine aD (by rw [List.length_range]; omega) fun i σ3 k3 hi z0=>?_
  refine qj (xs:=(List.range xs.length).map fun m:Nat=>((f0I tc L (m:Int)).length:Int)) (by rw [hi,List.map_map]; rfl) (fun x hx=>?_) (by rw [List.length_map,List.length_range]; exact fitsLe (by omega)) (by rw [fF]; exact aF (by omega)) ?_
  .obtain ⟨m,_,rfl⟩:=List.mem_map.mp hx
   have hl40:=hB m (f0I tc L m) ((way0 (rq:=rq) (n:=0)).nd _) ((way0 (n:=0)).sub m)
   omega
  rw [fF]
  refine ifd (fun hmost=>hX _ (way0 (rq:=rq) (n:=0)).nd (way0 (n:=0)).sub hmost) fun hmost=>?_
  refine mh (γ:=Int × Bool) (fun g=>.put 0 (.obj gid) (.put 1 (.int L) (.put 2 (.int most) (.put 3 (.obj σ.length) (.put 6 (.int g.1) (.put 7 (.bool g.2) .nil))))))
   (ui tc L most rq xs.length σ σ.length ids) (g0:=((cnt (f0I tc L) xs.length:Int),true)) (n0:=40 * xs.length - cnt (f0I tc L) xs.length + 1) (by omega) ⟨_,⟨S.keep (k2.trans k3),way0,rfl,by omega⟩,(fun h=>nomatch h),fun z0=>rfl⟩ ?_
  clear hi hc0 hmost hids
  rintro m ⟨count,g⟩ σ4 K' ⟨f,F,hclo,hmeas⟩ hK
  cases g with
  | false=>exact hQ _ ids σ4 f F.S F.W.nd (ph F.W (hclo rfl)) (F.hc ▸ F.hm)
  | true =>
   have hmeas:=hmeas rfl
   refine ay (gk F.S.K).obj (by rfl) G.hr ?_
   refine ba (γ:=Int × Bool) (f:=fun q:Nat × Int × List Int=>AV.obj q.1) (ys:=rq) (bb:=true) (fun g=>.put 0 (.obj gid) (.put 1 (.int L) (.put 2 (.int most) (.put 3 (.obj σ.length) (.put 6 (.int g.1) (.put 7 (.bool g.2) .nil))))))
    (uj tc L most rq xs.length σ σ.length ids f) (g0:=(count,false)) (fun j g σ' R=>by obtain ⟨_,F⟩:=R; exact ar (gk F.S.K).rules) (by have:=G.fewR; omega) ⟨f,F,fun z0=>⟨rfl,fun q hq=>nomatch hq⟩,fun h=>nomatch h⟩ ?_ ?_
   .rintro j q ⟨count,g⟩ σ5 K5 hq ⟨f1,F1,hno,hyes⟩ hK5
    have hqm:=am hq
    obtain ⟨at2,ho2,hle2,hri2⟩:=G.rule q hqm
    refine ay (F1.S.K.get rfl ho2) (by rfl) hri2 ?_
    obtain ⟨hrl,hrs⟩:=G.right q hqm
    have hidx:∀ s ∈ q.2.2,ids[s.toNat]? = some (ids.getD s.toNat 0)/\((s.toNat:Nat):Int) = s:=fun s hs=>by
     obtain ⟨h0,h1⟩:=hrs s hs
     exact ⟨hgi _ (by omega),by omega⟩
    refine fg (f:=AV.int) (ys:=q.2.2) (fun s=>.obj (ids.getD s.toNat 0)) mo (by omega) rfl (fun s hs σ6 K6 k6 hK6=>?_) fun σ6 k6=>?_
    .have hs2:=hrs s hs
     exact aX (k6.get rfl F1.S.hv) (by omega) (by rw [List.getElem?_map,(hidx s hs).1]; rfl) (hK6 _ .refl)
    refine aD (by omega) fun pid σ7 k7 hp z0=>?_
    have S7:=F1.S.keep (k6.trans k7)
    have hLr:∀ w:List Int,dU (fun s w=>w ∈ f1 s) q.2.2 w->(w.length:Int) ≤ L->Lfp (baseI tc L) (rulesI rq) L q.2.1 w:=fun w h1 h2=>Lfp.clo.rule q.2 (List.mem_map.mpr ⟨q,hqm,rfl⟩) w (h1.mono fun s w h=>F1.W.sub s w h) h2
    obtain ⟨hl0,hl1⟩:=G.left q hqm
    refine dn (.inl rfl) (qs:=q.2.2.map fun s=>(ids.getD s.toNat 0,f1 s)) (ps:=q.2.2.map f1) ⟨by rw [List.map_map]; exact hp,fun x hx=>?_,by rw [List.length_map]; exact hrl,fun x hx=>?_,fun x hx w hw=>?_⟩ (by rw [List.map_map]; rfl) (by show fz ≤ σ7.length; have:=S7.K.len; omega) (by omega) hm
     (fun ws h1 h2=>by have:=hB q.2.1 ws h1 fun w hw=>hLr w (bV.mp (h2 w hw).1) (h2 w hw).2; omega) (fun ri ws σ8 k8 hri hws hwn hwm hwm'=>?_) fun ws h1 h2 h3=>?_
    .obtain ⟨s,hs,rfl⟩:=List.mem_map.mp hx
     obtain ⟨h0,h1⟩:=hidx s hs
     have:=(S7.at' s.toNat _ h0).1
     rw [h1] at this
     exact this
    .obtain ⟨s,hs,rfl⟩:=List.mem_map.mp hx
     exact Nat.le_trans (hB s (f1 s) (F1.W.nd s) (F1.W.sub s)) (by decide)
    .obtain ⟨s,hs,rfl⟩:=List.mem_map.mp hx
     have:=hlw s w (F1.W.sub s w hw)
     omega
    .have hw40:=hB q.2.1 ws hwn fun w hw=>hLr w (bV.mp ((hwm w).mp hw).1) ((hwm w).mp hw).2
     have hri5:∀ (i:Nat) id,ids[i]? = some id->ri ≠ id:=fun i id h=>by have:=aN (S7.at' i id h).1; omega
     have hil:=hgi q.2.1.toNat (by omega)
     have hle:((q.2.1.toNat:Nat):Int) = q.2.1:=by omega
     refine ba (γ:=Int × Bool) (f:=wordV) (ys:=ws) (bb:=false) (fun g=>.put 0 (.obj gid) (.put 1 (.int L) (.put 2 (.int most) (.put 3 (.obj σ.length) (.put 6 (.int g.1) (.put 7 (.bool g.2) (.put 8 (.obj q.1) .nil)))))))
      (uk tc L most rq xs.length σ σ.length ids f (f1 = f/\∀ q ∈ rq.take j,rL L f q) q.2.1 ri ws) (g0:=(count,g)) (fun m g σ7 R=>by obtain ⟨_,_,h⟩:=R; exact br h) (by omega) ⟨f1,⟨S7.keep k8,F1.W,F1.hc,F1.hm⟩,hws,fun h=>⟨(hno h).1,hno h,fun w hw=>nomatch hw⟩,hyes⟩ ?_ ?_
     .rintro m w ⟨count,g⟩ σ9 K9 hw ⟨f2,F2,hr2,hno2,hyes2⟩ hK9
      have hwm2:=(hwm w).mp (am hw)
      have hLw:Lfp (baseI tc L) (rulesI rq) L q.2.1 w:=hLr w (bV.mp hwm2.1) hwm2.2
      have h9:=(F2.S.at' _ _ hil)
      rw [hle] at h9
      refine ay (F2.S.K.get rfl ho2) (by rfl) hle2 ?_
      refine aX F2.S.hv (by omega) (by rw [List.getElem?_map,hil]; rfl) ?_
      refine ro h9.1 ?_
      refine ifn (fun hin=>?_) fun hin=>?_
      .refine ay (F2.S.K.get rfl ho2) (by rfl) hle2 ?_
       refine aX F2.S.hv (by omega) (by rw [List.getElem?_map,hil]; rfl) ?_
       have hl40:=hB q.2.1 (f2 q.2.1) (F2.W.nd _) (F2.W.sub _)
       refine jk h9.1 (by show fz ≤ _; omega) (by omega) fun σa ha pa=>?_
       rw [show winsert w (f2 q.2.1) = f2 q.2.1 ++ [w] from if_neg hin] at ha
       have Wa:=F2.W.add hin hLw
       have hca:=rz (f:=f2) (n:=xs.length) (l:=q.2.1.toNat) (w:=w) (by omega)
       rw [hle] at hca
       have hcl:=jd (f:=put f2 q.2.1 (f2 q.2.1 ++ [w])) (n:=xs.length) (B:=40) fun i z0=>hB i _ (Wa.nd _) (Wa.sub i)
       have Sp:=F2.S.put (ws:=f2 q.2.1 ++ [w]) hil ha pa
       rw [hle] at Sp
       have hc2:=F2.hc
       dsimp only at hc2
       refine bp (aF (by omega)) ?_
       refine ifd (fun hmost2=>hX _ Wa.nd Wa.sub (by omega)) fun hmost2=>hK9 (count + 1,true) σa ⟨_,⟨Sp,Wa,by show count + 1 = _; omega,by show count + 1 ≤ most; omega⟩,pa.get (hri5 _ _ hil) hr2,(fun h=>nomatch h),fun z0=>oL hno2 hyes2 hca⟩
      .refine hK9 (count,g) σ9 ⟨f2,F2,hr2,fun h=>?_,hyes2⟩
       obtain ⟨h1,h2,h4⟩:=hno2 h
       refine ⟨h1,h2,fun u hu=>?_⟩
       rw [az hw] at hu
       rcases List.mem_append.mp hu with hu | hu
       .exact h4 u hu
       .rw [List.mem_singleton.mp hu,<- h1]; exact hin
     .rintro ⟨count,g⟩ σ9 ⟨f2,F2,hr2,hno2,hyes2⟩
      refine hK5 (count,g) σ9 ⟨f2,F2,fun h=>?_,hyes2⟩
      obtain ⟨h1,h2,h4⟩:=hno2 h
      refine ⟨h1,fun q' hq' w h5 h6=>?_⟩
      rw [az hq] at hq'
      rcases List.mem_append.mp hq' with hq' | hq'
      .exact h2.2 q' hq' w h5 h6
      .rw [List.mem_singleton.mp hq'] at h5 ⊢
       rw [List.take_length] at h4
       refine h4 w ((hwm w).mpr ⟨bV.mpr ?_,h6⟩)
       rw [h2.1]; exact h5
    .refine hX (put (fun z0=>[]) q.2.1 ws) (fun s=>?_) (fun s w hw=>?_) ?_
     .unfold put; split
      .exact h1
      .exact List.nodup_nil
     .unfold put at hw
      split at hw
      .rename_i e
       rw [e]
       exact hLr w (bV.mp (h2 w hw).1) (h2 w hw).2
      .exact nomatch hw
     .have:=sO (f:=put (fun z0=>[]) q.2.1 ws) (n:=xs.length) (i:=q.2.1.toNat) (by omega)
      rw [show ((q.2.1.toNat:Nat):Int) = q.2.1 by omega,fY] at this
      omega
   .rintro ⟨count,g⟩ σ5 ⟨f1,F1,hno,hyes⟩
    have hcl1:=jd (f:=f1) (n:=xs.length) (B:=40) fun i z0=>hB i (f1 i) (F1.W.nd _) (F1.W.sub i)
    cases g with
    | false =>
     obtain ⟨rfl,hall⟩:=hno rfl
     rw [List.take_length] at hall
     exact hK 0 (count,false) σ5 (by omega) ⟨f1,F1,fun z0=>hall,fun h=>nomatch h⟩
    | true =>
     have:=hyes rfl
     exact hK (40 * xs.length - cnt f1 xs.length + 1) (count,true) σ5 (by rw [hmeas]; exact Nat.succ_lt_succ (Nat.sub_lt_sub_left (Nat.lt_of_lt_of_le this hcl1) this)) ⟨f1,F1,(fun h=>nomatch h),fun z0=>rfl⟩
theorem eF {k fz gid nid rid:Nat} {σ:ac} {at':List (Str × AV)} {xs:List AV} {tc L start most:Int} {rq:List (Nat × Int × List Int)} {as:List AV} {Q:AV->ac->Prop} {X:Prop} (hx:as = [.obj gid,.int L,.int most]\/as = [.obj gid,.int L]/\most = 20000)
  (G:cg σ gid nid rid at' xs tc rq start) (hst:0 ≤ start/\start < xs.length) (hz:fz ≤ σ.length) (hm:0 ≤ most) (hL:0 ≤ L/\L ≤ 2) (hW:10000 < W)
  (hB:∀ (s:Int) (ws:List (List Int)),ws.Nodup->(∀ w ∈ ws,Lfp (baseI tc L) (rulesI rq) L s w)->ws.length ≤ 40)
  (hQ:∀ i σ' f,aB σ σ'->Has σ' i (.list ((sortW (f start)).map wordV))->(∀ s,(f s).Nodup)->(∀ s w,w ∈ f s ↔ Lfp (baseI tc L) (rulesI rq) L s w)->(cnt f xs.length:Int) ≤ most->Q (.obj i) σ')
  (hX:∀ f:Int->List (List Int),(∀ s,(f s).Nodup)->(∀ s w,w ∈ f s->Lfp (baseI tc L) (rulesI rq) L s w)->most < (cnt f xs.length:Int)->X):wp ((mach W (k + 80)).F "words_up_to" fz as) σ Q X:=by
 refine cL (ys:=[.obj gid,.int L,.int most]) sJ (by rcases hx with rfl | ⟨rfl,rfl⟩ <;> rfl) ?_
 clear hx as
 refine jD (.inl rfl) G hz hm hL hW hB (fun vid ids σ' f S hn hf hc=>?_) hX
 refine ay (S.K.get rfl G.obj) (by rfl) G.hs ?_
 have hlt:start.toNat < ids.length:=by have:=S.hl; omega
 have hfew:=G.few
 refine aX S.hv (by omega) (by rw [List.getElem?_map,List.getElem?_eq_getElem hlt]; rfl) ?_
 have h0:=(S.at' start.toNat _ (List.getElem?_eq_getElem hlt)).1
 rw [show ((start.toNat:Nat):Int) = start by omega] at h0
 have:=hB start (f start) (hn _) fun w=>(hf start w).mp
 refine gD (by rfl) (br h0).1 (by omega) (hn _) ?_ (by rw [bC]; exact fitsLe (by omega))
 exact hQ _ _ f (S.K.trans (.app _)) an hn hf hc
noncomputable def stepL {α:Type} (due:List (List α)) (p:List (List α)):List (List α):=due.flatMap fun r=>p.map (r ++ ·)
noncomputable def dueL {α:Type} (ps:List (List (List α))):List (List α):=ps.foldl stepL [[]]
section
variable {α:Type}
theorem io {due p:List (List α)} {w:List α}:w ∈ stepL due p ↔ ∃ u v,u ∈ due/\v ∈ p/\w = u ++ v:=by
 unfold stepL
 rw [List.mem_flatMap]
 constructor
 .rintro ⟨u,hu,h⟩
  obtain ⟨v,hv,rfl⟩:=List.mem_map.mp h
  exact ⟨u,v,hu,hv,rfl⟩
 .rintro ⟨u,v,hu,hv,rfl⟩
  exact ⟨u,hu,List.mem_map.mpr ⟨v,hv,rfl⟩⟩
theorem pH {ps:List (List (List α))} {init:List (List α)} {w:List α}:w ∈ ps.foldl stepL init ↔ ∃ a v,a ∈ init/\Cat ps v/\w = a ++ v:=by
 induction ps generalizing init with
 | nil=>exact ⟨fun h=>⟨w,[],h,rfl,(List.append_nil w).symm⟩,fun ⟨a,v,h1,h2,h3⟩=>by rw [h3,show v = [] from h2,List.append_nil]; exact h1⟩
 | cons p ps ih =>
  rw [List.foldl_cons,ih]
  constructor
  .rintro ⟨a,v,ha,hv,rfl⟩
   obtain ⟨u,x,hu,hx,rfl⟩:=io.mp ha
   exact ⟨u,x ++ v,hu,⟨x,hx,v,hv,rfl⟩,List.append_assoc ..⟩
  .rintro ⟨a,v,ha,⟨x,hx,y,hy,rfl⟩,rfl⟩
   exact ⟨a ++ x,y,io.mpr ⟨a,x,ha,hx,rfl⟩,hy,(List.append_assoc ..).symm⟩
theorem kh {ps:List (List (List α))} {w:List α}:w ∈ dueL ps ↔ Cat ps w:=by
 unfold dueL
 rw [pH]
 exact ⟨fun ⟨a,v,h1,h2,h3⟩=>by rw [h3,List.mem_singleton.mp h1]; exact h2,fun h=>⟨[],w,.head _,h,rfl⟩⟩
theorem nN {due p:List (List α)} {B:Nat} (h:p.length ≤ B):(stepL due p).length ≤ B * due.length:=by
 unfold stepL
 induction due with
 | nil=>exact Nat.zero_le _
 | cons r due ih =>
  rw [List.flatMap_cons,List.length_append,List.length_map,List.length_cons,Nat.mul_succ]
  omega
theorem nU {ps:List (List (List α))} {j:Nat} {p:List (List α)} (h:ps[j]? = some p):dueL (ps.take (j + 1)) = stepL (dueL (ps.take j)) p:=by
 unfold dueL
 rw [az h,List.foldl_append]; rfl
theorem pK {ps:List (List (List α))} {init:List (List α)} {B:Nat} (h:∀ p ∈ ps,p.length ≤ B):(ps.foldl stepL init).length ≤ B ^ ps.length * init.length:=by
 induction ps generalizing init with
 | nil=>simp
 | cons p ps ih =>
  rw [List.foldl_cons]
  refine Nat.le_trans (ih fun q hq=>h q (.tail _ hq)) ?_
  rw [List.length_cons,Nat.pow_succ,Nat.mul_assoc]
  exact Nat.mul_le_mul_left _ (nN (h p (.head _)))
theorem rB {ps:List (List (List α))} {w:List α} {B:Nat} (h:Cat ps w) (hB:∀ p ∈ ps,∀ v ∈ p,v.length ≤ B):w.length ≤ B * ps.length:=by
 induction ps generalizing w with
 | nil=>rw [show w = [] from h]; exact Nat.zero_le _
 | cons p ps ih =>
  obtain ⟨u,hu,v,hv,rfl⟩:=h
  have:=ih hv fun q hq=>hB q (.tail _ hq)
  have:=hB p (.head _) u hu
  rw [List.length_append,List.length_cons,Nat.mul_succ]
  omega
end
theorem ja {xs:List (List Int)}:∀ d:List (List Int),d.Nodup->(xs.foldl (fun d w=>winsert w d) d).Nodup/\∀ w,w ∈ xs.foldl (fun d w=>winsert w d) d ↔ w ∈ d\/w ∈ xs:=by
 induction xs with
 | nil=>exact fun d h=>⟨h,fun w=>by simp⟩
 | cons x xs ih =>
  intro d h
  obtain ⟨h1,h2⟩:=ih (winsert x d) (bI h)
  refine ⟨h1,fun w=>?_⟩
  rw [List.foldl_cons,h2 w,cX,List.mem_cons,or_assoc]
theorem pz (ws:List (List Int)):wordPairs (ws.map fun w=>AV.tup [wordV w,.bool true]) = some ws:=ei (g:=fun w=>AV.tup [wordV w,.bool true]) fE ws
theorem sV {σ:ac} {X:Prop} {Q:AV->ac->Prop} {i:Nat} {ws:List (List Int)} (e:σ[i]? = some (.list (ws.map fun w=>AV.tup [wordV w,.bool true]))) (hl:ws.length ≤ 1000000) (h:Q (.obj σ.length) (σ ++ [.wset (ws.foldl (fun d w=>winsert w d) [])])):wp (bltV "dict" [.obj i]) σ Q X:=by
 unfold bltV
 show wp (do
   let xs <- getList (.obj i)
   MM.guard (fits xs.length)
   match wordPairs xs with
   | some ws=>alloc (.wset (ws.foldl (fun d w=>winsert w d) []))
   | Option.none=>do
    let es <- MM.opt (strPairs xs)
    alloc (.sdict (es.foldl (fun d e=>sset e.1 e.2 d) []))) σ Q X
 refine ag (aE (a:=ws.map fun w=>AV.tup [wordV w,.bool true]) (σ':=σ) (by unfold getList; dsimp only; rw [e]) ?_)
 refine ag (al (by rw [List.length_map]; exact fitsLe hl) ?_)
 rw [pz]
 exact dX h
theorem gw {σ:ac} {i j:Nat} {ws vs:List (List Int)} (hi:σ[i]? = some (.wset ws)) (hj:σ[j]? = some (.wset vs)) (h1:ws.Nodup) (h2:vs.Nodup) (h:∀ w,w ∈ ws ↔ w ∈ vs):eqV σ (.obj i) (.obj j) = some true:=by
 unfold eqV
 dsimp only
 rw [hi,hj]
 dsimp only
 rw [((List.perm_ext_iff_of_nodup h1 h2).mpr h).length_eq]
 have:(ws.all fun w=>decide (w ∈ vs)) = true:=List.all_eq_true.mpr fun w hw=>decide_eq_true ((h w).mp hw)
 rw [this]
 simp
theorem js {σ:ac} {a b:AV} {t:Bool} {X:Prop} {Q:Bool->ac->Prop} (e:eqV σ a b = some t) (h:Q t σ):wp (cmpV .Eq a b) σ Q X:=by
 refine aE (a:=t) (σ':=σ) ?_ h
 show (MM.opt (eqV σ a b)) σ = _
 rw [e]; rfl
theorem oo {σ:ac} {i j:Nat} {t:Bool} {X:Prop} {Q:Bool->ac->Prop} (e:eqV σ (.obj i) (.obj j) = some t) (h:Q (!t) σ):wp (cmpV .NotEq (.obj i) (.obj j)) σ Q X:=by
 refine aE (a:=!t) (σ':=σ) ?_ h
 show (do let r <- MM.opt (eqV σ (.obj i) (.obj j)); MM.pure (!r):MM Bool) σ = _
 rw [e]; rfl
noncomputable def cb (σ:ac) (hs:List Nat) (ps:List (List (List Int))):Prop:=hs.length = ps.length/\∀ (i h:Nat) (p:List (List Int)),hs[i]? = some h->ps[i]? = some p->σ[h]? = some (AO.list (p.map wordV))
theorem hJ {σ:ac} {hs:List Nat} {ps:List (List (List Int))} (h:cb σ hs ps):wordssOf σ (hs.map AV.obj) = some ps:=by
 induction hs generalizing ps with
 | nil=>rw [show ps = [] from List.eq_nil_of_length_eq_zero h.1.symm]; rfl
 | cons i hs ih =>
  obtain ⟨hl,h⟩:=h
  induction ps using List.casesOn with
  | nil=>cases hl
  | cons p ps =>
   have:=ih (ps:=ps) ⟨by simpa using hl,fun i' h' p'=>h (i' + 1) h' p'⟩
   have h0:=h 0 i p rfl rfl
   have q:listAt σ (.obj i) = some (p.map wordV):=by unfold listAt; dsimp only; rw [h0]
   show ((listAt σ (.obj i)).bind wordsOf).bind (fun y=>(wordssOf σ (hs.map AV.obj)).map (y :: ·)) = _
   rw [q]
   show (wordsOf (p.map wordV)).bind (fun y=>(wordssOf σ (hs.map AV.obj)).map (y :: ·)) = _
   rw [fM,this]; rfl
theorem kP {σ:ac} {i j:Nat} {hs gs:List Nat} {ps:List (List (List Int))} (hi:σ[i]? = some (.list (hs.map AV.obj))) (hj:σ[j]? = some (.list (gs.map AV.obj))) (h1:cb σ hs ps) (h2:cb σ gs ps):eqV σ (.obj i) (.obj j) = some true:=by
 unfold eqV
 dsimp only
 rw [hi,hj]
 dsimp only
 unfold eqL
 rw [if_neg (by rw [List.length_map,List.length_map,h1.1,h2.1]; simp)]
 induction hs using List.casesOn with
 | nil =>
  induction gs using List.casesOn with
  | nil=>rfl
  | cons g gs=>have:=h1.1.trans h2.1.symm; cases this
 | cons h hs =>
  have:wordsOf ((h :: hs).map AV.obj) = Option.none:=rfl
  rw [this]
  rw [hJ h1,hJ h2]
  simp
theorem fq {α β:Type} {A:List α} {f:α->List β} {B:Nat} (h:∀ a,(f a).length ≤ B):(A.flatMap f).length ≤ B * A.length:=by
 induction A with
 | nil=>exact Nat.le_refl _
 | cons a A ih=>rw [List.flatMap_cons,List.length_append,List.length_cons,Nat.mul_succ,Nat.add_comm]; exact Nat.add_le_add ih (h a)
section
variable {n:Nat} {F:Fr} {e t it it2 fs2 t2:C} {src:AV} {l:Env} {σ:ac} {K:Ko (List AV)} {δ ε:Type} {f:δ->AV} {ys:List δ} {zs:List ε} {bb:Bool}
theorem oA (p:δ->ε->Bool) (g:δ->ε->AV) (hsrc:∀ σ',aB σ σ'->items src σ' = .ok (ys.map f) σ'/\isL src σ' = .ok bb σ') (hl:zs.length * ys.length ≤ 10000) (hy:ys.length ≤ 1000) (ha:apart t l = true)
  (ht:∀ y ∈ ys,∀ a σ' K',a.length ≤ 10000->aB σ σ'->(∀ σ'',aB σ' σ''->K' (a ++ (zs.filter (p y)).map (g y)) σ'')->vTg t (f y) l (kCl2 n F .nil it2 e (.cons (.gen t2 it2 fs2) .nil) a σ' K'))
  (he:∀ σ',aB σ σ'->K (ys.flatMap fun y=>(zs.filter (p y)).map (g y)) σ'):SCl n e (.cons (.gen t it .nil) (.cons (.gen t2 it2 fs2) .nil)) F src l [] σ K:=by
 refine te (xs:=ys.map f) (bb:=bb) (fun j a σ'=>aB σ σ'/\a = (ys.take j).flatMap fun y=>(zs.filter (p y)).map (g y)) (fun j a σ' h=>hsrc σ' h.1) (by rw [List.length_map]; exact fitsLe (by omega)) ha ⟨.refl,rfl⟩ rfl ?_ ?_
 .rintro j v a σ' K' hv ⟨k,rfl⟩ hK
  obtain ⟨y,hy',rfl⟩:=gh hv
  refine ht y (am hy') _ σ' K' ?_ k fun σ'' k'=>hK _ _ ⟨k.trans k',?_⟩
  .refine Nat.le_trans (fq (B:=zs.length) fun y=>?_) (Nat.le_trans (Nat.mul_le_mul_left _ (by rw [List.length_take]; exact Nat.min_le_right _ _)) hl)
   rw [List.length_map]; exact List.length_filter_le _ _
  .rw [az hy',List.flatMap_append,List.flatMap_singleton]
 .rintro a σ' ⟨k,rfl⟩
  rw [List.length_map,List.take_length]
  exact he σ' k
end
inductive tQ (σ:ac) (ps:List (List (List Int))) (j:Nat) (a:List AV) (σ':ac):Prop
 | mk (hs:List Nat) (k:aB σ σ') (ha:a = hs.map AV.obj) (hl:hs.length = j) (h:∀ (i h:Nat) (p:List (List Int)),hs[i]? = some h->ps[i]? = some p->Has σ' h (AO.list (p.map wordV)))
theorem oz {n pid:Nat} {F:Fr} {it:C} {σ:ac} {qs:List (Nat × List (List Int))} {K:Ko (List AV)} (hp:Has σ pid (.list (qs.map fun q=>AV.obj q.1))) (hs:∀ q ∈ qs,Has σ q.1 (.wset q.2)) (hn:qs.length ≤ 10) (hc:∀ q ∈ qs,q.2.length ≤ 1000)
  (h:∀ hs' σ',aB σ σ'->hs'.length ≤ 10->cb σ' hs' (qs.map (·.2))->K (hs'.map AV.obj) σ'):SCl (n + 3) (.blt "list" (.cons (.n 1) .nil)) (.cons (.gen (.n 1) it .nil) .nil) F (.obj pid) .nil [] σ K:=by
 refine fh (f:=fun q:Nat × List (List Int)=>AV.obj q.1) (ys:=qs) (bb:=true) (tQ σ (qs.map (·.2))) (fun j a σ' R=>by obtain ⟨_,k⟩:=R; exact ar (k.get rfl hp)) (by omega) rfl ⟨[],.refl,rfl,rfl,fun i h p h1=>nomatch h1⟩ ?_ ?_
 .rintro j q a σ' K' hq ⟨hs',k,rfl,hl,hh⟩ hK
  have hqm:=am hq
  have hj:=(List.getElem?_eq_some_iff.mp hq).1
  refine lX (by rfl) (br (k.get rfl (hs q hqm))).1 (by rw [List.length_map]; exact fitsLe (by have:=hc q hqm; omega)) ⟨by rw [List.length_map]; exact fitsLe (by omega),hK _ _ ⟨hs' ++ [σ'.length],k.trans (.app _),by rw [List.map_append]; rfl,by rw [List.length_append,hl]; rfl,fun i h p e1 e2=>?_⟩⟩
  by_cases hi:i < hs'.length
  .rw [List.getElem?_append_left hi] at e1
   exact ao (hh i h p e1 e2)
  .have hi':i = hs'.length:=by
    have:=(List.getElem?_eq_some_iff.mp e1).1
    rw [List.length_append,List.length_singleton] at this; omega
   subst hi'
   rw [List.getElem?_append_right (Nat.le_refl _),Nat.sub_self] at e1
   injection e1 with e1
   subst e1
   rw [hl,List.getElem?_map,hq] at e2
   injection e2 with e2
   subst e2
   exact an
 .rintro a σ' ⟨hs',k,rfl,hl,hh⟩
  exact h hs' σ' k (by omega) ⟨by rw [List.length_map,hl],hh⟩
theorem cb.keep {σ σ':ac} {hs:List Nat} {ps:List (List (List Int))} {p:AO->Bool} (h:cb σ hs ps) (hp:∀ ws:List (List Int),p (.list (ws.map wordV)) = true) (k:KP p σ σ'):cb σ' hs ps:=⟨h.1,fun i g q e1 e2=>k.get (hp _) (h.2 i g q e1 e2)⟩
theorem eP (ws:List (List Int)):noT (.list (ws.map wordV)) = true:=fH (fun z0=>rfl) ws
theorem ck {α:Type} (f:α->Nat) (ws:List α):noT (.list (ws.map fun q=>AV.obj (f q))) = true:=fH (fun z0=>rfl) ws
inductive tK (σ:ac) (t N j:Nat) (a:List AV) (σ':ac):Prop
 | mk (qs:List (Nat × List (List Int))) (ha:a = qs.map fun q=>AV.obj q.1) (hl:qs.length = j) (hq:∀ q ∈ qs,Has σ' q.1 (.wset q.2)/\rU q.2) (T:aC t (N + 17 * j) σ') (k:KT σ σ')
structure qu (ps:List (List (List Int))):Prop where
 n:ps.length ≤ 3
 l:∀ p ∈ ps,p.length ≤ 4
 w:∀ p ∈ ps,∀ v ∈ p,v.length ≤ 3
theorem qu.len {ps:List (List (List Int))} (D:qu ps) (j:Nat):(dueL (ps.take j)).length ≤ 64:=by
 refine Nat.le_trans (pK (B:=4) fun p hp=>D.l p (List.mem_of_mem_take hp)) ?_
 have:(ps.take j).length ≤ 3:=by have:=D.n; rw [List.length_take]; omega
 exact Nat.mul_le_mul_right 1 (Nat.pow_le_pow_right (by decide) this)
theorem qu.word {ps:List (List (List Int))} (D:qu ps) {j:Nat} {w:List Int} (h:w ∈ dueL (ps.take j)):w.length ≤ 9:=by
 have:=rB (B:=3) (kh.mp h) fun p hp=>D.w p (List.mem_of_mem_take hp)
 have:=D.n
 rw [List.length_take] at *
 omega
theorem fv {t N:Nat} {σ:ac} {Q:AV->ac->Prop} {X:Prop} (T:aC t N σ) (hN:N < 800000000)
  (h:∀ σ',aC t (N + 100) σ'->KT σ σ'->Q (.bool true) σ'):wp ((mach W 124).F "_law_rows_right" 0 [.obj t]) σ Q X:=by
 refine cL tW rfl ?_
 refine aH T (by omega) (by decide) (Nat.zero_le _) fun r σ1 hr0 hr1 T1 k1=>?_
 refine ca (by omega) ?_
 refine mi (tK σ t (N + 1)) (by omega) rfl ⟨[],rfl,rfl,(fun z0 h=>no8 h),T1,k1⟩ ?_ ?_
 .rintro j a σ2 K' hj ⟨qs,rfl,hql,hqs,T2,k2⟩ hK
  refine oM T2 (by omega) (Nat.zero_le _) fun r2 ws σ3 T3 k3 hw2 ok2=>⟨by rw [List.length_map]; exact fitsLe (by omega),hK _ _ ⟨qs ++ [(r2,ws)],by rw [List.map_append]; rfl,by rw [List.length_append,hql]; rfl,fun q hq=>?_,T3,k2.trans k3⟩⟩
  rcases List.mem_append.mp hq with hq | hq
  .exact ⟨k3.get rfl (hqs q hq).1,(hqs q hq).2⟩
  .rw [List.mem_singleton.mp hq]; exact ⟨hw2,ok2⟩
 .rintro a σ2 ⟨qs,rfl,hql,hqs,T2,k2⟩
  have hqn:qs.length ≤ 3:=by omega
  refine aD (by omega) fun pid σ3 k3 hpid z0=>?_
  refine aH (T2.keep k3) (by omega) (by decide) (Nat.zero_le _) fun r4 σ4 hq0 hq1 T4 k4=>?_
  refine fD (aF (by omega)) ?_
  have hL:-2 ≤ r4 - 2/\r4 - 2 ≤ 7:=by omega
  generalize r4 - 2 = L at hL
  have P4:gI σ4 pid qs:=⟨k4.get (ck _ _) hpid,fun q hq=>k4.get rfl (k3.get rfl (hqs q hq).1),by omega,fun q hq=>by have:=(hqs q hq).2.len; omega,fun q hq w hw=>by have:=(hqs q hq).2.short w hw; omega⟩
  have kt4:KT σ σ4:=(k2.trans (.kt k3)).trans k4
  have B:qu (qs.map (·.2)):=⟨by rw [List.length_map]; exact hqn,fun p hp=>by obtain ⟨q,hq,rfl⟩:=List.mem_map.mp hp; exact (hqs q hq).2.len,fun p hp=>by obtain ⟨q,hq,rfl⟩:=List.mem_map.mp hp; exact (hqs q hq).2.short⟩
  have T4:=T4.up (M:=N + 60) (by omega)
  clear hqs T1 k1 k2 k3 k4 T2 hpid hr0 hr1 hq0 hq1 hql
  refine oz P4.hp P4.hs P4.hn P4.hc fun hs1 σ5 k5 hl1 hls=>?_
  refine aD (by omega) fun hid σ6 k6 hhid z0=>?_
  generalize hps:qs.map (·.2) = ps at hls B
  have hls6:=hls.keep (fun z0=>rfl) k6
  have k6:=k5.trans k6
  clear hls k5
  refine ba (γ:=Nat) (f:=fun q:Nat × List (List Int)=>AV.obj q.1) (ys:=qs) (bb:=true) (fun g=>.put 0 (.obj t) (.put 2 (.obj hid) (.put 3 (.obj g) (.put 4 (.int L) (.put 6 (.obj pid) .nil)))))
   (fun j g σ'=>aB σ6 σ'/\Has σ' g (.list ((dueL (ps.take j)).map wordV))) (g0:=σ6.length) (fun j g σ' h=>ar (h.1.get rfl (k6.get rfl P4.hp))) (by omega) ⟨.app _,an⟩ ?_ ?_
  .rintro j q did σ7 K' hq ⟨k7,hd⟩ hK
   have hqm:=am hq
   have hpj:ps[j]? = some q.2:=by rw [<- hps,List.getElem?_map,hq]; rfl
   have hq4:=B.l q.2 (am hpj)
   have hd64:=B.len j
   have hfl:∀ p:List (List Int),(p.filter fun z0=>true) = p:=fun p=>List.filter_eq_self.mpr fun z0 z0=>rfl
   have hm4:q.2.length * (dueL (ps.take j)).length ≤ 4 * 64:=Nat.mul_le_mul hq4 hd64
   refine oA (f:=wordV) (ys:=dueL (ps.take j)) (zs:=q.2) (fun z0 z0=>true) (fun u v=>wordV (u ++ v)) (bn hd) (by omega) (by omega) rfl (fun u hu a σ8 K8 ha k8 hK8=>?_) fun σ8 k8=>?_
   .refine fP (f:=wordV) (ys:=q.2) (fun z0=>true) (fun v=>wordV (u ++ v)) (jB (k8.get rfl (k7.get rfl (k6.get rfl (P4.hs q hqm))))) (by omega) rfl (fun v hv a σ9 K9 hf k9 hK9 z0=>?_) fun σ9 k9=>hK8 σ9 k9
    refine mf ?_ ⟨hf,hK9 rfl _ .refl⟩
    have:=B.word hu
    have:=B.w q.2 (am hpj) v hv
    omega
   .have he:((dueL (ps.take j)).flatMap fun u=>(q.2.filter fun z0=>true).map fun v=>wordV (u ++ v)) = (dueL (ps.take (j + 1))).map wordV:=by
     rw [nU hpj,stepL,List.map_flatMap,hfl]
     simp only [List.map_map]; rfl
    rw [he]
    have:=B.len (j + 1)
    exact aD (by omega) fun i σ9 k9 hi z0=>hK i σ9 ⟨(k7.trans k8).trans k9,hi⟩
  .rintro did σ7 ⟨k7,hd⟩
   rw [show qs.length = ps.length by rw [<- hps,List.length_map],List.take_length] at hd
   have hd64:=B.len ps.length
   have hd9:=fun w=>B.word (j:=ps.length) (w:=w)
   rw [List.take_length] at hd64 hd9
   refine fP (f:=wordV) (ys:=dueL ps) (fun w=>decide ((w.length:Int) ≤ L)) (fun w=>.tup [wordV w,.bool true]) (bn hd) (by rw [List.length_nil]; omega) rfl (fun u hu a σ8 K8 hf k8 h1 h2=>?_) fun σ8 k8=>?_
   .have:=hd9 u hu
    refine bj dg (fitsLe (by omega)) ?_
    exact ifd (fun hfit=>⟨hf,h1 (decide_eq_true hfit) _ .refl⟩) fun hfit=>h2 (decide_eq_false hfit) _ .refl
   have hfl:((dueL ps).filter fun w=>decide ((w.length:Int) ≤ L)).length ≤ 64:=Nat.le_trans (List.length_filter_le _ _) hd64
   have hmem:∀ w,w ∈ (dueL ps).filter (fun w=>decide ((w.length:Int) ≤ L)) ↔ Cat ps w/\(w.length:Int) ≤ L:=fun w=>by
    rw [List.mem_filter,kh,decide_eq_true_eq]
   generalize (dueL ps).filter (fun w=>decide ((w.length:Int) ≤ L)) = V at hfl hmem
   refine aD (by omega) fun i σ9 k9 hi z0=>sV hi (by omega) ?_
   obtain ⟨hDn,hDm⟩:=ja (xs:=V) [] List.nodup_nil
   have hD:∀ w,w ∈ V.foldl (fun d w=>winsert w d) [] ↔ Cat ps w/\(w.length:Int) ≤ L:=fun w=>by rw [hDm w,<- hmem w]; simp
   have hDl:(V.foldl (fun d w=>winsert w d) []).length ≤ 64:=Nat.le_trans (hDn.length_le_of_subset (fun w hw=>(hmem w).mpr ((hD w).mp hw))) hfl
   generalize V.foldl (fun d w=>winsert w d) [] = D at hDn hD hDl
   have hcnt:∀ ws:List (List Int),ws.Nodup->(∀ w ∈ ws,Cat ps w/\(w.length:Int) ≤ L)->ws.length ≤ D.length:=fun ws h1 h2=>h1.length_le_of_subset fun w hw=>(hD w).mpr (h2 w hw)
   have ka:aB σ4 (σ9 ++ [.wset D]):=k6.trans (k7.trans (k8.trans (k9.trans (.app _))))
   have kb:aB σ6 (σ9 ++ [.wset D]):=k7.trans (k8.trans (k9.trans (.app _)))
   have hda:Has (σ9 ++ [.wset D]) σ9.length (.wset D):=an
   generalize σ9 ++ [.wset D] = σa at ka kb hda
   generalize σ9.length = dd at hda
   refine iF (fun v σ'=>∃ M,A5 (v = .int M) (1 ≤ M) (M ≤ 1000) (aC t (N + 61) σ') (KT σa σ')) (fun K' hK=>?_) ?_
   .refine bj (cq hda) (fitsLe (by omega)) ?_
    refine aH (T4.keep ka) (by omega) (by decide) (Nat.zero_le _) fun rb σb hb0 hb1 Tb kab=>?_
    refine bp (aF (by omega)) ?_
    refine fD (aF (by omega)) ?_
    refine rS ?_
    exact hK _ _ ⟨max 1 ((D.length:Int) + rb - 1),rfl,by omega,by omega,Tb,kab⟩
   rintro _ σb ⟨M,rfl,hM1,hM2,Tb,kab⟩
   have P8:=P4.keep (fun z0=>rfl) (ck _ _) ((KP.kt ka).trans kab)
   have h8d:=kab.get rfl hda
   have h8h:=kab.get (ck (fun i=>i) hs1) (kb.get rfl hhid)
   have hls8:=hls6.keep eP ((KP.kt kb).trans kab)
   have kt8:=kt4.trans ((KP.kt ka).trans kab)
   have hl8:=Tb.lt
   clear ka kb hda kab P4 kt4 T4 T hls6 k6 k7 k8 k9 hi hd hhid
   refine dn (.inr ⟨rfl,rfl⟩) P8 hps.symm (Nat.zero_le _) (by omega) (by decide) (fun ws h1 h2=>by have:=hcnt ws h1 h2; omega) (fun i9 ws9 σ9 k9 z0 h9 hn9 hm9 z0=>?_) fun ws h1 h2 h3=>by have:=hcnt ws h1 h2; omega
   refine oo (gw h9 (k9.get rfl h8d) hn9 hDn fun w=>(hm9 w).trans (hD w).symm) ?_
   refine oz (k9.get rfl P8.hp) (fun q hq=>k9.get rfl (P8.hs q hq)) P8.hn P8.hc fun hs2 σ10 k10 hl2 hls2=>?_
   refine aD (by omega) fun h11 σ11 k11 hl11 z0=>?_
   have k11:=k9.trans (k10.trans k11)
   rw [hps] at hls2
   refine oo (kP hl11 (k11.get rfl h8h) (hls2.keep (fun z0=>rfl) ‹aB σ10 σ11›) (hls8.keep (fun z0=>rfl) k11)) ?_
   refine And.intro rfl (And.intro (by rfl) (And.intro (by have:=k11.len; omega) ?_))
   refine dn (.inl rfl) (P8.keep (fun z0=>rfl) rfl k11) hps.symm (Nat.le_refl _) (by omega) (by omega) (fun ws h1 h2=>by have:=hcnt ws h1 h2; omega) (fun i13 ws13 σ13 k13 z0 h13 hn13 hm13 hm13'=>?_) fun ws h1 h2 h3=>?_
   .have hDM:(D.length:Int) ≤ M:=by
     by_cases hp0:ps = []
     .have:D.length ≤ 1:=hDn.length_le_of_subset (l₂:=[[]]) fun w hw=>by
       have:=((hD w).mp hw).1
       rw [hp0] at this
       rw [show w = [] from this]; exact .head _
      omega
     .have:=hm13' hp0
      rw [((List.perm_ext_iff_of_nodup hn13 hDn).mpr fun w=>(hm13 w).trans (hD w).symm).length_eq] at this
      exact this
    have k13:=k11.trans k13
    refine bj (cq (k13.get rfl h8d)) (fitsLe (by omega)) ?_
    refine ifT (decide_eq_true hDM) ?_
    refine js (gw h13 (k13.get rfl h8d) hn13 hDn fun w=>(hm13 w).trans (hD w).symm) ?_
    exact h σ13 ((Tb.keep k13).up (by omega)) (kt8.trans (.kt k13))
   .have hDM:¬ (D.length:Int) ≤ M:=by have:=hcnt ws h1 h2; omega
    refine bj (cq (k11.get rfl h8d)) (fitsLe (by omega)) ?_
    refine ifF (decide_eq_false hDM) ?_
    exact h σ11 ((Tb.keep k11).up (by omega)) (kt8.trans (.kt k11))
theorem qm {σ:ac} {fz i j:Nat} {xs ys:List AV} {Q:AV->ac->Prop} {X:Prop} (hi:Has σ i (.list xs)) (hj:Has σ j (.list ys)) (hf:fz ≤ i) (hl:xs.length + ys.length ≤ 1000000) (h:∀ σ',Has σ' i (.list (xs ++ ys))->Put i σ σ'->Q .none σ'):wp (listM fz (.obj i) "extend" [.obj j]) σ Q X:=by
 refine aE (a:=.none) (σ':=σ.set i (.list (xs ++ ys))) ?_ (h _ (be hi) (.set _))
 unfold listM
 dsimp only
 rw [hi]
 show (do let ys <- getList (.obj j); MM.guard (fits (xs.length + ys.length)); setO fz i (.list (xs ++ ys)); MM.pure .none:MM AV) σ = _
 have:getList (.obj j) σ = .ok ys σ:=by unfold getList; dsimp only; rw [hj]
 show (MM.bind (getList (.obj j)) _) σ = _
 unfold MM.bind
 rw [this]
 show (do MM.guard (fits (xs.length + ys.length)); setO fz i (.list (xs ++ ys)); MM.pure .none:MM AV) σ = _
 rw [fitsLe hl]
 show (MM.bind (setO fz i (.list (xs ++ ys))) _) σ = _
 unfold MM.bind setO
 rw [if_pos ⟨hf,aN hi⟩]
 rfl
theorem qA {σ:ac} {i:Nat} {x:AV} {n:Int} {Q:AV->ac->Prop} {X:Prop} (hi:Has σ i (.list [x])) (hn:0 ≤ n/\n ≤ 100) (h:Q (.obj σ.length) (σ ++ [.list (List.replicate n.toNat x)])):wp (binop .Mult (.obj i) (.int n)) σ Q X:=by
 show wp (do
  let xs <- getList (.obj i)
  match xs with
  | [x]=>do MM.guard (decide (0 ≤ n/\n ≤ 100)); mkL (List.replicate n.toNat x)
  | _=>MM.stuck) σ Q X
 refine ag (aE (a:=[x]) (σ':=σ) (by unfold getList; dsimp only; rw [hi]) ?_)
 exact ag (al (decide_eq_true hn) (iD (by rw [List.length_replicate]; exact fitsLe (by omega)) h))
theorem bJ {σ:ac} {i:Nat} {xs:List AV} (h:Has σ i (.list xs)):lenV (.obj i) σ = .ok xs.length σ:=by unfold lenV; dsimp only; rw [h]
theorem fK {fz i:Nat} {cn x:Str} {at':List (Str × AV)} {v:AV} {σ:ac} {Q:Unit->ac->Prop} {X:Prop} (at'':List (Str × AV)) (hi:Has σ i (.inst cn at')) (hc:((attrsOf cn).contains x && decide (at'.length < 100)) = true) (hf:fz ≤ i) (he:aset x v at' = at'')
  (h:∀ τ:ac,Has τ i (.inst cn at'')->Put i σ τ->Q () τ):wp (setAt fz (.obj i) x v) σ Q X :=
 dW hi hc hf (by rw [he]; exact h _ (be hi) (.set _))
structure But (i:Nat) (σ σ':ac):Prop where
 len:σ.length ≤ σ'.length
 get:∀ {j o},j ≠ i->Has σ j o->Has σ' j o
section
variable {i j:Nat} {σ τ τ':ac}
theorem But.put (x:But i σ τ) (hj:σ.length ≤ j) (y:Put j τ τ'):But i σ τ':=⟨y.len ▸ x.len,fun hi h=>y.get (Nat.ne_of_lt (Nat.lt_of_lt_of_le (aN h) hj)) (x.get hi h)⟩
theorem But.keep (x:But i σ τ) (y:aB τ τ'):But i σ τ':=⟨Nat.le_trans x.len y.len,fun hi h=>y.get rfl (x.get hi h)⟩
theorem But.self (x:But i σ τ) (y:Put i τ τ'):But i σ τ':=⟨y.len ▸ x.len,fun hi h=>y.get hi (x.get hi h)⟩
end
structure li (σ τ:ac) (gid bid:Nat) (ids own:List Nat) (B:Nat) (at':List (Str × AV)):Prop where
 K:But gid σ τ
 hg:Has τ gid (.inst "Grammar" at')
 hb:Has τ bid (.list (ids.map AV.obj))
 ho:∀ id ∈ own,(∃ ys,Has τ id (.list ys)/\ys.length ≤ B)/\σ.length ≤ id/\id ≠ bid
 gl:gid < σ.length
section
variable {σ τ τ':ac} {gid bid B B' j:Nat} {ids own:List Nat} {at':List (Str × AV)} {ys:List AV}
theorem li.put (G:li σ τ gid bid ids own B at') (P:Put j τ τ') (hj:j ∈ own) (h:Has τ' j (.list ys)) (hl:ys.length ≤ B') (hB:B ≤ B'):li σ τ' gid bid ids own B' at':=by
 obtain ⟨_,hz,hne⟩:=G.ho j hj
 refine ⟨G.K.put hz P,P.get (Nat.ne_of_lt (Nat.lt_of_lt_of_le G.gl hz)) G.hg,P.get hne.symm G.hb,fun id hid=>?_,G.gl⟩
 obtain ⟨⟨xs,h1,h2⟩,h3⟩:=G.ho id hid
 refine ⟨?_,h3⟩
 by_cases q:id = j
 .exact ⟨ys,q ▸ h,hl⟩
 .exact ⟨xs,P.get q h1,Nat.le_trans h2 hB⟩
theorem li.keep (G:li σ τ gid bid ids own B at') (K:aB τ τ'):li σ τ' gid bid ids own B at' :=
 ⟨G.K.keep K,K.get rfl G.hg,K.get rfl G.hb,fun id hid=>let ⟨⟨xs,h1,h2⟩,h3⟩:=G.ho id hid; ⟨⟨xs,K.get rfl h1,h2⟩,h3⟩,G.gl⟩
end
set_option genCtorIdx false in
set_option genInjectivity false in
structure qn where
 o:Nat
 n:Int
 l:Int
 r:List Int
 lv:Int
noncomputable def gram0 (nid:Nat) (tc:Int) (rid lv:Nat) (st:Int) (r:List (Str × AV)):List (Str × AV):=("names", .obj nid) :: ("terminal_count", .int tc) :: ("rules", .obj rid) :: ("levels", .obj lv) :: ("expect", .none) :: ("start", .int st) :: r
inductive ug (τ:ac) (j:Nat) (a:List AV) (τ':ac):Prop
 | mk (ids:List Nat) (k:aB τ τ') (ha:a = ids.map AV.obj) (hl:ids.length = j) (h:∀ id ∈ ids,Has τ' id (.list [])/\τ.length ≤ id)
theorem fS {gid nid rid lv:Nat} {σ:ac} {xs:List AV} {rq:List qn} {tc st:Int} {Q:AV->ac->Prop} {X:Prop} (hg:Has σ gid (.inst "Grammar" [])) (hn:Has σ nid (.list xs)) (hr:Has σ rid (.list (rq.map fun q=>AV.obj q.o)))
  (hq:∀ q ∈ rq,Has σ q.o (.inst "Rule" (ruleAt q.n q.l q.r q.lv))/\0 ≤ q.l/\q.l < xs.length/\q.r.length ≤ 10) (hx:xs.length ≤ 100) (hrl:rq.length ≤ 100)
  (hQ:∀ a b c ic σ',But gid σ σ'->Has σ' gid (.inst "Grammar" (gram0 nid tc rid lv st [("by_left", .obj a),("offsets", .obj b),("owners", .obj c),("item_count", .int ic)]))->Q .none σ') :
  wp ((mach W 121).F "Grammar.__init__" 0 [.obj gid,.obj nid,.int tc,.obj rid,.obj lv,.none,.int st]) σ Q X:=by
 refine cL kS rfl ?_
 have hgl:=aN hg
 have hgn:nid ≠ gid:=by rintro rfl; exact nomatch Option.some.inj (hg.symm.trans hn)
 have hgr:rid ≠ gid:=by rintro rfl; exact nomatch Option.some.inj (hg.symm.trans hr)
 refine dW hg (by rfl) (Nat.zero_le _) ?_
 refine aV _ hgl (by rfl) (Nat.zero_le _) rfl ?_
 refine aV _ hgl (by rfl) (Nat.zero_le _) rfl ?_
 refine aV _ hgl (by rfl) (Nat.zero_le _) rfl ?_
 refine aV _ hgl (by rfl) (Nat.zero_le _) rfl ?_
 refine aV (gram0 nid tc rid lv st []) hgl (by rfl) (Nat.zero_le _) rfl ?_
 have b6:But gid σ (σ.set gid (.inst "Grammar" (gram0 nid tc rid lv st []))):=⟨by rw [List.length_set]; exact Nat.le_refl _,fun hj h=>lU hj h⟩
 have h6:Has (σ.set gid (.inst "Grammar" (gram0 nid tc rid lv st []))) gid (.inst "Grammar" (gram0 nid tc rid lv st [])):=be hg
 generalize σ.set gid (.inst "Grammar" (gram0 nid tc rid lv st [])) = τ at b6 h6
 refine ay h6 (by rfl) (by rfl) ?_
 refine si (xs:=xs) (bb:=true) (ug τ) (fun j a τ' R=>by obtain ⟨_,k⟩:=R; exact ar (k.get rfl (b6.get hgn hn))) (fitsLe (by omega)) rfl ⟨[],.refl,rfl,rfl,fun z0 h=>nomatch h⟩ ?_ ?_
 .rintro j y a τ' K' hy ⟨ids,k,rfl,hl,hi⟩ hK
  have hj:=(List.getElem?_eq_some_iff.mp hy).1
  refine ⟨by rw [List.length_map]; exact fitsLe (by omega),hK _ (τ' ++ [.list []]) ⟨ids ++ [τ'.length],k.trans (.app _),by rw [List.map_append]; rfl,by rw [List.length_append,hl]; rfl,fun id hid=>?_⟩⟩
  rcases List.mem_append.mp hid with hid | hid
  .exact ⟨ao (hi id hid).1,(hi id hid).2⟩
  .rw [List.mem_singleton.mp hid]; exact ⟨an,k.len⟩
 .rintro a τ' ⟨ids,k,rfl,hil,hi⟩
  refine aD (by omega) fun bid τ2 k2 hb hbz=>?_
  refine fK _ (k2.get rfl (k.get rfl h6)) (by rfl) (Nat.zero_le _) rfl fun τ3 h3 p3=>?_
  refine fK _ (ao h3) (by rfl) (Nat.zero_le _) rfl fun τ4 h4 p4=>?_
  refine fK (gram0 nid tc rid lv st [("by_left", .obj bid),("offsets", .obj τ3.length),("owners", .obj τ4.length)]) (ao h4) (by rfl) (Nat.zero_le _) (by rfl) fun τ5 h5 p5=>?_
  have hbl:=aN hb
  have hkl:=k.len
  have hbn:=b6.len
  have l3:=p3.len
  have l4:τ4.length = τ3.length + 1:=by rw [p4.len,List.length_append]; rfl
  have hup:∀ {j:Nat} {o:AO},j ≠ gid->Has τ2 j o->Has τ5 j o:=fun hj h=>p5.get hj (ao (p4.get hj (ao (p3.get hj h))))
  have I0:li σ τ5 gid bid ids (τ3.length :: τ4.length :: ids) (20 * 0) (gram0 nid tc rid lv st [("by_left", .obj bid),("offsets", .obj τ3.length),("owners", .obj τ4.length)]):=by
   refine ⟨((((b6.keep (k.trans k2)).self p3).keep (.app _)).self p4).keep (.app _) |>.self p5,h5,hup (by omega) hb,fun id hid=>?_,hgl⟩
   rcases List.mem_cons.mp hid with rfl | hid
   .exact ⟨⟨[],p5.get (by omega) (ao (p4.get (by omega) an)),Nat.le_refl _⟩,by omega,by omega⟩
   rcases List.mem_cons.mp hid with rfl | hid
   .exact ⟨⟨[],p5.get (by omega) an,Nat.le_refl _⟩,by omega,by omega⟩
   have hl:=aN (hi id hid).1
   have hz:=(hi id hid).2
   exact ⟨⟨[],hup (by omega) (k2.get rfl (hi id hid).1),Nat.le_refl _⟩,by omega,by omega⟩
  generalize τ3.length = oid at I0
  generalize τ4.length = wid at I0
  clear hup h5 p5 h4 p4 h3 p3 hb k2 k hi b6 h6 hbl hkl hbn l3 l4 hbz
  refine ay I0.hg (by rfl) (by rfl) ?_
  refine ba (γ:=Unit) (f:=fun q:qn=>AV.obj q.o) (ys:=rq) (bb:=true) (fun z0=>.put 0 (.obj gid) .nil) (fun j z0 τ=>li σ τ gid bid ids (oid :: wid :: ids) (20 * j) (gram0 nid tc rid lv st [("by_left", .obj bid),("offsets", .obj oid),("owners", .obj wid)])) (g0:=()) (fun j g τ I=>ar (I.K.get hgr hr)) (by omega) I0 ?_ ?_
  .rintro j q _ τ K' hqj I hK
   have hj:=(List.getElem?_eq_some_iff.mp hqj).1
   obtain ⟨ho,hl0,hl1,hr10⟩:=hq q (am hqj)
   have hgo:q.o ≠ gid:=by rintro e; rw [e] at ho; injection hg.symm.trans ho with k1; injection k1 with k2; exact absurd k2 (by decide)
   have hz:∀ j:Nat,(0:Nat) ≤ j:=Nat.zero_le
   refine ay I.hg (by rfl) (by rfl) ?_
   refine ay (I.K.get hgo ho) (by rfl) (by rfl) ?_
   have hil2:q.l.toNat < ids.length:=by omega
   refine aX I.hb (by omega) (by rw [List.getElem?_map,List.getElem?_eq_getElem hil2]; rfl) ?_
   have hm1:ids[q.l.toNat] ∈ oid :: wid :: ids:=.tail _ (.tail _ (List.getElem_mem hil2))
   generalize ids[q.l.toNat] = id1 at hm1
   obtain ⟨⟨ys,hy1,hy2⟩,_⟩:=I.ho id1 hm1
   refine bg hy1 (.inl rfl) ?_
   refine ay (I.K.get hgo ho) (by rfl) (by rfl) ?_
   refine bE hy1 (hz _) (by omega) fun τ1 h1 p1=>?_
   have I1:=I.put (B':=20 * j + 1) p1 hm1 h1 (by rw [List.length_append,List.length_singleton]; omega) (by omega)
   refine ay I1.hg (by rfl) (by rfl) ?_
   obtain ⟨⟨y2,hy3,hy4⟩,_⟩:=I1.ho oid (.head _)
   refine bg hy3 (.inl rfl) ?_
   refine ay I1.hg (by rfl) (by rfl) ?_
   obtain ⟨⟨y5,hy5,hy6⟩,_⟩:=I1.ho wid (.tail _ (.head _))
   refine bj (bJ hy5) (fitsLe (by omega)) ?_
   refine bE hy3 (hz _) (by omega) fun τ2 h2 p2=>?_
   have I2:=I1.put (B':=20 * j + 2) p2 (.head _) h2 (by rw [List.length_append,List.length_singleton]; omega) (by omega)
   refine ay I2.hg (by rfl) (by rfl) ?_
   obtain ⟨⟨y7,hy7,hy8⟩,_⟩:=I2.ho wid (.tail _ (.head _))
   refine bg hy7 (.inr (.inl rfl)) ?_
   refine ay (I2.K.get hgo ho) (by rfl) (by rfl) ?_
   refine ay (ao (I2.K.get hgo ho)) (by rfl) (by rfl) ?_
   refine bj dg (fitsLe (by omega)) ?_
   refine bp (aF (by omega)) ?_
   refine qA an (by omega) ?_
   refine qm (ao (ao hy7)) an (hz _) (by rw [List.length_replicate]; omega) fun τ3 h3 p3=>?_
   refine hK () τ3 ((I2.keep ((KP.app _).trans (.app _))).put (B':=20 * (j + 1)) p3 (.tail _ (.head _)) h3 ?_ (by omega))
   rw [List.length_append,List.length_replicate]; omega
  .rintro _ τ I
   refine ay I.hg (by rfl) (by rfl) ?_
   obtain ⟨⟨y5,hy5,hy6⟩,_⟩:=I.ho wid (.tail _ (.head _))
   refine bj (bJ hy5) (fitsLe (by omega)) ?_
   refine fK _ I.hg (by rfl) (Nat.zero_le _) rfl fun τ2 h2 p2=>hQ _ _ _ _ τ2 (I.K.self p2) h2
noncomputable def ownT:List Str:=["$end", "error", "$undefined"]
noncomputable def leftN:List Str:=["s", "t"]
noncomputable def partN:List Str:=["a", "b", "error"]
structure mD (σ:ac) (pid:Nat) (pq:List (Str × Nat × List Str)):Prop where
 hp:Has σ pid (.list (pq.map fun p=>AV.tup [.str p.1,.obj p.2.1]))
 hs:∀ p ∈ pq,Has σ p.2.1 (.list (p.2.2.map AV.str))
 few:pq.length ≤ 10
 left:∀ p ∈ pq,p.1 ∈ leftN
 part:∀ p ∈ pq,p.2.2.length ≤ 5/\∀ x ∈ p.2.2,x ∈ partN\/x ∈ pq.map (·.1)
noncomputable def nsOf (nt lf:List Str):List Str:=nt ++ [("$accept" : Str)] ++ lf
structure aL (ps:List (Str × List Str)) (nt lf:List Str):Prop where
 own:∃ ex:List Str,nt = ownT ++ ex/\(∀ x ∈ ex,x = "a" \/ x = "b")
 nd:(nsOf nt lf).Nodup
 tc:nt.length ≤ 5
 ln:lf.length ≤ 2
 lfN:∀ x ∈ lf,x ∈ leftN
 left:∀ p ∈ ps,p.1 ∈ lf
 lf2:∀ x ∈ lf,x ∈ ps.map (·.1)
 part:∀ p ∈ ps,∀ x ∈ p.2,x ∈ nt\/x ∈ lf
noncomputable def idxN (ns:List Str) (x:Str):Int:=(ns.idxOf x:Nat)
noncomputable def fst1 (s:Str):Str:=⟨(s.cps.toList.take 1).toArray⟩
theorem jr {s:Str} {σ:ac} {Q:AV->ac->Prop} {X:Prop} (hf:fits s.length = true) (h:Q (.str (fst1 s)) σ):wp (sliceTo (.str s) 1) σ Q X :=
 ag (al (by decide) (ag (al hf (au h))))
noncomputable def sins (x:Str) (d:List Str):List Str:=if x ∈ d then d else d ++ [x]
theorem qK {x:Str} {d:List Str} (h:x ∈ d):sins x d = d:=if_pos h
theorem oR {x:Str} {d:List Str} (h:x ∉ d):sins x d = d ++ [x]:=if_neg h
theorem mT {x y:Str} {r:List Str}:∃ r',sins x (y :: r) = y :: r':=by
 unfold sins
 split
 .exact ⟨r,rfl⟩
 .exact ⟨r ++ [x],rfl⟩
theorem rj:∀ x ∈ leftN,(x == ("error" : Str)) = false/\([("" : Str), "$", "'"].contains (fst1 x)) = false/\fits x.length = true/\x ≠ "$accept" := by decide
theorem mr:∀ x ∈ leftN ++ partN,([("" : Str), "$"].contains (fst1 x)) = false/\fits x.length = true/\x ≠ "$accept" /\ (x ∉ ownT->x ∉ leftN->x = "a" \/ x = "b"):=by decide
theorem cB {ys:List Str} {σ:ac} {j:Nat} {x:Str} {Q:Bool->ac->Prop} {X:Prop} (hj:Has σ j (.list (ys.map AV.str))) (h:Q (!decide (x ∈ ys)) σ):wp (cmpV .NotIn (.str x) (.obj j)) σ Q X:=by
 refine aE (a:=!decide (x ∈ ys)) (σ':=σ) ?_ h
 show (do let r <- cmpV.isIn (.str x) (.obj j); MM.pure (!r):MM Bool) σ = _
 have:cmpV.isIn (.str x) (.obj j) σ = .ok (ys.contains x) σ:=by
  unfold cmpV.isIn
  dsimp only
  rw [hj]
  dsimp only
  rw [dl]
 show (MM.bind _ _) σ = _
 unfold MM.bind
 rw [this,List.contains_eq_mem]; rfl
theorem fc {σ:ac} {i j:Nat} {xs ys:List AV} {Q:AV->ac->Prop} {X:Prop} (hi:Has σ i (.list xs)) (hj:Has σ j (.list ys)) (hl:xs.length + ys.length ≤ 1000000) (h:∀ i σ',aB σ σ'->Has σ' i (.list (xs ++ ys))->Q (.obj i) σ'):wp (binop .Add (.obj i) (.obj j)) σ Q X:=by
 show wp (do
  let xs <- getList (.obj i)
  let ys <- getList (.obj j)
  mkL (xs ++ ys)) σ Q X
 refine ag (aE (a:=xs) (σ':=σ) (by unfold getList; dsimp only; rw [hi]) ?_)
 refine ag (aE (a:=ys) (σ':=σ) (by unfold getList; dsimp only; rw [hj]) ?_)
 exact jl (by rw [List.length_append]; exact fitsLe hl) fun i σ' k hi z0=>h i σ' k hi
theorem fL {fz:Nat} {σ:ac} {j:Nat} {ys:List Str} {x:Str} {Q:AV->ac->Prop} {X:Prop} (hj:Has σ j (.list (ys.map AV.str))) (hx:x ∈ ys) (hl:ys.length ≤ 1000000) (h:Q (.int (idxN ys x)) σ):wp (listM fz (.obj j) "index" [.str x]) σ Q X:=by
 refine aE (a:=.int (ys.idxOf x:Nat)) (σ':=σ) ?_ h
 unfold listM
 dsimp only
 rw [hj]
 show (do let ys <- MM.opt (strsOf (ys.map AV.str)); MM.guard (ys.contains x && fits ys.length); MM.pure (.int (ys.idxOf x)):MM AV) σ = _
 rw [dl]
 show (do MM.guard (ys.contains x && fits ys.length); MM.pure (.int (ys.idxOf x)):MM AV) σ = _
 rw [List.contains_iff_mem.mpr hx,fitsLe hl]
 rfl
structure lh (pq:List (Str × Nat × List Str)) (j:Nat) (lf:List Str):Prop where
 nd:lf.Nodup
 len:lf.length ≤ j
 inn:∀ x ∈ lf,x ∈ pq.map (·.1)
 all:∀ p ∈ pq.take j,p.1 ∈ lf
 z:j = 0->lf = []
 nz:j ≠ 0->∃ p r r',pq = p :: r/\lf = p.1 :: r'
set_option tactic.hygienic true in
theorem lC {x:Str} {d:List Str} (h:d.Nodup):(sins x d).Nodup:=by
 unfold sins
 split
 .exact h
 .rename_i q
  rw [List.nodup_append]
  refine ⟨h,by simp,fun a ha b hb=>?_⟩
  rw [List.mem_singleton.mp hb]
  rintro rfl; exact q ha
set_option tactic.hygienic true in
theorem gf {x y:Str} {d:List Str}:y ∈ sins x d ↔ y ∈ d\/y = x:=by
 unfold sins
 split
 .rename_i q; exact ⟨.inl,fun h=>h.elim id fun e=>e ▸ q⟩
 .rw [List.mem_append,List.mem_singleton]
theorem lh.step {pq:List (Str × Nat × List Str)} {j:Nat} {lf:List Str} {p:Str × Nat × List Str} (L:lh pq j lf) (hp:pq[j]? = some p):lh pq (j + 1) (sins p.1 lf):=by
 refine ⟨lC L.nd,?_,fun x hx=>?_,fun q hq=>?_,(fun h=>nomatch h),fun z0=>?_⟩
 .have:=L.len
  unfold sins
  split
  .exact Nat.le_succ_of_le this
  .rw [List.length_append]; exact Nat.succ_le_succ this
 .rcases gf.mp hx with hx | rfl
  .exact L.inn x hx
  .exact List.mem_map.mpr ⟨p,am hp,rfl⟩
 .rw [az hp] at hq
  rcases List.mem_append.mp hq with hq | hq
  .exact gf.mpr (.inl (L.all q hq))
  .rw [List.mem_singleton.mp hq]; exact gf.mpr (.inr rfl)
 .by_cases hj:j = 0
  .subst hj
   cases pq with
   | nil=>exact nomatch hp
   | cons q r=>injection hp with hp; subst hp; rw [L.z rfl]; exact ⟨q,r,[],rfl,rfl⟩
  .obtain ⟨q,r,r',e,e2⟩:=L.nz hj
   obtain ⟨r2,e3⟩:=mT (x:=p.1) (y:=q.1) (r:=r')
   exact ⟨q,r,r2,e,e2 ▸ e3⟩
structure Exs (lf ps ex:List Str):Prop where
 nd:(ownT ++ ex).Nodup
 ab:∀ x ∈ ex,x = "a" \/ x = "b"
 all:∀ x ∈ ps,x ∈ ownT ++ ex\/x ∈ lf
section
variable {lf ps ex:List Str} {x:Str}
theorem Exs.skip (E:Exs lf ps ex) (h:x ∈ ownT ++ ex\/x ∈ lf):Exs lf (ps ++ [x]) ex:=⟨E.nd,E.ab,fun y hy=>by
 rcases List.mem_append.mp hy with hy | hy
 .exact E.all y hy
 .rw [List.mem_singleton.mp hy]; exact h⟩
theorem Exs.add (E:Exs lf ps ex) (hn:¬ x ∈ ownT ++ ex) (hx:x = "a" \/ x = "b"):Exs lf (ps ++ [x]) (ex ++ [x]):=by
 refine ⟨?_,fun y hy=>?_,fun y hy=>?_⟩
 .rw [<- List.append_assoc,List.nodup_append]
  refine ⟨E.nd,by simp,fun a ha b hb=>?_⟩
  rw [List.mem_singleton.mp hb]
  rintro rfl; exact hn ha
 .rcases List.mem_append.mp hy with hy | hy
  .exact E.ab y hy
  .rw [List.mem_singleton.mp hy]; exact hx
 .rw [<- List.append_assoc]
  rcases List.mem_append.mp hy with hy | hy
  .exact (E.all y hy).imp (fun h=>List.mem_append_left _ h) id
  .exact .inl (List.mem_append_right _ hy)
theorem Exs.len (E:Exs lf ps ex):ex.length ≤ 2:=(List.nodup_append.mp E.nd).2.1.length_le_of_subset (l₂:=[("a" : Str), "b"]) fun x hx=>by rcases E.ab x hx with rfl | rfl <;> simp
end
theorem pF {σ:ac} {pid:Nat} {pq:List (Str × Nat × List Str)} {lf ex:List Str} (P:mD σ pid pq) (L:lh pq pq.length lf) (E:Exs lf (pq.flatMap fun p=>p.2.2) ex):aL (pq.map fun p=>(p.1,p.2.2)) (ownT ++ ex) lf:=by
 have hlfN:∀ x ∈ lf,x ∈ leftN:=fun x hx=>by obtain ⟨p,hp,rfl⟩:=List.mem_map.mp (L.inn x hx); exact P.left p hp
 have hex2:=E.len
 have hall:=L.all
 rw [List.take_length] at hall
 refine ⟨⟨ex,rfl,E.ab⟩,?_,by rw [List.length_append]; show 3 + ex.length ≤ 5; omega,L.nd.length_le_of_subset (l₂:=leftN) hlfN,hlfN,fun p hp=>?_,fun x hx=>?_,fun p hp x hx=>?_⟩
 .unfold nsOf
  have hao:("$accept" : Str) ∉ ownT ++ ex:=fun h=>by
   rcases List.mem_append.mp h with h | h
   .exact absurd h (by decide)
   .exact absurd (E.ab _ h) (by decide)
  have hdis:∀ a ∈ ownT ++ ex,∀ b ∈ lf,a ≠ b:=fun a ha b hb e=>by
   subst e
   have hb':=hlfN a hb
   rcases List.mem_append.mp ha with ha | ha
   .exact (by decide:∀ x ∈ leftN,x ∈ ownT->False) a hb' ha
   .rcases E.ab a ha with rfl | rfl <;> exact absurd hb' (by decide)
  rw [List.nodup_append,List.nodup_append]
  refine ⟨⟨E.nd,by simp,fun a ha b hb=>?_⟩,L.nd,fun a ha b hb=>?_⟩
  .rw [List.mem_singleton.mp hb]; rintro rfl; exact hao ha
  .rcases List.mem_append.mp ha with ha | ha
   .exact hdis a ha b hb
   .rw [List.mem_singleton.mp ha]; rintro rfl; exact absurd (hlfN _ hb) (by decide)
 .obtain ⟨p',hp',rfl⟩:=List.mem_map.mp hp; exact hall p' hp'
 .rw [List.map_map]; exact L.inn x hx
 .obtain ⟨p',hp',rfl⟩:=List.mem_map.mp hp; exact E.all x (List.mem_flatMap.mpr ⟨p',hp',hx⟩)
inductive tP (σ:ac) (pq:List (Str × Nat × List Str)) (j:Nat) (σ':ac):Prop
 | mk (lf:List Str) (k:aB σ σ') (h:Has σ' σ.length (.list (lf.map AV.str))) (L:lh pq j lf)
inductive ExI (σ:ac) (nid:Nat) (lf ps:List Str) (σ':ac):Prop
 | mk (ex:List Str) (k:aB σ σ') (h:Has σ' nid (.list ((ownT ++ ex).map AV.str))) (E:Exs lf ps ex)
inductive ue (σ:ac) (rid:Nat) (tc:Int) (ns:List Str) (s0:Str) (pq:List (Str × Nat × List Str)) (j:Nat) (σ':ac):Prop
 | mk (rqs:List qn) (k:aB σ σ') (h:Has σ' rid (.list (rqs.map fun q=>AV.obj q.o))) (hl:rqs.length = j + 1) (ho:∀ q ∈ rqs,Has σ' q.o (.inst "Rule" (ruleAt q.n q.l q.r q.lv))) (he:rqs.map (fun q=>(q.l,q.r)) = (tc,[idxN ns s0,0]) :: (pq.take j).map (fun p=>(idxN ns p.1,p.2.2.map (idxN ns))))
theorem lA {pid:Nat} {σ:ac} {pq:List (Str × Nat × List Str)} {s0:Str} {Q:AV->ac->Prop} {X:Prop} (P:mD σ pid pq) (h0:∃ p r,pq = p :: r/\p.1 = s0)
  (hQ:∀ gid nid rid at' (nt lf:List Str) (rq:List (Nat × Int × List Int)) σ',aB σ σ'->aL (pq.map fun p=>(p.1,p.2.2)) nt lf->cg σ' gid nid rid at' ((nsOf nt lf).map AV.str) nt.length rq (idxN (nsOf nt lf) s0) ->
   rq.map (·.2) = ((nt.length:Int),[idxN (nsOf nt lf) s0,0]) :: pq.map (fun p=>(idxN (nsOf nt lf) p.1,p.2.2.map (idxN (nsOf nt lf))))->Q (.obj gid) σ') :
  wp ((mach W 124).F "plain_grammar" 0 [.obj pid]) σ Q X:=by
 refine cL (ys:=[.obj pid,.none]) rv rfl ?_
 have hfew:=P.few
 obtain ⟨p0,r0,hpq,hp0⟩:=h0
 have hpN:∀ p ∈ pq,∀ x ∈ p.2.2,x ∈ leftN ++ partN:=fun p hp x hx=>by
  rcases (P.part p hp).2 x hx with h | h
  .exact List.mem_append_right _ h
  .obtain ⟨p',hp',rfl⟩:=List.mem_map.mp h
   exact List.mem_append_left _ (P.left p' hp')
 refine ba (γ:=Unit) (f:=fun p:Str × Nat × List Str=>AV.tup [.str p.1,.obj p.2.1]) (ys:=pq) (bb:=true) (fun z0=>.put 0 (.obj pid) (.put 1 .none (.put 2 (.obj σ.length) .nil)))
  (fun j z0 σ'=>tP σ pq j σ') (g0:=()) (fun j g σ' R=>by obtain ⟨_,k⟩:=R; exact ar (k.get rfl P.hp)) (by omega) ⟨[],.app _,an,⟨List.nodup_nil,Nat.le_refl _,(fun z0 h=>no8 h),(fun z0 h=>no8 h),fun z0=>rfl,fun h=>absurd rfl h⟩⟩ ?_ ?_
 .rintro j p _ σ' K' hp ⟨lf,k,hl,L⟩ hK
  have hj:=(List.getElem?_eq_some_iff.mp hp).1
  have hpm:=am hp
  obtain ⟨ok1,ok2,ok3,ok4⟩:=rj _ (P.left p hpm)
  refine ifF ok1 ?_
  refine jr ok3 ?_
  refine ifF ok2 ?_
  refine oy (.put 0 (.obj pid) (.put 1 .none (.put 2 (.obj σ.length) (.put 4 (.obj p.2.1) .nil)))) (tP σ pq (j + 1)) (fun K2 hK2=>?_) ?_
  .refine cB hl ?_
   have hll:=L.len
   have Ls:=L.step hp
   refine ifn (fun hin=>?_) fun hin=>?_
   .refine bg hl (.inl rfl) ?_
    refine bE hl (Nat.zero_le _) (by rw [List.length_map]; omega) fun σ2 h2 p2=>hK2 σ2 ⟨_,k.put (Nat.le_refl _) p2,?_,Ls⟩
    rw [oR hin,List.map_append]; exact h2
   .exact hK2 σ' ⟨_,k,by rw [qK hin]; exact hl,Ls⟩
  .rintro σ2 ⟨lf,k,hl,L⟩
   refine ba (γ:=Unit) (f:=AV.str) (ys:=p.2.2) (bb:=true) (fun z0=>.put 0 (.obj pid) (.put 1 .none (.put 2 (.obj σ.length) .nil))) (fun z0 z0 σ3=>σ3 = σ2) (g0:=()) (fun i g σ3 h=>ar (h ▸ k.get rfl (P.hs p hpm))) (by have:=(P.part p hpm).1; omega) rfl ?_ ?_
   .rintro i x _ σ3 K3 hx rfl hK3
    obtain ⟨ok1,ok2,ok3,_⟩:=mr _ (hpN p hpm x (am hx))
    refine jr ok2 ?_
    exact ifF ok1 (hK3 () σ3 rfl)
   .rintro _ _ rfl
    exact hK () _ ⟨lf,k,hl,L⟩
 .rintro _ σ1 ⟨lf,k1,hl,L⟩
  obtain ⟨q0,r1,r2,e1,hlf⟩:=L.nz (by rw [hpq]; exact fun h=>nomatch h)
  have hq0:q0.1 = s0:=by rw [hpq] at e1; injection e1 with e1; rw [<- e1]; exact hp0
  rw [hq0] at hlf
  have hl0:(lf.map AV.str)[(0:Int).toNat]? = some (.str s0):=by rw [hlf]; rfl
  have hlm:s0 ∈ lf:=by rw [hlf]; exact .head _
  refine js (t:=false) (by unfold eqV; dsimp only; rw [ao hl,an]; dsimp only; unfold eqL; rw [if_pos (by rw [hlf]; simp)]) ?_
  refine aX (ao hl) (by decide) hl0 ?_
  refine cB (ao hl) ?_
  refine ifF (by rw [decide_eq_true hlm]; rfl) ?_
  refine lX (xs:=[.str "$end", .str "error", .str "$undefined"]) (by rfl) eT.1 (by rfl) ?_
  have k2:aB σ1 (σ1 ++ [AO.list []] ++ [AO.list [.str "$end", .str "error", .str "$undefined"]]):=(KP.app _).trans (.app _)
  have h2:Has (σ1 ++ [AO.list []] ++ [AO.list [.str "$end", .str "error", .str "$undefined"]]) (σ1 ++ [AO.list []]).length (.list ((ownT ++ []).map AV.str)):=an
  have hz:σ1.length ≤ (σ1 ++ [AO.list []]).length:=(KP.app (p:=allO) _).len
  generalize σ1 ++ [AO.list []] ++ [AO.list [.str "$end", .str "error", .str "$undefined"]] = σ2 at k2 h2
  generalize (σ1 ++ [AO.list []]).length = nid at h2 hz
  refine ba (γ:=Unit) (f:=fun p:Str × Nat × List Str=>AV.tup [.str p.1,.obj p.2.1]) (ys:=pq) (bb:=true) (fun z0=>.put 0 (.obj pid) (.put 2 (.obj σ.length) (.put 6 (.str s0) (.put 7 (.obj nid) .nil))))
   (fun j z0 σ'=>ExI σ1 nid lf ((pq.take j).flatMap fun p=>p.2.2) σ') (g0:=()) (fun j g σ' R=>by obtain ⟨_,k⟩:=R; exact ar (k.get rfl (k1.get rfl P.hp))) (by omega) ⟨[],k2,h2,⟨by decide,(fun z0 h=>no8 h),fun z0 h=>nomatch h⟩⟩ ?_ ?_
  .rintro j p _ σ3 K' hp ⟨ex,k3,h3,E⟩ hK
   have hpm:=am hp
   refine ba (γ:=Unit) (f:=AV.str) (ys:=p.2.2) (bb:=true) (fun z0=>.put 0 (.obj pid) (.put 2 (.obj σ.length) (.put 6 (.str s0) (.put 7 (.obj nid) .nil))))
    (fun i z0 σ'=>ExI σ1 nid lf (((pq.take j).flatMap fun p=>p.2.2) ++ p.2.2.take i) σ') (g0:=()) (fun i g σ' R=>by obtain ⟨_,k⟩:=R; exact ar (k.get rfl (k1.get rfl (P.hs p hpm)))) (by have:=(P.part p hpm).1; omega) ⟨ex,k3,h3,by rw [List.take_zero,List.append_nil]; exact E⟩ ?_ ?_
   .rintro i x _ σ4 K4 hx ⟨ex,k4,h4,E⟩ hK4
    have hst:((pq.take j).flatMap fun p=>p.2.2) ++ p.2.2.take (i + 1) = (((pq.take j).flatMap fun p=>p.2.2) ++ p.2.2.take i) ++ [x]:=by rw [az hx,List.append_assoc]
    refine cB (k4.get rfl hl) ?_
    refine ifn (fun hxl=>?_) fun hxl=>hK4 () σ4 ⟨ex,k4,h4,hst ▸ E.skip (.inr hxl)⟩
    refine cB h4 ?_
    refine ifn (fun hxn=>?_) fun hxn=>hK4 () σ4 ⟨ex,k4,h4,hst ▸ E.skip (.inl hxn)⟩
    refine bg h4 (.inl rfl) ?_
    have:=E.len
    refine bE h4 (Nat.zero_le _) (by rw [List.length_map,List.length_append]; show 3 + ex.length ≤ _; omega) fun σ5 h5 p5=>hK4 () σ5 ⟨ex ++ [x],k4.put hz p5,?_,hst ▸ E.add hxn ?_⟩
    .rw [<- List.append_assoc,List.map_append]; exact h5
    .rcases (P.part p hpm).2 x (am hx) with h | h
     .refine (mr x (List.mem_append_right _ h)).2.2.2 (fun h=>hxn (List.mem_append_left _ h)) fun h'=>?_
      revert h h'
      exact (by decide:∀ x ∈ partN,x ∈ leftN->False) x
     .obtain ⟨p',hp',rfl⟩:=List.mem_map.mp h
      have hall:=L.all
      rw [List.take_length] at hall
      exact absurd (hall p' hp') hxl
   .rintro _ σ4 ⟨ex,k4,h4,E⟩
    refine hK () σ4 ⟨ex,k4,h4,?_⟩
    rw [az hp,List.flatMap_append,List.flatMap_singleton]
    rw [List.take_length] at E
    exact E
  .rintro _ σ3 ⟨ex,k3,h3,E⟩
   rw [List.take_length] at E
   have NM:=pF P L E
   have hall:=L.all
   rw [List.take_length] at hall
   have hall3:∀ p ∈ pq,∀ x ∈ p.2.2,x ∈ ownT ++ ex\/x ∈ lf:=fun p hp x hx=>E.all x (List.mem_flatMap.mpr ⟨p,hp,hx⟩)
   have hntl:(ownT ++ ex).length ≤ 5:=NM.tc
   have hlf2:=NM.ln
   generalize hnt:ownT ++ ex = nt at NM h3 hall3 hntl
   clear E hnt ex
   have hl3:=k3.get rfl hl
   have k3:=k1.trans k3
   clear k1 k2 hl hz h2 hl0 hlf L
   refine bj (bJ h3) (by rw [List.length_map]; exact fitsLe (by omega)) ?_
   rw [List.length_map]
   refine fc (ao h3) an (by rw [List.length_map]; show nt.length + 1 ≤ _; omega) fun i4 σ4 k4 h4=>?_
   refine fc h4 (k4.get rfl (ao hl3)) (by rw [List.length_append,List.length_map,List.length_map]; show nt.length + 1 + lf.length ≤ _; omega) fun nid5 σ5 k5 h5=>?_
   have hns:Has σ5 nid5 (.list ((nsOf nt lf).map AV.str)):=by
    unfold nsOf; rw [List.map_append,List.map_append]; exact h5
   have k5:=k3.trans ((KP.app (.list [.str "$accept"])).trans (k4.trans k5))
   clear h4 h5 k4 hl3 h3
   have hsm:∀ x ∈ lf,x ∈ nsOf nt lf:=fun x hx=>List.mem_append_right _ hx
   have hpm:∀ p ∈ pq,∀ x ∈ p.2.2,x ∈ nsOf nt lf:=fun p hp x hx=>by
    rcases hall3 p hp x hx with h | h
    .exact List.mem_append_left _ (List.mem_append_left _ h)
    .exact hsm x h
   have hnsl:(nsOf nt lf).length = nt.length + 1 + lf.length:=by unfold nsOf; rw [List.length_append,List.length_append]; rfl
   generalize hnsx:nsOf nt lf = ns at hns hsm hpm hnsl
   have hidx:∀ x ∈ ns,0 ≤ idxN ns x/\idxN ns x < ns.length:=fun x hx=>⟨Int.natCast_nonneg _,by have:=List.idxOf_lt_length_of_mem hx; unfold idxN; omega⟩
   refine bg hns (.inr (.inr rfl)) ?_
   refine fL hns (hsm _ hlm) (by omega) ?_
   refine cR (r:=[idxN ns s0,0]) an (Nat.zero_le _) fun σ6 h6 p6=>⟨rfl,?_⟩
   have k6:aB σ5 σ6:=(KP.app (.inst "Rule" [])).put (Nat.le_refl _) p6
   refine ba (γ:=Unit) (f:=fun p:Str × Nat × List Str=>AV.tup [.str p.1,.obj p.2.1]) (ys:=pq) (bb:=true) (fun z0=>.put 6 (.str s0) (.put 7 (.obj nid5) (.put 8 (.int nt.length) (.put 9 (.obj σ6.length) .nil))))
    (fun j z0 σ'=>ue σ5 σ6.length nt.length ns s0 pq j σ') (g0:=()) (fun j g σ' R=>by obtain ⟨_,k⟩:=R; exact ar (k.get rfl (k5.get rfl P.hp))) (by omega) ⟨[⟨σ5.length,0,nt.length,[idxN ns s0,0],0⟩],k6.trans (.app _),an,rfl,fun q hq=>by rw [List.mem_singleton.mp hq]; exact ao h6,rfl⟩ ?_ ?_
   .rintro j p _ σ7 K' hp ⟨rqs,k7,hrq,hrql,hrqo,hrqe⟩ hK
    have hj:=(List.getElem?_eq_some_iff.mp hp).1
    have hpm':=am hp
    obtain ⟨hp5,_⟩:=P.part p hpm'
    refine fg (f:=AV.str) (ys:=p.2.2) (fun x=>.int (idxN ns x)) (bn (k7.get rfl (k5.get rfl (P.hs p hpm')))) (by omega) rfl (fun x hx σ8 K8 k8 hK8=>?_) fun σ8 k8=>?_
    .refine bg (k8.get rfl (k7.get rfl hns)) (.inr (.inr rfl)) ?_
     exact fL (k8.get rfl (k7.get rfl hns)) (hpm p hpm' x hx) (by omega) (hK8 _ .refl)
    refine aD (by omega) fun i9 σ9 k9 h9 z0=>?_
    have k9:=k8.trans k9
    refine jh h9 (by rw [List.length_map]; exact fitsLe (by omega)) ?_
    have hwe:AV.tup (p.2.2.map fun x=>AV.int (idxN ns x)) = wordV (p.2.2.map (idxN ns)):=by unfold wordV; rw [List.map_map]; rfl
    rw [hwe]
    refine bg (k9.get rfl hrq) (.inl rfl) ?_
    refine bj (bJ (k9.get rfl hrq)) (by rw [List.length_map]; exact fitsLe (by omega)) ?_
    refine bg (k9.get rfl (k7.get rfl hns)) (.inr (.inr rfl)) ?_
    refine fL (k9.get rfl (k7.get rfl hns)) (hsm _ (hall p hpm')) (by omega) ?_
    refine mS (by rw [List.length_map]; omega) ?_
    refine cR an (Nat.zero_le _) fun σa ha pa=>⟨rfl,?_⟩
    have ka:aB σ7 σa:=(k9.trans (KP.app (.inst "Rule" []))).put k9.len pa
    refine bE (ka.get rfl hrq) (Nat.zero_le _) (by rw [List.length_map]; omega) fun σb hb pb=>hK () σb ⟨rqs ++ [⟨_,((rqs.map fun q=>AV.obj q.o).length:Nat),idxN ns p.1,p.2.2.map (idxN ns),lastT nt.length (p.2.2.map (idxN ns))⟩],(k7.trans ka).put k6.len pb,by rw [List.map_append]; exact hb,by rw [List.length_append,hrql]; rfl,fun q hq=>?_,by rw [List.map_append,hrqe,az hp,List.map_append]; rfl⟩
    have hne:∀ {i:Nat} {c:Str} {at':List (Str × AV)},Has σa i (.inst c at')->i ≠ σ6.length:=fun h e=>by
     subst e
     exact nomatch Option.some.inj (h.symm.trans (ka.get rfl hrq))
    rcases List.mem_append.mp hq with hq | hq
    .have h1:=ka.get rfl (hrqo q hq)
     exact pb.get (hne h1) h1
    .rw [List.mem_singleton.mp hq]
     exact pb.get (hne ha) ha
   .rintro _ σ7 ⟨rqs,k7,hrq,hrql,hrqo,hrqe⟩
    rw [List.take_length] at hrqe
    have hn7:=k7.get rfl hns
    have k7:=k5.trans k7
    clear k5 k6 k3 hns h6 p6
    refine bg (ao hn7) (.inr (.inr rfl)) ?_
    refine fL (ao hn7) (hsm _ hlm) (by omega) ?_
    have hqo:∀ q ∈ rqs,0 ≤ q.l/\q.l < ns.length/\q.r.length ≤ 10/\∀ s ∈ q.r,0 ≤ s/\s < ns.length:=fun q hq=>by
     have:(q.l,q.r) ∈ ((nt.length:Int),[idxN ns s0,0]) :: pq.map (fun p=>(idxN ns p.1,p.2.2.map (idxN ns))):=by rw [<- hrqe]; exact List.mem_map.mpr ⟨q,hq,rfl⟩
     rcases List.mem_cons.mp this with h | h
     .injection h with h1 h2
      rw [h1,h2]
      refine ⟨by omega,by omega,Nat.le_of_ble_eq_true rfl,fun s hs=>?_⟩
      rcases List.mem_cons.mp hs with rfl | hs
      .exact hidx _ (hsm _ hlm)
      .rw [List.mem_singleton.mp hs]; omega
     .obtain ⟨p,hp,e⟩:=List.mem_map.mp h
      injection e with e1 e2
      rw [<- e1,<- e2]
      refine ⟨(hidx _ (hsm _ (hall p hp))).1,(hidx _ (hsm _ (hall p hp))).2,by rw [List.length_map]; have:=(P.part p hp).1; omega,fun s hs=>?_⟩
      obtain ⟨x,hx,rfl⟩:=List.mem_map.mp hs
      exact hidx _ (hpm p hp x hx)
    refine fS (xs:=ns.map AV.str) (rq:=rqs) an (ao (ao hn7)) (ao (ao hrq)) (fun q hq=>⟨ao (ao (hrqo q hq)),(hqo q hq).1,by rw [List.length_map]; exact (hqo q hq).2.1,(hqo q hq).2.2.1⟩) (by rw [List.length_map]; omega) (by omega) fun a b c ic σ9 B9 h9=>⟨rfl,?_⟩
    have k9:aB σ7 σ9:=⟨by have:=B9.len; rw [List.length_append,List.length_append] at this; omega,fun z0 hi=>B9.get (Nat.ne_of_lt (Nat.lt_of_lt_of_le (aN hi) (KP.app (p:=allO) _).len)) (ao (ao hi))⟩
    subst hnsx
    refine hQ _ nid5 _ _ nt lf (rqs.map fun q=>(q.o,q.l,q.r)) σ9 (k7.trans k9) NM ⟨h9,by rfl,k9.get rfl hn7,by rfl,by rfl,by rw [List.map_map]; exact k9.get rfl hrq,by rfl,fun x hx=>?_,?_,by rw [List.length_map]; omega,by omega,by rw [List.length_map]; omega,by rw [List.length_map]; omega,fun x hx=>?_,fun x hx=>?_⟩ (by rw [List.map_map]; exact hrqe)
    .obtain ⟨q,hq,rfl⟩:=List.mem_map.mp hx
     exact ⟨_,k9.get rfl (hrqo q hq),by rfl,by rfl⟩
    .intro m hm
     simp only [grammarMs,List.mem_cons,List.not_mem_nil,or_false] at hm
     rcases hm with rfl | rfl | rfl <;> rfl
    .obtain ⟨q,hq,rfl⟩:=List.mem_map.mp hx
     rw [List.length_map]
     exact ⟨(hqo q hq).1,(hqo q hq).2.1⟩
    .obtain ⟨q,hq,rfl⟩:=List.mem_map.mp hx
     rw [List.length_map]
     exact (hqo q hq).2.2
theorem cp {x y:Str} {v:AV} {l:List (Str × AV)}:((x,v) :: l).lookup y = if y = x then some v else l.lookup y:=by
 rw [List.lookup_cons]
 by_cases h:y = x
 .subst h; rw [if_pos rfl,beq_self_eq_true]
 .rw [if_neg h,beq_eq_false_iff_ne.mpr h]
noncomputable def rowV (r:List Str):AV:=.tup (r.map AV.str)
theorem sy (r:List Str):rowOf (rowV r) = some r:=dl r
theorem qY (rs:List (List Str)):rowsOf (rs.map rowV) = some rs:=ei sy rs
theorem fC {i:Nat} {es:List (Str × AV)} {x:Str} {v:AV} {σ:ac} {X:Prop} {Q:AV->ac->Prop} (hi:σ[i]? = some (.sdict es)) (hv:es.lookup x = some v) (h:Q v σ):wp (subscr (.obj i) (.str x)) σ Q X:=by
 refine aE (a:=v) (σ':=σ) ?_ h
 unfold subscr
 dsimp only
 rw [hi]
 dsimp only
 rw [hv]
theorem mw {σ:ac} {r:List Str}:lenV (rowV r) σ = .ok r.length σ:=by show Out.ok (r.map AV.str).length σ = _; rw [List.length_map]
theorem ql {σ:ac} {u v:List Str} {X:Prop} {Q:AV->ac->Prop} (hl:u.length + v.length ≤ 1000000) (h:Q (rowV (u ++ v)) σ):wp (binop .Add (rowV u) (rowV v)) σ Q X:=by
 refine ll (by rw [List.length_append,List.length_map,List.length_map]; exact fitsLe hl) ?_
 rw [<- List.map_append]; exact h
theorem jA (es:List (Str × Nat)):strPairs (es.map fun e=>AV.tup [.str e.1,.obj e.2]) = some (es.map fun e=>(e.1,AV.obj e.2)):=mv (f:=strPair) (g:=fun e:Str × Nat=>AV.tup [.str e.1,.obj e.2]) (k:=fun e=>(e.1,AV.obj e.2)) (fun z0=>rfl) es
set_option tactic.hygienic true in
theorem eQ {x y:Str} {v:AV}:∀ {d:List (Str × AV)},(sset x v d).lookup y = if y = x then some v else d.lookup y
 | []=>by unfold sset; rw [cp]
 | (z,u) :: r=>by
  unfold sset
  split
  .rename_i q
   rw [cp,cp,q]
   split <;> rfl
  .rename_i q
   rw [cp,cp,eQ]
   by_cases h:y = z
   .rw [if_pos h,if_pos h,if_neg (by rw [h]; exact q)]
   .rw [if_neg h,if_neg h]
set_option tactic.hygienic true in
theorem eR {es:List (Str × Nat)} {x:Str}:∀ {d:List (Str × AV)} {v:AV},(es.foldl (fun d e=>sset e.1 (.obj e.2) d) d).lookup x = some v->d.lookup x = some v\/∃ i,v = .obj i/\(x,i) ∈ es:=by
 induction es with
 | nil=>exact fun h=>.inl h
 | cons e es ih =>
  intro d v h
  rcases ih h with h | ⟨i,h1,h2⟩
  .rw [eQ] at h
   split at h
   .rename_i q
    injection h with h
    exact .inr ⟨e.2,h.symm,by rw [q]; exact .head _⟩
   .exact .inl h
  .exact .inr ⟨i,h1,.tail _ h2⟩
theorem gj {es:List (Str × Nat)} {x:Str}:∀ {d:List (Str × AV)},x ∈ es.map (·.1)\/(d.lookup x).isSome = true->((es.foldl (fun d e=>sset e.1 (.obj e.2) d) d).lookup x).isSome = true:=by
 induction es with
 | nil=>exact fun h=>h.elim (fun h=>by contradiction) id
 | cons e es ih =>
  intro d h
  refine ih ?_
  rw [eQ]
  rcases h with h | h
  .rcases List.mem_cons.mp h with h | h
   .right; rw [if_pos h]; rfl
   .exact .inl h
  .right
   split
   .rfl
   .exact h
theorem gW {α β:Type} {g:α->β} {l:List α} (h:(l.map g).Nodup) {a b:α} (ha:a ∈ l) (hb:b ∈ l) (e:g a = g b):a = b:=by
 induction l with
 | nil=>cases ha
 | cons x l ih =>
  rw [List.map_cons,List.nodup_cons] at h
  rcases List.mem_cons.mp ha with qa | qa
  .rcases List.mem_cons.mp hb with qb | qb
   .exact qa.trans qb.symm
   .exact absurd (List.mem_map.mpr ⟨b,qb,by rw [<- e,qa]⟩ : g x ∈ l.map g) h.1
  .rcases List.mem_cons.mp hb with qb | qb
   .exact absurd (List.mem_map.mpr ⟨a,qa,by rw [e,qb]⟩ : g x ∈ l.map g) h.1
   .exact ih h.2 qa qb
noncomputable def baseS (tl:List Str) (L:Int) (s:Str) (w:List Str):Prop:=(s ∈ tl/\s ≠ "error" /\ 0 < L)/\w = [s]
noncomputable def putS (f:Str->List (List Str)) (l:Str) (ws:List (List Str)):Str->List (List Str):=fun i=>if i = l then ws else f i
theorem ik {f:Str->List (List Str)} {l:Str} {ws:List (List Str)}:putS f l ws l = ws:=if_pos rfl
theorem iR {f:Str->List (List Str)} {l i:Str} {ws:List (List Str)} (h:i ≠ l):putS f l ws i = f i:=if_neg h
noncomputable def cntS (f:Str->List (List Str)) (N:List Str):Nat:=(N.map fun x=>(f x).length).sum
theorem rA {f:Str->List (List Str)} {N:List Str} {B:Nat} (h:∀ x,(f x).length ≤ B):cntS f N ≤ B * N.length:=by
 unfold cntS
 induction N with
 | nil=>exact Nat.zero_le _
 | cons x N ih=>have:=h x; rw [List.map_cons,List.sum_cons,List.length_cons,Nat.mul_succ]; omega
theorem qe {f:Str->List (List Str)} {N:List Str} {l:Str} {w:List Str} (hn:N.Nodup) (hl:l ∈ N):cntS (putS f l (f l ++ [w])) N = cntS f N + 1:=by
 unfold cntS
 induction N with
 | nil=>cases hl
 | cons x N ih =>
  rw [List.map_cons,List.map_cons,List.sum_cons,List.sum_cons]
  obtain ⟨h1,h2⟩:=List.nodup_cons.mp hn
  by_cases q:x = l
  .subst q
   rw [ik,List.map_congr_left (g:=fun x=>(f x).length) fun y hy=>by rw [iR (by rintro rfl; exact h1 hy)]]
   simp; omega
  .rw [iR q]
   have:=ih h2 (by rcases List.mem_cons.mp hl with h | h; exact absurd h.symm q; exact h)
   omega
structure jm (tl:List Str) (L:Int) (ps:List (Str × List Str)) (f:Str->List (List Str)):Prop where
 nd:∀ s,(f s).Nodup
 sub:∀ s w,w ∈ f s->Lfp (baseS tl L) ps L s w
 base:∀ s w,baseS tl L s w->w ∈ f s
theorem lM {σ:ac} {j:Nat} {r:List Str} {rs:List (List Str)} {Q:Bool->ac->Prop} {X:Prop} (hj:Has σ j (.list (rs.map rowV))) (h:Q (!decide (r ∈ rs)) σ):wp (cmpV .NotIn (rowV r) (.obj j)) σ Q X:=by
 refine aE (a:=!decide (r ∈ rs)) (σ':=σ) ?_ h
 show (do let r <- cmpV.isIn (rowV r) (.obj j); MM.pure (!r):MM Bool) σ = _
 have:cmpV.isIn (rowV r) (.obj j) σ = .ok (rs.contains r) σ:=by
  unfold cmpV.isIn rowV
  dsimp only
  rw [hj]
  dsimp only
  rw [dl,show rowsOf (rs.map rowV) = some rs from qY rs]
 show (MM.bind _ _) σ = _
 unfold MM.bind
 rw [this,List.contains_eq_mem]; rfl
theorem rJ {σ:ac} {X:Prop} {Q:AV->ac->Prop} {i:Nat} {es:List (Str × Nat)} (e:Has σ i (.list (es.map fun e=>AV.tup [.str e.1,.obj e.2]))) (hne:es ≠ []) (hl:es.length ≤ 1000000) (h:Q (.obj σ.length) (σ ++ [.sdict (es.foldl (fun d e=>sset e.1 (.obj e.2) d) [])])):wp (bltV "dict" [.obj i]) σ Q X:=by
 unfold bltV
 show wp (do
   let xs <- getList (.obj i)
   MM.guard (fits xs.length)
   match wordPairs xs with
   | some ws=>alloc (.wset (ws.foldl (fun d w=>winsert w d) []))
   | Option.none=>do
    let es <- MM.opt (strPairs xs)
    alloc (.sdict (es.foldl (fun d e=>sset e.1 e.2 d) []))) σ Q X
 refine ag (aE (a:=es.map fun e=>AV.tup [.str e.1,.obj e.2]) (σ':=σ) (by unfold getList; dsimp only; rw [e]) ?_)
 refine ag (al (by rw [List.length_map]; exact fitsLe hl) ?_)
 have hw:wordPairs (es.map fun e=>AV.tup [.str e.1,.obj e.2]) = Option.none:=by
  induction es using List.casesOn with
  | nil=>exact absurd rfl hne
  | cons e es=>rfl
 rw [hw]
 refine ag (cr (jA es) (dX ?_))
 rw [List.foldl_map]
 exact h
structure DSt (σ0 σ:ac) (did:Nat) (N:List Str) (es:List (Str × AV)) (f:Str->List (List Str)):Prop where
 K:aB σ0 σ
 hd:Has σ did (.sdict es)
 at':∀ x ∈ N,∃ id,es.lookup x = some (.obj id)/\Has σ id (.list ((f x).map rowV))/\σ0.length ≤ id
 inj:∀ x y id,es.lookup x = some (.obj id)->es.lookup y = some (.obj id)->x = y
section
variable {σ0 σ τ:ac} {did id:Nat} {N:List Str} {es:List (Str × AV)} {f:Str->List (List Str)}
theorem DSt.keep (S:DSt σ0 σ did N es f) (K:aB σ τ):DSt σ0 τ did N es f :=
 ⟨S.K.trans K,K.get rfl S.hd,fun x hx=>let ⟨i,h1,h2,h3⟩:=S.at' x hx; ⟨i,h1,K.get rfl h2,h3⟩,S.inj⟩
theorem DSt.put {l:Str} {ws:List (List Str)} {xs:List AV} (S:DSt σ0 σ did N es f) (hl:es.lookup l = some (.obj id)) (hi:Has σ id (.list xs)) (hg:σ0.length ≤ id) (P:Put id σ τ) (h:Has τ id (.list (ws.map rowV))):DSt σ0 τ did N es (putS f l ws):=by
 refine ⟨S.K.put hg P,P.get ?_ S.hd,fun x hx=>?_,S.inj⟩
 .rintro rfl
  exact nomatch Option.some.inj (hi.symm.trans S.hd)
 .obtain ⟨i,h1,h2,h3⟩:=S.at' x hx
  by_cases q:x = l
  .subst q
   rw [hl] at h1
   injection h1 with h1
   injection h1 with h1
   subst h1
   exact ⟨id,hl,by rw [ik]; exact h,h3⟩
  .refine ⟨i,h1,?_,h3⟩
   rw [iR q]
   refine P.get ?_ h2
   rintro rfl
   exact q (S.inj x l i h1 hl)
end
structure dw (σ1 σ':ac) (f0:Str->List (List Str)) (xs:List Str) (es:List (Str × Nat)):Prop where
 fst:es.map (·.1) = xs
 nd:(es.map (·.2)).Nodup
 at':∀ e ∈ es,σ1.length ≤ e.2/\Has σ' e.2 (.list ((f0 e.1).map rowV))
 K:aB σ1 σ'
section
variable {σ1 σ2 σ':ac} {f0:Str->List (List Str)} {xs:List Str} {es:List (Str × Nat)}
theorem dw.step (E:dw σ1 σ' f0 xs es) (x:Str):dw σ1 (σ' ++ [.list ((f0 x).map rowV)]) f0 (xs ++ [x]) (es ++ [(x,σ'.length)]):=by
 refine ⟨by rw [List.map_append,E.fst]; rfl,?_,fun e he=>?_,E.K.trans (.app _)⟩
 .rw [List.map_append,List.nodup_append]
  refine ⟨E.nd,by simp,fun a ha b hb=>?_⟩
  obtain ⟨e,he,rfl⟩:=List.mem_map.mp ha
  have:=aN (E.at' e he).2
  rw [List.mem_singleton.mp hb]
  show e.2 ≠ σ'.length
  omega
 .rcases List.mem_append.mp he with he | he
  .exact ⟨(E.at' e he).1,ao (E.at' e he).2⟩
  .rw [List.mem_singleton.mp he]
   exact ⟨E.K.len,an⟩
theorem dw.keep (E:dw σ1 σ' f0 xs es) (k:aB σ' σ2):dw σ1 σ2 f0 xs es:=⟨E.fst,E.nd,fun e he=>⟨(E.at' e he).1,k.get rfl (E.at' e he).2⟩,E.K.trans k⟩
theorem dw.app {ys:List Str} {es2:List (Str × Nat)} (E:dw σ1 σ' f0 xs es) (E2:dw σ' σ2 f0 ys es2):dw σ1 σ2 f0 (xs ++ ys) (es ++ es2):=by
 refine ⟨by rw [List.map_append,E.fst,E2.fst],?_,fun e he=>?_,E.K.trans E2.K⟩
 .rw [List.map_append,List.nodup_append]
  refine ⟨E.nd,E2.nd,fun a ha b hb=>?_⟩
  obtain ⟨e,he,rfl⟩:=List.mem_map.mp ha
  obtain ⟨e',he',rfl⟩:=List.mem_map.mp hb
  have:=aN (E.at' e he).2
  have:=(E2.at' e' he').1
  show e.2 ≠ e'.2
  omega
 .rcases List.mem_append.mp he with he | he
  .exact ⟨(E.at' e he).1,E2.K.get rfl (E.at' e he).2⟩
  .exact ⟨Nat.le_trans E.K.len (E2.at' e he).1,(E2.at' e he).2⟩
theorem dw.dst {N:List Str} (E:dw σ1 σ' f0 xs es) (hN:∀ x ∈ N,x ∈ xs):DSt σ1 (σ' ++ [.sdict (es.foldl (fun d e=>sset e.1 (.obj e.2) d) [])]) σ'.length N (es.foldl (fun d e=>sset e.1 (.obj e.2) d) []) f0:=by
 refine ⟨E.K.trans (.app _),an,fun x hx=>?_,fun x y id h1 h2=>?_⟩
 .obtain ⟨v,hv⟩:=Option.isSome_iff_exists.mp (gj (es:=es) (d:=[]) (.inl (E.fst ▸ hN x hx)))
  rcases eR hv with h | ⟨i,rfl,h⟩
  .exact nomatch h
  .exact ⟨i,hv,ao (E.at' _ h).2,(E.at' _ h).1⟩
 .rcases eR h1 with h | ⟨i,e1,h3⟩
  .exact nomatch h
  rcases eR h2 with h | ⟨j,e2,h4⟩
  .exact nomatch h
  injection e1 with e1
  injection e2 with e2
  exact congrArg Prod.fst (gW E.nd h3 h4 (e1.symm.trans e2))
theorem dw.len (E:dw σ1 σ' f0 xs es):es.length = xs.length:=by rw [<- E.fst,List.length_map]
end
noncomputable def f0S (tl:List Str) (L:Int) (x:Str):List (List Str):=if x ∈ tl/\x ≠ "error" /\ 0 < L then [[x]] else []
noncomputable def mB (L:Int) (f:Str->List (List Str)) (p:Str × Nat × List Str):Prop:=∀ w,dU (fun s w=>w ∈ f s) p.2.2 w->(w.length:Int) ≤ L->w ∈ f p.1
section
variable {tl:List Str} {L:Int} {ps:List (Str × List Str)} {f:Str->List (List Str)}
set_option tactic.hygienic true in
theorem wayS0:jm tl L ps (f0S tl L):=by
 refine ⟨fun s=>?_,fun s w hw=>?_,fun s w hb=>?_⟩
 .unfold f0S; split <;> simp
 .unfold f0S at hw
  split at hw
  .rename_i q
   rw [List.mem_singleton.mp hw]
   exact Lfp.clo.base s _ ⟨q,rfl⟩
  .exact nomatch hw
 .unfold f0S; rw [if_pos hb.1,hb.2]; exact .head _
set_option tactic.hygienic true in
theorem jm.add {l:Str} {r:List Str} (W:jm tl L ps f) (hin:¬ r ∈ f l) (hL:Lfp (baseS tl L) ps L l r):jm tl L ps (putS f l (f l ++ [r])):=by
 refine ⟨fun s=>?_,fun s u hu=>?_,fun s u hu=>?_⟩
 .unfold putS; split
  .rw [List.nodup_append]
   refine ⟨W.nd _,by simp,fun a ha b hb=>?_⟩
   rw [List.mem_singleton.mp hb]
   rintro rfl; exact hin ha
  .exact W.nd _
 .unfold putS at hu; split at hu
  .rename_i e
   rw [e]
   rcases List.mem_append.mp hu with hu | hu
   .exact W.sub _ _ hu
   .rw [List.mem_singleton.mp hu]; exact hL
  .exact W.sub _ _ hu
 .have:=W.base s u hu
  unfold putS; split
  .rename_i e; rw [e] at this; exact List.mem_append_left _ this
  .exact this
theorem nC {pq:List (Str × Nat × List Str)} (W:jm tl L (pq.map fun p=>(p.1,p.2.2)) f) (h:∀ q ∈ pq,mB L f q) (s:Str) (w:List Str):w ∈ f s ↔ Lfp (baseS tl L) (pq.map fun p=>(p.1,p.2.2)) L s w:=by
 refine ⟨W.sub s w,fun hl=>hl (fun s w=>w ∈ f s) ⟨W.base,fun r hr w h1 h2=>?_⟩⟩
 obtain ⟨q,hq,rfl⟩:=List.mem_map.mp hr
 exact h q hq w h1 h2
end
inductive EI (σ1:ac) (f0:Str->List (List Str)) (xs:List Str) (j:Nat) (a:List AV) (σ':ac):Prop
 | mk (es:List (Str × Nat)) (ha:a = es.map fun e=>AV.tup [.str e.1,.obj e.2]) (E:dw σ1 σ' f0 (xs.take j) es)
theorem EI.step {σ1 σ':ac} {f0:Str->List (List Str)} {xs:List Str} {es:List (Str × Nat)} {j:Nat} {x:Str} {rs:List (List Str)} (E:dw σ1 σ' f0 (xs.take j) es) (hx:xs[j]? = some x) (hr:f0 x = rs):EI σ1 f0 xs (j + 1) (es.map (fun e=>AV.tup [.str e.1,.obj e.2]) ++ [AV.tup [.str x,.obj σ'.length]]) (σ' ++ [.list (rs.map rowV)]) :=
 ⟨es ++ [(x,σ'.length)],by rw [List.map_append]; rfl,by rw [az hx,<- hr]; exact E.step x⟩
inductive ua (tl:List Str) (L:Int) (pq:List (Str × Nat × List Str)) (N:List Str) (σ:ac) (did:Nat) (ds:List (Str × AV)) (m:Nat) (g:Bool) (σ':ac):Prop
 | mk (f:Str->List (List Str)) (S:DSt σ σ' did N ds f) (W:jm tl L (pq.map fun p=>(p.1,p.2.2)) f) (h0:g = false->∀ p ∈ pq,mB L f p) (h1:g = true->m = 40 * N.length - cntS f N + 1)
inductive ub (tl:List Str) (L:Int) (pq:List (Str × Nat × List Str)) (N:List Str) (σ:ac) (did:Nat) (ds:List (Str × AV)) (f:Str->List (List Str)) (j:Nat) (g:Bool) (σ':ac):Prop
 | mk (f1:Str->List (List Str)) (S:DSt σ σ' did N ds f1) (W:jm tl L (pq.map fun p=>(p.1,p.2.2)) f1) (h0:g = false->f1 = f/\∀ p ∈ pq.take j,mB L f p) (h1:g = true->cntS f N < cntS f1 N)
inductive uc (tl:List Str) (L:Int) (pq:List (Str × Nat × List Str)) (N:List Str) (σ:ac) (did:Nat) (ds:List (Str × AV)) (f:Str->List (List Str)) (P:Prop) (l:Str) (rid:Nat) (R:List (List Str)) (m:Nat) (g:Bool) (σ':ac):Prop
 | mk (f2:Str->List (List Str)) (S:DSt σ σ' did N ds f2) (hr:Has σ' rid (.list (R.map rowV))) (W:jm tl L (pq.map fun p=>(p.1,p.2.2)) f2) (h0:g = false->f2 = f/\P/\∀ w ∈ R.take m,w ∈ f l) (h1:g = true->cntS f N < cntS f2 N)
inductive uf (σ:ac) (f1:Str->List (List Str)) (xs:List Str) (L:Int) (i rid:Nat) (σ':ac):Prop
 | mk (R:List (List Str)) (k:aB σ σ') (hz:σ.length ≤ rid) (h:Has σ' rid (.list (R.map rowV))) (hl:R.length ≤ 40 ^ i) (hm:∀ r,r ∈ R ↔ Cat ((xs.take i).map f1) r/\(r.length:Int) ≤ L)
theorem nD {R A:List (List Str)} {P:List (List (List Str))} {L:Int} (hm:∀ r,r ∈ R ↔ Cat P r/\(r.length:Int) ≤ L) (r:List Str):r ∈ (R.flatMap fun u=>(A.filter fun v=>decide ((u.length:Int) + v.length ≤ L)).map (u ++ ·)) ↔ Cat (P ++ [A]) r/\(r.length:Int) ≤ L:=by
 rw [List.mem_flatMap]
 constructor
 .rintro ⟨u,hu,h⟩
  obtain ⟨v,hv,rfl⟩:=List.mem_map.mp h
  rw [List.mem_filter,decide_eq_true_eq] at hv
  exact ⟨er.mpr ⟨u,v,((hm u).mp hu).1,hv.1,rfl⟩,by rw [List.length_append]; omega⟩
 .rintro ⟨h1,h2⟩
  obtain ⟨u,v,hu,hv,rfl⟩:=er.mp h1
  rw [List.length_append] at h2
  exact ⟨u,(hm u).mpr ⟨hu,by omega⟩,List.mem_map.mpr ⟨v,List.mem_filter.mpr ⟨hv,decide_eq_true (by omega)⟩,rfl⟩⟩
theorem lz {pid tid:Nat} {σ:ac} {pq:List (Str × Nat × List Str)} {tl N:List Str} {L:Int} {Q:AV->ac->Prop} {X:Prop}
  (hp:Has σ pid (.list (pq.map fun p=>AV.tup [.str p.1,.obj p.2.1]))) (hs:∀ p ∈ pq,Has σ p.2.1 (.list (p.2.2.map AV.str))) (few:pq.length ≤ 10) (ht:Has σ tid (.list (tl.map AV.str)))
  (hN:N.Nodup) (hNp:∀ p ∈ pq,p.1 ∈ N) (hN2:∀ x ∈ N,x ∈ tl\/x ∈ pq.map (·.1)) (hdis:∀ p ∈ pq,p.1 ∉ tl) (htl:tl ≠ []) (ht5:tl.length ≤ 5) (hNl:N.length ≤ 20)
  (parts:∀ p ∈ pq,p.2.2.length ≤ 2/\∀ x ∈ p.2.2,x ∈ N) (hL:0 ≤ L/\L ≤ 2) (hW:10000 < W)
  (hB:∀ (s:Str) (ws:List (List Str)),ws.Nodup->(∀ w ∈ ws,Lfp (baseS tl L) (pq.map fun p=>(p.1,p.2.2)) L s w)->ws.length ≤ 40)
  (hQ:∀ did es σ' f,DSt σ σ' did N es f->(∀ s,(f s).Nodup)->(∀ s w,w ∈ f s ↔ Lfp (baseS tl L) (pq.map fun p=>(p.1,p.2.2)) L s w)->Q (.obj did) σ') :
  wp ((mach W 124).F "_law_words" 0 [.obj pid,.obj tid,.int L]) σ Q X:=by
 refine cL rt rfl ?_
 refine fh (f:=AV.str) (ys:=tl) (bb:=true) (EI σ (f0S tl L) tl) (fun j a σ' R=>by obtain ⟨_,_,E⟩:=R; exact ar (E.K.get rfl ht)) (by omega) rfl ⟨[],rfl,rfl,List.nodup_nil,(fun z0 h=>no8 h),.refl⟩ ?_ ?_
 .rintro j x a σ' K' hx ⟨es,rfl,E⟩ hK
  have hel:=E.len
  rw [List.length_take] at hel
  have hfin:fits (es.map fun e:Str × Nat=>AV.tup [.str e.1,.obj e.2]).length = true:=by rw [List.length_map]; exact fitsLe (by omega)
  refine ifd (fun h1=>?_) fun h1=>⟨hfin,hK _ _ (EI.step (rs:=[]) E hx (if_neg fun h=>h1 h.2.2))⟩
  refine ifn (P:=x = "error") (fun h2=>?_) fun h2=>⟨hfin,hK _ _ (EI.step (rs:=[]) E hx (if_neg fun h=>h.2.1 h2))⟩
  exact ⟨hfin,hK _ _ (EI.step (rs:=[[x]]) E hx (if_pos ⟨am hx,h2,h1⟩))⟩
 .rintro a σ1 ⟨es,rfl,E⟩
  rw [List.take_length] at E
  have hel:=E.len
  refine aD (by omega) fun i1 σ2 k2 h2 z0=>?_
  have E:=E.keep k2
  refine fh (f:=fun p:Str × Nat × List Str=>AV.tup [.str p.1,.obj p.2.1]) (ys:=pq) (bb:=true) (EI σ2 (f0S tl L) (pq.map (·.1))) (fun j a σ' R=>by obtain ⟨_,_,E2⟩:=R; exact ar (E2.K.get rfl (E.K.get rfl hp))) (by omega) rfl ⟨[],rfl,rfl,List.nodup_nil,(fun z0 h=>no8 h),.refl⟩ ?_ ?_
  .rintro j p a σ' K' hpj ⟨es2,rfl,E2⟩ hK
   have hel2:=E2.len
   rw [List.length_take,List.length_map] at hel2
   have hpj':(pq.map (·.1))[j]? = some p.1:=by rw [List.getElem?_map,hpj]; rfl
   exact ⟨by rw [List.length_map]; exact fitsLe (by omega),hK _ _ (EI.step (rs:=[]) E2 hpj' (if_neg fun h=>hdis p (am hpj) h.1))⟩
  .rintro a σ3 ⟨es2,rfl,E2⟩
   rw [show pq.length = (pq.map (·.1)).length by rw [List.length_map],List.take_length] at E2
   have hel2:=E2.len
   rw [List.length_map] at hel2
   refine aD (by omega) fun i2 σ4 k4 h4 z0=>?_
   refine fc (k4.get rfl (E2.K.get rfl h2)) h4 (by rw [List.length_map,List.length_map]; omega) fun i3 σ5 k5 h5=>?_
   have E5:=(E.app E2).keep (k4.trans k5)
   rw [<- List.map_append] at h5
   refine rJ h5 (by intro h; have:=congrArg List.length h; rw [List.length_append] at this; have:tl.length ≠ 0:=fun h=>htl (List.eq_nil_of_length_eq_zero h); simp only [List.length_nil] at *; omega) (by rw [List.length_append]; omega) ?_
   have hS:=E5.dst (N:=N) fun x hx=>List.mem_append.mpr (hN2 x hx)
   generalize σ5.length = did at hS
   generalize σ5 ++ [AO.sdict ((es ++ es2).foldl (fun d e=>sset e.1 (.obj e.2) d) [])] = τ at hS
   generalize (es ++ es2).foldl (fun d e=>sset e.1 (.obj e.2) d) ([]:List (Str × AV)) = ds at hS
   clear E5 h5 k5 h4 k4 E2 h2 k2 E hel hel2
   have hcS:∀ f,jm tl L (pq.map fun p=>(p.1,p.2.2)) f->cntS f N ≤ 40 * N.length:=fun f Wf=>rA fun x=>hB x (f x) (Wf.nd x) (Wf.sub x)
   refine mh (γ:=Bool) (fun g=>.put 0 (.obj pid) (.put 2 (.int L) (.put 5 (.obj did) (.put 6 (.bool g) .nil)))) (ua tl L pq N σ did ds) (g0:=true) (n0:=40 * N.length - cntS (f0S tl L) N + 1) (by omega) ⟨_,hS,wayS0,(fun h=>nomatch h),fun z0=>rfl⟩ ?_
   rintro m g σ6 K' ⟨f,S,Wf,hclo,hmeas⟩ hK
   cases g with
   | false=>exact hQ _ ds σ6 f S Wf.nd (nC Wf (hclo rfl))
   | true =>
    have hmeas:=hmeas rfl
    refine ba (γ:=Bool) (f:=fun p:Str × Nat × List Str=>AV.tup [.str p.1,.obj p.2.1]) (ys:=pq) (bb:=true) (fun g=>.put 0 (.obj pid) (.put 2 (.int L) (.put 5 (.obj did) (.put 6 (.bool g) .nil))))
     (ub tl L pq N σ did ds f) (g0:=false) (fun j g σ' R=>by obtain ⟨_,S⟩:=R; exact ar (S.K.get rfl hp)) (by omega) ⟨f,S,Wf,fun z0=>⟨rfl,fun q hq=>nomatch hq⟩,fun h=>nomatch h⟩ ?_ ?_
    .rintro j p g σ7 K7 hpj ⟨f1,S1,W1,hno,hyes⟩ hK7
     have hpm:=am hpj
     obtain ⟨hp2,hpN⟩:=parts p hpm
     obtain ⟨nid,hnid,hnid7,hnidg⟩:=S1.at' p.1 (hNp p hpm)
     have hlw:∀ x w,w ∈ f1 x->(w.length:Int) ≤ L:=fun x w hw=>((W1.sub x w hw).made (P:=fun z0=>True) fun s w hb=>⟨by have:=hb.1.2.2; rw [hb.2]; simp; omega,fun z0 z0=>trivial⟩).1
     have h40:∀ x,(f1 x).length ≤ 40:=fun x=>hB x (f1 x) (W1.nd x) (W1.sub x)
     refine ba (γ:=Nat) (f:=AV.str) (ys:=p.2.2) (bb:=true) (fun rid=>.put 0 (.obj pid) (.put 2 (.int L) (.put 3 (.str p.1) (.put 5 (.obj did) (.put 6 (.bool g) (.put 7 (.obj rid) .nil))))))
      (uf σ7 f1 p.2.2 L) (g0:=σ7.length) (fun j g σ' R=>by obtain ⟨_,k⟩:=R; exact ar (k.get rfl (S1.K.get rfl (hs p hpm)))) (by omega) ⟨[[]],.app _,Nat.le_refl _,an,Nat.le_refl _,fun r=>⟨fun h=>by rw [List.mem_singleton.mp h]; exact ⟨rfl,hL.1⟩,fun h=>by rw [show r = [] from h.1]; exact .head _⟩⟩ ?_ ?_
     .rintro i x rid σ8 K8 hx ⟨R,k8,hz,hR,hRl,hRm⟩ hK8
      have hi2:=(List.getElem?_eq_some_iff.mp hx).1
      have hRl2:R.length ≤ 40:=Nat.le_trans hRl (Nat.pow_le_pow_right (n:=40) (by decide) (show i ≤ 1 by omega))
      obtain ⟨xid,hxid,hxid7,_⟩:=S1.at' x (hpN x (am hx))
      have hx40:=h40 x
      refine oA (f:=rowV) (ys:=R) (zs:=f1 x) (fun u v=>decide ((u.length:Int) + v.length ≤ L)) (fun u v=>rowV (u ++ v)) (bn hR) (Nat.le_trans (Nat.mul_le_mul hx40 hRl2) (by decide)) (by omega) rfl (fun u hu a σ9 K9 ha k9 hK9=>?_) fun σ9 k9=>?_
      .refine fC (k9.get rfl (k8.get rfl S1.hd)) hxid ?_
       have hul:=((hRm u).mp hu).2
       refine fP (f:=rowV) (ys:=f1 x) (fun v=>decide ((u.length:Int) + v.length ≤ L)) (fun v=>rowV (u ++ v)) (bn (k9.get rfl (k8.get rfl hxid7))) (by omega) rfl (fun v hv a σa Ka hf ka h1 h2=>?_) fun σa ka=>hK9 σa ka
       have hvl:=hlw x v hv
       refine bj mw (fitsLe (by omega)) ?_
       refine bj mw (fitsLe (by omega)) ?_
       refine bp (aF (by omega)) ?_
       refine ifd (fun hfit=>?_) fun hfit=>h2 (decide_eq_false hfit) _ .refl
       exact ql (by omega) ⟨hf,h1 (decide_eq_true hfit) _ .refl⟩
      .have he:(R.flatMap fun u=>((f1 x).filter fun v=>decide ((u.length:Int) + v.length ≤ L)).map fun v=>rowV (u ++ v)) = (R.flatMap fun u=>((f1 x).filter fun v=>decide ((u.length:Int) + v.length ≤ L)).map (u ++ ·)).map rowV:=by
        rw [List.map_flatMap]; simp only [List.map_map]; rfl
       rw [he]
       have hlen:(R.flatMap fun u=>((f1 x).filter fun v=>decide ((u.length:Int) + v.length ≤ L)).map (u ++ ·)).length ≤ 40 * R.length:=fq fun u=>by rw [List.length_map]; exact Nat.le_trans (List.length_filter_le _ _) hx40
       refine aD (by omega) fun i4 σa ka ha hza=>hK8 i4 σa ⟨_,(k8.trans k9).trans ka,Nat.le_trans (k8.trans k9).len hza,ha,?_,fun r=>?_⟩
       .rw [Nat.pow_succ,Nat.mul_comm]; exact Nat.le_trans hlen (Nat.mul_le_mul_left 40 hRl)
       .rw [nD hRm,az hx,List.map_append]; rfl
     .rintro rid σ8 ⟨R,k8,hz,hR,hRl,hRm⟩
      rw [List.take_length] at hRm
      have hRl2:R.length ≤ 1600:=Nat.le_trans hRl (Nat.pow_le_pow_right (n:=40) (by decide) hp2)
      have hrn:rid ≠ nid:=Nat.ne_of_gt (Nat.lt_of_lt_of_le (aN hnid7) hz)
      refine ba (γ:=Bool) (f:=rowV) (ys:=R) (bb:=true) (fun g=>.put 0 (.obj pid) (.put 2 (.int L) (.put 3 (.str p.1) (.put 5 (.obj did) (.put 6 (.bool g) .nil)))))
       (uc tl L pq N σ did ds f (f1 = f/\∀ p ∈ pq.take j,mB L f p) p.1 rid R) (g0:=g) (fun j g σ' R=>by obtain ⟨_,_,h⟩:=R; exact ar h) (by omega) ⟨f1,S1.keep k8,hR,W1,fun h=>⟨(hno h).1,hno h,fun w hw=>nomatch hw⟩,hyes⟩ ?_ ?_
      .rintro m r g2 σ9 K9 hr ⟨f2,S2,hR2,W2,hno2,hyes2⟩ hK9
       have hrm:=(hRm r).mp (am hr)
       have hrL:Lfp (baseS tl L) (pq.map fun p=>(p.1,p.2.2)) L p.1 r:=Lfp.clo.rule (p.1,p.2.2) (List.mem_map.mpr ⟨p,hpm,rfl⟩) r ((bV.mp hrm.1).mono fun s w h=>W1.sub s w h) hrm.2
       obtain ⟨nid',hn',hn9,_⟩:=S2.at' p.1 (hNp p hpm)
       rw [hnid] at hn'
       injection hn' with hn'
       injection hn' with hn'
       subst hn'
       have h40':=hB p.1 (f2 p.1) (W2.nd _) (W2.sub _)
       refine fC S2.hd hnid ?_
       refine lM hn9 ?_
       refine ifn (fun hin=>?_) fun hin=>?_
       .refine fC S2.hd hnid ?_
        refine bg hn9 (.inl rfl) ?_
        refine bE hn9 (Nat.zero_le _) (by rw [List.length_map]; omega) fun σa ha pa=>hK9 true σa ⟨putS f2 p.1 (f2 p.1 ++ [r]),S2.put hnid hn9 hnidg pa (by rw [List.map_append]; exact ha),pa.get hrn hR2,W2.add hin hrL,(fun h=>nomatch h),fun z0=>?_⟩
        rw [qe hN (hNp p hpm)]
        cases g2 with
        | false=>rw [(hno2 rfl).1]; exact Nat.lt_succ_self _
        | true=>have:=hyes2 rfl; omega
       .refine hK9 g2 σ9 ⟨f2,S2,hR2,W2,fun h=>?_,hyes2⟩
        obtain ⟨h1,h2,h4⟩:=hno2 h
        refine ⟨h1,h2,fun u hu=>?_⟩
        rw [az hr] at hu
        rcases List.mem_append.mp hu with hu | hu
        .exact h4 u hu
        .rw [List.mem_singleton.mp hu,<- h1]; exact hin
      .rintro g2 σ9 ⟨f2,S2,hR2,W2,hno2,hyes2⟩
       refine hK7 g2 σ9 ⟨f2,S2,W2,fun h=>?_,hyes2⟩
       obtain ⟨h1,h2,h4⟩:=hno2 h
       refine ⟨h1,fun p' hp' w h5 h6=>?_⟩
       rw [az hpj] at hp'
       rcases List.mem_append.mp hp' with hp' | hp'
       .exact h2.2 p' hp' w h5 h6
       .rw [List.mem_singleton.mp hp'] at h5 ⊢
        rw [List.take_length] at h4
        refine h4 w ((hRm w).mpr ⟨bV.mpr ?_,h6⟩)
        rw [h2.1]; exact h5
    .rintro g σ7 ⟨f1,S1,W1,hno,hyes⟩
     have hcl1:=hcS f1 W1
     cases g with
     | false =>
      obtain ⟨rfl,hall⟩:=hno rfl
      rw [List.take_length] at hall
      exact hK 0 false σ7 (by omega) ⟨f1,S1,W1,fun z0=>hall,fun h=>nomatch h⟩
     | true =>
      have:=hyes rfl
      exact hK (40 * N.length - cntS f1 N + 1) true σ7 (by rw [hmeas]; exact Nat.succ_lt_succ (Nat.sub_lt_sub_left (Nat.lt_of_lt_of_le this hcl1) this)) ⟨f1,S1,W1,(fun h=>nomatch h),fun z0=>rfl⟩
theorem lg {σ:ac} {i:Nat} {xs:List AV} {n:Int} {Q:AV->ac->Prop} {X:Prop} (hi:Has σ i (.list xs)) (hn:0 ≤ n) (hl:xs.length ≤ 1000000) (h:∀ j σ',aB σ σ'->Has σ' j (.list (xs.take n.toNat))->Q (.obj j) σ'):wp (sliceTo (.obj i) n) σ Q X:=by
 refine ag (al (decide_eq_true hn) ?_)
 refine ag (aE (a:=xs) (σ':=σ) (by unfold getList; dsimp only; rw [hi]) (ag (al (fitsLe hl) (jl ?_ fun j σ' k hj z0=>h j σ' k hj))))
 rw [List.length_take]
 exact fitsLe (by omega)
theorem ma {σ:ac} {i:Nat} {ys:List Str} {r:Int} {Q:AV->ac->Prop} {X:Prop} (hi:Has σ i (.list (ys.map AV.str))) (h0:0 ≤ r) (h1:r < ys.length) (hl:ys.length ≤ 1000) (h:∀ y ∈ ys,Q (.str y) σ):wp (subscr (.obj i) (.int r)) σ Q X:=by
 have hlt:r.toNat < ys.length:=by omega
 exact aX hi (by omega) (by rw [List.getElem?_map,List.getElem?_eq_getElem hlt]; rfl) (h _ (List.getElem_mem hlt))
theorem aJ (xs:List Str):noT (.list (xs.map AV.str)) = true:=fH (fun z0=>rfl) xs
noncomputable def tupP (p:Str × Nat × List Str):AV:=.tup [.str p.1,.obj p.2.1]
noncomputable def plainP (p:Str × Nat × List Str):Str × List Str:=(p.1,p.2.2)
theorem bO (xs:List (Str × Nat × List Str)):noT (.list (xs.map tupP)) = true:=fH (fun z0=>rfl) xs
structure PQ (σ:ac) (nm:List Str) (pq:List (Str × Nat × List Str)):Prop where
 hs:∀ p ∈ pq,Has σ p.2.1 (.list (p.2.2.map AV.str))
 left:∀ p ∈ pq,p.1 ∈ nm
 part:∀ p ∈ pq,p.2.2.length ≤ 2/\∀ x ∈ p.2.2,x ∈ partN\/x ∈ nm
section
variable {σ τ:ac} {nm:List Str} {pq:List (Str × Nat × List Str)}
theorem PQ.kt (P:PQ σ nm pq) (k:KT σ τ):PQ τ nm pq:=⟨fun p hp=>k.get (aJ _) (P.hs p hp),P.left,P.part⟩
theorem PQ.add (P:PQ σ nm pq) {p:Str × Nat × List Str} (h1:Has σ p.2.1 (.list (p.2.2.map AV.str))) (h2:p.1 ∈ nm) (h3:p.2.2.length ≤ 2/\∀ x ∈ p.2.2,x ∈ partN\/x ∈ nm):PQ σ nm (pq ++ [p]):=by
 refine ⟨fun q hq=>?_,fun q hq=>?_,fun q hq=>?_⟩ <;> (rcases List.mem_append.mp hq with hq | hq)
 .exact P.hs q hq
 .rw [List.mem_singleton.mp hq]; exact h1
 .exact P.left q hq
 .rw [List.mem_singleton.mp hq]; exact h2
 .exact P.part q hq
 .rw [List.mem_singleton.mp hq]; exact h3
end
inductive rX (σ:ac) (t N:Nat) (nm:List Str) (i:Nat) (a:List AV) (σ':ac):Prop
 | mk (xs:List Str) (ha:a = xs.map AV.str) (hl:xs.length = i) (hx:∀ x ∈ xs,x ∈ partN\/x ∈ nm) (T:aC t (N + i) σ') (k:KT σ σ')
inductive tM (σ:ac) (t N:Nat) (nm:List Str) (j:Nat) (a:List AV) (σ':ac):Prop
 | mk (pq:List (Str × Nat × List Str)) (ha:a = pq.map tupP) (hf:pq.map (·.1) = nm.take j) (P:PQ σ' nm pq) (T:aC t (N + 3 * j) σ') (k:KT σ σ')
inductive tN (t N pid nid:Nat) (nm:List Str) (j:Nat) (σ':ac):Prop
 | mk (pq:List (Str × Nat × List Str)) (hp:Has σ' pid (.list (pq.map tupP))) (hl:pq.length ≤ 2 + j) (hq:∃ q,pq.map (·.1) = nm ++ q) (hne:∀ p ∈ pq,p.2.1 ≠ pid) (P:PQ σ' nm pq) (T:aC t (N + 4 * j) σ') (hn:Has σ' nid (.list (nm.map AV.str)))
inductive dD (σ:ac) (g:Nat->List (List Int)) (j:Nat) (a:List AV) (σ':ac):Prop
 | mk (ids:List Nat) (k:aB σ σ') (ha:a = ids.map AV.obj) (hl:ids.length = j) (h:∀ (i id:Nat),ids[i]? = some id->Has σ' id (.list ((g i).map wordV)))
theorem dD.step {σ σ' σ2:ac} {g:Nat->List (List Int)} {j id:Nat} {ids:List Nat} (k:aB σ σ') (hl:ids.length = j) (h:∀ (i id:Nat),ids[i]? = some id->Has σ' id (.list ((g i).map wordV))) (k2:aB σ' σ2) (hi:Has σ2 id (.list ((g j).map wordV))):dD σ g (j + 1) (ids.map AV.obj ++ [AV.obj id]) σ2:=by
 refine ⟨ids ++ [id],k.trans k2,by rw [List.map_append]; rfl,by rw [List.length_append,hl]; rfl,fun i id' h'=>?_⟩
 by_cases hlt:i < ids.length
 .rw [List.getElem?_append_left hlt] at h'
  exact k2.get rfl (h i id' h')
 .have hi':i = ids.length:=by
   have:=(List.getElem?_eq_some_iff.mp h').1
   rw [List.length_append,List.length_singleton] at this; omega
  subst hi'
  rw [List.getElem?_append_right (Nat.le_refl _),Nat.sub_self] at h'
  injection h' with h'
  subst h'
  rw [hl]
  exact hi
inductive ur (σ:ac) (g:Nat->List (List Int)) (n:Nat) (a:List AV) (σ':ac):Prop
 | mk (R:dD σ g n a σ')
theorem dD.at {σ' τ:ac} {g g':Nat->List (List Int)} {n:Nat} {ids:List Nat} (hl:ids.length = n) (h:∀ (i id:Nat),ids[i]? = some id->Has σ' id (.list ((g i).map wordV))) (k:KT σ' τ) (he:∀ i,i < n->g i = g' i):cb τ ids ((List.range n).map g'):=by
 refine ⟨by rw [List.length_map,List.length_range]; exact hl,fun i id p h1 h2=>?_⟩
 have hi:i < n:=by have:=(List.getElem?_eq_some_iff.mp h1).1; omega
 rw [List.getElem?_map,List.getElem?_range hi] at h2
 injection h2 with h2
 rw [<- h2,<- he i hi]
 exact k.get (eP _) (h i id h1)
theorem kO {σ:ac} {i j:Nat} {a b:List (List Int)} (hi:Has σ i (.list (a.map wordV))) (hj:Has σ j (.list (b.map wordV))) (e:a = b):eqV σ (.obj i) (.obj j) = some true:=by
 subst e
 unfold eqV
 dsimp only
 rw [hi,hj]
 dsimp only
 unfold eqL
 rw [if_neg (by simp),fM]
 simp
end Mine.Internal
end
section
set_option backward.match.sparseCases false
namespace Mine.Internal
open PySem (Str)
theorem cS {a b:List (List Int)} (h:a.Perm b):sortW a = sortW b:=ec ((dJ a).trans h) (cw a)
noncomputable def acc:Str := "$accept"
noncomputable def endN:Str := "$end"
theorem iY {ns:List Str} {x y:Str} (hx:x ∈ ns) (hy:y ∈ ns) (e:idxN ns x = idxN ns y):x = y:=by
 have e':ns.idxOf x = ns.idxOf y:=by unfold idxN at e; omega
 have h1:=List.getElem_idxOf (List.idxOf_lt_length_of_mem hx)
 have h2:=List.getElem_idxOf (List.idxOf_lt_length_of_mem hy)
 rw [<- h1,<- h2]
 simp only [e']
theorem pS {ns:List Str} {x:Str} (hx:x ∈ ns):0 ≤ idxN ns x/\idxN ns x < ns.length:=⟨Int.natCast_nonneg _,by have:=List.idxOf_lt_length_of_mem hx; unfold idxN; omega⟩
theorem ej {ns:List Str} (hn:ns.Nodup) {i:Nat} {x:Str} (h:ns[i]? = some x):idxN ns x = i:=by
 obtain ⟨hi,rfl⟩:=List.getElem?_eq_some_iff.mp h
 unfold idxN
 rw [hn.idxOf_getElem i hi]
theorem gi {ns:List Str}:∀ {u v:List Str},(∀ x ∈ u,x ∈ ns)->(∀ x ∈ v,x ∈ ns)->u.map (idxN ns) = v.map (idxN ns)->u = v
 | [],[],_,_,_=>rfl
 | [],_ :: _,_,_,e=>by contradiction
 | _ :: _,[],_,_,e=>by contradiction
 | x :: u,y :: v,h1,h2,e=>by
  injection e with e1 e2
  rw [iY (h1 x (.head _)) (h2 y (.head _)) e1,gi (fun z hz=>h1 z (.tail _ hz)) (fun z hz=>h2 z (.tail _ hz)) e2]
noncomputable def rulesS (ps:List (Str × List Str)):List (Str × List Str):=(acc,[("s" : Str),endN]) :: ps
noncomputable def rulesN (nt lf:List Str) (ps:List (Str × List Str)):List (Int × List Int):=((nt.length:Int),[idxN (nsOf nt lf) "s", 0]) :: ps.map fun p=>(idxN (nsOf nt lf) p.1,p.2.map (idxN (nsOf nt lf)))
section
variable {ps:List (Str × List Str)} {nt lf:List Str} {L:Int}
theorem aL.mem (M:aL ps nt lf) {x:Str}:x ∈ nsOf nt lf ↔ x ∈ nt\/x = acc\/x ∈ lf:=by
 unfold nsOf
 rw [List.mem_append,List.mem_append,List.mem_singleton,or_assoc]; rfl
theorem aL.get_nt (M:aL ps nt lf) {i:Nat} {x:Str} (h:nt[i]? = some x):(nsOf nt lf)[i]? = some x:=by
 have:=(List.getElem?_eq_some_iff.mp h).1
 unfold nsOf
 rw [List.append_assoc,List.getElem?_append_left this]; exact h
theorem aL.idx_acc (M:aL ps nt lf):idxN (nsOf nt lf) acc = nt.length:=by
 refine ej M.nd ?_
 unfold nsOf
 rw [List.append_assoc,List.getElem?_append_right (Nat.le_refl _),Nat.sub_self]; rfl
theorem aL.idx_end (M:aL ps nt lf):idxN (nsOf nt lf) endN = 0:=by
 obtain ⟨ex,rfl,_⟩:=M.own
 exact ej M.nd (M.get_nt (i:=0) rfl)
theorem aL.idx_err (M:aL ps nt lf):idxN (nsOf nt lf) "error" = 1:=by
 obtain ⟨ex,rfl,_⟩:=M.own
 exact ej M.nd (M.get_nt (i:=1) rfl)
theorem aL.err (M:aL ps nt lf):("error" : Str) ∈ nt/\endN ∈ nt:=by
 obtain ⟨ex,rfl,_⟩:=M.own
 exact ⟨List.mem_append_left _ (by decide),List.mem_append_left _ (by decide)⟩
theorem aL.idx_nt (M:aL ps nt lf) {x:Str} (hx:x ∈ nsOf nt lf):idxN (nsOf nt lf) x < nt.length ↔ x ∈ nt:=by
 constructor
 .intro h
  have h1:=List.getElem_idxOf (List.idxOf_lt_length_of_mem hx)
  have hlt:(nsOf nt lf).idxOf x < nt.length:=by unfold idxN at h; omega
  have h2:=M.get_nt (List.getElem?_eq_getElem hlt)
  rw [List.getElem?_eq_getElem (List.idxOf_lt_length_of_mem hx),h1] at h2
  injection h2 with h2
  rw [h2]
  exact List.getElem_mem _
 .intro h
  obtain ⟨i,hi⟩:=List.getElem?_of_mem h
  rw [ej M.nd (M.get_nt hi)]
  have:=(List.getElem?_eq_some_iff.mp hi).1
  omega
theorem aL.base (M:aL ps nt lf) {x:Str} (hx:x ∈ nsOf nt lf) {v:List Int}:baseI nt.length L (idxN (nsOf nt lf) x) v ↔ ∃ w,v = w.map (idxN (nsOf nt lf))/\baseS nt L x w:=by
 have he:idxN (nsOf nt lf) x = 1 ↔ x = "error" := ⟨fun h=>iY hx (M.mem.mpr (.inl M.err.1)) (h.trans M.idx_err.symm),fun h=>by rw [h]; exact M.idx_err⟩
 unfold baseI baseS
 constructor
 .rintro ⟨⟨h1,h2,h3,h4⟩,rfl⟩
  exact ⟨[x],rfl,⟨(M.idx_nt hx).mp h2,fun e=>h3 (he.mpr e),h4⟩,rfl⟩
 .rintro ⟨w,rfl,⟨h1,h2,h3⟩,rfl⟩
  exact ⟨⟨(pS hx).1,(M.idx_nt hx).mpr h1,fun e=>h2 (he.mp e),h3⟩,rfl⟩
theorem aL.rules (M:aL ps nt lf) (hs:("s" : Str) ∈ lf):rulesN nt lf ps = (rulesS ps).map fun r=>(idxN (nsOf nt lf) r.1,r.2.map (idxN (nsOf nt lf))):=by
 unfold rulesN rulesS
 rw [List.map_cons,M.idx_acc,List.map_cons,List.map_cons,M.idx_end]; rfl
theorem aL.rule_mem (M:aL ps nt lf) (hs:("s" : Str) ∈ lf) {r:Str × List Str} (hr:r ∈ rulesS ps):r.1 ∈ nsOf nt lf/\∀ x ∈ r.2,x ∈ nsOf nt lf:=by
 rcases List.mem_cons.mp hr with rfl | hr
 .refine ⟨M.mem.mpr (.inr (.inl rfl)),fun x hx=>?_⟩
  rcases List.mem_cons.mp hx with rfl | hx
  .exact M.mem.mpr (.inr (.inr hs))
  .rw [List.mem_singleton.mp hx]; exact M.mem.mpr (.inl M.err.2)
 .exact ⟨M.mem.mpr (.inr (.inr (M.left r hr))),fun x hx=>M.mem.mpr ((M.part r hr x hx).imp id .inr)⟩
theorem aL.both (M:aL ps nt lf) (hs:("s" : Str) ∈ lf) {x:Str} (hx:x ∈ nsOf nt lf) {v:List Int} :
  Lfp (baseI nt.length L) (rulesN nt lf ps) L (idxN (nsOf nt lf) x) v ↔ ∃ w,v = w.map (idxN (nsOf nt lf))/\Lfp (baseS nt L) (rulesS ps) L x w:=by
 constructor
 .intro h
  refine h (fun t v=>∀ x ∈ nsOf nt lf,idxN (nsOf nt lf) x = t->∃ w,v = w.map (idxN (nsOf nt lf))/\Lfp (baseS nt L) (rulesS ps) L x w) ⟨?_,?_⟩ x hx rfl
  .rintro t v hb x hx rfl
   obtain ⟨w,e,hw⟩:=(M.base hx).mp hb
   exact ⟨w,e,Lfp.clo.base _ _ hw⟩
  .intro r hr v hc hl x hx e
   rw [M.rules hs] at hr
   obtain ⟨q,hq,rfl⟩:=List.mem_map.mp hr
   obtain ⟨hq1,hq2⟩:=M.rule_mem hs hq
   have:∀ (rr:List Str) (v:List Int),(∀ y ∈ rr,y ∈ nsOf nt lf)->dU (fun t v=>∀ x ∈ nsOf nt lf,idxN (nsOf nt lf) x = t->∃ w,v = w.map (idxN (nsOf nt lf))/\Lfp (baseS nt L) (rulesS ps) L x w) (rr.map (idxN (nsOf nt lf))) v->∃ w,v = w.map (idxN (nsOf nt lf))/\dU (Lfp (baseS nt L) (rulesS ps) L) rr w:=by
    intro rr
    induction rr with
    | nil=>exact fun v z0 h=>⟨[],h,rfl⟩
    | cons y rr ih =>
     rintro v hy ⟨a,b,h1,h2,rfl⟩
     obtain ⟨w1,rfl,h3⟩:=h1 y (hy y (.head _)) rfl
     obtain ⟨w2,rfl,h4⟩:=ih b (fun z hz=>hy z (.tail _ hz)) h2
     exact ⟨w1 ++ w2,by rw [List.map_append],w1,w2,h3,h4,rfl⟩
   obtain ⟨w,rfl,hw⟩:=this q.2 v hq2 hc
   rw [iY hx hq1 e]
   exact ⟨w,rfl,Lfp.clo.rule q hq w hw (by rw [List.length_map] at hl; exact hl)⟩
 .rintro ⟨w,rfl,h⟩
  have:x ∈ nsOf nt lf->Lfp (baseI nt.length L) (rulesN nt lf ps) L (idxN (nsOf nt lf) x) (w.map (idxN (nsOf nt lf))):=by
   refine h (fun x w=>x ∈ nsOf nt lf->Lfp (baseI nt.length L) (rulesN nt lf ps) L (idxN (nsOf nt lf) x) (w.map (idxN (nsOf nt lf)))) ⟨fun s w hb hs=>Lfp.clo.base _ _ ((M.base hs).mpr ⟨w,rfl,hb⟩),fun r hr w hc hl hr1=>?_⟩
   obtain ⟨hq1,hq2⟩:=M.rule_mem hs hr
   refine Lfp.clo.rule (idxN (nsOf nt lf) r.1,r.2.map (idxN (nsOf nt lf))) (by rw [M.rules hs]; exact List.mem_map.mpr ⟨r,hr,rfl⟩) _ ?_ (by rw [List.length_map]; exact hl)
   have:∀ (rr w:List Str),(∀ y ∈ rr,y ∈ nsOf nt lf)->dU (fun x w=>x ∈ nsOf nt lf->Lfp (baseI nt.length L) (rulesN nt lf ps) L (idxN (nsOf nt lf) x) (w.map (idxN (nsOf nt lf)))) rr w->dU (Lfp (baseI nt.length L) (rulesN nt lf ps) L) (rr.map (idxN (nsOf nt lf))) (w.map (idxN (nsOf nt lf))):=by
    intro rr
    induction rr with
    | nil=>intro w _ h; rw [show w = [] from h]; rfl
    | cons y rr ih =>
     rintro w hy ⟨a,b,h1,h2,rfl⟩
     exact ⟨a.map _,b.map _,h1 (hy y (.head _)),ih b (fun z hz=>hy z (.tail _ hz)) h2,List.map_append⟩
   exact this r.2 w hq2 hc
  exact this hx
theorem aL.boundI (M:aL ps nt lf) (hL:L ≤ 2) {R:List (Int × List Int)} (s:Int) (ws:List (List Int)) (h1:ws.Nodup) (h2:∀ w ∈ ws,Lfp (baseI nt.length L) R L s w):ws.length ≤ 40:=by
 have hA:((List.range nt.length).map fun i:Nat=>(i:Int)).length ≤ 5:=by rw [List.length_map,List.length_range]; exact M.tc
 have hsub:∀ w ∈ ws,w ∈ allW ((List.range nt.length).map fun i:Nat=>(i:Int)):=fun w hw=>by
  obtain ⟨h3,h4⟩:=(h2 w hw).made (P:=fun x:Int=>0 ≤ x/\x < (nt.length:Int)) fun s w hb=>⟨by have:=hb.1.2.2.2; rw [hb.2]; simp; omega,fun x hx=>by rw [hb.2] at hx; rw [List.mem_singleton.mp hx]; exact ⟨hb.1.1,hb.1.2.1⟩⟩
  refine kj (by omega) fun x hx=>?_
  obtain ⟨h5,h6⟩:=h4 x hx
  exact List.mem_map.mpr ⟨x.toNat,List.mem_range.mpr (by omega),by omega⟩
 have:=h1.length_le_of_subset hsub
 have:=kF hA (Nat.le_refl _)
 omega
theorem aL.madeS (M:aL ps nt lf) {R:List (Str × List Str)} {s:Str} {w:List Str} (h:Lfp (baseS nt L) R L s w):(w.length:Int) ≤ L/\∀ x ∈ w,x ∈ nt :=
 h.made (P:=fun x=>x ∈ nt) fun s w hb=>⟨by have:=hb.1.2.2; rw [hb.2]; simp; omega,fun x hx=>by rw [hb.2] at hx; rw [List.mem_singleton.mp hx]; exact hb.1.1⟩
theorem aL.boundS (M:aL ps nt lf) (hL:L ≤ 2) {R:List (Str × List Str)} (s:Str) (ws:List (List Str)) (h1:ws.Nodup) (h2:∀ w ∈ ws,Lfp (baseS nt L) R L s w):ws.length ≤ 40:=by
 have hsub:∀ w ∈ ws,w ∈ allW nt:=fun w hw=>by
  obtain ⟨h3,h4⟩:=M.madeS (h2 w hw)
  exact kj (by omega) h4
 have:=h1.length_le_of_subset hsub
 have:=kF (A:=nt) M.tc (Nat.le_refl _)
 omega
noncomputable def dueN (ns:List Str) (f:Str->List (List Str)) (i:Int):List (List Int):=(f (ns.getD i.toNat "")).map fun w=>w.map (idxN ns)
theorem aL.due (M:aL ps nt lf) (hs:("s" : Str) ∈ lf) {f:Str->List (List Str)} (hn:∀ s,(f s).Nodup) (hf:∀ s w,w ∈ f s ↔ Lfp (baseS nt L) (rulesS ps) L s w) {i:Nat} {x:Str} (hx:(nsOf nt lf)[i]? = some x) :
  dueN (nsOf nt lf) f i = (f x).map (fun w=>w.map (idxN (nsOf nt lf)))/\(dueN (nsOf nt lf) f i).Nodup/\∀ v,v ∈ dueN (nsOf nt lf) f i ↔ Lfp (baseI nt.length L) (rulesN nt lf ps) L i v:=by
 have e:dueN (nsOf nt lf) f i = (f x).map (fun w=>w.map (idxN (nsOf nt lf))):=by
  unfold dueN
  rw [Int.toNat_natCast,List.getD_eq_getElem?_getD,hx]; rfl
 have hxm:=am hx
 have hnt:∀ w ∈ f x,∀ y ∈ w,y ∈ nsOf nt lf:=fun w hw y hy=>M.mem.mpr (.inl ((M.madeS ((hf x w).mp hw)).2 y hy))
 refine ⟨e,?_,fun v=>?_⟩
 .rw [e]
  unfold List.Nodup
  rw [List.pairwise_map]
  exact (hn x).imp_of_mem fun ha hb hne he=>hne (gi (hnt _ ha) (hnt _ hb) he)
 .rw [e,List.mem_map,<- ej M.nd hx,M.both hs hxm]
  exact ⟨fun ⟨w,h1,h2⟩=>⟨w,h2.symm,(hf x w).mp h1⟩,fun ⟨w,h1,h2⟩=>⟨w,(hf x w).mpr h2,h1.symm⟩⟩
end
theorem kX {f g:Int->List (List Int)} {n:Nat} (h:∀ i:Nat,i < n->(f (i:Int)).length ≤ (g (i:Int)).length):cnt f n ≤ cnt g n:=by
 induction n with
 | zero=>exact Nat.le_refl _
 | succ n ih =>
  have:=ih fun i hi=>h i (by omega)
  have:=h n (by omega)
  rw [bD,bD]; omega
end Mine.Internal
end
section
set_option backward.match.sparseCases false
namespace Mine.Internal
open PySem (Str Expr Stmt Const Operator CmpOp BoolOp UnaryOp Scope NameKind Comprehension Arguments Pos)
set_option maxHeartbeats 4000000 in
theorem dI {t N:Nat} {σ:ac} {Q:AV->ac->Prop} {X:Prop} (T:aC t N σ) (hN:N < 700000000) (hW:10000 < W)
  (h:∀ σ',Q (.bool true) σ'):wp ((mach W 127).F "_law_grammar_right" 0 [.obj t]) σ Q X:=by
 refine cL tX rfl ?_
 refine aH (T.keep (.app (.list [.str "s", .str "t"]))) (by omega) (by decide) (Nat.zero_le _) fun r σ1 hr0 hr1 T1 k1=>?_
 refine bp (aF (by omega)) ?_
 refine lg (k1.get rfl an) (by omega) (by decide) fun nid σ2 k2 hn2=>?_
 obtain ⟨nm,hnm,hnm2,hnl⟩ : ∃ nm:List Str,[AV.str "s", AV.str "t"].take (1 + r).toNat = nm.map AV.str/\(nm = [("s" : Str)]\/nm = [("s" : Str), "t"])/\(1 ≤ nm.length/\nm.length ≤ 2):=by
  rcases (show r = 0\/r = 1 by omega) with rfl | rfl
  .exact ⟨[("s" : Str)],rfl,.inl rfl,by decide⟩
  .exact ⟨[("s" : Str), "t"],rfl,.inr rfl,by decide⟩
 rw [hnm] at hn2
 have T2:=T1.keep k2
 clear hnm hr0 hr1 T T1 k1 k2
 refine fh (f:=AV.str) (ys:=nm) (bb:=true) (tM σ2 t (N + 1) nm) (fun j a σ' R=>by obtain ⟨_,_,_,_,_,k⟩:=R; exact ar (k.get (aJ _) hn2)) (by omega) rfl ⟨[],rfl,rfl,⟨(fun z0 h=>no8 h),(fun z0 h=>no8 h),(fun z0 h=>no8 h)⟩,T2,.refl⟩ ?_ ?_
 .rintro j x a σ3 K3 hx ⟨pq,rfl,hpf,P,T3,k3⟩ hK3
  have hj:=(List.getElem?_eq_some_iff.mp hx).1
  have hpl:pq.length ≤ 2:=by have:=congrArg List.length hpf; rw [List.length_map,List.length_take] at this; omega
  refine aH T3 (by omega) (by decide) (Nat.zero_le _) fun r4 σ4 hq0 hq1 T4 k4=>?_
  refine ca (by omega) ?_
  refine mi (rX σ4 t (N + 1 + 3 * j + 1) nm) (by omega) rfl ⟨[],rfl,rfl,(fun z0 h=>no8 h),T4,.refl⟩ ?_ ?_
  .rintro i a σ5 K5 hi2 ⟨xs,rfl,hxl,hxs,T5,k5⟩ hK5
   have hn5:=k5.get (aJ _) (k4.get (aJ _) (k3.get (aJ _) hn2))
   refine fc an (ao hn5) (by rw [List.length_map]; show 3 + nm.length ≤ _; omega) fun i6 σ6 k6 h6=>?_
   have hn6:=k6.get rfl (ao hn5)
   have kk:=(KP.app (p:=allO) (.list [AV.str "a", .str "b", .str "error"])).trans k6
   refine bj (bJ hn6) (by rw [List.length_map]; exact fitsLe (by omega)) ?_
   rw [List.length_map]
   refine bp (aF (by omega)) ?_
   refine aH (T5.keep kk) (by omega) (by omega) (Nat.zero_le _) fun r7 σ7 hs0 hs1 T7 k7=>?_
   have h6':Has σ6 i6 (.list ((partN ++ nm).map AV.str)):=by rw [List.map_append]; exact h6
   refine ma (k7.get (aJ _) h6') hs0 (by rw [List.length_append]; show _ < ((3 + nm.length:Nat):Int); omega) (by rw [List.length_append]; show 3 + nm.length ≤ _; omega) fun y hy=>?_
   refine ⟨by rw [List.length_map]; exact fitsLe (by omega),hK5 _ σ7 ⟨xs ++ [y],by rw [List.map_append]; rfl,by rw [List.length_append,hxl]; rfl,fun z hz=>?_,T7,(k5.trans (.kt kk)).trans k7⟩⟩
   rcases List.mem_append.mp hz with hz | hz
   .exact hxs z hz
   .rw [List.mem_singleton.mp hz]; exact List.mem_append.mp hy
  .rintro a σ5 ⟨xs,rfl,hxl,hxs,T5,k5⟩
   refine aD (by omega) fun pid σ6 k6 h6 z0=>⟨by rw [List.length_map]; exact fitsLe (by omega),hK3 _ σ6 ⟨pq ++ [(x,pid,xs)],by rw [List.map_append]; rfl,by rw [List.map_append,hpf,az hx]; rfl,?_,(T5.keep k6).up (by omega),((k3.trans k4).trans k5).trans (.kt k6)⟩⟩
   exact (P.kt ((k4.trans k5).trans (.kt k6))).add h6 (am hx) ⟨by show xs.length ≤ 2; omega,hxs⟩
 .rintro a σ3 ⟨pq,rfl,hpf,P,T3,k3⟩
  rw [List.take_length] at hpf
  have hpl:pq.length ≤ 2:=by have:=congrArg List.length hpf; rw [List.length_map] at this; omega
  have hn3:=k3.get (aJ _) hn2
  refine aD (by omega) fun pid σ4 k4 hp4 hz4=>?_
  refine aH (T3.keep k4) (by omega) (by decide) (Nat.zero_le _) fun r5 σ5 hq0 hq1 T5 k5=>?_
  have hne4:∀ p ∈ pq,p.2.1 ≠ pid:=fun p hp=>Nat.ne_of_lt (Nat.lt_of_lt_of_le (aN (P.hs p hp)) hz4)
  have hnp:nid ≠ pid:=Nat.ne_of_lt (Nat.lt_of_lt_of_le (aN hn3) hz4)
  have k45:=(KP.kt k4).trans k5
  have P5:=P.kt k45
  have hn5:=k45.get (aJ _) hn3
  have hp5:=k5.get (bO _) hp4
  have T5:=T5.up (M:=N + 20) (by omega)
  clear P hn3 hp4 k4 k5 k45 T3 k3 T2 hn2 hz4
  refine ca (by omega) ?_
  refine iG (γ:=Unit) (fun z0=>.put 0 (.obj t) (.put 1 (.obj nid) (.put 3 (.obj pid) .nil))) (fun j z0 σ'=>tN t (N + 20) pid nid nm j σ') (g0:=()) (by omega) ⟨pq,hp5,by omega,⟨[],by rw [hpf,List.append_nil]⟩,hne4,P5,T5,hn5⟩ ?_ ?_
  .rintro j _ σ6 K6 hj ⟨pq,hp6,hpl6,⟨qs,hpf⟩,hne6,P6,T6,hn6⟩ hK6
   refine bj (bJ hn6) (by rw [List.length_map]; exact fitsLe (by omega)) ?_
   rw [List.length_map]
   refine aH T6 (by omega) (by omega) (Nat.zero_le _) fun r7 σ7 hs0 hs1 T7 k7=>?_
   refine ma (k7.get (aJ _) hn6) hs0 hs1 (by omega) fun x hxm=>?_
   refine aH T7 (by omega) (by decide) (Nat.zero_le _) fun r8 σ8 hu0 hu1 T8 k8=>?_
   have k8:=k7.trans k8
   have hp8:=k8.get (bO _) hp6
   have hn8:=k8.get (aJ _) hn6
   have P8:=P6.kt k8
   refine bg hp8 (.inl rfl) ?_
   refine ca (by omega) ?_
   refine mi (rX σ8 t (N + 20 + 4 * j + 2) nm) (by omega) rfl ⟨[],rfl,rfl,(fun z0 h=>no8 h),T8,.refl⟩ ?_ ?_
   .rintro i a σ9 K9 hi2 ⟨xs,rfl,hxl,hxs,T9,k9⟩ hK9
    have hn9:=k9.get (aJ _) hn8
    refine fc (ao hn9) an (by rw [List.length_map]; show nm.length + 2 ≤ _; omega) fun ia σa ka ha=>?_
    have hna:=ka.get rfl (ao hn9)
    have kk:=(KP.app (p:=allO) (.list [AV.str "a", .str "b"])).trans ka
    refine bj (bJ hna) (by rw [List.length_map]; exact fitsLe (by omega)) ?_
    rw [List.length_map]
    refine bp (aF (by omega)) ?_
    refine aH (T9.keep kk) (by omega) (by omega) (Nat.zero_le _) fun rb σb hv0 hv1 Tb kb=>?_
    have ha':Has σa ia (.list ((nm ++ [("a" : Str), "b"]).map AV.str)):=by rw [List.map_append]; exact ha
    refine ma (kb.get (aJ _) ha') hv0 (by rw [List.length_append]; show _ < ((nm.length + 2:Nat):Int); omega) (by rw [List.length_append]; show nm.length + 2 ≤ _; omega) fun y hy=>?_
    refine ⟨by rw [List.length_map]; exact fitsLe (by omega),hK9 _ σb ⟨xs ++ [y],by rw [List.map_append]; rfl,by rw [List.length_append,hxl]; rfl,fun z hz=>?_,Tb,(k9.trans (.kt kk)).trans kb⟩⟩
    rcases List.mem_append.mp hz with hz | hz
    .exact hxs z hz
    .rw [List.mem_singleton.mp hz]
     rcases List.mem_append.mp hy with h | h
     .exact .inr h
     .exact .inl ((by decide:∀ z ∈ [("a" : Str), "b"],z ∈ partN) _ h)
   .rintro a σ9 ⟨xs,rfl,hxl,hxs,T9,k9⟩
    refine aD (by omega) fun qid σa ka ha hza=>?_
    have k9:=k9.trans (.kt ka)
    have hpa:=k9.get (bO _) hp8
    have hqp:qid ≠ pid:=Nat.ne_of_gt (Nat.lt_of_lt_of_le (aN (‹KT σ8 σ9›.get (bO _) hp8)) hza)
    have Pa:=P8.kt k9
    refine bE hpa (Nat.zero_le _) (by rw [List.length_map]; omega) fun σb hb pb=>hK6 () σb ⟨pq ++ [(x,qid,xs)],by rw [List.map_append]; exact hb,by rw [List.length_append]; show pq.length + 1 ≤ _; omega,⟨qs ++ [x],by rw [List.map_append,hpf,List.append_assoc]; rfl⟩,fun p hp=>?_,?_,(((T9.keep ka).put (fun e=>?_) pb)).up (by omega),pb.get hnp (k9.get (aJ _) hn8)⟩
    .rcases List.mem_append.mp hp with hp | hp
     .exact hne6 p hp
     .rw [List.mem_singleton.mp hp]; exact hqp
    .have Pb:PQ σb nm pq:=⟨fun p hp=>pb.get (hne6 p hp) (Pa.hs p hp),Pa.left,Pa.part⟩
     exact Pb.add (pb.get hqp ha) hxm ⟨by show xs.length ≤ 2; omega,hxs⟩
    .subst e
     induction T9 using aC.casesOn with | mk d s n _ hd =>
     have h1:=Option.some.inj ((ka.get rfl hd).symm.trans hpa)
     have:=bO pq
     rw [<- h1] at this
     exact nomatch this
  .rintro _ σ6 ⟨pq,hp6,hpl6,⟨qs,hpf⟩,hne6,P6,T6,hn6⟩
   have hpl5:pq.length ≤ 5:=by omega
   have T6:=T6.up (M:=N + 40) (by omega)
   clear hp5 hne4 P5 T5 hn5 hpl hn6 hpl6
   have hqN:∀ p ∈ pq,p.1 ∈ leftN:=fun p hp=>by
    have:=P6.left p hp
    rcases hnm2 with rfl | rfl
    .exact List.mem_append_left _ this
    .exact this
   have hnmq:∀ x ∈ nm,x ∈ pq.map (·.1):=fun x hx=>by rw [hpf]; exact List.mem_append_left _ hx
   have hhead:∃ p0 r0,pq = p0 :: r0/\p0.1 = "s" := by
    cases pq with
    | nil=>have:=congrArg List.length hpf; rw [List.length_append] at this; simp only [List.map_nil,List.length_nil] at this; omega
    | cons p0 r0 =>
     refine ⟨p0,r0,rfl,?_⟩
     rcases hnm2 with rfl | rfl <;> (injection hpf)
   have hparts:=P6.part
   have hps6:=P6.hs
   clear hnm2 hpf hnl P6
   refine fh (f:=tupP) (ys:=pq) (bb:=true) (fun j a σ'=>aB σ6 σ'/\∃ pq2:List (Str × Nat × List Str),A3 (a = pq2.map tupP) (pq2.map plainP = (pq.take j).map plainP) (∀ p ∈ pq2,Has σ' p.2.1 (.list (p.2.2.map AV.str)))) (fun j a σ' R=>ar (R.1.get rfl hp6)) (by omega) rfl ⟨.refl,[],rfl,rfl,fun z0 h=>nomatch h⟩ ?_ ?_
   .rintro j p a σ7 K7 hp ⟨k7,pq2,rfl,hpp2,hps2⟩ hK7
    have hl2:pq2.length ≤ 5:=by have:=congrArg List.length hpp2; rw [List.length_map,List.length_map,List.length_take] at this; omega
    have hpm:=am hp
    refine lX (by rfl) (ar (k7.get rfl (hps6 p hpm))).1 (by rw [List.length_map]; exact fitsLe (by have:=(hparts p hpm).1; omega)) ?_
    refine ⟨by rw [List.length_map]; exact fitsLe (by omega),hK7 _ _ ⟨k7.trans (.app _),pq2 ++ [(p.1,σ7.length,p.2.2)],by rw [List.map_append]; rfl,by rw [List.map_append,hpp2,az hp,List.map_append]; rfl,fun q hq=>?_⟩⟩
    rcases List.mem_append.mp hq with hq | hq
    .exact ao (hps2 q hq)
    .rw [List.mem_singleton.mp hq]; exact an
   .rintro a σ7 ⟨k7,pq2,rfl,hpp2,hps2⟩
    rw [List.take_length] at hpp2
    have hl2:pq2.length = pq.length:=by have:=congrArg List.length hpp2; rw [List.length_map,List.length_map] at this; omega
    refine aD (by omega) fun qid σ8 k8 hq8 z0=>?_
    have hback:∀ p ∈ pq2,∃ q ∈ pq,q.1 = p.1/\q.2.2 = p.2.2:=fun p hp=>by
     have:plainP p ∈ pq.map plainP:=by rw [<- hpp2]; exact List.mem_map.mpr ⟨p,hp,rfl⟩
     obtain ⟨q,hq,e⟩:=List.mem_map.mp this
     exact ⟨q,hq,(Prod.mk.inj (show (q.1,q.2.2) = (p.1,p.2.2) from e)).1,(Prod.mk.inj (show (q.1,q.2.2) = (p.1,p.2.2) from e)).2⟩
    have hf2:pq2.map (·.1) = pq.map (·.1):=by
     have:=congrArg (List.map Prod.fst) hpp2
     rw [List.map_map,List.map_map] at this
     exact this
    have h0:∃ p r,pq2 = p :: r/\p.1 = "s" := by
     obtain ⟨p0,r0,e,e2⟩:=hhead
     cases pq2 with
     | nil=>rw [e] at hl2; exact nomatch hl2
     | cons p r =>
      refine ⟨p,r,rfl,?_⟩
      rw [e] at hf2
      injection hf2 with hf2
      exact hf2.trans e2
    refine lA (pq:=pq2) (s0 := "s") ⟨hq8,fun p hp=>k8.get rfl (hps2 p hp),by omega,fun p hp=>?_,fun p hp=>?_⟩ h0 ?_
    .obtain ⟨q,hq,e,_⟩:=hback p hp
     exact e ▸ hqN q hq
    .obtain ⟨q,hq,_,e⟩:=hback p hp
     rw [<- e]
     exact ⟨Nat.le_trans (hparts q hq).1 (by decide),fun x hx=>((hparts q hq).2 x hx).imp id fun h=>by rw [hf2]; exact hnmq x h⟩
    intro gid nid2 rid at' nt lf rq σ9 k9 M G hrq
    have k9:=k7.trans (k8.trans k9)
    have hps:pq2.map (fun p=>(p.1,p.2.2)) = pq.map plainP:=hpp2
    rw [hps] at M
    have hsl:("s" : Str) ∈ lf:=by
     obtain ⟨p0,r0,e,e2⟩:=hhead
     have:=M.left (plainP p0) (by rw [e]; exact .head _)
     rw [<- e2]; exact this
    have hrN:rulesI rq = rulesN nt lf (pq.map plainP):=by
     unfold rulesI rulesN
     rw [hrq,<- hpp2,List.map_map]; rfl
    clear hrq hps h0 hf2 hback hq8 k8 hl2 hps2 hpp2 k7 hhead hnmq hqN
    have ht5:=M.tc
    have hl5:=M.ln
    have hnsl:(nsOf nt lf).length = nt.length + 1 + lf.length:=by unfold nsOf; rw [List.length_append,List.length_append]; rfl
    refine aH (T6.keep k9) (by omega) (by decide) (Nat.zero_le _) fun L σa hL0 hL1 Ta ka=>?_
    have G:=G.keep (fun z0 z0=>rfl) (aJ _) (ck _ _) ka
    have hpa:=ka.get (bO _) (k9.get rfl hp6)
    have hpsa:∀ p ∈ pq,Has σa p.2.1 (.list (p.2.2.map AV.str)):=fun p hp=>ka.get (aJ _) (k9.get rfl (hps6 p hp))
    clear hp6 hps6 T6 k9 ka hne6
    refine fc (xs:=[.tup [.str "$accept", .obj σa.length]]) an (ao (ao hpa)) (by rw [List.length_map]; show 1 + pq.length ≤ _; omega) fun ib σb kb hb=>?_
    have hab:Has σb σa.length (.list ([("s" : Str),endN].map AV.str)):=kb.get rfl (ao an)
    have kb:=(KP.app (p:=allO) (.list [.str "s", .str "$end"])).trans ((KP.app _).trans kb)
    have gk:∀ {σ'},aB σa σ'->cg σ' gid nid2 rid at' ((nsOf nt lf).map AV.str) nt.length rq (idxN (nsOf nt lf) "s"):=fun K=>G.keep (fun z0 z0=>rfl) rfl rfl K
    refine ay (gk kb).obj (by rfl) G.hn ?_
    refine ay (gk kb).obj (by rfl) G.ht ?_
    refine lg (gk kb).names (Int.natCast_nonneg _) (by rw [List.length_map]; omega) fun tid σc kc hc=>?_
    have htake:((nsOf nt lf).map AV.str).take (nt.length:Int).toNat = nt.map AV.str:=by
     rw [Int.toNat_natCast,<- List.map_take]
     unfold nsOf
     rw [List.append_assoc,List.take_left']
     rfl
    rw [htake] at hc
    have hcons:∀ {P:Str × Nat × List Str->Prop},P (acc,σa.length,[("s" : Str),endN])->(∀ p ∈ pq,P p)->∀ p ∈ (acc,σa.length,[("s" : Str),endN]) :: pq,P p:=fun h1 h2 p hp=>by
     rcases List.mem_cons.mp hp with rfl | hp
     .exact h1
     .exact h2 p hp
    refine lz (pq:=(acc,σa.length,[("s" : Str),endN]) :: pq) (tl:=nt) (N:=nsOf nt lf) (kc.get rfl hb) (hcons (kc.get rfl hab) fun p hp=>kc.get rfl (kb.get rfl (hpsa p hp))) (by rw [List.length_cons]; omega) hc M.nd
     (hcons (M.mem.mpr (.inr (.inl rfl))) fun p hp=>M.mem.mpr (.inr (.inr (M.left (plainP p) (List.mem_map.mpr ⟨p,hp,rfl⟩))))) (fun x hx=>?_) (hcons (fun h=>?_) fun p hp h=>?_) ?_ M.tc (by omega)
     (hcons ⟨Nat.le_refl 2,fun x hx=>?_⟩ fun p hp=>⟨(hparts p hp).1,fun x hx=>?_⟩) (by omega) hW (fun s ws h1 h2=>M.boundS (by omega) s ws h1 h2) ?_
    .rcases M.mem.mp hx with h | rfl | h
     .exact .inl h
     .exact .inr (.head _)
     .have:=M.lf2 x h
      rw [List.map_map] at this
      exact .inr (.tail _ this)
    .have:=M.nd
     unfold nsOf at this
     rw [List.append_assoc,List.nodup_append] at this
     exact this.2.2 acc h acc (.head _) rfl
    .have:=M.nd
     unfold nsOf at this
     rw [List.append_assoc,List.nodup_append] at this
     exact this.2.2 p.1 h p.1 (.tail _ (M.left (plainP p) (List.mem_map.mpr ⟨p,hp,rfl⟩))) rfl
    .intro e
     have:=M.err.1
     rw [e] at this; exact nomatch this
    .rcases List.mem_cons.mp hx with rfl | hx
     .exact M.mem.mpr (.inr (.inr hsl))
     .rw [List.mem_singleton.mp hx]; exact M.mem.mpr (.inl M.err.2)
    .exact M.mem.mpr ((M.part (plainP p) (List.mem_map.mpr ⟨p,hp,rfl⟩) x hx).imp id .inr)
    intro did es σd f S hfn hfm
    rw [show ((acc,σa.length,[("s" : Str),endN]) :: pq).map (fun p=>(p.1,p.2.2)) = rulesS (pq.map plainP) from rfl] at hfm
    have kd:=kb.trans (kc.trans S.K)
    have Gd:=gk kd
    have Td:=Ta.keep kd
    clear hcons htake hc kc hab hb kb gk hpsa hpa Ta G kd hparts
    have hDue:=fun {i:Nat} {x:Str} (hx:(nsOf nt lf)[i]? = some x)=>M.due hsl hfn hfm hx
    have hfd:∀ x ∈ nsOf nt lf,∃ id,es.lookup x = some (.obj id)/\Has σd id (.list ((f x).map rowV)):=fun x hx=>let ⟨i,h1,h2,_⟩:=S.at' x hx; ⟨i,h1,h2⟩
    have hdd:=S.hd
    have hf40:∀ x,(f x).length ≤ 40:=fun x=>M.boundS (by omega) x (f x) (hfn x) fun w hw=>(hfm x w).mp hw
    have hfN:∀ x,∀ w ∈ f x,w.length ≤ 2/\∀ y ∈ w,y ∈ nsOf nt lf:=fun x w hw=>by
     obtain ⟨h1,h2⟩:=M.madeS ((hfm x w).mp hw)
     exact ⟨by omega,fun y hy=>M.mem.mpr (.inl (h2 y hy))⟩
    have hBI:∀ (s:Int) (ws:List (List Int)),ws.Nodup->(∀ w ∈ ws,Lfp (baseI nt.length L) (rulesI rq) L s w)->ws.length ≤ 40:=fun s ws h1 h2=>M.boundI (by omega) s ws h1 h2
    have hst0:("s" : Str) ∈ nsOf nt lf:=M.mem.mpr (.inr (.inr hsl))
    rw [<- hrN] at hDue
    clear S M hfn hfm hrN hsl
    generalize nsOf nt lf = ns at *
    have gk:∀ {σ'},aB σd σ'->cg σ' gid nid2 rid at' (ns.map AV.str) nt.length rq (idxN ns "s"):=fun K=>Gd.keep (fun z0 z0=>rfl) rfl rfl K
    have hL40:∀ i:Nat,i < ns.length->(dueN ns f i).length ≤ 40:=fun i hi=>by
     rw [(hDue (List.getElem?_eq_getElem hi)).1,List.length_map]; exact hf40 _
    refine ay Gd.obj (by rfl) Gd.hn ?_
    refine fh (f:=AV.str) (ys:=ns) (bb:=true) (dD σd fun i=>sortW (dueN ns f i)) (fun j a σ' R=>by obtain ⟨_,k⟩:=R; exact ar (gk k).names) (by omega) rfl ⟨[],.refl,rfl,rfl,fun i id h=>nomatch h⟩ ?_ ?_
    .rintro j x a σe Ke hx ⟨ids,ke,rfl,hidl,hids⟩ hKe
     have hj:=(List.getElem?_eq_some_iff.mp hx).1
     obtain ⟨e1,e2,_⟩:=hDue hx
     obtain ⟨xid,hxid,hxidd⟩:=hfd x (am hx)
     have hx40:=hf40 x
     refine fC (ke.get rfl hdd) hxid ?_
     refine fg (f:=rowV) (ys:=f x) (fun w=>wordV (w.map (idxN ns))) (bn (ke.get rfl hxidd)) (by omega) rfl (fun u hu σg Kg kg hKg=>?_) fun σg kg=>?_
     .obtain ⟨hu2,huN⟩:=hfN x u hu
      refine fg (f:=AV.str) (ys:=u) (fun y=>.int (idxN ns y)) mo (by omega) rfl (fun y hy σi Ki ki hKi=>?_) fun σi ki=>?_
      .have Gi:=gk ((ke.trans kg).trans ki)
       refine iB Gi.obj (by rfl) (Gi.meth _ (by decide)) ?_
       exact jC Gi.obj Gi.hn Gi.names (fitsLe (by omega)) (List.contains_iff_mem.mpr (huN y hy)) (hKi _ .refl)
      .refine aD (by omega) fun i2 σk kk hk z0=>jh hk (by rw [List.length_map]; exact fitsLe (by omega)) ?_
       rw [show AV.tup (u.map fun y=>AV.int (idxN ns y)) = wordV (u.map (idxN ns)) by unfold wordV; rw [List.map_map]; rfl]
       exact hKg σk (ki.trans kk)
     .refine aD (by omega) fun i2 σk kk hk z0=>?_
      have hk':Has σk i2 (.list ((dueN ns f j).map wordV)):=by rw [e1,List.map_map]; exact hk
      have:=hL40 j hj
      refine gD (by rfl) (ar hk').1 (by omega) e2 ⟨by rw [List.length_map]; exact fitsLe (by omega),hKe _ _ (dD.step ke hidl hids ((kg.trans kk).trans (.app _)) an)⟩ (by rw [bC]; exact fitsLe (by omega))
    rintro a σe ⟨ids,ke,rfl,hidl,hids⟩
    refine aD (by omega) fun dd σg kg hdg z0=>?_
    have hidg:∀ (i id:Nat),ids[i]? = some id->Has σg id (.list ((sortW (dueN ns f i)).map wordV)):=fun i id h=>kg.get rfl (hids i id h)
    have ke:=ke.trans kg
    clear hids kg hfN hf40 hdd hfd
    have hids2:ids = (List.range ns.length).map fun i=>ids.getD i 0:=by
     refine List.ext_getElem (by rw [List.length_map,List.length_range,hidl]) fun i h1 h2=>?_
     rw [List.getElem_map,List.getElem_range,List.getD_eq_getElem?_getD,List.getElem?_eq_getElem h1]; rfl
    have hgi:∀ i,i < ns.length->ids[i]? = some (ids.getD i 0):=fun i h=>by
     rw [List.getD_eq_getElem?_getD,List.getElem?_eq_getElem (by omega)]; rfl
    refine fg (f:=fun i=>AV.obj (ids.getD i 0)) (ys:=List.range ns.length) (fun m=>.int ((dueN ns f (m:Int)).length:Int)) (bn (by have h:=hdg; rw [hids2,List.map_map] at h; exact h)) (by rw [List.length_range]; omega) rfl (fun i hi σi Ki ki hKi=>?_) fun σi ki=>?_
    .have hlt:=List.mem_range.mp hi
     have:=hL40 i hlt
     refine bj (bJ (ki.get rfl (hidg i _ (hgi i hlt)))) (by rw [List.length_map,bC]; exact fitsLe (by omega)) ?_
     rw [List.length_map,bC]
     exact hKi _ .refl
    refine aD (by rw [List.length_range]; omega) fun i2 σk kk hk z0=>?_
    have hcl:=jd (f:=dueN ns f) (n:=ns.length) (B:=40) hL40
    refine qj (xs:=(List.range ns.length).map fun m:Nat=>((dueN ns f (m:Int)).length:Int)) (by rw [hk,List.map_map]; rfl) (fun x hx=>?_) (by rw [List.length_map,List.length_range]; exact fitsLe (by omega)) (by rw [fF]; exact aF (by omega)) ?_
    .obtain ⟨m,hm,rfl⟩:=List.mem_map.mp hx
     have:=hL40 m (List.mem_range.mp hm)
     omega
    rw [fF]
    have ki:=ki.trans kk
    refine iF (fun v σ'=>∃ M:Int,A3 (v = .int M) (0 ≤ M) (KT σk σ')) (fun K' hK=>?_) ?_
    .refine aH (Td.keep (ke.trans ki)) (by omega) (by decide) (Nat.zero_le _) fun rl σl hw0 hw1 Tl kl=>?_
     refine bp (aF (by omega)) ?_
     refine fD (aF (by omega)) ?_
     refine rS ?_
     exact hK _ _ ⟨max 0 ((cnt (dueN ns f) ns.length:Int) + rl - 1),rfl,by omega,kl⟩
    rintro _ σl ⟨most,rfl,hM0,kl⟩
    have Gl:=(gk (ke.trans ki)).keep (fun z0 z0=>rfl) (aJ _) (ck _ _) kl
    have hll:σl.length ≠ 0:=Nat.ne_of_gt (Nat.lt_of_le_of_lt (Nat.zero_le _) (aN Gl.obj))
    have hdl:=kl.get (ck (fun i=>i) ids) (ki.get rfl hdg)
    have hidk:=(KP.kt ki).trans kl
    clear Gd Td gk ke ki kl hk kk hids2 hdg hL40
    have hxl:(ns.map AV.str).length = ns.length:=List.length_map _
    have hperm:∀ (g:Int->List (List Int)),(∀ s,(g s).Nodup)->(∀ s w,w ∈ g s ↔ Lfp (baseI nt.length L) (rulesI rq) L s w)->∀ i:Nat,i < ns.length->(g i).Perm (dueN ns f i):=fun g h1 h2 i hi=>by
     obtain ⟨_,e2,e3⟩:=hDue (List.getElem?_eq_getElem hi)
     exact (List.perm_ext_iff_of_nodup (h1 i) e2).mpr fun w=>by rw [h2,e3]
    have hcnt1:∀ (g:Int->List (List Int)),(∀ s,(g s).Nodup)->(∀ s w,w ∈ g s ↔ Lfp (baseI nt.length L) (rulesI rq) L s w)->cnt (dueN ns f) ns.length ≤ cnt g ns.length:=fun g h1 h2=>kX fun i hi=>Nat.le_of_eq (hperm g h1 h2 i hi).length_eq.symm
    have hcnt2:∀ (g:Int->List (List Int)),(∀ s,(g s).Nodup)->(∀ s w,w ∈ g s->Lfp (baseI nt.length L) (rulesI rq) L s w)->cnt g ns.length ≤ cnt (dueN ns f) ns.length:=fun g h1 h2=>kX fun i hi=>(h1 i).length_le_of_subset fun w hw=>by
     obtain ⟨_,e2,e3⟩:=hDue (List.getElem?_eq_getElem hi)
     rw [e3]; exact h2 i w hw
    have hst:0 ≤ idxN ns "s" /\ idxN ns "s" < ((ns.map AV.str).length:Int):=by
     rw [hxl]; exact pS hst0
    clear hDue hst0
    refine And.intro rfl (And.intro (by rfl) (And.intro hll ?_))
    refine jD (.inl rfl) Gl (Nat.le_refl _) hM0 (by omega) hW hBI (fun vid vids σm g Sm hgn hgm hgc=>?_) fun g hgn hgs hgc=>?_
    .rw [hxl] at hgc Sm
     have htot:=hcnt1 g hgn hgm
     have km:=Sm.K
     have gk:∀ {σ'},aB σl σ'->cg σ' gid nid2 rid at' (ns.map AV.str) nt.length rq (idxN ns "s"):=fun K=>Gl.keep (fun z0 z0=>rfl) rfl rfl K
     refine And.intro rfl (And.intro (by rfl) (And.intro (by have:=km.len; omega) ?_))
     refine eF (.inl rfl) (gk km) hst (Nat.le_refl _) hM0 (by omega) hW hBI (fun sid σo g2 ko hsid hgn2 hgm2 hgc2=>?_) fun g2 hgn2 hgs2 hgc2=>?_
     .refine ifd (fun hgt=>by omega) fun z0=>?_
      have hvl:=Sm.hl
      have kmo:=km.trans ko
      refine fh (f:=AV.obj) (ys:=vids) (bb:=true) (dD σo fun i=>sortW (g i)) (fun j a σ' R=>by obtain ⟨_,k⟩:=R; exact ar (k.get rfl (ko.get rfl Sm.hv))) (by omega) rfl ⟨[],.refl,rfl,rfl,fun i id h=>nomatch h⟩ ?_ ?_
      .rintro j vj a σp Kp hvj ⟨ids2,kp,rfl,hidl2,hids2⟩ hKp
       have hj:=(List.getElem?_eq_some_iff.mp hvj).1
       have hg40:=hBI j (g j) (hgn j) fun w=>(hgm j w).mp
       exact gD (by rfl) (br (kp.get rfl (ko.get rfl (Sm.at' j vj hvj).1))).1 (by omega) (hgn j) ⟨by rw [List.length_map]; exact fitsLe (by omega),hKp _ _ (dD.step kp hidl2 hids2 (.app _) an)⟩ (by rw [bC]; exact fitsLe (by omega))
      .rintro a σp ⟨ids2,kp,rfl,hidl2,hids2⟩
       refine aD (by omega) fun i3 σq kq hq z0=>?_
       have kz:=kmo.trans (kp.trans kq)
       have hl1:=dD.at (g':=fun i=>sortW (dueN ns f i)) (hidl2.trans hvl) hids2 (.kt kq) fun i hi=>cS (hperm g hgn hgm i hi)
       have hl2:=dD.at (g':=fun i=>sortW (dueN ns f i)) hidl hidg (hidk.trans (.kt kz)) fun i hi=>rfl
       refine js (kP hq (kz.get rfl hdl) hl1 hl2) ?_
       refine ay (gk kz).obj (by rfl) Gl.hs ?_
       have hsi:(idxN ns "s").toNat < ns.length:=by rw [hxl] at hst; omega
       have hsc:(((idxN ns "s").toNat:Nat):Int) = idxN ns "s" := by omega
       refine aX (kz.get rfl hdl) (by rw [hxl] at hst; omega +splitDisjunctions) (by rw [List.getElem?_map,hgi _ hsi]; rfl) ?_
       have hp2:=hperm g2 hgn2 hgm2 _ hsi
       rw [hsc] at hp2
       have hdz:=kz.get rfl (hidk.get (eP _) (hidg _ _ (hgi _ hsi)))
       rw [hsc] at hdz
       have hsz:=kq.get rfl (kp.get rfl hsid)
       refine js (kO hsz hdz (cS hp2)) ?_
       refine eF (.inr ⟨rfl,rfl⟩) (gk kz) hst (Nat.zero_le _) (by decide) (by omega) hW hBI (fun sid3 σr g3 kr hsid3 hgn3 hgm3 hgc3=>?_) fun g3 hgn3 hgs3 hgc3=>?_
       .have hp3:=hperm g3 hgn3 hgm3 _ hsi
        rw [hsc] at hp3
        refine js (kO hsid3 (kr.get rfl hsz) (cS (hp3.trans hp2.symm))) ?_
        exact h _
       .rw [hxl] at hgc3
        have:=hcnt2 g3 hgn3 hgs3
        omega
     .rw [hxl] at hgc2
      have:=hcnt2 g2 hgn2 hgs2
      omega
    .rw [hxl] at hgc
     have htot:=hcnt2 g hgn hgs
     refine And.intro rfl (And.intro (by rfl) (And.intro hll ?_))
     refine eF (.inl rfl) Gl hst (Nat.le_refl _) hM0 (by omega) hW hBI (fun sid σo g2 ko hsid hgn2 hgm2 hgc2=>?_) fun g2 hgn2 hgs2 hgc2=>?_
     .rw [hxl] at hgc2
      have:=hcnt1 g2 hgn2 hgm2
      omega
     .refine ifd (fun z0=>?_) fun hgt=>by omega
      exact h σl
theorem im {ws:List (List Int)} (h1:ws.Nodup) (h2:∀ w ∈ ws,Cat ([[[1]]]:List (List (List Int))) w/\(w.length:Int) ≤ 1):ws.length ≤ 1:=h1.length_le_of_subset (l₂:=[[1]]) fun w hw=>by
 rw [List.mem_singleton.mp (eu.mp (h2 w hw).1)]; exact .head _
theorem oN {xs:List Int} (hl:xs.length ≤ 63) (hb:∀ x ∈ xs,x.natAbs.log2 ≤ 1048576) (hW:10000 < W):wp ((mach W 130).F "law" 0 [.frz xs]) [] (fun v z0=>v = .bool true) False:=by
 refine cL tB rfl ?_
 refine mR hl hb fun t σ1 T k=>?_
 refine lZ (w:=[1]) (ws:=[]) an (Nat.zero_le _) (by decide) fun σ2 h2 p2=>?_
 have k2:aB σ1 (σ2 ++ [.list [.obj σ1.length]]):=((KP.app (.wset [])).put (Nat.le_refl _) p2).trans (.app _)
 have h2':Has (σ2 ++ [.list [.obj σ1.length]]) σ1.length (.wset [[1]]):=ao h2
 have h3:Has (σ2 ++ [.list [.obj σ1.length]]) σ2.length (.list [.obj σ1.length]):=an
 refine dn (.inl rfl) (qs:=[(σ1.length,[[1]])]) (ps:=[[[1]]]) ⟨h3,fun q hq=>by rw [List.mem_singleton.mp hq]; exact h2',Nat.le_of_ble_eq_true rfl,fun q hq=>by rw [List.mem_singleton.mp hq]; exact Nat.le_of_ble_eq_true rfl,fun q hq w hw=>by rw [List.mem_singleton.mp hq] at hw; rw [List.mem_singleton.mp hw]; exact Nat.le_of_ble_eq_true rfl⟩ rfl (Nat.zero_le _) (by decide) (by decide) (fun ws h1 h2=>Nat.le_trans (im h1 h2) (by decide)) (fun r ws σ3 k3 z0 h4 hn3 hm3 z0=>?_) fun ws h1 h2 h3=>by have:=im h1 h2; omega
 refine lZ (w:=[1]) (ws:=[]) an (Nat.zero_le _) (by decide) fun σ4 h5 p4=>?_
 have k4:aB σ3 σ4:=(KP.app (.wset [])).put (Nat.le_refl _) p4
 refine oo (gw (k4.get rfl h4) h5 hn3 (by decide) fun w=>?_) ?_
 .rw [hm3 w]
  constructor
  .rintro ⟨h,_⟩
   rw [List.mem_singleton.mp (eu.mp h)]; exact .head _
  .intro h
   rw [List.mem_singleton.mp (show w ∈ [[1]] from h)]
   exact ⟨eu.mpr (.head _),by decide⟩
 refine ca (by decide) ?_
 refine iG (γ:=Unit) (fun z0=>.put 1 (.obj t) .nil) (fun j z0 σ'=>aC t (100 * j) σ') (g0:=()) (by decide) (T.keep (k2.trans (k3.trans k4))) ?_ ?_
 .rintro j _ σ5 K' hj T5 hK
  have hj3:j < 3:=hj
  refine fv T5 (by omega) fun σ6 T6 k6=>?_
  exact hK () σ6 (T6.up (by omega))
 .rintro _ σ5 T5
  exact dI T5 (by decide) hW fun σ'=>rfl
theorem pure_law (xs:List Int) (hl:xs.length ≤ 63) (hb:∀ x ∈ xs,x.natAbs.log2 ≤ 1048576):∃ W n σ',n ≤ 150/\(mach W n).F "law" 0 [.frz xs] [] = .ok (.bool true) σ':=by
 obtain ⟨a,σ',e,rfl⟩:=sx (oN hl hb (by decide))
 exact ⟨W,130,σ',by decide,e⟩
end Mine.Internal
end
theorem PySem.Challenge.cw_qd0058_01_holds : PySem.Challenge.rw_qd0058_01.Holds :=
 Mine.Internal.final Mine.Internal.sorted_ok Mine.Internal.few_ok Mine.Internal.pure_law
